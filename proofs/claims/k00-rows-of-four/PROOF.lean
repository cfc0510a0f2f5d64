import PyProof.Rows.All
import Wide.All
import OpenK.AllK
import Wide.FinOn
import HandS.ForMost
import HandS.Exc
import HandS.TryOnly
import HandS.TryMany
import HandS.ExcOwn
import HandS.WordsExc
import HandS.Defaults
import HandS.TupAny
import HandS.Flow
import HandS.Small
import HandS.IsInst
import HandS.Conv
import HandS.SortInts
import HandS.Flt
import HandS.Style
import HandS.Deep
import KE.DataEq
import KE.DataCmp
import KE.DataMinMax
import KE.DataFind
import KE.KTupSum
import KE.SortData
import HandS.CallSlots
import HandS.Property
import HandS.ExcInit
import HandS.ExcField
import HandS.More
import HandS.Head0
import HandS.Head1
import HandS.Head2
import HandS.HeadEnd
import HandS.HeadHook1
import HandS.HeadHook2
import HandS.Codes
import KE.KStateDown
import HandS.Ends
import HandS.Words
import PySem.Challenge.RW_bentlines_k00_rows_of_four
set_option Elab.async false
set_option linter.all false
set_option maxRecDepth 100000
set_option maxHeartbeats 1000000
namespace VL
open PySem PySem.Spec PyProof.Rows L2

/-! ### data -/
inductive D where
  | non | bl (b : Bool) | int (i : Int) | str (x : Str)
  | tup (xs : List D) | lst (xs : List D)
  | dct (ks vs : List D)
  | ins (c : Nat) (ns : List Nat) (vs : List D)
  | scr (ns : List Int) | ty (n : Nat) | cls (c : Nat)
/-- built-in types by number -/
def tyS : Nat → String
  | 0 => "int" | 1 => "bool" | 2 => "str" | 3 => "list" | 4 => "tuple" | 5 => "dict" | 6 => "NoneType" | _ => "object"

/-- the names of attributes by number; where the classes stand; the written part -/
structure Wo where
  K : PySem.W.Frag
  cl : Nat → Addr
  fnm : Nat → Str

mutual
inductive Rep (W : Wo) (F : Hp) : D → V → Prop
  | non : Rep W F .non .non
  | bl {b} : Rep W F (.bl b) (.bl b)
  | int {i} : Rep W F (.int i) (.int i)
  | str {x} : Rep W F (.str x) (.str x)
  | tup {ds a vs} : SqT W.K F a vs → Reps W F ds vs → Rep W F (.tup ds) (.ref a)
  | lst {ds a vs} : F a = some (.lst vs) → Reps W F ds vs → Rep W F (.lst ds) (.ref a)
  | scr {ns a} : SqL W.K F a (ns.map V.int) → Rep W F (.scr ns) (.ref a)
  | ty {n} : Rep W F (.ty n) (.ty (tyS n))
  | cls {c} : Rep W F (.cls c) (.ref (W.cl c))
  | ins {c ns ds a dx fs} : F a = some (.ins (W.cl c) dx fs) → RepF W F ns ds fs → Rep W F (.ins c ns ds) (.ref a)
inductive Reps (W : Wo) (F : Hp) : List D → List V → Prop
  | nil : Reps W F [] []
  | cons {d v ds vs} : Rep W F d v → Reps W F ds vs → Reps W F (d :: ds) (v :: vs)
inductive RepF (W : Wo) (F : Hp) : List Nat → List D → List (Str × V) → Prop
  | nil : RepF W F [] [] []
  | cons {n d v ns ds fs} : Rep W F d v → RepF W F ns ds fs → RepF W F (n :: ns) (d :: ds) ((W.fnm n, v) :: fs)
end

theorem Same.seqT {K : PySem.W.Frag} {H H' : Hp} {a : Addr} {xs : List V} (e : Same H H') (h : SqT K H a xs) : SqT K H' a xs := by
  rcases h with (h | ⟨o, h⟩) | h
  · exact .inl (.inl (e _ _ h))
  · exact .inl (.inr ⟨o, e _ _ h⟩)
  · exact .inr h

mutual
theorem Rep.mono {W : Wo} {F F' : Hp} (s : Same F F') : ∀ {d : D} {v : V}, Rep W F d v → Rep W F' d v
  | _, _, .non => .non
  | _, _, .bl => .bl
  | _, _, .int => .int
  | _, _, .str => .str
  | _, _, .tup h r => .tup (Same.seqT s h) (Reps.mono s r)
  | _, _, .lst h r => .lst (s _ _ h) (Reps.mono s r)
  | _, _, .scr h => .scr (s.seq h)
  | _, _, .ty => .ty
  | _, _, .cls => .cls
  | _, _, .ins h r => .ins (s _ _ h) (RepF.mono s r)
theorem Reps.mono {W : Wo} {F F' : Hp} (s : Same F F') : ∀ {d : List D} {v : List V}, Reps W F d v → Reps W F' d v
  | _, _, .nil => .nil
  | _, _, .cons a b => .cons (Rep.mono s a) (Reps.mono s b)
theorem RepF.mono {W : Wo} {F F' : Hp} (s : Same F F') : ∀ {ns : List Nat} {d : List D} {v : List (Str × V)}, RepF W F ns d v → RepF W F' ns d v
  | _, _, _, .nil => .nil
  | _, _, _, .cons a b => .cons (Rep.mono s a) (RepF.mono s b)
end

section
variable {W : Wo} {F : Hp}
theorem Reps.length : ∀ {ds : List D} {vs : List V}, Reps W F ds vs → ds.length = vs.length
  | _, _, .nil => rfl
  | _, _, .cons _ b => by rw [List.length_cons, List.length_cons, Reps.length b]
theorem Reps.append : ∀ {ds es : List D} {vs ws : List V}, Reps W F ds vs → Reps W F es ws → Reps W F (ds ++ es) (vs ++ ws)
  | _, _, _, _, .nil, h => h
  | _, _, _, _, .cons a b, h => .cons a (Reps.append b h)
theorem Reps.get : ∀ {ds : List D} {vs : List V} {i : Nat} {d : D}, Reps W F ds vs → ds[i]? = some d → ∃ v, vs[i]? = some v ∧ Rep W F d v
  | _, _, i, _, .nil, h => by simp at h
  | _, _, 0, d, .cons a b, h => by
    simp at h
    exact ⟨_, rfl, h ▸ a⟩
  | _, _, i + 1, d, .cons a b, h => by
    obtain ⟨v, h1, h2⟩ := Reps.get (i := i) (d := d) b (by simpa using h)
    exact ⟨v, by simpa using h1, h2⟩
theorem Reps.getV : ∀ {ds : List D} {vs : List V} {i : Nat} {v : V}, Reps W F ds vs → vs[i]? = some v → ∃ d, ds[i]? = some d ∧ Rep W F d v
  | _, _, i, _, .nil, h => by simp at h
  | _, _, 0, d, .cons a b, h => by
    simp at h
    exact ⟨_, rfl, h ▸ a⟩
  | _, _, i + 1, d, .cons a b, h => by
    obtain ⟨v, h1, h2⟩ := Reps.getV (i := i) (v := d) b (by simpa using h)
    exact ⟨v, by simpa using h1, h2⟩
theorem Reps.set {d : D} {v : V} (r : Rep W F d v) : ∀ {ds : List D} {vs : List V} (i : Nat), Reps W F ds vs → Reps W F (ds.set i d) (vs.set i v)
  | _, _, _, .nil => .nil
  | _, _, 0, .cons _ b => .cons r b
  | _, _, i + 1, .cons a b => .cons a (Reps.set r i b)
theorem Reps.take : ∀ {ds : List D} {vs : List V} (n : Nat), Reps W F ds vs → Reps W F (ds.take n) (vs.take n)
  | _, _, 0, _ => .nil
  | _, _, _ + 1, .nil => .nil
  | _, _, n + 1, .cons a b => .cons a (Reps.take n b)
theorem Reps.drop : ∀ {ds : List D} {vs : List V} (n : Nat), Reps W F ds vs → Reps W F (ds.drop n) (vs.drop n)
  | _, _, 0, h => h
  | _, _, _ + 1, .nil => .nil
  | _, _, n + 1, .cons a b => Reps.drop n b
theorem Reps.reverse {ds : List D} {vs : List V} (h : Reps W F ds vs) : Reps W F ds.reverse vs.reverse := by
  induction ds generalizing vs with
  | nil => cases h; exact .nil
  | cons d ds ih =>
    cases h with
    | cons a b =>
      rw [List.reverse_cons, List.reverse_cons]
      exact (ih b).append (.cons a .nil)
theorem Reps.dropLast : ∀ {ds : List D} {vs : List V}, Reps W F ds vs → Reps W F ds.dropLast vs.dropLast := by
  intro ds vs h
  rw [List.dropLast_eq_take, List.dropLast_eq_take, h.length]
  exact h.take _
theorem Reps.ints : ∀ (ns : List Int), Reps W F (ns.map D.int) (ns.map V.int)
  | [] => .nil
  | _ :: r => .cons .int (Reps.ints r)
end

/-! ### slots -/
inductive Slot where
  | un | va (d : D) | ow (d : D) | io (d : D) | bo (d : D) | er
def Slot.wr : Slot → Bool
  | .ow _ => true
  | .io _ => true
  | _ => false
abbrev Sl := List Slot
abbrev Sg := L2.St

/-- the object at a is this, tracked, its parts frozen -/
def OwnAt (W : Wo) (F H : Hp) : D → Addr → Prop
  | .lst ds, a => ∃ vs, H a = some (.lst vs) ∧ Reps W F ds vs
  | .ins c ns ds, a => ∃ dx fs, H a = some (.ins (W.cl c) dx fs) ∧ RepF W F ns ds fs
  | _, _ => False
/-- frozen, or an owned thing of somebody's -/
def RepB (W : Wo) (F H : Hp) (d : D) (v : V) : Prop := Rep W F d v ∨ ∃ a, v = V.ref a ∧ F a = none ∧ OwnAt W F H d a
/-- the slot's object at a is not frozen -/
def Slot.mutAt (W : Wo) (F : Hp) (t : Slot) (a : Addr) : Prop := match t with
  | .ow _ => True
  | .io _ => True
  | .bo d => ¬ Rep W F d (V.ref a)
  | _ => False
theorem Slot.mutAt.anti {W : Wo} {F F' : Hp} {t : Slot} {a : Addr} (s : Same F F') (h : t.mutAt W F' a) : t.mutAt W F a := by
  cases t with
  | bo d => exact fun r => h (r.mono s)
  | _ => exact h
theorem Slot.wr_mut {W : Wo} {F : Hp} {t : Slot} {a : Addr} (h : t.wr = true) : t.mutAt W F a := by
  cases t <;> first | exact trivial | cases h

def SlotOk (W : Wo) (F H : Hp) : Slot → Option (Option V) → Prop
  | .un, _ => True
  | .er, _ => True
  | .va d, o => ∃ v, o = some (some v) ∧ Rep W F d v
  | .ow d, o => ∃ a, o = some (some (V.ref a)) ∧ F a = none ∧ OwnAt W F H d a
  | .io d, o => ∃ a, o = some (some (V.ref a)) ∧ F a = none ∧ OwnAt W F H d a
  | .bo d, o => ∃ v, o = some (some v) ∧ RepB W F H d v

theorem OwnAt.mono {W : Wo} {F F' H H' : Hp} {d : D} {a : Addr} (s : Same F F') (h : OwnAt W F H d a) (k : ∀ o, H a = some o → H' a = some o) : OwnAt W F' H' d a := by
  cases d with
  | lst ds => obtain ⟨vs, e, r⟩ := h; exact ⟨vs, k _ e, r.mono s⟩
  | ins c ns ds => obtain ⟨dx, fs, e, r⟩ := h; exact ⟨dx, fs, k _ e, r.mono s⟩
  | _ => exact h.elim
theorem OwnAt.there {W : Wo} {F H : Hp} {d : D} {a : Addr} (h : OwnAt W F H d a) : ∃ o, H a = some o := by
  cases d with
  | lst ds => obtain ⟨vs, e, r⟩ := h; exact ⟨_, e⟩
  | ins c ns ds => obtain ⟨dx, fs, e, r⟩ := h; exact ⟨_, e⟩
  | _ => exact h.elim
theorem OwnAt.live {W : Wo} {F H : Hp} {d : D} {a : Addr} (h : OwnAt W F H d a) : H a ≠ none := by
  obtain ⟨o, e⟩ := h.there
  rw [e]
  exact fun z => nomatch z
/-- frozen now -/
theorem OwnAt.rep {W : Wo} {F F' H : Hp} {d : D} {a : Addr} (h : OwnAt W F H d a) (s : Same F F') (k : F' a = H a) : Rep W F' d (V.ref a) := by
  cases d with
  | lst ds => obtain ⟨vs, e, r⟩ := h; exact .lst (k.trans e) (r.mono s)
  | ins c ns ds => obtain ⟨dx, fs, e, r⟩ := h; exact .ins (k.trans e) (r.mono s)
  | _ => exact h.elim

structure Exc where
  c : Nat
  ns : List Nat
  ds : List D
def ExOk (W : Wo) (F H : Hp) (x : Exc) (cls : Value) (dx : Option Addr) : Prop := cls = Value.ref (W.cl x.c) ∧
  ((dx = none ∧ x.ns = [] ∧ x.ds = []) ∨ ∃ d fs, dx = some d ∧ H d = some (.xd fs) ∧ RepF W F x.ns x.ds fs)
theorem ExOk.mono {W : Wo} {F F' H H' : Hp} {x : Exc} {cls : Value} {dx : Option Addr} (h : ExOk W F H x cls dx) (fr : Same F F') (k : ∀ d fs, H d = some (.xd fs) → H' d = some (.xd fs)) : ExOk W F' H' x cls dx := by
  obtain ⟨h1, h2⟩ := h
  refine ⟨h1, ?_⟩
  rcases h2 with h2 | ⟨d, fs, e1, e2, e3⟩
  · exact .inl h2
  · exact .inr ⟨d, fs, e1, k _ _ e2, e3.mono fr⟩
/-- the exception of an except suite: its name's slot, where it stands, its class, its dict, what it holds -/
structure Er where
  i : Nat
  a : Addr
  cls : Value
  d : Option Addr
  x : Exc
/-- what is fixed at a def's entry: the frozen part, the tracked part, the in-out parameters' objects -/
structure Fr where
  F0 : Hp
  H0 : Hp
  io : Nat → Option Addr
  er : Option Er

structure Wd (W : Wo) (C : Fr) (F : Hp) (S : Sl) (σ : Sg) (H : Hp) : Prop where
  sub : Same F H
  f0 : Same C.F0 F
  new : ∀ a, C.F0 a = none → C.H0 a ≠ none → F a = none
  keep : ∀ a o, C.H0 a = some o → (∀ i, C.io i ≠ some a) → H a = some o
  live : ∀ a, C.H0 a ≠ none → H a ≠ none
  len : S.length = σ.length
  slot : ∀ (i : Nat) (s : Slot), S[i]? = some s → SlotOk W F H s σ[i]?
  own : ∀ (i : Nat) (d : D) (a : Addr), S[i]? = some (Slot.ow d) → σ[i]? = some (some (V.ref a)) → C.H0 a = none
  ios : ∀ (i : Nat) (d : D) (a : Addr), S[i]? = some (Slot.io d) → σ[i]? = some (some (V.ref a)) → C.io i = some a
  sep : ∀ (i j : Nat) (s t : Slot) (a : Addr), i ≠ j → S[i]? = some s → s.wr = true → σ[i]? = some (some (V.ref a)) → S[j]? = some t → σ[j]? = some (some (V.ref a)) → ¬ t.mutAt W F a
  bos : ∀ (i : Nat) (d : D) (a : Addr), S[i]? = some (Slot.bo d) → σ[i]? = some (some (V.ref a)) → ¬ Rep W F d (V.ref a) → C.H0 a ≠ none ∧ ∀ j, C.io j ≠ some a
  er : ∀ (e : Er), C.er = some e → S[e.i]? = some .er → σ[e.i]? = some (some (V.ref e.a)) ∧ ExOk W F H e.x e.cls e.d
theorem OwnAt.noXd {W : Wo} {F H : Hp} {d : D} {a b : Addr} {fs : List (Str × V)} (h : OwnAt W F H d a) (e : H b = some (.xd fs)) : b ≠ a := fun z => by
  subst z
  cases d with
  | lst ds => obtain ⟨vs, q, _⟩ := h; rw [e] at q; cases q
  | ins c ns ds => obtain ⟨dx, gs, q, _⟩ := h; rw [e] at q; cases q
  | _ => exact h.elim

/-- no slot may write at a -/
def NotMut (W : Wo) (F : Hp) (S : Sl) (σ : Sg) (a : Addr) : Prop := ∀ (i : Nat) (s : Slot), S[i]? = some s → σ[i]? = some (some (V.ref a)) → ¬ s.mutAt W F a
theorem NotMut.up {W : Wo} {F F' : Hp} {S : Sl} {σ : Sg} {a : Addr} (s : Same F F') (h : NotMut W F S σ a) : NotMut W F' S σ a := fun i t h1 h2 m => h i t h1 h2 (m.anti s)
/-- what an expression may do -/
structure Evo (W : Wo) (S : Sl) (σ : Sg) (F H F' H' : Hp) (S' : Sl) : Prop where
  fr : Same F F'
  keep : ∀ a o, H a = some o → NotMut W F S σ a → H' a = some o
  live : ∀ a, H a ≠ none → H' a ≠ none
  fnew : ∀ a, F a = none → H a ≠ none → NotMut W F S σ a → F' a = none
  sh : ∀ a, NotMut W F S σ a → NotMut W F' S' σ a
theorem Evo.refl {W : Wo} {S : Sl} {σ : Sg} {F H : Hp} : Evo W S σ F H F H S := ⟨Same.refl _, fun _ _ h _ => h, fun _ h => h, fun _ h _ _ => h, fun _ h => h⟩
theorem Evo.trans {W : Wo} {S S1 S2 : Sl} {σ : Sg} {F H F1 H1 F2 H2 : Hp} (a : Evo W S σ F H F1 H1 S1) (b : Evo W S1 σ F1 H1 F2 H2 S2) : Evo W S σ F H F2 H2 S2 :=
  ⟨a.fr.trans b.fr, fun c o h n => b.keep c o (a.keep c o h n) (a.sh c n), fun c h => b.live c (a.live c h), fun c h1 h2 n => b.fnew c (a.fnew c h1 h2 n) (a.live c h2) (a.sh c n), fun c n => b.sh c (a.sh c n)⟩

theorem ne_none_of {α : Type} {x : Option α} {y : α} (h : x = some y) : x ≠ none := by rw [h]; exact fun z => nomatch z
theorem some_of_ne {α : Type} {x : Option α} (h : x ≠ none) : ∃ y, x = some y := by
  cases x with
  | none => exact absurd rfl h
  | some y => exact ⟨y, rfl⟩
theorem same_upd {H : Hp} {p : Addr} {o : HO} (h : H p = none) : Same H (upd H p o) := fun b x e => by
  rw [upd_ne (ne_of_none e h)]
  exact e

section
variable {W : Wo} {C : Fr} {F F' : Hp} {S S' : Sl} {σ : Sg} {H H' : Hp} {a p : Addr} {o : HO} {d : D} {v : V} {i : Nat}

theorem Same.upd2 (s : Same F H) : Same (upd F p o) (upd H p o) := fun b x e => by
  by_cases hb : b = p
  · subst hb; rw [upd_same] at e ⊢; exact e
  · rw [upd_ne hb] at e ⊢; exact s _ _ e

theorem SlotOk.mono {s : Slot} {x : Option (Option V)} (h : SlotOk W F H s x) (fr : Same F F') (fn : ∀ a, s.mutAt W F a → x = some (some (V.ref a)) → F a = none → H a ≠ none → F' a = none)
    (k : ∀ a o, s.mutAt W F a → x = some (some (V.ref a)) → H a = some o → H' a = some o) : SlotOk W F' H' s x := by
  cases s with
  | un => trivial
  | er => trivial
  | va d => obtain ⟨v, e, r⟩ := h; exact ⟨v, e, r.mono fr⟩
  | ow d => obtain ⟨a, e, n, w⟩ := h; exact ⟨a, e, fn a trivial e n w.live, w.mono fr fun ob' => k a ob' trivial e⟩
  | io d => obtain ⟨a, e, n, w⟩ := h; exact ⟨a, e, fn a trivial e n w.live, w.mono fr fun ob' => k a ob' trivial e⟩
  | bo d =>
    obtain ⟨v, e, r⟩ := h
    refine ⟨v, e, ?_⟩
    by_cases hr : Rep W F d v
    · exact .inl (hr.mono fr)
    · rcases r with r | ⟨a, ev, n, w⟩
      · exact absurd r hr
      · subst ev
        exact .inr ⟨a, rfl, fn a hr e n w.live, w.mono fr fun ob' => k a ob' hr e⟩

/-- an extension: new things only -/
structure Ext (F H F' H' : Hp) : Prop where
  fr : Same F F'
  hr : Same H H'
  sub : Same F' H'
  fnew : ∀ a, F a = none → H a ≠ none → F' a = none
theorem Same.live (s : Same H H') (h : H a ≠ none) : H' a ≠ none := by
  obtain ⟨o, e⟩ := some_of_ne h
  exact ne_none_of (s a o e)
theorem Ext.evo (e : Ext F H F' H') : Evo W S σ F H F' H' S := ⟨e.fr, fun a o h _ => e.hr a o h, fun _ h => Same.live e.hr h, fun a h1 h2 _ => e.fnew a h1 h2, fun _ h => h.up e.fr⟩
theorem Ext.refl (s : Same F H) : Ext F H F H := ⟨Same.refl _, Same.refl _, s, fun _ h _ => h⟩
theorem Ext.trans {F1 H1 F2 H2 : Hp} (a : Ext F H F1 H1) (b : Ext F1 H1 F2 H2) : Ext F H F2 H2 :=
  ⟨a.fr.trans b.fr, a.hr.trans b.hr, b.sub, fun c h1 h2 => b.fnew c (a.fnew c h1 h2) (Same.live a.hr h2)⟩
theorem Ext.alloc (s : Same F H) (hp : H p = none) : Ext F H (upd F p o) (upd H p o) :=
  ⟨same_upd (s.free hp), same_upd hp, Same.upd2 s, fun a h1 h2 => by
    rw [upd_ne (fun z => h2 (by rw [z]; exact hp))]; exact h1⟩
theorem Ext.allocO (s : Same F H) (hp : H p = none) : Ext F H F (upd H p o) :=
  ⟨Same.refl _, same_upd hp, fun b x e => by rw [upd_ne (ne_of_none (s _ _ e) hp)]; exact s _ _ e, fun a h1 _ => h1⟩
theorem Wd.ext (w : Wd W C F S σ H) (e : Ext F H F' H') : Wd W C F' S σ H' where
  sub := e.sub
  f0 := w.f0.trans e.fr
  new := fun a h1 h2 => e.fnew a (w.new a h1 h2) (w.live a h2)
  keep := fun a o h1 h2 => e.hr a o (w.keep a o h1 h2)
  live := fun a h => Same.live e.hr (w.live a h)
  len := w.len
  slot := fun i s h => (w.slot i s h).mono e.fr (fun a _ _ => e.fnew a) fun a o _ _ => e.hr a o
  own := w.own
  ios := w.ios
  sep := fun i j s t a n h1 h2 h3 h4 h5 h6 => w.sep i j s t a n h1 h2 h3 h4 h5 (h6.anti e.fr)
  er := fun x h1 h2 => ⟨(w.er x h1 h2).1, (w.er x h1 h2).2.mono e.fr fun d fs q => e.hr d _ q⟩
  bos := fun i d a h1 h2 nr => w.bos i d a h1 h2 fun r => nr (r.mono e.fr)
theorem Wd.mutLive (w : Wd W C F S σ H) {s : Slot} (h1 : S[i]? = some s) (h2 : s.mutAt W F a) (h3 : σ[i]? = some (some (V.ref a))) : H a ≠ none ∧ F a = none := by
  have q := w.slot i s h1
  cases s with
  | un => exact h2.elim
  | er => exact h2.elim
  | va d => exact h2.elim
  | ow d => obtain ⟨b, e, n, z⟩ := q; rw [h3] at e; cases e; exact ⟨z.live, n⟩
  | io d => obtain ⟨b, e, n, z⟩ := q; rw [h3] at e; cases e; exact ⟨z.live, n⟩
  | bo d =>
    obtain ⟨v, e, r⟩ := q
    rw [h3] at e; cases e
    rcases r with r | ⟨b, e, n, z⟩
    · exact absurd r h2
    · cases e; exact ⟨z.live, n⟩
/-- an owned temporary: fresh against the entry, the start (its heap Hs) and all slots -/
def Tmp (W : Wo) (C : Fr) (Hs F H : Hp) (S : Sl) (σ : Sg) (d : D) (v : V) : Prop :=
  ∃ a, v = V.ref a ∧ F a = none ∧ OwnAt W F H d a ∧ C.H0 a = none ∧ Hs a = none ∧ ∀ (i : Nat) (s : Slot), S[i]? = some s → σ[i]? = some (some (V.ref a)) → ¬ s.mutAt W F a
theorem Wd.tmp (w : Wd W C F S σ H) (hp : H p = none) (e : Ext F H F' H') (ow : OwnAt W F' H' d p) (fp : F' p = none) : Tmp W C H F' H' S σ d (V.ref p) := by
  refine ⟨p, rfl, fp, ow, ?_, hp, fun i s h e2 m => (w.mutLive h (m.anti e.fr) e2).1 hp⟩
  cases q : C.H0 p with
  | none => rfl
  | some o => exact absurd hp (w.live p (ne_none_of q))

theorem getElem?_set_cases {α : Type} {l : List α} {i j : Nat} {x y : α} (h : (l.set i x)[j]? = some y) : (j = i ∧ y = x) ∨ (j ≠ i ∧ l[j]? = some y) := by
  by_cases e : i = j
  · subst e
    rw [List.getElem?_set_self'] at h
    cases q : l[i]? with
    | none => rw [q] at h; cases h
    | some z => rw [q] at h; cases h; exact .inl ⟨rfl, rfl⟩
  · rw [List.getElem?_set_ne e] at h
    exact .inr ⟨fun z => e z.symm, h⟩

/-- an owned slot is frozen -/
theorem Wd.freeze (w : Wd W C F S σ H) (h : S[i]? = some (Slot.ow d)) :
    ∃ a F', σ[i]? = some (some (V.ref a)) ∧ Wd W C F' (S.set i (.va d)) σ H ∧ Evo W S σ F H F' H (S.set i (.va d)) ∧ Rep W F' d (V.ref a) := by
  obtain ⟨a, e, n, z⟩ := w.slot i _ h
  obtain ⟨ob, ho⟩ := z.there
  have fr : Same F (upd F a ob) := same_upd n
  have rp : Rep W (upd F a ob) d (V.ref a) := z.rep fr (by rw [upd_same, ho])
  have fu : ∀ b, b ≠ a → F b = none → upd F a ob b = none := fun b hb q => by rw [upd_ne hb]; exact q
  refine ⟨a, upd F a ob, e, ⟨?_, w.f0.trans fr, ?_, w.keep, w.live, by rw [List.length_set]; exact w.len, ?_, ?_, ?_, ?_, fun j d' b hj hb nr => ?_, fun x h1 h2 => ?_⟩, ⟨fr, fun _ _ q _ => q, fun _ q => q, fun b h1 _ h3 => fu b (fun z => h3 i _ h (by rw [z]; exact e) trivial) h1, fun b nm j s hj hb m => ?_⟩, rp⟩
  · intro b x q
    by_cases hb : b = a
    · subst hb; rw [upd_same] at q; rw [ho]; exact q
    · rw [upd_ne hb] at q; exact w.sub _ _ q
  · intro b h1 h2
    refine fu b (fun z => h2 ?_) (w.new b h1 h2)
    rw [z]
    exact w.own i d a h e
  · intro j s hj
    rcases getElem?_set_cases hj with ⟨rfl, rfl⟩ | ⟨nj, hj⟩
    · exact ⟨_, e, rp⟩
    · refine (w.slot j s hj).mono fr (fun b m e2 q _ => fu b (fun z => ?_) q) fun _ _ _ _ q => q
      subst z
      exact w.sep i j _ s b (fun z => nj z.symm) h rfl e hj e2 m
  · intro j d' b hj hb
    rcases getElem?_set_cases hj with ⟨rfl, q⟩ | ⟨nj, hj⟩
    · cases q
    · exact w.own j d' b hj hb
  · intro j d' b hj hb
    rcases getElem?_set_cases hj with ⟨rfl, q⟩ | ⟨nj, hj⟩
    · cases q
    · exact w.ios j d' b hj hb
  · intro j k s t b njk hj hs hb hk hbk m
    rcases getElem?_set_cases hj with ⟨rfl, rfl⟩ | ⟨nj, hj⟩
    · cases hs
    · rcases getElem?_set_cases hk with ⟨rfl, rfl⟩ | ⟨nk, hk⟩
      · exact m
      · exact w.sep j k s t b njk hj hs hb hk hbk (m.anti fr)
  · rcases getElem?_set_cases hj with ⟨_, q⟩ | ⟨_, hj⟩
    · cases q
    · exact w.bos j d' b hj hb fun r => nr (r.mono fr)
  · rcases getElem?_set_cases h2 with ⟨_, q⟩ | ⟨_, h2⟩
    · cases q
    · exact ⟨(w.er x h1 h2).1, (w.er x h1 h2).2.mono fr fun _ _ q => q⟩
  · rcases getElem?_set_cases hj with ⟨rfl, rfl⟩ | ⟨nj, hj⟩
    · exact m
    · exact nm j s hj hb (m.anti fr)
/-- a temporary is frozen -/
theorem Wd.freezeT {Fs Hs : Hp} {Ss : Sl} (w : Wd W C F S σ H) (ev : Evo W Ss σ Fs Hs F H S) (t : Tmp W C Hs F H S σ d v) : ∃ F', Wd W C F' S σ H ∧ Evo W Ss σ Fs Hs F' H S ∧ Rep W F' d v := by
  obtain ⟨a, rfl, n, z, h0, hs, sp⟩ := t
  obtain ⟨ob, ho⟩ := z.there
  have fr : Same F (upd F a ob) := same_upd n
  have rp : Rep W (upd F a ob) d (V.ref a) := z.rep fr (by rw [upd_same, ho])
  have fu : ∀ b, b ≠ a → F b = none → upd F a ob b = none := fun b hb q => by rw [upd_ne hb]; exact q
  refine ⟨upd F a ob, ⟨?_, w.f0.trans fr, ?_, w.keep, w.live, w.len, ?_, w.own, w.ios, fun i j s t a n h1 h2 h3 h4 h5 h6 => w.sep i j s t a n h1 h2 h3 h4 h5 (h6.anti fr), fun i d a h1 h2 nr => w.bos i d a h1 h2 fun r => nr (r.mono fr), fun x h1 h2 => ⟨(w.er x h1 h2).1, (w.er x h1 h2).2.mono fr fun _ _ q => q⟩⟩, ⟨ev.fr.trans fr, ev.keep, ev.live, fun b h1 h2 h3 => fu b (fun z => h2 (by rw [z]; exact hs)) (ev.fnew b h1 h2 h3), fun b nb => (ev.sh b nb).up fr⟩, rp⟩
  · intro b x q
    by_cases hb : b = a
    · subst hb; rw [upd_same] at q; rw [ho]; exact q
    · rw [upd_ne hb] at q; exact w.sub _ _ q
  · intro b h1 h2
    refine fu b (fun z => h2 ?_) (w.new b h1 h2)
    rw [z]; exact h0
  · intro j s hj
    refine (w.slot j s hj).mono fr (fun b m e2 q _ => fu b (fun z => ?_) q) fun _ _ _ _ q => q
    subst z
    exact sp j s hj e2 m
/-- a slot gets a frozen value (it was no in-out parameter) -/
theorem Wd.setVa (w : Wd W C F S σ H) (r : Rep W F d v) : Wd W C F (S.set i (.va d)) (σ.set i (some v)) H where
  sub := w.sub
  f0 := w.f0
  new := w.new
  keep := w.keep
  live := w.live
  len := by rw [List.length_set, List.length_set]; exact w.len
  slot := fun j s hj => by
    rcases getElem?_set_cases hj with ⟨rfl, rfl⟩ | ⟨nj, hj'⟩
    · have hl : j < σ.length := by
        rw [← w.len]
        have := (List.getElem?_eq_some_iff.mp hj).1
        rwa [List.length_set] at this
      exact ⟨v, by rw [List.getElem?_set_self hl], r⟩
    · rw [List.getElem?_set_ne (Ne.symm nj)]
      exact w.slot j s hj'
  own := fun j d' b hj hb => by
    rcases getElem?_set_cases hj with ⟨rfl, q⟩ | ⟨nj, hj'⟩
    · cases q
    · rw [List.getElem?_set_ne (Ne.symm nj)] at hb
      exact w.own j d' b hj' hb
  ios := fun j d' b hj hb => by
    rcases getElem?_set_cases hj with ⟨rfl, q⟩ | ⟨nj, hj'⟩
    · cases q
    · rw [List.getElem?_set_ne (Ne.symm nj)] at hb
      exact w.ios j d' b hj' hb
  sep := fun j k s t b njk hj hs hb hk hbk m => by
    rcases getElem?_set_cases hj with ⟨rfl, rfl⟩ | ⟨nj, hj'⟩
    · cases hs
    · rcases getElem?_set_cases hk with ⟨rfl, rfl⟩ | ⟨nk, hk'⟩
      · exact m
      · rw [List.getElem?_set_ne (Ne.symm nj)] at hb
        rw [List.getElem?_set_ne (Ne.symm nk)] at hbk
        exact w.sep j k s t b njk hj' hs hb hk' hbk m
  bos := fun j d' b hj hb nr => by
    rcases getElem?_set_cases hj with ⟨rfl, q⟩ | ⟨nj, hj'⟩
    · cases q
    · rw [List.getElem?_set_ne (Ne.symm nj)] at hb
      exact w.bos j d' b hj' hb nr
  er := fun x h1 h2 => by
    rcases getElem?_set_cases h2 with ⟨_, q⟩ | ⟨nj, h2⟩
    · cases q
    · rw [List.getElem?_set_ne (Ne.symm nj)]
      exact w.er x h1 h2
/-- a slot gets an owned temporary -/
theorem Wd.setOw {Hs : Hp} (w : Wd W C F S σ H) (t : Tmp W C Hs F H S σ d v) : Wd W C F (S.set i (.ow d)) (σ.set i (some v)) H := by
  obtain ⟨a, rfl, n, z, h0, hs, sp⟩ := t
  exact {
    sub := w.sub
    f0 := w.f0
    new := w.new
    keep := w.keep
    live := w.live
    len := by rw [List.length_set, List.length_set]; exact w.len
    slot := fun j s hj => by
      rcases getElem?_set_cases hj with ⟨rfl, rfl⟩ | ⟨nj, hj'⟩
      · have hl : j < σ.length := by
          rw [← w.len]
          have := (List.getElem?_eq_some_iff.mp hj).1
          rwa [List.length_set] at this
        exact ⟨a, by rw [List.getElem?_set_self hl], n, z⟩
      · rw [List.getElem?_set_ne (Ne.symm nj)]
        exact w.slot j s hj'
    own := fun j d' b hj hb => by
      rcases getElem?_set_cases hj with ⟨rfl, q⟩ | ⟨nj, hj'⟩
      · rcases getElem?_set_cases hb with ⟨_, q2⟩ | ⟨nj, _⟩
        · cases q2; exact h0
        · exact absurd rfl nj
      · rw [List.getElem?_set_ne (Ne.symm nj)] at hb
        exact w.own j d' b hj' hb
    ios := fun j d' b hj hb => by
      rcases getElem?_set_cases hj with ⟨rfl, q⟩ | ⟨nj, hj'⟩
      · cases q
      · rw [List.getElem?_set_ne (Ne.symm nj)] at hb
        exact w.ios j d' b hj' hb
    sep := fun j k s t b njk hj hs hb hk hbk m => by
      rcases getElem?_set_cases hj with ⟨rfl, rfl⟩ | ⟨nj, hj'⟩
      · rcases getElem?_set_cases hb with ⟨_, q2⟩ | ⟨nj, _⟩
        · cases q2
          rcases getElem?_set_cases hk with ⟨rfl, _⟩ | ⟨nk, hk'⟩
          · exact absurd rfl njk
          · rw [List.getElem?_set_ne (Ne.symm nk)] at hbk
            exact sp k t hk' hbk m
        · exact absurd rfl nj
      · rw [List.getElem?_set_ne (Ne.symm nj)] at hb
        rcases getElem?_set_cases hk with ⟨rfl, rfl⟩ | ⟨nk, hk'⟩
        · rcases getElem?_set_cases hbk with ⟨_, q2⟩ | ⟨nk, _⟩
          · cases q2
            exact sp j s hj' hb (Slot.wr_mut hs)
          · exact absurd rfl nk
        · rw [List.getElem?_set_ne (Ne.symm nk)] at hbk
          exact w.sep j k s t b njk hj' hs hb hk' hbk m
    bos := fun j d' b hj hb nr => by
      rcases getElem?_set_cases hj with ⟨rfl, q⟩ | ⟨nj, hj'⟩
      · cases q
      · rw [List.getElem?_set_ne (Ne.symm nj)] at hb
        exact w.bos j d' b hj' hb nr
    er := fun x h1 h2 => by
      rcases getElem?_set_cases h2 with ⟨_, q⟩ | ⟨nj, h2⟩
      · cases q
      · rw [List.getElem?_set_ne (Ne.symm nj)]
        exact w.er x h1 h2 }
/-- a slot is forgotten -/
theorem Wd.setUn (w : Wd W C F S σ H) {x : Option V} : Wd W C F (S.set i .un) (σ.set i x) H where
  sub := w.sub
  f0 := w.f0
  new := w.new
  keep := w.keep
  live := w.live
  len := by rw [List.length_set, List.length_set]; exact w.len
  slot := fun j s hj => by
    rcases getElem?_set_cases hj with ⟨rfl, rfl⟩ | ⟨nj, hj'⟩
    · trivial
    · rw [List.getElem?_set_ne (Ne.symm nj)]
      exact w.slot j s hj'
  own := fun j d' b hj hb => by
    rcases getElem?_set_cases hj with ⟨rfl, q⟩ | ⟨nj, hj'⟩
    · cases q
    · rw [List.getElem?_set_ne (Ne.symm nj)] at hb
      exact w.own j d' b hj' hb
  ios := fun j d' b hj hb => by
    rcases getElem?_set_cases hj with ⟨rfl, q⟩ | ⟨nj, hj'⟩
    · cases q
    · rw [List.getElem?_set_ne (Ne.symm nj)] at hb
      exact w.ios j d' b hj' hb
  sep := fun j k s t b njk hj hs hb hk hbk m => by
    rcases getElem?_set_cases hj with ⟨rfl, rfl⟩ | ⟨nj, hj'⟩
    · cases hs
    · rcases getElem?_set_cases hk with ⟨rfl, rfl⟩ | ⟨nk, hk'⟩
      · exact m
      · rw [List.getElem?_set_ne (Ne.symm nj)] at hb
        rw [List.getElem?_set_ne (Ne.symm nk)] at hbk
        exact w.sep j k s t b njk hj' hs hb hk' hbk m
  bos := fun j d' b hj hb nr => by
    rcases getElem?_set_cases hj with ⟨rfl, q⟩ | ⟨nj, hj'⟩
    · cases q
    · rw [List.getElem?_set_ne (Ne.symm nj)] at hb
      exact w.bos j d' b hj' hb nr
  er := fun x h1 h2 => by
    rcases getElem?_set_cases h2 with ⟨_, q⟩ | ⟨nj, h2⟩
    · cases q
    · rw [List.getElem?_set_ne (Ne.symm nj)]
      exact w.er x h1 h2
/-- the writable slot i at a is written: its new datum d' -/
def Slot.put (s : Slot) (d : D) : Slot := match s with
  | .ow _ => .ow d
  | .io _ => .io d
  | s => s
def Slot.got (s : Slot) : Option D := match s with
  | .ow d => some d
  | .io d => some d
  | .va d => some d
  | .bo d => some d
  | .un => none
  | .er => none
theorem SlotOk.wr {s : Slot} {x : Option (Option V)} (h : SlotOk W F H s x) (hw : s.wr = true) (hg : s.got = some d) : ∃ a, x = some (some (V.ref a)) ∧ F a = none ∧ OwnAt W F H d a := by
  cases s with
  | ow d' => cases hg; exact h
  | io d' => cases hg; exact h
  | _ => cases hw
theorem Wd.write {s : Slot} {d' : D} (w : Wd W C F S σ H) (h : S[i]? = some s) (hw : s.wr = true) (e : σ[i]? = some (some (V.ref a))) (ow : OwnAt W F (upd H a o) d' a) :
    Wd W C F (S.set i (s.put d')) σ (upd H a o) ∧ Evo W S σ F H F (upd H a o) (S.set i (s.put d')) := by
  obtain ⟨hl, n⟩ := w.mutLive h (Slot.wr_mut hw) e
  have put_wr : (s.put d').wr = true := by cases s <;> first | rfl | cases hw
  have io_or : ∀ b, C.H0 b ≠ none → (∀ i, C.io i ≠ some b) → b ≠ a := fun b h1 h2 z => by
    subst z
    cases s with
    | ow d => exact h1 (w.own i d b h e)
    | io d => exact h2 i (w.ios i d b h e)
    | _ => cases hw
  have lv : ∀ b, H b ≠ none → upd H a o b ≠ none := fun b q => by
    by_cases hb : b = a
    · subst hb; rw [upd_same]; exact fun z => nomatch z
    · rw [upd_ne hb]; exact q
  have nm : ∀ b, NotMut W F S σ b → NotMut W F (S.set i (s.put d')) σ b := fun b nb j t hj hb m => by
    rcases getElem?_set_cases hj with ⟨rfl, rfl⟩ | ⟨nj, hj'⟩
    · exact nb j s h hb (Slot.wr_mut hw)
    · exact nb j t hj' hb m
  refine ⟨⟨?_, w.f0, w.new, ?_, fun b q => lv b (w.live b q), by rw [List.length_set]; exact w.len, ?_, ?_, ?_, ?_, fun j d2 b hj hb nr => ?_, fun x h1 h2 => ?_⟩, ⟨Same.refl _, fun b x q nb => ?_, lv, fun _ q _ _ => q, nm⟩⟩
  · intro b x q
    rw [upd_ne (fun z => by rw [z, n] at q; cases q)]
    exact w.sub _ _ q
  · intro b x h1 h2
    rw [upd_ne (io_or b (ne_none_of h1) h2)]
    exact w.keep b x h1 h2
  · intro j t hj
    rcases getElem?_set_cases hj with ⟨rfl, rfl⟩ | ⟨nj, hj'⟩
    · cases s with
      | ow d => exact ⟨a, e, n, ow⟩
      | io d => exact ⟨a, e, n, ow⟩
      | _ => cases hw
    · refine (w.slot j t hj').mono (Same.refl _) (fun _ _ _ q _ => q) fun b x m eb q => ?_
      rw [upd_ne (fun z => ?_)]
      · exact q
      · subst z
        exact w.sep i j s t b (Ne.symm nj) h hw e hj' eb m
  · intro j d2 b hj hb
    rcases getElem?_set_cases hj with ⟨rfl, q⟩ | ⟨nj, hj'⟩
    · cases s with
      | ow d => exact w.own j d b h hb
      | io d => cases q
      | _ => cases hw
    · exact w.own j d2 b hj' hb
  · intro j d2 b hj hb
    rcases getElem?_set_cases hj with ⟨rfl, q⟩ | ⟨nj, hj'⟩
    · cases s with
      | ow d => cases q
      | io d => exact w.ios j d b h hb
      | _ => cases hw
    · exact w.ios j d2 b hj' hb
  · intro j k t u b njk hj ht hb hk hbk m
    rcases getElem?_set_cases hj with ⟨rfl, rfl⟩ | ⟨nj, hj'⟩
    · rcases getElem?_set_cases hk with ⟨rfl, _⟩ | ⟨nk, hk'⟩
      · exact absurd rfl njk
      · exact w.sep j k s u b njk h hw hb hk' hbk m
    · rcases getElem?_set_cases hk with ⟨rfl, rfl⟩ | ⟨nk, hk'⟩
      · exact w.sep j k t s b njk hj' ht hb h hbk (Slot.wr_mut hw)
      · exact w.sep j k t u b njk hj' ht hb hk' hbk m
  · rcases getElem?_set_cases hj with ⟨_, q⟩ | ⟨_, hj⟩
    · cases s <;> first | (cases q; done) | cases hw
    · exact w.bos j d2 b hj hb nr
  · rcases getElem?_set_cases h2 with ⟨_, q⟩ | ⟨_, h2⟩
    · cases s <;> first | (cases q; done) | cases hw
    · refine ⟨(w.er x h1 h2).1, (w.er x h1 h2).2.mono (Same.refl _) fun d fs q => ?_⟩
      rw [upd_ne (fun z => ?_)]
      · exact q
      · subst z
        have so := w.slot i s h
        cases s with
        | ow d0 => obtain ⟨b, eb, _, z⟩ := so; rw [e] at eb; cases eb; exact z.noXd q rfl
        | io d0 => obtain ⟨b, eb, _, z⟩ := so; rw [e] at eb; cases eb; exact z.noXd q rfl
        | _ => cases hw
  · rw [upd_ne (fun z => nb i s h (by rw [z]; exact e) (Slot.wr_mut hw))]
    exact q
end
end VL

set_option Elab.async false
set_option linter.all false
set_option maxRecDepth 100000
set_option maxHeartbeats 1000000
namespace VL
open PySem PySem.Spec PyProof.Rows L2

/-! ### results -/
inductive Res (α : Type) where
  | ok (a : α) (S : Sl) | ex (x : Exc) (S : Sl) | bad
abbrev Sem (α : Type) := Sl → Res α
def Res.bind {α β : Type} (r : Res α) (g : α → Sl → Res β) : Res β := match r with
  | .ok a S => g a S
  | .ex x S => .ex x S
  | .bad => .bad
/-- a handle of a value: frozen; an owned temporary; what a slot holds -/
inductive Hd where
  | fz (d : D) | own (d : D) | slot (i : Nat)
/-- an operand -/
inductive Op where
  | fz (d : D) | slot (i : Nat)
def opnd : Hd → Op
  | .fz d => .fz d
  | .own d => .fz d
  | .slot i => .slot i
def Op.get (o : Op) (S : Sl) : Option D := match o with
  | .fz d => some d
  | .slot i => (match S[i]? with
    | some s => s.got
    | none => none)
def toV (h : Hd) : Sem D := fun S => match h with
  | .fz d => .ok d S
  | .own d => .ok d S
  | .slot i => (match S[i]? with
    | some (.va d) => .ok d S
    | some (.ow d) => .ok d (S.set i (.va d))
    | _ => .bad)
def sV (f : Sem Hd) : Sem D := fun S => (f S).bind toV
def sOp (f : Sem Hd) : Sem Op := fun S => (f S).bind fun h S => .ok (opnd h) S

section
variable {α β ρ τ : Type}
abbrev Pd (α ρ : Type) := Sg → Hp → Hp → Hp → Sl → α → ρ → Prop
def At (W : Wo) (C : Fr) (Wx : WX) (σ : Sg) (P : Pd α ρ) (F H : Hp) (S : Sl) (r : Res α) (Q : ρ → Hp → Prop) : Prop := match r with
  | .ok a S' => ∀ v F' H', Wd W C F' S' σ H' → Evo W S σ F H F' H' S' → P σ H F' H' S' a v → Q v H'
  | .ex x S' => ∀ cls dx F' H', Wd W C F' S' σ H' → Same F F' → ExOk W F' H' x cls dx → Wx cls dx σ H'
  | .bad => False
def rd (W : Wo) (C : Fr) (Wx : WX) (P : Pd α ρ) (f : Sem α) : Sg → Hp → (ρ → Hp → Prop) → Prop := fun σ H Q => ∃ F S, Wd W C F S σ H ∧ At W C Wx σ P F H S (f S) Q
def Anti (P : Pd α ρ) : Prop := ∀ σ H H1 F' H' S' a v, (∀ b, H b ≠ none → H1 b ≠ none) → P σ H1 F' H' S' a v → P σ H F' H' S' a v
variable {W : Wo} {C : Fr} {Wx : WX} {σ : Sg} {F H F1 H1 : Hp} {S S1 : Sl} {P : Pd α ρ} {P2 : Pd β τ} {Q : τ → Hp → Prop}

theorem At.after {r : Res β} (hP : Anti P2) (ev : Evo W S σ F H F1 H1 S1) (h : At W C Wx σ P2 F H S r Q) : At W C Wx σ P2 F1 H1 S1 r Q := by
  cases r with
  | ok a S' => exact fun v F' H' w e p => h v F' H' w (ev.trans e) (hP _ _ _ _ _ _ _ _ ev.live p)
  | ex x S' => exact fun cls dx F' H' w s q => h cls dx F' H' w (ev.fr.trans s) q
  | bad => exact h
theorem At.bind {r : Res α} {g : α → Sl → Res β} {R : ρ → Hp → Prop} (hP : Anti P2) (m : At W C Wx σ P2 F H S (r.bind g) Q)
    (k : ∀ a S1 v F1 H1, r = .ok a S1 → Wd W C F1 S1 σ H1 → Evo W S σ F H F1 H1 S1 → P σ H F1 H1 S1 a v → At W C Wx σ P2 F1 H1 S1 (g a S1) Q → R v H1) : At W C Wx σ P F H S r R := by
  cases r with
  | ok a S1 => exact fun v F1 H1 w e p => k a S1 v F1 H1 rfl w e p (At.after hP e m)
  | ex x S1 => exact m
  | bad => exact m
/-- a reading in the middle -/
theorem At.rd {f : Sem β} (w : Wd W C F S σ H) (m : At W C Wx σ P2 F H S (f S) Q) : rd W C Wx P2 f σ H Q := ⟨F, S, w, m⟩
theorem At.imp {r : Res α} {R R' : ρ → Hp → Prop} (m : At W C Wx σ P F H S r R) (h : ∀ v H', R v H' → R' v H') : At W C Wx σ P F H S r R' := by
  cases r with
  | ok a S1 => exact fun v F1 H1 w e p => h _ _ (m v F1 H1 w e p)
  | ex x S1 => exact m
  | bad => exact m
end

/-! ### what stands behind -/
def PHd (W : Wo) (C : Fr) : Pd Hd V := fun σ Hs F H S h v => match h with
  | .fz d => Rep W F d v
  | .own d => Tmp W C Hs F H S σ d v
  | .slot i => σ[i]? = some (some v)
def POp (W : Wo) : Pd Op V := fun σ Hs F H S h v => match h with
  | .fz d => Rep W F d v
  | .slot i => σ[i]? = some (some v)
def PVl (W : Wo) : Pd D V := fun σ Hs F H S d v => Rep W F d v
def PB : Pd Bool Bool := fun σ Hs F H S a b => b = a
theorem anti_hd {W : Wo} {C : Fr} : Anti (PHd W C) := fun σ H H1 F' H' S' a v l p => by
  cases a with
  | own d =>
    obtain ⟨b, e, n, z, h0, hs, sp⟩ := p
    refine ⟨b, e, n, z, h0, ?_, sp⟩
    cases q : H b with
    | none => rfl
    | some o => exact absurd hs (l b (ne_none_of q))
  | _ => exact p
theorem anti_op {W : Wo} : Anti (POp W) := fun _ _ _ _ _ _ _ _ _ p => p
theorem anti_vl {W : Wo} : Anti (PVl W) := fun _ _ _ _ _ _ _ _ _ p => p
theorem anti_b : Anti PB := fun _ _ _ _ _ _ _ _ _ p => p

theorem PE.imp {X : Cx} {e : Expr} {t t' : TE} (h : PE X e t) (i : ∀ σ H Q, t' σ H Q → t σ H Q) : PE X e t' := ⟨fun pins s σ H Q I q => h.run pins s σ H Q I (i σ H Q q)⟩
theorem PT.imp {X : Cx} {e : Expr} {t t' : TT} (h : PT X e t) (i : ∀ σ H Q, t' σ H Q → t σ H Q) : PT X e t' := ⟨fun pins s σ H Q I q => h.run pins s σ H Q I (i σ H Q q)⟩
theorem PW.imp {X : Cx} {e : Expr} {t t' : TT} (h : PW X e t) (i : ∀ σ H Q, t' σ H Q → t σ H Q) : PW X e t' := ⟨fun wh pins s σ H Q I q => h.run wh pins s σ H Q I (i σ H Q q)⟩
theorem PA.imp {X : Cx} {e : List Expr} {t t' : TA} (h : PA X e t) (i : ∀ σ H Q, t' σ H Q → t σ H Q) : PA X e t' := ⟨fun p pins s σ H Q I q => h.run p pins s σ H Q I (i σ H Q q)⟩
theorem PS.imp {X : Cx} {e : Stmt} {t t' : TS} (h : PS X e t) (i : ∀ D σ H, t' D σ H → t D σ H) : PS X e t' := ⟨fun pins s σ H D I q => h.run pins s σ H D I (i D σ H q)⟩
theorem PSs.imp {X : Cx} {e : List Stmt} {t t' : TS} (h : PSs X e t) (i : ∀ D σ H, t' D σ H → t D σ H) : PSs X e t' := ⟨fun pins s σ H D I q => h.run pins s σ H D I (i D σ H q)⟩

/-- the judgements -/
abbrev PX (X : Cx) (W : Wo) (C : Fr) (Wx : WX) (e : Expr) (f : Sem Hd) : Prop := PE X e (rd W C Wx (PHd W C) f)
abbrev PXo (X : Cx) (W : Wo) (C : Fr) (Wx : WX) (e : Expr) (f : Sem Op) : Prop := PE X e (rd W C Wx (POp W) f)
abbrev PXv (X : Cx) (W : Wo) (C : Fr) (Wx : WX) (e : Expr) (f : Sem D) : Prop := PE X e (rd W C Wx (PVl W) f)
abbrev PXt (X : Cx) (W : Wo) (C : Fr) (Wx : WX) (e : Expr) (f : Sem Bool) : Prop := PT X e (rd W C Wx PB f)
abbrev PXw (X : Cx) (W : Wo) (C : Fr) (Wx : WX) (e : Expr) (f : Sem Bool) : Prop := PW X e (rd W C Wx PB f)

section
variable {X : Cx} {W : Wo} {C : Fr} {Wx : WX} {e a b c : Expr} {pos : Pos} {f fa fb fc : Sem Hd}

/-- frozen -/
theorem pxv (h : PX X W C Wx e f) : PXv X W C Wx e (sV f) := PE.imp h fun σ H Q ⟨F, S, w, m⟩ => ⟨F, S, w, by
  have m' : At W C Wx σ (PVl W) F H S ((f S).bind toV) Q := m
  cases r : f S with
  | ex x S1 => rw [r] at m'; exact m'
  | bad => rw [r] at m'; exact m'
  | ok hd S1 =>
    rw [r] at m'
    intro v F1 H1 w1 e1 p1
    cases hd with
    | fz d => exact m' v F1 H1 w1 e1 p1
    | own d =>
      obtain ⟨F2, w2, e2, r2⟩ := w1.freezeT e1 p1
      exact m' v F2 H1 w2 e2 r2
    | slot i =>
      have m2 : At W C Wx σ (PVl W) F H S (match S1[i]? with
        | some (.va d) => Res.ok d S1
        | some (.ow d) => Res.ok d (S1.set i (.va d))
        | _ => Res.bad) Q := m'
      have p2 : σ[i]? = some (some v) := p1
      cases q : S1[i]? with
      | none => rw [q] at m2; exact m2.elim
      | some s =>
        rw [q] at m2
        cases s with
        | va d =>
          obtain ⟨u, eu, ru⟩ := w1.slot i _ q
          rw [p2] at eu; cases eu
          exact m2 v F1 H1 w1 e1 ru
        | ow d =>
          obtain ⟨ad, F2, ea, w2, e2, r2⟩ := w1.freeze q
          rw [p2] at ea; cases ea
          exact m2 _ F2 H1 w2 (e1.trans e2) r2
        | un => exact m2.elim
        | er => exact m2.elim
        | io d => exact m2.elim
        | bo d => exact m2.elim⟩
theorem pxo (h : PX X W C Wx e f) : PXo X W C Wx e (sOp f) := PE.imp h fun σ H Q ⟨F, S, w, m⟩ => ⟨F, S, w, by
  have m' : At W C Wx σ (POp W) F H S ((f S).bind fun h S => .ok (opnd h) S) Q := m
  cases r : f S with
  | ex x S1 => rw [r] at m'; exact m'
  | bad => rw [r] at m'; exact m'
  | ok hd S1 =>
    rw [r] at m'
    intro v F1 H1 w1 e1 p1
    cases hd with
    | fz d => exact m' v F1 H1 w1 e1 p1
    | own d =>
      obtain ⟨F2, w2, e2, r2⟩ := w1.freezeT e1 p1
      exact m' v F2 H1 w2 e2 r2
    | slot i => exact m' v F1 H1 w1 e1 p1⟩
/-- an operand that is frozen -/
def sOv (f : Sem Hd) : Sem Op := fun S => (sV f S).bind fun d S => .ok (.fz d) S
theorem pxov (h : PX X W C Wx e f) : PXo X W C Wx e (sOv f) := PE.imp (pxv h) fun σ H Q ⟨F, S, w, m⟩ => ⟨F, S, w, by
  have m' : At W C Wx σ (POp W) F H S ((sV f S).bind fun d S => .ok (.fz d) S) Q := m
  cases r : sV f S with
  | ex x S1 => rw [r] at m'; exact m'
  | bad => rw [r] at m'; exact m'
  | ok d S1 =>
    rw [r] at m'
    exact fun v F1 H1 w1 e1 p1 => m' v F1 H1 w1 e1 p1⟩
/-- a frozen value as a handle -/
def sFz (f : Sem D) : Sem Hd := fun S => (f S).bind fun d S => .ok (.fz d) S
theorem px_fz {f : Sem D} (h : PXv X W C Wx e f) : PX X W C Wx e (sFz f) := PE.imp h fun σ H Q ⟨F, S, w, m⟩ => ⟨F, S, w, by
  have m' : At W C Wx σ (PHd W C) F H S ((f S).bind fun d S => .ok (.fz d) S) Q := m
  cases r : f S with
  | ex x S1 => rw [r] at m'; exact m'
  | bad => rw [r] at m'; exact m'
  | ok d S1 =>
    rw [r] at m'
    exact fun v F1 H1 w1 e1 p1 => m' v F1 H1 w1 e1 p1⟩

/-! ### operands resolved -/
theorem repB_of_op {σ : Sg} {F1 H1 F2 H2 Hs : Hp} {S1 S2 : Sl} {o : Op} {v : V} {d : D} (p : POp W σ Hs F1 H1 S1 o v) (w : Wd W C F2 S2 σ H2) (fr : Same F1 F2) (g : o.get S2 = some d) : RepB W F2 H2 d v := by
  cases o with
  | fz d' =>
    cases g
    exact .inl (Rep.mono fr p)
  | slot i =>
    have g' : (match S2[i]? with | some s => s.got | none => none) = some d := g
    have p' : σ[i]? = some (some v) := p
    cases q : S2[i]? with
    | none => rw [q] at g'; cases g'
    | some s =>
      rw [q] at g'
      have so := w.slot i s q
      rw [p'] at so
      cases s with
      | un => cases g'
      | er => cases g'
      | va d => cases g'; obtain ⟨u, eu, r⟩ := so; cases eu; exact .inl r
      | ow d => cases g'; obtain ⟨u, eu, n, z⟩ := so; cases eu; exact .inr ⟨u, rfl, n, z⟩
      | io d => cases g'; obtain ⟨u, eu, n, z⟩ := so; cases eu; exact .inr ⟨u, rfl, n, z⟩
      | bo d => cases g'; obtain ⟨u, eu, r⟩ := so; cases eu; exact r
section
variable {F H : Hp} {v : V}
theorem RepB.rep {d : D} (s : Same F H) (h : RepB W F H d v) : Rep W H d v := by
  rcases h with h | ⟨a, rfl, n, z⟩
  · exact h.mono s
  · cases d with
    | lst ds => obtain ⟨vs, e, r⟩ := z; exact .lst e (r.mono s)
    | ins c ns ds => obtain ⟨dx, fs, e, r⟩ := z; exact .ins e (r.mono s)
    | _ => exact z.elim
theorem RepB.int {i : Int} (h : RepB W F H (.int i) v) : v = .int i := by
  rcases h with h | ⟨a, rfl, n, z⟩
  · cases h; rfl
  · exact z.elim
theorem RepB.bl {i : Bool} (h : RepB W F H (.bl i) v) : v = .bl i := by
  rcases h with h | ⟨a, rfl, n, z⟩
  · cases h; rfl
  · exact z.elim
theorem RepB.str {i : Str} (h : RepB W F H (.str i) v) : v = .str i := by
  rcases h with h | ⟨a, rfl, n, z⟩
  · cases h; rfl
  · exact z.elim
theorem RepB.non (h : RepB W F H .non v) : v = .non := by
  rcases h with h | ⟨a, rfl, n, z⟩
  · cases h; rfl
  · exact z.elim
theorem RepB.lst {ds : List D} (s : Same F H) (h : RepB W F H (.lst ds) v) : ∃ a vs, v = .ref a ∧ H a = some (.lst vs) ∧ Reps W F ds vs := by
  rcases h with h | ⟨a, rfl, n, vs, e, r⟩
  · cases h with
    | lst q r => exact ⟨_, _, rfl, s _ _ q, r⟩
  · exact ⟨a, vs, rfl, e, r⟩
theorem RepB.tup {ds : List D} (s : Same F H) (h : RepB W F H (.tup ds) v) : ∃ a vs, v = .ref a ∧ SqT W.K H a vs ∧ Reps W F ds vs := by
  rcases h with h | ⟨a, rfl, n, z⟩
  · cases h with
    | tup q r => exact ⟨_, _, rfl, Same.seqT s q, r⟩
  · exact z.elim
theorem RepB.scr {ns : List Int} (s : Same F H) (h : RepB W F H (.scr ns) v) : ∃ a, v = .ref a ∧ SqL W.K H a (ns.map V.int) := by
  rcases h with h | ⟨a, rfl, n, z⟩
  · cases h with
    | scr q => exact ⟨_, rfl, s.seq q⟩
  · exact z.elim
theorem RepB.ty {n : Nat} (h : RepB W F H (.ty n) v) : v = .ty (tyS n) := by
  rcases h with h | ⟨a, rfl, n, z⟩
  · cases h; rfl
  · exact z.elim
theorem RepB.cls {n : Nat} (h : RepB W F H (.cls n) v) : v = .ref (W.cl n) := by
  rcases h with h | ⟨a, rfl, n, z⟩
  · cases h; rfl
  · exact z.elim
theorem RepB.ins {c : Nat} {ns : List Nat} {ds : List D} (s : Same F H) (h : RepB W F H (.ins c ns ds) v) : ∃ a dx fs, v = .ref a ∧ H a = some (.ins (W.cl c) dx fs) ∧ RepF W F ns ds fs := by
  rcases h with h | ⟨a, rfl, n, dx, fs, e, r⟩
  · cases h with
    | ins q r => exact ⟨_, _, _, rfl, s _ _ q, r⟩
  · exact ⟨a, dx, fs, rfl, e, r⟩
end

/-! ### operations by values -/
def PRes (W : Wo) (H F' H' : Hp) (h : Hd) (v : V) : Prop := match h with
  | .fz d => Rep W F' d v
  | .own d => ∃ a, v = V.ref a ∧ F' a = none ∧ H a = none ∧ OwnAt W F' H' d a
  | .slot _ => False
def Prim1 (W : Wo) (r : V → Hp → VK → Prop) (op : D → Option Hd) : Prop := ∀ d1 hd F H v1 Q, Same F H → RepB W F H d1 v1 → op d1 = some hd →
  (∀ v F' H', Ext F H F' H' → PRes W H F' H' hd v → Q v H') → r v1 H Q
def Prim2 (W : Wo) (r : V → V → Hp → VK → Prop) (op : D → D → Option Hd) : Prop := ∀ d1 d2 hd F H v1 v2 Q, Same F H → RepB W F H d1 v1 → RepB W F H d2 v2 → op d1 d2 = some hd →
  (∀ v F' H', Ext F H F' H' → PRes W H F' H' hd v → Q v H') → r v1 v2 H Q
inductive RepBs (W : Wo) (F H : Hp) : List D → List V → Prop
  | nil : RepBs W F H [] []
  | cons {d v ds vs} : RepB W F H d v → RepBs W F H ds vs → RepBs W F H (d :: ds) (v :: vs)
def PrimN (W : Wo) (r : List V → Hp → VK → Prop) (op : List D → Option Hd) : Prop := ∀ ds hd F H vs Q, Same F H → RepBs W F H ds vs → op ds = some hd →
  (∀ v F' H', Ext F H F' H' → PRes W H F' H' hd v → Q v H') → r vs H Q

theorem pres_hd {σ : Sg} {F H F' H' : Hp} {S : Sl} {hd : Hd} {v : V} (w : Wd W C F S σ H) (e : Ext F H F' H') (p : PRes W H F' H' hd v) : PHd W C σ H F' H' S hd v := by
  cases hd with
  | fz d => exact p
  | own d =>
    obtain ⟨a, rfl, n, h, z⟩ := p
    exact w.tmp h e z n
  | slot i => exact p.elim
/-- the end of an operation -/
theorem at_prim {σ : Sg} {F H : Hp} {S : Sl} {x : Option Hd} {Q : VK} (w : Wd W C F S σ H) (m : At W C Wx σ (PHd W C) F H S (match x with | some h => .ok h S | none => .bad) Q) :
    ∃ hd, x = some hd ∧ ∀ v F' H', Ext F H F' H' → PRes W H F' H' hd v → Q v H' := by
  cases x with
  | none => exact m.elim
  | some hd => exact ⟨hd, rfl, fun v F' H' e p => m v F' H' (w.ext e) e.evo (pres_hd w e p)⟩

def fin1 (g : D → Option Hd) (o : Op) : Sem Hd := fun S => match o.get S with
  | some d => (match g d with | some h => .ok h S | none => .bad)
  | none => .bad
def fin2 (g : D → D → Option Hd) (o1 o2 : Op) : Sem Hd := fun S => match o1.get S with
  | some d1 => (match o2.get S with
    | some d2 => (match g d1 d2 with | some h => .ok h S | none => .bad)
    | none => .bad)
  | none => .bad
theorem at_fin1 {σ : Sg} {F H F1 H1 Hs : Hp} {S S1 : Sl} {g : D → Option Hd} {o : Op} {v : V} {r : V → Hp → VK → Prop} {Q : VK} (hp : Prim1 W r g) (w : Wd W C F S σ H) (p : POp W σ Hs F1 H1 S1 o v) (fr : Same F1 F)
    (m : At W C Wx σ (PHd W C) F H S (fin1 g o S) Q) : r v H Q := by
  unfold fin1 at m
  cases q : o.get S with
  | none => rw [q] at m; exact m.elim
  | some d =>
    rw [q] at m
    obtain ⟨hd, e, k⟩ := at_prim w m
    exact hp d hd F H v Q w.sub (repB_of_op p w fr q) e k
theorem at_fin2 {σ : Sg} {F H F1 H1 F2 H2 Hs Hs2 : Hp} {S S1 S2 : Sl} {g : D → D → Option Hd} {o1 o2 : Op} {v1 v2 : V} {r : V → V → Hp → VK → Prop} {Q : VK} (hp : Prim2 W r g) (w : Wd W C F S σ H) (p1 : POp W σ Hs F1 H1 S1 o1 v1) (fr1 : Same F1 F) (p2 : POp W σ Hs2 F2 H2 S2 o2 v2) (fr2 : Same F2 F)
    (m : At W C Wx σ (PHd W C) F H S (fin2 g o1 o2 S) Q) : r v1 v2 H Q := by
  unfold fin2 at m
  cases q1 : o1.get S with
  | none => rw [q1] at m; exact m.elim
  | some d1 =>
    rw [q1] at m
    cases q2 : o2.get S with
    | none =>
      simp only [q2] at m
      exact m.elim
    | some d2 =>
      simp only [q2] at m
      obtain ⟨hd, e, k⟩ := at_prim w m
      exact hp d1 d2 hd F H v1 v2 Q w.sub (repB_of_op p1 w fr1 q1) (repB_of_op p2 w fr2 q2) e k
def sUn (g : D → Option Hd) (f : Sem Op) : Sem Hd := fun S => (f S).bind fun o S => fin1 g o S
def sBin (g : D → D → Option Hd) (f1 f2 : Sem Op) : Sem Hd := fun S => (f1 S).bind fun o1 S => (f2 S).bind fun o2 S => fin2 g o1 o2 S
theorem rd_un {g : D → Option Hd} {f : Sem Op} {r : V → Hp → VK → Prop} (hp : Prim1 W r g) {σ : Sg} {H : Hp} {Q : VK} (h : rd W C Wx (PHd W C) (sUn g f) σ H Q) : rd W C Wx (POp W) f σ H fun x H1 => r x H1 Q := by
  obtain ⟨F, S, w, m⟩ := h
  exact ⟨F, S, w, At.bind anti_hd m fun o S1 v F1 H1 _ w1 e1 p1 m1 => at_fin1 hp w1 p1 (Same.refl _) m1⟩
theorem rd_bin {g : D → D → Option Hd} {f1 f2 : Sem Op} {r : V → V → Hp → VK → Prop} (hp : Prim2 W r g) {σ : Sg} {H : Hp} {Q : VK} (h : rd W C Wx (PHd W C) (sBin g f1 f2) σ H Q) :
    rd W C Wx (POp W) f1 σ H fun x H1 => rd W C Wx (POp W) f2 σ H1 fun y H2 => r x y H2 Q := by
  obtain ⟨F, S, w, m⟩ := h
  exact ⟨F, S, w, At.bind anti_hd m fun o1 S1 v1 F1 H1 _ w1 e1 p1 m1 => ⟨F1, S1, w1, At.bind anti_hd m1 fun o2 S2 v2 F2 H2 _ w2 e2 p2 m2 => at_fin2 hp w2 p1 e2.fr p2 (Same.refl _) m2⟩⟩

/-! ### expressions -/
def sName (i : Nat) : Sem Hd := fun S => match S[i]? with
  | some .un => .bad
  | some .er => .bad
  | some _ => .ok (.slot i) S
  | none => .bad
theorem px_name (i : Nat) {x : Str} (hN : X.N[i]? = some x := by rfl) (hv : Vis X.env.scope x := by first | exact Or.inl rfl | exact Or.inr (Or.inl rfl) | exact Or.inr (Or.inr rfl)) (hd : (x == ("__debug__" : Str)) = false := by decide)
    (hcd : (x == ("__classdict__" : Str)) = false := by decide) : PX X W C Wx (.Name x pos) (sName i) := PE.imp (pe_var hN hv hd hcd) fun σ H Q ⟨F, S, w, m⟩ => by
  unfold sName at m
  cases q : S[i]? with
  | none => rw [q] at m; exact m.elim
  | some s =>
    rw [q] at m
    have so := w.slot i s q
    have fin : ∀ v, σ[i]? = some (some v) → At W C Wx σ (PHd W C) F H S (.ok (.slot i) S) Q → ∃ v, σ[i]? = some (some v) ∧ Q v H := fun v e m => ⟨v, e, m v F H w Evo.refl e⟩
    cases s with
    | un => exact m.elim
    | er => exact m.elim
    | va d => obtain ⟨v, e, _⟩ := so; exact fin v e m
    | ow d => obtain ⟨a, e, _⟩ := so; exact fin _ e m
    | io d => obtain ⟨a, e, _⟩ := so; exact fin _ e m
    | bo d => obtain ⟨v, e, _⟩ := so; exact fin v e m
def sC (d : D) : Sem Hd := fun S => .ok (.fz d) S
theorem rd_C {d : D} {v : V} (r : ∀ F, Rep W F d v) {σ : Sg} {H : Hp} {Q : VK} (h : rd W C Wx (PHd W C) (sC d) σ H Q) : Q v H := by
  obtain ⟨F, S, w, m⟩ := h
  exact m v F H w Evo.refl (r F)
theorem px_int {i : Int} {j} : PX X W C Wx (.Constant (.int i) j pos) (sC (.int i)) := PE.imp pe_int fun σ H Q h => rd_C (fun _ => .int) h
theorem px_bl {i : Bool} {j} : PX X W C Wx (.Constant (.bool i) j pos) (sC (.bl i)) := PE.imp pe_bl fun σ H Q h => rd_C (fun _ => .bl) h
theorem px_non {j} : PX X W C Wx (.Constant .none j pos) (sC .non) := PE.imp pe_non fun σ H Q h => rd_C (fun _ => .non) h
theorem px_str {x : Str} {j} : PX X W C Wx (.Constant (.str x) j pos) (sC (.str x)) := PE.imp pe_str fun σ H Q h => rd_C (fun _ => .str) h

theorem px_bin {op : Operator} {r : R2} {g : D → D → Option Hd} (ho : OpR X (binaryOp op) r) (hp : Prim2 W r g) (ha : PX X W C Wx a fa) (hb : PX X W C Wx b fb) : PX X W C Wx (.BinOp a op b pos) (sBin g (sOp fa) (sOp fb)) :=
  PE.imp (pe_op ho (pxo ha) (pxo hb)) fun σ H Q h => rd_bin hp h
theorem px_un {op : UnaryOp} {r : V → Hp → VK → Prop} {g : D → Option Hd} (ho : UnR X (unaryOp op) r) (hp : Prim1 W r g) (ha : PX X W C Wx a fa) : PX X W C Wx (.UnaryOp op a pos) (sUn g (sOp fa)) :=
  PE.imp (pe_un ho (pxo ha)) fun σ H Q h => rd_un hp h
theorem px_cmp {op : CmpOp} {r : R2} {g : D → D → Option Hd} (ho : OpR X (compareOp op) r) (hp : Prim2 W r g) (ha : PX X W C Wx a fa) (hb : PX X W C Wx b fb) (hm : behindInMarks op b = false) : PX X W C Wx (.Compare a [op] [b] pos) (sBin g (sOp fa) (sOp fb)) :=
  PE.imp (pe_cmpR ho (pxo ha) (pxo hb) hm) fun σ H Q h => rd_bin hp h
/-- a comparison as a test -/
def hdB (h : Hd) : Sem Bool := fun S => match h with
  | .fz (.bl b) => .ok b S
  | _ => .bad
def sTb (f : Sem Hd) : Sem Bool := fun S => (f S).bind hdB
theorem rd_tb {f : Sem Hd} {σ : Sg} {H : Hp} {Q : Bool → Hp → Prop} (h : rd W C Wx PB (sTb f) σ H Q) : rd W C Wx (PHd W C) f σ H fun x H' => ∃ k, x = .bl k ∧ Q k H' := by
  obtain ⟨F, S, w, m⟩ := h
  refine ⟨F, S, w, At.bind anti_b m fun hd S1 v F1 H1 _ w1 e1 p1 m1 => ?_⟩
  cases hd with
  | fz d =>
    cases d with
    | bl k =>
      have p2 : Rep W F1 (.bl k) v := p1
      cases p2
      exact ⟨k, rfl, m1 k F1 H1 w1 Evo.refl rfl⟩
    | _ => exact m1.elim
  | _ => exact m1.elim
theorem pxt_cmp {op : CmpOp} {r : R2} {g : D → D → Option Hd} (ho : OpR X (compareOp op) r) (hp : Prim2 W r g) (ha : PX X W C Wx a fa) (hb : PX X W C Wx b fb) (hm : behindInMarks op b = false) : PXt X W C Wx (.Compare a [op] [b] pos) (sTb (sBin g (sOp fa) (sOp fb))) :=
  PT.imp (pt_cmpR ho (pxo ha) (pxo hb) hm) fun σ H Q h => rd_bin hp (rd_tb h)
/-- the truth of a value as a test -/
def tru : D → Option Bool
  | .non => some false
  | .bl b => some b
  | .int i => some (i != 0)
  | .str y => if y.length ≤ sizeLine then some ((y.length : Int) != 0) else none
  | .lst xs => some (!xs.isEmpty)
  | .tup xs => some (!xs.isEmpty)
  | _ => none
def finT (o : Op) : Sem Bool := fun S => match o.get S with
  | some d => (match tru d with | some b => .ok b S | none => .bad)
  | none => .bad
def sTru (f : Sem Op) : Sem Bool := fun S => (f S).bind fun o S => finT o S
theorem Reps.isEmpty {F : Hp} {ds : List D} {vs : List V} (h : Reps W F ds vs) : ds.isEmpty = vs.isEmpty := by cases h <;> rfl
theorem truV_of {F H : Hp} {d : D} {v : V} {k : Bool} (s : Same F H) (h : RepB W F H d v) (t : tru d = some k) : TruV W.K v H k := by
  cases d with
  | non => cases h.non; cases t; rfl
  | bl b => cases h.bl; cases t; rfl
  | int i => cases h.int; cases t; rfl
  | str y =>
    cases h.str
    have t' : (if y.length ≤ sizeLine then some ((y.length : Int) != 0) else none) = some k := t
    by_cases hy : y.length ≤ sizeLine
    · rw [if_pos hy] at t'; cases t'; exact ⟨hy, rfl⟩
    · rw [if_neg hy] at t'; cases t'
  | lst xs =>
    obtain ⟨a, vs, rfl, q, r⟩ := h.lst s
    cases t
    exact .inl ⟨vs, SqL.of q, by rw [r.isEmpty]⟩
  | tup xs =>
    obtain ⟨a, vs, rfl, q, r⟩ := h.tup s
    cases t
    exact .inr (.inl ⟨vs, q, by rw [r.isEmpty]⟩)
  | _ => cases t
theorem pxt_tru (hK : X.K = W.K) (ha : PX X W C Wx a fa) (he : ∀ whole, isTrue a X.env whole = (do let v ← whole; standAt a.pos; holding [v] (truthy v)) := by intro _; rfl) : PXt X W C Wx a (sTru (sOp fa)) :=
  PT.imp (pt_truth (pxo ha) he) fun σ H Q ⟨F, S, w, m⟩ => ⟨F, S, w, At.bind anti_b m fun o S1 v F1 H1 _ w1 e1 p1 m1 => by
    unfold finT at m1
    cases q : o.get S1 with
    | none => rw [q] at m1; exact m1.elim
    | some d =>
      rw [q] at m1
      cases t : tru d with
      | none => simp only [t] at m1; exact m1.elim
      | some k =>
        simp only [t] at m1
        exact ⟨k, by rw [hK]; exact truV_of w1.sub (repB_of_op p1 w1 (Same.refl _) q) t, m1 k F1 H1 w1 Evo.refl rfl⟩⟩
/-! and, or, not -/
def sAndT (f g : Sem Bool) : Sem Bool := fun S => (f S).bind fun b S => if b = true then g S else .ok false S
def sOrT (f g : Sem Bool) : Sem Bool := fun S => (f S).bind fun b S => if b = true then .ok true S else g S
def sNotT (f : Sem Bool) : Sem Bool := fun S => (f S).bind fun b S => .ok (!b) S
variable {ft gt : Sem Bool} {rest : List Expr}
theorem pxw_and1 (ha : PXt X W C Wx a ft) : PXw X W C Wx (.BoolOp .And [a] pos) ft := pw_and1 ha
theorem pxw_or1 (ha : PXt X W C Wx a ft) : PXw X W C Wx (.BoolOp .Or [a] pos) ft := pw_or1 ha
theorem pxw_and (ha : PXt X W C Wx a ft) (hb : PXw X W C Wx (.BoolOp .And (b :: rest) pos) gt) : PXw X W C Wx (.BoolOp .And (a :: b :: rest) pos) (sAndT ft gt) :=
  PW.imp (pw_and ha hb) fun σ H Q ⟨F, S, w, m⟩ => ⟨F, S, w, At.bind anti_b m fun k S1 v F1 H1 _ w1 e1 p1 m1 => by
    have p2 : v = k := p1
    subst p2
    cases v with
    | true => rw [if_pos rfl] at m1 ⊢; exact m1.rd w1
    | false => rw [if_neg Bool.false_ne_true] at m1 ⊢; exact m1 false F1 H1 w1 Evo.refl rfl⟩
theorem pxw_or (ha : PXt X W C Wx a ft) (hb : PXw X W C Wx (.BoolOp .Or (b :: rest) pos) gt) : PXw X W C Wx (.BoolOp .Or (a :: b :: rest) pos) (sOrT ft gt) :=
  PW.imp (pw_or ha hb) fun σ H Q ⟨F, S, w, m⟩ => ⟨F, S, w, At.bind anti_b m fun k S1 v F1 H1 _ w1 e1 p1 m1 => by
    have p2 : v = k := p1
    subst p2
    cases v with
    | true => rw [if_pos rfl] at m1 ⊢; exact m1 true F1 H1 w1 Evo.refl rfl
    | false => rw [if_neg Bool.false_ne_true] at m1 ⊢; exact m1.rd w1⟩
theorem pxt_not (ha : PXt X W C Wx a ft) : PXt X W C Wx (.UnaryOp .Not a pos) (sNotT ft) :=
  PT.imp (pt_not ha) fun σ H Q ⟨F, S, w, m⟩ => ⟨F, S, w, At.bind anti_b m fun k S1 v F1 H1 _ w1 e1 p1 m1 => by
    have p2 : v = k := p1
    subst p2
    exact m1 (!v) F1 H1 w1 Evo.refl rfl⟩
/-- as values (bools) -/
def hdBl (h : Hd) (S : Sl) : Option Bool := match h with
  | .fz (.bl b) => some b
  | .slot i => (match S[i]? with
    | some (.va (.bl b)) => some b
    | _ => none)
  | _ => none
theorem bl_of_hd {σ : Sg} {F H Hs : Hp} {S : Sl} {h : Hd} {v : V} {k : Bool} (w : Wd W C F S σ H) (p : PHd W C σ Hs F H S h v) (e : hdBl h S = some k) : v = .bl k := by
  cases h with
  | fz d =>
    cases d with
    | bl b => cases e; have p2 : Rep W F (.bl k) v := p; cases p2; rfl
    | _ => cases e
  | own d => cases e
  | slot i =>
    have e' : (match S[i]? with | some (.va (.bl b)) => some b | _ => none) = some k := e
    have p' : σ[i]? = some (some v) := p
    cases q : S[i]? with
    | none => rw [q] at e'; cases e'
    | some s =>
      rw [q] at e'
      cases s with
      | va d =>
        cases d with
        | bl b =>
          cases e'
          obtain ⟨u, eu, r⟩ := w.slot i _ q
          rw [p'] at eu; cases eu; cases r; rfl
        | _ => cases e'
      | _ => cases e'
def sAnd (f g : Sem Hd) : Sem Hd := fun S => (f S).bind fun h S => match hdBl h S with
  | some true => g S
  | some false => .ok (.fz (.bl false)) S
  | none => .bad
def sOr (f g : Sem Hd) : Sem Hd := fun S => (f S).bind fun h S => match hdBl h S with
  | some false => g S
  | some true => .ok (.fz (.bl true)) S
  | none => .bad
def sNot (f : Sem Hd) : Sem Hd := fun S => (f S).bind fun h S => match hdBl h S with
  | some b => .ok (.fz (.bl (!b))) S
  | none => .bad
theorem px_one {op} (h : PX X W C Wx a fa) : PX X W C Wx (.BoolOp op [a] pos) fa := pe_one h
theorem px_and (ha : PX X W C Wx a fa) (hb : PX X W C Wx (.BoolOp .And (b :: rest) pos) fb) : PX X W C Wx (.BoolOp .And (a :: b :: rest) pos) (sAnd fa fb) :=
  PE.imp (pe_and ha hb) fun σ H Q ⟨F, S, w, m⟩ => ⟨F, S, w, At.bind anti_hd m fun h S1 v F1 H1 _ w1 e1 p1 m1 => by
    cases q : hdBl h S1 with
    | none => simp only [q] at m1; exact m1.elim
    | some k =>
      simp only [q] at m1
      refine ⟨k, bl_of_hd w1 p1 q, ?_⟩
      cases k with
      | true => rw [if_pos rfl]; exact m1.rd w1
      | false => rw [if_neg Bool.false_ne_true]; exact m1 _ F1 H1 w1 Evo.refl (show Rep W F1 (.bl false) (.bl false) from .bl)⟩
theorem px_or (ha : PX X W C Wx a fa) (hb : PX X W C Wx (.BoolOp .Or (b :: rest) pos) fb) : PX X W C Wx (.BoolOp .Or (a :: b :: rest) pos) (sOr fa fb) :=
  PE.imp (pe_or ha hb) fun σ H Q ⟨F, S, w, m⟩ => ⟨F, S, w, At.bind anti_hd m fun h S1 v F1 H1 _ w1 e1 p1 m1 => by
    cases q : hdBl h S1 with
    | none => simp only [q] at m1; exact m1.elim
    | some k =>
      simp only [q] at m1
      refine ⟨k, bl_of_hd w1 p1 q, ?_⟩
      cases k with
      | true => rw [if_pos rfl]; exact m1 _ F1 H1 w1 Evo.refl (show Rep W F1 (.bl true) (.bl true) from .bl)
      | false => rw [if_neg Bool.false_ne_true]; exact m1.rd w1⟩
theorem px_not (ha : PX X W C Wx a fa) : PX X W C Wx (.UnaryOp .Not a pos) (sNot fa) :=
  PE.imp (pe_not ha) fun σ H Q ⟨F, S, w, m⟩ => ⟨F, S, w, At.bind anti_hd m fun h S1 v F1 H1 _ w1 e1 p1 m1 => by
    cases q : hdBl h S1 with
    | none => simp only [q] at m1; exact m1.elim
    | some k =>
      simp only [q] at m1
      exact ⟨k, bl_of_hd w1 p1 q, m1 _ F1 H1 w1 Evo.refl (show Rep W F1 (.bl (!k)) (.bl (!k)) from .bl)⟩⟩
/-- a if t else b -/
def sIf (t : Sem Bool) (f g : Sem Hd) : Sem Hd := fun S => (t S).bind fun b S => if b = true then f S else g S
theorem px_if (hc : PXt X W C Wx c ft) (ha : PX X W C Wx a fa) (hb : PX X W C Wx b fb) : PX X W C Wx (.IfExp c a b pos) (sIf ft fa fb) :=
  PE.imp (pe_ifExp hc ha hb) fun σ H Q ⟨F, S, w, m⟩ => ⟨F, S, w, At.bind anti_hd m fun k S1 v F1 H1 _ w1 e1 p1 m1 => by
    have p2 : v = k := p1
    subst p2
    cases v with
    | true => rw [if_pos rfl] at m1 ⊢; exact m1.rd w1
    | false => rw [if_neg Bool.false_ne_true] at m1 ⊢; exact m1.rd w1⟩
/-- a op b op' c, ints -/
def sChain (g g' : D → D → Option Hd) (f1 f2 f3 : Sem Op) : Sem Hd := fun S => (f1 S).bind fun o1 S => (f2 S).bind fun o2 S => (fin2 g o1 o2 S).bind fun h S => match h with
  | .fz (.bl true) => (f3 S).bind fun o3 S => fin2 g' o2 o3 S
  | .fz (.bl false) => .ok (.fz (.bl false)) S
  | _ => .bad
theorem rd_chain {g g' : D → D → Option Hd} {f1 f2 f3 : Sem Op} {r r' : R2} (hp : Prim2 W r g) (hp' : Prim2 W r' g') {σ : Sg} {H : Hp} {Q : VK} (h : rd W C Wx (PHd W C) (sChain g g' f1 f2 f3) σ H Q) :
    tChain r r' (rd W C Wx (POp W) f1) (rd W C Wx (POp W) f2) (rd W C Wx (POp W) f3) σ H Q := by
  obtain ⟨F, S, w, m⟩ := h
  refine ⟨F, S, w, At.bind anti_hd m fun o1 S1 v1 F1 H1 _ w1 e1 p1 m1 => ⟨F1, S1, w1, At.bind anti_hd m1 fun o2 S2 v2 F2 H2 _ w2 e2 p2 m2 => ?_⟩⟩
  have m3 : At W C Wx σ (PHd W C) F2 H2 S2 (fin2 g o1 o2 S2) fun z H3 => ∃ k, z = .bl k ∧ (if k = true then (rd W C Wx (POp W) f3) σ H3 fun w' H4 => r' v2 w' H4 Q else Q (.bl false) H3) :=
    At.bind anti_hd m2 fun hd S3 z F3 H3 _ w3 e3 p3 m3 => by
      cases hd with
      | fz d =>
        cases d with
        | bl k =>
          have p4 : Rep W F3 (.bl k) z := p3
          cases p4
          refine ⟨k, rfl, ?_⟩
          cases k with
          | true => rw [if_pos rfl]; exact ⟨F3, S3, w3, At.bind anti_hd m3 fun o3 S4 v4 F4 H4 _ w4 e4 p4 m4 => at_fin2 hp' w4 p2 (e3.fr.trans e4.fr) p4 (Same.refl _) m4⟩
          | false => rw [if_neg Bool.false_ne_true]; exact m3 _ F3 H3 w3 Evo.refl (show Rep W F3 (.bl false) (.bl false) from .bl)
        | _ => exact m3.elim
      | _ => exact m3.elim
  exact at_fin2 hp w2 p1 e2.fr p2 (Same.refl _) m3
theorem px_chain {op op' : CmpOp} {r r' : R2} {g g' : D → D → Option Hd} (ho : OpR X (compareOp op) r) (ho' : OpR X (compareOp op') r') (hp : Prim2 W r g) (hp' : Prim2 W r' g') (ha : PX X W C Wx a fa) (hb : PX X W C Wx b fb) (hc : PX X W C Wx c fc)
    (hm : lastMarks [op, op'] [b, c] = false := by with_unfolding_all rfl) : PX X W C Wx (.Compare a [op, op'] [b, c] pos) (sChain g g' (sOp fa) (sOp fb) (sOp fc)) :=
  PE.imp (pe_chain ho ho' (pxo ha) (pxo hb) (pxo hc) hm) fun σ H Q h => rd_chain hp hp' h
theorem pxt_chain {op op' : CmpOp} {r r' : R2} {g g' : D → D → Option Hd} (ho : OpR X (compareOp op) r) (ho' : OpR X (compareOp op') r') (hp : Prim2 W r g) (hp' : Prim2 W r' g') (ha : PX X W C Wx a fa) (hb : PX X W C Wx b fb) (hc : PX X W C Wx c fc)
    (hm : lastMarks [op, op'] [b, c] = false := by with_unfolding_all rfl) : PXt X W C Wx (.Compare a [op, op'] [b, c] pos) (sTb (sChain g g' (sOp fa) (sOp fb) (sOp fc))) :=
  PT.imp (pt_chain ho ho' (pxo ha) (pxo hb) (pxo hc) hm) fun σ H Q h => rd_chain hp hp' (rd_tb h)
end
end VL

set_option Elab.async false
set_option linter.all false
set_option maxRecDepth 100000
set_option maxHeartbeats 1000000
namespace VL
open PySem PySem.Spec PyProof.Rows L2

/-! ### plain data -/
mutual
def toPy : D → Option PyData
  | .non => some .none
  | .bl b => some (.bool b)
  | .int i => some (.int i)
  | .str x => some (.str x)
  | .tup xs => (match toPys xs with
    | some ps => some (.tuple ps)
    | none => none)
  | .lst xs => (match toPys xs with
    | some ps => some (.list ps)
    | none => none)
  | .scr ns => some (.list (ns.map PyData.int))
  | .dct _ _ => none
  | .ins _ _ _ => none
  | .ty _ => none
  | .cls _ => none
def toPys : List D → Option (List PyData)
  | [] => some []
  | x :: xs => (match toPy x, toPys xs with
    | some p, some ps => some (p :: ps)
    | _, _ => none)
end
theorem dp_ints {K : PySem.W.Frag} {H : Hp} : ∀ ns : List Int, DpAll K H (ns.map V.int) (ns.map PyData.int)
  | [] => .nil
  | n :: ns => .cons (.int n) (dp_ints ns)
mutual
theorem Rep.dp {W : Wo} {H : Hp} : ∀ {d : D} {v : V} {p : PyData}, Rep W H d v → toPy d = some p → Dp W.K H v p
  | _, _, _, .non, e => by cases e; exact .non
  | _, _, _, .bl, e => by cases e; exact .bl _
  | _, _, _, .int, e => by cases e; exact .int _
  | _, _, _, .str, e => by cases e; exact .str _
  | _, _, _, .tup (ds := ds) h r, e => by
    unfold toPy at e
    cases q : toPys ds with
    | none => rw [q] at e; cases e
    | some ps => rw [q] at e; cases e; exact .tup h (Reps.dp r q)
  | _, _, _, .lst (ds := ds) h r, e => by
    unfold toPy at e
    cases q : toPys ds with
    | none => rw [q] at e; cases e
    | some ps => rw [q] at e; cases e; exact .lst (SqL.of h) (Reps.dp r q)
  | _, _, _, .scr h, e => by cases e; exact .lst h (dp_ints _)
  | _, _, _, .ins _ _, e => by cases e
  | _, _, _, .ty, e => by cases e
  | _, _, _, .cls, e => by cases e
theorem Reps.dp {W : Wo} {H : Hp} : ∀ {ds : List D} {vs : List V} {ps : List PyData}, Reps W H ds vs → toPys ds = some ps → DpAll W.K H vs ps
  | _, _, _, .nil, e => by cases e; exact .nil
  | _, _, _, .cons (d := d) (ds := ds) a b, e => by
    unfold toPys at e
    cases q1 : toPy d with
    | none => rw [q1] at e; cases e
    | some p =>
      cases q2 : toPys ds with
      | none => rw [q1, q2] at e; cases e
      | some ps => rw [q1, q2] at e; cases e; exact .cons (Rep.dp a q1) (Reps.dp b q2)
end
theorem toPy_plain : ∀ (n : Nat) , True := fun _ => trivial
/-- fit to be compared -/
def shp (p : PyData) : Bool := p.plain && decide (p.depth ≤ 60)
theorem shp_plain {p : PyData} (h : shp p = true) : p.plain = true := (Bool.and_eq_true_iff.mp h).1
theorem shp_depth {p : PyData} (h : shp p = true) : p.depth ≤ 60 := of_decide_eq_true (Bool.and_eq_true_iff.mp h).2
def pyOf (d : D) : Option PyData := match toPy d with
  | some p => if shp p = true then some p else none
  | none => none
theorem pyOf_some {d : D} {p : PyData} (h : pyOf d = some p) : toPy d = some p ∧ shp p = true := by
  unfold pyOf at h
  cases q : toPy d with
  | none => rw [q] at h; cases h
  | some p' =>
    rw [q] at h
    simp only at h
    by_cases c : shp p' = true
    · rw [if_pos c] at h; cases h; exact ⟨rfl, c⟩
    · rw [if_neg c] at h; cases h

section
variable {X : Cx} {W : Wo}
def rEq2 (K : PySem.W.Frag) (f : PyData → PyData → Bool) : R2 := fun x y H Q => ∃ p q, Dp K H x p ∧ Dp K H y q ∧ shp p = true ∧ shp q = true ∧ Q (.bl (f p q)) H
theorem op_eqP (hu : X.A.units + 64 < cLine) : OpR X (compareOp .Eq) (rEq2 X.K PyData.eqv) := by
  intro pins s σ H x y v u Q I rx ry h
  obtain ⟨d, e, hd, he, sd, se, q⟩ := h
  obtain ⟨as, r1⟩ := Dp.reads I d x v hd rx
  obtain ⟨bs, r2⟩ := Dp.reads I e y u he ry
  have := shp_depth sd
  exact PySem.SeqAt.eq_plain r1 r2 (shp_plain sd) (shp_plain se) (by omega) ⟨.bl _, H, I, rfl, q⟩
theorem op_neP (hu : X.A.units + 64 < cLine) : OpR X (compareOp .NotEq) (rEq2 X.K fun p q => !PyData.eqv p q) := by
  intro pins s σ H x y v u Q I rx ry h
  obtain ⟨d, e, hd, he, sd, se, q⟩ := h
  obtain ⟨as, r1⟩ := Dp.reads I d x v hd rx
  obtain ⟨bs, r2⟩ := Dp.reads I e y u he ry
  have := shp_depth sd
  exact PySem.SeqAt.ne_plain r1 r2 (shp_plain sd) (shp_plain se) (by omega) ⟨.bl _, H, I, rfl, q⟩
def isNn : PyData → Bool
  | .none => true
  | _ => false
def rLt2 (K : PySem.W.Frag) (f : PyData → PyData → Bool) : R2 := fun x y H Q => ∃ p q, Dp K H x p ∧ Dp K H y q ∧ shp p = true ∧ PySem.W.alike p q = true ∧ isNn p = false ∧ Q (.bl (f p q)) H
theorem nn {p : PyData} (h : isNn p = false) : p ≠ .none := fun e => by rw [e] at h; cases h
theorem op_ltP (hu : X.A.units + 64 < cLine) : OpR X (compareOp .Lt) (rLt2 X.K fun p q => PySem.W.dataLt p q) := by
  intro pins s σ H x y v u Q I rx ry h
  obtain ⟨d, e, hd, he, sd, al, hn, q⟩ := h
  obtain ⟨as, r1⟩ := Dp.reads I d x v hd rx
  obtain ⟨bs, r2⟩ := Dp.reads I e y u he ry
  have := shp_depth sd
  exact PySem.W.lt_data r1 r2 al (nn hn) (by omega) ⟨.bl _, H, I, rfl, q⟩
theorem op_gtP (hu : X.A.units + 64 < cLine) : OpR X (compareOp .Gt) (rLt2 X.K fun p q => PySem.W.dataLt q p) := by
  intro pins s σ H x y v u Q I rx ry h
  obtain ⟨d, e, hd, he, sd, al, hn, q⟩ := h
  obtain ⟨as, r1⟩ := Dp.reads I d x v hd rx
  obtain ⟨bs, r2⟩ := Dp.reads I e y u he ry
  have := shp_depth sd
  exact PySem.W.gt_data r1 r2 al (nn hn) (by omega) ⟨.bl _, H, I, rfl, q⟩
theorem op_leP (hu : X.A.units + 64 < cLine) : OpR X (compareOp .LtE) (rLt2 X.K fun p q => !PySem.W.dataLt q p) := by
  intro pins s σ H x y v u Q I rx ry h
  obtain ⟨d, e, hd, he, sd, al, hn, q⟩ := h
  obtain ⟨as, r1⟩ := Dp.reads I d x v hd rx
  obtain ⟨bs, r2⟩ := Dp.reads I e y u he ry
  have := shp_depth sd
  exact PySem.W.le_data r1 r2 al (nn hn) (by omega) ⟨.bl _, H, I, rfl, q⟩
theorem op_geP (hu : X.A.units + 64 < cLine) : OpR X (compareOp .GtE) (rLt2 X.K fun p q => !PySem.W.dataLt p q) := by
  intro pins s σ H x y v u Q I rx ry h
  obtain ⟨d, e, hd, he, sd, al, hn, q⟩ := h
  obtain ⟨as, r1⟩ := Dp.reads I d x v hd rx
  obtain ⟨bs, r2⟩ := Dp.reads I e y u he ry
  have := shp_depth sd
  exact PySem.W.ge_data r1 r2 al (nn hn) (by omega) ⟨.bl _, H, I, rfl, q⟩
/-- x in ys -/
def rIn2 (K : PySem.W.Frag) (neg : Bool) : R2 := fun x y H Q => ∃ p qs, Dp K H x p ∧ (Dp K H y (.list qs) ∨ Dp K H y (.tuple qs)) ∧ shp p = true ∧ PyData.plainAll qs = true ∧ Q (.bl (neg ^^ qs.any fun z => PyData.eqv z p)) H
theorem op_inP (hu : X.A.units + 64 < cLine) : OpR X (compareOp .In) (rIn2 X.K false) := by
  intro pins s σ H x y v u Q I rx ry h
  obtain ⟨p, qs, hd, he, sp, sq, q⟩ := h
  obtain ⟨as, r1⟩ := Dp.reads I p x v hd rx
  have := shp_depth sp
  rw [Bool.false_xor] at q
  rcases he with he | he
  · obtain ⟨bs, r2⟩ := Dp.reads I _ y u he ry
    exact PySem.SeqAt.in_list_data r2 r1 sq (shp_plain sp) (by omega) ⟨.bl _, H, I, rfl, q⟩
  · obtain ⟨bs, r2⟩ := Dp.reads I _ y u he ry
    exact PySem.SeqAt.in_tuple_data r2 r1 sq (shp_plain sp) (by omega) ⟨.bl _, H, I, rfl, q⟩
theorem op_notInP (hu : X.A.units + 64 < cLine) : OpR X (compareOp .NotIn) (rIn2 X.K true) := by
  intro pins s σ H x y v u Q I rx ry h
  obtain ⟨p, qs, hd, he, sp, sq, q⟩ := h
  obtain ⟨as, r1⟩ := Dp.reads I p x v hd rx
  have := shp_depth sp
  rw [Bool.true_xor] at q
  rcases he with he | he
  · obtain ⟨bs, r2⟩ := Dp.reads I _ y u he ry
    exact PySem.SeqAt.notIn_list_data r2 r1 sq (shp_plain sp) (by omega) ⟨.bl _, H, I, rfl, q⟩
  · obtain ⟨bs, r2⟩ := Dp.reads I _ y u he ry
    exact PySem.SeqAt.notIn_tuple_data r2 r1 sq (shp_plain sp) (by omega) ⟨.bl _, H, I, rfl, q⟩

/-! the same over D -/
def oCmp (f : PyData → PyData → Bool) (a b : D) : Option Hd := match pyOf a, pyOf b with
  | some p, some q => some (.fz (.bl (f p q)))
  | _, _ => none
theorem prim_cmp {f : PyData → PyData → Bool} : Prim2 W (rEq2 W.K f) (oCmp f) := by
  intro d1 d2 hd F H v1 v2 Q s r1 r2 e k
  unfold oCmp at e
  cases q1 : pyOf d1 with
  | none => rw [q1] at e; cases e
  | some p =>
    cases q2 : pyOf d2 with
    | none => rw [q1, q2] at e; cases e
    | some q =>
      rw [q1, q2] at e
      cases e
      obtain ⟨a1, b1⟩ := pyOf_some q1
      obtain ⟨a2, b2⟩ := pyOf_some q2
      exact ⟨p, q, (r1.rep s).dp a1, (r2.rep s).dp a2, b1, b2, k _ F H (Ext.refl s) (show Rep W F (.bl _) (.bl _) from .bl)⟩
def oLt (f : PyData → PyData → Bool) (a b : D) : Option Hd := match pyOf a, toPy b with
  | some p, some q => if PySem.W.alike p q = true ∧ isNn p = false then some (.fz (.bl (f p q))) else none
  | _, _ => none
theorem prim_lt {f : PyData → PyData → Bool} : Prim2 W (rLt2 W.K f) (oLt f) := by
  intro d1 d2 hd F H v1 v2 Q s r1 r2 e k
  unfold oLt at e
  cases q1 : pyOf d1 with
  | none => rw [q1] at e; cases e
  | some p =>
    cases q2 : toPy d2 with
    | none => rw [q1, q2] at e; cases e
    | some q =>
      rw [q1, q2] at e
      simp only at e
      by_cases c : PySem.W.alike p q = true ∧ isNn p = false
      · rw [if_pos c] at e
        cases e
        obtain ⟨a1, b1⟩ := pyOf_some q1
        exact ⟨p, q, (r1.rep s).dp a1, (r2.rep s).dp q2, b1, c.1, c.2, k _ F H (Ext.refl s) (show Rep W F (.bl _) (.bl _) from .bl)⟩
      · rw [if_neg c] at e; cases e
/-- ints first: the order of ints by itself -/
def oLtI (g : Int → Int → Bool) (f : PyData → PyData → Bool) (a b : D) : Option Hd := match a, b with
  | .int i, .int j => some (.fz (.bl (g i j)))
  | a, b => oLt f a b
def oIn (neg : Bool) (a b : D) : Option Hd := match pyOf a, toPy b with
  | some p, some (.list qs) => if PyData.plainAll qs = true then some (.fz (.bl (neg ^^ qs.any fun z => PyData.eqv z p))) else none
  | some p, some (.tuple qs) => if PyData.plainAll qs = true then some (.fz (.bl (neg ^^ qs.any fun z => PyData.eqv z p))) else none
  | _, _ => none
theorem prim_in {neg : Bool} : Prim2 W (rIn2 W.K neg) (oIn neg) := by
  intro d1 d2 hd F H v1 v2 Q s r1 r2 e k
  unfold oIn at e
  cases q1 : pyOf d1 with
  | none => rw [q1] at e; cases e
  | some p =>
    obtain ⟨a1, b1⟩ := pyOf_some q1
    cases q2 : toPy d2 with
    | none => rw [q1, q2] at e; cases e
    | some q =>
      rw [q1, q2] at e
      cases q with
      | list qs =>
        simp only at e
        by_cases c : PyData.plainAll qs = true
        · rw [if_pos c] at e
          cases e
          exact ⟨p, qs, (r1.rep s).dp a1, .inl ((r2.rep s).dp q2), b1, c, k _ F H (Ext.refl s) (show Rep W F (.bl _) (.bl _) from .bl)⟩
        · rw [if_neg c] at e; cases e
      | tuple qs =>
        simp only at e
        by_cases c : PyData.plainAll qs = true
        · rw [if_pos c] at e
          cases e
          exact ⟨p, qs, (r1.rep s).dp a1, .inr ((r2.rep s).dp q2), b1, c, k _ F H (Ext.refl s) (show Rep W F (.bl _) (.bl _) from .bl)⟩
        · rw [if_neg c] at e; cases e
      | _ => cases e
theorem Prim2.or {r r' : R2} {g g' : D → D → Option Hd} (h : Prim2 W r g) (h' : Prim2 W r' g') : Prim2 W (fun x y H Q => r x y H Q ∨ r' x y H Q) (fun a b => match g a b with | some h => some h | none => g' a b) := by
  intro d1 d2 hd F H v1 v2 Q s r1 r2 e k
  cases q : g d1 d2 with
  | some z => simp only [q] at e; cases e; exact .inl (h d1 d2 _ F H v1 v2 Q s r1 r2 q k)
  | none => simp only [q] at e; exact .inr (h' d1 d2 _ F H v1 v2 Q s r1 r2 e k)
theorem Prim2.congr {r : R2} {g g' : D → D → Option Hd} (h : Prim2 W r g) (e : ∀ a b, g' a b = g a b) : Prim2 W r g' := by
  have : g' = g := funext fun a => funext fun b => e a b
  rw [this]
  exact h

/-! ### ints -/
def oI (g : Int → Int → D) (a b : D) : Option Hd := match a, b with
  | .int i, .int j => some (.fz (g i j))
  | _, _ => none
def oIc (c : Int → Int → Bool) (g : Int → Int → D) (a b : D) : Option Hd := match a, b with
  | .int i, .int j => if c i j = true then some (.fz (g i j)) else none
  | _, _ => none
theorem prim_int2 {g : D → D → Option Hd} {r : R2} (h : ∀ d1 d2 hd, g d1 d2 = some hd → ∃ i j z, d1 = .int i ∧ d2 = .int j ∧ hd = .fz z ∧ ∀ F : Hp, ∃ v, Rep W F z v ∧ ∀ H (Q : VK), Q v H → r (.int i) (.int j) H Q) : Prim2 W r g := by
  intro d1 d2 hd F H v1 v2 Q s r1 r2 e k
  obtain ⟨i, j, z, rfl, rfl, rfl, q⟩ := h d1 d2 hd e
  cases r1.int
  cases r2.int
  obtain ⟨v, rv, p⟩ := q F
  exact p H Q (k v F H (Ext.refl s) rv)
theorem prim_oI {g : Int → Int → D} {f : Int → Int → V} (hg : ∀ F i j, Rep W F (g i j) (f i j)) : Prim2 W (rI0 f) (oI g) := prim_int2 fun d1 d2 hd e => by
  cases d1 with
  | int i =>
    cases d2 with
    | int j => cases e; exact ⟨i, j, _, rfl, rfl, rfl, fun F => ⟨f i j, hg F i j, fun H Q q => ⟨i, j, rfl, rfl, q⟩⟩⟩
    | _ => cases e
  | _ => cases e
theorem prim_oIc {c : Int → Int → Bool} {C : Int → Int → Prop} {g : Int → Int → D} {f : Int → Int → V} (hc : ∀ i j, c i j = true → C i j) (hg : ∀ F i j, Rep W F (g i j) (f i j)) : Prim2 W (rI C f) (oIc c g) := prim_int2 fun d1 d2 hd e => by
  cases d1 with
  | int i =>
    cases d2 with
    | int j =>
      have e' : (if c i j = true then some (Hd.fz (g i j)) else none) = some hd := e
      by_cases h : c i j = true
      · rw [if_pos h] at e'
        cases e'
        exact ⟨i, j, _, rfl, rfl, rfl, fun F => ⟨f i j, hg F i j, fun H Q q => ⟨i, j, rfl, rfl, hc i j h, q⟩⟩⟩
      · rw [if_neg h] at e'; cases e'
    | _ => cases e
  | _ => cases e
abbrev oSub := oI fun i j => .int (i - j)
theorem prim_sub : Prim2 W (rI0 fun i j => .int (i - j)) oSub := prim_oI fun _ _ _ => .int
def cMul (i j : Int) : Bool := (decide (-(2 ^ 64) < i) && decide (i < 2 ^ 64)) || (decide (-(2 ^ 64) < j) && decide (j < 2 ^ 64))
theorem cMul_ok (i j : Int) (h : cMul i j = true) : CMul i j := by
  unfold cMul at h
  rcases Bool.or_eq_true_iff.mp h with h | h
  · obtain ⟨a, b⟩ := Bool.and_eq_true_iff.mp h
    exact .inl ⟨of_decide_eq_true a, of_decide_eq_true b⟩
  · obtain ⟨a, b⟩ := Bool.and_eq_true_iff.mp h
    exact .inr ⟨of_decide_eq_true a, of_decide_eq_true b⟩
abbrev oMulI := oIc cMul fun i j => .int (i * j)
theorem prim_mulI : Prim2 W (rI CMul fun i j => .int (i * j)) oMulI := prim_oIc cMul_ok fun _ _ _ => .int
def cDiv (i j : Int) : Bool := decide (0 < j) && decide (j < 1073741824)
theorem cDiv_ok (i j : Int) (h : cDiv i j = true) : CDiv i j := by
  obtain ⟨a, b⟩ := Bool.and_eq_true_iff.mp h
  exact ⟨of_decide_eq_true a, of_decide_eq_true b⟩
abbrev oFdiv := oIc cDiv fun i j => .int (i / j)
theorem prim_fdiv : Prim2 W (rI CDiv fun i j => .int (i / j)) oFdiv := prim_oIc cDiv_ok fun _ _ _ => .int
abbrev oMod := oIc (fun _ j => decide (0 < j)) fun i j => .int (i % j)
theorem prim_mod : Prim2 W (rI (fun _ j => 0 < j) fun i j => .int (i % j)) oMod := prim_oIc (fun _ _ h => of_decide_eq_true h) fun _ _ _ => .int
def cPow (i j : Int) : Bool := decide (0 ≤ j) && (decide (j ≤ 1000000) && decide (i.natAbs < 2 ^ 64))
theorem cPow_ok (i j : Int) (h : cPow i j = true) : CPow i j := by
  obtain ⟨a, b⟩ := Bool.and_eq_true_iff.mp h
  obtain ⟨b, c⟩ := Bool.and_eq_true_iff.mp b
  exact ⟨of_decide_eq_true a, of_decide_eq_true b, of_decide_eq_true c⟩
abbrev oPow := oIc cPow fun i j => .int (i ^ j.toNat)
theorem prim_pow : Prim2 W (rI CPow fun i j => .int (i ^ j.toNat)) oPow := prim_oIc cPow_ok fun _ _ _ => .int
def oNeg (a : D) : Option Hd := match a with
  | .int i => some (.fz (.int (-i)))
  | _ => none
theorem prim_neg : Prim1 W (rU fun i => .int (-i)) oNeg := by
  intro d hd F H v Q s r e k
  cases d with
  | int i => cases r.int; cases e; exact ⟨i, rfl, k _ F H (Ext.refl s) (show Rep W F (.int _) (.int _) from .int)⟩
  | _ => cases e
/-! none -/
def oIs (neg : Bool) (a b : D) : Option Hd := match a, b with
  | .non, .non => some (.fz (.bl (!neg)))
  | _, .non => some (.fz (.bl neg))
  | _, _ => none
def isNonD : D → Bool
  | .non => true
  | _ => false
theorem isN_of {F H : Hp} {d : D} {v : V} (s : Same F H) (r : RepB W F H d v) : decide (v = .non) = isNonD d := by
  cases d with
  | non => rw [r.non]; rfl
  | bl b => rw [r.bl]; rfl
  | int i => rw [r.int]; rfl
  | str x => rw [r.str]; rfl
  | tup xs => obtain ⟨a, vs, rfl, _⟩ := r.tup s; rfl
  | lst xs => obtain ⟨a, vs, rfl, _⟩ := r.lst s; rfl
  | scr xs => obtain ⟨a, rfl, _⟩ := r.scr s; rfl
  | ins c ns ds => obtain ⟨a, dx, fs, rfl, _⟩ := r.ins s; rfl
  | ty n => rw [r.ty]; rfl
  | cls n => rw [r.cls]; rfl
  | dct ks vs =>
    rcases r with r | ⟨a, rfl, n, z⟩
    · cases r
    · exact z.elim
theorem prim_is : Prim2 W (fun x y H Q => y = .non ∧ Q (.bl (decide (x = .non))) H) (oIs false) := by
  intro d1 d2 hd F H v1 v2 Q s r1 r2 e k
  have h := isN_of s r1
  cases d2 with
  | non =>
    refine ⟨r2.non, ?_⟩
    rw [h]
    cases d1 <;> (cases e; exact k _ F H (Ext.refl s) (show Rep W F (.bl _) (.bl _) from .bl))
  | _ => cases d1 <;> cases e
theorem prim_isnot : Prim2 W (fun x y H Q => y = .non ∧ Q (.bl (!decide (x = .non))) H) (oIs true) := by
  intro d1 d2 hd F H v1 v2 Q s r1 r2 e k
  have h := isN_of s r1
  cases d2 with
  | non =>
    refine ⟨r2.non, ?_⟩
    rw [h]
    cases d1 <;> (cases e; exact k _ F H (Ext.refl s) (show Rep W F (.bl _) (.bl _) from .bl))
  | _ => cases d1 <;> cases e
/-! sums of ints, texts, tuples, lists -/
def oAdd (a b : D) : Option Hd := match a, b with
  | .int i, .int j => some (.fz (.int (i + j)))
  | .str x, .str y => if x.length + y.length ≤ 16777216 then some (.fz (.str (x ++ y))) else none
  | .tup xs, .tup ys => if xs.length + ys.length ≤ 16777216 then some (.fz (.tup (xs ++ ys))) else none
  | .lst xs, .lst ys => if xs.length + ys.length ≤ 16777216 then some (.own (.lst (xs ++ ys))) else none
  | _, _ => none
def rAddStr : R2 := fun x y H Q => ∃ i j, x = .str i ∧ y = .str j ∧ i.length + j.length ≤ sizeLine ∧ Q (.str (i ++ j)) H
def rAdd4 (K : PySem.W.Frag) : R2 := fun x y H Q => ((rI0 (fun i j => .int (i + j)) x y H Q ∨ rAddStr x y H Q) ∨ rCatA K x y H Q) ∨ rCat x y H Q
theorem op_add4 : OpR X (binaryOp .Add) (rAdd4 X.K) := ((op_add.or op_add_str).or op_catA).or op_cat
theorem prim_add : Prim2 W (rAdd4 W.K) oAdd := by
  intro d1 d2 hd F H v1 v2 Q s r1 r2 e k
  have hz : (16777216 : Nat) = sizeLine := sizeLine_eq.symm
  cases d1 with
  | int i =>
    cases d2 with
    | int j => cases r1.int; cases r2.int; cases e; exact .inl (.inl (.inl ⟨i, j, rfl, rfl, k _ F H (Ext.refl s) (show Rep W F (.int _) (.int _) from .int)⟩))
    | _ => cases e
  | str x =>
    cases d2 with
    | str y =>
      cases r1.str
      cases r2.str
      have e' : (if x.length + y.length ≤ 16777216 then some (Hd.fz (.str (x ++ y))) else none) = some hd := e
      by_cases c : x.length + y.length ≤ 16777216
      · rw [if_pos c] at e'; cases e'
        exact .inl (.inl (.inr ⟨x, y, rfl, rfl, by rw [← hz]; exact c, k _ F H (Ext.refl s) (show Rep W F (.str _) (.str _) from .str)⟩))
      · rw [if_neg c] at e'; cases e'
    | _ => cases e
  | tup xs =>
    cases d2 with
    | tup ys =>
      have e' : (if xs.length + ys.length ≤ 16777216 then some (Hd.fz (.tup (xs ++ ys))) else none) = some hd := e
      by_cases c : xs.length + ys.length ≤ 16777216
      · rw [if_pos c] at e'; cases e'
        have r1' := r1
        have r2' := r2
        obtain ⟨a, us, rfl, q1, w1⟩ := r1.tup s
        obtain ⟨b, ws, rfl, q2, w2⟩ := r2.tup s
        refine .inl (.inr ⟨a, b, us, ws, rfl, rfl, q1, q2, by rw [← w1.length, ← w2.length, ← hz]; exact c, fun h => ?_, fun _ h => ?_, fun _ _ p hp => ?_⟩)
        · subst h
          cases w1
          rw [List.nil_append] at k
          refine k _ F H (Ext.refl s) ?_
          rcases r2' with r | ⟨_, _, _, z⟩
          · exact r
          · exact z.elim
        · subst h
          cases w2
          rw [List.append_nil] at k
          refine k _ F H (Ext.refl s) ?_
          rcases r1' with r | ⟨_, _, _, z⟩
          · exact r
          · exact z.elim
        · exact k _ _ _ (Ext.alloc (o := .tup (us ++ ws)) s hp) (show Rep W _ (.tup _) (.ref p) from .tup (SqT.of upd_same) ((w1.append w2).mono (same_upd (s.free hp))))
      · rw [if_neg c] at e'; cases e'
    | _ => cases e
  | lst xs =>
    cases d2 with
    | lst ys =>
      have e' : (if xs.length + ys.length ≤ 16777216 then some (Hd.own (.lst (xs ++ ys))) else none) = some hd := e
      by_cases c : xs.length + ys.length ≤ 16777216
      · rw [if_pos c] at e'; cases e'
        obtain ⟨a, us, rfl, q1, w1⟩ := r1.lst s
        obtain ⟨b, ws, rfl, q2, w2⟩ := r2.lst s
        refine .inr ⟨a, b, us, ws, rfl, rfl, q1, q2, by rw [← w1.length, ← w2.length, ← hz]; exact c, fun p hp => ?_⟩
        exact k _ _ _ (Ext.allocO (o := .lst (us ++ ws)) s hp) ⟨p, rfl, s.free hp, hp, _, upd_same, w1.append w2⟩
      · rw [if_neg c] at e'; cases e'
    | _ => cases e
  | _ => cases e
end
end VL

set_option Elab.async false
set_option linter.all false
set_option maxRecDepth 100000
set_option maxHeartbeats 1000000
namespace VL
open PySem PySem.Spec PyProof.Rows L2

/-! ### arguments -/
inductive OpsR (W : Wo) (F : Hp) (σ : Sg) : List Op → List V → Prop
  | nil : OpsR W F σ [] []
  | fz {d v os vs} : Rep W F d v → OpsR W F σ os vs → OpsR W F σ (.fz d :: os) (v :: vs)
  | slot {i v os vs} : σ[i]? = some (some v) → OpsR W F σ os vs → OpsR W F σ (.slot i :: os) (v :: vs)
def POps (W : Wo) : Pd (List Op) (List V) := fun σ Hs F H S os vs => OpsR W F σ os vs
theorem anti_ops {W : Wo} : Anti (POps W) := fun _ _ _ _ _ _ _ _ _ p => p
theorem OpsR.mono {W : Wo} {F F' : Hp} {σ : Sg} (s : Same F F') : ∀ {os : List Op} {vs : List V}, OpsR W F σ os vs → OpsR W F' σ os vs
  | _, _, .nil => .nil
  | _, _, .fz a b => .fz (a.mono s) (OpsR.mono s b)
  | _, _, .slot a b => .slot a (OpsR.mono s b)
theorem OpsR.cons {W : Wo} {F H Hs : Hp} {S : Sl} {σ : Sg} {o : Op} {v : V} {os : List Op} {vs : List V} (p : POp W σ Hs F H S o v) (r : OpsR W F σ os vs) : OpsR W F σ (o :: os) (v :: vs) := by
  cases o with
  | fz d => exact .fz p r
  | slot i => exact .slot p r
def getAll : List Op → Sl → Option (List D)
  | [], _ => some []
  | o :: os, S => (match o.get S with
    | some d => (match getAll os S with
      | some ds => some (d :: ds)
      | none => none)
    | none => none)
def fzAll : List Op → Option (List D)
  | [] => some []
  | .fz d :: os => (match fzAll os with
    | some ds => some (d :: ds)
    | none => none)
  | .slot _ :: _ => none
theorem OpsR.fzAll {W : Wo} {F : Hp} {σ : Sg} : ∀ {os : List Op} {vs : List V} {ds : List D}, OpsR W F σ os vs → VL.fzAll os = some ds → Reps W F ds vs
  | _, _, _, .nil, e => by cases e; exact .nil
  | _, _, _, .fz (os := os) a b, e => by
    unfold VL.fzAll at e
    cases q : VL.fzAll os with
    | none => rw [q] at e; cases e
    | some ds => rw [q] at e; cases e; exact .cons a (OpsR.fzAll b q)
  | _, _, _, .slot _ _, e => by cases e
theorem OpsR.getAll {W : Wo} {C : Fr} {F H : Hp} {S : Sl} {σ : Sg} (w : Wd W C F S σ H) : ∀ {os : List Op} {vs : List V} {ds : List D}, OpsR W F σ os vs → VL.getAll os S = some ds → RepBs W F H ds vs
  | _, _, _, .nil, e => by cases e; exact .nil
  | _, _, _, .fz (os := os) (d := d) a b, e => by
    have e' : (match VL.getAll os S with | some ds => some (d :: ds) | none => none) = some _ := e
    cases q : VL.getAll os S with
    | none => rw [q] at e'; cases e'
    | some ds => rw [q] at e'; cases e'; exact .cons (.inl a) (OpsR.getAll w b q)
  | _, _, _, .slot (os := os) (i := i) (v := v) a b, e => by
    have e' : (match (Op.slot i).get S with
      | some d => (match VL.getAll os S with
        | some ds => some (d :: ds)
        | none => none)
      | none => none) = some _ := e
    cases q1 : (Op.slot i).get S with
    | none => rw [q1] at e'; cases e'
    | some d =>
      rw [q1] at e'
      cases q : VL.getAll os S with
      | none => simp only [q] at e'; cases e'
      | some ds =>
        simp only [q] at e'
        cases e'
        exact .cons (repB_of_op (W := W) (C := C) (F1 := F) (H1 := H) (Hs := H) (S1 := S) (o := .slot i) a w (Same.refl _) q1) (OpsR.getAll w b q)

abbrev PXa (X : Cx) (W : Wo) (C : Fr) (Wx : WX) (es : List Expr) (f : Sem (List Op)) : Prop := PA X es (rd W C Wx (POps W) f)
def sNil : Sem (List Op) := fun S => .ok [] S
def sCons (f : Sem Op) (g : Sem (List Op)) : Sem (List Op) := fun S => (f S).bind fun o S => (g S).bind fun os S => .ok (o :: os) S
inductive Bo where
  | no | at_ (f : Sem Hd)
/-- a bound of a slice -/
inductive BoOk (X : Cx) (W : Wo) (C : Fr) (Wx : WX) : Option Expr → Bo → Prop
  | no : BoOk X W C Wx none .no
  | at_ {e : Expr} {f : Sem Hd} : PX X W C Wx e f → BoOk X W C Wx (some e) (.at_ f)
section
variable {X : Cx} {W : Wo} {C : Fr} {Wx : WX} {e a b c : Expr} {es : List Expr} {pos : Pos} {f fa fb fc : Sem Hd} {fo : Sem Op} {fs : Sem (List Op)}
theorem pxa_nil : PXa X W C Wx [] sNil := PA.imp pa_nil fun σ H Q ⟨F, S, w, m⟩ => m [] F H w Evo.refl .nil
theorem pxa_cons (ha : PXo X W C Wx e fo) (hr : PXa X W C Wx es fs) (hs : starEach (e :: es) X.env = (false, eval e X.env) :: starEach es X.env := by rfl) : PXa X W C Wx (e :: es) (sCons fo fs) :=
  PA.imp (pa_cons ha hr hs) fun σ H Q ⟨F, S, w, m⟩ => ⟨F, S, w, At.bind anti_ops m fun o S1 v F1 H1 _ w1 e1 p1 m1 => ⟨F1, S1, w1, At.bind anti_ops m1 fun os S2 vs F2 H2 _ w2 e2 p2 m2 =>
    m2 (v :: vs) F2 H2 w2 Evo.refl (OpsR.cons (W := W) (H := H1) (Hs := H1) (S := S1) (by
      cases o with
      | fz d => exact Rep.mono e2.fr p1
      | slot i => exact p1) p2)⟩⟩

/-! ### displays -/
def sTup (f : Sem (List Op)) : Sem Hd := fun S => (f S).bind fun os S => match fzAll os with
  | some ds => if ds.length ≤ 16777216 then .ok (.fz (.tup ds)) S else .bad
  | none => .bad
def sLst (f : Sem (List Op)) : Sem Hd := fun S => (f S).bind fun os S => match fzAll os with
  | some ds => if ds.length ≤ 16777216 then .ok (.own (.lst ds)) S else .bad
  | none => .bad
theorem px_tup {x1} (h : PXa X W C Wx es fs) : PX X W C Wx (.Tuple es x1 pos) (sTup fs) := PE.imp (pe_tup h) fun σ H Q ⟨F, S, w, m⟩ => ⟨F, S, w, At.bind anti_hd m fun os S1 vs F1 H1 _ w1 e1 p1 m1 => by
  cases q : fzAll os with
  | none => simp only [q] at m1; exact m1.elim
  | some ds =>
    simp only [q] at m1
    have r := OpsR.fzAll p1 q
    by_cases c : ds.length ≤ 16777216
    · rw [if_pos c] at m1
      refine ⟨by rw [← r.length, sizeLine_eq]; exact c, fun p hp => ?_⟩
      have ex := Ext.alloc (o := .tup vs) w1.sub hp
      exact m1 _ _ _ (w1.ext ex) ex.evo (show Rep W _ (.tup ds) (.ref p) from .tup (SqT.of upd_same) (r.mono ex.fr))
    · rw [if_neg c] at m1; exact m1.elim⟩
theorem px_lst (h : PXa X W C Wx es fs) : PX X W C Wx (.List es pos) (sLst fs) := PE.imp (pe_lst h) fun σ H Q ⟨F, S, w, m⟩ => ⟨F, S, w, At.bind anti_hd m fun os S1 vs F1 H1 _ w1 e1 p1 m1 => by
  cases q : fzAll os with
  | none => simp only [q] at m1; exact m1.elim
  | some ds =>
    simp only [q] at m1
    have r := OpsR.fzAll p1 q
    by_cases c : ds.length ≤ 16777216
    · rw [if_pos c] at m1
      refine ⟨by rw [← r.length, sizeLine_eq]; exact c, fun p hp => ?_⟩
      have ex := Ext.allocO (o := .lst vs) w1.sub hp
      exact m1 _ _ _ (w1.ext ex) ex.evo (w1.tmp hp ex ⟨vs, upd_same, r⟩ (w1.sub.free hp))
    · rw [if_neg c] at m1; exact m1.elim⟩

/-! ### calls of built-ins -/
def finN (g : List D → Option Hd) (os : List Op) : Sem Hd := fun S => match getAll os S with
  | some ds => (match g ds with | some h => .ok h S | none => .bad)
  | none => .bad
def sCall (g : List D → Option Hd) (f : Sem (List Op)) : Sem Hd := fun S => (f S).bind fun os S => finN g os S
theorem rd_call {g : List D → Option Hd} {r : List V → Hp → VK → Prop} (hp : PrimN W r g) {σ : Sg} {H : Hp} {Q : VK} (h : rd W C Wx (PHd W C) (sCall g fs) σ H Q) : rd W C Wx (POps W) fs σ H fun vs H1 => r vs H1 Q := by
  obtain ⟨F, S, w, m⟩ := h
  refine ⟨F, S, w, At.bind anti_hd m fun os S1 vs F1 H1 _ w1 e1 p1 m1 => ?_⟩
  unfold finN at m1
  cases q : getAll os S1 with
  | none => rw [q] at m1; exact m1.elim
  | some ds =>
    rw [q] at m1
    obtain ⟨hd, e, k⟩ := at_prim w1 m1
    exact hp ds hd F1 H1 vs Q w1.sub (OpsR.getAll w1 p1 q) e k
theorem px_callB {x : Str} {p : Pos} {id : String} {g : List D → Option Hd} {r : List V → Hp → VK → Prop} (hc : CallR X (.builtin id) r) (hp : PrimN W r g) (hm : X.mg x = none) (hv : bootBuiltins x = some (.builtin id)) (ha : PXa X W C Wx (e :: es) fs) (hg : Gl X x := by rfl) (hn : x ≠ "__name__" := by decide) (hdb : (x == ("__debug__" : Str)) = false := by decide)
    (he : starEach (e :: es) X.env = (false, eval e X.env) :: starEach es X.env := by rfl) (hpl : (backTo pos (starEach es X.env)).any (·.1) = false := by rfl) : PX X W C Wx (.Call (.Name x p) (e :: es) [] pos) (sCall g fs) :=
  PE.imp (pe_callB hc hg hm hv ha hn hdb he hpl) fun σ H Q h => rd_call hp h
theorem px_callTy {x : Str} {p : Pos} {T : String} {g : List D → Option Hd} {r : List V → Hp → VK → Prop} (hc : CallR X (.type T) r) (hp : PrimN W r g) (hm : X.mg x = none) (hv : bootBuiltins x = some (.type T)) (ha : PXa X W C Wx (e :: es) fs) (hg : Gl X x := by rfl) (hn : x ≠ "__name__" := by decide) (hdb : (x == ("__debug__" : Str)) = false := by decide)
    (he : starEach (e :: es) X.env = (false, eval e X.env) :: starEach es X.env := by rfl) (hpl : (backTo pos (starEach es X.env)).any (·.1) = false := by rfl) : PX X W C Wx (.Call (.Name x p) (e :: es) [] pos) (sCall g fs) :=
  PE.imp (pe_callTy hc hg hm hv ha hn hdb he hpl) fun σ H Q h => rd_call hp h
/-- a built-in type's name, as a value -/
theorem px_ty {x : Str} {p : Pos} (n : Nat) (hm : X.mg x = none) (hv : bootBuiltins x = some (.type (tyS n))) (hg : Gl X x := by rfl) (hn : x ≠ "__name__" := by decide) (hd : (x == ("__debug__" : Str)) = false := by decide) : PX X W C Wx (.Name x p) (sC (.ty n)) :=
  PE.imp (pe_bltn (v := .ty (tyS n)) hg hm hv rfl hn hd) fun σ H Q h => rd_C (fun _ => .ty) h
/-- a class of one's own, as a value -/
theorem px_cls {x : Str} {p : Pos} (c : Nat) (hm : X.mg x = some (.ref (W.cl c))) (hg : Gl X x := by rfl) (hd : (x == ("__debug__" : Str)) = false := by decide) : PX X W C Wx (.Name x p) (sC (.cls c)) :=
  PE.imp (pe_glob (v := .ref (W.cl c)) hg hm rfl hd) fun σ H Q h => rd_C (fun _ => .cls) h

/-! ### subscripts -/
def oIx (a b : D) : Option Hd := match a, b with
  | .lst xs, .int i => (match atI xs i with | some d => some (.fz d) | none => none)
  | .tup xs, .int i => (match atI xs i with | some d => some (.fz d) | none => none)
  | .scr xs, .int i => (match atI xs i with | some d => some (.fz (.int d)) | none => none)
  | .str z, .int i => if z.length ≤ 16777216 then (match atI z.cps.toList i with | some c => some (.fz (.str ⟨#[c]⟩)) | none => none) else none
  | _, _ => none
theorem Reps.atI {F : Hp} {ds : List D} {vs : List V} {i : Int} {d : D} (r : Reps W F ds vs) (h : L2.atI ds i = some d) : ∃ v, L2.atI vs i = some v ∧ Rep W F d v := by
  unfold L2.atI at h ⊢
  rw [r.length] at h
  cases q : ixN vs.length i with
  | none => rw [q] at h; cases h
  | some j =>
    rw [q] at h
    have h' : ds[j]? = some d := h
    obtain ⟨v, e, rv⟩ := r.get h'
    exact ⟨v, e, rv⟩
theorem prim_ix : Prim2 W (rIx W.K) oIx := by
  intro d1 d2 hd F H v1 v2 Q s r1 r2 e k
  have hz : (16777216 : Nat) = sizeLine := sizeLine_eq.symm
  cases d2 with
  | int i =>
    cases r2.int
    cases d1 with
    | lst xs =>
      have e' : (match L2.atI xs i with | some d => some (Hd.fz d) | none => none) = some hd := e
      cases q : L2.atI xs i with
      | none => rw [q] at e'; cases e'
      | some d =>
        rw [q] at e'; cases e'
        obtain ⟨a, us, rfl, q1, w1⟩ := r1.lst s
        obtain ⟨v, ev, rv⟩ := w1.atI q
        exact .inl ⟨a, us, i, v, rfl, rfl, SqL.of q1, ev, k v F H (Ext.refl s) rv⟩
    | tup xs =>
      have e' : (match L2.atI xs i with | some d => some (Hd.fz d) | none => none) = some hd := e
      cases q : L2.atI xs i with
      | none => rw [q] at e'; cases e'
      | some d =>
        rw [q] at e'; cases e'
        obtain ⟨a, us, rfl, q1, w1⟩ := r1.tup s
        obtain ⟨v, ev, rv⟩ := w1.atI q
        exact .inr (.inl ⟨a, us, i, v, rfl, rfl, q1, ev, k v F H (Ext.refl s) rv⟩)
    | scr xs =>
      have e' : (match L2.atI xs i with | some d => some (Hd.fz (.int d)) | none => none) = some hd := e
      cases q : L2.atI xs i with
      | none => rw [q] at e'; cases e'
      | some d =>
        rw [q] at e'; cases e'
        obtain ⟨a, rfl, q1⟩ := r1.scr s
        refine .inl ⟨a, _, i, .int d, rfl, rfl, q1, ?_, k _ F H (Ext.refl s) (show Rep W F (.int d) (.int d) from .int)⟩
        unfold L2.atI at q ⊢
        rw [List.length_map]
        cases q2 : ixN xs.length i with
        | none => rw [q2] at q; cases q
        | some j =>
          rw [q2] at q
          have q' : xs[j]? = some d := q
          show (xs.map V.int)[j]? = some (V.int d)
          rw [List.getElem?_map, q']
          rfl
    | str z =>
      cases r1.str
      have e' : (if z.length ≤ 16777216 then (match L2.atI z.cps.toList i with | some c => some (Hd.fz (.str ⟨#[c]⟩)) | none => none) else none) = some hd := e
      by_cases c : z.length ≤ 16777216
      · rw [if_pos c] at e'
        cases q : L2.atI z.cps.toList i with
        | none => rw [q] at e'; cases e'
        | some d =>
          rw [q] at e'; cases e'
          exact .inr (.inr ⟨z, i, d, rfl, rfl, by rw [← hz]; exact c, q, k _ F H (Ext.refl s) (show Rep W F (.str _) (.str _) from .str)⟩)
      · rw [if_neg c] at e'; cases e'
    | _ => cases e
  | _ => cases d1 <;> cases e
theorem px_ix (hK : X.K = W.K) (ha : PX X W C Wx a fa) (hb : PX X W C Wx b fb) (hs : PlainIx b := by exact fun _ _ => rfl) : PX X W C Wx (.Subscript a b pos) (sBin oIx (sOp fa) (sOp fb)) :=
  PE.imp (pe_ix ix_seq (pxo ha) (pxo hb) hs) fun σ H Q h => by rw [hK]; exact rd_bin prim_ix h

/-! ### slices -/
def boSem : Bo → Sem (Option Int)
  | .no => fun S => .ok none S
  | .at_ f => fun S => (sOp f S).bind fun o S => match o.get S with
    | some (.int i) => .ok (some i) S
    | _ => .bad
def PBo : Pd (Option Int) (Option Int) := fun σ Hs F H S a b => b = a
theorem anti_bo : Anti PBo := fun _ _ _ _ _ _ _ _ _ p => p
theorem BoOk.po {o : Option Expr} {b : Bo} (h : BoOk X W C Wx o b) : ∃ t, L2.PO X o t ∧ ∀ σ H (Q : Option Int → Hp → Prop), rd W C Wx PBo (boSem b) σ H Q → t σ H Q := by
  cases h with
  | no => exact ⟨_, po_none, fun σ H Q ⟨F, S, w, m⟩ => m none F H w Evo.refl rfl⟩
  | at_ h =>
    rename_i e f
    refine ⟨_, po_some (pxo h), fun σ H Q ⟨F, S, w, m⟩ => ⟨F, S, w, At.bind anti_bo m fun o S1 v F1 H1 _ w1 e1 p1 m1 => ?_⟩⟩
    cases q : o.get S1 with
    | none => simp only [q] at m1; exact m1.elim
    | some d =>
      simp only [q] at m1
      cases d with
      | int i =>
        have r := repB_of_op (C := C) p1 w1 (Same.refl _) q
        exact ⟨i, r.int, m1 (some i) F1 H1 w1 Evo.refl rfl⟩
      | _ => exact m1.elim
def cutD (xs : List D) (lo hi : Option Int) : List D := (xs.drop (HT.sIx xs.length 0 lo)).take (HT.sIx xs.length xs.length hi - HT.sIx xs.length 0 lo)
theorem Reps.cut {F : Hp} {ds : List D} {vs : List V} (r : Reps W F ds vs) (lo hi : Option Int) : Reps W F (cutD ds lo hi) (cutV vs lo hi) := by
  unfold cutD cutV
  rw [r.length]
  exact (r.drop _).take _
theorem cutD_all {xs : List D} {lo hi : Option Int} (h : HT.sIx xs.length 0 lo = 0 ∧ HT.sIx xs.length xs.length hi = xs.length) : cutD xs lo hi = xs := by
  unfold cutD
  rw [h.1, h.2]
  exact List.take_length
def oCut (d : D) (lo hi : Option Int) : Option Hd := match d with
  | .lst xs => some (.own (.lst (cutD xs lo hi)))
  | .tup xs => some (.fz (.tup (cutD xs lo hi)))
  | _ => none
def sCut (f : Sem Op) (lo hi : Sem (Option Int)) : Sem Hd := fun S => (f S).bind fun o S => (lo S).bind fun l S => (hi S).bind fun h S => fin1 (fun d => oCut d l h) o S
def rSl2 (K : PySem.W.Frag) : V → Option Int → Option Int → Hp → VK → Prop := fun x lo hi H Q => rSlL K x lo hi H Q ∨ rSlA K x lo hi H Q
theorem sl_2 : SlR X (rSl2 X.K) := SlR.or sl_list sl_tupA
theorem prim_cut (lo hi : Option Int) : Prim1 W (fun x H Q => rSl2 W.K x lo hi H Q) (fun d => oCut d lo hi) := by
  intro d hd F H v Q s r e k
  cases d with
  | lst xs =>
    cases e
    obtain ⟨a, us, rfl, q1, w1⟩ := r.lst s
    exact .inl ⟨a, us, rfl, SqL.of q1, fun p hp => k _ _ _ (Ext.allocO s hp) ⟨p, rfl, s.free hp, hp, _, upd_same, w1.cut lo hi⟩⟩
  | tup xs =>
    cases e
    have r' := r
    obtain ⟨a, us, rfl, q1, w1⟩ := r.tup s
    refine .inr ⟨a, us, rfl, q1, fun h => ?_, fun _ p hp => ?_⟩
    · rw [← w1.length] at h
      rw [cutD_all h] at k
      refine k _ F H (Ext.refl s) ?_
      rcases r' with r | ⟨_, _, _, z⟩
      · exact r
      · exact z.elim
    · exact k _ _ _ (Ext.alloc (o := .tup (cutV us lo hi)) s hp) (show Rep W _ (.tup _) (.ref p) from .tup (SqT.of upd_same) ((w1.cut lo hi).mono (same_upd (s.free hp))))
  | _ => cases e
theorem px_cut {lo hi : Option Expr} {bl bh : Bo} {p2 : Pos} (hK : X.K = W.K) (ha : PX X W C Wx a fa) (hl : BoOk X W C Wx lo bl) (hh : BoOk X W C Wx hi bh) : PX X W C Wx (.Subscript a (.Slice lo hi none p2) pos) (sCut (sOp fa) (boSem bl) (boSem bh)) := by
  obtain ⟨tl, pl, il⟩ := hl.po
  obtain ⟨th, ph, ih⟩ := hh.po
  refine PE.imp (pe_slice sl_2 (pxo ha) pl ph) fun σ H Q ⟨F, S, w, m⟩ => ⟨F, S, w, At.bind anti_hd m fun o S1 v F1 H1 _ w1 e1 p1 m1 => ?_⟩
  refine il σ H1 _ ⟨F1, S1, w1, At.bind anti_hd m1 fun l S2 l' F2 H2 _ w2 e2 p2 m2 => ?_⟩
  have p2' : l' = l := p2
  subst p2'
  refine ih σ H2 _ ⟨F2, S2, w2, At.bind anti_hd m2 fun h S3 h' F3 H3 _ w3 e3 p3 m3 => ?_⟩
  have p3' : h' = h := p3
  subst p3'
  rw [hK]
  exact at_fin1 (prim_cut l' h') w3 p1 (e2.fr.trans e3.fr) m3

/-! ### built-in functions -/
def oLen (ds : List D) : Option Hd := match ds with
  | [.lst xs] => some (.fz (.int (xs.length : Int)))
  | [.tup xs] => some (.fz (.int (xs.length : Int)))
  | [.scr xs] => some (.fz (.int (xs.length : Int)))
  | [.str z] => if z.length ≤ 16777216 then some (.fz (.int (z.length : Int))) else none
  | _ => none
def rLen2 (K : PySem.W.Frag) : List V → Hp → VK → Prop := fun xs H Q => (∃ p ys, xs = [.ref p] ∧ (SqL K H p ys ∨ SqT K H p ys) ∧ Q (.int ys.length) H) ∨ (∃ z, xs = [.str z] ∧ z.length ≤ sizeLine ∧ Q (.int z.length) H)
theorem call_len2 : CallR X (.builtin "len") (rLen2 X.K) := CallR.or call_len_seq call_len_str
theorem RepBs.one {F H : Hp} {d : D} {vs : List V} (h : RepBs W F H [d] vs) : ∃ v, vs = [v] ∧ RepB W F H d v := by
  cases h with
  | cons a b => cases b; exact ⟨_, rfl, a⟩
theorem RepBs.two {F H : Hp} {d e : D} {vs : List V} (h : RepBs W F H [d, e] vs) : ∃ v u, vs = [v, u] ∧ RepB W F H d v ∧ RepB W F H e u := by
  cases h with
  | cons a b => cases b with
    | cons b c => cases c; exact ⟨_, _, rfl, a, b⟩
theorem RepBs.three {F H : Hp} {d e f : D} {vs : List V} (h : RepBs W F H [d, e, f] vs) : ∃ v u x, vs = [v, u, x] ∧ RepB W F H d v ∧ RepB W F H e u ∧ RepB W F H f x := by
  cases h with
  | cons a b => cases b with
    | cons b c => cases c with
      | cons c z => cases z; exact ⟨_, _, _, rfl, a, b, c⟩
theorem primN_1 {r : List V → Hp → VK → Prop} {g : List D → Option Hd} (h0 : ∀ ds hd, g ds = some hd → ∃ d, ds = [d]) (h : Prim1 W (fun x H Q => r [x] H Q) fun d => g [d]) : PrimN W r g := by
  intro ds hd F H vs Q s rs e k
  obtain ⟨d, rfl⟩ := h0 ds hd e
  obtain ⟨v, rfl, r1⟩ := rs.one
  exact h d hd F H v Q s r1 e k
theorem prim_len : PrimN W (rLen2 W.K) oLen := by
  refine primN_1 (fun ds hd e => ?_) fun d hd F H v Q s r e k => ?_
  · match ds, e with
    | [d], _ => exact ⟨d, rfl⟩
    | [], e => cases e
    | a :: b :: r, e => cases a <;> cases e
  · have hz : (16777216 : Nat) = sizeLine := sizeLine_eq.symm
    have pt : ∀ {i : Int}, PRes W H F H (.fz (.int i)) (.int i) := fun {i} => (show Rep W F (.int i) (.int i) from .int)
    cases d with
    | lst xs =>
      cases e
      obtain ⟨a, us, rfl, q1, w1⟩ := r.lst s
      exact .inl ⟨a, us, rfl, .inl (SqL.of q1), by rw [← w1.length]; exact k _ F H (Ext.refl s) pt⟩
    | tup xs =>
      cases e
      obtain ⟨a, us, rfl, q1, w1⟩ := r.tup s
      exact .inl ⟨a, us, rfl, .inr q1, by rw [← w1.length]; exact k _ F H (Ext.refl s) pt⟩
    | scr xs =>
      cases e
      obtain ⟨a, rfl, q1⟩ := r.scr s
      exact .inl ⟨a, _, rfl, .inl q1, by rw [List.length_map]; exact k _ F H (Ext.refl s) pt⟩
    | str z =>
      cases r.str
      have e' : (if z.length ≤ 16777216 then some (Hd.fz (.int (z.length : Int))) else none) = some hd := e
      by_cases c : z.length ≤ 16777216
      · rw [if_pos c] at e'; cases e'
        exact .inr ⟨z, rfl, by rw [← hz]; exact c, k _ F H (Ext.refl s) pt⟩
      · rw [if_neg c] at e'; cases e'
    | _ => cases e
def oInt (ds : List D) : Option Hd := match ds with
  | [.int i] => some (.fz (.int i))
  | [.bl b] => some (.fz (.int (if b then 1 else 0)))
  | _ => none
theorem prim_int : PrimN W (fun xs H Q => (∃ i, xs = [.int i] ∧ Q (.int i) H) ∨ ∃ k, xs = [.bl k] ∧ Q (.int (if k then 1 else 0)) H) oInt := by
  refine primN_1 (fun ds hd e => ?_) fun d hd F H v Q s r e k => ?_
  · match ds, e with
    | [d], _ => exact ⟨d, rfl⟩
    | [], e => cases e
    | a :: b :: r, e => cases a <;> cases e
  · cases d with
    | int i => cases r.int; cases e; exact .inl ⟨i, rfl, k _ F H (Ext.refl s) (show Rep W F (.int i) (.int i) from .int)⟩
    | bl i => cases r.bl; cases e; exact .inr ⟨i, rfl, k _ F H (Ext.refl s) (show Rep W F (.int _) (.int _) from .int)⟩
    | _ => cases e
/-- list(x), tuple(x) of a list or a tuple -/
def oList (ds : List D) : Option Hd := match ds with
  | [.lst xs] => some (.own (.lst xs))
  | [.tup xs] => some (.own (.lst xs))
  | [.scr xs] => some (.own (.lst (xs.map D.int)))
  | _ => none
def rList1 (K : PySem.W.Frag) : List V → Hp → VK → Prop := fun xs H Q => ∃ p ys, xs = [.ref p] ∧ (SqL K H p ys ∨ SqT K H p ys) ∧ ∀ l, H l = none → Q (.ref l) (upd H l (.lst ys))
theorem prim_list : PrimN W (rList1 W.K) oList := by
  refine primN_1 (fun ds hd e => ?_) fun d hd F H v Q s r e k => ?_
  · match ds, e with
    | [d], _ => exact ⟨d, rfl⟩
    | [], e => cases e
    | a :: b :: r, e => cases a <;> cases e
  · cases d with
    | lst xs =>
      cases e
      obtain ⟨a, us, rfl, q1, w1⟩ := r.lst s
      exact ⟨a, us, rfl, .inl (SqL.of q1), fun p hp => k _ _ _ (Ext.allocO s hp) ⟨p, rfl, s.free hp, hp, _, upd_same, w1⟩⟩
    | tup xs =>
      cases e
      obtain ⟨a, us, rfl, q1, w1⟩ := r.tup s
      exact ⟨a, us, rfl, .inr q1, fun p hp => k _ _ _ (Ext.allocO s hp) ⟨p, rfl, s.free hp, hp, _, upd_same, w1⟩⟩
    | scr xs =>
      cases e
      obtain ⟨a, rfl, q1⟩ := r.scr s
      exact ⟨a, _, rfl, .inl q1, fun p hp => k _ _ _ (Ext.allocO s hp) ⟨p, rfl, s.free hp, hp, _, upd_same, Reps.ints xs⟩⟩
    | _ => cases e
def oTuple (ds : List D) : Option Hd := match ds with
  | [.lst xs] => some (.fz (.tup xs))
  | [.tup xs] => some (.fz (.tup xs))
  | _ => none
def rTuple1 (K : PySem.W.Frag) : List V → Hp → VK → Prop := fun xs H Q => ∃ p ys, xs = [.ref p] ∧ ((SqL K H p ys ∧ ∀ l, H l = none → Q (.ref l) (upd H l (.tup ys))) ∨ (SqT K H p ys ∧ Q (.ref p) H))
theorem prim_tuple : PrimN W (rTuple1 W.K) oTuple := by
  refine primN_1 (fun ds hd e => ?_) fun d hd F H v Q s r e k => ?_
  · match ds, e with
    | [d], _ => exact ⟨d, rfl⟩
    | [], e => cases e
    | a :: b :: r, e => cases a <;> cases e
  · cases d with
    | lst xs =>
      cases e
      obtain ⟨a, us, rfl, q1, w1⟩ := r.lst s
      exact ⟨a, us, rfl, .inl ⟨SqL.of q1, fun p hp => k _ _ _ (Ext.alloc (o := .tup us) s hp) (show Rep W _ (.tup xs) (.ref p) from .tup (SqT.of upd_same) (w1.mono (same_upd (s.free hp))))⟩⟩
    | tup xs =>
      cases e
      have r' := r
      obtain ⟨a, us, rfl, q1, w1⟩ := r.tup s
      refine ⟨a, us, rfl, .inr ⟨q1, k _ F H (Ext.refl s) ?_⟩⟩
      rcases r' with r | ⟨_, _, _, z⟩
      · exact r
      · exact z.elim
    | _ => cases e
/-- the ints of data -/
def intsOf : List D → Option (List Int)
  | [] => some []
  | .int i :: r => (match intsOf r with | some is => some (i :: is) | none => none)
  | _ :: _ => none
theorem intsOf_map : ∀ {ds : List D} {is : List Int}, intsOf ds = some is → ds = is.map D.int
  | [], _, e => by cases e; rfl
  | .int i :: r, is, e => by
    unfold intsOf at e
    cases q : intsOf r with
    | none => rw [q] at e; cases e
    | some js => rw [q] at e; cases e; rw [List.map_cons, ← intsOf_map q]
  | .non :: _, _, e => by cases e
  | .bl _ :: _, _, e => by cases e
  | .str _ :: _, _, e => by cases e
  | .tup _ :: _, _, e => by cases e
  | .lst _ :: _, _, e => by cases e
  | .dct _ _ :: _, _, e => by cases e
  | .ins _ _ _ :: _, _, e => by cases e
  | .scr _ :: _, _, e => by cases e
  | .ty _ :: _, _, e => by cases e
  | .cls _ :: _, _, e => by cases e
theorem intsOf_of : ∀ (is : List Int), intsOf (is.map D.int) = some is
  | [] => rfl
  | i :: is => by
    rw [List.map_cons]
    unfold intsOf
    rw [intsOf_of is]
theorem Reps.toInts {F : Hp} : ∀ {is : List Int} {vs : List V}, Reps W F (is.map D.int) vs → vs = is.map V.int
  | [], _, .nil => rfl
  | i :: is, _, .cons a b => by cases a; rw [List.map_cons, Reps.toInts b]
def isrt (x : Int) : List Int → List Int
  | [] => [x]
  | y :: r => if x ≤ y then x :: y :: r else y :: isrt x r
def srt : List Int → List Int
  | [] => []
  | x :: r => isrt x (srt r)
theorem isrt_perm (x : Int) : ∀ l : List Int, (isrt x l).Perm (x :: l)
  | [] => .refl _
  | y :: r => by
    unfold isrt
    by_cases h : x ≤ y
    · rw [if_pos h]
    · rw [if_neg h]
      exact ((isrt_perm x r).cons y).trans (List.Perm.swap x y r)
theorem srt_perm : ∀ l : List Int, (srt l).Perm l
  | [] => .refl _
  | x :: r => (isrt_perm x (srt r)).trans ((srt_perm r).cons x)
theorem isrt_sorted (x : Int) : ∀ l : List Int, l.Pairwise (· ≤ ·) → (isrt x l).Pairwise (· ≤ ·)
  | [], _ => List.pairwise_singleton _ _
  | y :: r, h => by
    unfold isrt
    obtain ⟨h1, h2⟩ := List.pairwise_cons.mp h
    by_cases c : x ≤ y
    · rw [if_pos c]
      refine List.pairwise_cons.mpr ⟨fun z hz => ?_, h⟩
      rcases List.mem_cons.mp hz with rfl | hz
      · exact c
      · exact Int.le_trans c (h1 z hz)
    · rw [if_neg c]
      refine List.pairwise_cons.mpr ⟨fun z hz => ?_, isrt_sorted x r h2⟩
      rcases List.mem_cons.mp ((isrt_perm x r).mem_iff.mp hz) with rfl | hz
      · omega
      · exact h1 z hz
theorem srt_sorted : ∀ l : List Int, (srt l).Pairwise (· ≤ ·)
  | [] => .nil
  | x :: r => isrt_sorted x _ (srt_sorted r)
theorem sorted_unique : ∀ {l m : List Int}, l.Perm m → l.Pairwise (· ≤ ·) → m.Pairwise (· ≤ ·) → l = m
  | [], m, p, _, _ => (List.Perm.nil_eq p)
  | x :: r, [], p, _, _ => absurd p.length_eq (by simp)
  | x :: r, y :: t, p, h1, h2 => by
    obtain ⟨a1, a2⟩ := List.pairwise_cons.mp h1
    obtain ⟨b1, b2⟩ := List.pairwise_cons.mp h2
    have hx : x ∈ y :: t := p.mem_iff.mp List.mem_cons_self
    have hy : y ∈ x :: r := p.mem_iff.mpr List.mem_cons_self
    have e : x = y := by
      rcases List.mem_cons.mp hx with e | hx
      · exact e
      · rcases List.mem_cons.mp hy with e | hy
        · exact e.symm
        · have q1 := a1 y hy
          have q2 := b1 x hx
          omega
    subst e
    rw [sorted_unique (List.Perm.cons_inv p) a2 b2]
/-- sorted(x) of ints -/
def oSorted (ds : List D) : Option Hd := match ds with
  | [.lst xs] => (match intsOf xs with | some is => some (.own (.lst ((srt is).map D.int))) | none => none)
  | _ => none
theorem prim_sorted : PrimN W (rSortedI W.K) oSorted := by
  refine primN_1 (fun ds hd e => ?_) fun d hd F H v Q s r e k => ?_
  · match ds, e with
    | [d], _ => exact ⟨d, rfl⟩
    | [], e => cases e
    | a :: b :: r, e => cases a <;> cases e
  · cases d with
    | lst xs =>
      have e' : (match intsOf xs with | some is => some (Hd.own (.lst ((srt is).map D.int))) | none => none) = some hd := e
      cases q : intsOf xs with
      | none => rw [q] at e'; cases e'
      | some is =>
        rw [q] at e'; cases e'
        obtain ⟨a, us, rfl, q1, w1⟩ := r.lst s
        rw [intsOf_map q] at w1
        have eu := w1.toInts
        subst eu
        refine ⟨a, is, rfl, SqL.of q1, fun out p hp hs hn => ?_⟩
        have eo : out = srt is := sorted_unique (hp.trans (srt_perm is).symm) hs (srt_sorted is)
        rw [eo]
        exact k _ _ _ (Ext.allocO s hn) ⟨p, rfl, s.free hn, hn, _, upd_same, Reps.ints _⟩
    | _ => cases e
end
end VL

set_option Elab.async false
set_option linter.all false
set_option maxRecDepth 100000
set_option maxHeartbeats 1000000
namespace VL
open PySem PySem.Spec PyProof.Rows L2

/-! ### statements -/
inductive SR where
  | nx (S : Sl) | rt (o : Bool) (d : D) (S : Sl) | bk (S : Sl) | ct (S : Sl) | ex (x : Exc) (S : Sl) | bad
abbrev SS := Sl → SR
def RtOk (W : Wo) (C : Fr) (F H : Hp) (o : Bool) (d : D) (v : V) : Prop := match o with
  | true => ∃ a, v = V.ref a ∧ F a = none ∧ OwnAt W F H d a ∧ C.H0 a = none
  | false => Rep W F d v
def SAt (W : Wo) (C : Fr) (Wx : WX) (D' : Ends) (F : Hp) (r : SR) : Prop := match r with
  | .nx S' => ∀ σ' F' H', Wd W C F' S' σ' H' → Same F F' → D'.nx σ' H'
  | .rt o d S' => ∀ v σ' F' H', Wd W C F' S' σ' H' → Same F F' → RtOk W C F' H' o d v → D'.rt v H'
  | .bk S' => ∀ σ' F' H', Wd W C F' S' σ' H' → Same F F' → D'.bk σ' H'
  | .ct S' => ∀ σ' F' H', Wd W C F' S' σ' H' → Same F F' → D'.ct σ' H'
  | .ex x S' => ∀ cls dx σ' F' H', Wd W C F' S' σ' H' → Same F F' → ExOk W F' H' x cls dx → Wx cls dx σ' H'
  | .bad => False
def tS (W : Wo) (C : Fr) (Wx : WX) (g : SS) : TS := fun D' σ H => ∃ F S, Wd W C F S σ H ∧ SAt W C Wx D' F (g S)
abbrev PT1 (X : Cx) (W : Wo) (C : Fr) (Wx : WX) (st : Stmt) (g : SS) : Prop := PS X st (tS W C Wx g)
abbrev PTn (X : Cx) (W : Wo) (C : Fr) (Wx : WX) (st : List Stmt) (g : SS) : Prop := PSs X st (tS W C Wx g)

section
variable {W : Wo} {C : Fr} {Wx : WX} {D' : Ends} {F F1 : Hp}
theorem SAt.fr {r : SR} (s : Same F F1) (h : SAt W C Wx D' F r) : SAt W C Wx D' F1 r := by
  cases r with
  | nx S => exact fun σ' F' H' w q => h σ' F' H' w (s.trans q)
  | rt o d S => exact fun v σ' F' H' w q => h v σ' F' H' w (s.trans q)
  | bk S => exact fun σ' F' H' w q => h σ' F' H' w (s.trans q)
  | ct S => exact fun σ' F' H' w q => h σ' F' H' w (s.trans q)
  | ex x S => exact fun cls dx σ' F' H' w q => h cls dx σ' F' H' w (s.trans q)
  | bad => exact h
/-- an expression, then the rest -/
def rS {α : Type} (r : Res α) (k : α → Sl → SR) : SR := match r with
  | .ok a S => k a S
  | .ex x S => .ex x S
  | .bad => .bad
theorem SAt.expr {α ρ : Type} {σ : Sg} {H : Hp} {S : Sl} {P : Pd α ρ} {r : Res α} {k : α → Sl → SR} {Q : ρ → Hp → Prop} (m : SAt W C Wx D' F (rS r k))
    (h : ∀ a S1 v F1 H1, r = .ok a S1 → Wd W C F1 S1 σ H1 → Evo W S σ F H F1 H1 S1 → P σ H F1 H1 S1 a v → SAt W C Wx D' F1 (k a S1) → Q v H1) : At W C Wx σ P F H S r Q := by
  cases r with
  | ok a S1 => exact fun v F1 H1 w e p => h a S1 v F1 H1 rfl w e p (SAt.fr e.fr m)
  | ex x S1 => exact fun cls dx F' H' w s q => m cls dx σ F' H' w s q
  | bad => exact m
end

section
variable {X : Cx} {W : Wo} {C : Fr} {Wx : WX} {e a b c : Expr} {es : List Expr} {pos : Pos} {f fa fb fc : Sem Hd} {st : Stmt} {rest p q : List Stmt} {g g2 : SS} {t : Sem Bool}
def gNx : SS := fun S => .nx S
def gSeq (g g2 : SS) : SS := fun S => match g S with
  | .nx S1 => g2 S1
  | .rt o d S1 => .rt o d S1
  | .bk S1 => .bk S1
  | .ct S1 => .ct S1
  | .ex x S1 => .ex x S1
  | .bad => .bad
theorem pn_nil : PTn X W C Wx [] gNx := PSs.imp pss_nil fun D' σ H ⟨F, S, w, m⟩ => m σ F H w (Same.refl _)
theorem pn_cons (h1 : PT1 X W C Wx st g) (h2 : PTn X W C Wx rest g2) : PTn X W C Wx (st :: rest) (gSeq g g2) := PSs.imp (pss_cons h1 h2) fun D' σ H ⟨F, S, w, m⟩ => ⟨F, S, w, by
  have m' : SAt W C Wx D' F (match g S with
    | .nx S1 => g2 S1
    | .rt o d S1 => .rt o d S1
    | .bk S1 => .bk S1
    | .ct S1 => .ct S1
    | .ex x S1 => .ex x S1
    | .bad => .bad) := m
  cases r : g S with
  | nx S1 => rw [r] at m'; exact fun σ' F' H' w' s => ⟨F', S1, w', SAt.fr s m'⟩
  | rt o d S1 => rw [r] at m'; exact m'
  | bk S1 => rw [r] at m'; exact m'
  | ct S1 => rw [r] at m'; exact m'
  | ex x S1 => rw [r] at m'; exact m'
  | bad => rw [r] at m'; exact m'⟩
theorem pn_one (h1 : PT1 X W C Wx st g) : PTn X W C Wx [st] g := pss_one h1
theorem p1_pass : PT1 X W C Wx (.Pass pos) gNx := PS.imp ps_pass fun D' σ H ⟨F, S, w, m⟩ => m σ F H w (Same.refl _)
def gBk : SS := fun S => .bk S
def gCt : SS := fun S => .ct S
theorem p1_break : PT1 X W C Wx (.Break pos) gBk := PS.imp ps_break fun D' σ H ⟨F, S, w, m⟩ => m σ F H w (Same.refl _)
theorem p1_continue : PT1 X W C Wx (.Continue pos) gCt := PS.imp ps_continue fun D' σ H ⟨F, S, w, m⟩ => m σ F H w (Same.refl _)
theorem p1_doc {x : Str} {j pos' pos2} : PT1 X W C Wx (.Expr (.Constant (.str x) j pos') pos2) gNx := PS.imp ps_doc fun D' σ H ⟨F, S, w, m⟩ => m σ F H w (Same.refl _)
/-- what the proof never comes to -/
def gBad : SS := fun _ => .bad
theorem p1_never : PT1 X W C Wx st gBad := ⟨fun _ _ _ _ _ _ ⟨_, _, _, m⟩ => m.elim⟩
theorem pn_never : PTn X W C Wx rest gBad := ⟨fun _ _ _ _ _ _ ⟨_, _, _, m⟩ => m.elim⟩

/-! name = e -/
def setHd (i : Nat) (h : Hd) (S : Sl) : SR := match h with
  | .fz d => .nx (S.set i (.va d))
  | .own d => .nx (S.set i (.ow d))
  | .slot k => (match toV (.slot k) S with
    | .ok d S1 => .nx (S1.set i (.va d))
    | _ => .bad)
def gSet (i : Nat) (f : Sem Hd) : SS := fun S => rS (f S) (setHd i)
theorem freeze_slot {σ : Sg} {F H Fs Hs : Hp} {S S1 Ss : Sl} {k : Nat} {d : D} {v : V} (w : Wd W C F S σ H) (ev : Evo W Ss σ Fs Hs F H S) (p : σ[k]? = some (some v)) (e : toV (.slot k) S = .ok d S1) : ∃ F', Wd W C F' S1 σ H ∧ Evo W Ss σ Fs Hs F' H S1 ∧ Same F F' ∧ Rep W F' d v := by
  have e' : (match S[k]? with
    | some (.va d) => Res.ok d S
    | some (.ow d) => Res.ok d (S.set k (.va d))
    | _ => Res.bad) = Res.ok d S1 := e
  cases q : S[k]? with
  | none => rw [q] at e'; cases e'
  | some s =>
    rw [q] at e'
    cases s with
    | va d' =>
      cases e'
      obtain ⟨u, eu, ru⟩ := w.slot k _ q
      rw [p] at eu; cases eu
      exact ⟨F, w, ev, Same.refl _, ru⟩
    | ow d' =>
      cases e'
      obtain ⟨ad, F2, ea, w2, e2, r2⟩ := w.freeze q
      rw [p] at ea; cases ea
      exact ⟨F2, w2, ev.trans e2, e2.fr, r2⟩
    | _ => cases e'
theorem at_setHd {σ : Sg} {F H Hs : Hp} {S : Sl} {i : Nat} {h : Hd} {v : V} {D' : Ends} (w : Wd W C F S σ H) (p : PHd W C σ Hs F H S h v) (m : SAt W C Wx D' F (setHd i h S)) : D'.nx (σ.set i (some v)) H := by
  cases h with
  | fz d => exact m _ F H (w.setVa p) (Same.refl _)
  | own d => exact m _ F H (w.setOw p) (Same.refl _)
  | slot k =>
    have m' : SAt W C Wx D' F (match toV (.slot k) S with
      | .ok d S1 => .nx (S1.set i (.va d))
      | _ => .bad) := m
    cases q : toV (.slot k) S with
    | ok d S1 =>
      rw [q] at m'
      obtain ⟨F1, w1, _, s1, r1⟩ := freeze_slot w (Evo.refl) p q
      exact m' _ F1 H (w1.setVa r1) s1
    | ex x S1 => rw [q] at m'; exact m'.elim
    | bad => rw [q] at m'; exact m'.elim
theorem p1_set (i : Nat) {x : Str} {pos' : Pos} (hN : X.N.Nodup) (he : PX X W C Wx e f) (hi : X.N[i]? = some x := by rfl) (hx : Loc X.env.scope x := by first | exact Or.inl rfl | exact Or.inr rfl) (hs : swapsWith e (some (.Name x pos')) pos.line X.env = pure false := by rfl)
    (hf : X.fn x = true ∨ X.env.scope.names.lookup x = some .local := by first | exact .inl rfl | exact .inr rfl | assumption) : PT1 X W C Wx (.Assign [.Name x pos'] e pos) (gSet i f) :=
  PS.imp (ps_set hN hi hx he hs hf) fun D' σ H ⟨F, S, w, m⟩ => ⟨F, S, w, SAt.expr m fun h S1 v F1 H1 _ w1 e1 p1 m1 => at_setHd w1 p1 m1⟩
/-! return -/
def retHd (h : Hd) (S : Sl) : SR := match h with
  | .fz d => .rt false d S
  | .own d => .rt true d S
  | .slot k => (match S[k]? with
    | some (.va d) => .rt false d S
    | some (.ow d) => .rt true d S
    | _ => .bad)
def gRet (f : Sem Hd) : SS := fun S => rS (f S) retHd
theorem p1_ret (he : PX X W C Wx e f) : PT1 X W C Wx (.Return (some e) pos) (gRet f) :=
  PS.imp (ps_ret he) fun D' σ H ⟨F, S, w, m⟩ => ⟨F, S, w, SAt.expr m fun h S1 v F1 H1 _ w1 e1 p1 m1 => by
    cases h with
    | fz d => exact m1 v σ F1 H1 w1 (Same.refl _) p1
    | own d =>
      obtain ⟨ad, ev, n, z, h0, _⟩ := p1
      exact m1 v σ F1 H1 w1 (Same.refl _) ⟨ad, ev, n, z, h0⟩
    | slot k =>
      have m' : SAt W C Wx D' F1 (match S1[k]? with
        | some (.va d) => .rt false d S1
        | some (.ow d) => .rt true d S1
        | _ => .bad) := m1
      have p2 : σ[k]? = some (some v) := p1
      cases q : S1[k]? with
      | none => rw [q] at m'; exact m'.elim
      | some s =>
        rw [q] at m'
        cases s with
        | va d =>
          obtain ⟨u, eu, ru⟩ := w1.slot k _ q
          rw [p2] at eu; cases eu
          exact m' v σ F1 H1 w1 (Same.refl _) ru
        | ow d =>
          obtain ⟨ad, ea, n, z⟩ := w1.slot k _ q
          rw [p2] at ea; cases ea
          exact m' _ σ F1 H1 w1 (Same.refl _) ⟨ad, rfl, n, z, w1.own k d ad q p2⟩
        | un => exact m'.elim
        | er => exact m'.elim
        | io d => exact m'.elim
        | bo d => exact m'.elim⟩
def gRetN : SS := fun S => .rt false .non S
theorem p1_retN : PT1 X W C Wx (.Return none pos) gRetN := PS.imp ps_retN fun D' σ H ⟨F, S, w, m⟩ => m .non σ F H w (Same.refl _) .non
/-! e -/
def gDrop (f : Sem Hd) : SS := fun S => rS (f S) fun _ S => .nx S
theorem p1_expr (he : PX X W C Wx e f) (hs : swapsWith e none pos.line X.env = pure false := by rfl) : PT1 X W C Wx (.Expr e pos) (gDrop f) :=
  PS.imp (ps_expr he hs) fun D' σ H ⟨F, S, w, m⟩ => ⟨F, S, w, SAt.expr m fun h S1 v F1 H1 _ w1 e1 p1 m1 => m1 σ F1 H1 w1 (Same.refl _)⟩
/-! if -/
def gIf (t : Sem Bool) (g g2 : SS) : SS := fun S => rS (t S) fun b S => if b = true then g S else g2 S
theorem p1_if (hc : PXt X W C Wx c t) (ha : PTn X W C Wx p g) (hb : PTn X W C Wx q g2) : PT1 X W C Wx (.If c p q pos) (gIf t g g2) :=
  PS.imp (ps_if hc ha hb) fun D' σ H ⟨F, S, w, m⟩ => ⟨F, S, w, SAt.expr m fun k S1 v F1 H1 _ w1 e1 p1 m1 => by
    have p2 : v = k := p1
    subst p2
    cases v with
    | true => rw [if_pos rfl] at m1 ⊢; exact ⟨F1, S1, w1, m1⟩
    | false => rw [if_neg Bool.false_ne_true] at m1 ⊢; exact ⟨F1, S1, w1, m1⟩⟩
/-! name op= e, ints -/
def gAug (i : Nat) (op : D → D → Option Hd) (f : Sem Op) : SS := fun S => rS (f S) fun o S => match S[i]? with
  | some (.va d1) => (match o.get S with
    | some d2 => (match op d1 d2 with
      | some (.fz d) => .nx (S.set i (.va d))
      | _ => .bad)
    | none => .bad)
  | _ => .bad
theorem p1_aug {op : Operator} {ti : TIp} {oo : D → D → Option Hd} (i : Nat) {x : Str} {pos' : Pos} (ho : PIp X op ti) (hp : Prim2 W ti oo) (hN : X.N.Nodup) (he : PX X W C Wx e f) (hi : X.N[i]? = some x := by rfl) (hx : Loc X.env.scope x := by first | exact Or.inl rfl | exact Or.inr rfl)
    (hf : X.fn x = true ∨ X.env.scope.names.lookup x = some .local := by first | exact .inl rfl | exact .inr rfl | assumption) : PT1 X W C Wx (.AugAssign (.Name x pos') op e pos) (fun S => match S[i]? with
      | some (.va _) => gAug i oo (sOp f) S
      | _ => .bad) :=
  PS.imp (ps_aug hN hi hx (pxo he) ho hf) fun D' σ H ⟨F, S, w, m⟩ => by
    cases q : S[i]? with
    | none => simp only [q] at m; exact m.elim
    | some s =>
      cases s with
      | va d0 =>
        simp only [q] at m
        obtain ⟨u, eu, ru⟩ := w.slot i _ q
        refine ⟨u, eu, F, S, w, SAt.expr m fun o S1 v F1 H1 _ w1 e1 p1 m1 => ?_⟩
        cases q1 : S1[i]? with
        | none => simp only [q1] at m1; exact m1.elim
        | some s1 =>
          cases s1 with
          | va d1 =>
            simp only [q1] at m1
            obtain ⟨u1, eu1, ru1⟩ := w1.slot i _ q1
            rw [eu] at eu1; cases eu1
            cases q2 : o.get S1 with
            | none => simp only [q2] at m1; exact m1.elim
            | some d2 =>
              simp only [q2] at m1
              cases q3 : oo d1 d2 with
              | none => simp only [q3] at m1; exact m1.elim
              | some hd =>
                simp only [q3] at m1
                cases hd with
                | fz d => exact hp d1 d2 _ F1 H1 _ _ _ w1.sub (.inl ru1) (repB_of_op p1 w1 (Same.refl _) q2) q3 fun z F2 H2 ex pr => m1 _ F2 H2 ((w1.ext ex).setVa pr) ex.fr
                | own d => exact m1.elim
                | slot k => exact m1.elim
          | un => simp only [q1] at m1; exact m1.elim
          | er => simp only [q1] at m1; exact m1.elim
          | ow d => simp only [q1] at m1; exact m1.elim
          | io d => simp only [q1] at m1; exact m1.elim
          | bo d => simp only [q1] at m1; exact m1.elim
      | un => simp only [q] at m; exact m.elim
      | er => simp only [q] at m; exact m.elim
      | ow d => simp only [q] at m; exact m.elim
      | io d => simp only [q] at m; exact m.elim
      | bo d => simp only [q] at m; exact m.elim
theorem prim_ipI {g : Int → Int → Int} : Prim2 W (ipI g) (oI fun i j => .int (g i j)) := prim_int2 fun d1 d2 hd e => by
  cases d1 with
  | int i =>
    cases d2 with
    | int j => cases e; exact ⟨i, j, _, rfl, rfl, rfl, fun F => ⟨.int (g i j), .int, fun H Q q => ⟨i, j, rfl, rfl, q⟩⟩⟩
    | _ => cases e
  | _ => cases e

/-! ### lists changed by methods -/
/-- a method of the list in slot k, with its new content and its answer -/
theorem wr_lst {σ : Sg} {F H : Hp} {S : Sl} {k : Nat} {s : Slot} {ds : List D} (w : Wd W C F S σ H) (h : S[k]? = some s) (hw : s.wr = true) (hg : s.got = some (.lst ds)) : ∃ a vs, σ[k]? = some (some (V.ref a)) ∧ H a = some (.lst vs) ∧ Reps W F ds vs := by
  obtain ⟨a, e, n, vs, hv, r⟩ := (w.slot k s h).wr hw hg
  exact ⟨a, vs, e, hv, r⟩
def wrLst (S : Sl) (k : Nat) : Option (Slot × List D) := match S[k]? with
  | some s => if s.wr = true then (match s.got with
    | some (.lst ds) => some (s, ds)
    | _ => none) else none
  | none => none
theorem wrLst_some {S : Sl} {k : Nat} {s : Slot} {ds : List D} (h : wrLst S k = some (s, ds)) : S[k]? = some s ∧ s.wr = true ∧ s.got = some (.lst ds) := by
  unfold wrLst at h
  cases q : S[k]? with
  | none => rw [q] at h; cases h
  | some s' =>
    simp only [q] at h
    by_cases c : s'.wr = true
    · rw [if_pos c] at h
      cases q2 : s'.got with
      | none => simp only [q2] at h; cases h
      | some d =>
        simp only [q2] at h
        cases d with
        | lst ds' => cases h; exact ⟨rfl, c, q2⟩
        | _ => cases h
    · rw [if_neg c] at h; cases h
/-- xs.append(e) -/
def sAppend (k : Nat) (f : Sem Hd) : Sem Hd := fun S => match wrLst S k with
  | some _ => (sV f S).bind fun d S => (match wrLst S k with
    | some (s, ds) => if ds.length < 16777216 then .ok (.fz .non) (S.set k (s.put (.lst (ds ++ [d])))) else .bad
    | none => .bad)
  | none => .bad
theorem px_append (k : Nat) {x : Str} {p p2 : Pos} (he : PX X W C Wx e f) (hN : X.N[k]? = some x := by rfl) (hv : Vis X.env.scope x := by first | exact Or.inl rfl | exact Or.inr (Or.inl rfl) | exact Or.inr (Or.inr rfl)) (hd : (x == ("__debug__" : Str)) = false := by decide)
    (hcd : (x == ("__classdict__" : Str)) = false := by decide) (hs : starEach [e] X.env = (false, eval e X.env) :: starEach [] X.env := by rfl)
    (hbase : attributeBase (.Name x p) "append" X.env (eval (.Name x p) X.env) = eval (.Name x p) X.env := by rfl)
    (hfew : ((backTo pos (starEach [e] X.env)).all (fun x => !x.1) && (backToKw pos (keywordEach [] X.env)).all (fun x => x.1.isSome)
      && decide (([e] : List Expr).length + ([] : List Keyword).length + (if ([] : List Keyword).isEmpty then 0 else 1) < 30)) = true := by rfl)
    (hline : (p2.endLine == pos.line) = true := by rfl) (hplain : (backTo pos (starEach [] X.env)).any (·.1) = false := by rfl) :
    PX X W C Wx (.Call (.Attribute (.Name x p) "append" p2) [e] [] pos) (sAppend k f) := by
  refine PE.imp (pe_bm PySem.F.plainAttrs_list PySem.F.slot_list_append PySem.F.type_list_append mt_append (pe_var hN hv hd hcd) (pa_cons (pxv he) pa_nil hs) hbase hfew hline hs hplain) fun σ H Q ⟨F, S, w, m⟩ => ?_
  unfold sAppend at m
  cases q : wrLst S k with
  | none => rw [q] at m; exact m.elim
  | some sd =>
    rw [q] at m
    obtain ⟨s0, ds0⟩ := sd
    obtain ⟨h1, h2, h3⟩ := wrLst_some q
    obtain ⟨ad, vs0, ea, hv0, r0⟩ := wr_lst w h1 h2 h3
    refine ⟨_, ea, .inl ⟨rfl, _, SqL.of hv0⟩, F, S, w, At.bind anti_hd m fun d S1 v F1 H1 _ w1 e1 p1 m1 => ?_⟩
    cases q1 : wrLst S1 k with
    | none => simp only [q1] at m1; exact m1.elim
    | some sd1 =>
      obtain ⟨s1, ds1⟩ := sd1
      simp only [q1] at m1
      obtain ⟨g1, g2, g3⟩ := wrLst_some q1
      obtain ⟨ad1, vs1, ea1, hv1, r1⟩ := wr_lst w1 g1 g2 g3
      rw [ea] at ea1; cases ea1
      by_cases c : ds1.length < 16777216
      · rw [if_pos c] at m1
        refine ⟨ad, vs1, v, rfl, rfl, hv1, by rw [← r1.length, sizeLine_eq]; exact c, ?_⟩
        obtain ⟨w2, e2⟩ := w1.write (d' := .lst (ds1 ++ [d])) (o := .lst (vs1 ++ [v])) g1 g2 ea ⟨_, upd_same, r1.append (.cons p1 .nil)⟩
        exact m1 .non F1 _ w2 e2 .non
      · rw [if_neg c] at m1; exact m1.elim
/-- xs.pop() -/
def sPop (k : Nat) : Sem Hd := fun S => match wrLst S k with
  | some (s, ds) => (match ds[ds.length - 1]? with
    | some d => .ok (.fz d) (S.set k (s.put (.lst ds.dropLast)))
    | none => .bad)
  | none => .bad
theorem px_pop (k : Nat) {x : Str} {p p2 : Pos} (hN : X.N[k]? = some x := by rfl) (hv : Vis X.env.scope x := by first | exact Or.inl rfl | exact Or.inr (Or.inl rfl) | exact Or.inr (Or.inr rfl)) (hd : (x == ("__debug__" : Str)) = false := by decide)
    (hcd : (x == ("__classdict__" : Str)) = false := by decide)
    (hpe : ∀ {to : TE}, PE X (.Name x p) to → PE X (.Call (.Attribute (.Name x p) "pop" p2) [] [] pos) (tBM0 X.K "list" rPop to) := by exact fun h => pe_bm0 PySem.F.plainAttrs_list PySem.F.slot_list_pop PySem.F.type_list_pop mt_pop h) :
    PX X W C Wx (.Call (.Attribute (.Name x p) "pop" p2) [] [] pos) (sPop k) := by
  refine PE.imp (hpe (pe_var hN hv hd hcd)) fun σ H Q ⟨F, S, w, m⟩ => ?_
  unfold sPop at m
  cases q : wrLst S k with
  | none => rw [q] at m; exact m.elim
  | some sd =>
    obtain ⟨s0, ds0⟩ := sd
    simp only [q] at m
    obtain ⟨h1, h2, h3⟩ := wrLst_some q
    obtain ⟨ad, vs0, ea, hv0, r0⟩ := wr_lst w h1 h2 h3
    cases q2 : ds0[ds0.length - 1]? with
    | none => simp only [q2] at m; exact m.elim
    | some d =>
      simp only [q2] at m
      obtain ⟨v, ev, rv⟩ := r0.get q2
      refine ⟨_, ea, .inl ⟨rfl, _, SqL.of hv0⟩, ad, vs0, v, rfl, rfl, hv0, by rw [← r0.length]; exact ev, ?_⟩
      obtain ⟨w2, e2⟩ := w.write (d' := .lst ds0.dropLast) (o := .lst vs0.dropLast) h1 h2 ea ⟨_, upd_same, r0.dropLast⟩
      exact m v F _ w2 e2 rv
/-- xs.reverse() -/
def sReverse (k : Nat) : Sem Hd := fun S => match wrLst S k with
  | some (s, ds) => .ok (.fz .non) (S.set k (s.put (.lst ds.reverse)))
  | none => .bad
theorem px_reverse (k : Nat) {x : Str} {p p2 : Pos} (hN : X.N[k]? = some x := by rfl) (hv : Vis X.env.scope x := by first | exact Or.inl rfl | exact Or.inr (Or.inl rfl) | exact Or.inr (Or.inr rfl)) (hd : (x == ("__debug__" : Str)) = false := by decide)
    (hcd : (x == ("__classdict__" : Str)) = false := by decide)
    (hpe : ∀ {to : TE}, PE X (.Name x p) to → PE X (.Call (.Attribute (.Name x p) "reverse" p2) [] [] pos) (tBM0 X.K "list" rReverse to) := by exact fun h => pe_bm0 PySem.F.plainAttrs_list PySem.F.slot_list_reverse PySem.F.type_list_reverse mt_reverse h) :
    PX X W C Wx (.Call (.Attribute (.Name x p) "reverse" p2) [] [] pos) (sReverse k) := by
  refine PE.imp (hpe (pe_var hN hv hd hcd)) fun σ H Q ⟨F, S, w, m⟩ => ?_
  unfold sReverse at m
  cases q : wrLst S k with
  | none => rw [q] at m; exact m.elim
  | some sd =>
    obtain ⟨s0, ds0⟩ := sd
    simp only [q] at m
    obtain ⟨h1, h2, h3⟩ := wrLst_some q
    obtain ⟨ad, vs0, ea, hv0, r0⟩ := wr_lst w h1 h2 h3
    refine ⟨_, ea, .inl ⟨rfl, _, SqL.of hv0⟩, ad, vs0, rfl, rfl, hv0, ?_⟩
    obtain ⟨w2, e2⟩ := w.write (d' := .lst ds0.reverse) (o := .lst vs0.reverse) h1 h2 ea ⟨_, upd_same, r0.reverse⟩
    exact m .non F _ w2 e2 .non
/-- xs[i] = e -/
def gSetIx (k : Nat) (fi : Sem Op) (fe : Sem D) : SS := fun S => rS (fe S) fun d S => match wrLst S k with
  | some _ => rS (fi S) fun o S => (match wrLst S k with
    | some (s, ds) => (match o.get S with
      | some (.int i) => (match ixN ds.length i with
        | some j => .nx (S.set k (s.put (.lst (ds.set j d))))
        | none => .bad)
      | _ => .bad)
    | none => .bad)
  | none => .bad
theorem p1_setIx (k : Nat) {x : Str} {px p2 : Pos} {i : Expr} {fi fe : Sem Hd} (hi : PX X W C Wx i fi) (he : PX X W C Wx e fe) (hN : X.N[k]? = some x := by rfl) (hv : Vis X.env.scope x := by first | exact Or.inl rfl | exact Or.inr (Or.inl rfl) | exact Or.inr (Or.inr rfl)) (hd : (x == ("__debug__" : Str)) = false := by decide)
    (hcd : (x == ("__classdict__" : Str)) = false := by decide)
    (hpe : ∀ {to ti te : TE}, PE X (.Name x px) to → PE X i ti → PE X e te → PS X (.Assign [.Subscript (.Name x px) i p2] e pos) (tAsg te (gSub to ti rSetL)) := by exact fun h1 h2 h3 => ps_asg h3 (pg_sub h1 h2 set_list)) :
    PT1 X W C Wx (.Assign [.Subscript (.Name x px) i p2] e pos) (gSetIx k (sOp fi) (sV fe)) := by
  refine PS.imp (hpe (pe_var hN hv hd hcd) (pxo hi) (pxv he)) fun D' σ H ⟨F, S, w, m⟩ => ⟨F, S, w, SAt.expr m fun d S1 v F1 H1 _ w1 e1 p1 m1 => ?_⟩
  cases q0 : wrLst S1 k with
  | none => simp only [q0] at m1; exact m1.elim
  | some sd0 =>
    obtain ⟨s00, ds00⟩ := sd0
    simp only [q0] at m1
    obtain ⟨g1, g2, g3⟩ := wrLst_some q0
    obtain ⟨ad, vs00, ea, _, _⟩ := wr_lst w1 g1 g2 g3
    refine ⟨_, ea, F1, S1, w1, SAt.expr m1 fun o S2 iv F2 H2 _ w2 e2 p2 m2 => ?_⟩
    cases q : wrLst S2 k with
    | none => simp only [q] at m2; exact m2.elim
    | some sd =>
      obtain ⟨s0, ds0⟩ := sd
      simp only [q] at m2
      obtain ⟨h1, h2, h3⟩ := wrLst_some q
      obtain ⟨ad2, vs0, ea2, hv0, r0⟩ := wr_lst w2 h1 h2 h3
      rw [ea] at ea2; cases ea2
      cases q2 : o.get S2 with
      | none => simp only [q2] at m2; exact m2.elim
      | some dd =>
        simp only [q2] at m2
        cases dd with
        | int ii =>
          simp only at m2
          cases q3 : ixN ds0.length ii with
          | none => simp only [q3] at m2; exact m2.elim
          | some j =>
            simp only [q3] at m2
            have ri := (repB_of_op (C := C) p2 w2 (Same.refl _) q2).int
            refine ⟨ad, vs0, ii, j, rfl, ri, hv0, by rw [← r0.length]; exact q3, ?_⟩
            obtain ⟨w3, e3⟩ := w2.write (d' := .lst (ds0.set j d)) (o := .lst (vs0.set j v)) h1 h2 ea ⟨_, upd_same, r0.set (Rep.mono e2.fr p1) j⟩
            exact m2 σ F2 _ w3 (Same.refl _)
        | _ => exact m2.elim
end
end VL

set_option Elab.async false
set_option linter.all false
set_option maxRecDepth 100000
set_option maxHeartbeats 1000000
namespace VL
open PySem PySem.Spec PyProof.Rows L2

/-! ### targets -/
def Slot.mut : Slot → Bool
  | .ow _ => true
  | .io _ => true
  | .bo _ => true
  | .er => true
  | _ => false
/-- where a value goes; ts: the slots that it may touch -/
abbrev Tg := D → Sl → Option Sl
def Agree (ts : List Nat) (σ σ' : Sg) : Prop := σ'.length = σ.length ∧ ∀ i, i ∉ ts → σ'[i]? = σ[i]?
theorem Agree.refl {ts : List Nat} {σ : Sg} : Agree ts σ σ := ⟨rfl, fun _ _ => rfl⟩
theorem Agree.trans {ts us : List Nat} {σ σ1 σ2 : Sg} (a : Agree ts σ σ1) (b : Agree us σ1 σ2) : Agree (ts ++ us) σ σ2 :=
  ⟨b.1.trans a.1, fun i h => (b.2 i fun z => h (List.mem_append_right _ z)).trans (a.2 i fun z => h (List.mem_append_left _ z))⟩
def rdG (W : Wo) (C : Fr) (ts : List Nat) (g : Tg) : TG := fun v σ H Q => ∃ F S d, Wd W C F S σ H ∧ Rep W F d v ∧ ∃ S', g d S = some S' ∧ ∀ σ', Wd W C F S' σ' H → Agree ts σ σ' → Q σ' H
def rdGs (W : Wo) (C : Fr) (ts : List Nat) (g : List D → Sl → Option Sl) : TGs := fun vs σ H Q => ∃ F S ds, Wd W C F S σ H ∧ Reps W F ds vs ∧ ∃ S', g ds S = some S' ∧ ∀ σ', Wd W C F S' σ' H → Agree ts σ σ' → Q σ' H
/-- it touches these slots alone and leaves them frozen -/
def TgOk (ts : List Nat) (g : Tg) : Prop := ∀ d S S', g d S = some S' → S'.length = S.length ∧ (∀ i, i ∉ ts → S'[i]? = S[i]?) ∧ ∀ i s, S'[i]? = some s → i ∈ ts → s.mut = true → S[i]? = some s
def TgsOk (ts : List Nat) (g : List D → Sl → Option Sl) : Prop := ∀ d S S', g d S = some S' → S'.length = S.length ∧ (∀ i, i ∉ ts → S'[i]? = S[i]?) ∧ ∀ i s, S'[i]? = some s → i ∈ ts → s.mut = true → S[i]? = some s
theorem PG.imp {X : Cx} {e : Expr} {t t' : TG} (h : PG X e t) (i : ∀ v σ H Q, t' v σ H Q → t v σ H Q) : PG X e t' := ⟨fun pins s σ H v u Q I r q => h.run pins s σ H v u Q I r (i v σ H Q q)⟩
theorem PGs.imp {X : Cx} {e : List Expr} {t t' : TGs} (h : PGs X e t) (i : ∀ v σ H Q, t' v σ H Q → t v σ H Q) : PGs X e t' := ⟨fun pins s σ H v u Q I r q => h.run pins s σ H v u Q I r (i v σ H Q q)⟩
theorem PI.imp {X : Cx} {tg e : Expr} {t t' : TI} (h : PI X tg e t) (i : ∀ σ H R, t' σ H R → t σ H R) : PI X tg e t' := ⟨fun pins s σ H R I q => h.run pins s σ H R I (i σ H R q)⟩
theorem PI.or {X : Cx} {tg e : Expr} {t t' : TI} (h : PI X tg e t) (h' : PI X tg e t') : PI X tg e (fun σ H R => t σ H R ∨ t' σ H R) := ⟨fun pins s σ H R I q => by
  rcases q with q | q
  · exact h.run pins s σ H R I q
  · exact h'.run pins s σ H R I q⟩
theorem PG.or {X : Cx} {e : Expr} {t t' : TG} (h : PG X e t) (h' : PG X e t') : PG X e (fun v σ H Q => t v σ H Q ∨ t' v σ H Q) := ⟨fun pins s σ H v u Q I r q => by
  rcases q with q | q
  · exact h.run pins s σ H v u Q I r q
  · exact h'.run pins s σ H v u Q I r q⟩
structure PGx (X : Cx) (W : Wo) (C : Fr) (e : Expr) (ts : List Nat) (g : Tg) : Prop where
  pg : PG X e (rdG W C ts g)
  ok : TgOk ts g
structure PGxs (X : Cx) (W : Wo) (C : Fr) (e : List Expr) (ts : List Nat) (g : List D → Sl → Option Sl) : Prop where
  pg : PGs X e (rdGs W C ts g)
  ok : TgsOk ts g
def kName (i : Nat) : Tg := fun d S => some (S.set i (.va d))
def kNil : List D → Sl → Option Sl := fun ds S => match ds with
  | [] => some S
  | _ => none
def kCons (g : Tg) (r : List D → Sl → Option Sl) : List D → Sl → Option Sl := fun ds S => match ds with
  | d :: ds => (match g d S with
    | some S1 => r ds S1
    | none => none)
  | [] => none
def kTup (n : Nat) (r : List D → Sl → Option Sl) : Tg := fun d S => match d with
  | .tup ds => if ds.length = n then r ds S else none
  | .lst ds => if ds.length = n then r ds S else none
  | _ => none
section
variable {X : Cx} {W : Wo} {C : Fr} {Wx : WX} {e a b c : Expr} {es : List Expr} {pos : Pos} {f fa fb fc : Sem Hd} {g : Tg} {r : List D → Sl → Option Sl} {ts us : List Nat}
theorem pg_x (i : Nat) {x : Str} (hN : X.N.Nodup) (hi : X.N[i]? = some x := by rfl) (hx : Loc X.env.scope x := by first | exact Or.inl rfl | exact Or.inr rfl)
    (hf : X.fn x = true ∨ X.env.scope.names.lookup x = some .local := by first | exact .inl rfl | exact .inr rfl | assumption) : PGx X W C (.Name x pos) [i] (kName i) :=
  ⟨PG.imp (pg_name hN hi hx hf) fun v σ H Q ⟨F, S, d, w, rv, S', e, k⟩ => by
    cases e
    exact k _ (w.setVa rv) ⟨List.length_set, fun j hj => List.getElem?_set_ne fun z => hj (by rw [z]; exact List.mem_cons_self)⟩,
  fun d S S' e => by
    cases e
    refine ⟨List.length_set, fun j hj => List.getElem?_set_ne fun z => hj (by rw [z]; exact List.mem_cons_self), fun j s h hj m => ?_⟩
    obtain rfl := List.mem_singleton.mp hj
    rcases getElem?_set_cases h with ⟨_, rfl⟩ | ⟨n, _⟩
    · cases m
    · exact absurd rfl n⟩
theorem pgx_nil : PGxs X W C [] [] kNil := ⟨(PGs.imp pgs_nil fun vs σ H Q ⟨F, S, ds, w, rv, S', e, k⟩ => by
  cases rv with
  | nil => cases e; exact ⟨rfl, k σ w Agree.refl⟩
  | cons _ _ => cases e), fun d S S' e => by
  cases d with
  | nil => cases e; exact ⟨rfl, fun _ _ => rfl, fun _ _ h _ _ => h⟩
  | cons _ _ => cases e⟩
theorem pgx_cons (h1 : PGx X W C e ts g) (h2 : PGxs X W C es us r) (hs : (assignEach (e :: es) X.env).map (·.2) = assign e X.env :: (assignEach es X.env).map (·.2) := by rfl) : PGxs X W C (e :: es) (ts ++ us) (kCons g r) := ⟨PGs.imp (pgs_cons h1.pg h2.pg hs) fun vs σ H Q ⟨F, S, ds, w, rv, S', e, k⟩ => by
  cases rv with
  | nil => cases e
  | @cons d v ds' vs' ra rb =>
    have e' : (match g d S with | some S1 => r ds' S1 | none => none) = some S' := e
    cases q : g d S with
    | none => rw [q] at e'; cases e'
    | some S1 =>
      rw [q] at e'
      exact ⟨v, vs', rfl, F, S, d, w, ra, S1, q, fun σ1 w1 a1 => ⟨F, S1, ds', w1, rb, S', e', fun σ2 w2 a2 => k σ2 w2 (a1.trans a2)⟩⟩, fun ds S S' e => by
  cases ds with
  | nil => cases e
  | cons d ds' =>
    have e' : (match g d S with | some S1 => r ds' S1 | none => none) = some S' := e
    cases q : g d S with
    | none => rw [q] at e'; cases e'
    | some S1 =>
      rw [q] at e'
      obtain ⟨a1, a2, a3⟩ := h1.ok d S S1 q
      obtain ⟨b1, b2, b3⟩ := h2.ok ds' S1 S' e'
      refine ⟨b1.trans a1, fun i hi => (b2 i fun z => hi (List.mem_append_right _ z)).trans (a2 i fun z => hi (List.mem_append_left _ z)), fun i s hs hi m => ?_⟩
      have h1' : S1[i]? = some s := by
        by_cases hu : i ∈ us
        · exact b3 i s hs hu m
        · rw [← b2 i hu]; exact hs
      by_cases ht : i ∈ ts
      · exact a3 i s h1' ht m
      · rw [← a2 i ht]; exact h1'⟩
theorem pgx_tup {k n : Nat} (hK : X.K = W.K) (hc : X.calm = true) (h : PGxs X W C es ts r) (hn : (assignEach es X.env).length = n := by rfl) (hst : (assignEach es X.env).findIdx? (·.1) = none := by rfl) : PGx X W C (.Tuple es k pos) ts (kTup n r) :=
  ⟨(PG.imp (PG.or (pg_tup hc h.pg hn hst) (pg_lst hc h.pg hn hst)) fun v σ H Q ⟨F, S, d, w, rv, S', e, kk⟩ => by
    cases d with
    | tup ds =>
      have e' : (if ds.length = n then r ds S else none) = some S' := e
      by_cases c : ds.length = n
      · rw [if_pos c] at e'
        cases rv with
        | tup q rs => exact .inl ⟨_, _, rfl, by rw [hK]; exact Same.seqT w.sub q, by rw [← rs.length]; exact c, F, S, ds, w, rs, S', e', kk⟩
      · rw [if_neg c] at e'; cases e'
    | lst ds =>
      have e' : (if ds.length = n then r ds S else none) = some S' := e
      by_cases c : ds.length = n
      · rw [if_pos c] at e'
        cases rv with
        | lst q rs => exact .inr ⟨_, _, rfl, SqL.of (w.sub _ _ q), by rw [← rs.length]; exact c, F, S, ds, w, rs, S', e', kk⟩
      · rw [if_neg c] at e'; cases e'
    | _ => cases e), fun d S S' e => by
    cases d with
    | tup ds =>
      have e' : (if ds.length = n then r ds S else none) = some S' := e
      by_cases c : ds.length = n
      · rw [if_pos c] at e'; exact h.ok ds S S' e'
      · rw [if_neg c] at e'; cases e'
    | lst ds =>
      have e' : (if ds.length = n then r ds S else none) = some S' := e
      by_cases c : ds.length = n
      · rw [if_pos c] at e'; exact h.ok ds S S' e'
      · rw [if_neg c] at e'; cases e'
    | _ => cases e⟩
/-- a, b = e -/
def gUnp (g : Tg) (f : Sem D) : SS := fun S => rS (f S) fun d S => match g d S with
  | some S1 => .nx S1
  | none => .bad
theorem p1_unp {es : List Expr} {k : Nat} {p2 : Pos} (he : PX X W C Wx e f) (hg : PGx X W C (.Tuple es k p2) ts g) (hs : swapsWithSole [.Tuple es k p2] e pos.line X.env = pure false := by rfl) (hw : swappedStores [.Tuple es k p2] e X.env = pure none := by rfl)
    (h1 : (assignEach [.Tuple es k p2] X.env).map (·.2) = [assign (.Tuple es k p2) X.env] := by rfl) : PT1 X W C Wx (.Assign [.Tuple es k p2] e pos) (gUnp g (sV f)) :=
  PS.imp (ps_asg (pxv he) hg.pg hs hw h1) fun D' σ H ⟨F, S, w, m⟩ => ⟨F, S, w, SAt.expr m fun d S1 v F1 H1 _ w1 e1 p1 m1 => by
    cases q : g d S1 with
    | none => simp only [q] at m1; exact m1.elim
    | some S2 =>
      simp only [q] at m1
      exact ⟨F1, S1, d, w1, p1, S2, q, fun σ' w' _ => m1 σ' F1 H1 w' (Same.refl _)⟩⟩
/-- a, b = x, y -/
def gPar (i j : Nat) (f : Sem (List Op)) : SS := fun S => rS (f S) fun os S => match fzAll os with
  | some [d1, d2] => .nx ((S.set i (.va d1)).set j (.va d2))
  | _ => .bad
theorem p1_par (i j : Nat) {x y : Str} {px py pt pt2 : Pos} {kt k2} {fs : Sem (List Op)} (hc : X.calm = true) (hN : X.N.Nodup) (ha : PXa X W C Wx [a, b] fs) (hij : i ≠ j := by decide) (hi : X.N[i]? = some x := by rfl) (hj : X.N[j]? = some y := by rfl)
    (hx : X.env.scope.names.lookup x = some .local := by rfl) (hy : X.env.scope.names.lookup y = some .local := by rfl)
    (hw : swappedStores [.Tuple [.Name x px, .Name y py] kt pt] (.Tuple [a, b] k2 pt2) X.env = pure (some [x, y]) := by rfl)
    (hs : swapsWithSole [.Tuple [.Name x px, .Name y py] kt pt] (.Tuple [a, b] k2 pt2) pos.line X.env = pure false := by rfl) :
    PT1 X W C Wx (.Assign [.Tuple [.Name x px, .Name y py] kt pt] (.Tuple [a, b] k2 pt2) pos) (gPar i j fs) :=
  PS.imp (ps_par hc hN hi hj hij hx hy ha hw hs) fun D' σ H ⟨F, S, w, m⟩ => ⟨F, S, w, SAt.expr m fun os S1 vs F1 H1 _ w1 e1 p1 m1 => by
    cases q : fzAll os with
    | none => simp only [q] at m1; exact m1.elim
    | some ds =>
      simp only [q] at m1
      have rs := OpsR.fzAll p1 q
      match ds, rs, m1 with
      | [d1, d2], .cons r1 (.cons r2 .nil), m1 => exact ⟨_, _, rfl, m1 _ F1 H1 ((w1.setVa r1).setVa r2) (Same.refl _)⟩⟩

/-! ### what is walked -/
structure SrcOk (W : Wo) (C : Fr) (F1 : Hp) (J : It) (ds : List D) : Prop where
  go : ∀ i F S σ H, Wd W C F S σ H → Same F1 F → i < ds.length → J.go i H
  stop : ∀ F S σ H, Wd W C F S σ H → Same F1 F → J.stop ds.length H
  yld : ∀ i d F S σ H x H', Wd W C F S σ H → Same F1 F → ds[i]? = some d → J.yld i H x H' → ∃ F', Ext F H F' H' ∧ Rep W F' d x
def PSrc (W : Wo) (C : Fr) : Pd (List D) It := fun σ Hs F H S ds J => SrcOk W C F J ds
theorem anti_src {W : Wo} {C : Fr} : Anti (PSrc W C) := fun _ _ _ _ _ _ _ _ _ p => p
abbrev PIx (X : Cx) (W : Wo) (C : Fr) (Wx : WX) (tg e : Expr) (f : Sem (List D)) : Prop := PI X tg e (rd W C Wx (PSrc W C) f)
/-- a list that stays as it is -/
def Stays (W : Wo) (C : Fr) (F1 : Hp) (a : Addr) (vs : List V) : Prop := ∀ F S σ H, Wd W C F S σ H → Same F1 F → H a = some (.lst vs)
theorem src_list {F1 : Hp} {a : Addr} {ds : List D} {vs : List V} (q : Stays W C F1 a vs) (r : Reps W F1 ds vs) : SrcOk W C F1 (Itl W.K a) ds where
  go := fun i F S σ H w s1 hi => by
    obtain ⟨v, ev, _⟩ := r.get (List.getElem?_eq_getElem hi)
    exact ⟨vs, v, SqL.of (q F S σ H w s1), ev⟩
  stop := fun F S σ H w s1 => ⟨vs, SqL.of (q F S σ H w s1), by rw [r.length]; exact Nat.le_refl _⟩
  yld := fun i d F S σ H x H' w s1 hd h => by
    obtain ⟨rfl, h⟩ := h
    obtain ⟨v, ev, rv⟩ := r.get hd
    have e := h vs (SqL.of (q F S σ _ w s1))
    rw [ev] at e
    cases e
    exact ⟨F, Ext.refl w.sub, rv.mono s1⟩
theorem stays_fz {F1 : Hp} {a : Addr} {vs : List V} (q : F1 a = some (.lst vs)) : Stays W C F1 a vs := fun F S σ H w s => w.sub _ _ (s _ _ q)
theorem src_tup {F1 : Hp} {a : Addr} {ds : List D} {vs : List V} (q : SqT W.K F1 a vs) (r : Reps W F1 ds vs) : SrcOk W C F1 (Itt W.K a) ds where
  go := fun i F S σ H w s1 hi => by
    obtain ⟨v, ev, _⟩ := r.get (List.getElem?_eq_getElem hi)
    exact ⟨vs, v, Same.seqT w.sub (Same.seqT s1 q), ev⟩
  stop := fun F S σ H w s1 => ⟨vs, Same.seqT w.sub (Same.seqT s1 q), by rw [r.length]; exact Nat.le_refl _⟩
  yld := fun i d F S σ H x H' w s1 hd h => by
    obtain ⟨rfl, h⟩ := h
    obtain ⟨v, ev, rv⟩ := r.get hd
    have e := h vs (Same.seqT w.sub (Same.seqT s1 q))
    rw [ev] at e
    cases e
    exact ⟨F, Ext.refl w.sub, rv.mono s1⟩
def itemsOf (d : D) : Sem (List D) := fun S => match d with
  | .lst ds => .ok ds S
  | .tup ds => .ok ds S
  | _ => .bad
/-- the thing behind a handle, to be walked: a borrowed one stays as it is, an owned one is frozen -/
def hdSrc (h : Hd) : Sem D := fun S => match h with
  | .slot k => (match S[k]? with
    | some (.bo (.lst ds)) => .ok (.lst ds) S
    | some (.bo (.tup ds)) => .ok (.tup ds) S
    | _ => toV (.slot k) S)
  | h => toV h S
def sSrc (f : Sem Hd) : Sem D := fun S => (f S).bind hdSrc
/-- what stands behind -/
def PWalk (W : Wo) (C : Fr) : Pd D V := fun σ Hs F H S d v => match d with
  | .lst ds => ∃ a vs, v = V.ref a ∧ Stays W C F a vs ∧ Reps W F ds vs
  | .tup ds => ∃ a vs, v = V.ref a ∧ SqT W.K F a vs ∧ Reps W F ds vs
  | d => Rep W F d v
theorem walk_rep {σ : Sg} {Hs F H : Hp} {S : Sl} {d : D} {v : V} (r : Rep W F d v) : PWalk W C σ Hs F H S d v := by
  cases r with
  | lst q rs => exact ⟨_, _, rfl, stays_fz q, rs⟩
  | tup q rs => exact ⟨_, _, rfl, q, rs⟩
  | non => exact .non
  | bl => exact .bl
  | int => exact .int
  | str => exact .str
  | scr h => exact .scr h
  | ty => exact .ty
  | cls => exact .cls
  | ins h r => exact .ins h r
theorem px_walk (he : PX X W C Wx e f) : PE X e (rd W C Wx (PWalk W C) (sSrc f)) := PE.imp he fun σ H Q ⟨F, S, w, m⟩ => ⟨F, S, w, by
  have m' : At W C Wx σ (PWalk W C) F H S ((f S).bind hdSrc) Q := m
  cases r : f S with
  | ex x S1 => rw [r] at m'; exact m'
  | bad => rw [r] at m'; exact m'
  | ok hd S1 =>
    rw [r] at m'
    intro v F1 H1 w1 e1 p1
    have m2 : At W C Wx σ (PWalk W C) F H S (hdSrc hd S1) Q := m'
    cases hd with
    | fz d => exact m2 v F1 H1 w1 e1 (walk_rep p1)
    | own d =>
      obtain ⟨F2, w2, e2, r2⟩ := w1.freezeT e1 p1
      exact m2 v F2 H1 w2 e2 (walk_rep r2)
    | slot k =>
      have p2 : σ[k]? = some (some v) := p1
      have m3 : At W C Wx σ (PWalk W C) F H S (match S1[k]? with
        | some (.bo (.lst ds)) => .ok (.lst ds) S1
        | some (.bo (.tup ds)) => .ok (.tup ds) S1
        | _ => toV (.slot k) S1) Q := m2
      have rest : At W C Wx σ (PWalk W C) F H S (toV (.slot k) S1) Q → Q v H1 := fun m4 => by
        cases q : toV (.slot k) S1 with
        | ex x S2 =>
          have q' : (match S1[k]? with
            | some (.va d) => Res.ok d S1
            | some (.ow d) => Res.ok d (S1.set k (.va d))
            | _ => Res.bad) = Res.ex x S2 := q
          cases z : S1[k]? with
          | none => rw [z] at q'; cases q'
          | some s => rw [z] at q'; cases s <;> cases q'
        | bad => rw [q] at m4; exact m4.elim
        | ok d S2 =>
          rw [q] at m4
          obtain ⟨F2, w2, ev2, s2, r2⟩ := freeze_slot w1 Evo.refl p2 q
          exact m4 v F2 H1 w2 (e1.trans ev2) (walk_rep r2)
      cases q : S1[k]? with
      | none => rw [q] at m3; exact rest m3
      | some s =>
        rw [q] at m3
        cases s with
        | bo d =>
          obtain ⟨u, eu, rb⟩ := w1.slot k _ q
          rw [p2] at eu; cases eu
          cases d with
          | tup ds =>
            refine m3 v F1 H1 w1 e1 ?_
            rcases rb with rb | ⟨a, rfl, n, z⟩
            · exact walk_rep rb
            · exact z.elim
          | lst ds =>
            refine m3 v F1 H1 w1 e1 ?_
            by_cases hr : Rep W F1 (.lst ds) v
            · exact walk_rep hr
            · rcases rb with rb | ⟨a, rfl, n, vs, ha, rs⟩
              · exact absurd rb hr
              · obtain ⟨b1, b2⟩ := w1.bos k (.lst ds) a q p2 hr
                refine ⟨a, vs, rfl, fun F S σ H w s => ?_, rs⟩
                obtain ⟨o, eo⟩ := some_of_ne b1
                have h1 := w1.keep a o eo b2
                rw [ha] at h1; cases h1
                exact w.keep a _ eo b2
          | _ => exact rest m3
        | _ => exact rest m3⟩
/-- over a list or a tuple -/
def sIter (f : Sem D) : Sem (List D) := fun S => (f S).bind itemsOf
theorem pi_seq {tg : Expr} (hK : X.K = W.K) (he : PX X W C Wx e f) : PIx X W C Wx tg e (sIter (sSrc f)) :=
  PI.imp (PI.or (pi_list (px_walk he)) (pi_tup (px_walk he))) fun σ H R ⟨F, S, w, m⟩ => by
    have m' : At W C Wx σ (PSrc W C) F H S ((sSrc f S).bind itemsOf) R := m
    cases q : sSrc f S with
    | ex x S1 => rw [q] at m'; exact .inl ⟨F, S, w, by rw [q]; exact m'⟩
    | bad => rw [q] at m'; exact m'.elim
    | ok d S1 =>
      rw [q] at m'
      cases d with
      | lst ds =>
        refine .inl ⟨F, S, w, ?_⟩
        rw [q]
        rintro v F1 H1 w1 e1 ⟨a, vs, rfl, st, rs⟩
        exact ⟨a, rfl, ⟨_, SqL.of (st F1 S1 σ H1 w1 (Same.refl _))⟩, by rw [hK]; exact m' _ F1 H1 w1 e1 (src_list st rs)⟩
      | tup ds =>
        refine .inr ⟨F, S, w, ?_⟩
        rw [q]
        rintro v F1 H1 w1 e1 ⟨a, vs, rfl, qa, rs⟩
        exact ⟨a, rfl, ⟨_, by rw [hK]; exact Same.seqT w1.sub qa⟩, by rw [hK]; exact m' _ F1 H1 w1 e1 (src_tup qa rs)⟩
      | _ => exact m'.elim
/-- range(n), range(a, b) -/
def rgI (lo : Int) (n : Nat) : List D := (List.range n).map fun (i : Nat) => D.int (lo + i)
theorem src_rng {F1 : Hp} (lo : Int) (n : Nat) : SrcOk W C F1 (Itr lo n) (rgI lo n) where
  go := fun i F S σ H w s1 hi => by
    rw [rgI, List.length_map, List.length_range] at hi
    exact hi
  stop := fun F S σ H w s1 => by
    show n ≤ (rgI lo n).length
    rw [rgI, List.length_map, List.length_range]
    exact Nat.le_refl _
  yld := fun i d F S σ H x H' w s1 hd h => by
    obtain ⟨rfl, rfl⟩ := h
    rw [rgI, List.getElem?_map] at hd
    cases q : (List.range n)[i]? with
    | none => rw [q] at hd; cases hd
    | some j =>
      rw [q] at hd
      cases hd
      have ej : j = i := by
        obtain ⟨h1, h2⟩ := List.getElem?_eq_some_iff.mp q
        rw [List.getElem_range] at h2
        exact h2.symm
      subst ej
      exact ⟨F, Ext.refl w.sub, .int⟩
def okR (j : Int) : Bool := decide (-(2 ^ 62) ≤ j) && decide (j < 2 ^ 62)
theorem okR_ok {j : Int} (h : okR j = true) : -(2 ^ 62) ≤ j ∧ j < 2 ^ 62 := by
  obtain ⟨a, b⟩ := Bool.and_eq_true_iff.mp h
  exact ⟨of_decide_eq_true a, of_decide_eq_true b⟩
def rgD (ds : List D) : Sem (List D) := fun S => match ds with
  | [.int j] => if okR j = true then .ok (rgI 0 j.toNat) S else .bad
  | [.int i, .int j] => if okR i = true ∧ okR j = true then .ok (rgI i (j - i).toNat) S else .bad
  | _ => .bad
def sRange (f : Sem (List Op)) : Sem (List D) := fun S => (f S).bind fun os S => match getAll os S with
  | some ds => rgD ds S
  | none => .bad
theorem pi_rng1 {tg : Expr} {p : Pos} {fo : Sem Op} (hm : X.mg "range" = none) (ha : PXo X W C Wx a fo) (hg : Gl X "range" := by rfl) (hs : starEach [a] X.env = [(false, eval a X.env)] := by rfl) : PIx X W C Wx tg (.Call (.Name "range" p) [a] [] pos) (sRange (sCons fo sNil)) :=
  PI.imp (pi_range1 hg hm (pxa_cons ha pxa_nil hs) hs) fun σ H R ⟨F, S, w, m⟩ => ⟨F, S, w, At.bind anti_src m fun os S1 vs F1 H1 eo w1 e1 p1 m1 => by
    obtain ⟨o, rfl⟩ : ∃ o, os = [o] := by
      have eo' : (fo S).bind (fun o S => (sNil S).bind fun os S => .ok (o :: os) S) = .ok os S1 := eo
      cases q : fo S with
      | ok o S2 => rw [q] at eo'; cases eo'; exact ⟨o, rfl⟩
      | ex x S2 => rw [q] at eo'; cases eo'
      | bad => rw [q] at eo'; cases eo'
    cases q : getAll [o] S1 with
    | none => simp only [q] at m1; exact m1.elim
    | some ds =>
      simp only [q] at m1
      have rs := OpsR.getAll w1 p1 q
      cases rs with
      | nil => exact m1.elim
      | cons r1 rt =>
        rename_i d v ds2 vs2
        cases p1 with
        | fz _ p1 => cases p1; cases rt; exact (fun (m1 : At W C Wx σ (PSrc W C) F1 H1 S1 (rgD [d] S1) R) => by
            cases d with
            | int j =>
              have m2 : At W C Wx σ (PSrc W C) F1 H1 S1 (if okR j = true then .ok (rgI 0 j.toNat) S1 else .bad) R := m1
              by_cases c : okR j = true
              · rw [if_pos c] at m2
                exact ⟨j, by rw [r1.int], (okR_ok c).1, (okR_ok c).2, m2 _ F1 H1 w1 Evo.refl (src_rng 0 j.toNat)⟩
              · rw [if_neg c] at m2; exact m2.elim
            | _ => exact m1.elim) m1
        | slot _ p1 => cases p1; cases rt; exact (fun (m1 : At W C Wx σ (PSrc W C) F1 H1 S1 (rgD [d] S1) R) => by
            cases d with
            | int j =>
              have m2 : At W C Wx σ (PSrc W C) F1 H1 S1 (if okR j = true then .ok (rgI 0 j.toNat) S1 else .bad) R := m1
              by_cases c : okR j = true
              · rw [if_pos c] at m2
                exact ⟨j, by rw [r1.int], (okR_ok c).1, (okR_ok c).2, m2 _ F1 H1 w1 Evo.refl (src_rng 0 j.toNat)⟩
              · rw [if_neg c] at m2; exact m2.elim
            | _ => exact m1.elim) m1⟩
theorem getAll_len : ∀ {os : List Op} {S : Sl} {ds : List D}, getAll os S = some ds → os.length = ds.length
  | [], S, ds, e => by cases e; rfl
  | o :: os, S, ds, e => by
    unfold getAll at e
    cases q : o.get S with
    | none => rw [q] at e; cases e
    | some d =>
      rw [q] at e
      cases q2 : getAll os S with
      | none => simp only [q2] at e; cases e
      | some ds' =>
        simp only [q2] at e
        cases e
        rw [List.length_cons, List.length_cons, getAll_len q2]
theorem pi_rng2 {tg : Expr} {p : Pos} {fo fo2 : Sem Op} (hm : X.mg "range" = none) (ha : PXo X W C Wx a fo) (hb : PXo X W C Wx b fo2) (hg : Gl X "range" := by rfl) (hs : starEach [a, b] X.env = [(false, eval a X.env), (false, eval b X.env)] := by rfl) (hs2 : starEach [b] X.env = [(false, eval b X.env)] := by rfl) :
    PIx X W C Wx tg (.Call (.Name "range" p) [a, b] [] pos) (sRange (sCons fo (sCons fo2 sNil))) :=
  PI.imp (pi_range2 hg hm (pxa_cons ha (pxa_cons hb pxa_nil hs2) (by rw [hs, hs2])) hs hs2) fun σ H R ⟨F, S, w, m⟩ => ⟨F, S, w, At.bind anti_src m fun os S1 vs F1 H1 eo w1 e1 p1 m1 => by
    obtain ⟨o1, o2, rfl⟩ : ∃ o1 o2, os = [o1, o2] := by
      have eo' : (fo S).bind (fun o S => ((fo2 S).bind fun o2 S => (sNil S).bind fun os S => .ok (o2 :: os) S).bind fun os S => .ok (o :: os) S) = .ok os S1 := eo
      cases q : fo S with
      | ok o S2 =>
        rw [q] at eo'
        have eo2 : ((fo2 S2).bind fun o2 S => (sNil S).bind fun os S => .ok (o2 :: os) S).bind (fun os S => .ok (o :: os) S) = .ok os S1 := eo'
        cases q2 : fo2 S2 with
        | ok o2 S3 => rw [q2] at eo2; cases eo2; exact ⟨o, o2, rfl⟩
        | ex x S2 => rw [q2] at eo2; cases eo2
        | bad => rw [q2] at eo2; cases eo2
      | ex x S2 => rw [q] at eo'; cases eo'
      | bad => rw [q] at eo'; cases eo'
    cases q : getAll [o1, o2] S1 with
    | none => simp only [q] at m1; exact m1.elim
    | some ds =>
      simp only [q] at m1
      have rs := OpsR.getAll w1 p1 q
      have hl := getAll_len q
      match ds, hl, rs, m1 with
      | [d1, d2], _, rs, m1 =>
        obtain ⟨v, u, rfl, r1, r2⟩ := rs.two
        cases d1 with
        | int i =>
          cases d2 with
          | int j =>
            have m2 : At W C Wx σ (PSrc W C) F1 H1 S1 (if okR i = true ∧ okR j = true then .ok (rgI i (j - i).toNat) S1 else .bad) R := m1
            by_cases c : okR i = true ∧ okR j = true
            · rw [if_pos c] at m2
              exact ⟨i, j, by rw [r1.int, r2.int], ⟨(okR_ok c.1).1, (okR_ok c.1).2, (okR_ok c.2).1, (okR_ok c.2).2⟩, m2 _ F1 H1 w1 Evo.refl (src_rng i _)⟩
            · rw [if_neg c] at m2; exact m2.elim
          | _ => exact m1.elim
        | _ => cases d2 <;> exact m1.elim⟩
/-- enumerate(xs), xs a list -/
def enumD : Nat → List D → List D
  | _, [] => []
  | n, d :: ds => .tup [.int (n : Int), d] :: enumD (n + 1) ds
theorem enumD_length : ∀ (n : Nat) (ds : List D), (enumD n ds).length = ds.length
  | _, [] => rfl
  | n, d :: ds => by unfold enumD; rw [List.length_cons, List.length_cons, enumD_length]
theorem enumD_get : ∀ (n : Nat) (ds : List D) (i : Nat), (enumD n ds)[i]? = (ds[i]?).map fun d => D.tup [.int ((n + i : Nat) : Int), d]
  | _, [], i => by simp [enumD]
  | n, d :: ds, 0 => by simp [enumD]
  | n, d :: ds, i + 1 => by
    unfold enumD
    rw [List.getElem?_cons_succ, List.getElem?_cons_succ, enumD_get (n + 1) ds i, Nat.add_right_comm, Nat.add_assoc]
theorem src_enum {F1 : Hp} {a : Addr} {ds : List D} {vs : List V} (q : Stays W C F1 a vs) (r : Reps W F1 ds vs) : SrcOk W C F1 (Ite W.K a) (enumD 0 ds) where
  go := fun i F S σ H w s1 hi => by
    rw [enumD_length] at hi
    obtain ⟨v, ev, _⟩ := r.get (List.getElem?_eq_getElem hi)
    exact ⟨vs, v, SqL.of (q F S σ H w s1), ev⟩
  stop := fun F S σ H w s1 => ⟨vs, SqL.of (q F S σ H w s1), by rw [enumD_length, r.length]; exact Nat.le_refl _⟩
  yld := fun i d F S σ H x H' w s1 hd h => by
    obtain ⟨T, y, rfl, hT, rfl, h⟩ := h
    rw [enumD_get] at hd
    cases q2 : ds[i]? with
    | none => rw [q2] at hd; cases hd
    | some d0 =>
      rw [q2] at hd
      cases hd
      obtain ⟨v, ev, rv⟩ := r.get q2
      have e := h vs (SqL.of (q F S σ H w s1))
      rw [ev] at e
      cases e
      have ex := Ext.alloc (o := .tup [.int (i : Nat), y]) w.sub hT
      refine ⟨_, ex, .tup (SqT.of upd_same) (.cons ?_ (.cons ((rv.mono s1).mono ex.fr) .nil))⟩
      rw [Nat.zero_add]
      exact .int
def lstOf (d : D) : Sem (List D) := fun S => match d with
  | .lst ds => .ok (enumD 0 ds) S
  | _ => .bad
def sEnum (f : Sem D) : Sem (List D) := fun S => (f S).bind lstOf
theorem pi_en {p tpos : Pos} {elts : List Expr} {kk : Nat} (hK : X.K = W.K) (hm : X.mg "enumerate" = none) (he : PX X W C Wx e f) (hg : Gl X "enumerate" := by rfl) (hs : starEach [e] X.env = [(false, eval e X.env)] := by rfl) :
    PIx X W C Wx (.Tuple elts kk tpos) (.Call (.Name "enumerate" p) [e] [] pos) (sEnum (sSrc f)) :=
  PI.imp (pi_enum hg hm (pa_cons (px_walk he) pa_nil hs) hs) fun σ H R ⟨F, S, w, m⟩ => ⟨F, S, w, At.bind anti_src m fun d S1 v F1 H1 _ w1 e1 p1 m1 => by
    cases d with
    | lst ds =>
      obtain ⟨a, vs, rfl, st, rs⟩ := p1
      exact ⟨_, _, rfl, SqL.of (st F1 S1 σ H1 w1 (Same.refl _)), by rw [hK]; exact m1 _ F1 H1 w1 Evo.refl (src_enum st rs)⟩
    | _ => exact m1.elim⟩

/-! ### for -/
def forL (g : Tg) (body : SS) : List D → SS
  | [], S => .nx S
  | d :: ds, S => (match g d S with
    | some S1 => (match body S1 with
      | .nx S2 => forL g body ds S2
      | .ct S2 => forL g body ds S2
      | .bk S2 => .nx S2
      | .rt o d S2 => .rt o d S2
      | .ex x S2 => .ex x S2
      | .bad => .bad)
    | none => .bad)
def gFor (src : Sem (List D)) (g : Tg) (body : SS) : SS := fun S => rS (src S) fun ds S => forL g body ds S
theorem p1_for {tg iter : Expr} {body : List Stmt} {src : Sem (List D)} {gb : SS} (hp : PassesOwn (model X.prog X.w) X.A X.env X.xe) (hc : X.calm = true) (hi : PIx X W C Wx tg iter src) (hg : PGx X W C tg ts g) (hb : PTn X W C Wx body gb)
    (hs : ∀ x, foldedSetIterable iter X.env x = pure x := by intro _; rfl) : PT1 X W C Wx (.For tg iter body [] pos) (gFor src g gb) :=
  PS.imp (ps_for hp hc hi hg.pg hb hs) fun D' σ H ⟨F, S, w, m⟩ => ⟨F, S, w, SAt.expr m fun ds S1 J F1 H1 _ w1 e1 p1 m1 => by
    have p2 : SrcOk W C F1 J ds := p1
    refine ⟨fun i m σ H => m = ds.length - i ∧ i ≤ ds.length ∧ ∃ F S, Wd W C F S σ H ∧ Same F1 F ∧ SAt W C Wx D' F (forL g gb (ds.drop i) S), ⟨_, rfl, Nat.zero_le _, F1, S1, w1, Same.refl _, m1⟩, ?_⟩
    rintro i m σ2 H2 ⟨rfl, hi, F2, S2, w2, s2, m2⟩
    by_cases hlt : i < ds.length
    · have hd : ds[i]? = some ds[i] := List.getElem?_eq_getElem hlt
      have hdr : ds.drop i = ds[i] :: ds.drop (i + 1) := List.drop_eq_getElem_cons hlt
      rw [hdr] at m2
      have m3 : SAt W C Wx D' F2 (match g ds[i] S2 with
        | some S1 => (match gb S1 with
          | .nx S2 => forL g gb (ds.drop (i + 1)) S2
          | .ct S2 => forL g gb (ds.drop (i + 1)) S2
          | .bk S2 => .nx S2
          | .rt o d S2 => .rt o d S2
          | .ex x S2 => .ex x S2
          | .bad => .bad)
        | none => .bad) := m2
      refine .inr ⟨p2.go i F2 S2 σ2 H2 w2 s2 hlt, fun σ H => i + 1 ≤ ds.length ∧ ∃ F S, Wd W C F S σ H ∧ Same F1 F ∧ SAt W C Wx D' F (forL g gb (ds.drop (i + 1)) S), fun σ' H' ⟨h1, h2⟩ => ⟨ds.length - (i + 1), by omega, rfl, h1, h2⟩, fun x H' y => ?_⟩
      obtain ⟨F3, ex, rx⟩ := p2.yld i _ F2 S2 σ2 H2 x H' w2 s2 hd y
      have w3 := w2.ext ex
      cases q : g ds[i] S2 with
      | none => simp only [q] at m3; exact m3.elim
      | some S3 =>
        simp only [q] at m3
        refine ⟨F3, S2, _, w3, rx, S3, q, fun σ3 w4 _ => ⟨F3, S3, w4, ?_⟩⟩
        have m4 := SAt.fr ex.fr m3
        cases r : gb S3 with
        | nx S4 => simp only [r] at m4; exact fun σ' F' H' w' s' => ⟨hlt, F', S4, w', (s2.trans ex.fr).trans s', SAt.fr s' m4⟩
        | ct S4 => simp only [r] at m4; exact fun σ' F' H' w' s' => ⟨hlt, F', S4, w', (s2.trans ex.fr).trans s', SAt.fr s' m4⟩
        | bk S4 => simp only [r] at m4; exact m4
        | rt o d S4 => simp only [r] at m4; exact m4
        | ex x S4 => simp only [r] at m4; exact m4
        | bad => simp only [r] at m4; exact m4.elim
    · have e : i = ds.length := by omega
      subst e
      rw [List.drop_length] at m2
      exact .inl ⟨p2.stop F2 S2 σ2 H2 w2 s2, m2 σ2 F2 H2 w2 (Same.refl _)⟩⟩
/-! ### while -/
def whileL (t : Sem Bool) (body : SS) : Nat → SS
  | 0, _ => .bad
  | n + 1, S => rS (t S) fun b S => if b = true then (match body S with
      | .nx S2 => whileL t body n S2
      | .ct S2 => whileL t body n S2
      | .bk S2 => .nx S2
      | .rt o d S2 => .rt o d S2
      | .ex x S2 => .ex x S2
      | .bad => .bad) else .nx S
theorem p1_while {cond : Expr} {body : List Stmt} {t : Sem Bool} {gb : SS} (n : Nat) (hp : PassesOwn (model X.prog X.w) X.A X.env X.xe) (hc : PXt X W C Wx cond t) (hb : PTn X W C Wx body gb) : PT1 X W C Wx (.While cond body [] pos) (whileL t gb n) :=
  PS.imp (ps_while hp hc hb) fun D' σ H ⟨F, S, w, m⟩ => by
    refine ⟨fun m σ H => ∃ F S, Wd W C F S σ H ∧ SAt W C Wx D' F (whileL t gb m S), ⟨n, F, S, w, m⟩, ?_⟩
    rintro m σ H ⟨F, S, w, h⟩
    cases m with
    | zero => exact h.elim
    | succ m =>
      have h' : SAt W C Wx D' F (rS (t S) fun b S => if b = true then (match gb S with
        | .nx S2 => whileL t gb m S2
        | .ct S2 => whileL t gb m S2
        | .bk S2 => .nx S2
        | .rt o d S2 => .rt o d S2
        | .ex x S2 => .ex x S2
        | .bad => .bad) else .nx S) := h
      refine ⟨F, S, w, SAt.expr h' fun k S1 v F1 H1 _ w1 e1 p1 m1 => ?_⟩
      have p2 : v = k := p1
      subst p2
      cases v with
      | false => rw [if_neg Bool.false_ne_true] at m1 ⊢; exact m1 σ F1 H1 w1 (Same.refl _)
      | true =>
        rw [if_pos rfl] at m1 ⊢
        refine ⟨fun σ H => ∃ F S, Wd W C F S σ H ∧ SAt W C Wx D' F (whileL t gb m S), fun σ' H' q => ⟨m, Nat.lt_succ_self m, q⟩, F1, S1, w1, ?_⟩
        cases r : gb S1 with
        | nx S4 => simp only [r] at m1; exact fun σ' F' H' w' s' => ⟨F', S4, w', SAt.fr s' m1⟩
        | ct S4 => simp only [r] at m1; exact fun σ' F' H' w' s' => ⟨F', S4, w', SAt.fr s' m1⟩
        | bk S4 => simp only [r] at m1; exact m1
        | rt o d S4 => simp only [r] at m1; exact m1
        | ex x S4 => simp only [r] at m1; exact m1
        | bad => simp only [r] at m1; exact m1.elim
end
end VL

set_option Elab.async false
set_option linter.all false
set_option maxRecDepth 100000
set_option maxHeartbeats 1000000
namespace VL
open PySem PySem.Spec PyProof.Rows L2

/-! ### list comprehensions -/
section
variable {W : Wo} {C : Fr} {F F' : Hp} {S S' : Sl} {σ σ' : Sg} {H H' : Hp}
def Turned (W : Wo) (F : Hp) (S S' : Sl) (σ σ' : Sg) : Prop := ∀ (i : Nat) (s : Slot), S'[i]? = some s → (S[i]? = some s ∧ σ'[i]? = σ[i]?) ∨ s = .un ∨ ∃ d v, s = .va d ∧ σ'[i]? = some (some v) ∧ Rep W F d v
theorem Turned.mut {i : Nat} {s : Slot} {a : Addr} (h : Turned W F S S' σ σ') (hs : S'[i]? = some s) {F1 : Hp} (m : s.mutAt W F1 a) : S[i]? = some s ∧ σ'[i]? = σ[i]? := by
  rcases h i s hs with q | rfl | ⟨d, v, rfl, _⟩
  · exact q
  · exact m.elim
  · exact m.elim
theorem Wd.re (w : Wd W C F S σ H) (hl : S'.length = σ'.length) (h : Turned W F S S' σ σ') : Wd W C F S' σ' H where
  sub := w.sub
  f0 := w.f0
  new := w.new
  keep := w.keep
  live := w.live
  len := hl
  slot := fun i s hs => by
    rcases h i s hs with ⟨q1, q2⟩ | rfl | ⟨d, v, rfl, e, r⟩
    · rw [q2]; exact w.slot i s q1
    · trivial
    · exact ⟨v, e, r⟩
  own := fun i d a hs e => by
    obtain ⟨q1, q2⟩ := h.mut hs (F1 := F) (a := a) trivial
    exact w.own i d a q1 (q2 ▸ e)
  ios := fun i d a hs e => by
    obtain ⟨q1, q2⟩ := h.mut hs (F1 := F) (a := a) trivial
    exact w.ios i d a q1 (q2 ▸ e)
  sep := fun i j s t a n h1 hw e1 h2 e2 m => by
    obtain ⟨q1, q2⟩ := h.mut h1 (F1 := F) (a := a) (Slot.wr_mut hw)
    obtain ⟨r1, r2⟩ := h.mut h2 m
    exact w.sep i j s t a n q1 hw (q2 ▸ e1) r1 (r2 ▸ e2) m
  bos := fun i d a hs e nr => by
    obtain ⟨q1, q2⟩ := h.mut hs (F1 := F) (a := a) nr
    exact w.bos i d a q1 (q2 ▸ e) nr
  er := fun x h1 h2 => by
    rcases h _ _ h2 with ⟨q1, q2⟩ | q | ⟨_, _, q, _⟩
    · rw [q2]; exact w.er x h1 q1
    · cases q
    · cases q
theorem NotMut.re {a : Addr} (n : NotMut W F S σ a) (h : Turned W F S S' σ σ') : NotMut W F S' σ' a := fun i s hs e m => by
  obtain ⟨q1, q2⟩ := h.mut hs m
  exact n i s q1 (q2 ▸ e) m
/-- like Evo, between two states -/
structure EvoL (W : Wo) (S : Sl) (σ : Sg) (F H : Hp) (S' : Sl) (σ' : Sg) (F' H' : Hp) : Prop where
  fr : Same F F'
  keep : ∀ a o, H a = some o → NotMut W F S σ a → H' a = some o
  live : ∀ a, H a ≠ none → H' a ≠ none
  fnew : ∀ a, F a = none → H a ≠ none → NotMut W F S σ a → F' a = none
  sh : ∀ a, NotMut W F S σ a → NotMut W F' S' σ' a
theorem EvoL.of (e : Evo W S σ F H F' H' S') : EvoL W S σ F H S' σ F' H' := ⟨e.fr, e.keep, e.live, e.fnew, e.sh⟩
theorem EvoL.evo (e : EvoL W S σ F H S' σ F' H') : Evo W S σ F H F' H' S' := ⟨e.fr, e.keep, e.live, e.fnew, e.sh⟩
theorem EvoL.trans {S1 S2 : Sl} {σ1 σ2 : Sg} {F1 H1 F2 H2 : Hp} (a : EvoL W S σ F H S1 σ1 F1 H1) (b : EvoL W S1 σ1 F1 H1 S2 σ2 F2 H2) : EvoL W S σ F H S2 σ2 F2 H2 :=
  ⟨a.fr.trans b.fr, fun c o h n => b.keep c o (a.keep c o h n) (a.sh c n), fun c h => b.live c (a.live c h), fun c h1 h2 n => b.fnew c (a.fnew c h1 h2 n) (a.live c h2) (a.sh c n), fun c n => b.sh c (a.sh c n)⟩
theorem EvoL.re (h : Turned W F S S' σ σ') : EvoL W S σ F H S' σ' F H := ⟨Same.refl _, fun _ _ q _ => q, fun _ q => q, fun _ q _ _ => q, fun _ n => n.re h⟩
end
/-- the slots of the block's own names: as they stood before, if frozen; else forgotten -/
def backS (S0 S : Sl) : List Nat → Sl
  | [] => S
  | v :: vs => (backS S0 S vs).set v (match S0[v]? with
    | some (.va d) => .va d
    | _ => .un)
theorem backS_length (S0 S : Sl) : ∀ vs : List Nat, (backS S0 S vs).length = S.length
  | [] => rfl
  | v :: vs => by unfold backS; rw [List.length_set, backS_length S0 S vs]
theorem backS_get {S0 S : Sl} {i : Nat} {s : Slot} : ∀ {vs : List Nat}, (backS S0 S vs)[i]? = some s → (i ∉ vs ∧ S[i]? = some s) ∨ (i ∈ vs ∧ (s = .un ∨ ∃ d, s = .va d ∧ S0[i]? = some (.va d)))
  | [], h => .inl ⟨by simp, h⟩
  | v :: vs, h => by
    unfold backS at h
    rcases getElem?_set_cases h with ⟨rfl, e⟩ | ⟨n, h⟩
    · refine .inr ⟨List.mem_cons_self, ?_⟩
      cases q : S0[i]? with
      | none => rw [q] at e; exact .inl e
      | some s0 =>
        rw [q] at e
        cases s0 with
        | va d => exact .inr ⟨d, e, rfl⟩
        | _ => exact .inl e
    · rcases backS_get h with ⟨a, b⟩ | ⟨a, b⟩
      · exact .inl ⟨by simp only [List.mem_cons, not_or]; exact ⟨n, a⟩, b⟩
      · exact .inr ⟨List.mem_cons_of_mem _ a, b⟩
abbrev wipeS (S : Sl) (vs : List Nat) : Sl := backS [] S vs
theorem wipeS_get {S : Sl} {i : Nat} {s : Slot} {vs : List Nat} (h : (wipeS S vs)[i]? = some s) : (i ∉ vs ∧ S[i]? = some s) ∨ s = .un := by
  rcases backS_get h with q | ⟨_, q | ⟨d, _, q⟩⟩
  · exact .inl q
  · exact .inr q
  · cases q
theorem wipe_of_agree {σ σ' : Sg} {vs : List Nat} (h : Agree vs σ σ') : wipe σ' vs = wipe σ vs := by
  refine List.ext_getElem? fun i => ?_
  by_cases hi : i ∈ vs
  · have z : ∀ τ : Sg, τ.length = σ.length → (wipe τ vs)[i]? = if i < σ.length then some none else none := fun τ e => by
      cases q : (wipe τ vs)[i]? with
      | none =>
        have := List.getElem?_eq_none_iff.mp q
        rw [wipe_length, e] at this
        rw [if_neg (by omega)]
      | some o =>
        have h1 := (List.getElem?_eq_some_iff.mp q).1
        rw [wipe_length, e] at h1
        rw [if_pos h1]
        cases o with
        | none => rfl
        | some x => exact absurd hi (wipe_some q).2
    rw [z σ' h.1, z σ rfl]
  · rw [wipe_out hi, wipe_out hi, h.2 i hi]
theorem Agree.mono {ts vs : List Nat} {σ σ' : Sg} (h : Agree ts σ σ') (hs : ∀ i ∈ ts, i ∈ vs) : Agree vs σ σ' := ⟨h.1, fun i hi => h.2 i fun z => hi (hs i z)⟩
theorem Agree.comp {vs : List Nat} {σ σ1 σ2 : Sg} (a : Agree vs σ σ1) (b : Agree vs σ1 σ2) : Agree vs σ σ2 := ⟨b.1.trans a.1, fun i h => (b.2 i h).trans (a.2 i h)⟩
theorem Agree.wipe {vs : List Nat} {σ : Sg} : Agree vs σ (wipe σ vs) := ⟨wipe_length _ _, fun i h => wipe_out h⟩

abbrev Acc := Nat × List D
def compL (g : Tg) (vs : List Nat) (turn : Acc → Sem Acc) : List D → Acc → Sem Acc
  | [], A, S => .ok A S
  | d :: ds, A, S => (match g d (wipeS S vs) with
    | some S1 => (turn A S1).bind fun A S2 => compL g vs turn ds A S2
    | none => .bad)
def turn1 (t : Sem Bool) (f : Sem D) : Acc → Sem Acc := fun A S => (t S).bind fun b S => if b = true then (f S).bind fun y S => (if A.1 < 16777216 then .ok (A.1 + 1, y :: A.2) S else .bad) else .ok A S
def turn2 (t : Sem Bool) (src : Sem (List D)) (g1 : Tg) (vs1 : List Nat) (turn : Acc → Sem Acc) : Acc → Sem Acc := fun A S => (t S).bind fun b S => if b = true then (src S).bind fun ds S => compL g1 vs1 turn ds A S else .ok A S
/-- the comprehension's state: the new list at a holds what A tells -/
structure CSt (W : Wo) (C : Fr) (a : Addr) (S0 : Sl) (σ0 : Sg) (F0 H0 : Hp) (F : Hp) (S : Sl) (σ : Sg) (A : Acc) (H : Hp) : Prop where
  wd : Wd W C F S σ H
  evo : EvoL W S0 σ0 F0 H0 S σ F H
  acc : ∃ vs, H a = some (.lst vs) ∧ Reps W F A.2.reverse vs ∧ vs.length = A.1
  fa : F a = none
  nm : NotMut W F S σ a
  ce : C.H0 a = none
  cs : H0 a = none
section
variable {W : Wo} {C : Fr} {a : Addr} {S0 : Sl} {σ0 : Sg} {F0 H0 F F' F1 : Hp} {S S' : Sl} {σ σ' : Sg} {A : Acc} {H H' : Hp} {g : Tg} {ts vs : List Nat} {turn : Acc → Sem Acc}
theorem CSt.step (c : CSt W C a S0 σ0 F0 H0 F S σ A H) (w : Wd W C F' S' σ H') (e : Evo W S σ F H F' H' S') : CSt W C a S0 σ0 F0 H0 F' S' σ A H' := by
  obtain ⟨us, e1, r, l⟩ := c.acc
  exact ⟨w, c.evo.trans (.of e), ⟨us, e.keep a _ e1 c.nm, r.mono e.fr, l⟩, e.fnew a c.fa (ne_none_of e1) c.nm, e.sh a c.nm, c.ce, c.cs⟩
theorem CSt.re (c : CSt W C a S0 σ0 F0 H0 F S σ A H) (hl : S'.length = σ'.length) (h : Turned W F S S' σ σ') : CSt W C a S0 σ0 F0 H0 F S' σ' A H :=
  ⟨c.wd.re hl h, c.evo.trans (.re h), c.acc, c.fa, c.nm.re h, c.ce, c.cs⟩
def okA (r : Res Acc) (K : Acc → Sl → Prop) : Prop := match r with
  | .ok A S => K A S
  | _ => False
theorem okA_bind {α : Type} {r : Res α} {k : α → Sl → Res Acc} {K : Acc → Sl → Prop} (h : okA (r.bind k) K) : ∃ x S1, r = .ok x S1 ∧ okA (k x S1) K := by
  cases r with
  | ok x S1 => exact ⟨x, S1, rfl, h⟩
  | ex x S1 => exact h.elim
  | bad => exact h.elim
/-- the walk over the source: i turns done -/
def LW (W : Wo) (C : Fr) (a : Addr) (S0 : Sl) (σ0 : Sg) (F0 H0 F1 : Hp) (g : Tg) (vs : List Nat) (turn : Acc → Sem Acc) (ds : List D) (σ : Sg) (K : Hp → Prop) (i m : Nat) (H : Hp) : Prop :=
  m = ds.length - i ∧ i ≤ ds.length ∧ ∃ F S σ' A, Same F1 F ∧ Agree vs σ σ' ∧ CSt W C a S0 σ0 F0 H0 F S σ' A H ∧
    okA (compL g vs turn (ds.drop i) A S) fun A' S' => ∀ σ' F' H', Agree vs σ σ' → Same F1 F' → CSt W C a S0 σ0 F0 H0 F' S' σ' A' H' → K H'
theorem comp_loop {J : It} {ds : List D} {K : Hp → Prop} {T : Sg → Hp → (Hp → Prop) → Prop} (sr : SrcOk W C F1 J ds) (tg : TgOk ts g) (hts : ∀ i ∈ ts, i ∈ vs)
    (hT : ∀ F S σ2 A H2 (Nx : Hp → Prop), Agree vs σ σ2 → Same F1 F → CSt W C a S0 σ0 F0 H0 F S σ2 A H2 → okA (turn A S) (fun A' S' => ∀ σ3 F' H', Agree vs σ2 σ3 → Same F F' → CSt W C a S0 σ0 F0 H0 F' S' σ3 A' H' → Nx H') → T σ2 H2 Nx)
    {i m : Nat} {H : Hp} (lw : LW W C a S0 σ0 F0 H0 F1 g vs turn ds σ K i m H) :
    (J.stop i H ∧ K H) ∨ (J.go i H ∧ ∃ Nx : Hp → Prop, (∀ H', Nx H' → ∃ m', m' < m ∧ LW W C a S0 σ0 F0 H0 F1 g vs turn ds σ K (i + 1) m' H') ∧ ∀ x H', J.yld i H x H' → rdG W C ts g x (wipe σ vs) H' fun σ2 H2 => wipe σ2 vs = wipe σ vs ∧ T σ2 H2 Nx) := by
  obtain ⟨rfl, hi, F, S, σ', A, s1, ag, c, ok⟩ := lw
  by_cases hlt : i < ds.length
  · have hd : ds[i]? = some ds[i] := List.getElem?_eq_getElem hlt
    have hdr : ds.drop i = ds[i] :: ds.drop (i + 1) := List.drop_eq_getElem_cons hlt
    rw [hdr] at ok
    refine .inr ⟨sr.go i F S σ' H c.wd s1 hlt, fun H' => LW W C a S0 σ0 F0 H0 F1 g vs turn ds σ K (i + 1) (ds.length - (i + 1)) H', fun H' q => ⟨_, by omega, q⟩, fun x H' y => ?_⟩
    obtain ⟨F3, ex, rx⟩ := sr.yld i _ F S σ' H x H' c.wd s1 hd y
    have c3 := c.step (c.wd.ext ex) ex.evo
    -- the block's names forgotten
    have tu : Turned W F3 S (wipeS S vs) σ' (wipe σ vs) := fun j s hj => by
      rcases wipeS_get hj with ⟨n, e⟩ | e
      · refine .inl ⟨e, ?_⟩
        rw [wipe_out n, ag.2 j n]
      · exact .inr (.inl e)
    have c4 := c3.re (by rw [backS_length, wipe_length, ← ag.1]; exact c3.wd.len) tu
    have ok' : okA (match g ds[i] (wipeS S vs) with
      | some S1 => (turn A S1).bind fun A S2 => compL g vs turn (ds.drop (i + 1)) A S2
      | none => .bad) fun A' S' => ∀ σ' F' H', Agree vs σ σ' → Same F1 F' → CSt W C a S0 σ0 F0 H0 F' S' σ' A' H' → K H' := ok
    cases q : g ds[i] (wipeS S vs) with
    | none => rw [q] at ok'; exact ok'.elim
    | some S1 =>
      rw [q] at ok'
      refine ⟨F3, wipeS S vs, _, c4.wd, rx, S1, q, fun σ2 w2 a2 => ?_⟩
      have a3 : Agree vs σ σ2 := Agree.wipe.comp (a2.mono hts)
      have tg2 : Turned W F3 (wipeS S vs) S1 (wipe σ vs) σ2 := fun j s hj => by
        obtain ⟨_, g2, g3⟩ := tg _ _ _ q
        by_cases ht : j ∈ ts
        · by_cases hm : s.mut = true
          · have z := g3 j s hj ht hm
            rcases wipeS_get z with ⟨n, _⟩ | e
            · exact absurd (hts j ht) n
            · rw [e] at hm; cases hm
          · cases s with
            | un => exact .inr (.inl rfl)
            | va d =>
              obtain ⟨v, ev, rv⟩ := w2.slot j _ hj
              exact .inr (.inr ⟨d, v, rfl, ev, rv⟩)
            | _ => exact absurd rfl hm
        · exact .inl ⟨by rw [← g2 j ht]; exact hj, a2.2 j ht⟩
      have c5 := c4.re w2.len tg2
      refine ⟨(wipe_of_agree a3), hT F3 S1 σ2 A H' _ a3 (s1.trans ex.fr) c5 ?_⟩
      obtain ⟨A2, S2, e2, ok2⟩ := okA_bind ok'
      rw [e2]
      intro σ3 F4 H4 a4 s4 c6
      exact ⟨rfl, hlt, F4, S2, σ3, A2, (s1.trans ex.fr).trans s4, a3.comp a4, c6, ok2⟩
  · have e : i = ds.length := by omega
    subst e
    rw [List.drop_length] at ok
    exact .inl ⟨sr.stop F S σ' H c.wd s1, ok σ' F H ag s1 c⟩
def WF : WX := fun _ _ _ _ => False
/-- a turn that ends in the element -/
def T1 (W : Wo) (C : Fr) (a : Addr) (t : Sem Bool) (f : Sem D) : Sg → Hp → (Hp → Prop) → Prop := fun σ H Nx => rd W C WF PB t σ H fun b H3 =>
  if b = true then rd W C WF (PVl W) f σ H3 fun y H4 => ∃ acc, H4 a = some (.lst acc) ∧ acc.length < sizeLine ∧ Nx (upd H4 a (.lst (acc ++ [y]))) else Nx H3
theorem CSt.push {y : D} {v : V} {acc : List V} (c : CSt W C a S0 σ0 F0 H0 F S σ A H) (e1 : H a = some (.lst acc)) (r : Rep W F y v) : CSt W C a S0 σ0 F0 H0 F S σ (A.1 + 1, y :: A.2) (upd H a (.lst (acc ++ [v]))) := by
  obtain ⟨us, e2, r2, l⟩ := c.acc
  rw [e1] at e2; cases e2
  have hl : ∀ b, H b ≠ none → upd H a (.lst (acc ++ [v])) b ≠ none := fun b q => by
    by_cases hb : b = a
    · subst hb; rw [upd_same]; exact fun z => nomatch z
    · rw [upd_ne hb]; exact q
  refine ⟨⟨?_, c.wd.f0, c.wd.new, ?_, fun b q => hl b (c.wd.live b q), c.wd.len, ?_, c.wd.own, c.wd.ios, c.wd.sep, c.wd.bos, fun x h1 h2 => ⟨(c.wd.er x h1 h2).1, (c.wd.er x h1 h2).2.mono (Same.refl _) fun d fs q => by rw [upd_ne (fun z => by rw [z, e1] at q; cases q)]; exact q⟩⟩, ⟨c.evo.fr, ?_, fun b q => hl b (c.evo.live b q), c.evo.fnew, c.evo.sh⟩, ⟨_, upd_same, ?_, by rw [List.length_append, l]; rfl⟩, c.fa, c.nm, c.ce, c.cs⟩
  · intro b x q
    rw [upd_ne (fun z => by rw [z, c.fa] at q; cases q)]
    exact c.wd.sub _ _ q
  · intro b x q1 q2
    by_cases hb : b = a
    · subst hb
      rw [c.ce] at q1; cases q1
    · rw [upd_ne hb]
      exact c.wd.keep b x q1 q2
  · intro j s hj
    refine (c.wd.slot j s hj).mono (Same.refl _) (fun _ _ _ q _ => q) fun b x m eb q => ?_
    rw [upd_ne (fun z => ?_)]
    · exact q
    · subst z
      exact c.nm j s hj eb m
  · intro b x q1 q2
    rw [upd_ne (fun z => by rw [z, c.cs] at q1; cases q1)]
    exact c.evo.keep b x q1 q2
  · show Reps W F (y :: A.2).reverse _
    rw [List.reverse_cons]
    exact r2.append (.cons r .nil)
theorem turn1_ok {t : Sem Bool} {f : Sem D} {H2 : Hp} {σ2 : Sg} {Nx : Hp → Prop} (c : CSt W C a S0 σ0 F0 H0 F S σ2 A H2) (ok : okA (turn1 t f A S) (fun A' S' => ∀ σ3 F' H', Agree vs σ2 σ3 → Same F F' → CSt W C a S0 σ0 F0 H0 F' S' σ3 A' H' → Nx H')) : T1 W C a t f σ2 H2 Nx := by
  obtain ⟨b, S1, e1, ok1⟩ := okA_bind ok
  refine ⟨F, S, c.wd, ?_⟩
  rw [e1]
  intro v F1 H1 w1 ev1 p1
  have p2 : v = b := p1
  subst p2
  have c1 := c.step w1 ev1
  cases v with
  | false =>
    rw [if_neg Bool.false_ne_true] at ok1 ⊢
    exact ok1 σ2 F1 H1 Agree.refl ev1.fr c1
  | true =>
    rw [if_pos rfl] at ok1 ⊢
    obtain ⟨y, S3, e3, ok3⟩ := okA_bind ok1
    refine ⟨F1, S1, c1.wd, ?_⟩
    rw [e3]
    intro u F3 H3 w3 ev3 p3
    have c3 := c1.step w3 ev3
    obtain ⟨us, eu, ru, lu⟩ := c3.acc
    by_cases hz : A.1 < 16777216
    · rw [if_pos hz] at ok3
      refine ⟨us, eu, by rw [lu, sizeLine_eq]; exact hz, ?_⟩
      exact ok3 σ2 F3 _ Agree.refl (ev1.fr.trans ev3.fr) (c3.push eu p3)
    · rw [if_neg hz] at ok3; exact ok3.elim
/-- a turn with a second walk -/
def T2 (W : Wo) (C : Fr) (a : Addr) (t : Sem Bool) (src : Sem (List D)) (g1 : Tg) (ts1 vs1 : List Nat) (t1 : Sem Bool) (f : Sem D) : Sg → Hp → (Hp → Prop) → Prop := fun σ H Nx => rd W C WF PB t σ H fun b H3 =>
  if b = true then rd W C WF (PSrc W C) src σ H3 fun J1 H4 => ∃ W1 : Nat → Nat → Hp → Prop, (∃ m, W1 0 m H4) ∧ ∀ j k H, W1 j k H →
      (J1.stop j H ∧ Nx H) ∨ (J1.go j H ∧ ∃ Nx1 : Hp → Prop, (∀ H', Nx1 H' → ∃ k', k' < k ∧ W1 (j + 1) k' H') ∧ ∀ x H', J1.yld j H x H' → rdG W C ts1 g1 x (wipe σ vs1) H' fun σ3 H5 => wipe σ3 vs1 = wipe σ vs1 ∧ T1 W C a t1 f σ3 H5 Nx1)
    else Nx H3
theorem turn2_ok {t t1 : Sem Bool} {src : Sem (List D)} {g1 : Tg} {ts1 vs1 : List Nat} {f : Sem D} {H2 : Hp} {σ2 : Sg} {Nx : Hp → Prop} (tg1 : TgOk ts1 g1) (hts : ∀ i ∈ ts1, i ∈ vs1) (hvs : ∀ i ∈ vs1, i ∈ vs) (c : CSt W C a S0 σ0 F0 H0 F S σ2 A H2)
    (ok : okA (turn2 t src g1 vs1 (turn1 t1 f) A S) (fun A' S' => ∀ σ3 F' H', Agree vs σ2 σ3 → Same F F' → CSt W C a S0 σ0 F0 H0 F' S' σ3 A' H' → Nx H')) : T2 W C a t src g1 ts1 vs1 t1 f σ2 H2 Nx := by
  obtain ⟨b, S1, e1, ok1⟩ := okA_bind ok
  refine ⟨F, S, c.wd, ?_⟩
  rw [e1]
  intro v F1 H1 w1 ev1 p1
  have p2 : v = b := p1
  subst p2
  have c1 := c.step w1 ev1
  cases v with
  | false =>
    rw [if_neg Bool.false_ne_true] at ok1 ⊢
    exact ok1 σ2 F1 H1 Agree.refl ev1.fr c1
  | true =>
    rw [if_pos rfl] at ok1 ⊢
    obtain ⟨ds, S3, e3, ok3⟩ := okA_bind ok1
    refine ⟨F1, S1, c1.wd, ?_⟩
    rw [e3]
    intro J F3 H3 w3 ev3 p3
    have p4 : SrcOk W C F3 J ds := p3
    have c3 := c1.step w3 ev3
    refine ⟨LW W C a S0 σ0 F0 H0 F3 g1 vs1 (turn1 t1 f) ds σ2 Nx, ⟨ds.length, rfl, Nat.zero_le _, F3, S3, σ2, A, Same.refl _, Agree.refl, c3, ?_⟩, fun j k H lw => ?_⟩
    · rw [List.drop_zero]
      cases r : compL g1 vs1 (turn1 t1 f) ds A S3 with
      | ok A' S' =>
        rw [r] at ok3
        exact fun σ' F' H' a' s' c' => ok3 σ' F' H' (a'.mono hvs) ((ev1.fr.trans ev3.fr).trans s') c'
      | ex x S' => rw [r] at ok3; exact ok3.elim
      | bad => rw [r] at ok3; exact ok3.elim
    · exact comp_loop (T := T1 W C a t1 f) p4 tg1 hts (fun F S σ3 A H2 Nx _ _ c ok => turn1_ok (vs := vs1) c ok) lw
end
/-! the whole -/
def sLcT (src : Sem (List D)) (g : Tg) (vs : List Nat) (turn : Acc → Sem Acc) : Sem Hd := fun S => (src S).bind fun ds S1 => match compL g vs turn ds (0, []) S1 with
  | .ok A S2 => .ok (.own (.lst A.2.reverse)) (backS S1 S2 vs)
  | _ => .bad
section
variable {X : Cx} {W : Wo} {C : Fr} {Wx : WX}
theorem lc_done {a : Addr} {S0 : Sl} {σ0 : Sg} {F0 H0 F : Hp} {S : Sl} {σ' : Sg} {A : Acc} {H : Hp} {vs : List Nat} (w0 : Wd W C F0 S0 σ0 H0) (c : CSt W C a S0 σ0 F0 H0 F S σ' A H) (ag : Agree vs σ0 σ') :
    Wd W C F (backS S0 S vs) σ0 H ∧ Evo W S0 σ0 F0 H0 F H (backS S0 S vs) ∧ Tmp W C H0 F H (backS S0 S vs) σ0 (.lst A.2.reverse) (.ref a) := by
  have tu : Turned W F S (backS S0 S vs) σ' σ0 := fun j s hj => by
    rcases backS_get hj with ⟨n, e⟩ | ⟨n, e | ⟨d, e, q⟩⟩
    · exact .inl ⟨e, (ag.2 j n).symm⟩
    · exact .inr (.inl e)
    · obtain ⟨v, ev, rv⟩ := w0.slot j _ q
      exact .inr (.inr ⟨d, v, e, ev, rv.mono c.evo.fr⟩)
  have c2 := c.re (by rw [backS_length, ← ag.1]; exact c.wd.len) tu
  obtain ⟨us, e1, r, l⟩ := c2.acc
  exact ⟨c2.wd, c2.evo.evo, a, rfl, c2.fa, ⟨us, e1, r⟩, c2.ce, c2.cs, c2.nm⟩
theorem lc_start {S0 : Sl} {σ0 : Sg} {F0 H0 : Hp} (w0 : Wd W C F0 S0 σ0 H0) {a : Addr} (h : H0 a = none) : CSt W C a S0 σ0 F0 H0 F0 S0 σ0 (0, []) (upd H0 a (.lst [])) := by
  have ex := Ext.allocO (o := .lst []) w0.sub h
  have t := w0.tmp h ex (d := .lst []) ⟨[], upd_same, .nil⟩ (w0.sub.free h)
  obtain ⟨b, e, n, z, ce, cs, nm⟩ := t
  cases e
  exact ⟨w0.ext ex, .of ex.evo, ⟨[], upd_same, .nil, rfl⟩, n, nm, ce, cs⟩
theorem lc_sem {src : Sem (List D)} {g : Tg} {ts vs : List Nat} {turn : Acc → Sem Acc} {T : Addr → Sg → Hp → (Hp → Prop) → Prop} (tg : TgOk ts g) (hts : ∀ i ∈ ts, i ∈ vs)
    (hT : ∀ a S0 σ0 F0 H0 F S σ2 A H2 (Nx : Hp → Prop), CSt W C a S0 σ0 F0 H0 F S σ2 A H2 → okA (turn A S) (fun A' S' => ∀ σ3 F' H', Agree vs σ2 σ3 → Same F F' → CSt W C a S0 σ0 F0 H0 F' S' σ3 A' H' → Nx H') → T a σ2 H2 Nx)
    {σ : Sg} {H : Hp} {Q : VK} (h : rd W C Wx (PHd W C) (sLcT src g vs turn) σ H Q) :
    rd W C Wx (PSrc W C) src σ H fun J H1 => ∀ a, H1 a = none → ∃ LV : Nat → Nat → Hp → Prop, (∃ m, LV 0 m (upd H1 a (.lst []))) ∧ ∀ i m H, LV i m H →
      (J.stop i H ∧ Q (.ref a) H) ∨ (J.go i H ∧ ∃ Nx : Hp → Prop, (∀ H', Nx H' → ∃ m', m' < m ∧ LV (i + 1) m' H') ∧ ∀ x H', J.yld i H x H' → rdG W C ts g x (wipe σ vs) H' fun σ2 H2 => wipe σ2 vs = wipe σ vs ∧ T a σ2 H2 Nx) := by
  obtain ⟨F, S, w, m⟩ := h
  refine ⟨F, S, w, At.bind anti_hd m fun ds S1 J F1 H1 _ w1 e1 p1 m1 => fun a ha => ?_⟩
  have p2 : SrcOk W C F1 J ds := p1
  refine ⟨LW W C a S1 σ F1 H1 F1 g vs turn ds σ fun H' => Q (.ref a) H', ⟨ds.length, rfl, Nat.zero_le _, F1, S1, σ, (0, []), Same.refl _, Agree.refl, lc_start w1 ha, ?_⟩, fun j k H lw => ?_⟩
  · rw [List.drop_zero]
    cases r : compL g vs turn ds (0, []) S1 with
    | ok A' S' =>
      simp only [r] at m1
      intro σ' F' H' a' _ c'
      obtain ⟨w2, e2, t2⟩ := lc_done w1 c' a'
      exact m1 (.ref a) F' H' w2 e2 t2
    | ex x S' => simp only [r] at m1; exact m1.elim
    | bad => simp only [r] at m1; exact m1.elim
  · exact comp_loop (T := T a) p2 tg hts (fun F S σ2 A H2 Nx _ _ c ok => hT a _ _ _ _ F S σ2 A H2 Nx c ok) lw
abbrev PXts (X : Cx) (W : Wo) (C : Fr) (ifs : List Expr) (t : Sem Bool) : Prop := PTs X ifs (rd W C WF PB t)
def sYes : Sem Bool := fun S => .ok true S
theorem PTs.imp {X : Cx} {ifs : List Expr} {t t' : TT} (h : PTs X ifs t) (i : ∀ σ H Q, t' σ H Q → t σ H Q) : PTs X ifs t' := ⟨fun pins s σ H Q I q => h.run pins s σ H Q I (i σ H Q q)⟩
theorem pxs_nil : PXts X W C [] sYes := PTs.imp pts_nil fun σ H Q ⟨F, S, w, m⟩ => m true F H w Evo.refl rfl
theorem pxs_one {c : Expr} {t : Sem Bool} (h : PXt X W C WF c t) : PXts X W C [c] t := pts_one h
/-- [elt for tg in iter if ..] -/
theorem px_lc {elt tg iter : Expr} {ifs : List Expr} {scope : Scope} {pos : Pos} {src : Sem (List D)} {g : Tg} {ts : List Nat} {t : Sem Bool} {f : Sem Hd} (own : List (Str × Nat)) (hc : X.calm = true) (hN : X.N.Nodup) (hi : PIx X W C Wx tg iter src) (ok : BlkOk X.N X.env.scope scope own)
    (hg : ∀ (s : Shared) (H : Hp) (E : Addr) (cl : List (Str × Addr)) (fp : List Addr), PGx (X.blk s H scope (compEnvC scope cl E X.env) fp) W C tg ts g)
    (ht : ∀ (s : Shared) (H : Hp) (E : Addr) (cl : List (Str × Addr)) (fp : List Addr), PXts (X.blk s H scope (compEnvC scope cl E X.env) fp) W C ifs t)
    (he : ∀ (s : Shared) (H : Hp) (E : Addr) (cl : List (Str × Addr)) (fp : List Addr), PX (X.blk s H scope (compEnvC scope cl E X.env) fp) W C WF elt f) (hts : ∀ i ∈ ts, i ∈ own.map (·.2)) (tok : TgOk ts g)
    (hs : ∀ x, foldedSetIterable iter X.env x = pure x := by intro _; rfl) : PX X W C Wx (.ListComp elt [⟨tg, iter, ifs, 0⟩] scope pos) (sLcT src g (own.map (·.2)) (turn1 t (sV f))) :=
  PE.imp (pe_lc hc hN hi ok (fun s H E cl fp => (hg s H E cl fp).pg) ht (fun s H E cl fp => pxv (he s H E cl fp)) hs) fun σ H Q h => lc_sem tok hts (fun a S0 σ0 F0 H0 F S σ2 A H2 Nx c ok => turn1_ok c ok) h
theorem p1_setLc {elt tg iter : Expr} {ifs : List Expr} {scope : Scope} {pos spos py : Pos} {y : Str} {src : Sem (List D)} {g : Tg} {ts : List Nat} {t : Sem Bool} {f : Sem Hd} (i : Nat) (own : List (Str × Nat)) (hc : X.calm = true) (hN : X.N.Nodup) (hi : PIx X W C Wx tg iter src) (ok : BlkOk X.N X.env.scope scope own)
    (hg : ∀ (s : Shared) (H : Hp) (E : Addr) (cl : List (Str × Addr)) (fp : List Addr), PGx (X.blk s H scope (compEnvC scope cl E X.env) fp) W C tg ts g)
    (ht : ∀ (s : Shared) (H : Hp) (E : Addr) (cl : List (Str × Addr)) (fp : List Addr), PXts (X.blk s H scope (compEnvC scope cl E X.env) fp) W C ifs t)
    (he : ∀ (s : Shared) (H : Hp) (E : Addr) (cl : List (Str × Addr)) (fp : List Addr), PX (X.blk s H scope (compEnvC scope cl E X.env) fp) W C WF elt f) (hts : ∀ i ∈ ts, i ∈ own.map (·.2)) (tok : TgOk ts g)
    (hsw : swapsWith (.ListComp elt [⟨tg, iter, ifs, 0⟩] scope pos) (some (.Name y py)) spos.line X.env = pure true) (hy : X.N[i]? = some y := by rfl) (hyl : X.env.scope.names.lookup y = some .local := by rfl)
    (hs : ∀ x, foldedSetIterable iter X.env x = pure x := by intro _; rfl) : PT1 X W C Wx (.Assign [.Name y py] (.ListComp elt [⟨tg, iter, ifs, 0⟩] scope pos) spos) (gSet i (sLcT src g (own.map (·.2)) (turn1 t (sV f)))) :=
  PS.imp (ps_setLc hc hN hy hyl hsw hi ok (fun s H E cl fp => (hg s H E cl fp).pg) ht (fun s H E cl fp => pxv (he s H E cl fp)) hs) fun D' σ H ⟨F, S, w, m⟩ =>
    lc_sem tok hts (fun a S0 σ0 F0 H0 F S σ2 A H2 Nx c ok => turn1_ok c ok) ⟨F, S, w, SAt.expr m fun h S1 v F1 H1 _ w1 e1 p1 m1 => at_setHd w1 p1 m1⟩
/-- [elt for tg in iter if .. for tg1 in iter1 if ..] -/
theorem px_lc2 {elt tg iter tg1 iter1 : Expr} {ifs ifs1 : List Expr} {scope : Scope} {pos : Pos} {src src1 : Sem (List D)} {g g1 : Tg} {ts ts1 : List Nat} {t t1 : Sem Bool} {f : Sem Hd} (own : List (Str × Nat)) (vs1 : List Nat) (hc : X.calm = true) (hN : X.N.Nodup) (hi : PIx X W C Wx tg iter src) (ok : BlkOk X.N X.env.scope scope own)
    (hv : ∀ i ∈ vs1, i ∈ own.map (·.2))
    (hg : ∀ (s : Shared) (H : Hp) (E : Addr) (cl : List (Str × Addr)) (fp : List Addr), PGx (X.blk s H scope (compEnvC scope cl E X.env) fp) W C tg ts g)
    (ht : ∀ (s : Shared) (H : Hp) (E : Addr) (cl : List (Str × Addr)) (fp : List Addr), PXts (X.blk s H scope (compEnvC scope cl E X.env) fp) W C ifs t)
    (hi1 : ∀ (s : Shared) (H : Hp) (E : Addr) (cl : List (Str × Addr)) (fp : List Addr), PIx (X.blk s H scope (compEnvC scope cl E X.env) fp) W C WF tg1 iter1 src1)
    (hg1 : ∀ (s : Shared) (H : Hp) (E : Addr) (cl : List (Str × Addr)) (fp : List Addr), PGx (X.blk s H scope (compEnvC scope cl E X.env) fp) W C tg1 ts1 g1)
    (ht1 : ∀ (s : Shared) (H : Hp) (E : Addr) (cl : List (Str × Addr)) (fp : List Addr), PXts (X.blk s H scope (compEnvC scope cl E X.env) fp) W C ifs1 t1)
    (he : ∀ (s : Shared) (H : Hp) (E : Addr) (cl : List (Str × Addr)) (fp : List Addr), PX (X.blk s H scope (compEnvC scope cl E X.env) fp) W C WF elt f) (hts : ∀ i ∈ ts, i ∈ own.map (·.2)) (hts1 : ∀ i ∈ ts1, i ∈ vs1) (tok : TgOk ts g) (tok1 : TgOk ts1 g1)
    (hs : ∀ x, foldedSetIterable iter X.env x = pure x := by intro _; rfl) (hs1 : ∀ env x, foldedSetIterable iter1 env x = pure x := by intro _ _; rfl) :
    PX X W C Wx (.ListComp elt [⟨tg, iter, ifs, 0⟩, ⟨tg1, iter1, ifs1, 0⟩] scope pos) (sLcT src g (own.map (·.2)) (turn2 t src1 g1 vs1 (turn1 t1 (sV f)))) :=
  PE.imp (pe_lc2 hc hN hi ok hv (fun s H E cl fp => (hg s H E cl fp).pg) ht hi1 (fun s H E cl fp => (hg1 s H E cl fp).pg) ht1 (fun s H E cl fp => pxv (he s H E cl fp)) hs hs1) fun σ H Q h =>
    lc_sem (T := fun a => T2 W C a t src1 g1 ts1 vs1 t1 (sV f)) tok hts (fun a S0 σ0 F0 H0 F S σ2 A H2 Nx c ok => turn2_ok tok1 hts1 hv c ok) h
theorem p1_setLc2 {elt tg iter tg1 iter1 : Expr} {ifs ifs1 : List Expr} {scope : Scope} {pos spos py : Pos} {y : Str} {src src1 : Sem (List D)} {g g1 : Tg} {ts ts1 : List Nat} {t t1 : Sem Bool} {f : Sem Hd} (i : Nat) (own : List (Str × Nat)) (vs1 : List Nat) (hc : X.calm = true) (hN : X.N.Nodup) (hi : PIx X W C Wx tg iter src) (ok : BlkOk X.N X.env.scope scope own)
    (hv : ∀ i ∈ vs1, i ∈ own.map (·.2))
    (hg : ∀ (s : Shared) (H : Hp) (E : Addr) (cl : List (Str × Addr)) (fp : List Addr), PGx (X.blk s H scope (compEnvC scope cl E X.env) fp) W C tg ts g)
    (ht : ∀ (s : Shared) (H : Hp) (E : Addr) (cl : List (Str × Addr)) (fp : List Addr), PXts (X.blk s H scope (compEnvC scope cl E X.env) fp) W C ifs t)
    (hi1 : ∀ (s : Shared) (H : Hp) (E : Addr) (cl : List (Str × Addr)) (fp : List Addr), PIx (X.blk s H scope (compEnvC scope cl E X.env) fp) W C WF tg1 iter1 src1)
    (hg1 : ∀ (s : Shared) (H : Hp) (E : Addr) (cl : List (Str × Addr)) (fp : List Addr), PGx (X.blk s H scope (compEnvC scope cl E X.env) fp) W C tg1 ts1 g1)
    (ht1 : ∀ (s : Shared) (H : Hp) (E : Addr) (cl : List (Str × Addr)) (fp : List Addr), PXts (X.blk s H scope (compEnvC scope cl E X.env) fp) W C ifs1 t1)
    (he : ∀ (s : Shared) (H : Hp) (E : Addr) (cl : List (Str × Addr)) (fp : List Addr), PX (X.blk s H scope (compEnvC scope cl E X.env) fp) W C WF elt f) (hts : ∀ i ∈ ts, i ∈ own.map (·.2)) (hts1 : ∀ i ∈ ts1, i ∈ vs1) (tok : TgOk ts g) (tok1 : TgOk ts1 g1)
    (hsw : swapsWith (.ListComp elt [⟨tg, iter, ifs, 0⟩, ⟨tg1, iter1, ifs1, 0⟩] scope pos) (some (.Name y py)) spos.line X.env = pure true) (hy : X.N[i]? = some y := by rfl) (hyl : X.env.scope.names.lookup y = some .local := by rfl)
    (hs : ∀ x, foldedSetIterable iter X.env x = pure x := by intro _; rfl) (hs1 : ∀ env x, foldedSetIterable iter1 env x = pure x := by intro _ _; rfl) :
    PT1 X W C Wx (.Assign [.Name y py] (.ListComp elt [⟨tg, iter, ifs, 0⟩, ⟨tg1, iter1, ifs1, 0⟩] scope pos) spos) (gSet i (sLcT src g (own.map (·.2)) (turn2 t src1 g1 vs1 (turn1 t1 (sV f))))) :=
  PS.imp (ps_setLc2 hc hN hy hyl hsw hi ok hv (fun s H E cl fp => (hg s H E cl fp).pg) ht hi1 (fun s H E cl fp => (hg1 s H E cl fp).pg) ht1 (fun s H E cl fp => pxv (he s H E cl fp)) hs hs1) fun D' σ H ⟨F, S, w, m⟩ =>
    lc_sem (T := fun a => T2 W C a t src1 g1 ts1 vs1 t1 (sV f)) tok hts (fun a S0 σ0 F0 H0 F S σ2 A H2 Nx c ok => turn2_ok tok1 hts1 hv c ok) ⟨F, S, w, SAt.expr m fun h S1 v F1 H1 _ w1 e1 p1 m1 => at_setHd w1 p1 m1⟩
end
end VL

set_option Elab.async false
set_option linter.all false
set_option maxRecDepth 100000
set_option maxHeartbeats 1000000
namespace VL
open PySem PySem.Spec PyProof.Rows L2

/-! ### functions -/
inductive FR where
  | rt (o : Bool) (d : D) (outs : List Slot) | ex (x : Exc) (outs : List Slot) | bad
abbrev FS := List Slot → FR
/-- what the in-out parameters hold at the end -/
def outsOf : List Slot → Sl → Option (List Slot)
  | [], _ => some []
  | a :: as, S => (match S with
    | [] => none
    | s :: S => (match a with
      | .io _ => (match s with
        | .io d => (match outsOf as S with
          | some r => some (.io d :: r)
          | none => none)
        | _ => none)
      | _ => (match outsOf as S with
        | some r => some (.un :: r)
        | none => none)))
def fnF (n : Nat) (g : SS) : FS := fun as => match g (as ++ List.replicate (n - as.length) .un) with
  | .nx S => (match outsOf as S with | some r => .rt false .non r | none => .bad)
  | .rt o d S => (match outsOf as S with | some r => .rt o d r | none => .bad)
  | .ex x S => (match outsOf as S with | some r => .ex x r | none => .bad)
  | _ => .bad
theorem outsOf_len : ∀ {as : List Slot} {S : Sl} {r : List Slot}, outsOf as S = some r → r.length = as.length
  | [], _, _, e => by cases e; rfl
  | a :: as, [], _, e => by cases e
  | a :: as, s :: S, r, e => by
    cases a <;> cases s <;> simp only [outsOf] at e <;> first
      | (cases e; done)
      | (cases q : outsOf as S with
        | none => rw [q] at e; cases e
        | some r' => rw [q] at e; cases e; rw [List.length_cons, List.length_cons, outsOf_len q])
theorem outsOf_get : ∀ {as : List Slot} {S : Sl} {r : List Slot} {i : Nat} {d : D}, outsOf as S = some r → r[i]? = some (Slot.io d) → S[i]? = some (Slot.io d) ∧ ∃ d0, as[i]? = some (Slot.io d0)
  | [], _, _, i, d, e, h => by cases e; simp at h
  | a :: as, [], _, _, _, e, h => by cases e
  | a :: as, s :: S, r, i, d, e, h => by
    cases a <;> cases s <;> simp only [outsOf] at e <;> first
      | (cases e; done)
      | (cases q : outsOf as S with
        | none => rw [q] at e; cases e
        | some r' =>
          rw [q] at e
          cases e
          cases i with
          | zero => first | (simp at h; done) | (simp at h; subst h; exact ⟨rfl, _, rfl⟩)
          | succ i => exact outsOf_get (i := i) q (by simpa using h))
theorem outsOf_io : ∀ {as : List Slot} {S : Sl} {r : List Slot} {i : Nat} {d : D}, outsOf as S = some r → as[i]? = some (Slot.io d) → ∃ d', r[i]? = some (Slot.io d')
  | [], _, _, i, d, e, h => by simp at h
  | a :: as, [], _, _, _, e, h => by cases e
  | a :: as, s :: S, r, i, d, e, h => by
    cases a <;> cases s <;> simp only [outsOf] at e <;> first
      | (cases e; done)
      | (cases q : outsOf as S with
        | none => rw [q] at e; cases e
        | some r' =>
          rw [q] at e
          cases e
          cases i with
          | zero => first | (simp at h; done) | exact ⟨_, rfl⟩
          | succ i => exact outsOf_io (i := i) q (by simpa using h))

/-- the frame at a def's end -/
structure End (W : Wo) (C : Fr) (F H : Hp) (outs : List Slot) : Prop where
  sub : Same F H
  f0 : Same C.F0 F
  new : ∀ a, C.F0 a = none → C.H0 a ≠ none → F a = none
  keep : ∀ a o, C.H0 a = some o → (∀ i, C.io i ≠ some a) → H a = some o
  live : ∀ a, C.H0 a ≠ none → H a ≠ none
  out : ∀ (i : Nat) (d : D), outs[i]? = some (Slot.io d) → ∃ a, C.io i = some a ∧ OwnAt W F H d a
  ins : ∀ (i : Nat) (a : Addr), C.io i = some a → ∃ d, outs[i]? = some (Slot.io d)
def IoOf (C : Fr) (as : List Slot) : Prop := ∀ (i : Nat) (a : Addr), C.io i = some a → ∃ d, as[i]? = some (Slot.io d)
theorem Wd.fin {W : Wo} {C : Fr} {F : Hp} {S : Sl} {σ : Sg} {H : Hp} {as outs : List Slot} (w : Wd W C F S σ H) (io : IoOf C as) (e : outsOf as S = some outs) : End W C F H outs where
  ins := fun i a h => by
    obtain ⟨d, q⟩ := io i a h
    exact outsOf_io e q
  sub := w.sub
  f0 := w.f0
  new := w.new
  keep := w.keep
  live := w.live
  out := fun i d h => by
    obtain ⟨h1, _⟩ := outsOf_get e h
    obtain ⟨a, ea, n, z⟩ := w.slot i _ h1
    exact ⟨a, w.ios i d a h1 ea, z⟩
/-- what a def promises: n parameters -/
def FAt (W : Wo) (C : Fr) (r : FR) (Q : VK) (E : XK) : Prop := match r with
  | .rt o d outs => ∀ v F' H', End W C F' H' outs → RtOk W C F' H' o d v → Q v H'
  | .ex x outs => ∀ cls dx F' H', End W C F' H' outs → ExOk W F' H' x cls dx → E cls dx H'
  | .bad => False
def spV (W : Wo) (n : Nat) (f : FS) : Sp := fun vs H Q E => vs.length = n ∧ ∃ C as, C.H0 = H ∧ C.er = none ∧ IoOf C as ∧ Wd W C C.F0 as (vs.map some) H ∧ FAt W C (f as) Q E
section
variable {W : Wo} {C : Fr} {F H : Hp}
theorem getElem?_pad {α : Type} {l : List α} {m i : Nat} {x y : α} (h : (l ++ List.replicate m x)[i]? = some y) : l[i]? = some y ∨ y = x := by
  by_cases hi : i < l.length
  · rw [List.getElem?_append_left hi] at h; exact .inl h
  · rw [List.getElem?_append_right (by omega), List.getElem?_replicate] at h
    split at h
    · cases h; exact .inr rfl
    · cases h
theorem Wd.start {N : List Str} {as : List Slot} {vs : List V} {n : Nat} (w : Wd W C F as (vs.map some) H) (hn : n = N.length) (hl : vs.length ≤ n) : Wd W C F (as ++ List.replicate (n - as.length) .un) (L2.start N vs) H := by
  have la : as.length = vs.length := by rw [w.len, List.length_map]
  have gs : ∀ (i : Nat) (s : Slot), (as ++ List.replicate (n - as.length) Slot.un)[i]? = some s → (as[i]? = some s ∧ (L2.start N vs)[i]? = (vs.map some)[i]?) ∨ s = .un := fun i s h => by
    by_cases hi : i < as.length
    · rw [List.getElem?_append_left hi] at h
      refine .inl ⟨h, ?_⟩
      unfold L2.start
      rw [List.getElem?_append_left (by rw [List.length_map]; omega)]
    · rcases getElem?_pad h with h1 | h1
      · exact absurd (List.getElem?_eq_some_iff.mp h1).1 hi
      · exact .inr h1
  have gm : ∀ {i : Nat} {s : Slot} {a : Addr} {F1 : Hp}, (as ++ List.replicate (n - as.length) Slot.un)[i]? = some s → s.mutAt W F1 a → as[i]? = some s ∧ (L2.start N vs)[i]? = (vs.map some)[i]? := fun {i s a F1} h m => by
    rcases gs i s h with q | rfl
    · exact q
    · exact m.elim
  exact {
    sub := w.sub, f0 := w.f0, new := w.new, keep := w.keep, live := w.live
    len := by
      rw [List.length_append, List.length_replicate]
      unfold L2.start
      rw [List.length_append, List.length_replicate, List.length_map]
      omega
    slot := fun i s h => by
      rcases gs i s h with ⟨h1, h2⟩ | rfl
      · rw [h2]; exact w.slot i s h1
      · trivial
    own := fun i d a h e => by
      obtain ⟨h1, h2⟩ := gm (F1 := F) (a := a) h trivial
      exact w.own i d a h1 (h2 ▸ e)
    ios := fun i d a h e => by
      obtain ⟨h1, h2⟩ := gm (F1 := F) (a := a) h trivial
      exact w.ios i d a h1 (h2 ▸ e)
    sep := fun i j s t a ne h1 hw e1 h2 e2 m => by
      obtain ⟨q1, q2⟩ := gm (F1 := F) (a := a) h1 (Slot.wr_mut hw)
      obtain ⟨r1, r2⟩ := gm h2 m
      exact w.sep i j s t a ne q1 hw (q2 ▸ e1) r1 (r2 ▸ e2) m
    bos := fun i d a h e nr => by
      obtain ⟨h1, h2⟩ := gm (F1 := F) (a := a) h nr
      exact w.bos i d a h1 (h2 ▸ e) nr
    er := fun x h1 h2 => by
      rcases gs _ _ h2 with ⟨q1, q2⟩ | q
      · rw [q2]; exact w.er x h1 q1
      · cases q }
end
/-- THE RULE of a def: its body's meaning -/
theorem fn_ok {P : Program} {w : World} {W : Wo} {mg : Str → Option Value} {base : Heap} {x qual : Str} {params : Arguments} {body : List Stmt} {scope : Scope} {dvs : List V} {kws : List (Str × V)} {f : Addr} {fd : FuncData} {N ps : List Str} {k : Nat} {g : SS}
    (Fd : FunD W.K x qual params body scope dvs kws f fd) (S : FnScope N ps scope)
    (hbody : ∀ (cdv : Value) (A : Around) (outer : List Env) (s : Shared) (H : Hp) (E : XK) (C : Fr), Room k (A.deeper (envOfC qual scope s.heap.objs.size f cdv)) → C.er = none →
      PTn (cxOf (L2.CX P w) P w W.K mg base N qual scope f cdv A outer s H E) W C (fun cls d _ H => E cls d H) body g) : FnOk P w W.K mg base (L2.CX P w) (k + 1) f fd ps (spV W ps.length (fnF N.length g)) := by
  refine Fd.ok S (fun vs H Q E h => h.1) fun cdv A outer s H vs Q E hr ⟨hl, C, as, eH, eE, io, w0, fa⟩ => ?_
  refine ⟨_, hbody cdv A outer s H E C hr eE, C.F0, as ++ List.replicate (N.length - as.length) .un, w0.start rfl ?_, ?_⟩
  · have := congrArg List.length S.pre
    rw [List.length_take] at this
    omega
  · have fa' : FAt W C (match g (as ++ List.replicate (N.length - as.length) .un) with
      | .nx S => (match outsOf as S with | some r => .rt false .non r | none => .bad)
      | .rt o d S => (match outsOf as S with | some r => .rt o d r | none => .bad)
      | .ex x S => (match outsOf as S with | some r => .ex x r | none => .bad)
      | _ => .bad) Q E := fa
    cases r : g (as ++ List.replicate (N.length - as.length) .un) with
    | nx S1 =>
      rw [r] at fa'
      intro σ' F' H' w1 _
      cases q : outsOf as S1 with
      | none => simp only [q] at fa'; exact fa'.elim
      | some outs => simp only [q] at fa'; exact fa' .non F' H' (w1.fin io q) .non
    | rt o d S1 =>
      rw [r] at fa'
      intro v σ' F' H' w1 _ ro
      cases q : outsOf as S1 with
      | none => simp only [q] at fa'; exact fa'.elim
      | some outs => simp only [q] at fa'; exact fa' v F' H' (w1.fin io q) ro
    | ex x S1 =>
      rw [r] at fa'
      intro cls dx σ' F' H' w1 _ xo
      cases q : outsOf as S1 with
      | none => simp only [q] at fa'; exact fa'.elim
      | some outs => simp only [q] at fa'; exact fa' cls dx F' H' (w1.fin io q) xo
    | bk S1 => rw [r] at fa'; exact fa'.elim
    | ct S1 => rw [r] at fa'; exact fa'.elim
    | bad => rw [r] at fa'; exact fa'.elim

/-! ### calls -/
inductive Md where
  | va | io | bo
def argS (m : Md) (o : Op) (S : Sl) : Option Slot := match m, o with
  | .va, .fz d => some (.va d)
  | .bo, .fz d => some (.va d)
  | .io, .fz _ => none
  | .va, .slot k => (match S[k]? with
    | some (.va d) => some (.va d)
    | _ => none)
  | .io, .slot k => (match S[k]? with
    | some (.ow d) => some (.io d)
    | some (.io d) => some (.io d)
    | _ => none)
  | .bo, .slot k => (match S[k]? with
    | some (.va d) => some (.va d)
    | some (.ow d) => some (.bo d)
    | some (.io d) => some (.bo d)
    | some (.bo d) => some (.bo d)
    | _ => none)
def argsS : List Md → List Op → Sl → Option (List Slot)
  | [], [], _ => some []
  | m :: ms, o :: os, S => (match argS m o S with
    | some s => (match argsS ms os S with
      | some r => some (s :: r)
      | none => none)
    | none => none)
  | _, _, _ => none
theorem argsS_len : ∀ {ms : List Md} {os : List Op} {S : Sl} {as : List Slot}, argsS ms os S = some as → as.length = os.length
  | [], [], _, _, e => by cases e; rfl
  | m :: ms, o :: os, S, as, e => by
    unfold argsS at e
    cases q : argS m o S with
    | none => rw [q] at e; cases e
    | some s =>
      rw [q] at e
      cases q2 : argsS ms os S with
      | none => simp only [q2] at e; cases e
      | some r => simp only [q2] at e; cases e; rw [List.length_cons, List.length_cons, argsS_len q2]
  | [], _ :: _, _, _, e => by cases e
  | _ :: _, [], _, _, e => by cases e
theorem argsS_ms : ∀ {ms : List Md} {os : List Op} {S : Sl} {as : List Slot}, argsS ms os S = some as → os.length = ms.length
  | [], [], _, _, e => rfl
  | m :: ms, o :: os, S, as, e => by
    unfold argsS at e
    cases q : argS m o S with
    | none => rw [q] at e; cases e
    | some s =>
      rw [q] at e
      cases q2 : argsS ms os S with
      | none => simp only [q2] at e; cases e
      | some r => rw [List.length_cons, List.length_cons, argsS_ms q2]
  | [], _ :: _, _, _, e => by cases e
  | _ :: _, [], _, _, e => by cases e
theorem argsS_get : ∀ {ms : List Md} {os : List Op} {S : Sl} {as : List Slot} {i : Nat} {s : Slot}, argsS ms os S = some as → as[i]? = some s → ∃ m o, os[i]? = some o ∧ argS m o S = some s
  | [], [], _, _, i, _, e, h => by cases e; simp at h
  | m :: ms, o :: os, S, as, i, s, e, h => by
    unfold argsS at e
    cases q : argS m o S with
    | none => rw [q] at e; cases e
    | some s' =>
      rw [q] at e
      cases q2 : argsS ms os S with
      | none => simp only [q2] at e; cases e
      | some r =>
        simp only [q2] at e
        cases e
        cases i with
        | zero => simp at h; subst h; exact ⟨m, o, rfl, q⟩
        | succ i => exact argsS_get (i := i) q2 (by simpa using h)
  | [], _ :: _, _, _, _, _, e, h => by cases e
  | _ :: _, [], _, _, _, _, e, h => by cases e
def clash (p q : Op × Slot) : Bool := match p.1, q.1 with
  | .slot i, .slot j => (i == j) && ((p.2.wr && q.2.mut) || (q.2.wr && p.2.mut))
  | _, _ => false
def noClash : List (Op × Slot) → Bool
  | [] => true
  | p :: r => (r.all fun q => !clash p q) && noClash r
theorem clash_symm {p q : Op × Slot} : clash p q = clash q p := by
  obtain ⟨o1, s1⟩ := p
  obtain ⟨o2, s2⟩ := q
  cases o1 <;> cases o2 <;> simp only [clash]
  rename_i i j
  rw [Bool.beq_comm, Bool.or_comm]
theorem noClash_lt : ∀ {l : List (Op × Slot)} {i j : Nat} {p q : Op × Slot}, noClash l = true → i < j → l[i]? = some p → l[j]? = some q → clash p q = false
  | [], i, j, p, q, _, _, h1, _ => by simp at h1
  | x :: l, 0, j + 1, p, q, h, _, h1, h2 => by
    simp at h1; subst h1
    have h' : ((l.all fun q => !clash x q) && noClash l) = true := h
    have z := List.all_eq_true.mp (Bool.and_eq_true_iff.mp h').1 q (List.mem_of_getElem? (by simpa using h2))
    simpa using z
  | x :: l, i + 1, j + 1, p, q, h, hij, h1, h2 => by
    have h' : ((l.all fun q => !clash x q) && noClash l) = true := h
    exact noClash_lt (i := i) (j := j) (Bool.and_eq_true_iff.mp h').2 (by omega) (by simpa using h1) (by simpa using h2)
  | x :: l, i, 0, p, q, h, hij, h1, h2 => by omega
theorem noClash_ne {l : List (Op × Slot)} {i j : Nat} {p q : Op × Slot} (h : noClash l = true) (hij : i ≠ j) (h1 : l[i]? = some p) (h2 : l[j]? = some q) : clash p q = false := by
  rcases Nat.lt_or_ge i j with z | z
  · exact noClash_lt h z h1 h2
  · rw [clash_symm]; exact noClash_lt h (by omega) h2 h1
/-- the in-out arguments as the callee left them -/
def wbS : List Op → List Slot → Sl → Sl
  | .slot k :: os, .io d :: outs, S => wbS os outs (match S[k]? with
    | some s => S.set k (s.put d)
    | none => S)
  | _ :: os, _ :: outs, S => wbS os outs S
  | _, _, S => S
theorem wbS_len : ∀ {os : List Op} {outs : List Slot} {S : Sl}, (wbS os outs S).length = S.length
  | [], _, _ => by unfold wbS; rfl
  | o :: os, [], S => by cases o <;> (unfold wbS; rfl)
  | o :: os, t :: outs, S => by
    cases o with
    | fz d => cases t <;> (unfold wbS; exact wbS_len)
    | slot k =>
      cases t with
      | io d =>
        unfold wbS
        rw [wbS_len]
        cases S[k]? <;> simp
      | _ => unfold wbS; exact wbS_len
theorem Slot.put_put (s : Slot) (d e : D) : (s.put d).put e = s.put e := by cases s <;> rfl
theorem wbS_get : ∀ {os : List Op} {outs : List Slot} {S : Sl} {k : Nat} {t : Slot}, (wbS os outs S)[k]? = some t →
    (S[k]? = some t ∧ ∀ (i : Nat) (d : D), os[i]? = some (Op.slot k) → outs[i]? ≠ some (Slot.io d)) ∨ ∃ (i : Nat) (d : D) (s : Slot), os[i]? = some (Op.slot k) ∧ outs[i]? = some (Slot.io d) ∧ S[k]? = some s ∧ t = s.put d
  | [], _, S, k, t, h => by
    unfold wbS at h
    exact .inl ⟨h, fun i d z => by simp at z⟩
  | o :: os, [], S, k, t, h => by
    refine .inl ⟨by cases o <;> (unfold wbS at h; exact h), fun i d _ z => by simp at z⟩
  | o :: os, u :: outs, S, k, t, h => by
    have plain : (wbS os outs S)[k]? = some t → (∀ j d, o = .slot j → u ≠ Slot.io d) → (S[k]? = some t ∧ ∀ (i : Nat) (d : D), (o :: os)[i]? = some (Op.slot k) → (u :: outs)[i]? ≠ some (Slot.io d)) ∨ ∃ (i : Nat) (d : D) (s : Slot), (o :: os)[i]? = some (Op.slot k) ∧ (u :: outs)[i]? = some (Slot.io d) ∧ S[k]? = some s ∧ t = s.put d := fun h nu => by
      rcases wbS_get h with ⟨h1, h2⟩ | ⟨i, d, s, h1, h2, h3, h4⟩
      · refine .inl ⟨h1, fun i d z1 z2 => ?_⟩
        cases i with
        | zero => simp at z1 z2; exact nu k d z1 z2
        | succ i => exact h2 i d (by simpa using z1) (by simpa using z2)
      · exact .inr ⟨i + 1, d, s, by simpa using h1, by simpa using h2, h3, h4⟩
    cases o with
    | fz d0 => exact plain (by cases u <;> (unfold wbS at h; exact h)) fun j d z => by cases z
    | slot j =>
      cases u with
      | io d1 =>
        unfold wbS at h
        cases q : S[j]? with
        | none =>
          rw [q] at h
          rcases wbS_get (S := S) h with ⟨h1, h2⟩ | ⟨i, d, s, h1, h2, h3, h4⟩
          · refine .inl ⟨h1, fun i d z1 z2 => ?_⟩
            cases i with
            | zero => simp at z1; subst z1; rw [q] at h1; cases h1
            | succ i => exact h2 i d (by simpa using z1) (by simpa using z2)
          · exact .inr ⟨i + 1, d, s, by simpa using h1, by simpa using h2, h3, h4⟩
        | some s0 =>
          rw [q] at h
          rcases wbS_get (S := S.set j (s0.put d1)) h with ⟨h1, h2⟩ | ⟨i, d, s, h1, h2, h3, h4⟩
          · rcases getElem?_set_cases h1 with ⟨rfl, e⟩ | ⟨n, h1⟩
            · exact .inr ⟨0, d1, s0, rfl, rfl, q, e⟩
            · refine .inl ⟨h1, fun i d z1 z2 => ?_⟩
              cases i with
              | zero => simp at z1; exact n z1.symm
              | succ i => exact h2 i d (by simpa using z1) (by simpa using z2)
          · rcases getElem?_set_cases h3 with ⟨rfl, e⟩ | ⟨n, h3⟩
            · exact .inr ⟨i + 1, d, s0, by simpa using h1, by simpa using h2, q, by rw [h4, e, Slot.put_put]⟩
            · exact .inr ⟨i + 1, d, s, by simpa using h1, by simpa using h2, h3, h4⟩
      | _ => exact plain (by unfold wbS at h; exact h) fun j' d _ z => by cases z
/-- a call: ms the modes of the written arguments, ds the defaults -/
def sFn (f : FS) (ms : List Md) (ds : List D) (fs : Sem (List Op)) : Sem Hd := fun S => (fs S).bind fun os S1 => match argsS ms os S1 with
  | some as => if noClash (os.zip as) = true then (match f (as ++ ds.map .va) with
      | .rt o d outs => .ok (match o with | true => .own d | false => .fz d) (wbS os outs S1)
      | .ex x outs => .ex x (wbS os outs S1)
      | .bad => .bad) else .bad
  | none => .bad
theorem OpsR.get {W : Wo} {F : Hp} {σ : Sg} : ∀ {os : List Op} {vs : List V} {i : Nat} {o : Op}, OpsR W F σ os vs → os[i]? = some o → ∃ v, vs[i]? = some v ∧ (match o with | .fz d => Rep W F d v | .slot k => σ[k]? = some (some v))
  | _, _, i, o, .nil, h => by simp at h
  | _, _, 0, o, .fz a b, h => by simp at h; subst h; exact ⟨_, rfl, a⟩
  | _, _, 0, o, .slot a b, h => by simp at h; subst h; exact ⟨_, rfl, a⟩
  | _, _, i + 1, o, .fz a b, h => by
    obtain ⟨v, h1, h2⟩ := OpsR.get (i := i) b (by simpa using h)
    exact ⟨v, by simpa using h1, h2⟩
  | _, _, i + 1, o, .slot a b, h => by
    obtain ⟨v, h1, h2⟩ := OpsR.get (i := i) b (by simpa using h)
    exact ⟨v, by simpa using h1, h2⟩
theorem OpsR.length {W : Wo} {F : Hp} {σ : Sg} : ∀ {os : List Op} {vs : List V}, OpsR W F σ os vs → os.length = vs.length
  | _, _, .nil => rfl
  | _, _, .fz _ b => by rw [List.length_cons, List.length_cons, OpsR.length b]
  | _, _, .slot _ b => by rw [List.length_cons, List.length_cons, OpsR.length b]
def ioAt (as : List Slot) (vs : List V) (i : Nat) : Option Addr := match as[i]?, vs[i]? with
  | some (.io _), some (.ref a) => some a
  | _, _ => none
section
variable {W : Wo} {C : Fr} {F H : Hp} {S : Sl} {σ : Sg}
/-- an argument's slot in the caller -/
theorem arg_of {m : Md} {o : Op} {s : Slot} {v : V} (w : Wd W C F S σ H) (p : match o with | .fz d => Rep W F d v | .slot k => σ[k]? = some (some v)) (e : argS m o S = some s) :
    SlotOk W F H s (some (some v)) ∧ (∀ d, s = .ow d → False) ∧ ∀ a F1, v = V.ref a → s.mutAt W F1 a → ∃ k t, o = .slot k ∧ S[k]? = some t ∧ σ[k]? = some (some (V.ref a)) ∧ t.mutAt W F1 a ∧ s.mut = true ∧ (s.wr = true → t.wr = true) := by
  have fz : ∀ {d : D}, Rep W F d v → s = .va d → SlotOk W F H s (some (some v)) ∧ (∀ d, s = .ow d → False) ∧ ∀ a F1, v = V.ref a → s.mutAt W F1 a → ∃ k t, o = .slot k ∧ S[k]? = some t ∧ σ[k]? = some (some (V.ref a)) ∧ t.mutAt W F1 a ∧ s.mut = true ∧ (s.wr = true → t.wr = true) := fun {d} r e => by
    subst e
    exact ⟨⟨v, rfl, r⟩, fun _ z => by (cases z), fun _ _ _ z => z.elim⟩
  cases o with
  | fz d =>
    cases m with
    | va => cases e; exact fz p rfl
    | bo => cases e; exact fz p rfl
    | io => cases e
  | slot k =>
    have p' : σ[k]? = some (some v) := p
    cases m with
    | va =>
      have e' : (match S[k]? with | some (.va d) => some (Slot.va d) | _ => none) = some s := e
      cases q : S[k]? with
      | none => rw [q] at e'; cases e'
      | some t =>
        rw [q] at e'
        cases t with
        | va d =>
          cases e'
          obtain ⟨u, eu, r⟩ := w.slot k _ q
          rw [p'] at eu; cases eu
          exact fz r rfl
        | _ => cases e'
    | io =>
      have e' : (match S[k]? with | some (.ow d) => some (Slot.io d) | some (.io d) => some (Slot.io d) | _ => none) = some s := e
      cases q : S[k]? with
      | none => rw [q] at e'; cases e'
      | some t =>
        rw [q] at e'
        cases t with
        | ow d =>
          cases e'
          obtain ⟨a, ea, n, z⟩ := w.slot k _ q
          rw [p'] at ea; cases ea
          exact ⟨⟨a, rfl, n, z⟩, fun _ z => by (cases z), fun b F1 eb m => by cases eb; exact ⟨k, _, rfl, q, p', m, rfl, fun _ => rfl⟩⟩
        | io d =>
          cases e'
          obtain ⟨a, ea, n, z⟩ := w.slot k _ q
          rw [p'] at ea; cases ea
          exact ⟨⟨a, rfl, n, z⟩, fun _ z => by (cases z), fun b F1 eb m => by cases eb; exact ⟨k, _, rfl, q, p', m, rfl, fun _ => rfl⟩⟩
        | _ => cases e'
    | bo =>
      have e' : (match S[k]? with | some (.va d) => some (Slot.va d) | some (.ow d) => some (Slot.bo d) | some (.io d) => some (Slot.bo d) | some (.bo d) => some (Slot.bo d) | _ => none) = some s := e
      cases q : S[k]? with
      | none => rw [q] at e'; cases e'
      | some t =>
        rw [q] at e'
        cases t with
        | va d =>
          cases e'
          obtain ⟨u, eu, r⟩ := w.slot k _ q
          rw [p'] at eu; cases eu
          exact fz r rfl
        | ow d =>
          cases e'
          obtain ⟨a, ea, n, z⟩ := w.slot k _ q
          rw [p'] at ea; cases ea
          exact ⟨⟨_, rfl, .inr ⟨a, rfl, n, z⟩⟩, fun _ z => by (cases z), fun b F1 eb m => by cases eb; exact ⟨k, .ow d, rfl, q, p', trivial, rfl, fun z => nomatch z⟩⟩
        | io d =>
          cases e'
          obtain ⟨a, ea, n, z⟩ := w.slot k _ q
          rw [p'] at ea; cases ea
          exact ⟨⟨_, rfl, .inr ⟨a, rfl, n, z⟩⟩, fun _ z => by (cases z), fun b F1 eb m => by cases eb; exact ⟨k, .io d, rfl, q, p', trivial, rfl, fun z => nomatch z⟩⟩
        | bo d =>
          cases e'
          obtain ⟨u, eu, r⟩ := w.slot k _ q
          rw [p'] at eu; cases eu
          exact ⟨⟨v, rfl, r⟩, fun _ z => by (cases z), fun b F1 eb m => by subst eb; exact ⟨k, _, rfl, q, p', m, rfl, fun z => nomatch z⟩⟩
        | un => cases e'
        | er => cases e'
theorem zip_get {α β : Type} {l : List α} {r : List β} {i : Nat} {x : α} {y : β} (h1 : l[i]? = some x) (h2 : r[i]? = some y) : (l.zip r)[i]? = some (x, y) := by
  rw [List.getElem?_zip_eq_some]
  exact ⟨h1, h2⟩
/-- the callee's start -/
theorem Wd.call {ms : List Md} {os : List Op} {as : List Slot} {vs : List V} (w : Wd W C F S σ H) (p : OpsR W F σ os vs) (e : argsS ms os S = some as) (nc : noClash (os.zip as) = true) :
    Wd W ⟨F, H, ioAt as vs, none⟩ F as (vs.map some) H := by
  have la := argsS_len e
  have lv := p.length
  have ga : ∀ (i : Nat) (s : Slot), as[i]? = some s → ∃ m o v, os[i]? = some o ∧ argS m o S = some s ∧ vs[i]? = some v ∧ (match o with | .fz d => Rep W F d v | .slot k => σ[k]? = some (some v)) := fun i s h => by
    obtain ⟨m, o, h1, h2⟩ := argsS_get e h
    obtain ⟨v, h3, h4⟩ := p.get h1
    exact ⟨m, o, v, h1, h2, h3, h4⟩
  have vm : ∀ {i : Nat} {v : V}, vs[i]? = some v → (vs.map some)[i]? = some (some v) := fun {i v} h => by rw [List.getElem?_map, h]; rfl
  exact {
    sub := w.sub, f0 := Same.refl _
    new := fun a h _ => h
    keep := fun a o h _ => h
    live := fun a h => h
    len := by rw [List.length_map, la, lv]
    slot := fun i s h => by
      obtain ⟨m, o, v, h1, h2, h3, h4⟩ := ga i s h
      rw [vm h3]
      exact (arg_of w h4 h2).1
    own := fun i d a h _ => by
      obtain ⟨m, o, v, h1, h2, h3, h4⟩ := ga i _ h
      exact ((arg_of w h4 h2).2.1 d rfl).elim
    ios := fun i d a h e => by
      rw [List.getElem?_map] at e
      cases q : vs[i]? with
      | none => rw [q] at e; cases e
      | some v =>
        rw [q] at e
        cases e
        show (match as[i]?, vs[i]? with | some (.io _), some (.ref a) => some a | _, _ => none) = some a
        rw [h, q]
    sep := fun i j s t a n h1 hw e1 h2 e2 m => by
      obtain ⟨mi, oi, vi, a1, a2, a3, a4⟩ := ga i s h1
      obtain ⟨mj, oj, vj, b1, b2, b3, b4⟩ := ga j t h2
      rw [vm a3] at e1; cases e1
      rw [vm b3] at e2; cases e2
      obtain ⟨ki, ti, c1, c2, c3, c4, c5, c6⟩ := (arg_of w a4 a2).2.2 a F rfl (Slot.wr_mut hw)
      obtain ⟨kj, tj, d1, d2, d3, d4, d5, d6⟩ := (arg_of w b4 b2).2.2 a F rfl m
      have wi : ti.wr = true := c6 hw
      by_cases hk : ki = kj
      · subst hk
        have z := noClash_ne nc n (zip_get a1 h1) (zip_get b1 h2)
        rw [c1, d1] at z
        have z' : ((ki == ki) && ((s.wr && t.mut) || (t.wr && s.mut))) = false := z
        rw [hw, d5] at z'
        simp at z'
      · exact w.sep ki kj ti tj a hk c2 wi c3 d2 d3 d4
    bos := fun i d a h e nr => by
      obtain ⟨m, o, v, a1, a2, a3, a4⟩ := ga i _ h
      rw [vm a3] at e; cases e
      obtain ⟨k, t, c1, c2, c3, c4, c5, c6⟩ := (arg_of w a4 a2).2.2 a F rfl nr
      refine ⟨(w.mutLive c2 c4 c3).1, fun j q => ?_⟩
      obtain ⟨s2, hs2, hio⟩ : ∃ s2, as[j]? = some s2 ∧ (∃ d2, s2 = .io d2) ∧ vs[j]? = some (V.ref a) := by
        have q : (match as[j]?, vs[j]? with | some (.io _), some (.ref a) => some a | _, _ => none) = some a := q
        cases q1 : as[j]? with
        | none => rw [q1] at q; cases q
        | some s2 =>
          cases q2 : vs[j]? with
          | none => rw [q1, q2] at q; cases s2 <;> cases q
          | some u =>
            rw [q1, q2] at q
            cases s2 with
            | io d2 =>
              cases u with
              | ref b => cases q; exact ⟨_, rfl, ⟨_, rfl⟩, rfl⟩
              | _ => cases q
            | _ => cases q
      obtain ⟨⟨d2, rfl⟩, hv⟩ := hio
      obtain ⟨m2, o2, v2, b1, b2, b3, b4⟩ := ga j _ hs2
      rw [hv] at b3; cases b3
      obtain ⟨k2, t2, e1, e2, e3, e4, e5, e6⟩ := (arg_of w b4 b2).2.2 a F rfl trivial
      by_cases hij : j = i
      · subst hij
        rw [hs2] at h; cases h
      · by_cases hk : k2 = k
        · subst hk
          have z := noClash_ne nc hij (zip_get b1 hs2) (zip_get a1 h)
          rw [c1, e1] at z
          have z' : ((k2 == k2) && ((Slot.wr (.io d2) && Slot.mut (.bo d)) || (Slot.wr (.bo d) && Slot.mut (.io d2)))) = false := z
          simp [Slot.wr, Slot.mut] at z'
        · exact w.sep k2 k t2 t a hk e2 (e6 rfl) e3 c2 c3 c4
    er := fun x h _ => by cases h }
/-- what the callee changed is the in-out arguments alone -/
theorem ioAt_slot {ms : List Md} {os : List Op} {as : List Slot} {vs : List V} {i : Nat} {a : Addr} (w : Wd W C F S σ H) (p : OpsR W F σ os vs) (e : argsS ms os S = some as) (h : ioAt as vs i = some a) : ∃ k t, os[i]? = some (Op.slot k) ∧ S[k]? = some t ∧ t.wr = true ∧ σ[k]? = some (some (V.ref a)) := by
  unfold ioAt at h
  cases q1 : as[i]? with
  | none => rw [q1] at h; cases h
  | some s =>
    cases q2 : vs[i]? with
    | none => rw [q1, q2] at h; cases s <;> cases h
    | some v =>
      rw [q1, q2] at h
      cases s with
      | io d =>
        cases v with
        | ref b =>
          cases h
          obtain ⟨m, o, h1, h2⟩ := argsS_get e q1
          obtain ⟨v', h3, h4⟩ := p.get h1
          rw [q2] at h3; cases h3
          obtain ⟨k, t, c1, c2, c3, c4, c5, c6⟩ := (arg_of w h4 h2).2.2 a F rfl trivial
          subst c1
          exact ⟨k, t, h1, c2, c6 rfl, c3⟩
        | _ => cases h
      | _ => cases h
theorem Wd.back {ms : List Md} {os : List Op} {as outs : List Slot} {vs : List V} {F' H' : Hp} (w : Wd W C F S σ H) (p : OpsR W F σ os vs) (e : argsS ms os S = some as) (en : End W ⟨F, H, ioAt as vs, none⟩ F' H' outs) :
    Wd W C F' (wbS os outs S) σ H' ∧ Evo W S σ F H F' H' (wbS os outs S) := by
  have fr : Same F F' := en.f0
  have new : ∀ a, F a = none → H a ≠ none → F' a = none := en.new
  have keep : ∀ a o, H a = some o → (∀ i, ioAt as vs i ≠ some a) → H' a = some o := en.keep
  have live : ∀ a, H a ≠ none → H' a ≠ none := en.live
  have nm : ∀ a, NotMut W F S σ a → ∀ i, ioAt as vs i ≠ some a := fun a n i q => by
    obtain ⟨k, t, _, h2, h3, h4⟩ := ioAt_slot w p e q
    exact n k t h2 h4 (Slot.wr_mut h3)
  have gw : ∀ (k : Nat) (t : Slot), (wbS os outs S)[k]? = some t → (S[k]? = some t ∧ ∀ (i : Nat) (d : D), os[i]? = some (Op.slot k) → outs[i]? ≠ some (Slot.io d)) ∨ ∃ (i : Nat) (d : D) (s : Slot) (a : Addr), S[k]? = some s ∧ t = s.put d ∧ s.wr = true ∧ σ[k]? = some (some (V.ref a)) ∧ ioAt as vs i = some a ∧ OwnAt W F' H' d a := fun k t h => by
    rcases wbS_get h with q | ⟨i, d, s, h1, h2, h3, h4⟩
    · exact .inl q
    · obtain ⟨a, ha, oa⟩ := en.out i d h2
      have ha : ioAt as vs i = some a := ha
      obtain ⟨k2, t2, c1, c2, c3, c4⟩ := ioAt_slot w p e ha
      rw [h1] at c1; cases c1
      rw [h3] at c2; cases c2
      exact .inr ⟨i, d, s, a, h3, h4, c3, c4, ha, oa⟩
  have gm : ∀ {k : Nat} {t : Slot} {a : Addr} {F1 : Hp}, (wbS os outs S)[k]? = some t → t.mutAt W F1 a → ∃ s, S[k]? = some s ∧ s.mutAt W F1 a ∧ (t.wr = true → s.wr = true) := fun {k t a F1} h m => by
    rcases gw k t h with ⟨h1, _⟩ | ⟨i, d, s, b, h1, h2, h3, _⟩
    · exact ⟨t, h1, m, fun z => z⟩
    · exact ⟨s, h1, Slot.wr_mut h3, fun _ => h3⟩
  have put_cases : ∀ {s : Slot} {d : D}, s.wr = true → (∃ d0, s = .ow d0 ∧ s.put d = .ow d) ∨ ∃ d0, s = .io d0 ∧ s.put d = .io d := fun {s d} h => by
    cases s with
    | ow d0 => exact .inl ⟨d0, rfl, rfl⟩
    | io d0 => exact .inr ⟨d0, rfl, rfl⟩
    | _ => cases h
  refine ⟨⟨en.sub, w.f0.trans fr, fun a h1 h2 => new a (w.new a h1 h2) (w.live a h2), fun a o h1 h2 => ?_, fun a h => live a (w.live a h), by rw [wbS_len]; exact w.len, ?_, ?_, ?_, ?_, fun k d a h e2 nr => ?_, fun x h1 h2 => ?_⟩, ⟨fr, fun a o h n => keep a o h (nm a n), live, fun a h1 h2 n => new a h1 h2, ?_⟩⟩
  · refine keep a o (w.keep a o h1 h2) fun i q => ?_
    obtain ⟨k, t, _, c2, c3, c4⟩ := ioAt_slot w p e q
    cases t with
    | ow d => have z := w.own k d a c2 c4; rw [h1] at z; cases z
    | io d => exact h2 k (w.ios k d a c2 c4)
    | _ => cases c3
  · intro k t h
    rcases gw k t h with ⟨h1, h2⟩ | ⟨i, d, s, a, h1, h2, h3, h4, h5, h6⟩
    · refine (w.slot k t h1).mono fr (fun a m e2 q hl => new a q hl) fun a o m e2 q => keep a o q fun i z => ?_
      obtain ⟨k2, t2, c1, c2, c3, c4⟩ := ioAt_slot w p e z
      by_cases hk : k2 = k
      · subst hk
        obtain ⟨d, hd⟩ := en.ins i a z
        exact (h2 i d c1 hd).elim
      · exact w.sep k2 k t2 t a hk c2 c3 c4 h1 e2 m
    · rw [h4]
      have n' : F' a = none := by
        obtain ⟨hl, hn⟩ := w.mutLive h1 (Slot.wr_mut h3) h4
        exact new a hn hl
      rcases put_cases (d := d) h3 with ⟨d0, rfl, z⟩ | ⟨d0, rfl, z⟩
      · rw [h2, z]; exact ⟨a, rfl, n', h6⟩
      · rw [h2, z]; exact ⟨a, rfl, n', h6⟩
  · intro k d a h e2
    rcases gw k _ h with ⟨h1, _⟩ | ⟨i, d', s, b, h1, h2, h3, h4, _⟩
    · exact w.own k d a h1 e2
    · rcases put_cases (d := d') h3 with ⟨d0, rfl, z⟩ | ⟨d0, rfl, z⟩
      · exact w.own k d0 a h1 e2
      · rw [z] at h2; cases h2
  · intro k d a h e2
    rcases gw k _ h with ⟨h1, _⟩ | ⟨i, d', s, b, h1, h2, h3, h4, _⟩
    · exact w.ios k d a h1 e2
    · rcases put_cases (d := d') h3 with ⟨d0, rfl, z⟩ | ⟨d0, rfl, z⟩
      · rw [z] at h2; cases h2
      · exact w.ios k d0 a h1 e2
  · intro i j s t a n h1 hw e1 h2 e2 m
    obtain ⟨s', q1, _, q3⟩ := gm (F1 := F) (a := a) h1 (Slot.wr_mut hw)
    obtain ⟨t', r1, r2, _⟩ := gm h2 (m.anti fr)
    exact w.sep i j s' t' a n q1 (q3 hw) e1 r1 e2 r2
  · rcases gw k _ h with ⟨h1, _⟩ | ⟨i, d', s, b, h1, h2, h3, h4, _⟩
    · exact w.bos k d a h1 e2 fun r => nr (r.mono fr)
    · rcases put_cases (d := d') h3 with ⟨d0, rfl, z⟩ | ⟨d0, rfl, z⟩
      · rw [z] at h2; cases h2
      · rw [z] at h2; cases h2
  · rcases gw _ _ h2 with ⟨q1, _⟩ | ⟨i, d', s, b, q1, q2, q3, _⟩
    · refine ⟨(w.er x h1 q1).1, (w.er x h1 q1).2.mono fr fun d fs q => keep d _ q fun i z => ?_⟩
      obtain ⟨k2, t2, c1, c2, c3, c4⟩ := ioAt_slot w p e z
      have so := w.slot k2 t2 c2
      cases t2 with
      | ow d0 => obtain ⟨b, eb, _, z⟩ := so; rw [c4] at eb; cases eb; exact z.noXd q rfl
      | io d0 => obtain ⟨b, eb, _, z⟩ := so; rw [c4] at eb; cases eb; exact z.noXd q rfl
      | _ => cases c3
    · rcases put_cases (d := d') q3 with ⟨d0, rfl, z⟩ | ⟨d0, rfl, z⟩
      · rw [z] at q2; cases q2
      · rw [z] at q2; cases q2
  · intro a n k t h e2 m
    obtain ⟨t', r1, r2, _⟩ := gm h (m.anti fr)
    exact n k t' r1 e2 r2
theorem Reps.getD : ∀ {ds : List D} {vs : List V} {i : Nat} {s : Slot}, Reps W F ds vs → (ds.map Slot.va)[i]? = some s → ∃ d v, s = .va d ∧ vs[i]? = some v ∧ Rep W F d v := fun {ds vs i s} r h => by
  rw [List.getElem?_map] at h
  cases q : ds[i]? with
  | none => rw [q] at h; cases h
  | some d =>
    rw [q] at h
    cases h
    obtain ⟨v, e, rv⟩ := r.get q
    exact ⟨d, v, rfl, e, rv⟩
/-- with the defaults -/
theorem Wd.more {io : Nat → Option Addr} {as : List Slot} {vs dvs : List V} {ds : List D} (w : Wd W ⟨F, H, io, none⟩ F as (vs.map some) H) (r : Reps W F ds dvs) : Wd W ⟨F, H, io, none⟩ F (as ++ ds.map .va) ((vs ++ dvs).map some) H := by
  have la : as.length = vs.length := by rw [w.len, List.length_map]
  have gs : ∀ (i : Nat) (s : Slot), (as ++ ds.map .va)[i]? = some s → (as[i]? = some s ∧ ((vs ++ dvs).map some)[i]? = (vs.map some)[i]?) ∨ ∃ d v, s = .va d ∧ ((vs ++ dvs).map some)[i]? = some (some v) ∧ Rep W F d v := fun i s h => by
    rw [List.map_append]
    by_cases hi : i < as.length
    · rw [List.getElem?_append_left hi] at h
      exact .inl ⟨h, by rw [List.getElem?_append_left (by rw [List.length_map]; omega)]⟩
    · rw [List.getElem?_append_right (by omega)] at h
      obtain ⟨d, v, e1, e2, e3⟩ := r.getD h
      refine .inr ⟨d, v, e1, ?_, e3⟩
      rw [List.getElem?_append_right (by rw [List.length_map]; omega), List.length_map, ← la, List.getElem?_map, e2]
      rfl
  have gm : ∀ {i : Nat} {s : Slot} {a : Addr} {F1 : Hp}, (as ++ ds.map .va)[i]? = some s → s.mutAt W F1 a → as[i]? = some s ∧ ((vs ++ dvs).map some)[i]? = (vs.map some)[i]? := fun {i s a F1} h m => by
    rcases gs i s h with q | ⟨d, v, rfl, _⟩
    · exact q
    · exact m.elim
  exact {
    sub := w.sub, f0 := w.f0, new := w.new, keep := w.keep, live := w.live
    len := by rw [List.length_append, List.length_map, List.length_map, List.length_append, la, r.length]
    slot := fun i s h => by
      rcases gs i s h with ⟨h1, h2⟩ | ⟨d, v, rfl, h2, h3⟩
      · rw [h2]; exact w.slot i s h1
      · exact ⟨v, h2, h3⟩
    own := fun i d a h e => by
      obtain ⟨h1, h2⟩ := gm (F1 := F) (a := a) h trivial
      exact w.own i d a h1 (h2 ▸ e)
    ios := fun i d a h e => by
      obtain ⟨h1, h2⟩ := gm (F1 := F) (a := a) h trivial
      exact w.ios i d a h1 (h2 ▸ e)
    sep := fun i j s t a ne h1 hw e1 h2 e2 m => by
      obtain ⟨q1, q2⟩ := gm (F1 := F) (a := a) h1 (Slot.wr_mut hw)
      obtain ⟨r1, r2⟩ := gm h2 m
      exact w.sep i j s t a ne q1 hw (q2 ▸ e1) r1 (r2 ▸ e2) m
    bos := fun i d a h e nr => by
      obtain ⟨h1, h2⟩ := gm (F1 := F) (a := a) h nr
      exact w.bos i d a h1 (h2 ▸ e) nr
    er := fun x h _ => by cases h }
theorem ioAt_as {as : List Slot} {vs : List V} {i : Nat} {a : Addr} (h : ioAt as vs i = some a) : ∃ d, as[i]? = some (Slot.io d) := by
  unfold ioAt at h
  cases q1 : as[i]? with
  | none => rw [q1] at h; cases h
  | some s => cases s <;> first | exact ⟨_, rfl⟩ | (rw [q1] at h; cases vs[i]? <;> cases h)
end
abbrev RepC (W : Wo) (ds : List D) (vs : List V) : Prop := ∀ F, Reps W F ds vs
/-- the callee's promise used -/
theorem at_call {W : Wo} {C : Fr} {Wx : WX} {F H : Hp} {S : Sl} {σ : Sg} {f : FS} {ms : List Md} {ds : List D} {dvs : List V} {n : Nat} {os : List Op} {vs : List V} {Q : VK} (hd : RepC W ds dvs) (hl : ms.length + ds.length = n) (w : Wd W C F S σ H) (p : OpsR W F σ os vs)
    (m : At W C Wx σ (PHd W C) F H S (match argsS ms os S with
      | some as => if noClash (os.zip as) = true then (match f (as ++ ds.map .va) with
          | .rt o d outs => .ok (match o with | true => .own d | false => .fz d) (wbS os outs S)
          | .ex x outs => .ex x (wbS os outs S)
          | .bad => .bad) else .bad
      | none => .bad) Q) : spV W n f (vs ++ dvs) H Q (fun cls d H' => Wx cls d σ H') := by
  cases e : argsS ms os S with
  | none => rw [e] at m; exact m.elim
  | some as =>
    rw [e] at m
    have m' : At W C Wx σ (PHd W C) F H S (if noClash (os.zip as) = true then (match f (as ++ ds.map .va) with
          | .rt o d outs => .ok (match o with | true => .own d | false => .fz d) (wbS os outs S)
          | .ex x outs => .ex x (wbS os outs S)
          | .bad => .bad) else .bad) Q := m
    by_cases nc : noClash (os.zip as) = true
    · rw [if_pos nc] at m'
      have wc := (w.call p e nc).more (hd F)
      have io : IoOf ⟨F, H, ioAt as vs, none⟩ (as ++ ds.map .va) := fun i a h => by
        obtain ⟨d, q⟩ := ioAt_as h
        exact ⟨d, by rw [List.getElem?_append_left (List.getElem?_eq_some_iff.mp q).1]; exact q⟩
      refine ⟨by rw [List.length_append, ← p.length, argsS_ms e, ← (hd F).length]; exact hl, ⟨F, H, ioAt as vs, none⟩, _, rfl, rfl, io, wc, ?_⟩
      cases r : f (as ++ ds.map .va) with
      | rt o d outs =>
        simp only [r] at m'
        intro v F' H' en ro
        obtain ⟨w2, e2⟩ := w.back p e en
        refine m' v F' H' w2 e2 ?_
        cases o with
        | false => exact ro
        | true =>
          obtain ⟨a, rfl, n', z, h0⟩ := ro
          have h0 : H a = none := h0
          refine ⟨a, rfl, n', z, ?_, h0, fun k t h e2' mt => ?_⟩
          · cases q : C.H0 a with
            | none => rfl
            | some o => exact absurd h0 (w.live a (ne_none_of q))
          · have mt' : ∃ s, S[k]? = some s ∧ s.mutAt W F a := by
              rcases wbS_get h with ⟨h1, _⟩ | ⟨i, d', s, h1, h2, h3, h4⟩
              · exact ⟨t, h1, mt.anti en.f0⟩
              · obtain ⟨b, hb, _⟩ := en.out i d' h2
                have hb : ioAt as vs i = some b := hb
                obtain ⟨k2, t2, c1, c2, c3, c4⟩ := ioAt_slot w p e hb
                rw [h1] at c1; cases c1
                rw [h3] at c2; cases c2
                exact ⟨s, h3, Slot.wr_mut c3⟩
            obtain ⟨s, hs, hm⟩ := mt'
            exact (w.mutLive hs hm e2').1 h0
      | ex x outs =>
        simp only [r] at m'
        intro cls dx F' H' en xo
        obtain ⟨w2, _⟩ := w.back p e en
        exact m' cls dx F' H' w2 en.f0 xo
      | bad => simp only [r] at m'; exact m'.elim
    · rw [if_neg nc] at m'; exact m'.elim
/-- the exceptions of callees are taken -/
def PassW (X : Cx) (Wx : WX) : Prop := ∀ σ, PassesAt (L2.CX X.prog X.w) X σ (WE Wx σ)
theorem passW_of {X : Cx} {Wx : WX} (tk : Takes X Wx) : PassW X Wx := fun σ => passAt tk σ
theorem passW_F {X : Cx} : PassW X WF := fun σ _ _ _ _ _ _ ⟨_, _, _, _, _, _, _, _, _, _, _, _, w⟩ => w.elim
section
variable {X : Cx} {W : Wo} {C : Fr} {Wx : WX} {k j : Nat} {f : Addr} {fd : FuncData} {ps : List Str} {fs : FS} {x : Str} {p pos : Pos} {e : Expr} {es : List Expr} {fa : Sem (List Op)}
/-- f(..) -/
theorem px_call (ms : List Md) (hK : X.K = W.K) (F : FnOk X.prog X.w W.K X.mg X.base (L2.CX X.prog X.w) k f fd ps (spV W ps.length fs)) (hr : Room j X.A) (hk : k ≤ j) (hm : X.mg x = some (.ref f)) (hkp : PySem.W.keepIn W.K (.ref f) = true) {ds : List D} {dvs : List V} {us : List Value} (hb : Binds W.K fd ps us) (hd : RepC W ds dvs) (hdv : Vals dvs us)
    (hx : PassW X Wx) (ha : PXa X W C Wx (e :: es) fa) (hl : ms.length + ds.length = ps.length) (hg : Gl X x := by rfl) (hdb : (x == ("__debug__" : Str)) = false := by decide) (he : starEach (e :: es) X.env = (false, eval e X.env) :: starEach es X.env := by rfl) (hpl : (backTo pos (starEach es X.env)).any (·.1) = false := by rfl) :
    PX X W C Wx (.Call (.Name x p) (e :: es) [] pos) (sFn fs ms ds fa) := by
  have F' : FnOk X.prog X.w X.K X.mg X.base (L2.CX X.prog X.w) k f fd ps (spV W ps.length fs) := by rw [hK]; exact F
  refine PE.imp (pe_callSD (E := WE Wx) F' (hr.mono hk) hg hm (by rw [hK]; exact hkp) (by rw [hK]; exact hb) hdv hx ha hdb he hpl) fun σ H Q ⟨F0, S, w, m⟩ => ⟨F0, S, w, At.bind anti_hd m fun os S1 vs F1 H1 _ w1 e1 p1 m1 => ?_⟩
  exact at_call hd hl w1 p1 m1
end
end VL

set_option Elab.async false
set_option linter.all false
set_option maxRecDepth 100000
set_option maxHeartbeats 1000000
namespace VL
open PySem PySem.Spec PyProof.Rows L2

/-! ### isinstance -/
/-- isinstance(x, (c1, ..)), any tuple -/
def rIsiS (K : PySem.W.Frag) : List V → Hp → VK → Prop := fun xs H Q => ∃ (x : V) (tp : Addr) (cs : List V) (t : Value) (us : List Value) (b : Bool), xs = [x, .ref tp] ∧ SqT K H tp cs ∧ Paired ClsV cs us ∧ TyX K H x t ∧ PySem.W.kitAny K t us = some b ∧ Q (.bl b) H
theorem call_isiS {X : Cx} : CallR X (.builtin "isinstance") (rIsiS X.K) := by
  intro pins s σ H xs us Q I r h
  obtain ⟨x, tp, cs, t, ws, b, rfl, hT, k, ty, e, q⟩ := h
  obtain ⟨u1, u2, rfl, r1, r2⟩ := vals2 r
  cases (show u2 = Value.ref tp from r2)
  obtain ⟨P, Z, p, hx⟩ := kit_of I r1 ty
  obtain ⟨its, rv, ⟨o, h1, h2, n, h3⟩, _⟩ := I.tuple hT
  have e3 := ClsV.all k rv
  subst e3
  obtain ⟨oc, od, dt, sl⟩ := o
  simp only at h2 h3
  subst h2 h3
  exact PySem.W.kia_tup Z I.kIn p h1 e hx fun tk => ⟨.bl b, H, I.tok tk, rfl, q⟩
/-- what the written part says of the classes of instances that ic tells -/
structure IsF (W : Wo) (ic : Nat → Bool) : Prop where
  cl : ∀ c, ic c = true → Cls W.K (W.cl c)
  ha : ∀ c, ic c = true → PySem.W.findIn W.K (.ref (W.cl c)) "__class__" = some (some (.builtin "object.__class__"))
  hn : PySem.W.specialIn W.K (.builtin "object.__class__") "__get__" = some (some (.builtin "getset_descriptor.__get__"))
  htk : PySem.W.takesIn W.K (.builtin "object.__class__") = some true
  hm : ∀ c, ic c = true → PySem.W.mroIn W.K (W.cl c) (.type "object") = some true
  cc : ∀ c c', ic c = true → ic c' = true → PySem.W.kitOne W.K (.ref (W.cl c)) (.ref (W.cl c')) = some (c == c')
  ct : ∀ c n, ic c = true → n ≤ 6 → PySem.W.kitOne W.K (.ref (W.cl c)) (.type (tyS n)) = some false
  tc : ∀ c n, ic c = true → n ≤ 6 → PySem.W.kitOne W.K (.type (tyS n)) (.ref (W.cl c)) = some false
def isF (W : Wo) (cs : List Nat) : Bool := (cs.all fun c => PySem.W.plainGet W.K (W.cl c) Str.empty && PySem.W.hasDictIn W.K (W.cl c) && PySem.W.plainOver W.K (W.cl c) && decide (PySem.W.findIn W.K (.ref (W.cl c)) "__setattr__" = some (some (.builtin "object.__setattr__"))) &&
    decide (PySem.W.findIn W.K (.ref (W.cl c)) "__class__" = some (some (.builtin "object.__class__"))) && decide (PySem.W.mroIn W.K (W.cl c) (.type "object") = some true) &&
    (cs.all fun c' => decide (PySem.W.kitOne W.K (.ref (W.cl c)) (.ref (W.cl c')) = some (c == c'))) &&
    ((List.range 7).all fun n => decide (PySem.W.kitOne W.K (.ref (W.cl c)) (.type (tyS n)) = some false) && decide (PySem.W.kitOne W.K (.type (tyS n)) (.ref (W.cl c)) = some false))) &&
  decide (PySem.W.specialIn W.K (.builtin "object.__class__") "__get__" = some (some (.builtin "getset_descriptor.__get__"))) && decide (PySem.W.takesIn W.K (.builtin "object.__class__") = some true)
theorem isF_ok {W : Wo} {cs : List Nat} (h : isF W cs = true) : IsF W fun c => cs.contains c := by
  unfold isF at h
  simp only [Bool.and_eq_true, List.all_eq_true, decide_eq_true_eq] at h
  obtain ⟨⟨h1, h2⟩, h3⟩ := h
  have m : ∀ {c}, cs.contains c = true → c ∈ cs := fun {c} z => by simpa using z
  refine ⟨fun c hc => ?_, fun c hc => (h1 c (m hc)).1.1.1.2, h2, h3, fun c hc => (h1 c (m hc)).1.1.2, fun c c' hc hc' => (h1 c (m hc)).1.2 c' (m hc'), fun c n hc hn => ((h1 c (m hc)).2 n (List.mem_range.mpr (by omega))).1, fun c n hc hn => ((h1 c (m hc)).2 n (List.mem_range.mpr (by omega))).2⟩
  obtain ⟨⟨⟨⟨⟨⟨⟨a, b⟩, d⟩, e⟩, _⟩, _⟩, _⟩, _⟩ := h1 c (m hc)
  exact ⟨a, b, d, e⟩
inductive Kd where
  | b (a : Nat) | i (c : Nat)
def kdOf : D → Option Kd
  | .int _ => some (.b 0)
  | .bl _ => some (.b 1)
  | .str _ => some (.b 2)
  | .lst _ => some (.b 3)
  | .tup _ => some (.b 4)
  | .non => some (.b 6)
  | .ins c _ _ => some (.i c)
  | _ => none
def Kd.val (W : Wo) : Kd → Value
  | .b a => .type (tyS a)
  | .i c => .ref (W.cl c)
def kitN (a n : Nat) : Bool := a == n || (a == 1 && n == 0)
theorem kitN_ok {K : PySem.W.Frag} : ∀ {a n : Nat}, a ≤ 6 → n ≤ 6 → PySem.W.kitOne K (.type (tyS a)) (.type (tyS n)) = some (kitN a n) := by
  have z : (List.range 7).all (fun a => (List.range 7).all fun n => decide (kitB (tyS a) (tyS n) = some (kitN a n))) = true := by decide +kernel
  intro a n ha hn
  have z1 := List.all_eq_true.mp z a (List.mem_range.mpr (by omega))
  exact kit_ty (of_decide_eq_true (List.all_eq_true.mp z1 n (List.mem_range.mpr (by omega))))
/-- one class -/
def oneK (ic : Nat → Bool) (k : Kd) (t : D) : Option Bool := match k, t with
  | .b a, .ty n => if n ≤ 6 then some (kitN a n) else none
  | .i c, .ty n => if n ≤ 6 ∧ ic c = true then some false else none
  | .b _, .cls c' => if ic c' = true then some false else none
  | .i c, .cls c' => if ic c = true ∧ ic c' = true then some (c == c') else none
  | _, _ => none
def anyK (ic : Nat → Bool) (k : Kd) : List D → Option Bool
  | [] => some false
  | t :: ts => (match oneK ic k t with
    | some b => (match anyK ic k ts with
      | some r => some (b || r)
      | none => none)
    | none => none)
def isK (ic : Nat → Bool) (k : Kd) (t : D) : Option Bool := match t with
  | .tup ts => (match k with
    | .b _ => anyK ic k ts
    | .i c => if ic c = true then anyK ic k ts else none)
  | t => oneK ic k t
def oIsi (ic : Nat → Bool) (ds : List D) : Option Hd := match ds with
  | [x, t] => (match kdOf x with
    | some k => (match isK ic k t with
      | some b => some (.fz (.bl b))
      | none => none)
    | none => none)
  | _ => none
section
variable {W : Wo} {ic : Nat → Bool} {F H : Hp} {v : V} {x : D}
def Kd.lo : Kd → Prop
  | .b a => a ≤ 6
  | .i _ => True
def Kd.inc (ic : Nat → Bool) : Kd → Prop
  | .b _ => True
  | .i c => ic c = true
theorem ty_of (I : IsF W ic) (s : Same F H) (r : RepB W F H x v) : ∀ k, kdOf x = some k → k.lo ∧ (k.inc ic → TyX W.K H v (k.val W)) := by
  intro k e
  cases x with
  | int i => cases e; cases r.int; exact ⟨(by decide : (0:Nat) ≤ 6), fun _ => .base (.int i)⟩
  | bl i => cases e; cases r.bl; exact ⟨(by decide : (1:Nat) ≤ 6), fun _ => .base (.bl i)⟩
  | str i => cases e; cases r.str; exact ⟨(by decide : (2:Nat) ≤ 6), fun _ => .base (.str i)⟩
  | non => cases e; cases r.non; exact ⟨(by decide : (6:Nat) ≤ 6), fun _ => .base .non⟩
  | lst xs =>
    cases e
    obtain ⟨a, us, rfl, q, _⟩ := r.lst s
    exact ⟨(by decide : (3:Nat) ≤ 6), fun _ => .base (.lst q)⟩
  | tup xs =>
    cases e
    obtain ⟨a, us, rfl, q, _⟩ := r.tup s
    refine ⟨(by decide : (4:Nat) ≤ 6), fun _ => ?_⟩
    rcases q with (q | ⟨o, q⟩) | ⟨o, its, n, q1, q2, _⟩
    · exact .base (.tup q)
    · exact .fTuple q
    · exact .kTuple q1 q2
  | ins c ns ds =>
    cases e
    refine ⟨trivial, fun hc => ?_⟩
    have hc : ic c = true := hc
    obtain ⟨a, dx, fs, rfl, q, _⟩ := r.ins s
    exact .base (.ins q (I.cl c hc) (I.ha c hc) I.hn I.htk (I.hm c hc))
  | _ => cases e
theorem oneK_ok (I : IsF W ic) {k : Kd} (hk : k.lo) {t : D} {b : Bool} (e : oneK ic k t = some b) {u : V} (ru : RepB W F H t u) : ∃ uu, ClsV u uu ∧ PySem.W.kitOne W.K (k.val W) uu = some b ∧ k.inc ic := by
  cases k with
  | b a =>
    cases t with
    | ty n =>
      have e' : (if n ≤ 6 then some (kitN a n) else none) = some b := e
      cases ru.ty
      by_cases hn : n ≤ 6
      · rw [if_pos hn] at e'; cases e'; exact ⟨_, .ty _, kitN_ok hk hn, trivial⟩
      · rw [if_neg hn] at e'; cases e'
    | cls c' =>
      have e' : (if ic c' = true then some false else none) = some b := e
      cases ru.cls
      by_cases hn : ic c' = true
      · rw [if_pos hn] at e'; cases e'; exact ⟨_, .own _, I.tc c' a hn hk, trivial⟩
      · rw [if_neg hn] at e'; cases e'
    | _ => cases e
  | i c =>
    cases t with
    | ty n =>
      have e' : (if n ≤ 6 ∧ ic c = true then some false else none) = some b := e
      cases ru.ty
      by_cases hn : n ≤ 6 ∧ ic c = true
      · rw [if_pos hn] at e'; cases e'; exact ⟨_, .ty _, I.ct c n hn.2 hn.1, hn.2⟩
      · rw [if_neg hn] at e'; cases e'
    | cls c' =>
      have e' : (if ic c = true ∧ ic c' = true then some (c == c') else none) = some b := e
      cases ru.cls
      by_cases hn : ic c = true ∧ ic c' = true
      · rw [if_pos hn] at e'; cases e'; exact ⟨_, .own _, I.cc c c' hn.1 hn.2, hn.1⟩
      · rw [if_neg hn] at e'; cases e'
    | _ => cases e
theorem anyK_ok (I : IsF W ic) {k : Kd} (hk : k.lo) : ∀ {ts : List D} {us : List V} {b : Bool}, Reps W F ts us → anyK ic k ts = some b → ∃ ws, Paired ClsV us ws ∧ PySem.W.kitAny W.K (k.val W) ws = some b
  | _, _, b, .nil, e => by cases e; exact ⟨[], .nil, rfl⟩
  | t :: ts, _, b, .cons (v := u) ra rb, e => by
    have e' : (match oneK ic k t with
      | some b => (match anyK ic k ts with
        | some r => some (b || r)
        | none => none)
      | none => none) = some b := e
    cases q : oneK ic k t with
    | none => rw [q] at e'; cases e'
    | some z =>
      rw [q] at e'
      cases q2 : anyK ic k ts with
      | none => simp only [q2] at e'; cases e'
      | some r =>
        simp only [q2] at e'
        cases e'
        obtain ⟨uu, cv, ko, _⟩ := oneK_ok (H := F) I hk q (.inl ra)
        obtain ⟨ws, p, ka⟩ := anyK_ok I hk rb q2
        refine ⟨uu :: ws, .cons cv p, ?_⟩
        cases z with
        | true => exact kitAny_cons ko (fun z => nomatch z) (fun _ => rfl)
        | false => exact kitAny_cons ko (fun _ => ka) (fun z => nomatch z)
def rIsiA (K : PySem.W.Frag) : List V → Hp → VK → Prop := fun xs H Q => rIsi K xs H Q ∨ rIsiS K xs H Q
theorem call_isiA {X : Cx} : CallR X (.builtin "isinstance") (rIsiA X.K) := CallR.or call_isi call_isiS
theorem prim_isi (I : IsF W ic) : PrimN W (rIsiA W.K) (oIsi ic) := by
  intro ds hd F H vs Q s rs e k
  match ds, rs, e with
  | [x, t], rs, e =>
    obtain ⟨v, u, rfl, r1, r2⟩ := rs.two
    have e' : (match kdOf x with
      | some k => (match isK ic k t with
        | some b => some (Hd.fz (.bl b))
        | none => none)
      | none => none) = some hd := e
    cases q : kdOf x with
    | none => rw [q] at e'; cases e'
    | some kd =>
      rw [q] at e'
      cases q2 : isK ic kd t with
      | none => simp only [q2] at e'; cases e'
      | some b =>
        simp only [q2] at e'
        cases e'
        obtain ⟨hk, T⟩ := ty_of I s r1 kd q
        have fin : Q (.bl b) H := k _ F H (Ext.refl s) (show Rep W F (.bl b) (.bl b) from .bl)
        have one : oneK ic kd t = some b → rIsiA W.K [v, u] H Q := fun e => by
          obtain ⟨uu, cv, ko, hc⟩ := oneK_ok I hk e r2
          exact .inl ⟨v, u, _, uu, b, rfl, cv, T hc, ko, fin⟩
        cases t with
        | tup ts =>
          have hc : kd.inc ic ∧ anyK ic kd ts = some b := by
            clear one T hk q
            cases kd with
            | b a => exact ⟨trivial, q2⟩
            | i c =>
              have q4 : (if ic c = true then anyK ic (.i c) ts else none) = some b := q2
              by_cases hc : ic c = true
              · rw [if_pos hc] at q4; exact ⟨hc, q4⟩
              · rw [if_neg hc] at q4; cases q4
          obtain ⟨a, us, rfl, qt, rr⟩ := r2.tup s
          obtain ⟨ws, p, ka⟩ := anyK_ok I hk rr hc.2
          exact .inr ⟨v, a, us, _, ws, b, rfl, qt, p, T hc.1, ka, fin⟩
        | _ => exact one q2
end

/-! ### min, max, sum -/
def oMm2 (f : Int → Int → Int) (ds : List D) : Option Hd := match ds with
  | [.int i, .int j] => some (.fz (.int (f i j)))
  | _ => none
def fMax (i j : Int) : Int := if j > i then j else i
def fMin (i j : Int) : Int := if j < i then j else i
section
variable {W : Wo}
theorem prim_mm2 (f : Int → Int → Int) : PrimN W (fun xs H Q => ∃ i j, xs = [.int i, .int j] ∧ Q (.int (f i j)) H) (oMm2 f) := by
  intro ds hd F H vs Q s rs e k
  match ds, rs, e with
  | [.int i, .int j], rs, e =>
    cases e
    obtain ⟨v, u, rfl, r1, r2⟩ := rs.two
    cases r1.int; cases r2.int
    exact ⟨i, j, rfl, k _ F H (Ext.refl s) (show Rep W F (.int _) (.int _) from .int)⟩
def oMm3 (f : Int → Int → Int) (ds : List D) : Option Hd := match ds with
  | [.int i, .int j, .int m] => some (.fz (.int (f (f i j) m)))
  | _ => none
theorem prim_mm3 {f : Int → Int → Int} {g : V → V → V → Option V} (hg : ∀ i j m, g (.int i) (.int j) (.int m) = some (.int (f (f i j) m))) : PrimN W (rNuC3 g) (oMm3 f) := by
  intro ds hd F H vs Q s rs e k
  match ds, rs, e with
  | [.int i, .int j, .int m], rs, e =>
    cases e
    obtain ⟨v, u, x, rfl, r1, r2, r3⟩ := rs.three
    cases r1.int; cases r2.int; cases r3.int
    exact ⟨_, _, _, _, rfl, hg i j m, k _ F H (Ext.refl s) (show Rep W F (.int _) (.int _) from .int)⟩
theorem nu_max3 (i j m : Int) : nuMax3 (.int i) (.int j) (.int m) = some (.int (fMax (fMax i j) m)) := by
  have h : ∀ i j : Int, nuMax2 (.int i) (.int j) = some (.int (fMax i j)) := fun i j => by
    show (some (decide (i < j))).map (fun c => if c = true then V.int j else V.int i) = _
    unfold fMax
    by_cases c : i < j
    · have c' : j > i := c
      simp [c, c']
    · have c' : ¬ j > i := c
      simp [c, c']
  unfold nuMax3
  rw [h]
  exact h _ _
theorem nu_min3 (i j m : Int) : nuMin3 (.int i) (.int j) (.int m) = some (.int (fMin (fMin i j) m)) := by
  have h : ∀ i j : Int, nuMin2 (.int i) (.int j) = some (.int (fMin i j)) := fun i j => by
    show (some (decide (j < i))).map (fun c => if c = true then V.int j else V.int i) = _
    unfold fMin
    by_cases c : j < i
    · simp [c]
    · simp [c]
  unfold nuMin3
  rw [h]
  exact h _ _
theorem prim_max3 : PrimN W (rNuC3 nuMax3) (oMm3 fMax) := prim_mm3 nu_max3
theorem prim_min3 : PrimN W (rNuC3 nuMin3) (oMm3 fMin) := prim_mm3 nu_min3
/-! of a list or a tuple of ints -/
def rInts (K : PySem.W.Frag) (f : Int → List Int → Int) : List V → Hp → VK → Prop := fun xs H Q => ∃ (a : Addr) (n : Int) (ns : List Int), xs = [.ref a] ∧ (SqL K H a ((n :: ns).map V.int) ∨ SqT K H a ((n :: ns).map V.int)) ∧ Q (.int (f n ns)) H
theorem ints_alike (l : List Int) : PySem.W.AlikeAll (l.map PyData.int) := ⟨fun x hx y hy => by
  obtain ⟨i, _, rfl⟩ := List.mem_map.mp hx
  obtain ⟨j, _, rfl⟩ := List.mem_map.mp hy
  rfl, fun x hx => by
  obtain ⟨i, _, rfl⟩ := List.mem_map.mp hx
  exact fun z => nomatch z⟩
theorem ints_depth : ∀ (l : List Int), PyData.depthAll (l.map PyData.int) ≤ 60
  | [] => Nat.zero_le _
  | i :: l => by
    have := ints_depth l
    show max (PyData.depth (.int i)) (PyData.depthAll (l.map PyData.int)) ≤ 60
    have z : PyData.depth (.int i) ≤ 60 := by simp [PyData.depth]
    omega
section
variable {X : Cx}
theorem ints_seq {pins : List (Addr × Obj)} {σ : L2.St} {H : Hp} {s : Shared} {a : Addr} {l : List Int} (I : Inv X pins σ H s) (h : SqL X.K H a (l.map V.int) ∨ SqT X.K H a (l.map V.int)) :
    ∃ vs as, (s.heap.IsList a vs ∨ s.heap.IsTuple a vs) ∧ ReadsAll s.heap vs.toList (l.map PyData.int) as := by
  rcases h with h | h
  · obtain ⟨its, rv, pl, _⟩ := I.list h
    obtain ⟨as, ra⟩ := Dp.readsAll I (l.map PyData.int) (l.map V.int) its (dp_ints l) rv
    exact ⟨its.toArray, as, .inl pl.isList, by rw [List.toList_toArray]; exact ra⟩
  · obtain ⟨its, rv, pl, _⟩ := I.tuple h
    obtain ⟨as, ra⟩ := Dp.readsAll I (l.map PyData.int) (l.map V.int) its (dp_ints l) rv
    exact ⟨its.toArray, as, .inr pl, by rw [List.toList_toArray]; exact ra⟩
theorem call_minI (hc : X.calm = true) (hu : X.A.units + 64 < cLine) : CallR X (.builtin "min") (rInts X.K fun n ns => ns.foldl min n) := by
  intro pins s σ H vs us Q I r h
  obtain ⟨a, n, ns, rfl, hs, q⟩ := h
  rw [Vals.ref1 r]
  obtain ⟨ws, as, hl, ra⟩ := ints_seq I hs
  have hd := ints_depth (n :: ns)
  have fin : ∀ (i : Nat) v h' tk bs, ws[i]? = some v → Reads h' v (PySem.W.minD (.int n) (ns.map .int)) bs → (∀ b o, s.heap.get? b = some o → h'.get? b = some o) → EP X pins σ Q v { s with heap := h', toks := tk } := fun i v h' tk bs hv hr hk => by
    rw [PySem.W.minD_ints] at hr
    cases hr with
    | int _ t => exact ⟨.int _, H, I.kept hk, ⟨t, rfl⟩, q⟩
  rcases hl with hl | hl
  · exact PySem.W.min_list_data (I.ok.hd hc) hl ra (ints_alike (n :: ns)) (by show X.A.units + 1 + PyData.depthAll ((n :: ns).map PyData.int) < _; omega) fin
  · exact PySem.W.min_tuple_data (I.ok.hd hc) hl ra (ints_alike (n :: ns)) (by show X.A.units + 1 + PyData.depthAll ((n :: ns).map PyData.int) < _; omega) fin
theorem call_maxI (hc : X.calm = true) (hu : X.A.units + 64 < cLine) : CallR X (.builtin "max") (rInts X.K fun n ns => ns.foldl max n) := by
  intro pins s σ H vs us Q I r h
  obtain ⟨a, n, ns, rfl, hs, q⟩ := h
  rw [Vals.ref1 r]
  obtain ⟨ws, as, hl, ra⟩ := ints_seq I hs
  have hd := ints_depth (n :: ns)
  have fin : ∀ (i : Nat) v h' tk bs, ws[i]? = some v → Reads h' v (PySem.W.maxD (.int n) (ns.map .int)) bs → (∀ b o, s.heap.get? b = some o → h'.get? b = some o) → EP X pins σ Q v { s with heap := h', toks := tk } := fun i v h' tk bs hv hr hk => by
    rw [PySem.W.maxD_ints] at hr
    cases hr with
    | int _ t => exact ⟨.int _, H, I.kept hk, ⟨t, rfl⟩, q⟩
  rcases hl with hl | hl
  · exact PySem.W.max_list_data (I.ok.hd hc) hl ra (ints_alike (n :: ns)) (by show X.A.units + 1 + PyData.depthAll ((n :: ns).map PyData.int) < _; omega) fin
  · exact PySem.W.max_tuple_data (I.ok.hd hc) hl ra (ints_alike (n :: ns)) (by show X.A.units + 1 + PyData.depthAll ((n :: ns).map PyData.int) < _; omega) fin
end
def oInts (f : Int → List Int → Int) (ds : List D) : Option Hd := match ds with
  | [.lst xs] => (match intsOf xs with
    | some (n :: ns) => some (.fz (.int (f n ns)))
    | _ => none)
  | [.tup xs] => (match intsOf xs with
    | some (n :: ns) => some (.fz (.int (f n ns)))
    | _ => none)
  | _ => none
theorem prim_ints {f : Int → List Int → Int} : PrimN W (rInts W.K f) (oInts f) := by
  intro ds hd F H vs Q s rs e k
  have key : ∀ {xs : List D} {n ns}, intsOf xs = some (n :: ns) → ∀ {us : List V}, Reps W F xs us → us = (n :: ns).map V.int := fun {xs n ns} q {us} r => by
    have e := intsOf_map q
    subst e
    exact r.toInts
  match ds, rs, e with
  | [.lst xs], rs, e =>
    obtain ⟨v, rfl, r⟩ := rs.one
    have e' : (match intsOf xs with
      | some (n :: ns) => some (Hd.fz (.int (f n ns)))
      | _ => none) = some hd := e
    cases q : intsOf xs with
    | none => rw [q] at e'; cases e'
    | some l =>
      rw [q] at e'
      cases l with
      | nil => cases e'
      | cons n ns =>
        cases e'
        obtain ⟨a, us, rfl, qa, ra⟩ := r.lst s
        exact ⟨a, n, ns, rfl, .inl (SqL.of (by rw [← key q ra]; exact qa)), k _ F H (Ext.refl s) (show Rep W F (.int _) (.int _) from .int)⟩
  | [.tup xs], rs, e =>
    obtain ⟨v, rfl, r⟩ := rs.one
    have e' : (match intsOf xs with
      | some (n :: ns) => some (Hd.fz (.int (f n ns)))
      | _ => none) = some hd := e
    cases q : intsOf xs with
    | none => rw [q] at e'; cases e'
    | some l =>
      rw [q] at e'
      cases l with
      | nil => cases e'
      | cons n ns =>
        cases e'
        obtain ⟨a, us, rfl, qa, ra⟩ := r.tup s
        exact ⟨a, n, ns, rfl, .inr (by rw [← key q ra]; exact qa), k _ F H (Ext.refl s) (show Rep W F (.int _) (.int _) from .int)⟩
def oSum (ds : List D) : Option Hd := match ds with
  | [.lst xs] => (match intsOf xs with
    | some l => some (.fz (.int l.sum))
    | none => none)
  | _ => none
theorem prim_sum : PrimN W (rSum W.K) oSum := by
  intro ds hd F H vs Q s rs e k
  match ds, rs, e with
  | [.lst xs], rs, e =>
    obtain ⟨v, rfl, r⟩ := rs.one
    have e' : (match intsOf xs with
      | some l => some (Hd.fz (.int l.sum))
      | none => none) = some hd := e
    cases q : intsOf xs with
    | none => rw [q] at e'; cases e'
    | some l =>
      rw [q] at e'
      cases e'
      obtain ⟨a, us, rfl, qa, ra⟩ := r.lst s
      have e := intsOf_map q
      subst e
      exact ⟨a, l, rfl, SqL.of (by rw [← ra.toInts]; exact qa), k _ F H (Ext.refl s) (show Rep W F (.int _) (.int _) from .int)⟩
end

/-! ### list(range(..)) -/
def rgL (lo : Int) (n : Nat) : List D := rgI lo n
def lrD (ds : List D) : Sem Hd := fun S => match ds with
  | [.int j] => if okR j = true ∧ j.toNat ≤ 16777216 then .ok (.own (.lst (rgI 0 j.toNat))) S else .bad
  | [.int i, .int j] => if okR i = true ∧ okR j = true ∧ (j - i).toNat ≤ 16777216 then .ok (.own (.lst (rgI i (j - i).toNat))) S else .bad
  | _ => .bad
theorem Reps.rg {W : Wo} {F : Hp} (lo : Int) (n : Nat) : Reps W F (rgI lo n) ((List.range n).map fun (i : Nat) => V.int (lo + (i : Nat))) := by
  unfold rgI
  generalize List.range n = l
  induction l with
  | nil => exact .nil
  | cons a l ih => exact .cons .int ih
section
variable {X : Cx} {W : Wo} {C : Fr} {Wx : WX} {a b : Expr} {p p2 pos : Pos} {fo fo2 : Sem Op}
def sLr1 (f : Sem Op) : Sem Hd := fun S => (f S).bind fun o S => match o.get S with
  | some d => lrD [d] S
  | none => .bad
theorem px_lrg1 (hc : X.calm = true) (hl : X.mg "list" = none) (hm : X.mg "range" = none) (ha : PXo X W C Wx a fo) (gl : Gl X "list" := by rfl) (hg : Gl X "range" := by rfl) (hs : starEach [a] X.env = (false, eval a X.env) :: starEach [] X.env := by rfl)
    (na : starEach [.Call (.Name "range" p2) [a] [] pos] X.env = (false, eval (.Call (.Name "range" p2) [a] [] pos) X.env) :: starEach [] X.env := by rfl) {pos2 : Pos} : PX X W C Wx (.Call (.Name "list" p) [.Call (.Name "range" p2) [a] [] pos] [] pos2) (sLr1 fo) :=
  PE.imp (pe_listRg hc gl hl (prg_1 hg hm ha hs) na) fun σ H Q ⟨F, S, w, m⟩ => ⟨F, S, w, At.bind anti_hd m fun o S1 v F1 H1 _ w1 e1 p1 m1 => by
    cases q : o.get S1 with
    | none => simp only [q] at m1; exact m1.elim
    | some d =>
      simp only [q] at m1
      have r1 := repB_of_op p1 w1 (Same.refl _) q
      cases d with
      | int j =>
        have m2 : At W C Wx σ (PHd W C) F1 H1 S1 (if okR j = true ∧ j.toNat ≤ 16777216 then .ok (.own (.lst (rgI 0 j.toNat))) S1 else .bad) Q := m1
        by_cases c : okR j = true ∧ j.toNat ≤ 16777216
        · rw [if_pos c] at m2
          obtain ⟨b1, b2⟩ := okR_ok c.1
          have c2 := c.2
          refine ⟨j, r1.int, ⟨by omega, by omega, by omega, by omega, by omega⟩, fun q hq => ?_⟩
          have ex := Ext.allocO (o := .lst (rgV 0 j)) w1.sub hq
          refine m2 _ _ _ (w1.ext ex) ex.evo (w1.tmp hq ex ⟨_, upd_same, ?_⟩ (w1.sub.free hq))
          unfold rgV
          rw [Int.sub_zero]
          exact Reps.rg 0 j.toNat
        · rw [if_neg c] at m2; exact m2.elim
      | _ => exact m1.elim⟩
end
end VL

set_option Elab.async false
set_option linter.all false
set_option maxRecDepth 100000
set_option maxHeartbeats 1000000
namespace VL
open PySem PySem.Spec PyProof.Rows L2

/-! ### fields -/
def lookF (j : Nat) : List Nat → List D → Option D
  | n :: ns, d :: ds => if n = j then some d else lookF j ns ds
  | _, _ => none
def putN (j : Nat) : List Nat → List Nat
  | [] => [j]
  | n :: ns => if n = j then n :: ns else n :: putN j ns
def putD (j : Nat) (d : D) : List Nat → List D → List D
  | [], _ => [d]
  | n :: ns, e :: ds => if n = j then d :: ds else e :: putD j d ns ds
  | _ :: _, [] => []
def Inj (W : Wo) : Prop := ∀ i j, W.fnm i = W.fnm j → i = j
section
variable {W : Wo} {F : Hp}
theorem RepF.mem {f : Str} : ∀ {ns : List Nat} {ds : List D} {fs : List (Str × V)}, RepF W F ns ds fs → ns.length = fs.length ∧ ns.length = ds.length
  | _, _, _, .nil => ⟨rfl, rfl⟩
  | _, _, _, .cons _ b => ⟨congrArg (· + 1) (RepF.mem (f := f) b).1, congrArg (· + 1) (RepF.mem (f := f) b).2⟩
theorem RepF.look (hi : Inj W) {j : Nat} {d : D} : ∀ {ns : List Nat} {ds : List D} {fs : List (Str × V)}, RepF W F ns ds fs → lookF j ns ds = some d → ∃ v, fs.lookup (W.fnm j) = some v ∧ Rep W F d v
  | _, _, _, .nil, e => by cases e
  | _, _, _, .cons (n := n) (v := v) (ns := ns) (ds := ds) a b, e => by
    unfold lookF at e
    by_cases h : n = j
    · subst h
      rw [if_pos rfl] at e
      cases e
      exact ⟨v, by simp [List.lookup], a⟩
    · rw [if_neg h] at e
      obtain ⟨u, h1, h2⟩ := RepF.look hi b e
      refine ⟨u, ?_, h2⟩
      have ne : (W.fnm j == W.fnm n) = false := by
        cases q : (W.fnm j == W.fnm n) with
        | false => rfl
        | true => exact absurd (hi _ _ (eq_of_beq q)).symm h
      rw [List.lookup_cons, ne]
      exact h1
theorem RepF.none (hi : Inj W) {j : Nat} : ∀ {ns : List Nat} {ds : List D} {fs : List (Str × V)}, RepF W F ns ds fs → lookF j ns ds = none → fs.lookup (W.fnm j) = none
  | _, _, _, .nil, e => rfl
  | _, _, _, .cons (n := n) (v := v) (ns := ns) (ds := ds) a b, e => by
    unfold lookF at e
    by_cases h : n = j
    · rw [if_pos h] at e; cases e
    · rw [if_neg h] at e
      have ne : (W.fnm j == W.fnm n) = false := by
        cases q : (W.fnm j == W.fnm n) with
        | false => rfl
        | true => exact absurd (hi _ _ (eq_of_beq q)).symm h
      rw [List.lookup_cons, ne]
      exact RepF.none hi b e
theorem RepF.put (hi : Inj W) {j : Nat} {d : D} {v : V} (r : Rep W F d v) : ∀ {ns : List Nat} {ds : List D} {fs : List (Str × V)}, RepF W F ns ds fs → RepF W F (putN j ns) (putD j d ns ds) (putF (W.fnm j) v fs)
  | _, _, _, .nil => .cons r .nil
  | _, _, _, .cons (n := n) (v := u) (ns := ns) (ds := ds) a b => by
    unfold putN putD putF
    by_cases h : n = j
    · subst h
      rw [if_pos rfl, if_pos rfl, if_pos rfl]
      exact .cons r b
    · rw [if_neg h, if_neg h, if_neg (fun z => h (hi _ _ z))]
      exact .cons a (RepF.put hi r b)
end
/-- what is known of the classes that oc tells, for a field -/
def FldF (W : Wo) (oc : Nat → Bool) (f : Str) : Prop := ∀ c, oc c = true → Cls W.K (W.cl c) ∧ NoAttr W.K (W.cl c) f
section
variable {X : Cx} {W : Wo} {C : Fr} {Wx : WX} {e o : Expr} {es : List Expr} {pos apos : Pos} {f fe : Sem Hd} {oc : Nat → Bool}
def oFld (oc : Nat → Bool) (j : Nat) (d : D) : Option Hd := match d with
  | .ins c ns ds => if oc c = true then (match lookF j ns ds with
    | some d => some (.fz d)
    | none => none) else none
  | _ => none
/-- e.f, a field -/
theorem px_fld (j : Nat) {x : Str} (hK : X.K = W.K) (hi : Inj W) (hf : FldF W oc x) (hx : W.fnm j = x) (he : PX X W C Wx e f) (hb : attributeBase e x X.env (eval e X.env) = eval e X.env := by rfl) : PX X W C Wx (.Attribute e x pos) (sUn (oFld oc j) (sOp f)) :=
  PE.imp (pe_fld (pxo he) hb) fun σ H Q ⟨F, S, w, m⟩ => ⟨F, S, w, At.bind anti_hd m fun op S1 v F1 H1 _ w1 e1 p1 m1 => by
    have hp : Prim1 W (fun x' H Q => ∃ a C dx fs v, x' = V.ref a ∧ H a = some (.ins C dx fs) ∧ Cls W.K C ∧ NoAttr W.K C x ∧ fs.lookup x = some v ∧ Q v H) (oFld oc j) := fun d1 hd F H v1 Q s r e k => by
      cases d1 with
      | ins c ns ds =>
        have e' : (if oc c = true then (match lookF j ns ds with
          | some d => some (Hd.fz d)
          | none => none) else none) = some hd := e
        by_cases h : oc c = true
        · rw [if_pos h] at e'
          cases q : lookF j ns ds with
          | none => rw [q] at e'; cases e'
          | some d =>
            rw [q] at e'
            cases e'
            obtain ⟨c1, c2⟩ := hf c h
            rcases r with r | ⟨a, rfl, n, dx, fs, ha, rf⟩
            · cases r with
              | ins qa rf =>
                obtain ⟨u, lu, ru⟩ := rf.look hi q
                rw [hx] at lu
                exact ⟨_, _, _, _, u, rfl, s _ _ qa, c1, c2, lu, k u F H (Ext.refl s) ru⟩
            · obtain ⟨u, lu, ru⟩ := rf.look hi q
              rw [hx] at lu
              exact ⟨a, _, dx, fs, u, rfl, ha, c1, c2, lu, k u F H (Ext.refl s) ru⟩
        · rw [if_neg h] at e'; cases e'
      | _ => cases e
    rw [hK]
    exact at_fin1 hp w1 p1 (Same.refl _) m1⟩
/-- a constant of the class -/
structure ConF (W : Wo) (c : Nat) (x : Str) (v : V) : Prop where
  cl : Cls W.K (W.cl c)
  con : ∃ u, Con W.K (W.cl c) x v u
def oCon (c0 j : Nat) (d0 : D) (d : D) : Option Hd := match d with
  | .ins c ns ds => if c = c0 then (match lookF j ns ds with
    | some _ => none
    | none => some (.fz d0)) else none
  | _ => none
theorem px_con (c0 j : Nat) {x : Str} {v0 : V} {d0 : D} (hK : X.K = W.K) (hi : Inj W) (hf : ConF W c0 x v0) (h0 : ∀ F, Rep W F d0 v0) (hx : W.fnm j = x) (he : PX X W C Wx e f) (hb : attributeBase e x X.env (eval e X.env) = eval e X.env := by rfl) : PX X W C Wx (.Attribute e x pos) (sUn (oCon c0 j d0) (sOp f)) :=
  PE.imp (pe_con (pxo he) hb) fun σ H Q ⟨F, S, w, m⟩ => ⟨F, S, w, At.bind anti_hd m fun op S1 v F1 H1 _ w1 e1 p1 m1 => by
    have hp : Prim1 W (fun x' H Q => ∃ a C dx fs v u, x' = V.ref a ∧ H a = some (.ins C dx fs) ∧ Cls W.K C ∧ Con W.K C x v u ∧ fs.lookup x = none ∧ Q v H) (oCon c0 j d0) := fun d1 hd F H v1 Q s r e k => by
      have r0 := r
      cases d1 with
      | ins c ns ds =>
        have e' : (if c = c0 then (match lookF j ns ds with
          | some _ => none
          | none => some (Hd.fz d0)) else none) = some hd := e
        by_cases h : c = c0
        · rw [if_pos h] at e'
          subst h
          cases q : lookF j ns ds with
          | some d => rw [q] at e'; cases e'
          | none =>
            rw [q] at e'
            cases e'
            obtain ⟨a, dx, fs, rfl, ha, rf⟩ := r.ins s
            obtain ⟨u, hu⟩ := hf.con
            have ln : fs.lookup (W.fnm j) = none := by
              rcases r0 with r0 | ⟨a', ea, n, dx', fs', ha', rf'⟩
              · cases r0 with
                | ins qa rf0 => rw [s _ _ qa] at ha; cases ha; exact rf0.none hi q
              · cases ea; rw [ha'] at ha; cases ha; exact rf'.none hi q
            rw [hx] at ln
            exact ⟨a, _, dx, fs, v0, u, rfl, ha, hf.cl, hu, ln, k v0 F H (Ext.refl s) (h0 F)⟩
        · rw [if_neg h] at e'; cases e'
      | _ => cases e
    rw [hK]
    exact at_fin1 hp w1 p1 (Same.refl _) m1⟩
/-- self.f = e -/
def gSetF (oc : Nat → Bool) (k j : Nat) (fe : Sem D) : SS := fun S => rS (fe S) fun d S => match S[k]? with
  | some s => if s.wr = true then (match s.got with
    | some (.ins c ns ds) => if oc c = true ∧ ns.length < 1000 then .nx (S.set k (s.put (.ins c (putN j ns) (putD j d ns ds)))) else .bad
    | _ => .bad) else .bad
  | none => .bad
theorem p1_setF (k j : Nat) {x y : Str} {px p' : Pos} (hK : X.K = W.K) (hi : Inj W) (hf : FldF W oc x) (hx : W.fnm j = x) (he : PX X W C Wx e fe) (hN : X.N[k]? = some y := by rfl) (hv : Vis X.env.scope y := by first | exact Or.inl rfl | exact Or.inr (Or.inl rfl) | exact Or.inr (Or.inr rfl))
    (hd : (y == ("__debug__" : Str)) = false := by decide) (hcd : (y == ("__classdict__" : Str)) = false := by decide) (hs : swapsWith e (some (.Attribute (.Name y px) x p')) pos.line X.env = pure false := by rfl) :
    PT1 X W C Wx (.Assign [.Attribute (.Name y px) x p'] e pos) (gSetF oc k j (sV fe)) :=
  PS.imp (ps_fld (pe_var hN hv hd hcd) (pxv he) hs) fun D' σ H ⟨F, S, w, m⟩ => ⟨F, S, w, SAt.expr m fun d S1 v F1 H1 _ w1 e1 p1 m1 => by
    have p2 : Rep W F1 d v := p1
    cases q : S1[k]? with
    | none => simp only [q] at m1; exact m1.elim
    | some s =>
      simp only [q] at m1
      by_cases hw : s.wr = true
      · rw [if_pos hw] at m1
        cases q2 : s.got with
        | none => simp only [q2] at m1; exact m1.elim
        | some dd =>
          simp only [q2] at m1
          cases dd with
          | ins c ns ds =>
            have m2 : SAt W C Wx D' F1 (if oc c = true ∧ ns.length < 1000 then .nx (S1.set k (s.put (.ins c (putN j ns) (putD j d ns ds)))) else .bad) := m1
            by_cases hc : oc c = true ∧ ns.length < 1000
            · rw [if_pos hc] at m2
              obtain ⟨a, ea, n, dx, fs, ha, rf⟩ := (w1.slot k s q).wr hw q2
              obtain ⟨c1, c2⟩ := hf c hc.1
              obtain ⟨w2, e2⟩ := w1.write (d' := .ins c (putN j ns) (putD j d ns ds)) (o := .ins (W.cl c) dx (putF x v fs)) q hw ea ⟨dx, _, upd_same, by rw [← hx]; exact rf.put hi p2⟩
              refine ⟨_, ea, a, _, dx, fs, rfl, ha, by rw [hK]; exact c1, by rw [hK]; exact c2, ?_, m2 σ F1 _ w2 (Same.refl _)⟩
              rw [← (rf.mem (f := x)).1]
              exact hc.2
            · rw [if_neg hc] at m2; exact m2.elim
          | _ => exact m1.elim
      · rw [if_neg hw] at m1; exact m1.elim⟩

/-! ### properties, methods -/
def noEx {α : Type} (r : Res α) : Res α := match r with
  | .ex _ _ => .bad
  | r => r
theorem at_noEx {α ρ : Type} {σ : Sg} {P : Pd α ρ} {F H : Hp} {S : Sl} {r : Res α} {Q : ρ → Hp → Prop} {Wx' : WX} (m : At W C Wx σ P F H S (noEx r) Q) : At W C Wx' σ P F H S r Q := by
  cases r with
  | ok a S1 => exact m
  | ex x S1 => exact m.elim
  | bad => exact m
/-- a call with the operands at hand -/
def fnOs (f : FS) (ms : List Md) (ds : List D) (os : List Op) : Sem Hd := fun S => match argsS ms os S with
  | some as => if noClash (os.zip as) = true then (match f (as ++ ds.map .va) with
      | .rt o d outs => .ok (match o with | true => .own d | false => .fz d) (wbS os outs S)
      | .ex x outs => .ex x (wbS os outs S)
      | .bad => .bad) else .bad
  | none => .bad
theorem ins_of_op {σ : Sg} {F1 H1 F2 H2 Hs : Hp} {S1 S2 : Sl} {op : Op} {v : V} {c : Nat} {ns : List Nat} {ds : List D} (p : POp W σ Hs F1 H1 S1 op v) (w : Wd W C F2 S2 σ H2) (fr : Same F1 F2) (g : op.get S2 = some (.ins c ns ds)) : ∃ a dx fs, v = V.ref a ∧ H2 a = some (.ins (W.cl c) dx fs) ∧ ∃ F, RepF W F ns ds fs := by
  have r := repB_of_op p w fr g
  rcases r with r | ⟨a, rfl, n, dx, fs, ha, rf⟩
  · cases r with
    | ins q rf => exact ⟨_, _, _, rfl, w.sub _ _ q, F2, rf⟩
  · exact ⟨a, dx, fs, rfl, ha, F2, rf⟩
def sProp (c0 : Nat) (fs : FS) (m : Md) (f : Sem Op) : Sem Hd := fun S => (f S).bind fun o S => match o.get S with
  | some (.ins c _ _) => if c = c0 then noEx (fnOs fs [m] [] [o] S) else .bad
  | _ => .bad
theorem px_prop (c0 : Nat) (m : Md) {x : Str} {p g : Addr} {k j : Nat} {fd : FuncData} {ps : List Str} {fs : FS} (hK : X.K = W.K) (cl : Cls W.K (W.cl c0)) (hp : PropOf W.K (W.cl c0) x p g) (Fn : FnOk X.prog X.w W.K X.mg X.base (L2.CX X.prog X.w) k g fd ps (spV W ps.length fs)) (hl : ps.length = 1)
    (hr : Room j X.A) (hk : k + 1 ≤ j) (hb : Binds W.K fd ps []) (he : PX X W C Wx e f) (hab : attributeBase e x X.env (eval e X.env) = eval e X.env := by rfl) : PX X W C Wx (.Attribute e x pos) (sProp c0 fs m (sOp f)) := by
  have F' : FnOk X.prog X.w X.K X.mg X.base (L2.CX X.prog X.w) k g fd ps (spV W ps.length fs) := by rw [hK]; exact Fn
  refine PE.imp (pe_prop (E := fun _ _ _ => False) (dvs := []) (ds := []) (pxo he) (by rw [hK]; exact cl) (by rw [hK]; exact hp) F' (hr.mono hk) (by rw [hK]; exact hb) .nil (fun _ _ _ _ _ _ _ ⟨_, _, _, _, _, _, _, _, _, _, _, _, w⟩ => w.elim) hab) fun σ H Q ⟨F, S, w, mm⟩ => ⟨F, S, w, At.bind anti_hd mm fun op S1 v F1 H1 _ w1 e1 p1 m1 => ?_⟩
  cases q : op.get S1 with
  | none => simp only [q] at m1; exact m1.elim
  | some d =>
    simp only [q] at m1
    cases d with
    | ins c ns ds =>
      have m2 : At W C Wx σ (PHd W C) F1 H1 S1 (if c = c0 then noEx (fnOs fs [m] [] [op] S1) else .bad) Q := m1
      by_cases hc : c = c0
      · rw [if_pos hc] at m2
        subst hc
        obtain ⟨a, dx, gs, rfl, ha, _⟩ := ins_of_op p1 w1 (Same.refl _) q
        have pp : OpsR W F1 σ [op] [V.ref a] := OpsR.cons p1 .nil
        exact ⟨a, dx, gs, rfl, ha, at_call (Wx := fun _ _ _ _ => False) (ds := []) (dvs := []) (fun _ => .nil) (by rw [hl]; rfl) w1 pp (at_noEx m2)⟩
      · rw [if_neg hc] at m2; exact m2.elim
    | _ => exact m1.elim
variable {CX : CXT} {k j : Nat} {C0 fa : Addr} {fd : FuncData} {ps : List Str} {sp : Sp} {dvs : List V} {us0 : List Value} {E : L2.St → XK} {m : Str} {ta : TE} {t : TA}
def tMethS (C : Addr) (m : Str) (sp : Sp) (dvs : List V) (E : L2.St → XK) (ta : TE) (t : TA) : TE := fun σ H Q => ta σ H fun x H1 => ∃ a dx fs, x = .ref a ∧ H1 a = some (.ins C dx fs) ∧ fs.lookup m = none ∧
  t σ H1 fun vs H2 => sp (x :: (vs ++ dvs)) H2 Q (E σ)
theorem pe_methV {pl : PySem.Sem Bool} (he : PE X o ta) (c : Cls X.K C0) (hm : Meth X.K C0 m fa) (F : FnOk X.prog X.w X.K X.mg X.base CX k fa fd ps sp) (hr : Room k X.A) (hb : Binds X.K fd ps us0) (hd : Vals dvs us0) (hx : ∀ σ, PassesAt CX X σ (E σ)) (ha : PA X (e :: es) t)
    (hst : starEach (e :: es) X.env = (false, eval e X.env) :: starEach es X.env := by rfl) (hpl : (backTo pos (starEach es X.env)).any (·.1) = false := by rfl)
    (ht : eval (.Call (.Attribute o m apos) (e :: es) [] pos) X.env = (do
      let ov ← eval o X.env
      standAt apos.atName
      let (f, first) ← holding [ov] (getMethod ov m pl)
      callWith pos f first (backTo pos (starEach (e :: es) X.env)) (backToKw pos (keywordEach [] X.env))) := by rfl) :
    PE X (.Call (.Attribute o m apos) (e :: es) [] pos) (tMethS C0 m sp dvs E ta t) := by
  refine ⟨fun pins s σ H Q I h => ?_⟩
  refine PySem.W.methodCall_KW (pl := pl) (thn (he.run pins s σ H _ I h) fun u s1 ⟨x, H1, I1, rx, a, dx, fs, ex, ea, l, q⟩ => ?_) ht
  subst ex
  obtain rfl : u = Value.ref a := rx
  refine getmeth_ok I1 ea c hm l ?_
  refine PySem.W.callWith_K (first := [.ref a]) (h₀ := X.base) I.ok.mod.kin hm.kp (thn (ha.run pos pins s1 σ H1 _ I1 q) fun us s2 ⟨vs, H2, I2, r, q2⟩ => ⟨I2.kIn, ?_⟩) hst hpl
  exact run_fnSD (us := .ref a :: us) (vs := .ref a :: vs) F hr hb hd (hx σ) I2 (.cons rfl r) q2
theorem pe_methV0 {pl : PySem.Sem Bool} (he : PE X o ta) (c : Cls X.K C0) (hm : Meth X.K C0 m fa) (F : FnOk X.prog X.w X.K X.mg X.base CX k fa fd ps sp) (hr : Room k X.A) (hb : Binds X.K fd ps us0) (hd : Vals dvs us0) (hx : ∀ σ, PassesAt CX X σ (E σ))
    (ht : eval (.Call (.Attribute o m apos) [] [] pos) X.env = (do
      let ov ← eval o X.env
      standAt apos.atName
      let (f, first) ← holding [ov] (getMethod ov m pl)
      callWith pos f first (backTo pos (starEach [] X.env)) (backToKw pos (keywordEach [] X.env))) := by rfl) :
    PE X (.Call (.Attribute o m apos) [] [] pos) (tMethS C0 m sp dvs E ta tNil) := by
  refine ⟨fun pins s σ H Q I h => ?_⟩
  refine PySem.W.methodCall_KW (pl := pl) (thn (he.run pins s σ H _ I h) fun u s1 ⟨x, H1, I1, rx, a, dx, fs, ex, ea, l, q⟩ => ?_) ht
  subst ex
  obtain rfl : u = Value.ref a := rx
  refine getmeth_ok I1 ea c hm l ?_
  exact PySem.W.callWith_K0 (first := [.ref a]) I1.kIn hm.kp (run_fnSD (us := [.ref a]) (vs := [.ref a]) F hr hb hd (hx σ) I1 (.cons rfl .nil) q)
/-- o.m(..): jm the name's number -/
def sMeth (c0 jm : Nat) (fs : FS) (ms : List Md) (ds : List D) (f : Sem Op) (fa : Sem (List Op)) : Sem Hd := fun S => (f S).bind fun o S => match o.get S with
  | some (.ins c ns es) => if c = c0 then (match lookF jm ns es with
    | some _ => .bad
    | none => (fa S).bind fun os S => fnOs fs ms ds (o :: os) S) else .bad
  | _ => .bad
theorem px_meth (c0 jm : Nat) (ms : List Md) {pl : PySem.Sem Bool} {x : Str} {g : Addr} {fs : FS} {fg : Sem (List Op)} {ds : List D} (hK : X.K = W.K) (hi : Inj W) (hx : W.fnm jm = x) (cl : Cls W.K (W.cl c0)) (hm : Meth W.K (W.cl c0) x g) (Fn : FnOk X.prog X.w W.K X.mg X.base (L2.CX X.prog X.w) k g fd ps (spV W ps.length fs))
    (hr : Room j X.A) (hk : k ≤ j) (hb : Binds W.K fd ps us0) (hd : RepC W ds dvs) (hdv : Vals dvs us0) (hpw : PassW X Wx) (he : PX X W C Wx o f) (ha : PXa X W C Wx (e :: es) fg) (hl : ms.length + ds.length = ps.length)
    (hst : starEach (e :: es) X.env = (false, eval e X.env) :: starEach es X.env := by rfl) (hpl : (backTo pos (starEach es X.env)).any (·.1) = false := by rfl)
    (ht : eval (.Call (.Attribute o x apos) (e :: es) [] pos) X.env = (do
      let ov ← eval o X.env
      standAt apos.atName
      let (f, first) ← holding [ov] (getMethod ov x pl)
      callWith pos f first (backTo pos (starEach (e :: es) X.env)) (backToKw pos (keywordEach [] X.env))) := by rfl) :
    PX X W C Wx (.Call (.Attribute o x apos) (e :: es) [] pos) (sMeth c0 jm fs ms ds (sOp f) fg) := by
  have F' : FnOk X.prog X.w X.K X.mg X.base (L2.CX X.prog X.w) k g fd ps (spV W ps.length fs) := by rw [hK]; exact Fn
  refine PE.imp (pe_methV (E := WE Wx) (pxo he) (by rw [hK]; exact cl) (by rw [hK]; exact hm) F' (hr.mono hk) (by rw [hK]; exact hb) hdv hpw ha hst hpl ht) fun σ H Q ⟨F, S, w, mm⟩ => ⟨F, S, w, At.bind anti_hd mm fun op S1 v F1 H1 _ w1 e1 p1 m1 => ?_⟩
  cases q : op.get S1 with
  | none => simp only [q] at m1; exact m1.elim
  | some d =>
    simp only [q] at m1
    cases d with
    | ins c ns es' =>
      have m2 : At W C Wx σ (PHd W C) F1 H1 S1 (if c = c0 then (match lookF jm ns es' with
        | some _ => .bad
        | none => (fg S1).bind fun os S => fnOs fs ms ds (op :: os) S) else .bad) Q := m1
      by_cases hc : c = c0
      · rw [if_pos hc] at m2
        subst hc
        cases q2 : lookF jm ns es' with
        | some _ => simp only [q2] at m2; exact m2.elim
        | none =>
          simp only [q2] at m2
          obtain ⟨a, dx, gs, rfl, haa, F9, rf⟩ := ins_of_op p1 w1 (Same.refl _) q
          refine ⟨a, dx, gs, rfl, haa, by rw [← hx]; exact rf.none hi q2, F1, S1, w1, At.bind anti_hd m2 fun os S2 vs F2 H2 _ w2 e2 p2 m3 => ?_⟩
          have pp : OpsR W F2 σ (op :: os) (V.ref a :: vs) := OpsR.cons (W := W) (H := H1) (Hs := H1) (S := S1) (by
            cases op with
            | fz d => exact Rep.mono e2.fr p1
            | slot i => exact p1) p2
          exact at_call hd hl w2 pp m3
      · rw [if_neg hc] at m2; exact m2.elim
    | _ => exact m1.elim
def sMeth0 (c0 jm : Nat) (fs : FS) (ms : List Md) (ds : List D) (f : Sem Op) : Sem Hd := fun S => (f S).bind fun o S => match o.get S with
  | some (.ins c ns es) => if c = c0 then (match lookF jm ns es with
    | some _ => .bad
    | none => fnOs fs ms ds [o] S) else .bad
  | _ => .bad
theorem px_meth0 (c0 jm : Nat) (ms : List Md) {pl : PySem.Sem Bool} {x : Str} {g : Addr} {fs : FS} {ds : List D} (hK : X.K = W.K) (hi : Inj W) (hx : W.fnm jm = x) (cl : Cls W.K (W.cl c0)) (hm : Meth W.K (W.cl c0) x g) (Fn : FnOk X.prog X.w W.K X.mg X.base (L2.CX X.prog X.w) k g fd ps (spV W ps.length fs))
    (hr : Room j X.A) (hk : k ≤ j) (hb : Binds W.K fd ps us0) (hd : RepC W ds dvs) (hdv : Vals dvs us0) (hpw : PassW X Wx) (he : PX X W C Wx o f) (hl : ms.length + ds.length = ps.length)
    (ht : eval (.Call (.Attribute o x apos) [] [] pos) X.env = (do
      let ov ← eval o X.env
      standAt apos.atName
      let (f, first) ← holding [ov] (getMethod ov x pl)
      callWith pos f first (backTo pos (starEach [] X.env)) (backToKw pos (keywordEach [] X.env))) := by rfl) :
    PX X W C Wx (.Call (.Attribute o x apos) [] [] pos) (sMeth0 c0 jm fs ms ds (sOp f)) := by
  have F' : FnOk X.prog X.w X.K X.mg X.base (L2.CX X.prog X.w) k g fd ps (spV W ps.length fs) := by rw [hK]; exact Fn
  refine PE.imp (pe_methV0 (E := WE Wx) (pxo he) (by rw [hK]; exact cl) (by rw [hK]; exact hm) F' (hr.mono hk) (by rw [hK]; exact hb) hdv hpw ht) fun σ H Q ⟨F, S, w, mm⟩ => ⟨F, S, w, At.bind anti_hd mm fun op S1 v F1 H1 _ w1 e1 p1 m1 => ?_⟩
  cases q : op.get S1 with
  | none => simp only [q] at m1; exact m1.elim
  | some d =>
    simp only [q] at m1
    cases d with
    | ins c ns es' =>
      have m2 : At W C Wx σ (PHd W C) F1 H1 S1 (if c = c0 then (match lookF jm ns es' with
        | some _ => .bad
        | none => fnOs fs ms ds [op] S1) else .bad) Q := m1
      by_cases hc : c = c0
      · rw [if_pos hc] at m2
        subst hc
        cases q2 : lookF jm ns es' with
        | some _ => simp only [q2] at m2; exact m2.elim
        | none =>
          simp only [q2] at m2
          obtain ⟨a, dx, gs, rfl, haa, F9, rf⟩ := ins_of_op p1 w1 (Same.refl _) q
          refine ⟨a, dx, gs, rfl, haa, by rw [← hx]; exact rf.none hi q2, ?_⟩
          exact at_call (vs := [V.ref a]) hd hl w1 (OpsR.cons p1 .nil) m2
      · rw [if_neg hc] at m2; exact m2.elim
    | _ => exact m1.elim
end

/-! ### new instances -/
section
variable {W : Wo} {C : Fr} {F H F' H' : Hp} {S S' : Sl} {σ : Sg} {d : D} {v : V}
theorem snoc_get {α : Type} {l : List α} {x y : α} {i : Nat} (h : (l ++ [x])[i]? = some y) : (i < l.length ∧ l[i]? = some y) ∨ (i = l.length ∧ y = x) := by
  by_cases hi : i < l.length
  · rw [List.getElem?_append_left hi] at h; exact .inl ⟨hi, h⟩
  · rw [List.getElem?_append_right (by omega)] at h
    cases q : i - l.length with
    | zero => rw [q] at h; simp at h; exact .inr ⟨by omega, h.symm⟩
    | succ n => rw [q] at h; simp at h
theorem snoc_last {α : Type} {l : List α} {x : α} : (l ++ [x])[l.length]? = some x := by
  rw [List.getElem?_append_right (Nat.le_refl _), Nat.sub_self]; rfl
theorem Wd.snoc {Hs : Hp} (w : Wd W C F S σ H) (t : Tmp W C Hs F H S σ d v) : Wd W C F (S ++ [.ow d]) (σ ++ [some v]) H := by
  obtain ⟨a, rfl, n, z, h0, hs, sp⟩ := t
  have so : ∀ {i : Nat}, i < S.length → (σ ++ [some (V.ref a)])[i]? = σ[i]? := fun {i} h => List.getElem?_append_left (by rw [← w.len]; exact h)
  have sl : (σ ++ [some (V.ref a)])[S.length]? = some (some (V.ref a)) := by rw [w.len]; exact snoc_last
  exact {
    sub := w.sub, f0 := w.f0, new := w.new, keep := w.keep, live := w.live
    len := by rw [List.length_append, List.length_append, w.len]; rfl
    slot := fun i s h => by
      rcases snoc_get h with ⟨hi, h⟩ | ⟨rfl, rfl⟩
      · rw [so hi]; exact w.slot i s h
      · rw [sl]; exact ⟨a, rfl, n, z⟩
    own := fun i d' b h e => by
      rcases snoc_get h with ⟨hi, h⟩ | ⟨rfl, q⟩
      · rw [so hi] at e; exact w.own i d' b h e
      · rw [sl] at e; cases e; exact h0
    ios := fun i d' b h e => by
      rcases snoc_get h with ⟨hi, h⟩ | ⟨rfl, q⟩
      · rw [so hi] at e; exact w.ios i d' b h e
      · cases q
    sep := fun i j s t b ne h1 hw e1 h2 e2 m => by
      rcases snoc_get h1 with ⟨hi, h1⟩ | ⟨rfl, q1⟩
      · rw [so hi] at e1
        rcases snoc_get h2 with ⟨hj, h2⟩ | ⟨rfl, q2⟩
        · rw [so hj] at e2; exact w.sep i j s t b ne h1 hw e1 h2 e2 m
        · rw [sl] at e2; cases e2
          exact sp i s h1 e1 (Slot.wr_mut hw)
      · rw [sl] at e1; cases e1
        rcases snoc_get h2 with ⟨hj, h2⟩ | ⟨rfl, q2⟩
        · rw [so hj] at e2; exact sp j t h2 e2 m
        · exact ne rfl
    bos := fun i d' b h e nr => by
      rcases snoc_get h with ⟨hi, h⟩ | ⟨_, q⟩
      · rw [so hi] at e; exact w.bos i d' b h e nr
      · cases q
    er := fun x h1 h2 => by
      rcases snoc_get h2 with ⟨hi, h2⟩ | ⟨_, q⟩
      · rw [so hi]; exact w.er x h1 h2
      · cases q }
theorem Wd.unsnoc {S' : Sl} {a : Addr} (w : Wd W C F S' (σ ++ [some (V.ref a)]) H) (h : S'[σ.length]? = some (.ow d)) : Wd W C F (S'.take σ.length) σ H ∧ F a = none ∧ OwnAt W F H d a ∧ C.H0 a = none ∧ NotMut W F (S'.take σ.length) σ a := by
  have g : ∀ {i : Nat} {s : Slot}, (S'.take σ.length)[i]? = some s → i < σ.length ∧ S'[i]? = some s := fun {i s} h => by
    have hi := (List.getElem?_eq_some_iff.mp h).1
    rw [List.length_take] at hi
    have hi2 : i < σ.length := by omega
    rw [List.getElem?_take_of_lt hi2] at h
    exact ⟨hi2, h⟩
  have so : ∀ {i : Nat}, i < σ.length → (σ ++ [some (V.ref a)])[i]? = σ[i]? := fun {i} h => List.getElem?_append_left h
  have hl : S'.length = σ.length + 1 := by rw [w.len, List.length_append]; rfl
  obtain ⟨b, eb, n, z⟩ := w.slot _ _ h
  rw [snoc_last] at eb; cases eb
  refine ⟨{
    sub := w.sub, f0 := w.f0, new := w.new, keep := w.keep, live := w.live
    len := by rw [List.length_take, hl]; omega
    slot := fun i s h => by
      obtain ⟨hi, h⟩ := g h
      have q := w.slot i s h
      rw [so hi] at q
      exact q
    own := fun i d' b h e => by
      obtain ⟨hi, h⟩ := g h
      exact w.own i d' b h (by rw [so hi]; exact e)
    ios := fun i d' b h e => by
      obtain ⟨hi, h⟩ := g h
      exact w.ios i d' b h (by rw [so hi]; exact e)
    sep := fun i j s t b ne h1 hw e1 h2 e2 m => by
      obtain ⟨hi, h1⟩ := g h1
      obtain ⟨hj, h2⟩ := g h2
      exact w.sep i j s t b ne h1 hw (by rw [so hi]; exact e1) h2 (by rw [so hj]; exact e2) m
    bos := fun i d' b h e nr => by
      obtain ⟨hi, h⟩ := g h
      exact w.bos i d' b h (by rw [so hi]; exact e) nr
    er := fun x h1 h2 => by
      obtain ⟨hi, h2⟩ := g h2
      have q := w.er x h1 h2
      rw [so hi] at q
      exact q }, n, z, w.own _ _ _ h snoc_last, fun i s h e m => ?_⟩
  obtain ⟨hi, h'⟩ := g h
  exact w.sep σ.length i _ s a (Nat.ne_of_gt hi) ‹S'[σ.length]? = some (.ow d)› rfl snoc_last h' (by rw [so hi]; exact e) m
end
theorem OpsR.snoc {W : Wo} {F : Hp} {σ : Sg} {x : Option V} : ∀ {os : List Op} {vs : List V}, OpsR W F σ os vs → OpsR W F (σ ++ [x]) os vs
  | _, _, .nil => .nil
  | _, _, .fz r t => .fz r (OpsR.snoc t)
  | _, _, .slot h t => .slot (by rw [List.getElem?_append_left (List.getElem?_eq_some_iff.mp h).1]; exact h) (OpsR.snoc t)
def sMake (c : Nat) (f : FS) (ms : List Md) (ds : List D) (fs : Sem (List Op)) : Sem Hd := fun S => (fs S).bind fun os S1 => match fnOs f (.io :: ms) ds (.slot S1.length :: os) (S1 ++ [.ow (.ins c [] [])]) with
  | .ok (.fz .non) S3 => (match S3[S1.length]? with
    | some (.ow d) => .ok (.own d) (S3.take S1.length)
    | _ => .bad)
  | .ex x S3 => (match S3[S1.length]? with
    | some (.ow _) => .ex x (S3.take S1.length)
    | _ => .bad)
  | _ => .bad
section
variable {X : Cx} {W : Wo} {C : Fr} {Wx : WX} {CX : CXT} {k j : Nat} {C0 fa : Addr} {fd : FuncData} {ps : List Str} {sp : Sp} {dvs : List V} {us0 : List Value} {E : L2.St → XK} {x : Str} {p pos : Pos} {e : Expr} {es : List Expr} {t : TA}
def tMakeS (C : Addr) (sp : Sp) (dvs : List V) (E : L2.St → XK) (t : TA) : TE := fun σ H Q => t σ H fun vs H1 => ∀ x dx, H1 x = none → H1 dx = none → dx ≠ x →
  sp (.ref x :: (vs ++ dvs)) (upd (upd H1 dx (.own x)) x (.ins C dx [])) (fun v H2 => v = .non ∧ Q (.ref x) H2) (E σ)
theorem pe_makeV (M : Mk X.K C0 fa) (F : FnOk X.prog X.w X.K X.mg X.base CX k fa fd ps sp) (hr : Room (k + 1) X.A) (hg : Gl X x) (hm : X.mg x = some (.ref C0)) (hb : Binds X.K fd ps us0) (hd : Vals dvs us0) (hx : ∀ σ, PassesAt CX X σ (E σ))
    (ha : PA X (e :: es) t) (hdb : (x == ("__debug__" : Str)) = false := by decide) (he : starEach (e :: es) X.env = (false, eval e X.env) :: starEach es X.env := by rfl) (hpl : (backTo pos (starEach es X.env)).any (·.1) = false := by rfl) :
    PE X (.Call (.Name x p) (e :: es) [] pos) (tMakeS C0 sp dvs E t) := by
  refine ⟨fun pins s σ H Q I0 h0 => ?_⟩
  refine wpAny_Call_Name_kw (ld_glob I0 hg hm ?_ hdb)
  refine PySem.W.callWith_K (h₀ := X.base) I0.ok.mod.kin M.kp (thn (ha.run pos pins s σ H _ I0 h0) fun us s1 ⟨vs, H1, I, r, h⟩ => ⟨I.kIn, ?_⟩) he hpl
  have hq := h (s1.heap.objs.size + 1) s1.heap.objs.size (I.hok.fresh (Nat.le_succ _)) (I.hok.fresh (Nat.le_refl _)) (Nat.ne_of_lt (Nat.lt_succ_self _))
  have I2 := Inv.made (C := C0) I
  have r2 : Vals (V.ref (s1.heap.objs.size + 1) :: (vs ++ dvs)) (Value.ref (s1.heap.objs.size + 1) :: (us ++ us0)) := .cons rfl (r.append hd)
  have hl : (Value.ref (s1.heap.objs.size + 1) :: us ++ us0).length = ps.length := by
    have e := r2.length
    rw [F.len _ _ _ _ hq] at e
    exact e.symm
  refine wpAny_call (make_map (f := fa) I.kIn M.makes M.init (beq_iff_eq.mp M.fn) (codeAny_mono (F.run _ X.stack _ _ ⟨Value.ref (s1.heap.objs.size + 1) :: us, []⟩ (Value.ref (s1.heap.objs.size + 1) :: (us ++ us0)) _ _ (E σ) (hr.make C0 us [])
    (I2.env0.make C0 us []) (hb _ (Value.ref (s1.heap.objs.size + 1) :: us) I2.kIn hl) r2 hq) fun r s' hq' => ?_))
  cases r with
  | error e => exact hx σ pins _ _ e s' I2 hq'
  | ok fl =>
    cases fl with
    | ret u =>
      obtain ⟨v, H', I3, rv, ev, q3⟩ := I2.after hq'
      subst ev
      exact ⟨rv, ⟨V.ref (s1.heap.objs.size + 1), H', I3, rfl, q3⟩⟩
    | next => exact False.elim hq'
    | brk => exact False.elim hq'
    | cont => exact False.elim hq'
/-- C(..) -/
theorem px_make (c : Nat) (ms : List Md) {fs : FS} {fg : Sem (List Op)} {ds : List D} (hK : X.K = W.K) (M : Mk W.K (W.cl c) fa) (Fn : FnOk X.prog X.w W.K X.mg X.base (L2.CX X.prog X.w) k fa fd ps (spV W ps.length fs)) (hr : Room j X.A) (hk : k + 1 ≤ j) (hm : X.mg x = some (.ref (W.cl c))) (hb : Binds W.K fd ps us0) (hd : RepC W ds dvs) (hdv : Vals dvs us0)
    (hpw : PassW X Wx) (ha : PXa X W C Wx (e :: es) fg) (hl : ms.length + 1 + ds.length = ps.length) (hg : Gl X x := by rfl) (hdb : (x == ("__debug__" : Str)) = false := by decide) (he : starEach (e :: es) X.env = (false, eval e X.env) :: starEach es X.env := by rfl) (hpl : (backTo pos (starEach es X.env)).any (·.1) = false := by rfl) :
    PX X W C Wx (.Call (.Name x p) (e :: es) [] pos) (sMake c fs ms ds fg) := by
  have F' : FnOk X.prog X.w X.K X.mg X.base (L2.CX X.prog X.w) k fa fd ps (spV W ps.length fs) := by rw [hK]; exact Fn
  refine PE.imp (pe_makeV (E := WE Wx) (by rw [hK]; exact M) F' (hr.mono hk) hg hm (by rw [hK]; exact hb) hdv hpw ha hdb he hpl) fun σ H Q ⟨F, S, w, mm⟩ => ⟨F, S, w, At.bind anti_hd mm fun os S1 vs F1 H1 _ w1 e1 p1 m1 => fun a dx na nd ne => ?_⟩
  -- the new instance
  have x1 := Ext.allocO (o := .own a) w1.sub nd
  have na2 : upd H1 dx (.own a) a = none := by rw [upd_ne (Ne.symm ne)]; exact na
  have x2 := Ext.allocO (o := .ins (W.cl c) dx []) x1.sub na2
  have ex := x1.trans x2
  have w2 := w1.ext ex
  have tm : Tmp W C H1 F1 (upd (upd H1 dx (.own a)) a (.ins (W.cl c) dx [])) S1 σ (.ins c [] []) (V.ref a) := w1.tmp na ex ⟨dx, [], upd_same, .nil⟩ (w1.sub.free na)
  have w3 := w2.snoc tm
  have nm : NotMut W F1 S1 σ a := by
    obtain ⟨b, eb, _, _, _, _, sp⟩ := tm
    cases eb
    exact sp
  have pp : OpsR W F1 (σ ++ [some (V.ref a)]) (.slot S1.length :: os) (V.ref a :: vs) := by
    exact .slot (by rw [w1.len]; exact snoc_last) (OpsR.snoc p1)
  refine at_call (Wx := fun cls d _ H => Wx cls d σ H) (f := fs) (ms := .io :: ms) (ds := ds) (vs := V.ref a :: vs) hd (by rw [List.length_cons]; exact hl) w3 pp ?_
  show At W C (fun cls d _ H => Wx cls d σ H) (σ ++ [some (V.ref a)]) (PHd W C) F1 _ (S1 ++ [.ow (.ins c [] [])]) (fnOs fs (.io :: ms) ds (.slot S1.length :: os) (S1 ++ [.ow (.ins c [] [])])) _
  cases r : fnOs fs (.io :: ms) ds (.slot S1.length :: os) (S1 ++ [.ow (.ins c [] [])]) with
  | bad => simp only [r] at m1; exact m1.elim
  | ex xx S3 =>
    simp only [r] at m1
    cases q : S3[S1.length]? with
    | none => simp only [q] at m1; exact m1.elim
    | some s =>
      simp only [q] at m1
      cases s with
      | ow d =>
        intro cls dx' F' H' w4 s4 xo
        obtain ⟨w5, _⟩ := w4.unsnoc (by rw [← w1.len]; exact q)
        rw [← w1.len] at w5
        exact m1 cls dx' F' H' w5 s4 xo
      | _ => exact m1.elim
  | ok hd S3 =>
    simp only [r] at m1
    cases hd with
    | fz d =>
      cases d with
      | non =>
        intro v F' H' w4 e4 p4
        have p5 : Rep W F' .non v := p4
        cases p5
        refine ⟨rfl, ?_⟩
        cases q : S3[S1.length]? with
        | none => simp only [q] at m1; exact m1.elim
        | some s =>
          simp only [q] at m1
          cases s with
          | ow d =>
            obtain ⟨w5, n5, z5, h5, nm5⟩ := w4.unsnoc (by rw [← w1.len]; exact q)
            rw [← w1.len] at w5 nm5
            have nmx : ∀ b, b ≠ a → NotMut W F1 S1 σ b → NotMut W F1 (S1 ++ [.ow (.ins c [] [])]) (σ ++ [some (V.ref a)]) b := fun b hb n i s h e m => by
              rcases snoc_get h with ⟨hi, h⟩ | ⟨rfl, q⟩
              · rw [List.getElem?_append_left (by rw [← w1.len]; exact hi)] at e
                exact n i s h e m
              · rw [w1.len, snoc_last] at e
                cases e
                exact hb rfl
            refine m1 (.ref a) F' H' w5 ⟨e4.fr, fun b o hb n => ?_, fun b hb => e4.live b (Same.live ex.hr hb), fun b f1 hb n => ?_, fun b n => ?_⟩ ⟨a, rfl, n5, z5, h5, na, nm5⟩
            · refine e4.keep b o (ex.hr b o hb) (nmx b (fun z => ?_) n)
              rw [z, na] at hb; cases hb
            · refine e4.fnew b f1 (Same.live ex.hr hb) (nmx b (fun z => ?_) n)
              rw [z] at hb; exact hb na
            · by_cases hb : b = a
              · rw [hb]; exact nm5
              · have z := e4.sh b (nmx b hb n)
                intro i s h e m
                have hi := (List.getElem?_eq_some_iff.mp h).1
                rw [List.length_take] at hi
                have hi2 : i < S1.length := by omega
                rw [List.getElem?_take_of_lt hi2] at h
                exact z i s h (by rw [List.getElem?_append_left (by rw [← w1.len]; exact hi2)]; exact e) m
          | _ => exact m1.elim
      | _ => exact m1.elim
    | _ => exact m1.elim
end
end VL

set_option Elab.async false
set_option linter.all false
set_option maxRecDepth 100000
set_option maxHeartbeats 4000000

/-! ### own exception classes over Exception -/
namespace PySem
namespace VLX
open Builtin Builtin.ObjectAttr PySem.W PySem.Calls PyProof.Rows PySem.HandSPX
abbrev xtT : List Value := [.type "Exception", .type "BaseException", .type "object"]
def refsXT : List Value → Bool
  | .ref _ :: r => refsXT r
  | l => l == xtT
theorem refsXT_cases : ∀ l : List Value, refsXT l = true → (∃ c r, l = .ref c :: r ∧ refsXT r = true) ∨ l = xtT
  | [], e => .inr (beq_iff_eq.mp e)
  | v :: r, e => by
    cases v with
    | ref c => exact .inl ⟨c, r, rfl, e⟩
    | _ => exact .inr (beq_iff_eq.mp e)
theorem refsXT_pass (self : Value) : ∀ l : List Value, refsXT l = true → refuseLoop self "__setattr__" l = pure () := by
  intro l
  induction l with
  | nil => intro e; exact absurd e (by decide)
  | cons a r ih =>
    intro e
    rcases refsXT_cases (a :: r) e with ⟨c, r', q, h⟩ | q
    · obtain ⟨rfl, rfl⟩ := List.cons.inj q
      rw [refuseLoop_ref]; exact ih h
    · rw [q]; exact F.store_Exception.passes self
theorem refsXT_contains (X : String) : ∀ l : List Value, refsXT l = true → l.contains (.type X) = xtT.contains (.type X) := by
  intro l
  induction l with
  | nil => intro e; exact absurd e (by decide)
  | cons a r ih =>
    intro e
    rcases refsXT_cases (a :: r) e with ⟨c, r', q, h⟩ | q
    · obtain ⟨rfl, rfl⟩ := List.cons.inj q
      rw [List.contains_cons, ih h]; rfl
    · rw [q]
theorem refsXT_ne {l : List Value} (e : refsXT l = true) : l.isEmpty = false := by
  cases l with
  | nil => exact absurd e (by decide)
  | cons _ _ => rfl
section
variable {prog : Program} {w : World} {A : Around} {R : Result → Shared → Prop} {hp : Heap} {g : Array GenState} {d : Drawn} {t : Nat} {os : OsState}
theorem osa_first {K : W.Frag} {name : Str} {tk : Tok} {v : Value} {x C : Addr} {fv : Array Value} {cd : ClassData}
    (X : K.In hp) (hx : hp.get? x = some { cls := .ref C, data := .fields fv }) (hcd : W.clsIn K C = some cd) (hm : refsXT cd.mro = true) (hh : cd.hasDict = true) (ha : W.findIn K (.ref C) name = some none)
    (hq : ∀ h' tk' dx, (∀ b o, b ≠ x → hp.get? b = some o → h'.get? b = some o) → hp.objs.size ≤ dx → dx ≠ x → h'.get? x = some { cls := .ref C, dict := some dx, data := .fields fv } →
      h'.Ns1 dx (fun y => if y = name then some v else none) → R (.ok (.ret .none)) ⟨h', g, d, tk', os⟩) :
    codeAny (model prog w) A (.call (.builtin "object.__setattr__") ⟨[.ref x, .str name tk, v], []⟩) R ⟨hp, g, d, t, os⟩ := by
  have I : W.InstAt hp x { cls := .ref C, data := .fields fv } C none := ⟨hx, rfl, rfl, trivial⟩
  have SF := F.store_object
  have ne := refsXT_ne hm
  have hob : cd.mro.contains (.type "object") = true := (refsXT_contains "object" _ hm).trans (by decide +kernel)
  have hxs : x ≠ hp.objs.size := Nat.ne_of_lt (Heap.lt_size hx)
  have sub : W.Looks (model prog w) hp (isInstance (.ref x) (.type "object")) true := I.type.andThen (W.looks_mroIn X (by unfold W.mroIn; rw [hcd, Option.bind_some, if_neg (by rw [ne]; decide), hob]))
  refine codeAny_call_builtin SF.slot.plain SF.entry (@W.check_slot (model prog w) _ _ ⟨hp, g, d, t, os⟩ "object.__setattr__" "object" "__setattr__" (.ref x) [.str name tk, v] [] _ SF.kind SF.split sub (SF.args (.ref x) (.str name tk) v) ?_)
  have hmr : W.Looks (model prog w) hp (mroOf (.ref C)) cd.mro := (W.looks_clsIn X hcd).andThen .now
  have L3 : W.Looks (model prog w) hp (storeTaker? none) none := .now
  have hcls : W.Looks (model prog w) hp (classData C) cd := W.looks_clsIn X hcd
  rw [W.osa_eq, refuse_eq]
  refine wpAny_bind (wpAny_bind (I.type.at (wpAny_bind (hmr.at ?_))))
  rw [refsXT_pass _ _ hm]
  refine wpAny_pure (wpAny_bind (I.type.at (wpAny_bind ((W.looks_findIn X ha).at (wpAny_bind (L3.at ?_))))))
  show wpAny _ _ (storeInOwnDict (.ref x) (.ref C) (.str name tk) name v false) _ _ _
  obtain ⟨nm, bs, mro, ns, qn, hd, sn, sb, ab, col, del⟩ := cd
  dsimp only at hh
  subst hh
  unfold storeInOwnDict ownDictForStores
  repeat (first | with_reducible refine store_in_new ?_ ?_ | with_reducible refine wpAny_loadPart_at hx ?_ | with_reducible refine hcls.at ?_ | wp_step)
  · exact ⟨_, #[], _, (Heap.get?_update_ne _ _ _ _ hxs.symm).trans (Heap.get?_push_at rfl rfl), rfl, fun e he => absurd he (by simp), fun _ => rfl⟩
  · intro h' tk' hn' hs
    have hx₁ : (hp.push { cls := .type "dict", data := .dict #[] }).get? x = some { cls := .ref C, data := .fields fv } := Heap.get?_push_of_some _ hx
    refine hq h' tk' hp.objs.size (fun b o hb ho => ?_) (Nat.le_refl _) hxs.symm ?_ hn'
    · exact (hs.2 b (Nat.ne_of_lt (Heap.lt_size ho))).trans ((Heap.get?_update_ne _ _ _ _ hb).trans (Heap.get?_push_of_some _ ho))
    · exact (hs.2 x hxs).trans (Heap.get?_update_self _ hx₁ rfl)
theorem osa_next {K : W.Frag} {name : Str} {tk : Tok} {v : Value} {x C dx : Addr} {fv : Array Value} {cd : ClassData} {m0 : Str → Option Value} {nl : List Str}
    (X : K.In hp) (hx : hp.get? x = some { cls := .ref C, dict := some dx, data := .fields fv }) (hns : hp.Ns1 dx m0) (hw : Within m0 nl) (hz : nl.length ≤ 1000) (hcd : W.clsIn K C = some cd) (hm : refsXT cd.mro = true) (hh : cd.hasDict = true)
    (ha : W.findIn K (.ref C) name = some none)
    (hq : ∀ h' tk', (∀ b o, b ≠ dx → hp.get? b = some o → h'.get? b = some o) → h'.Ns1 dx (fun y => if y = name then some v else m0 y) → R (.ok (.ret .none)) ⟨h', g, d, tk', os⟩) :
    codeAny (model prog w) A (.call (.builtin "object.__setattr__") ⟨[.ref x, .str name tk, v], []⟩) R ⟨hp, g, d, t, os⟩ := by
  obtain ⟨oD, esD, epD, hoD, hdD, _⟩ := hns.count hw
  have I : W.InstAt hp x { cls := .ref C, dict := some dx, data := .fields fv } C (some oD) := ⟨hx, rfl, rfl, hoD⟩
  have SF := F.store_object
  have ne := refsXT_ne hm
  have hob : cd.mro.contains (.type "object") = true := (refsXT_contains "object" _ hm).trans (by decide +kernel)
  have sub : W.Looks (model prog w) hp (isInstance (.ref x) (.type "object")) true := I.type.andThen (W.looks_mroIn X (by unfold W.mroIn; rw [hcd, Option.bind_some, if_neg (by rw [ne]; decide), hob]))
  refine codeAny_call_builtin SF.slot.plain SF.entry (@W.check_slot (model prog w) _ _ ⟨hp, g, d, t, os⟩ "object.__setattr__" "object" "__setattr__" (.ref x) [.str name tk, v] [] _ SF.kind SF.split sub (SF.args (.ref x) (.str name tk) v) ?_)
  have hmr : W.Looks (model prog w) hp (mroOf (.ref C)) cd.mro := (W.looks_clsIn X hcd).andThen .now
  have L3 : W.Looks (model prog w) hp (storeTaker? none) none := .now
  have hcls : W.Looks (model prog w) hp (classData C) cd := W.looks_clsIn X hcd
  rw [W.osa_eq, refuse_eq]
  refine wpAny_bind (wpAny_bind (I.type.at (wpAny_bind (hmr.at ?_))))
  rw [refsXT_pass _ _ hm]
  refine wpAny_pure (wpAny_bind (I.type.at (wpAny_bind ((W.looks_findIn X ha).at (wpAny_bind (L3.at ?_))))))
  show wpAny _ _ (storeInOwnDict (.ref x) (.ref C) (.str name tk) name v false) _ _ _
  obtain ⟨nm, bs, mro, ns, qn, hd, sn, sb, ab, col, del⟩ := cd
  dsimp only at hh
  subst hh
  unfold storeInOwnDict ownDictForStores
  repeat (first | with_reducible refine PySem.OEX.store_in_old hns hw hz ?_ | with_reducible refine wpAny_loadPart_at hx ?_ | with_reducible refine hcls.at ?_ | wp_step)
  intro h' tk' hn' hs
  exact hq h' tk' (fun b o hb ho => (hs.2 b hb).trans ho) hn'
end
end VLX
end PySem

namespace VL
open PySem PySem.Spec PyProof.Rows L2
/-- what the written part says of such a class -/
structure XtC (K : PySem.W.Frag) (C : Addr) : Prop where
  cls : ∃ nm q N bs bm sn sub ab col dd k0 k1 k2 k3 k5, K.lookup C = some (excClassObj nm q C N bs bm true sn sub ab col dd k0 k1 k2 k3 k5 "Exception.__new__") ∧ PySem.VLX.refsXT bm = true
  sa : PySem.W.findIn K (.ref C) "__setattr__" = some (some (.builtin "object.__setattr__"))
  exC : PySem.W.subIn K (.ref C) (.type "BaseException") = some true
  tyC : PySem.W.typeIn K (.ref C) = some (.type "type")
  kC : PySem.W.keepIn K (.ref C) = true
section
variable {X : Cx} {pins : List (Addr × Obj)} {σ : L2.St} {H : Hp} {s : Shared} {a C dx : Addr} {f : Str} {y : V} {u : Value} {fs : List (Str × V)} {Q : Unit → Shared → Prop} {E : Value → Shared → Prop} {A : Around}
theorem xst_new (T : XtC X.K C) (I : Inv X pins σ H s) (e : H a = some (exo a C none)) (hno : PySem.W.findIn X.K (.ref C) f = some none) (ry : RelV y u)
    (h : ∀ dx s', H dx = none → dx ≠ a → Inv X pins σ (upd (upd H dx (exd dx [(f, y)])) a (exo a C (some dx))) s' → Q () s') : wpAny (model X.prog X.w) A (setAttr (.ref a) f u) Q E s := by
  obtain ⟨nm, q, N, bs, bm, sn, sub, ab, col, dd, k0, k1, k2, k3, k5, hC, hbm⟩ := T.cls
  have hcl : PySem.W.clsIn X.K C = some { name := nm, bases := bs, mro := .ref C :: bm, ns := N, qualname := q, hasDict := true, slotNames := sn, subclasses := sub, abstract := ab, collection := col, hasDel := false } := by unfold PySem.W.clsIn; rw [hC] <;> rfl
  obtain ⟨t1, ho⟩ := exo_at I.hok e
  obtain ⟨hp, g, d, t, os⟩ := s
  refine PySem.W.set_plain I.kIn (ox := { cls := .ref C, dict := none, data := .fields #[.ref t1, .none, .none, .none, .bool false, .none] }) (od := none) ⟨ho, rfl, rfl, trivial⟩ T.sa ?_
  refine PySem.VLX.osa_first I.kIn ho hcl (show PySem.VLX.refsXT (.ref C :: bm) = true from hbm) rfl hno (fun h' tk' dx k dn dne hx hn => ?_)
  have hnd : H dx = none := I.hok.fresh dn
  have nd : ∀ {b : Addr} {o : Obj}, hp.get? b = some o → b ≠ dx := fun {b o} q => Nat.ne_of_lt (Nat.lt_of_lt_of_le (Heap.lt_size q) dn)
  have na : ∀ {b : Addr}, H b = none → b ≠ a := fun {b} n z => by
    rw [z, e] at n
    cases n
  have Un1 : Un X.fs [] H (upd (upd H dx (exd dx [(f, y)])) a (exo a C (some dx))) hp h' := {
    keep := fun b o q n _ _ => k b o (na n) q
    slot := fun b o q n _ _ => ⟨o.slots, k b o (na n) q⟩
    free := fun b o q n _ => by rw [upd_ne (na n), upd_ne (nd q)]; exact n
    there := fun b o q _ => by
      by_cases hb : b = a
      · exact ⟨_, by rw [hb]; exact hx⟩
      · exact ⟨o, k b o hb q⟩
    tups := fun b xs q => by rw [upd_ne (at_ne e q exo_tup), upd_ne (ne_of_none q hnd)]; exact q
    frzs := fun b o v q => by rw [upd_ne (at_ne e q exo_frz), upd_ne (ne_of_none q hnd)]; exact q
    tbls := fun b ps q => ⟨#[], by rw [upd_ne (at_ne e q exo_tbl), upd_ne (ne_of_none q hnd), q]; simp⟩ }
  refine h dx _ hnd dne (I.un (t' := tk') Un1 fun b o q => ?_)
  by_cases hb : b = a
  · subst hb
    rw [upd_same] at q
    cases q
    exact exo_ok hx
  · rw [upd_ne hb] at q
    by_cases hd : b = dx
    · subst hd
      rw [upd_same] at q
      cases q
      exact exd_ok hn (relO_put (fs := []) ry fun g => True.intro)
    · rw [upd_ne hd] at q
      exact (I.hok b o q).stay (fun c v hc z => k c v (by
          rcases hc with hc | hc
          · rw [hc]
            exact hb
          · exact at_ne e hc exo_own) z)
        (fun c hc => by rw [upd_ne (at_ne e hc exo_own), upd_ne (ne_of_none hc hnd)]; exact hc) (fun c xs hc => by rw [upd_ne (at_ne e hc exo_tup), upd_ne (ne_of_none hc hnd)]; exact hc)
theorem xst_old (T : XtC X.K C) (I : Inv X pins σ H s) (e : H a = some (exo a C (some dx))) (ed : H dx = some (exd dx fs)) (hl : fs.length ≤ 900) (hno : PySem.W.findIn X.K (.ref C) f = some none) (ry : RelV y u)
    (h : ∀ s', Inv X pins σ (upd H dx (exd dx ((f, y) :: fs))) s' → Q () s') : wpAny (model X.prog X.w) A (setAttr (.ref a) f u) Q E s := by
  obtain ⟨nm, q, N, bs, bm, sn, sub, ab, col, dd, k0, k1, k2, k3, k5, hC, hbm⟩ := T.cls
  have hcl : PySem.W.clsIn X.K C = some { name := nm, bases := bs, mro := .ref C :: bm, ns := N, qualname := q, hasDict := true, slotNames := sn, subclasses := sub, abstract := ab, collection := col, hasDel := false } := by unfold PySem.W.clsIn; rw [hC] <;> rfl
  obtain ⟨t1, ho⟩ := exo_at I.hok e
  obtain ⟨mA, hns, rel⟩ := exd_at I.hok ed
  have hw := within_of rel
  obtain ⟨hp, g, d, t, os⟩ := s
  obtain ⟨oD, _, _, hoD, _, _⟩ := hns.count hw
  refine PySem.W.set_plain I.kIn (ox := { cls := .ref C, dict := some dx, data := .fields #[.ref t1, .none, .none, .none, .bool false, .none] }) (od := some oD) ⟨ho, rfl, rfl, hoD⟩ T.sa ?_
  refine PySem.VLX.osa_next I.kIn ho hns hw (by rw [List.length_map]; omega) hcl (show PySem.VLX.refsXT (.ref C :: bm) = true from hbm) rfl hno (fun h' tk' k hn => ?_)
  have hd : ∃ o, h'.get? dx = some o := by
    obtain ⟨o, _, _, e', _⟩ := hn
    exact ⟨o, e'⟩
  exact h _ (I.write (t' := tk') (x := dx) (e := dx) (o := exd dx ((f, y) :: fs)) (by rw [ed]; exact True.intro) (.inl rfl) k hd (exd_ok hn (relO_put ry rel)))
end
/-- self.f = e of an exception that is being made -/
def tXst (K : PySem.W.Frag) (f : Str) (to te : TE) : TS := fun D σ H => te σ H fun y H1 => to σ H1 fun x H2 => ∃ a C : Addr, x = .ref a ∧ XtC K C ∧ PySem.W.findIn K (.ref C) f = some none ∧
  ((H2 a = some (exo a C none) ∧ ∀ dx, H2 dx = none → dx ≠ a → D.nx σ (upd (upd H2 dx (exd dx [(f, y)])) a (exo a C (some dx)))) ∨
    ∃ (dx : Addr) (fs : List (Str × V)), H2 a = some (exo a C (some dx)) ∧ H2 dx = some (exd dx fs) ∧ fs.length ≤ 900 ∧ D.nx σ (upd H2 dx (exd dx ((f, y) :: fs))))
section
variable {X : Cx} {o e : Expr} {es : List Expr} {to te : TE} {ta : TA} {f : Str} {p p' p1 p2 pos : Pos}
theorem ps_xst (ho : PE X o to) (he : PE X e te) (hs : swapsWith e (some (.Attribute o f p')) pos.line X.env = pure false := by rfl) : PS X (.Assign [.Attribute o f p'] e pos) (tXst X.K f to te) := by
  refine ⟨fun pins s σ H D I h => ?_⟩
  refine plainObj_wpAny_Assign_Attribute (thn (he.run pins s σ H _ I h) fun v s1 ⟨y, H1, I1, r1, q1⟩ => thn (ho.run pins s1 σ H1 _ I1 q1) fun u s2 ⟨x, H2, I2, r2, a, C, ex, T, hno, q⟩ => ?_) hs
  subst ex
  obtain rfl : u = Value.ref a := r2
  rcases q with ⟨ea, q⟩ | ⟨dx, fs, ea, ed, hl, q⟩
  · exact xst_new T I2 ea hno r1 fun dx s' n ne J => ⟨σ, _, J, q dx n ne⟩
  · exact xst_old T I2 ea ed hl hno r1 fun s' J => ⟨σ, _, J, q⟩
theorem pmk_xt {CX : CXT} {x : Str} {C fI : Addr} {k : Nat} {fd : FuncData} {ps : List Str} {sp : Sp} {ds : List Value} {dvs : List V} (T : XtC X.K C) (iC : PySem.W.findIn X.K (.ref C) "__init__" = some (some (.ref fI))) (tI : PySem.W.typeIn X.K (.ref fI) = some (.type "function"))
    (F1 : FnOk X.prog X.w X.K X.mg X.base CX k fI fd ps sp) (hr : Room (k + 1) X.A) (hb : Binds X.K fd ps ds) (hd : Vals dvs ds) (hx : Passes CX X (fun _ _ _ => False)) (hg : Gl X x) (hm : X.mg x = some (.ref C)) (ha : PA X (e :: es) ta)
    (hdb : (x == ("__debug__" : Str)) = false := by decide) (he : starEach (e :: es) X.env = (false, eval e X.env) :: starEach es X.env := by rfl) (hpl : (backTo pos (starEach es X.env)).any (·.1) = false := by rfl) :
    PMk X (.Call (.Name x p) (e :: es) [] pos) (tMkO C sp dvs ta) := by
  intro pins s σ H Q I h
  obtain ⟨nm, q, N, bs, bm, sn, sub, ab, col, dd, k0, k1, k2, k3, k5, hC, hbm⟩ := T.cls
  refine wpAny_Call_Name_kw (ld_glob I hg hm ?_ hdb)
  refine PySem.W.callWith_K (h₀ := X.base) I.ok.mod.kin T.kC (thn (ha.run pos pins s σ H _ I h) fun us s1 ⟨vs, H1, I1, r1, hz, q1⟩ => ⟨I1.kIn, ?_⟩) he hpl
  show wpAny _ _ (call (.ref C) us) _ _ _
  obtain ⟨hp, g, dr, tk, os⟩ := s1
  have hsz : hp.objs.size ≤ hp.objs.size + 1 := Nat.le_succ _
  have hn : H1 (hp.objs.size + 1) = none := I1.hok.fresh hsz
  have hq := q1 (hp.objs.size + 1) hn
  have kk : ∀ b o, hp.get? b = some o → ((hp.push (PySem.W.kdv_tup us)).push (PySem.HandSPX.excO C hp.objs.size)).get? b = some o := fun b o e => Heap.get?_push_of_some _ (Heap.get?_push_of_some _ e)
  have hget : ((hp.push (PySem.W.kdv_tup us)).push (PySem.HandSPX.excO C hp.objs.size)).get? (hp.objs.size + 1) = some (PySem.HandSPX.excO C hp.objs.size) := by heap_get
  have I2 : Inv X pins σ (upd H1 (hp.objs.size + 1) (exo (hp.objs.size + 1) C none)) ⟨(hp.push (PySem.W.kdv_tup us)).push (PySem.HandSPX.excO C hp.objs.size), g, dr, tk, os⟩ :=
    I1.laid (t' := tk) (a := hp.objs.size + 1) (o := exo (hp.objs.size + 1) C none) (h' := (hp.push (PySem.W.kdv_tup us)).push (PySem.HandSPX.excO C hp.objs.size)) kk hsz (exo_ok hget)
  have r2 : Vals (V.ref (hp.objs.size + 1) :: (vs ++ dvs)) (Value.ref (hp.objs.size + 1) :: (us ++ ds)) := .cons rfl (r1.append hd)
  have hl : (Value.ref (hp.objs.size + 1) :: us ++ ds).length = ps.length := by
    have e := r2.length
    rw [F1.len _ _ _ _ hq] at e
    exact e.symm
  have hus : us.length ≤ sizeLine := by
    rw [← Paired.length r1, sizeLine_eq]
    omega
  refine wpAny_call (PySem.HandSPX.call_own F.excBase_Exception (fun Y => PySem.VLX.refsXT_contains Y bm hbm) (I1.kIn _ _ hC) (PySem.W.looks_findIn I1.kIn iC) (fun self => PySem.W.bind_fn I1.kIn self tI) hus
    (codeAny_mono (F1.run _ X.stack _ _ ⟨Value.ref (hp.objs.size + 1) :: us, []⟩ (Value.ref (hp.objs.size + 1) :: (us ++ ds)) _ _ (fun _ _ _ => False) (hr.make C us []) (I2.env0.make C us []) (hb _ (Value.ref (hp.objs.size + 1) :: us) I2.kIn hl) r2 hq) fun r s' hq' => ?_))
  cases r with
  | error er => exact hx pins σ _ _ er s' I2 hq'
  | ok fl =>
    cases fl with
    | ret u =>
      obtain ⟨v, H2, os2, bare2, un2, hok2, rv, ev, d, fs, ea, ed, hd1, q2⟩ := hq'
      subst ev
      obtain ⟨h2, g2, d2, t2, os'⟩ := s'
      exact ⟨rv, mk_end (raises_own T.exC T.tyC) I1 hsz kk un2 hok2 os2 bare2 ea ed hd1 q2⟩
    | next => exact False.elim hq'
    | brk => exact False.elim hq'
    | cont => exact False.elim hq'
end
end VL

set_option Elab.async false
set_option linter.all false
set_option maxRecDepth 100000
set_option maxHeartbeats 2000000
namespace VL
open PySem PySem.Spec PyProof.Rows L2

/-! ### raise -/
/-- what an exception's __init__ promises: its parameters are its fields -/
def spXi (C : Addr) (names : List Str) : Sp := fun vs H Q _ => vs.length = names.length + 1 ∧ ∃ a ys, vs = .ref a :: ys ∧ H a = some (exo a C none) ∧
  ∀ d H', H d = none → d ≠ a → (∀ b, b ≠ a → b ≠ d → H' b = H b) → H' a = some (exo a C (some d)) → H' d = some (exd d (names.zip ys).reverse) → Q .non H'
theorem xinit1 {P : Program} {w : World} {K : PySem.W.Frag} {mg : Str → Option Value} {base : Heap} {CX : CXT} {x qual f p : Str} {params : Arguments} {body : List Stmt} {scope : Scope} {dvs : List V} {kws : List (Str × V)} {fa C : Addr} {fd : FuncData} {k : Nat}
    (Fd : FunD K x qual params body scope dvs kws fa fd) (S : FnScope ["self", p] ["self", p] scope) (T : XtC K C) (hno : PySem.W.findIn K (.ref C) f = some none)
    (hb : ∀ (cdv : Value) (A : Around) (outer : List Env) (s : Shared) (H : Hp) (E : XK), PSs (cxOf CX P w K mg base ["self", p] qual scope fa cdv A outer s H E) body (tXst K f (tVar 0) (tVar 1))) : FnOk P w K mg base CX (k + 1) fa fd ["self", p] (spXi C [f]) := by
  refine Fd.ok S (fun vs H Q E h => h.1) fun cdv A outer s H vs Q E hr ⟨hl, a, ys, e, ea, q⟩ => ⟨_, hb cdv A outer s H E, ?_⟩
  subst e
  match ys, hl with
  | [y], _ =>
    refine ⟨y, rfl, .ref a, rfl, a, C, rfl, T, hno, .inl ⟨ea, fun dx hn ne => ?_⟩⟩
    refine q dx _ hn ne (fun b h1 h2 => ?_) upd_same (by rw [upd_ne ne, upd_same]; rfl)
    rw [upd_ne h1, upd_ne h2]
theorem xinit3 {P : Program} {w : World} {K : PySem.W.Frag} {mg : Str → Option Value} {base : Heap} {CX : CXT} {x qual f g h p1 p2 p3 : Str} {params : Arguments} {body : List Stmt} {scope : Scope} {dvs : List V} {kws : List (Str × V)} {fa C : Addr} {fd : FuncData} {k : Nat}
    (Fd : FunD K x qual params body scope dvs kws fa fd) (S : FnScope ["self", p1, p2, p3] ["self", p1, p2, p3] scope) (T : XtC K C) (hno : PySem.W.findIn K (.ref C) f = some none) (hno2 : PySem.W.findIn K (.ref C) g = some none) (hno3 : PySem.W.findIn K (.ref C) h = some none)
    (hb : ∀ (cdv : Value) (A : Around) (outer : List Env) (s : Shared) (H : Hp) (E : XK), PSs (cxOf CX P w K mg base ["self", p1, p2, p3] qual scope fa cdv A outer s H E) body (tSeq (tXst K f (tVar 0) (tVar 1)) (tSeq (tXst K g (tVar 0) (tVar 2)) (tXst K h (tVar 0) (tVar 3))))) :
    FnOk P w K mg base CX (k + 1) fa fd ["self", p1, p2, p3] (spXi C [f, g, h]) := by
  refine Fd.ok S (fun vs H Q E h => h.1) fun cdv A outer s H vs Q E hr ⟨hl, a, ys, e, ea, q⟩ => ⟨_, hb cdv A outer s H E, ?_⟩
  subst e
  match ys, hl with
  | [y1, y2, y3], _ =>
    refine ⟨y1, rfl, .ref a, rfl, a, C, rfl, T, hno, .inl ⟨ea, fun dx hn ne => ?_⟩⟩
    refine ⟨y2, rfl, .ref a, rfl, a, C, rfl, T, hno2, .inr ⟨dx, [(f, y1)], upd_same, by rw [upd_ne ne, upd_same], by simp, ?_⟩⟩
    refine ⟨y3, rfl, .ref a, rfl, a, C, rfl, T, hno3, .inr ⟨dx, [(g, y2), (f, y1)], by rw [upd_ne (Ne.symm ne), upd_same], upd_same, by simp, ?_⟩⟩
    refine q dx _ hn ne (fun b h1 h2 => ?_) (by rw [upd_ne (Ne.symm ne), upd_ne (Ne.symm ne), upd_same]) upd_same
    rw [upd_ne h2, upd_ne h2, upd_ne h1, upd_ne h2]
def gRaise (c : Nat) (js : List Nat) (fg : Sem (List Op)) : SS := fun S => rS (fg S) fun os S => match fzAll os with
  | some ds => if ds.length = js.length then .ex ⟨c, js.reverse, ds.reverse⟩ S else .bad
  | none => .bad
section
variable {W : Wo} {F : Hp}
theorem RepF.app : ∀ {ns ms : List Nat} {ds es : List D} {fs gs : List (Str × V)}, RepF W F ns ds fs → RepF W F ms es gs → RepF W F (ns ++ ms) (ds ++ es) (fs ++ gs)
  | _, _, _, _, _, _, .nil, h => h
  | _, _, _, _, _, _, .cons a b, h => .cons a (RepF.app b h)
theorem RepF.zipR : ∀ {js : List Nat} {ds : List D} {vs : List V}, Reps W F ds vs → ds.length = js.length → RepF W F js.reverse ds.reverse ((js.map W.fnm).zip vs).reverse
  | [], [], _, .nil, _ => .nil
  | j :: js, d :: ds, _, .cons a b, e => by
    rw [List.reverse_cons, List.reverse_cons, List.map_cons, List.zip_cons_cons, List.reverse_cons]
    exact RepF.app (RepF.zipR b (by simpa using e)) (.cons a .nil)
  | [], _ :: _, _, _, e => by cases e
  | _ :: _, [], _, _, e => by cases e
end
section
variable {X : Cx} {W : Wo} {C : Fr} {Wx : WX} {x : Str} {p pos pos2 : Pos} {e : Expr} {es : List Expr} {fg : Sem (List Op)} {k j : Nat} {fI : Addr} {fd : FuncData} {ps : List Str}
theorem p1_raise (c : Nat) (js : List Nat) (hK : X.K = W.K) (hc : X.calm = true) (tk : Takes X Wx) (T : XtC W.K (W.cl c)) (iC : PySem.W.findIn W.K (.ref (W.cl c)) "__init__" = some (some (.ref fI))) (tI : PySem.W.typeIn W.K (.ref fI) = some (.type "function"))
    (F1 : FnOk X.prog X.w W.K X.mg X.base (L2.CX X.prog X.w) k fI fd ps (spXi (W.cl c) (js.map W.fnm))) (hr : Room j X.A) (hk : k + 1 ≤ j) (hb : Binds W.K fd ps []) (hm : X.mg x = some (.ref (W.cl c))) (ha : PXa X W C Wx (e :: es) fg) (hj : js.length ≤ 900) (hg : Gl X x := by rfl)
    (hdb : (x == ("__debug__" : Str)) = false := by decide) (he : starEach (e :: es) X.env = (false, eval e X.env) :: starEach es X.env := by rfl) (hpl : (backTo pos (starEach es X.env)).any (·.1) = false := by rfl) :
    PT1 X W C Wx (.Raise (some (.Call (.Name x p) (e :: es) [] pos)) none pos2) (gRaise c js fg) := by
  refine PS.imp (ps_raise hc tk (pmk_xt (CX := L2.CX X.prog X.w) (dvs := []) (ds := []) (k := k) (by rw [hK]; exact T) (by rw [hK]; exact iC) (by rw [hK]; exact tI) (by rw [hK]; exact F1) (hr.mono hk) (by rw [hK]; exact hb) .nil (fun _ _ _ _ _ _ _ ⟨_, _, _, _, _, _, _, _, _, _, _, _, w⟩ => w.elim) hg hm ha hdb he hpl))
    fun D' σ H ⟨F, S, w, m⟩ => ⟨F, S, w, SAt.expr m fun os S1 vs F1' H1 _ w1 e1 p1 m1 => ?_⟩
  cases q : fzAll os with
  | none => simp only [q] at m1; exact m1.elim
  | some ds =>
    simp only [q] at m1
    by_cases hl : ds.length = js.length
    · rw [if_pos hl] at m1
      have rs := OpsR.fzAll p1 q
      have hv : vs.length = js.length := by rw [← rs.length, hl]
      refine ⟨by omega, fun a na => ⟨by rw [List.append_nil, List.length_cons, List.length_map, hv], a, vs, by rw [List.append_nil], upd_same, fun d H' hd ne hs ea ed => ⟨rfl, d, _, ea, ed, ?_, ?_⟩⟩⟩
      · rw [upd_ne ne] at hd; exact hd
      · have hd1 : H1 d = none := by rw [upd_ne ne] at hd; exact hd
        have eH : upd (del H' a) d (.xd ((js.map W.fnm).zip vs).reverse) = upd H1 d (.xd ((js.map W.fnm).zip vs).reverse) := by
          funext b
          by_cases hb : b = d
          · subst hb; rw [upd_same, upd_same]
          · rw [upd_ne hb, upd_ne hb]
            by_cases hba : b = a
            · subst hba; rw [del_same]; exact na.symm
            · rw [del_ne hba, hs b hba hb, upd_ne hba]
        rw [eH]
        have ex := Ext.allocO (o := .xd ((js.map W.fnm).zip vs).reverse) w1.sub hd1
        exact m1 _ _ σ F1' _ (w1.ext ex) ex.fr ⟨rfl, .inr ⟨d, _, rfl, upd_same, RepF.zipR rs hl⟩⟩
    · rw [if_neg hl] at m1; exact m1.elim
end

/-! ### try -/
/-- what the clauses wish: c the class, the name's slot if there is one -/
def wMix (K : PySem.W.Frag) (Wout : WX) (D : Ends) : List (Value × Option Nat × (Addr → Value → Option Addr → TS)) → WX
  | [] => Wout
  | (c, none, ts) :: r => fun cls d σ H => ∃ b, PySem.W.exmOne K cls c = some b ∧ (b = true → ∀ a, H a = none → ts a cls d D σ H) ∧ (b = false → wMix K Wout D r cls d σ H)
  | (c, some i, ts) :: r => fun cls d σ H => ∃ b, PySem.W.exmOne K cls c = some b ∧
    (b = true → ∀ a, H a = none → ts a cls d { nx := fun σ' H' => D.nx (σ'.set i none) H', rt := D.rt, bk := fun σ' H' => D.bk (σ'.set i none) H', ct := fun σ' H' => D.ct (σ'.set i none) H' } (σ.set i (some (.ref a))) H) ∧
    (b = false → wMix K Wout D r cls d σ H)
inductive HdsMix (X : Cx) : List ExceptHandler → List (Value × Option Nat × (Addr → Value → Option Addr → TS)) → Prop
  | nil : HdsMix X [] []
  | only {x : Str} {c : Value} {ts : Addr → Value → Option Addr → TS} {b₀ : Stmt} {suite : List Stmt} {np pos' : Pos} {hds : List ExceptHandler} {l : List (Value × Option Nat × (Addr → Value → Option Addr → TS))} (hc : Names X x c)
      (hsu : ∀ (a : Addr) (oe : Obj) (cls : Value) (d : Option Addr) (pn : List (Addr × Obj)), Zc cls d oe → (∃ vs, oe.data = .fields vs) → PSs (X.suite a ((a, oe) :: pn)) (b₀ :: suite) (ts a cls d)) (r : HdsMix X hds l) :
      HdsMix X (.ExceptHandler (some (.Name x np)) none (b₀ :: suite) pos' :: hds) ((c, none, ts) :: l)
  | as_ {x n : Str} {i : Nat} {c : Value} {ts : Addr → Value → Option Addr → TS} {b₀ : Stmt} {suite : List Stmt} {np pos' : Pos} {hds : List ExceptHandler} {l : List (Value × Option Nat × (Addr → Value → Option Addr → TS))} (hc : Names X x c) (hi : X.N[i]? = some n) (hln : X.env.kindOf n = some .local)
      (hsu : ∀ (a : Addr) (oe : Obj) (cls : Value) (d : Option Addr) (pn : List (Addr × Obj)), Zc cls d oe → (∃ vs, oe.data = .fields vs) → PSs (X.suite a ((a, oe) :: pn)) (b₀ :: suite) (ts a cls d)) (r : HdsMix X hds l) :
      HdsMix X (.ExceptHandler (some (.Name x np)) (some n) (b₀ :: suite) pos' :: hds) ((c, some i, ts) :: l)
section
variable {X : Cx} {body : List Stmt} {h₀ : ExceptHandler} {hds : List ExceptHandler} {l : List (Value × Option Nat × (Addr → Value → Option Addr → TS))} {pos : Pos} {tb : WX → TS} {Wout : WX}
theorem ps_try_mix (hs : X.stack = X.env :: X.outer) (hf : X.env.frame = some X.env.locals) (hN : X.N.Nodup) (tk : Takes X Wout)
    (hb : ∀ (W : WX) (pn : List (Addr × Obj)) (xe : Value → Shared → Prop), Takes (X.tr pn xe) W → PassesOwn (model X.prog X.w) X.A X.env xe → PSs (X.tr pn xe) body (tb W))
    (hh : HdsMix X (h₀ :: hds) l) : PS X (.Try body (h₀ :: hds) [] [] pos) (fun D σ H => tb (wMix X.K Wout D l) D σ H) := by
  refine ⟨fun pins s σ H D I h => ?_⟩
  have ok := I.ok
  have hfr : X.A.frames = some (X.env :: X.outer) := by rw [ok.frames, hs]
  refine wpAny_Try_except ?_
  refine wpAny_mono ((hb (wMix X.K Wout D l) (X.pn ++ pins) (fun e s₁ => wpAny (model X.prog X.w) X.A (noteFrame e X.env) (fun _ s₂ => wpAny (model X.prog X.w) X.A (setFlight e none) (fun _ s₃ =>
    wpAny (model X.prog X.w) X.A (handleBy e X.env (h₀ :: hds)) (SP X pins D) X.xe s₃) X.xe s₂) X.xe s₁) (fun u s' xx => ?_) PassesOwn.looking).run [] s σ H D (I.toTry _) h) (fun f s1 hsp => ?_) (fun e s1 he => he)
  · -- the catch
    obtain ⟨a, B, sI, pins', σ', H', cls, d, rfl, J', nb, up, sky, na, os, ag, w⟩ := xx
    have J : Inv X pins σ' H' sI := J'.ofTry ok
    have sky' : Sky B (X.env :: X.outer) a (Zc cls d) X.env.locals s'.heap := by rw [← hs]; exact sky
    show wpAny (model X.prog X.w) X.A (noteFrame (.ref a) X.env) _ _ _
    refine Sky.land Zc.steady hfr hf sky' fun h3 fl3 up3 => ?_
    have J3 : Inv X pins σ' H' { s' with heap := h3 } := J.landed nb fl3.1 (up.trans up3) os ag
    obtain ⟨oe3, vs3, he3, hz3, hd3⟩ := fl3.there
    have notFr : ∀ {h : Heap} {o : Obj} {vs : Array Value}, h.FunFrames B (X.env :: X.outer) → h.get? a = some o → o.data = .fields vs → a ∉ frs (X.env :: X.outer) := fun {h o vs} ff e dd hm => by
      obtain ⟨_, o', e', hnf⟩ := ff.mem hm
      rw [e] at e'; cases e'
      exact hnf _ dd
    have nfr := notFr fl3.2.2.1 he3 hd3
    have nL : a ≠ X.env.locals := fun z => nfr (List.mem_filterMap.mpr ⟨X.env, List.mem_cons_self, by rw [hf, z]⟩)
    have nF : a ∉ X.fs := fun hm => by
      obtain ⟨e, he, q⟩ := List.mem_filterMap.mp hm
      exact nfr (List.mem_filterMap.mpr ⟨e, List.mem_cons_of_mem _ he, q⟩)
    have S3 := J3.suite he3 hd3 na nL nF
    have LT : PySem.W.Looks (model X.prog X.w) h3 (typeOf (.ref a)) cls := fun A Q E s k q => wpAny_typeOf_ref (k _ _ he3) (by rw [hz3.1]; exact q)
    have test : ∀ {x : Str} {np : Pos} {c : Value}, Names X x c → ∀ {Q : Value → Shared → Prop} {E : Value → Shared → Prop}, Q c { s' with heap := h3 } → wpAny (model X.prog X.w) (X.A.mark (some (.ref a))) (eval (.Name x np) X.env) Q E { s' with heap := h3 } := fun {x np c} hc {Q E} q => by
      obtain ⟨hg, hdbg, hm | ⟨hm, hv, hnn⟩⟩ := hc
      · exact ld_glob (X := X.suite a ((a, oe3) :: (X.pn ++ pins))) S3 hg hm q hdbg
      · exact ld_blt (X := X.suite a ((a, oe3) :: (X.pn ++ pins))) S3 hg hm hv q hnn hdbg
    have go : ∀ {hds' : List ExceptHandler} {l' : List (Value × Option Nat × (Addr → Value → Option Addr → TS))}, HdsMix X hds' l' → wMix X.K Wout D l' cls d σ' H' →
        wpAny (model X.prog X.w) X.A (handleBy (.ref a) X.env hds') (SP X pins D) X.xe { s' with heap := h3 } := by
      intro hds' l' hk
      induction hk with
      | nil =>
        intro w
        refine wpAny_handleBy_nil ?_
        obtain ⟨k1, k2, k3, oe, vs, T, oT, ts', he, hz, hd, h1, hr⟩ := id fl3
        unfold PySem.passOn
        refine wpAny_bind (wpAny_field he hd h1 ?_)
        rw [if_neg (show ¬ ((Value.ref T == Value.none) = true) from by simp)]
        have fin : wpAny (model X.prog X.w) X.A (setFlight (.ref a) X.env.frame) (fun _ s4 => wpAny (model X.prog X.w) X.A (throw (.ref a) : PySem.Sem Flow) (SP X pins D) X.xe s4) X.xe { s' with heap := h3 } := by
          rw [hf]
          refine HandSPX.setFlight_upZ fl3 fun h4 hh4 up4 => wpAny_throw (tk _ _ ?_)
          exact ⟨a, B, sI, pins, σ', H', cls, d, rfl, J, nb, (up.trans up3).trans up4, .inr (.inr (by rw [hs]; exact hh4)), na, os, ag, w⟩
        first
          | exact wpAny_bind (wpAny_pure (wpAny_bind fin))
          | exact wpAny_bind fin
      | @only x c ts b₀ suite np pos' hds2 l2 hc hsu r ih =>
        intro w
        obtain ⟨b, hb1, hyes, hno⟩ := w
        refine wpAny_handleBy_cons (codeAny_handlers_test ?_) (by intro q; cases q)
        have LM := PySem.W.exm_one (M := model X.prog X.w) (J3.kIn) LT hb1
        refine test hc (LM.here ?_)
        cases b with
        | true =>
          refine codeAny_handlers_suite ?_
          refine HandSPX.lands_againZ fl3 fun h4 fl4 up4 => ?_
          have J4 : Inv X pins σ' H' { s' with heap := h4 } := J.landed nb fl4.1 ((up.trans up3).trans up4) os ag
          obtain ⟨oe4, vs4, he4, hz4, hd4⟩ := fl4.there
          have S4 := J4.suite he4 hd4 na nL nF
          refine wpAny_mono ((hsu a oe4 cls d (X.pn ++ pins) hz4 ⟨_, hd4⟩).run [] _ _ H' _ S4 (hyes rfl a na)) (fun f s6 hsp => ?_) (fun _ _ z => False.elim z)
          cases f with
          | next =>
            obtain ⟨σ6, H6, S6, q6⟩ := hsp
            exact ⟨_, _, S6.unsuite ok, q6⟩
          | brk =>
            obtain ⟨σ6, H6, S6, q6⟩ := hsp
            exact ⟨_, _, S6.unsuite ok, q6⟩
          | cont =>
            obtain ⟨σ6, H6, S6, q6⟩ := hsp
            exact ⟨_, _, S6.unsuite ok, q6⟩
          | ret u =>
            obtain ⟨v6, σ6, H6, S6, r6, q6⟩ := hsp
            exact ⟨_, _, _, S6.unsuite ok, r6, q6⟩
        | false =>
          show wpAny _ X.A (handleBy (.ref a) X.env hds2) _ _ _
          exact ih (hno rfl)
      | @as_ x n i c ts b₀ suite np pos' hds2 l2 hc hi hln hsu r ih =>
        intro w
        have hloc : Loc X.env.scope n := .inl hln
        obtain ⟨b, hb1, hyes, hno⟩ := w
        refine wpAny_handleBy_cons (codeAny_handlers_test ?_) (by intro q; cases q)
        have LM := PySem.W.exm_one (M := model X.prog X.w) (J3.kIn) LT hb1
        refine test hc (LM.here ?_)
        cases b with
        | true =>
          refine codeAny_handlers_suite_as ?_
          refine HandSPX.lands_againZ fl3 fun h4 fl4 up4 => ?_
          have J4 : Inv X pins σ' H' { s' with heap := h4 } := J.landed nb fl4.1 ((up.trans up3).trans up4) os ag
          obtain ⟨oe4, vs4, he4, hz4, hd4⟩ := fl4.there
          have S4 := J4.suite he4 hd4 na nL nF
          refine store_ok (X := X.suite a ((a, oe4) :: (X.pn ++ pins))) (v := .ref a) S4 hN hi hloc rfl (fun s5 S5 => ?_) (.inr hln)
          refine wpAny_mono ((hsu a oe4 cls d (X.pn ++ pins) hz4 ⟨_, hd4⟩).run [] s5 _ H' _ S5 (hyes rfl a na)) (fun f s6 hsp => ?_) (fun _ _ z => False.elim z)
          have end_ : ∀ {σ6 : L2.St} {H6 : Hp} {Q : Shared → Prop}, Inv (X.suite a ((a, oe4) :: (X.pn ++ pins))) [] σ6 H6 s6 → (∀ s7, Inv X pins (σ6.set i none) H6 s7 → Q s7) →
              wpAny (model X.prog X.w) X.A (do bindName X.env n .none; unbindBehindTheSuite X.env n pos') (fun _ s7 => Q s7) X.xe s6 := fun {σ6 H6 Q} S6 hq => gone_ok (S6.unsuite ok) hN hi hln hq
          cases f with
          | next =>
            obtain ⟨σ6, H6, S6, q6⟩ := hsp
            exact end_ S6 fun s7 J7 => ⟨_, _, J7, q6⟩
          | brk =>
            obtain ⟨σ6, H6, S6, q6⟩ := hsp
            exact end_ S6 fun s7 J7 => ⟨_, _, J7, q6⟩
          | cont =>
            obtain ⟨σ6, H6, S6, q6⟩ := hsp
            exact end_ S6 fun s7 J7 => ⟨_, _, J7, q6⟩
          | ret u =>
            obtain ⟨v6, σ6, H6, S6, r6, q6⟩ := hsp
            exact end_ S6 fun s7 J7 => ⟨_, _, _, J7, r6, q6⟩
        | false =>
          show wpAny _ X.A (handleBy (.ref a) X.env hds2) _ _ _
          exact ih (hno rfl)
    exact go hh w
  · cases f with
    | next =>
      obtain ⟨σ', H', J', q⟩ := hsp
      exact wpAny_execs_nil ⟨σ', H', J'.ofTry ok, q⟩
    | brk =>
      obtain ⟨σ', H', J', q⟩ := hsp
      exact ⟨σ', H', J'.ofTry ok, q⟩
    | cont =>
      obtain ⟨σ', H', J', q⟩ := hsp
      exact ⟨σ', H', J'.ofTry ok, q⟩
    | ret u =>
      obtain ⟨v, σ', H', J', r, q⟩ := hsp
      exact ⟨v, σ', H', J'.ofTry ok, r, q⟩
end
end VL

set_option Elab.async false
set_option linter.all false
set_option maxRecDepth 100000
set_option maxHeartbeats 2000000
namespace VL
open PySem PySem.Spec PyProof.Rows L2

/-! ### try, over data -/
structure Hdl where
  ex : Nat → Option Bool
  i : Option Nat
  g : Exc → SS
def endI (i : Nat) (r : SR) : SR := match r with
  | .nx S => .nx (S.set i .un)
  | .rt o d S => .rt o d (S.set i .un)
  | .bk S => .bk (S.set i .un)
  | .ct S => .ct (S.set i .un)
  | _ => .bad
def endN (r : SR) : SR := match r with
  | .ex _ _ => .bad
  | r => r
def hdl : List Hdl → Exc → SS
  | [], x, S => .ex x S
  | h :: r, x, S => (match h.ex x.c with
    | some true => (match h.i with
      | some i => endI i (h.g x (S.set i .er))
      | none => endN (h.g x S))
    | some false => hdl r x S
    | none => .bad)
def gTry (g : SS) (hs : List Hdl) : SS := fun S => match g S with
  | .ex x S1 => hdl hs x S1
  | r => r
def ExF (K : PySem.W.Frag) (cl : Nat → Addr) (c0 : Value) (f : Nat → Option Bool) : Prop := ∀ c b, f c = some b → PySem.W.exmOne K (.ref (cl c)) c0 = some b
def Fr.at_ (C : Fr) (e : Er) : Fr := ⟨C.F0, C.H0, C.io, some e⟩
inductive HdsV (X : Cx) (W : Wo) (C : Fr) : List ExceptHandler → List Hdl → Prop
  | nil : HdsV X W C [] []
  | only {x : Str} {c : Value} {f : Nat → Option Bool} {g : Exc → SS} {b₀ : Stmt} {suite : List Stmt} {np pos' : Pos} {hds : List ExceptHandler} {l : List Hdl} (hc : Names X x c) (hf : ExF W.K W.cl c f)
      (hsu : ∀ (a : Addr) (oe : Obj) (cls : Value) (d : Option Addr) (pn : List (Addr × Obj)) (y : Exc), Zc cls d oe → (∃ vs, oe.data = .fields vs) → PTn (X.suite a ((a, oe) :: pn)) W C WF (b₀ :: suite) (g y)) (r : HdsV X W C hds l) :
      HdsV X W C (.ExceptHandler (some (.Name x np)) none (b₀ :: suite) pos' :: hds) (⟨f, none, g⟩ :: l)
  | as_ {x n : Str} {i : Nat} {c : Value} {f : Nat → Option Bool} {g : Exc → SS} {b₀ : Stmt} {suite : List Stmt} {np pos' : Pos} {hds : List ExceptHandler} {l : List Hdl} (hc : Names X x c) (hf : ExF W.K W.cl c f) (hi : X.N[i]? = some n) (hln : X.env.kindOf n = some .local)
      (hsu : ∀ (a : Addr) (oe : Obj) (cls : Value) (d : Option Addr) (pn : List (Addr × Obj)) (y : Exc), Zc cls d oe → (∃ vs, oe.data = .fields vs) → PTn (X.suite a ((a, oe) :: pn)) W (C.at_ ⟨i, a, cls, d, y⟩) WF (b₀ :: suite) (g y)) (r : HdsV X W C hds l) :
      HdsV X W C (.ExceptHandler (some (.Name x np)) (some n) (b₀ :: suite) pos' :: hds) (⟨f, some i, g⟩ :: l)
section
variable {X : Cx} {W : Wo} {C : Fr} {Wx : WX}
theorem Wd.setEr {F H : Hp} {S : Sl} {σ : Sg} {i : Nat} {a : Addr} {cls : Value} {d : Option Addr} {x : Exc} (w : Wd W C F S σ H) (xo : ExOk W F H x cls d) : Wd W (C.at_ ⟨i, a, cls, d, x⟩) F (S.set i .er) (σ.set i (some (.ref a))) H where
  sub := w.sub
  f0 := w.f0
  new := w.new
  keep := w.keep
  live := w.live
  len := by rw [List.length_set, List.length_set]; exact w.len
  slot := fun j s hj => by
    rcases getElem?_set_cases hj with ⟨rfl, rfl⟩ | ⟨nj, hj'⟩
    · trivial
    · rw [List.getElem?_set_ne (Ne.symm nj)]
      exact w.slot j s hj'
  own := fun j d' b hj hb => by
    rcases getElem?_set_cases hj with ⟨rfl, q⟩ | ⟨nj, hj'⟩
    · cases q
    · rw [List.getElem?_set_ne (Ne.symm nj)] at hb
      exact w.own j d' b hj' hb
  ios := fun j d' b hj hb => by
    rcases getElem?_set_cases hj with ⟨rfl, q⟩ | ⟨nj, hj'⟩
    · cases q
    · rw [List.getElem?_set_ne (Ne.symm nj)] at hb
      exact w.ios j d' b hj' hb
  sep := fun j k s t b njk hj hs hb hk hbk m => by
    rcases getElem?_set_cases hj with ⟨rfl, rfl⟩ | ⟨nj, hj'⟩
    · cases hs
    · rcases getElem?_set_cases hk with ⟨rfl, rfl⟩ | ⟨nk, hk'⟩
      · exact m
      · rw [List.getElem?_set_ne (Ne.symm nj)] at hb
        rw [List.getElem?_set_ne (Ne.symm nk)] at hbk
        exact w.sep j k s t b njk hj' hs hb hk' hbk m
  bos := fun j d' b hj hb nr => by
    rcases getElem?_set_cases hj with ⟨rfl, q⟩ | ⟨nj, hj'⟩
    · cases q
    · rw [List.getElem?_set_ne (Ne.symm nj)] at hb
      exact w.bos j d' b hj' hb nr
  er := fun e h1 h2 => by
    cases h1
    have hl : i < σ.length := by
      rw [← w.len]
      have := (List.getElem?_eq_some_iff.mp h2).1
      rwa [List.length_set] at this
    exact ⟨by rw [List.getElem?_set_self hl], xo⟩
theorem Wd.endEr {F H : Hp} {S : Sl} {σ : Sg} {i : Nat} {e : Er} (hE : C.er = none) (w : Wd W (C.at_ e) F S σ H) : Wd W C F (S.set i .un) (σ.set i none) H := by
  have w2 : Wd W C F S σ H := { sub := w.sub, f0 := w.f0, new := w.new, keep := w.keep, live := w.live, len := w.len, slot := w.slot, own := w.own, ios := w.ios, sep := w.sep, bos := w.bos, er := fun e h1 => by rw [hE] at h1; cases h1 }
  exact w2.setUn
/-- the clauses' wishes -/
def tsOf (W : Wo) (C : Fr) (h : Hdl) : Addr → Value → Option Addr → TS := match h.i with
  | none => fun a cls d D' σ H => ∃ y, tS W C WF (h.g y) D' σ H
  | some i => fun a cls d D' σ H => ∃ y, tS W (C.at_ ⟨i, a, cls, d, y⟩) WF (h.g y) D' σ H
theorem HdsV.mix {hds : List ExceptHandler} {l : List Hdl} (h : HdsV X W C hds l) (hE : C.er = none) : ∃ ll, HdsMix X hds ll ∧ ∀ (D' : Ends) (cls : Value) (dx : Option Addr) (σ : Sg) (F H : Hp) (S : Sl) (x : Exc), X.K = W.K → Wd W C F S σ H → ExOk W F H x cls dx → SAt W C Wx D' F (hdl l x S) → wMix X.K Wx D' ll cls dx σ H := by
  induction h with
  | nil => exact ⟨[], .nil, fun D' cls dx σ F H S x _ w xo m => m cls dx σ F H w (Same.refl _) xo⟩
  | @only x c f g b₀ suite np pos' hds l hc hf hsu r ih =>
    obtain ⟨ll, hm, k⟩ := ih
    refine ⟨(c, none, fun a cls d D' σ H => ∃ y, tS W C WF (g y) D' σ H) :: ll, .only hc (fun a oe cls d pn hz hd => ⟨fun pins s σ H D' I ⟨y, q⟩ => (hsu a oe cls d pn y hz hd).run pins s σ H D' I q⟩) hm, fun D' cls dx σ F H S x hK w xo m => ?_⟩
    have m' : SAt W C Wx D' F (match f x.c with
      | some true => endN (g x S)
      | some false => hdl l x S
      | none => .bad) := m
    cases q : f x.c with
    | none => rw [q] at m'; exact m'.elim
    | some b =>
      rw [q] at m'
      refine ⟨b, by rw [hK, xo.1]; exact hf x.c b q, fun hb a _ => ?_, fun hb => ?_⟩
      · subst hb
        refine ⟨x, F, S, w, ?_⟩
        have m2 : SAt W C Wx D' F (endN (g x S)) := m'
        cases r : g x S with
        | ex y S1 => rw [r] at m2; exact m2.elim
        | nx S1 => rw [r] at m2; exact m2
        | rt o d S1 => rw [r] at m2; exact m2
        | bk S1 => rw [r] at m2; exact m2
        | ct S1 => rw [r] at m2; exact m2
        | bad => rw [r] at m2; exact m2
      · subst hb
        exact k D' cls dx σ F H S x hK w xo m'
  | @as_ x n i c f g b₀ suite np pos' hds l hc hf hi hln hsu r ih =>
    obtain ⟨ll, hm, k⟩ := ih
    refine ⟨(c, some i, fun a cls d D' σ H => ∃ y, tS W (C.at_ ⟨i, a, cls, d, y⟩) WF (g y) D' σ H) :: ll, .as_ hc hi hln (fun a oe cls d pn hz hd => ⟨fun pins s σ H D' I ⟨y, q⟩ => (hsu a oe cls d pn y hz hd).run pins s σ H D' I q⟩) hm, fun D' cls dx σ F H S x hK w xo m => ?_⟩
    have m' : SAt W C Wx D' F (match f x.c with
      | some true => endI i (g x (S.set i .er))
      | some false => hdl l x S
      | none => .bad) := m
    cases q : f x.c with
    | none => rw [q] at m'; exact m'.elim
    | some b =>
      rw [q] at m'
      refine ⟨b, by rw [hK, xo.1]; exact hf x.c b q, fun hb a _ => ?_, fun hb => ?_⟩
      · subst hb
        refine ⟨x, F, S.set i .er, w.setEr xo, ?_⟩
        have m2 : SAt W C Wx D' F (endI i (g x (S.set i .er))) := m'
        cases r : g x (S.set i .er) with
        | ex y S1 => rw [r] at m2; exact m2.elim
        | bad => rw [r] at m2; exact m2.elim
        | nx S1 => rw [r] at m2; exact fun σ' F' H' w' s' => m2 _ F' H' (w'.endEr hE) s'
        | bk S1 => rw [r] at m2; exact fun σ' F' H' w' s' => m2 _ F' H' (w'.endEr hE) s'
        | ct S1 => rw [r] at m2; exact fun σ' F' H' w' s' => m2 _ F' H' (w'.endEr hE) s'
        | rt o d S1 =>
          rw [r] at m2
          refine fun v σ' F' H' w' s' ro => m2 v _ F' H' (w'.endEr hE) s' ?_
          cases o with
          | false => exact ro
          | true => exact ro
      · subst hb
        exact k D' cls dx σ F H S x hK w xo m'
theorem p1_try {body : List Stmt} {h₀ : ExceptHandler} {hds : List ExceptHandler} {l : List Hdl} {pos : Pos} {g : SS} (hK : X.K = W.K) (hE : C.er = none) (hN : X.N.Nodup) (tk : Takes X Wx)
    (hb : ∀ (W' : WX) (pn : List (Addr × Obj)) (xe : Value → Shared → Prop), Takes (X.tr pn xe) W' → PassesOwn (model X.prog X.w) X.A X.env xe → PTn (X.tr pn xe) W C W' body g)
    (hh : HdsV X W C (h₀ :: hds) l) (hs : X.stack = X.env :: X.outer := by rfl) (hf : X.env.frame = some X.env.locals := by rfl) : PT1 X W C Wx (.Try body (h₀ :: hds) [] [] pos) (gTry g l) := by
  obtain ⟨ll, hm, k⟩ := hh.mix (Wx := Wx) hE
  refine PS.imp (ps_try_mix (tb := fun W' => tS W C W' g) hs hf hN tk (fun W' pn xe t p => hb W' pn xe t p) hm) fun D' σ H ⟨F, S, w, m⟩ => ⟨F, S, w, ?_⟩
  have m' : SAt W C Wx D' F (match g S with
    | .ex x S1 => hdl l x S1
    | r => r) := m
  cases r : g S with
  | ex x S1 =>
    rw [r] at m'
    intro cls dx σ' F' H' w' s' xo
    exact k D' cls dx σ' F' H' S1 x hK w' xo (SAt.fr s' m')
  | nx S1 => rw [r] at m'; exact m'
  | rt o d S1 => rw [r] at m'; exact m'
  | bk S1 => rw [r] at m'; exact m'
  | ct S1 => rw [r] at m'; exact m'
  | bad => rw [r] at m'; exact m'
/-- err.f in an except suite -/
def sXf (y : Exc) (oc : Nat → Bool) (i j : Nat) : Sem Hd := fun S => match S[i]? with
  | some .er => if oc y.c = true then (match lookF j y.ns y.ds with
    | some d => .ok (.fz d) S
    | none => .bad) else .bad
  | _ => .bad
def XfF (W : Wo) (oc : Nat → Bool) (f : Str) : Prop := ∀ c, oc c = true → XfC W.K (W.cl c) ∧ PySem.W.findIn W.K (.ref (W.cl c)) f = some none
theorem px_xf {a : Addr} {oe : Obj} {cls : Value} {d : Option Addr} {pn : List (Addr × Obj)} {y : Exc} {oc : Nat → Bool} {n f : Str} {p pos : Pos} (i j : Nat) (hK : X.K = W.K) (hi : Inj W) (hT : XfF W oc f) (hx : W.fnm j = f) (hz : Zc cls d oe) (hd : ∃ vs, oe.data = .fields vs)
    (hN : X.N[i]? = some n := by rfl) (hv : Vis (X.suite a ((a, oe) :: pn)).env.scope n := by first | exact Or.inl rfl | exact Or.inr (Or.inl rfl) | exact Or.inr (Or.inr rfl)) (h1 : (n == ("__debug__" : Str)) = false := by decide) (h2 : (n == ("__classdict__" : Str)) = false := by decide)
    (hb : attributeBase (.Name n p) f X.env (eval (.Name n p) X.env) = eval (.Name n p) X.env := by rfl) :
    PX (X.suite a ((a, oe) :: pn)) W (C.at_ ⟨i, a, cls, d, y⟩) Wx (.Attribute (.Name n p) f pos) (sXf y oc i j) := by
  have all : PE (X.suite a ((a, oe) :: pn)) (.Attribute (.Name n p) f pos) (fun σ H Q => ∃ c, oc c = true ∧ tXf a cls d (W.cl c) f (tVar i) σ H Q) := ⟨fun pins s σ H Q I ⟨c, hc, q⟩ =>
    (pe_xf (pn := pn) (cls := cls) (d := d) (by rw [hK]; exact (hT c hc).1) (by rw [hK]; exact (hT c hc).2) hz hd (pe_var (X := X.suite a ((a, oe) :: pn)) hN hv h1 h2) hb).run pins s σ H Q I q⟩
  refine PE.imp all fun σ H Q ⟨F, S, w, m⟩ => ?_
  have m' : At W (C.at_ ⟨i, a, cls, d, y⟩) Wx σ (PHd W (C.at_ ⟨i, a, cls, d, y⟩)) F H S (match S[i]? with
    | some .er => if oc y.c = true then (match lookF j y.ns y.ds with
      | some d => .ok (.fz d) S
      | none => .bad) else .bad
    | _ => .bad) Q := m
  cases q : S[i]? with
  | none => rw [q] at m'; exact m'.elim
  | some s =>
    rw [q] at m'
    cases s with
    | er =>
      have m2 : At W (C.at_ ⟨i, a, cls, d, y⟩) Wx σ (PHd W (C.at_ ⟨i, a, cls, d, y⟩)) F H S (if oc y.c = true then (match lookF j y.ns y.ds with
        | some d => .ok (.fz d) S
        | none => .bad) else .bad) Q := m'
      by_cases hc : oc y.c = true
      · rw [if_pos hc] at m2
        cases q2 : lookF j y.ns y.ds with
        | none => simp only [q2] at m2; exact m2.elim
        | some dd =>
          simp only [q2] at m2
          obtain ⟨e1, e2, e3⟩ := w.er ⟨i, a, cls, d, y⟩ rfl q
          refine ⟨y.c, hc, .ref a, e1, rfl, e2, ?_⟩
          rcases e3 with ⟨_, e4, e5⟩ | ⟨dk, fs, e4, e5, e6⟩
          · have e4 : y.ns = [] := e4
            rw [e4] at q2; cases q2
          · obtain ⟨v, l, r⟩ := e6.look hi q2
            rw [hx] at l
            exact ⟨dk, fs, v, e4, e5, l, m2 v F H w Evo.refl r⟩
      · rw [if_neg hc] at m2; exact m2.elim
    | _ => exact m'.elim
end
end VL

set_option Elab.async false
set_option linter.all false
set_option maxRecDepth 100000
set_option maxHeartbeats 2000000
namespace VL
open PySem PySem.Spec PyProof.Rows L2

/-! ### names of fields -/
/-- the i-th name; behind the names: texts of their own -/
def rep (n : Nat) : Str := ⟨(List.replicate (1000 + n) (97 : Nat)).toArray⟩
def fnOfL (l : List Str) (n : Nat) : Str := match l[n]? with
  | some x => x
  | none => rep n
def okNames (l : List Str) : Bool := decide l.Nodup && l.all fun x => decide (x.length < 1000)

/-! ### a class's facts as looks -/
def xtB (K : PySem.W.Frag) (C : Addr) : Bool := (match K.lookup C with
  | some ⟨.type "type", _, .cls cd, sl⟩ => (match cd.mro, sl.toList with
    | .ref C' :: bm, [_, _, _, _, some (.builtin n), _] => C' == C && n == "Exception.__new__" && !cd.hasDel && cd.hasDict && PySem.VLX.refsXT bm
    | _, _ => false)
  | _ => false) && decide (PySem.W.findIn K (.ref C) "__setattr__" = some (some (.builtin "object.__setattr__"))) && decide (PySem.W.subIn K (.ref C) (.type "BaseException") = some true) && decide (PySem.W.typeIn K (.ref C) = some (.type "type")) && PySem.W.keepIn K (.ref C)
theorem xtB_ok {K : PySem.W.Frag} {C : Addr} (h : xtB K C = true) : XtC K C := by
  unfold xtB at h
  simp only [Bool.and_eq_true, decide_eq_true_eq] at h
  obtain ⟨⟨⟨⟨q, h1⟩, h2⟩, h3⟩, h4⟩ := h
  refine ⟨?_, h1, h2, h3, h4⟩
  split at q
  · rename_i dd cd sl ho
    split at q
    · rename_i C' bm k0 k1 k2 k3 n k5 hm hs
      simp only [Bool.and_eq_true, beq_iff_eq, Bool.not_eq_true'] at q
      obtain ⟨⟨⟨⟨rfl, rfl⟩, hdel⟩, hdt⟩, ht⟩ := q
      obtain ⟨nm, bs, mro, ns, qn, hd, sn, sub, ab, col, del⟩ := cd
      dsimp only at hm hdel hdt
      subst hm hdel hdt
      have hsl : sl = #[k0, k1, k2, k3, some (.builtin "Exception.__new__"), k5] := by
        obtain ⟨l⟩ := sl
        simp only at hs
        rw [hs]
      subst hsl
      exact ⟨nm, qn, ns, bs, bm, sn, sub, ab, col, dd, k0, k1, k2, k3, k5, ho, ht⟩
    · cases q
  · cases q
/-- C's own __init__ is at f -/
def initB (K : PySem.W.Frag) (C f : Addr) : Bool := decide (PySem.W.findIn K (.ref C) "__init__" = some (some (.ref f))) && decide (PySem.W.typeIn K (.ref f) = some (.type "function"))
def noB (K : PySem.W.Frag) (C : Addr) (f : Str) : Bool := decide (PySem.W.findIn K (.ref C) f = some none)
theorem noB_ok {K : PySem.W.Frag} {C : Addr} {f : Str} (h : noB K C f = true) : PySem.W.findIn K (.ref C) f = some none := of_decide_eq_true h
def clsB (K : PySem.W.Frag) (C : Addr) : Bool := PySem.W.plainGet K C Str.empty && PySem.W.hasDictIn K C && PySem.W.plainOver K C && decide (PySem.W.findIn K (.ref C) "__setattr__" = some (some (.builtin "object.__setattr__")))
theorem clsB_ok {K : PySem.W.Frag} {C : Addr} (h : clsB K C = true) : Cls K C := by
  unfold clsB at h
  simp only [Bool.and_eq_true, decide_eq_true_eq] at h
  obtain ⟨⟨⟨a, b⟩, c⟩, d⟩ := h
  exact ⟨a, b, c, d⟩
def mkB (K : PySem.W.Frag) (C f : Addr) : Bool := PySem.W.makesIn K C && decide (PySem.W.findIn K (.ref C) "__init__" = some (some (.ref f))) && PySem.W.isFn K (.ref f) && PySem.W.keepIn K (.ref C)
theorem mkB_ok {K : PySem.W.Frag} {C f : Addr} (h : mkB K C f = true) : Mk K C f := by
  unfold mkB at h
  simp only [Bool.and_eq_true, decide_eq_true_eq] at h
  obtain ⟨⟨⟨a, b⟩, c⟩, d⟩ := h
  exact ⟨a, b, c, d⟩
def methB (K : PySem.W.Frag) (C f : Addr) (m : Str) : Bool := decide (PySem.W.findIn K (.ref C) m = some (some (.ref f))) && PySem.W.isFn K (.ref f) && PySem.W.keepIn K (.ref f)
theorem methB_ok {K : PySem.W.Frag} {C f : Addr} {m : Str} (h : methB K C f m = true) : Meth K C m f := by
  unfold methB at h
  simp only [Bool.and_eq_true, decide_eq_true_eq] at h
  exact ⟨h.1.1, h.1.2, h.2⟩
/-- the property m's getter -/
def getterOf (K : PySem.W.Frag) (C : Addr) (m : Str) : Addr := match PySem.W.findIn K (.ref C) m with
  | some (some (.ref p)) => (match PySem.W.recIn K p "property" with
    | some (.ref g :: _) => g
    | _ => 0)
  | _ => 0
def propB (K : PySem.W.Frag) (C g : Addr) (m : Str) : Bool := match PySem.W.findIn K (.ref C) m with
  | some (some (.ref p)) => decide (PySem.W.specialIn K (.ref p) "__get__" = some (some (.builtin "property.__get__"))) && decide (PySem.W.takesIn K (.ref p) = some true) && (match PySem.W.recIn K p "property" with
    | some (.ref g' :: _) => decide (g' = g)
    | _ => false)
  | _ => false
theorem propB_ok {K : PySem.W.Frag} {C g : Addr} {m : Str} (h : propB K C g m = true) : ∃ p, PropOf K C m p g := by
  unfold propB at h
  split at h
  · rename_i p hp
    simp only [Bool.and_eq_true, decide_eq_true_eq] at h
    obtain ⟨⟨a, b⟩, c⟩ := h
    split at c
    · rename_i g' r hr
      exact ⟨p, hp, a, b, r, by rw [hr, of_decide_eq_true c]⟩
    · cases c
  · cases h
/-- the class's constant m is an int -/
def conB (K : PySem.W.Frag) (C : Addr) (m : Str) (i : Int) : Bool := match PySem.W.findIn K (.ref C) m with
  | some (some (.int j t)) => decide (j = i) && decide (PySem.W.specialIn K (.int j t) "__get__" = some none)
  | _ => false
theorem conB_ok {W : Wo} {c : Nat} {m : Str} {i : Int} (hc : clsB W.K (W.cl c) = true) (h : conB W.K (W.cl c) m i = true) (hm : PySem.W.copiedNames.contains m = false) : ConF W c m (.int i) := by
  refine ⟨clsB_ok hc, ?_⟩
  unfold conB at h
  split at h
  · rename_i j t hj
    simp only [Bool.and_eq_true, decide_eq_true_eq] at h
    obtain ⟨rfl, h2⟩ := h
    exact ⟨_, hj, ⟨t, rfl⟩, h2, hm⟩
  · cases h
def exB (K : PySem.W.Frag) (c c0 : Value) (b : Bool) : Bool := decide (PySem.W.exmOne K c c0 = some b)

/-! ### the head's hook: looks of one's own, defs by paths of one's own -/
structure DefA where
  at_ : PySem.W.Frag → Addr
  name : Str
  qual : Str
  params : Arguments
  body : List Stmt
  scope : Scope
  dfl : List He.Dv := []
def fnWA (K : PySem.W.Frag) (a : Addr) : He.FnW := match K.lookup a with
  | some ⟨_, _, .func fd, _⟩ => some (fd.name, fd.qualname, fd.params, fd.body, fd.scope, fd.globals, fd.closure, fd.builtins)
  | _ => none
def DefA.val (d : DefA) : He.FnW := some (d.name, d.qual, d.params, .stmts d.body, d.scope, mainGlobals, [], builtinsNs)
def DefA.dvs (K : PySem.W.Frag) (d : DefA) : List V := d.dfl.map (He.Dv.v K)
def DefA.ok (K : PySem.W.Frag) (d : DefA) : Bool := PySem.W.keepIn K (.ref (d.at_ K)) && (match K.lookup (d.at_ K) with
  | some ⟨_, _, .func fd, _⟩ => PySem.W.codeIn K fd.code d.qual && He.dflB K fd.defaults (d.dvs K)
  | _ => false)
theorem DefA.funD {K : PySem.W.Frag} {d : DefA} (e : fnWA K (d.at_ K) = d.val) (c : d.ok K = true) : ∃ fd, FunD K d.name d.qual d.params d.body d.scope (d.dvs K) [] (d.at_ K) fd := by
  obtain ⟨kp, c2⟩ := He.ba c
  unfold fnWA at e
  cases q : K.lookup (d.at_ K) with
  | none =>
    rw [q] at c2
    cases c2
  | some o =>
    obtain ⟨oc, od, dt, osl⟩ := o
    rw [q] at c2 e
    cases dt with
    | func fd =>
      obtain ⟨n1, n2, n3, n4, n5, n6, n7, n8, n9, n10, n11, n12, n13, n14, n15⟩ := fd
      have e2 : (some (n1, n2, n3, n4, n5, n6, n7, n15) : He.FnW) = some (d.name, d.qual, d.params, .stmts d.body, d.scope, mainGlobals, [], builtinsNs) := e
      simp only [Option.some.injEq, Prod.mk.injEq] at e2
      obtain ⟨h1, h2, h3, h4, h5, h6, h7, h8⟩ := e2
      subst h1 h2 h3 h4 h5 h6 h7 h8
      have c3 : (PySem.W.codeIn K n13 d.qual && He.dflB K n8 (d.dvs K)) = true := c2
      obtain ⟨k1, k2⟩ := He.ba c3
      exact ⟨_, ⟨oc, od, n8, n9, n10, n11, n12, n13, n14, osl, rfl, q, k1, He.dflB_ok k2, .inl rfl⟩, kp⟩
    | _ => cases c2
abbrev AlV : Type := Bool × List He.FnW
def obsV (cs : List (PySem.W.Frag → Bool)) (fn : List DefA) (K : PySem.W.Frag) : AlV := ((cs.all fun f => f K) && fn.all fun d => d.ok K, fn.map fun d => fnWA K (d.at_ K))
def valV (fn : List DefA) : AlV := (true, fn.map DefA.val)
def SaysV (cs : List (PySem.W.Frag → Bool)) (fn : List DefA) (K : PySem.W.Frag) : Prop := obsV cs fn K = valV fn
def obsVG (n : Nat) (cs : List (PySem.W.Frag → Bool)) (fn : List DefA) (g : Addr → Option Obj) : AlV := obsV cs fn (He.frG g (He.asD g n))
def hookV (n : Nat) (cs : List (PySem.W.Frag → Bool)) (fn : List DefA) : PySem.W.Hook where
  α := AlV
  obs := fun s => obsVG n cs fn s.heap.get?
  val := fun _ => valV fn
  says := fun _ h => ∃ K : PySem.W.Frag, K.In h ∧ SaysV cs fn K
  of := fun _ _ e => ⟨_, He.frG_in, e⟩
  keeps := fun _ _ _ ⟨K, hK, c⟩ k => ⟨K, PySem.W.Frag.In.keeps hK k, c⟩
theorem obsVG_eq {n : Nat} {cs : List (PySem.W.Frag → Bool)} {fn : List DefA} {g : Addr → Option Obj} {s : Shared} (h : ∀ a, g a = s.heap.get? a) : obsVG n cs fn g = (hookV n cs fn).obs s := by
  have e : g = s.heap.get? := funext h
  rw [e] <;> rfl
section
variable {cs : List (PySem.W.Frag → Bool)} {fn : List DefA} {K : PySem.W.Frag}
theorem SaysV.fact (c : SaysV cs fn K) (i : Nat) {f : PySem.W.Frag → Bool} (h : cs[i]? = some f := by rfl) : f K = true := by
  have c1 := (He.ba (show ((cs.all fun f => f K) && fn.all fun d => d.ok K) = true from congrArg (fun z : AlV => z.1) c)).1
  exact List.all_eq_true.mp c1 f (List.mem_of_getElem? h)
theorem SaysV.def_ (c : SaysV cs fn K) (i : Nat) {d : DefA} (h : fn[i]? = some d := by rfl) : ∃ fd, FunD K d.name d.qual d.params d.body d.scope (d.dvs K) [] (d.at_ K) fd := by
  have c2 := (He.ba (show ((cs.all fun f => f K) && fn.all fun d => d.ok K) = true from congrArg (fun z : AlV => z.1) c)).2
  have e : fn.map (fun d => fnWA K (d.at_ K)) = fn.map DefA.val := congrArg (fun z : AlV => z.2) c
  have e2 : (fn.map fun d => fnWA K (d.at_ K))[i]? = (fn.map DefA.val)[i]? := by rw [e]
  rw [List.getElem?_map, List.getElem?_map, h] at e2
  exact DefA.funD (Option.some.inj e2) (List.all_eq_true.mp c2 d (List.mem_of_getElem? h))
end

/-! ### what a caller takes of a def -/
/-- the def at f, called with its first n - ds.length arguments written -/
structure FnV (P : Program) (w : World) (W : Wo) (mg : Str → Option Value) (base : Heap) (k : Nat) (f : Addr) (n : Nat) (fs : FS) (ds : List D) : Prop where
  ex : ∃ (fd : FuncData) (ps : List Str) (us : List Value) (dvs : List V), ps.length = n ∧ FnOk P w W.K mg base (L2.CX P w) k f fd ps (spV W ps.length fs) ∧ Binds W.K fd ps us ∧ RepC W ds dvs ∧ Vals dvs us
theorem fnV_of {P : Program} {w : World} {W : Wo} {mg : Str → Option Value} {base : Heap} {x qual : Str} {params : Arguments} {body : List Stmt} {scope : Scope} {kws : List (Str × V)} {f : Addr} {fd : FuncData} {N ps : List Str} {k : Nat} {g : SS}
    (Fd : FunD W.K x qual params body scope [] kws f fd) (S : FnScope N ps scope) (hb : ∀ (kV doc pm : Value) (an : Option Addr) (cdv ct : Value) (us : List Value), us.length = ps.length → bindArgs (PySem.W.fnOf x qual params body scope .none kV doc pm an cdv ct) ⟨us, []⟩ = pure (ps.zip us))
    (hbody : ∀ (cdv : Value) (A : Around) (outer : List Env) (s : Shared) (H : Hp) (E : XK) (C : Fr), Room k (A.deeper (envOfC qual scope s.heap.objs.size f cdv)) → C.er = none →
      PTn (cxOf (L2.CX P w) P w W.K mg base N qual scope f cdv A outer s H E) W C (fun cls d _ H => E cls d H) body g) : FnV P w W mg base (k + 1) f ps.length (fnF N.length g) [] :=
  ⟨fd, ps, [], [], rfl, fn_ok Fd S hbody, Fd.bindsN hb, fun _ => .nil, .nil⟩
section
variable {X : Cx} {W : Wo} {C : Fr} {Wx : WX} {k j n : Nat} {f : Addr} {fs : FS} {ds : List D} {x : Str} {p pos apos : Pos} {e o : Expr} {es : List Expr} {fa : Sem (List Op)} {fo : Sem Hd}
theorem px_callV (ms : List Md) (hK : X.K = W.K) (F : FnV X.prog X.w W X.mg X.base k f n fs ds) (hr : Room j X.A) (hk : k ≤ j) (hm : X.mg x = some (.ref f)) (hkp : PySem.W.keepIn W.K (.ref f) = true) (hx : PassW X Wx) (ha : PXa X W C Wx (e :: es) fa) (hl : ms.length + ds.length = n) (hg : Gl X x := by rfl)
    (hdb : (x == ("__debug__" : Str)) = false := by decide) (he : starEach (e :: es) X.env = (false, eval e X.env) :: starEach es X.env := by rfl) (hpl : (backTo pos (starEach es X.env)).any (·.1) = false := by rfl) : PX X W C Wx (.Call (.Name x p) (e :: es) [] pos) (sFn fs ms ds fa) := by
  obtain ⟨fd, ps, us, dvs, rfl, Fo, hb, hd, hv⟩ := F.ex
  exact px_call ms hK Fo hr hk hm hkp hb hd hv hx ha hl hg hdb he hpl
theorem px_methVx (c0 jm : Nat) (ms : List Md) {pl : PySem.Sem Bool} (hK : X.K = W.K) (hi : Inj W) (hx : W.fnm jm = x) (cl : Cls W.K (W.cl c0)) (hm : Meth W.K (W.cl c0) x f) (F : FnV X.prog X.w W X.mg X.base k f n fs ds) (hr : Room j X.A) (hk : k ≤ j) (hpw : PassW X Wx) (he : PX X W C Wx o fo) (ha : PXa X W C Wx (e :: es) fa) (hl : ms.length + ds.length = n)
    (hst : starEach (e :: es) X.env = (false, eval e X.env) :: starEach es X.env := by rfl) (hpl : (backTo pos (starEach es X.env)).any (·.1) = false := by rfl)
    (ht : eval (.Call (.Attribute o x apos) (e :: es) [] pos) X.env = (do
      let ov ← eval o X.env
      standAt apos.atName
      let (f, first) ← holding [ov] (getMethod ov x pl)
      callWith pos f first (backTo pos (starEach (e :: es) X.env)) (backToKw pos (keywordEach [] X.env))) := by rfl) : PX X W C Wx (.Call (.Attribute o x apos) (e :: es) [] pos) (sMeth c0 jm fs ms ds (sOp fo) fa) := by
  obtain ⟨fd, ps, us, dvs, rfl, Fo, hb, hd, hv⟩ := F.ex
  exact px_meth c0 jm ms hK hi hx cl hm Fo hr hk hb hd hv hpw he ha hl hst hpl ht
theorem px_methV0x (c0 jm : Nat) (ms : List Md) {pl : PySem.Sem Bool} (hK : X.K = W.K) (hi : Inj W) (hx : W.fnm jm = x) (cl : Cls W.K (W.cl c0)) (hm : Meth W.K (W.cl c0) x f) (F : FnV X.prog X.w W X.mg X.base k f n fs ds) (hr : Room j X.A) (hk : k ≤ j) (hpw : PassW X Wx) (he : PX X W C Wx o fo) (hl : ms.length + ds.length = n)
    (ht : eval (.Call (.Attribute o x apos) [] [] pos) X.env = (do
      let ov ← eval o X.env
      standAt apos.atName
      let (f, first) ← holding [ov] (getMethod ov x pl)
      callWith pos f first (backTo pos (starEach [] X.env)) (backToKw pos (keywordEach [] X.env))) := by rfl) : PX X W C Wx (.Call (.Attribute o x apos) [] [] pos) (sMeth0 c0 jm fs ms ds (sOp fo)) := by
  obtain ⟨fd, ps, us, dvs, rfl, Fo, hb, hd, hv⟩ := F.ex
  exact px_meth0 c0 jm ms hK hi hx cl hm Fo hr hk hb hd hv hpw he hl ht
theorem px_makeVx (c : Nat) (ms : List Md) (hK : X.K = W.K) (M : Mk W.K (W.cl c) f) (F : FnV X.prog X.w W X.mg X.base k f n fs ds) (hr : Room j X.A) (hk : k + 1 ≤ j) (hm : X.mg x = some (.ref (W.cl c))) (hpw : PassW X Wx) (ha : PXa X W C Wx (e :: es) fa) (hl : ms.length + 1 + ds.length = n) (hg : Gl X x := by rfl)
    (hdb : (x == ("__debug__" : Str)) = false := by decide) (he : starEach (e :: es) X.env = (false, eval e X.env) :: starEach es X.env := by rfl) (hpl : (backTo pos (starEach es X.env)).any (·.1) = false := by rfl) : PX X W C Wx (.Call (.Name x p) (e :: es) [] pos) (sMake c fs ms ds fa) := by
  obtain ⟨fd, ps, us, dvs, rfl, Fo, hb, hd, hv⟩ := F.ex
  exact px_make c ms hK M Fo hr hk hm hb hd hv hpw ha hl hg hdb he hpl
theorem px_propVx (c0 : Nat) (m : Md) (hK : X.K = W.K) (cl : Cls W.K (W.cl c0)) (hp : ∃ p, PropOf W.K (W.cl c0) x p f) (F : FnV X.prog X.w W X.mg X.base k f 1 fs []) (hr : Room j X.A) (hk : k + 1 ≤ j) (he : PX X W C Wx e fo) (hab : attributeBase e x X.env (eval e X.env) = eval e X.env := by rfl) :
    PX X W C Wx (.Attribute e x pos) (sProp c0 fs m (sOp fo)) := by
  obtain ⟨p, hp⟩ := hp
  obtain ⟨fd, ps, us, dvs, hl, Fo, hb, hd, hv⟩ := F.ex
  have e0 : dvs = [] := by
    have := (hd (fun _ => none)).length
    exact List.length_eq_zero_iff.mp this.symm
  subst e0
  cases hv
  exact px_prop c0 m hK cl hp Fo hl hr hk hb he hab
/-- an exception class -/
structure FnX (P : Program) (w : World) (W : Wo) (mg : Str → Option Value) (base : Heap) (k : Nat) (c : Nat) (js : List Nat) : Prop where
  ex : ∃ (fI : Addr) (fd : FuncData) (ps : List Str), XtC W.K (W.cl c) ∧ PySem.W.findIn W.K (.ref (W.cl c)) "__init__" = some (some (.ref fI)) ∧ PySem.W.typeIn W.K (.ref fI) = some (.type "function") ∧ FnOk P w W.K mg base (L2.CX P w) k fI fd ps (spXi (W.cl c) (js.map W.fnm)) ∧ Binds W.K fd ps []
theorem p1_raiseV (c : Nat) (js : List Nat) {pos2 : Pos} (hK : X.K = W.K) (hc : X.calm = true) (tk : Takes X Wx) (F : FnX X.prog X.w W X.mg X.base k c js) (hr : Room j X.A) (hk : k + 1 ≤ j) (hm : X.mg x = some (.ref (W.cl c))) (ha : PXa X W C Wx (e :: es) fa) (hj : js.length ≤ 900 := by decide) (hg : Gl X x := by rfl)
    (hdb : (x == ("__debug__" : Str)) = false := by decide) (he : starEach (e :: es) X.env = (false, eval e X.env) :: starEach es X.env := by rfl) (hpl : (backTo pos (starEach es X.env)).any (·.1) = false := by rfl) :
    PT1 X W C Wx (.Raise (some (.Call (.Name x p) (e :: es) [] pos)) none pos2) (gRaise c js fa) := by
  obtain ⟨fI, fd, ps, T, iC, tI, Fo, hb⟩ := F.ex
  exact p1_raise c js hK hc tk T iC tI Fo hr hk hb hm ha hj hg hdb he hpl
end
theorem fnX1 {P : Program} {w : World} {W : Wo} {mg : Str → Option Value} {base : Heap} {x qual f p : Str} {params : Arguments} {body : List Stmt} {scope : Scope} {kws : List (Str × V)} {fa : Addr} {fd : FuncData} {k c j : Nat}
    (Fd : FunD W.K x qual params body scope [] kws fa fd) (S : FnScope ["self", p] ["self", p] scope) (T : xtB W.K (W.cl c) = true) (I : initB W.K (W.cl c) fa = true) (hno : noB W.K (W.cl c) f = true) (hj : W.fnm j = f)
    (hbd : ∀ (kV doc pm : Value) (an : Option Addr) (cdv ct : Value) (us : List Value), us.length = 2 → bindArgs (PySem.W.fnOf x qual params body scope .none kV doc pm an cdv ct) ⟨us, []⟩ = pure ((["self", p] : List Str).zip us))
    (hb : ∀ (cdv : Value) (A : Around) (outer : List Env) (s : Shared) (H : Hp) (E : XK), PSs (cxOf (L2.CX P w) P w W.K mg base ["self", p] qual scope fa cdv A outer s H E) body (tXst W.K f (tVar 0) (tVar 1))) : FnX P w W mg base (k + 1) c [j] := by
  unfold initB at I
  simp only [Bool.and_eq_true, decide_eq_true_eq] at I
  refine ⟨fa, fd, _, xtB_ok T, I.1, I.2, ?_, Fd.bindsN (ps := ["self", p]) hbd⟩
  have e : ([j].map W.fnm) = [f] := by rw [List.map_cons, hj]; rfl
  rw [e]
  exact xinit1 Fd S (xtB_ok T) (noB_ok hno) hb
/-- the names are apart -/
theorem rep_len (n : Nat) : (rep n).length = 1000 + n := by
  show (List.replicate (1000 + n) (97 : Nat)).toArray.size = _
  rw [List.size_toArray, List.length_replicate]
theorem fnOfL_inj {l : List Str} (h : okNames l = true) : ∀ i j, fnOfL l i = fnOfL l j → i = j := by
  obtain ⟨h1, h2⟩ := Bool.and_eq_true_iff.mp h
  have nd := of_decide_eq_true h1
  have sh : ∀ (i : Nat) (x : Str), l[i]? = some x → x.length < 1000 := fun i x e => of_decide_eq_true (List.all_eq_true.mp h2 x (List.mem_of_getElem? e))
  intro i j e
  unfold fnOfL at e
  cases qi : l[i]? with
  | some x =>
    cases qj : l[j]? with
    | some y =>
      rw [qi, qj] at e
      simp only at e
      subst e
      exact nodup_ix nd qi qj
    | none =>
      rw [qi, qj] at e
      simp only at e
      have := sh i x qi
      rw [e, rep_len] at this
      omega
  | none =>
    cases qj : l[j]? with
    | some y =>
      rw [qi, qj] at e
      simp only at e
      have := sh j y qj
      rw [← e, rep_len] at this
      omega
    | none =>
      rw [qi, qj] at e
      simp only at e
      have h1 := congrArg Str.length e
      rw [rep_len, rep_len] at h1
      omega
end VL

set_option Elab.async false
set_option linter.all false
set_option maxRecDepth 100000
set_option maxHeartbeats 2000000
namespace VL
open PySem PySem.Spec PyProof.Rows L2

/-! ### ints first -/
theorem hu_of {k : Nat} {A : Around} (h : Room k A) : A.units + 64 < cLine := by have := h.un; omega
section
variable {W : Wo}
theorem prim_ltI {g : Int → Int → Bool} {f : PyData → PyData → Bool} (hg : ∀ i j, f (.int i) (.int j) = g i j) : Prim2 W (rLt2 W.K f) (oLtI g f) := by
  intro d1 d2 hd F H v1 v2 Q s r1 r2 e k
  have gen : oLt f d1 d2 = some hd → rLt2 W.K f v1 v2 H Q := fun e => prim_lt d1 d2 hd F H v1 v2 Q s r1 r2 e k
  cases d1 with
  | int i =>
    cases d2 with
    | int j =>
      cases e
      refine gen ?_
      show some (Hd.fz (.bl (f (.int i) (.int j)))) = _
      rw [hg]
    | _ => exact gen e
  | _ => exact gen (by cases d2 <;> exact e)
def oCmpI (g : Int → Int → Bool) (f : PyData → PyData → Bool) (a b : D) : Option Hd := match a, b with
  | .int i, .int j => some (.fz (.bl (g i j)))
  | a, b => oCmp f a b
theorem prim_cmpI {g : Int → Int → Bool} {f : PyData → PyData → Bool} (hg : ∀ i j, f (.int i) (.int j) = g i j) : Prim2 W (rEq2 W.K f) (oCmpI g f) := by
  intro d1 d2 hd F H v1 v2 Q s r1 r2 e k
  have gen : oCmp f d1 d2 = some hd → rEq2 W.K f v1 v2 H Q := fun e => prim_cmp d1 d2 hd F H v1 v2 Q s r1 r2 e k
  cases d1 with
  | int i =>
    cases d2 with
    | int j =>
      cases e
      refine gen ?_
      show some (Hd.fz (.bl (f (.int i) (.int j)))) = _
      rw [hg]
    | _ => exact gen e
  | _ => exact gen (by cases d2 <;> exact e)
theorem dl (i j : Int) : PySem.W.dataLt (.int i) (.int j) = decide (i < j) := by
  exact PySem.W.dataLt_int i j
theorem eqvI (i j : Int) : PyData.eqv (.int i) (.int j) = decide (i = j) := by
  simp [PyData.eqv]
  rfl
def gEq (i j : Int) : Bool := decide (i = j)
def gNe (i j : Int) : Bool := !decide (i = j)
def gLt (i j : Int) : Bool := decide (i < j)
def gGt (i j : Int) : Bool := decide (j < i)
def gLe (i j : Int) : Bool := !decide (j < i)
def gGe (i j : Int) : Bool := !decide (i < j)
abbrev oEq := oCmpI gEq PyData.eqv
abbrev oNe := oCmpI gNe fun p q => !PyData.eqv p q
abbrev oLtA := oLtI gLt fun p q => PySem.W.dataLt p q
abbrev oGtA := oLtI gGt fun p q => PySem.W.dataLt q p
abbrev oLeA := oLtI gLe fun p q => !PySem.W.dataLt q p
abbrev oGeA := oLtI gGe fun p q => !PySem.W.dataLt p q
theorem prim_eq : Prim2 W (rEq2 W.K PyData.eqv) oEq := prim_cmpI fun i j => eqvI i j
theorem prim_ne : Prim2 W (rEq2 W.K fun p q => !PyData.eqv p q) oNe := prim_cmpI fun i j => by rw [eqvI]; rfl
theorem prim_ltA : Prim2 W (rLt2 W.K fun p q => PySem.W.dataLt p q) oLtA := prim_ltI fun i j => dl i j
theorem prim_gtA : Prim2 W (rLt2 W.K fun p q => PySem.W.dataLt q p) oGtA := prim_ltI fun i j => dl j i
theorem prim_leA : Prim2 W (rLt2 W.K fun p q => !PySem.W.dataLt q p) oLeA := prim_ltI fun i j => by rw [dl]; rfl
theorem prim_geA : Prim2 W (rLt2 W.K fun p q => !PySem.W.dataLt p q) oGeA := prim_ltI fun i j => by rw [dl]; rfl
end
/-- classes by a list -/
def ocL (cs : List Nat) (c : Nat) : Bool := cs.contains c
theorem ocL_ok {cs : List Nat} {P : Nat → Prop} (h : ∀ c ∈ cs, P c) : ∀ c, ocL cs c = true → P c := fun c hc => h c (by simpa [ocL] using hc)
theorem pxt_w {X : Cx} {W : Wo} {C : Fr} {Wx : WX} {e : Expr} {t : Sem Bool} (h : PXw X W C Wx e t) : PXt X W C Wx e t := PW.pt h
/-- what exceptions match, by a list -/
def exL (l : List (Nat × Bool)) (c : Nat) : Option Bool := l.lookup c
theorem exL_ok {K : PySem.W.Frag} {cl : Nat → Addr} {c0 : Value} : ∀ {l : List (Nat × Bool)}, (∀ p ∈ l, PySem.W.exmOne K (.ref (cl p.1)) c0 = some p.2) → ExF K cl c0 (exL l)
  | [], _, _, _, e => by cases e
  | (n, v) :: r, h, c, b, e => by
    unfold exL at e
    rw [List.lookup_cons] at e
    cases q : (c == n) with
    | true =>
      rw [q] at e
      cases e
      have := eq_of_beq q
      subst this
      exact h (c, v) List.mem_cons_self
    | false =>
      rw [q] at e
      exact exL_ok (fun p hp => h p (List.mem_cons_of_mem _ hp)) c b e
end VL

set_option Elab.async false
set_option linter.all false
set_option maxRecDepth 100000
set_option maxHeartbeats 2000000
namespace VL
open PySem PySem.Spec PyProof.Rows L2

/-! ### targets by themselves -/
theorem tok_name (i : Nat) : TgOk [i] (kName i) := fun d S S' e => by
  cases e
  refine ⟨List.length_set, fun j hj => List.getElem?_set_ne fun z => hj (by rw [z]; exact List.mem_cons_self), fun j s h hj m => ?_⟩
  obtain rfl := List.mem_singleton.mp hj
  rcases getElem?_set_cases h with ⟨_, rfl⟩ | ⟨n, _⟩
  · cases m
  · exact absurd rfl n
theorem tok_nil : TgsOk [] kNil := fun d S S' e => by
  cases d with
  | nil => cases e; exact ⟨rfl, fun _ _ => rfl, fun _ _ h _ _ => h⟩
  | cons _ _ => cases e
theorem tok_cons {g : Tg} {r : List D → Sl → Option Sl} {ts us : List Nat} (h1 : TgOk ts g) (h2 : TgsOk us r) : TgsOk (ts ++ us) (kCons g r) := fun ds S S' e => by
  cases ds with
  | nil => cases e
  | cons d ds' =>
    have e' : (match g d S with | some S1 => r ds' S1 | none => none) = some S' := e
    cases q : g d S with
    | none => rw [q] at e'; cases e'
    | some S1 =>
      rw [q] at e'
      obtain ⟨a1, a2, a3⟩ := h1 d S S1 q
      obtain ⟨b1, b2, b3⟩ := h2 ds' S1 S' e'
      refine ⟨b1.trans a1, fun i hi => (b2 i fun z => hi (List.mem_append_right _ z)).trans (a2 i fun z => hi (List.mem_append_left _ z)), fun i s hs hi m => ?_⟩
      have h1' : S1[i]? = some s := by
        by_cases hu : i ∈ us
        · exact b3 i s hs hu m
        · rw [← b2 i hu]; exact hs
      by_cases ht : i ∈ ts
      · exact a3 i s h1' ht m
      · rw [← a2 i ht]; exact h1'
theorem tok_tup {n : Nat} {r : List D → Sl → Option Sl} {ts : List Nat} (h : TgsOk ts r) : TgOk ts (kTup n r) := fun d S S' e => by
  cases d with
  | tup ds =>
    have e' : (if ds.length = n then r ds S else none) = some S' := e
    by_cases c : ds.length = n
    · rw [if_pos c] at e'; exact h ds S S' e'
    · rw [if_neg c] at e'; cases e'
  | lst ds =>
    have e' : (if ds.length = n then r ds S else none) = some S' := e
    by_cases c : ds.length = n
    · rw [if_pos c] at e'; exact h ds S S' e'
    · rw [if_neg c] at e'; cases e'
  | _ => cases e

/-! ### name += e -/
def gAugN (i : Nat) (oo : D → D → Option Hd) (f : Sem Op) : SS := fun S => match S[i]? with
  | some (.va _) => gAug i oo f S
  | _ => .bad
abbrev oAddI := oI fun i j => .int (i + j)
section
variable {X : Cx} {W : Wo} {C : Fr} {Wx : WX} {e : Expr} {f : Sem Hd} {pos pos' : Pos} {x : Str}
theorem p1_augAdd (i : Nat) (hN : X.N.Nodup) (he : PX X W C Wx e f) (hi : X.N[i]? = some x := by rfl) (hx : Loc X.env.scope x := by first | exact Or.inl rfl | exact Or.inr rfl)
    (hf : X.fn x = true ∨ X.env.scope.names.lookup x = some .local := by first | exact .inl rfl | exact .inr rfl | assumption) : PT1 X W C Wx (.AugAssign (.Name x pos') .Add e pos) (gAugN i oAddI (sOp f)) := p1_aug i ip_add prim_ipI hN he hi hx hf
theorem p1_augSub (i : Nat) (hN : X.N.Nodup) (he : PX X W C Wx e f) (hi : X.N[i]? = some x := by rfl) (hx : Loc X.env.scope x := by first | exact Or.inl rfl | exact Or.inr rfl)
    (hf : X.fn x = true ∨ X.env.scope.names.lookup x = some .local := by first | exact .inl rfl | exact .inr rfl | assumption) : PT1 X W C Wx (.AugAssign (.Name x pos') .Sub e pos) (gAugN i oSub (sOp f)) := p1_aug i ip_sub prim_ipI hN he hi hx hf
end
def oMax2 := oMm2 fMax
def oMin2 := oMm2 fMin
def oMax3 := oMm3 fMax
def oMin3 := oMm3 fMin
def oMinL := oInts fun n ns => ns.foldl min n
def oMaxL := oInts fun n ns => ns.foldl max n
end VL

set_option Elab.async false
set_option linter.all false
set_option maxRecDepth 100000
set_option maxHeartbeats 2000000
namespace VL
open PySem PySem.Spec PyProof.Rows L2

/-! ### the law's end -/
theorem walk_ofV {l : PySem.W.OpenLaw} {n k : Nat} {q : Program} {loose : List Str} {XP : (Str → Option Value) → Heap → Prop} {YP : World → Heap → Prop} {d : DefRec} {x : Str}
    (hn : l.most = some n) (hn2 : n ≤ sizeLine) (hdf : d.params.defaults = []) (hr : Room k callerA)
    (F : ∀ (w : World) (mg : Str → Option Value) (fa : Addr) (h : Heap), YP w h → h.Ns mainGlobals mg → mg d.name = some (.ref fa) →
      ∃ (K : PySem.W.Frag) (fd : FuncData) (sp : Sp), K.In h ∧ (∀ (s : Shared) (u : Value), BindsTo s fd ⟨[u], []⟩ [(x, u)]) ∧
        (∀ (H : Hp) (a : Addr) (ns : List Int), ns.length ≤ n → Only H → SqL K H a (ns.map V.int) → sp [.ref a] H (fun v _ => v = .bl true) fun _ _ _ => False) ∧
        ∀ base : Heap, K.In base → base.Ns mainGlobals mg → FnOk l.prog w K mg base (L2.CX l.prog w) k fa fd [x] sp) :
    PySem.W.WalkO q loose XP YP l.row.toRowW d [] (fun f vs => PySem.call f vs) := by
  refine Att.attach_call hn hdf fun w s₀ s₁ mg mb fa o pm cd doc a vs ns G Y ho hd hcd hmg hobj hints hlen hg => ?_
  obtain ⟨K, fd, sp, KX, hb, hsp, hF⟩ := F w mg fa _ Y G.T.g hmg
  exact law_call KX G.T.g G.T.b G.T.builtins G.T.nolimit hg hobj hints (Nat.le_trans hlen hn2) hr hF hb (fun H hO hS => hsp H a ns hlen hO hS) fun H e s' ⟨_, _, _, _, _, _, _, _, _, _, _, _, z⟩ => z
/-- the law's promise used -/
theorem law_sp {W : Wo} {f : FS} {H : Hp} {a : Addr} {ns : List Int} (hS : SqL W.K H a (ns.map V.int)) (h : ∃ o outs, f [.va (.scr ns)] = .rt o (.bl true) outs) : spV W 1 f [.ref a] H (fun v _ => v = .bl true) fun _ _ _ => False := by
  obtain ⟨o, outs, e⟩ := h
  have g1 : ∀ {i : Nat} {s : Slot}, ([.va (.scr ns)] : List Slot)[i]? = some s → i = 0 ∧ s = .va (.scr ns) := fun {i s} h => by
    cases i with
    | zero => simp at h; exact ⟨rfl, h.symm⟩
    | succ i => simp at h
  refine ⟨rfl, ⟨H, H, fun _ => none, none⟩, [.va (.scr ns)], rfl, rfl, fun i b z => (nomatch z), ?_, ?_⟩
  · exact {
      sub := Same.refl _, f0 := Same.refl _
      new := fun b h _ => h
      keep := fun b o h _ => h
      live := fun b h => h
      len := rfl
      slot := fun i s h => by
        obtain ⟨rfl, rfl⟩ := g1 h
        exact ⟨.ref a, rfl, .scr hS⟩
      own := fun i d b h _ => by
        obtain ⟨_, z⟩ := g1 h
        cases z
      ios := fun i d b h _ => by
        obtain ⟨_, z⟩ := g1 h
        cases z
      sep := fun i j s t b n h1 hw _ _ _ _ => by
        obtain ⟨_, rfl⟩ := g1 h1
        cases hw
      bos := fun i d b h _ _ => by
        obtain ⟨_, z⟩ := g1 h
        cases z
      er := fun x h _ => by cases h }
  · show FAt W _ (f [.va (.scr ns)]) _ _
    rw [e]
    intro v F' H' en ro
    cases o with
    | false =>
      have r : Rep W F' (.bl true) v := ro
      cases r
      rfl
    | true =>
      obtain ⟨b, _, _, z, _⟩ := ro
      exact z.elim
end VL

set_option Elab.async false
set_option linter.all false
set_option maxRecDepth 100000
set_option maxHeartbeats 4000000
namespace VL
open PySem PySem.Spec PyProof.Rows L2

/-! ### the pool -/
def g_next : SS := (gSeq (gIf (sTb (sBin oEq (sOp (sCall oLen (sCons (sOp (sName 0)) sNil))) (sOp (sC (.int 0))))) (gRet (sC (.int 0))) gNx) (gRet (sBin oMod (sOp (sCall oInt (sCons (sOp (sPop 0)) sNil))) (sOp (sName 1)))))
def F_next : FS := fnF 2 g_next
def dInts (ps : List Int) : D := .lst (ps.map .int)
theorem next_nil (m : Int) : F_next [.io (dInts []), .va (.int m)] = .rt false (.int 0) [.io (dInts []), .un] := rfl
theorem next_gen (ds es : List D) (p m : Int) (hm : 0 < m) (h1 : ds[ds.length - 1]? = some (.int p)) (h2 : ds.dropLast = es) (h3 : ds ≠ []) : F_next [.io (.lst ds), .va (.int m)] = .rt false (.int (p % m)) [.io (.lst es), .un] := by
  simp [F_next, fnF, g_next, gSeq, gIf, rS, Res.bind, sTb, sBin, sOp, sCall, sCons, sNil, sName, sC, fin2, finN, getAll, Op.get, Slot.got, opnd, hdB, oCmpI, gEq, oLen, gRet, retHd, sPop, wrLst, Slot.wr, oInt, oIc, outsOf, Slot.put, gNx, hm, h1, h2, h3]
theorem next_snoc (qs : List Int) (p m : Int) (hm : 0 < m) : F_next [.io (dInts (qs ++ [p])), .va (.int m)] = .rt false (.int (p % m)) [.io (dInts qs), .un] :=
  next_gen _ _ p m hm (by simp) (by simp) (by simp)
theorem next_ok (ps : List Int) (m : Int) (hm : 0 < m) : ∃ (r : Int) (ps' : List Int), F_next [.io (dInts ps), .va (.int m)] = .rt false (.int r) [.io (dInts ps'), .un] ∧ 0 ≤ r ∧ r < m := by
  rcases List.eq_nil_or_concat ps with rfl | ⟨qs, p, rfl⟩
  · exact ⟨0, [], next_nil m, Int.le_refl _, hm⟩
  · rw [List.concat_eq_append]
    exact ⟨p % m, qs, next_snoc qs p m hm, Int.emod_nonneg _ (by omega), Int.emod_lt_of_pos _ hm⟩
/-! loops -/
theorem forL_inv {g : Tg} {body : SS} (P : Nat → Sl → Prop) : ∀ (ds : List D) (n : Nat) (S : Sl), P n S → (∀ d ∈ ds, ∀ n S, P n S → ∃ S1 S2, g d S = some S1 ∧ body S1 = .nx S2 ∧ P (n + 1) S2) → ∃ S', forL g body ds S = .nx S' ∧ P (n + ds.length) S'
  | [], n, S, h, _ => ⟨S, rfl, h⟩
  | d :: ds, n, S, h, st => by
    obtain ⟨S1, S2, e1, e2, p2⟩ := st d List.mem_cons_self n S h
    obtain ⟨S', e3, p3⟩ := forL_inv P ds (n + 1) S2 p2 fun d hd => st d (List.mem_cons_of_mem _ hd)
    refine ⟨S', ?_, by rw [List.length_cons, Nat.add_comm ds.length 1, ← Nat.add_assoc]; exact p3⟩
    show (match g d S with
      | some S1 => (match body S1 with
        | .nx S2 => forL g body ds S2
        | .ct S2 => forL g body ds S2
        | .bk S2 => .nx S2
        | .rt o d S2 => .rt o d S2
        | .ex x S2 => .ex x S2
        | .bad => .bad)
      | none => .bad) = .nx S'
    rw [e1]
    show (match body S1 with
        | .nx S2 => forL g body ds S2
        | .ct S2 => forL g body ds S2
        | .bk S2 => .nx S2
        | .rt o d S2 => .rt o d S2
        | .ex x S2 => .ex x S2
        | .bad => .bad) = .nx S'
    rw [e2]
    exact e3
theorem forL_ix {g : Tg} {body : SS} (P : Nat → Sl → Prop) : ∀ (ds : List D) (n : Nat) (S : Sl), P n S → (∀ (i : Nat) (d : D) (S : Sl), ds[i]? = some d → P (n + i) S → ∃ S1 S2, g d S = some S1 ∧ body S1 = .nx S2 ∧ P (n + i + 1) S2) → ∃ S', forL g body ds S = .nx S' ∧ P (n + ds.length) S'
  | [], n, S, h, _ => ⟨S, rfl, h⟩
  | d :: ds, n, S, h, st => by
    obtain ⟨S1, S2, e1, e2, p2⟩ := st 0 d S rfl h
    obtain ⟨S', e3, p3⟩ := forL_ix P ds (n + 1) S2 p2 fun i d S hd p => by
      have e : n + 1 + i = n + (i + 1) := by omega
      rw [e] at p ⊢
      exact st (i + 1) d S (by simpa using hd) p
    refine ⟨S', ?_, by rw [List.length_cons, Nat.add_comm ds.length 1, ← Nat.add_assoc]; exact p3⟩
    show (match g d S with
      | some S1 => (match body S1 with
        | .nx S2 => forL g body ds S2
        | .ct S2 => forL g body ds S2
        | .bk S2 => .nx S2
        | .rt o d S2 => .rt o d S2
        | .ex x S2 => .ex x S2
        | .bad => .bad)
      | none => .bad) = .nx S'
    rw [e1]
    show (match body S1 with
        | .nx S2 => forL g body ds S2
        | .ct S2 => forL g body ds S2
        | .bk S2 => .nx S2
        | .rt o d S2 => .rt o d S2
        | .ex x S2 => .ex x S2
        | .bad => .bad) = .nx S'
    rw [e2]
    exact e3
theorem rgI_get {lo : Int} {n i : Nat} {d : D} (h : (rgI lo n)[i]? = some d) : i < n ∧ d = .int (lo + i) := by
  unfold rgI at h
  rw [List.getElem?_map] at h
  cases q : (List.range n)[i]? with
  | none => rw [q] at h; cases h
  | some j =>
    rw [q] at h
    cases h
    obtain ⟨h1, h2⟩ := List.getElem?_eq_some_iff.mp q
    rw [List.length_range] at h1
    rw [List.getElem_range] at h2
    subst h2
    exact ⟨h1, rfl⟩
theorem rgI_mem {lo : Int} {n : Nat} {d : D} (h : d ∈ rgI lo n) : ∃ i : Nat, i < n ∧ d = .int (lo + i) := by
  unfold rgI at h
  obtain ⟨i, hi, rfl⟩ := List.mem_map.mp h
  exact ⟨i, List.mem_range.mp hi, rfl⟩
theorem rgI_length (lo : Int) (n : Nat) : (rgI lo n).length = n := by
  unfold rgI
  rw [List.length_map, List.length_range]
theorem atI_nat {α : Type} {l : List α} {i : Nat} (h : i < l.length) : L2.atI l (i : Int) = some l[i] := by
  unfold L2.atI ixN
  rw [if_pos (by omega), if_pos (by omega)]
  simp [h]
def b_big : SS := (gIf (sTb (sBin oGtA (sOp (sName 3)) (sOp (sC (.int 0))))) (gSeq (gDrop (sAppend 1 (sBin oMod (sOp (sCall oInt (sCons (sOp (sName 3)) sNil))) (sOp (sC (.int 30)))))) (gSet 3 (sBin oFdiv (sOp (sName 3)) (sOp (sC (.int 30)))))) gNx)
theorem big_step (t0 s5 : Slot) (L : List Int) (at_ : Slot) (c t : Int) (hL : L.length < 16777216) : ∃ (L' : List Int) (c' : Int), b_big [t0, .ow (dInts L), at_, .va (.int c), .va (.int t), s5] = .nx [t0, .ow (dInts L'), at_, .va (.int c'), .va (.int t), s5] ∧ L'.length ≤ L.length + 1 := by
  by_cases h : 0 < c
  · refine ⟨L ++ [c % 30], c / 30, ?_, by simp⟩
    have hd : decide (0 < c) = true := decide_eq_true h
    simp [b_big, gSeq, gIf, rS, Res.bind, sTb, sBin, sOp, sOv, sV, toV, sCall, sCons, sNil, sName, sC, fin2, finN, getAll, Op.get, Slot.got, opnd, hdB, oLtI, gGt, oInt, oIc, gDrop, sAppend, wrLst, Slot.wr, Slot.put, gNx, gSet, setHd, dInts, h, hL, cDiv]
  · refine ⟨L, c, ?_, by omega⟩
    simp [b_big, gSeq, gIf, rS, Res.bind, sTb, sBin, sOp, sName, sC, fin2, Op.get, Slot.got, opnd, hdB, oLtI, gGt, gNx, h]
def b_small : SS := (gSeq (gSet 5 (sBin oMod (sOp (sCall oInt (sCons (sOp (sBin oAdd (sOp (sBin oAdd (sOp (sBin oAdd (sOp (sBin oMulI (sOp (sName 5)) (sOp (sName 5)))) (sOp (sBin oMulI (sOp (sName 4)) (sOp (sC (.int 911))))))) (sOp (sName 2)))) (sOp (sC (.int 3))))) sNil))) (sOp (sC (.int 999983))))) (gDrop (sAppend 1 (sBin oFdiv (sOp (sName 5)) (sOp (sC (.int 7)))))))
theorem small_step (t0 : Slot) (L : List Int) (at_ c3 : Slot) (a t n : Int) (ha : at_ = .va (.int a)) (hL : L.length < 16777216) (hn : 0 ≤ n) (hn2 : n < 1000003) : ∃ (L' : List Int) (n' : Int), b_small [t0, .ow (dInts L), at_, c3, .va (.int t), .va (.int n)] = .nx [t0, .ow (dInts L'), at_, c3, .va (.int t), .va (.int n')] ∧ L'.length ≤ L.length + 1 ∧ 0 ≤ n' ∧ n' < 1000003 := by
  subst ha
  have hc : cMul n n = true := by
    unfold cMul
    rw [Bool.or_eq_true]
    left
    rw [Bool.and_eq_true]
    exact ⟨decide_eq_true (by omega), decide_eq_true (by omega)⟩
  have hc2 : cMul t 911 = true := by
    unfold cMul
    rw [Bool.or_eq_true]
    right
    decide
  have h0 := Int.emod_nonneg (n * n + t * 911 + a + 3) (show (999983 : Int) ≠ 0 by omega)
  have h1 := Int.emod_lt_of_pos (n * n + t * 911 + a + 3) (show (0 : Int) < 999983 by omega)
  refine ⟨L ++ [(n * n + t * 911 + a + 3) % 999983 / 7], (n * n + t * 911 + a + 3) % 999983, ?_, by simp, h0, by omega⟩
  simp [b_small, gSeq, rS, Res.bind, sBin, sOp, sOv, sV, toV, sCall, sCons, sNil, sName, sC, fin2, finN, getAll, Op.get, Slot.got, opnd, oInt, oI, oIc, oAdd, gDrop, sAppend, wrLst, Slot.wr, Slot.put, gSet, setHd, dInts, hL, cDiv, hc, hc2]
def b_at : SS := (gSeq (gSet 3 (sCall oInt (sCons (sOp (sBin oIx (sOp (sName 0)) (sOp (sName 2)))) sNil))) 
  (gSeq (gIf (sTb (sBin oLtA (sOp (sName 3)) (sOp (sC (.int 0))))) (gSet 3 (sBin oSub (sOp (sC (.int 2))) (sOp (sName 3)))) gNx) (gIf (sTb (sBin oGeA (sOp (sName 3)) (sOp (sBin oPow (sOp (sC (.int 10))) (sOp (sC (.int 18))))))) (gFor (sRange (sCons (sOp (sC (.int 48))) sNil)) (kName 4) b_big) 
  (gSeq (gSet 5 (sBin oMod (sOp (sCall oInt (sCons (sOp (sBin oAdd (sOp (sBin oAdd (sOp (sBin oMulI (sOp (sName 3)) (sOp (sC (.int 30011))))) (sOp (sBin oMulI (sOp (sName 2)) (sOp (sC (.int 4513))))))) (sOp (sC (.int 77))))) sNil))) (sOp (sC (.int 1000003))))) (gFor (sRange (sCons (sOp (sC (.int 5))) sNil)) (kName 4) b_small)))))
def g_pool : SS := (gSeq (gSet 1 (sLst sNil)) (gSeq (gFor (sRange (sCons (sOp (sCall oMin2 (sCons (sOp (sCall oLen (sCons (sOp (sName 0)) sNil))) (sCons (sOp (sC (.int 63))) sNil)))) sNil)) (kName 2) b_at) (gSeq (gDrop (sReverse 1)) (gRet (sName 1)))))
def F_pool : FS := fnF 6 g_pool
/-- the slots between the turns -/
def PoolS (ns : List Int) (n : Nat) (S : Sl) : Prop := ∃ (L : List Int) (s2 s3 s4 s5 : Slot), S = [.va (.scr ns), .ow (dInts L), s2, s3, s4, s5] ∧ L.length ≤ 48 * n
theorem big_loop (t0 s5 : Slot) (L : List Int) (at_ : Slot) (c : Int) (s4 : Slot) (hL : L.length < 16000000) : ∃ (L' : List Int) (s3' s4' s5' : Slot), gFor (sRange (sCons (sOp (sC (.int 48))) sNil)) (kName 4) b_big [t0, .ow (dInts L), at_, .va (.int c), s4, s5] = .nx [t0, .ow (dInts L'), at_, s3', s4', s5'] ∧ L'.length ≤ L.length + 48 := by
  obtain ⟨S', e, L', c', s4', eS, hl⟩ := forL_ix (g := kName 4) (body := b_big) (fun n S => ∃ (L' : List Int) (c' : Int) (s4' : Slot), S = [t0, .ow (dInts L'), at_, .va (.int c'), s4', s5] ∧ L'.length ≤ L.length + n) (rgI 0 48) 0 [t0, .ow (dInts L), at_, .va (.int c), s4, s5] ⟨L, c, s4, rfl, Nat.le_refl _⟩ fun i d S hd ⟨L1, c1, s41, eS, hl⟩ => by
    obtain ⟨hi, rfl⟩ := rgI_get hd
    subst eS
    obtain ⟨L2, c2, e2, h2⟩ := big_step t0 s5 L1 at_ c1 (0 + i) (by omega)
    exact ⟨_, _, rfl, e2, L2, c2, _, rfl, by omega⟩
  subst eS
  rw [rgI_length] at hl
  exact ⟨L', _, _, _, e, by omega⟩
theorem small_loop (t0 : Slot) (L : List Int) (c3 : Slot) (a n : Int) (s4 : Slot) (hL : L.length < 16000000) (hn : 0 ≤ n) (hn2 : n < 1000003) : ∃ (L' : List Int) (s4' s5' : Slot), gFor (sRange (sCons (sOp (sC (.int 5))) sNil)) (kName 4) b_small [t0, .ow (dInts L), .va (.int a), c3, s4, .va (.int n)] = .nx [t0, .ow (dInts L'), .va (.int a), c3, s4', s5'] ∧ L'.length ≤ L.length + 5 := by
  obtain ⟨S', e, L', n', s4', eS, hl, _, _⟩ := forL_ix (g := kName 4) (body := b_small) (fun m S => ∃ (L' : List Int) (n' : Int) (s4' : Slot), S = [t0, .ow (dInts L'), .va (.int a), c3, s4', .va (.int n')] ∧ L'.length ≤ L.length + m ∧ 0 ≤ n' ∧ n' < 1000003) (rgI 0 5) 0 [t0, .ow (dInts L), .va (.int a), c3, s4, .va (.int n)] ⟨L, n, s4, rfl, Nat.le_refl _, hn, hn2⟩ fun i d S hd ⟨L1, n1, s41, eS, hl, h1, h2⟩ => by
    obtain ⟨hi, rfl⟩ := rgI_get hd
    subst eS
    obtain ⟨L2, n2, e2, h3, h4, h5⟩ := small_step t0 L1 (.va (.int a)) c3 a (0 + i) n1 rfl (by omega) h1 h2
    exact ⟨_, _, rfl, e2, L2, n2, _, rfl, by omega, h4, h5⟩
  subst eS
  rw [rgI_length] at hl
  exact ⟨L', _, _, e, by omega⟩
theorem ge_step (t0 t1 t2 s4 s5 : Slot) (c : Int) (g1 g2 : SS) : gIf (sTb (sBin oGeA (sOp (sName 3)) (sOp (sBin oPow (sOp (sC (.int 10))) (sOp (sC (.int 18))))))) g1 g2 [t0, t1, t2, .va (.int c), s4, s5] = if c < 1000000000000000000 then g2 [t0, t1, t2, .va (.int c), s4, s5] else g1 [t0, t1, t2, .va (.int c), s4, s5] := by
  have e : sTb (sBin oGeA (sOp (sName 3)) (sOp (sBin oPow (sOp (sC (.int 10))) (sOp (sC (.int 18)))))) [t0, t1, t2, .va (.int c), s4, s5] = .ok (!decide (c < 1000000000000000000)) [t0, t1, t2, .va (.int c), s4, s5] := by
    have ep : oPow (.int 10) (.int 18) = some (.fz (.int 1000000000000000000)) := by simp [oIc, cPow]
    simp [sTb, sBin, sOp, sName, sC, Res.bind, fin2, Op.get, Slot.got, opnd, hdB, ep, oLtI, gGe]
  unfold gIf
  rw [e]
  by_cases h : c < 1000000000000000000
  · simp [rS, h]
  · simp [rS, h]
theorem at_1 (ns L : List Int) (s3 s4 s5 : Slot) (a v : Int) (ha : L2.atI ns a = some v) : gSet 3 (sCall oInt (sCons (sOp (sBin oIx (sOp (sName 0)) (sOp (sName 2)))) sNil)) [.va (.scr ns), .ow (dInts L), .va (.int a), s3, s4, s5] = .nx [.va (.scr ns), .ow (dInts L), .va (.int a), .va (.int v), s4, s5] := by
  simp only [gSet, sCall, sCons, sOp, sBin, sName, Res.bind, fin2, Op.get, Slot.got, opnd, oIx, sNil, finN, getAll, oInt, rS, setHd, List.getElem?_cons_zero, List.getElem?_cons_succ, ha]
  rfl
theorem at_2 (t0 t1 t2 s4 s5 : Slot) (v : Int) : ∃ c : Int, gIf (sTb (sBin oLtA (sOp (sName 3)) (sOp (sC (.int 0))))) (gSet 3 (sBin oSub (sOp (sC (.int 2))) (sOp (sName 3)))) gNx [t0, t1, t2, .va (.int v), s4, s5] = .nx [t0, t1, t2, .va (.int c), s4, s5] := by
  by_cases h : v < 0
  · refine ⟨2 - v, ?_⟩
    simp [gIf, rS, Res.bind, sTb, sBin, sOp, sName, sC, fin2, Op.get, Slot.got, opnd, hdB, oLtI, gLt, oI, gSet, setHd, h]
  · refine ⟨v, ?_⟩
    simp [gIf, rS, Res.bind, sTb, sBin, sOp, sName, sC, fin2, Op.get, Slot.got, opnd, hdB, oLtI, gLt, gNx, h]
theorem at_4 (t0 t1 s4 s5 : Slot) (a c : Int) : gSet 5 (sBin oMod (sOp (sCall oInt (sCons (sOp (sBin oAdd (sOp (sBin oAdd (sOp (sBin oMulI (sOp (sName 3)) (sOp (sC (.int 30011))))) (sOp (sBin oMulI (sOp (sName 2)) (sOp (sC (.int 4513))))))) (sOp (sC (.int 77))))) sNil))) (sOp (sC (.int 1000003)))) [t0, t1, .va (.int a), .va (.int c), s4, s5] =
    .nx [t0, t1, .va (.int a), .va (.int c), s4, .va (.int ((c * 30011 + a * 4513 + 77) % 1000003))] := by
  have hc1 : ∀ x : Int, cMul x 30011 = true := fun x => by unfold cMul; rw [Bool.or_eq_true]; right; decide
  have hc2 : ∀ x : Int, cMul x 4513 = true := fun x => by unfold cMul; rw [Bool.or_eq_true]; right; decide
  simp [rS, Res.bind, sBin, sOp, sCall, sCons, sNil, sName, sC, fin2, finN, getAll, Op.get, Slot.got, opnd, oInt, oI, oIc, oAdd, gSet, setHd, hc1, hc2]
theorem at_step (ns L : List Int) (s3 s4 s5 : Slot) (a v : Int) (ha : L2.atI ns a = some v) (hL : L.length < 15000000) : ∃ (L' : List Int) (s3' s4' s5' : Slot), b_at [.va (.scr ns), .ow (dInts L), .va (.int a), s3, s4, s5] = .nx [.va (.scr ns), .ow (dInts L'), .va (.int a), s3', s4', s5'] ∧ L'.length ≤ L.length + 48 := by
  have e1 := at_1 ns L s3 s4 s5 a v ha
  obtain ⟨c, e2⟩ := at_2 (.va (.scr ns)) (.ow (dInts L)) (.va (.int a)) s4 s5 v
  by_cases h : c < 1000000000000000000
  · have h0 := Int.emod_nonneg (c * 30011 + a * 4513 + 77) (show (1000003 : Int) ≠ 0 by omega)
    have h1 := Int.emod_lt_of_pos (c * 30011 + a * 4513 + 77) (show (0 : Int) < 1000003 by omega)
    have e4 := at_4 (.va (.scr ns)) (.ow (dInts L)) s4 s5 a c
    generalize (c * 30011 + a * 4513 + 77) % 1000003 = m at h0 h1 e4
    obtain ⟨L', s4', s5', e5, hl⟩ := small_loop (.va (.scr ns)) L (.va (.int c)) a m s4 (by omega) h0 h1
    refine ⟨L', .va (.int c), s4', s5', ?_, by omega⟩
    have e3 := fun g1 g2 => (ge_step (.va (.scr ns)) (.ow (dInts L)) (.va (.int a)) s4 s5 c g1 g2).trans (if_pos h)
    unfold b_at
    simp only [gSeq, e1, e2, e3, e4, e5]
  · obtain ⟨L', s3', s4', s5', e5, hl⟩ := big_loop (.va (.scr ns)) s5 L (.va (.int a)) c s4 (by omega)
    refine ⟨L', s3', s4', s5', ?_, hl⟩
    have e3 := fun g1 g2 => (ge_step (.va (.scr ns)) (.ow (dInts L)) (.va (.int a)) s4 s5 c g1 g2).trans (if_neg h)
    unfold b_at
    simp only [gSeq, e1, e2, e3, e5]
theorem pool_ok (ns : List Int) (h : ns.length ≤ 63) : ∃ ps : List Int, F_pool [.va (.scr ns)] = .rt true (dInts ps) [.un] := by
  obtain ⟨S', e, L, s2, s3, s4, s5, eS, hl⟩ := forL_ix (g := kName 2) (body := b_at) (PoolS ns) (rgI 0 ns.length) 0 [.va (.scr ns), .ow (dInts []), .un, .un, .un, .un] ⟨[], .un, .un, .un, .un, rfl, Nat.zero_le _⟩ fun i d S hd ⟨L1, t2, t3, t4, t5, eS, hl⟩ => by
    obtain ⟨hi, rfl⟩ := rgI_get hd
    subst eS
    obtain ⟨L', s3', s4', s5', e2, h2⟩ := at_step ns L1 t3 t4 t5 (0 + (i : Int)) ns[i] (by rw [Int.zero_add]; exact atI_nat hi) (by omega)
    exact ⟨_, _, rfl, e2, L', _, _, _, _, rfl, by omega⟩
  subst eS
  refine ⟨L.reverse, ?_⟩
  have hm : fMin (ns.length : Int) 63 = ns.length := by
    unfold fMin
    by_cases h2 : (63 : Int) < ns.length
    · omega
    · rw [if_neg h2]
  have ho : okR (ns.length : Int) = true := by
    unfold okR
    rw [Bool.and_eq_true]
    exact ⟨decide_eq_true (by omega), decide_eq_true (by omega)⟩
  have e1 : (sRange (sCons (sOp (sCall oMin2 (sCons (sOp (sCall oLen (sCons (sOp (sName 0)) sNil))) (sCons (sOp (sC (.int 63))) sNil)))) sNil)) [.va (.scr ns), .ow (dInts []), .un, .un, .un, .un] = .ok (rgI 0 ns.length) [.va (.scr ns), .ow (dInts []), .un, .un, .un, .un] := by
    simp [sRange, Res.bind, sOp, sCall, sCons, sNil, sName, sC, finN, getAll, Op.get, Slot.got, opnd, oLen, oMin2, oMm2, rgD, hm, ho]
  have e0 : gSet 1 (sLst sNil) ([.va (.scr ns)] ++ List.replicate 5 .un) = .nx [.va (.scr ns), .ow (dInts []), .un, .un, .un, .un] := rfl
  unfold F_pool fnF g_pool
  show (match gSeq (gSet 1 (sLst sNil)) _ ([.va (.scr ns)] ++ List.replicate 5 .un) with
    | .nx S => (match outsOf [Slot.va (.scr ns)] S with | some r => FR.rt false .non r | none => .bad)
    | .rt o d S => (match outsOf [Slot.va (.scr ns)] S with | some r => .rt o d r | none => .bad)
    | .ex x S => (match outsOf [Slot.va (.scr ns)] S with | some r => .ex x r | none => .bad)
    | _ => .bad) = _
  simp only [gSeq, e0, gFor, e1, rS, e]
  simp [gDrop, sReverse, wrLst, Slot.wr, Slot.got, Slot.put, rS, gRet, sName, retHd, outsOf, dInts]
end VL

set_option Elab.async false
set_option linter.all false
set_option maxRecDepth 100000
set_option maxHeartbeats 4000000
namespace VL
open PySem PySem.Spec PyProof.Rows L2

/-! ### the pool's next, called -/
theorem next_at (k : Nat) (ps : List Int) (m : Int) (hm : 0 < m) : ∃ (r : Int) (ps' : List Int), 0 ≤ r ∧ r < m ∧
    (∀ S : Sl, S[k]? = some (.io (dInts ps)) → sFn F_next [.io, .bo] [] (sCons (sOp (sName k)) (sCons (sOp (sC (.int m))) sNil)) S = .ok (.fz (.int r)) (S.set k (.io (dInts ps')))) ∧
    (∀ S : Sl, S[k]? = some (.ow (dInts ps)) → sFn F_next [.io, .bo] [] (sCons (sOp (sName k)) (sCons (sOp (sC (.int m))) sNil)) S = .ok (.fz (.int r)) (S.set k (.ow (dInts ps')))) := by
  obtain ⟨r, ps', e, h0, h1⟩ := next_ok ps m hm
  refine ⟨r, ps', h0, h1, fun S hs => ?_, fun S hs => ?_⟩
  · have a : (sCons (sOp (sName k)) (sCons (sOp (sC (.int m))) sNil)) S = .ok [.slot k, .fz (.int m)] S := by
      simp [sCons, sOp, sName, sC, sNil, Res.bind, opnd, hs]
    unfold sFn
    rw [a]
    simp [Res.bind, argsS, argS, hs, noClash, clash, e, wbS, Slot.put]
  · have a : (sCons (sOp (sName k)) (sCons (sOp (sC (.int m))) sNil)) S = .ok [.slot k, .fz (.int m)] S := by
      simp [sCons, sOp, sName, sC, sNil, Res.bind, opnd, hs]
    unfold sFn
    rw [a]
    simp [Res.bind, argsS, argS, hs, noClash, clash, e, wbS, Slot.put]
/-- a result as a handle -/
def hdO (o : Bool) (d : D) : Hd := match o with
  | true => .own d
  | false => .fz d
/-- a call whose parts are known -/
theorem sFn_rt {f : FS} {ms : List Md} {ds : List D} {fs : Sem (List Op)} {S S1 : Sl} {os : List Op} {as : List Slot} {o : Bool} {d : D} {outs : List Slot} (h1 : fs S = .ok os S1) (h2 : argsS ms os S1 = some as) (h3 : noClash (os.zip as) = true) (h4 : f (as ++ ds.map Slot.va) = .rt o d outs) :
    sFn f ms ds fs S = .ok (hdO o d) (wbS os outs S1) := by
  unfold sFn
  simp only [h1, Res.bind, h2, h3, h4, if_true]
  cases o <;> rfl
theorem gSet_ok {i : Nat} {f : Sem Hd} {S S1 : Sl} {h : Hd} (e : f S = .ok h S1) : gSet i f S = setHd i h S1 := by
  unfold gSet
  rw [e]
  rfl
theorem sTru_ok {f : Sem Hd} {S S1 : Sl} {b : Bool} (e : f S = .ok (.fz (.bl b)) S1) : sTru (sOp f) S = .ok b S1 := by
  unfold sTru sOp
  show (((f S).bind fun h S => Res.ok (opnd h) S)).bind (fun o S => finT o S) = _
  rw [e]
  rfl
theorem sOp_ok {f : Sem Hd} {S S1 : Sl} {h : Hd} (e : f S = .ok h S1) : sOp f S = .ok (opnd h) S1 := by
  unfold sOp
  rw [e]
  rfl
theorem sCons_ok {f : Sem Op} {g : Sem (List Op)} {S S1 S2 : Sl} {o : Op} {os : List Op} (e : f S = .ok o S1) (e2 : g S1 = .ok os S2) : sCons f g S = .ok (o :: os) S2 := by
  unfold sCons
  rw [e]
  show (g S1).bind (fun os S => Res.ok (o :: os) S) = _
  rw [e2]
  rfl
theorem sBin_ok {g : D → D → Option Hd} {f1 f2 : Sem Op} {S S1 S2 : Sl} {o1 o2 : Op} {r : Res Hd} (e : f1 S = .ok o1 S1) (e2 : f2 S1 = .ok o2 S2) (e3 : fin2 g o1 o2 S2 = r) : sBin g f1 f2 S = r := by
  unfold sBin
  rw [e]
  show (f2 S1).bind (fun o2 S => fin2 g o1 o2 S) = _
  rw [e2]
  exact e3
theorem gRet_ok {f : Sem Hd} {S S1 : Sl} {h : Hd} (e : f S = .ok h S1) : gRet f S = retHd h S1 := by
  unfold gRet
  rw [e]
  rfl
end VL

set_option Elab.async false
set_option linter.all false
set_option maxRecDepth 100000
set_option maxHeartbeats 0
namespace VW
open PySem PySem.Spec PyProof.Rows L2 VL
def top (i : Nat) : Stmt := PySem.Challenge.pw_bentlines_k00_rows_of_four.main.body.getD i (.Pass ⟨0, 0, 0, 0⟩)
def cnm (c : Nat) : Str := (["Chart", "BentError", "BadNumber", "BadLine", "BadKind", "BadSigns", "TooMany"] : List Str).getD c ""
def fnames : List Str := (["word", "line", "at", "_bad", "signs", "_starts", "size", "MOST", "_lines", "_simple", "sound", "bad"] : List (Str))
def W0 (K : PySem.W.Frag) : Wo := ⟨K, fun c => He.ga K (cnm c), fnOfL fnames⟩
theorem inj0 {K : PySem.W.Frag} : Inj (W0 K) := fnOfL_inj (l := fnames) (by decide +kernel)
def d_BadKind____init__ : DefA := ⟨fun K => He.ma K (He.ga K "BadKind") "__init__", "__init__", "BadKind.__init__", defArgs (inClass (top 5) 0), defBody (inClass (top 5) 0), defScope (inClass (top 5) 0), []⟩
def d_BadLine____init__ : DefA := ⟨fun K => He.ma K (He.ga K "BadLine") "__init__", "__init__", "BadLine.__init__", defArgs (inClass (top 4) 0), defBody (inClass (top 4) 0), defScope (inClass (top 4) 0), []⟩
def d_BadNumber____init__ : DefA := ⟨fun K => He.ma K (He.ga K "BadNumber") "__init__", "__init__", "BadNumber.__init__", defArgs (inClass (top 3) 0), defBody (inClass (top 3) 0), defScope (inClass (top 3) 0), []⟩
def d_BadSigns____init__ : DefA := ⟨fun K => He.ma K (He.ga K "BadSigns") "__init__", "__init__", "BadSigns.__init__", defArgs (inClass (top 6) 0), defBody (inClass (top 6) 0), defScope (inClass (top 6) 0), []⟩
def d_Chart__bad : DefA := ⟨fun K => getterOf K (He.ga K "Chart") "bad", "bad", "Chart.bad", defArgs (inClass (top 31) 2), defBody (inClass (top 31) 2), defScope (inClass (top 31) 2), []⟩
def d_Chart__sound : DefA := ⟨fun K => getterOf K (He.ga K "Chart") "sound", "sound", "Chart.sound", defArgs (inClass (top 31) 3), defBody (inClass (top 31) 3), defScope (inClass (top 31) 3), []⟩
def d__law_int : DefA := ⟨fun K => He.ga K "_law_int", "_law_int", "_law_int", defArgs (top 42), defBody (top 42), defScope (top 42), []⟩
def d__law_met : DefA := ⟨fun K => He.ga K "_law_met", "_law_met", "_law_met", defArgs (top 44), defBody (top 44), defScope (top 44), []⟩
def d__law_next : DefA := ⟨fun K => He.ga K "_law_next", "_law_next", "_law_next", defArgs (top 41), defBody (top 41), defScope (top 41), []⟩
def d__law_pool : DefA := ⟨fun K => He.ga K "_law_pool", "_law_pool", "_law_pool", defArgs (top 40), defBody (top 40), defScope (top 40), []⟩
def d__law_row : DefA := ⟨fun K => He.ga K "_law_row", "_law_row", "_law_row", defArgs (top 43), defBody (top 43), defScope (top 43), []⟩
def d_is_int : DefA := ⟨fun K => He.ga K "is_int", "is_int", "is_int", defArgs (top 9), defBody (top 9), defScope (top 9), []⟩
def d_sign_starts : DefA := ⟨fun K => He.ga K "sign_starts", "sign_starts", "sign_starts", defArgs (top 20), defBody (top 20), defScope (top 20), []⟩
def d_signed : DefA := ⟨fun K => He.ga K "signed", "signed", "signed", defArgs (top 25), defBody (top 25), defScope (top 25), []⟩
def d_steady : DefA := ⟨fun K => He.ga K "steady", "steady", "steady", defArgs (top 22), defBody (top 22), defScope (top 22), []⟩
def d_three_list : DefA := ⟨fun K => He.ga K "three_list", "three_list", "three_list", defArgs (top 13), defBody (top 13), defScope (top 13), []⟩
def d__law_faulty : DefA := ⟨fun K => He.ga K "_law_faulty", "_law_faulty", "_law_faulty", defArgs (top 48), defBody (top 48), defScope (top 48), []⟩
def d__law_makes_ring : DefA := ⟨fun K => He.ga K "_law_makes_ring", "_law_makes_ring", "_law_makes_ring", defArgs (top 45), defBody (top 45), defScope (top 45), []⟩
def d_check_chart : DefA := ⟨fun K => He.ga K "check_chart", "check_chart", "check_chart", defArgs (top 32), defBody (top 32), defScope (top 32), []⟩
def d_check_int : DefA := ⟨fun K => He.ga K "check_int", "check_int", "check_int", defArgs (top 10), defBody (top 10), defScope (top 10), []⟩
def d_four_list : DefA := ⟨fun K => He.ga K "four_list", "four_list", "four_list", defArgs (top 14), defBody (top 14), defScope (top 14), []⟩
def d_good_four : DefA := ⟨fun K => He.ga K "good_four", "good_four", "good_four", defArgs (top 23), defBody (top 23), defScope (top 23), []⟩
def d_line_of : DefA := ⟨fun K => He.ga K "line_of", "line_of", "line_of", defArgs (top 15), defBody (top 15), defScope (top 15), []⟩
def d_met_first : DefA := ⟨fun K => He.ga K "met_first", "met_first", "met_first", defArgs (top 36), defBody (top 36), defScope (top 36), []⟩
def d__law_has_ring : DefA := ⟨fun K => He.ga K "_law_has_ring", "_law_has_ring", "_law_has_ring", defArgs (top 46), defBody (top 46), defScope (top 46), []⟩
def d_choose : DefA := ⟨fun K => He.ga K "choose", "choose", "choose", defArgs (top 11), defBody (top 11), defScope (top 11), []⟩
def d_is_good : DefA := ⟨fun K => He.ga K "is_good", "is_good", "is_good", defArgs (top 35), defBody (top 35), defScope (top 35), []⟩
def d_least_bad : DefA := ⟨fun K => He.ga K "least_bad", "least_bad", "least_bad", defArgs (top 24), defBody (top 24), defScope (top 24), []⟩
def d_lines_sorted : DefA := ⟨fun K => He.ga K "lines_sorted", "lines_sorted", "lines_sorted", defArgs (top 16), defBody (top 16), defScope (top 16), []⟩
def d_round_of : DefA := ⟨fun K => He.ga K "round_of", "round_of", "round_of", defArgs (top 37), defBody (top 37), defScope (top 37), []⟩
def d__law_refused : DefA := ⟨fun K => He.ga K "_law_refused", "_law_refused", "_law_refused", defArgs (top 49), defBody (top 49), defScope (top 49), []⟩
def d_four_of : DefA := ⟨fun K => He.ga K "four_of", "four_of", "four_of", defArgs (top 18), defBody (top 18), defScope (top 18), []⟩
def d_ring : DefA := ⟨fun K => He.ga K "ring", "ring", "ring", defArgs (top 38), defBody (top 38), defScope (top 38), []⟩
def d_signs_checked : DefA := ⟨fun K => He.ga K "signs_checked", "signs_checked", "signs_checked", defArgs (top 21), defBody (top 21), defScope (top 21), []⟩
def d_Chart____init__ : DefA := ⟨fun K => He.ma K (He.ga K "Chart") "__init__", "__init__", "Chart.__init__", defArgs (inClass (top 31) 1), defBody (inClass (top 31) 1), defScope (inClass (top 31) 1), []⟩
def d_row_of : DefA := ⟨fun K => He.ga K "row_of", "row_of", "row_of", defArgs (top 34), defBody (top 34), defScope (top 34), []⟩
def d__law_kept : DefA := ⟨fun K => He.ga K "_law_kept", "_law_kept", "_law_kept", defArgs (top 47), defBody (top 47), defScope (top 47), []⟩
def d_law : DefA := ⟨fun K => He.ga K "law", "law", "law", defArgs (top 50), defBody (top 50), defScope (top 50), []⟩
def fn0 : List DefA := ([d_BadKind____init__, d_BadLine____init__, d_BadNumber____init__, d_BadSigns____init__, d_Chart__bad, d_Chart__sound, d__law_int, d__law_met, d__law_next, d__law_pool, d__law_row, d_is_int, d_sign_starts, d_signed, d_steady, d_three_list, d__law_faulty, d__law_makes_ring, d_check_chart, d_check_int, d_four_list, d_good_four, d_line_of, d_met_first, d__law_has_ring, d_choose, d_is_good, d_least_bad, d_lines_sorted, d_round_of] : List (DefA)) ++ ([d__law_refused, d_four_of, d_ring, d_signs_checked, d_Chart____init__, d_row_of, d__law_kept, d_law] : List (DefA))
def c_xt_BadKind : PySem.W.Frag → Bool := fun K => xtB K (He.ga K "BadKind")
def c_init_BadKind : PySem.W.Frag → Bool := fun K => initB K (He.ga K "BadKind") (He.ma K (He.ga K "BadKind") "__init__")
def c_no_BadKind_word : PySem.W.Frag → Bool := fun K => noB K (He.ga K "BadKind") "word"
def c_xt_BadLine : PySem.W.Frag → Bool := fun K => xtB K (He.ga K "BadLine")
def c_init_BadLine : PySem.W.Frag → Bool := fun K => initB K (He.ga K "BadLine") (He.ma K (He.ga K "BadLine") "__init__")
def c_no_BadLine_line : PySem.W.Frag → Bool := fun K => noB K (He.ga K "BadLine") "line"
def c_xt_BadNumber : PySem.W.Frag → Bool := fun K => xtB K (He.ga K "BadNumber")
def c_init_BadNumber : PySem.W.Frag → Bool := fun K => initB K (He.ga K "BadNumber") (He.ma K (He.ga K "BadNumber") "__init__")
def c_no_BadNumber_word : PySem.W.Frag → Bool := fun K => noB K (He.ga K "BadNumber") "word"
def c_xt_BadSigns : PySem.W.Frag → Bool := fun K => xtB K (He.ga K "BadSigns")
def c_init_BadSigns : PySem.W.Frag → Bool := fun K => initB K (He.ga K "BadSigns") (He.ma K (He.ga K "BadSigns") "__init__")
def c_no_BadSigns_at : PySem.W.Frag → Bool := fun K => noB K (He.ga K "BadSigns") "at"
def c_cls_Chart : PySem.W.Frag → Bool := fun K => clsB K (He.ga K "Chart")
def c_no_Chart__bad : PySem.W.Frag → Bool := fun K => noB K (He.ga K "Chart") "_bad"
def c_isf : PySem.W.Frag → Bool := fun K => isF (W0 K) [0]
def c_m_bool : PySem.W.Frag → Bool := fun K => (He.Fa.free "bool").ok K
def c_m_isinstance : PySem.W.Frag → Bool := fun K => (He.Fa.free "isinstance").ok K
def c_m_int : PySem.W.Frag → Bool := fun K => (He.Fa.free "int").ok K
def c_m_len : PySem.W.Frag → Bool := fun K => (He.Fa.free "len").ok K
def c_m_min : PySem.W.Frag → Bool := fun K => (He.Fa.free "min").ok K
def c_m_range : PySem.W.Frag → Bool := fun K => (He.Fa.free "range").ok K
def c_m_tuple : PySem.W.Frag → Bool := fun K => (He.Fa.free "tuple").ok K
def c_m_max : PySem.W.Frag → Bool := fun K => (He.Fa.free "max").ok K
def c_no_Chart_signs : PySem.W.Frag → Bool := fun K => noB K (He.ga K "Chart") "signs"
def c_no_Chart__starts : PySem.W.Frag → Bool := fun K => noB K (He.ga K "Chart") "_starts"
def c_gl__law_next : PySem.W.Frag → Bool := fun K => (He.Fa.glo "_law_next").ok K
def c_m_list : PySem.W.Frag → Bool := fun K => (He.Fa.free "list").ok K
def c_gl__law_int : PySem.W.Frag → Bool := fun K => (He.Fa.glo "_law_int").ok K
def c_gl__law_met : PySem.W.Frag → Bool := fun K => (He.Fa.glo "_law_met").ok K
def c_gl_Chart : PySem.W.Frag → Bool := fun K => (He.Fa.glo "Chart").ok K
def c_gl_BadKind : PySem.W.Frag → Bool := fun K => (He.Fa.glo "BadKind").ok K
def c_gl_is_int : PySem.W.Frag → Bool := fun K => (He.Fa.glo "is_int").ok K
def c_gl_BadNumber : PySem.W.Frag → Bool := fun K => (He.Fa.glo "BadNumber").ok K
def c_gl_three_list : PySem.W.Frag → Bool := fun K => (He.Fa.glo "three_list").ok K
def c_gl_steady : PySem.W.Frag → Bool := fun K => (He.Fa.glo "steady").ok K
def c_gl_BadLine : PySem.W.Frag → Bool := fun K => (He.Fa.glo "BadLine").ok K
def c_m_sorted : PySem.W.Frag → Bool := fun K => (He.Fa.free "sorted").ok K
def c_gl_signed : PySem.W.Frag → Bool := fun K => (He.Fa.glo "signed").ok K
def c_gl__law_makes_ring : PySem.W.Frag → Bool := fun K => (He.Fa.glo "_law_makes_ring").ok K
def c_gl_check_int : PySem.W.Frag → Bool := fun K => (He.Fa.glo "check_int").ok K
def c_gl_good_four : PySem.W.Frag → Bool := fun K => (He.Fa.glo "good_four").ok K
def c_gl_four_list : PySem.W.Frag → Bool := fun K => (He.Fa.glo "four_list").ok K
def c_gl_line_of : PySem.W.Frag → Bool := fun K => (He.Fa.glo "line_of").ok K
def c_gl_met_first : PySem.W.Frag → Bool := fun K => (He.Fa.glo "met_first").ok K
def c_gl_is_good : PySem.W.Frag → Bool := fun K => (He.Fa.glo "is_good").ok K
def c_exm_BentError_BentError : PySem.W.Frag → Bool := fun K => exB K (.ref (He.ga K "BentError")) (.ref (He.ga K "BentError")) true
def c_exm_BadNumber_BentError : PySem.W.Frag → Bool := fun K => exB K (.ref (He.ga K "BadNumber")) (.ref (He.ga K "BentError")) true
def c_exm_BadLine_BentError : PySem.W.Frag → Bool := fun K => exB K (.ref (He.ga K "BadLine")) (.ref (He.ga K "BentError")) true
def c_exm_BadKind_BentError : PySem.W.Frag → Bool := fun K => exB K (.ref (He.ga K "BadKind")) (.ref (He.ga K "BentError")) true
def c_exm_BadSigns_BentError : PySem.W.Frag → Bool := fun K => exB K (.ref (He.ga K "BadSigns")) (.ref (He.ga K "BentError")) true
def c_exm_TooMany_BentError : PySem.W.Frag → Bool := fun K => exB K (.ref (He.ga K "TooMany")) (.ref (He.ga K "BentError")) true
def c_gl_BentError : PySem.W.Frag → Bool := fun K => (He.Fa.glo "BentError").ok K
def c_exm_BentError_BadKind : PySem.W.Frag → Bool := fun K => exB K (.ref (He.ga K "BentError")) (.ref (He.ga K "BadKind")) false
def c_exm_BadNumber_BadKind : PySem.W.Frag → Bool := fun K => exB K (.ref (He.ga K "BadNumber")) (.ref (He.ga K "BadKind")) false
def c_exm_BadLine_BadKind : PySem.W.Frag → Bool := fun K => exB K (.ref (He.ga K "BadLine")) (.ref (He.ga K "BadKind")) false
def c_exm_BadKind_BadKind : PySem.W.Frag → Bool := fun K => exB K (.ref (He.ga K "BadKind")) (.ref (He.ga K "BadKind")) true
def c_exm_BadSigns_BadKind : PySem.W.Frag → Bool := fun K => exB K (.ref (He.ga K "BadSigns")) (.ref (He.ga K "BadKind")) false
def c_exm_TooMany_BadKind : PySem.W.Frag → Bool := fun K => exB K (.ref (He.ga K "TooMany")) (.ref (He.ga K "BadKind")) false
def c_xfb_BadKind : PySem.W.Frag → Bool := fun K => xfB K (He.ga K "BadKind")
def c_gl_lines_sorted : PySem.W.Frag → Bool := fun K => (He.Fa.glo "lines_sorted").ok K
def c_gl_check_chart : PySem.W.Frag → Bool := fun K => (He.Fa.glo "check_chart").ok K
def c_no_Chart_size : PySem.W.Frag → Bool := fun K => noB K (He.ga K "Chart") "size"
def c_m_enumerate : PySem.W.Frag → Bool := fun K => (He.Fa.free "enumerate").ok K
def c_gl_round_of : PySem.W.Frag → Bool := fun K => (He.Fa.glo "round_of").ok K
def c_gl_choose : PySem.W.Frag → Bool := fun K => (He.Fa.glo "choose").ok K
def c_gl_BadSigns : PySem.W.Frag → Bool := fun K => (He.Fa.glo "BadSigns").ok K
def c_con_Chart_MOST : PySem.W.Frag → Bool := fun K => conB K (He.ga K "Chart") "MOST" 16
def c_gl_signs_checked : PySem.W.Frag → Bool := fun K => (He.Fa.glo "signs_checked").ok K
def c_no_Chart__lines : PySem.W.Frag → Bool := fun K => noB K (He.ga K "Chart") "_lines"
def c_gl_sign_starts : PySem.W.Frag → Bool := fun K => (He.Fa.glo "sign_starts").ok K
def c_gl_least_bad : PySem.W.Frag → Bool := fun K => (He.Fa.glo "least_bad").ok K
def c_no_Chart__simple : PySem.W.Frag → Bool := fun K => noB K (He.ga K "Chart") "_simple"
def c_gl_four_of : PySem.W.Frag → Bool := fun K => (He.Fa.glo "four_of").ok K
def c_gl__law_has_ring : PySem.W.Frag → Bool := fun K => (He.Fa.glo "_law_has_ring").ok K
def c_mk_Chart : PySem.W.Frag → Bool := fun K => mkB K (He.ga K "Chart") (He.ma K (He.ga K "Chart") "__init__")
def c_prop_Chart_sound : PySem.W.Frag → Bool := fun K => propB K (He.ga K "Chart") (getterOf K (He.ga K "Chart") "sound") "sound"
def c_prop_Chart_bad : PySem.W.Frag → Bool := fun K => propB K (He.ga K "Chart") (getterOf K (He.ga K "Chart") "bad") "bad"
def c_gl_row_of : PySem.W.Frag → Bool := fun K => (He.Fa.glo "row_of").ok K
def c_gl_ring : PySem.W.Frag → Bool := fun K => (He.Fa.glo "ring").ok K
def c_gl__law_pool : PySem.W.Frag → Bool := fun K => (He.Fa.glo "_law_pool").ok K
def c_gl__law_row : PySem.W.Frag → Bool := fun K => (He.Fa.glo "_law_row").ok K
def c_gl__law_kept : PySem.W.Frag → Bool := fun K => (He.Fa.glo "_law_kept").ok K
def c_gl__law_faulty : PySem.W.Frag → Bool := fun K => (He.Fa.glo "_law_faulty").ok K
def c_gl__law_refused : PySem.W.Frag → Bool := fun K => (He.Fa.glo "_law_refused").ok K
def c_gl_law : PySem.W.Frag → Bool := fun K => (He.Fa.glo "law").ok K
def cs0 : List (PySem.W.Frag → Bool) := ([c_xt_BadKind, c_init_BadKind, c_no_BadKind_word, c_xt_BadLine, c_init_BadLine, c_no_BadLine_line, c_xt_BadNumber, c_init_BadNumber, c_no_BadNumber_word, c_xt_BadSigns, c_init_BadSigns, c_no_BadSigns_at, c_cls_Chart, c_no_Chart__bad, c_isf, c_m_bool, c_m_isinstance, c_m_int, c_m_len, c_m_min, c_m_range, c_m_tuple, c_m_max, c_no_Chart_signs, c_no_Chart__starts, c_gl__law_next, c_m_list, c_gl__law_int, c_gl__law_met, c_gl_Chart] : List (PySem.W.Frag → Bool)) ++ ([c_gl_BadKind, c_gl_is_int, c_gl_BadNumber, c_gl_three_list, c_gl_steady, c_gl_BadLine, c_m_sorted, c_gl_signed, c_gl__law_makes_ring, c_gl_check_int, c_gl_good_four, c_gl_four_list, c_gl_line_of, c_gl_met_first, c_gl_is_good, c_exm_BentError_BentError, c_exm_BadNumber_BentError, c_exm_BadLine_BentError, c_exm_BadKind_BentError, c_exm_BadSigns_BentError, c_exm_TooMany_BentError, c_gl_BentError, c_exm_BentError_BadKind, c_exm_BadNumber_BadKind, c_exm_BadLine_BadKind, c_exm_BadKind_BadKind, c_exm_BadSigns_BadKind, c_exm_TooMany_BadKind, c_xfb_BadKind, c_gl_lines_sorted] : List (PySem.W.Frag → Bool)) ++ ([c_gl_check_chart, c_no_Chart_size, c_m_enumerate, c_gl_round_of, c_gl_choose, c_gl_BadSigns, c_con_Chart_MOST, c_gl_signs_checked, c_no_Chart__lines, c_gl_sign_starts, c_gl_least_bad, c_no_Chart__simple, c_gl_four_of, c_gl__law_has_ring, c_mk_Chart, c_prop_Chart_sound, c_prop_Chart_bad, c_gl_row_of, c_gl_ring, c_gl__law_pool, c_gl__law_row, c_gl__law_kept, c_gl__law_faulty, c_gl__law_refused, c_gl_law] : List (PySem.W.Frag → Bool))
structure Fx (K : PySem.W.Frag) (mg : Str → Option Value) : Prop where
  ex : ∃ h : Heap, K.In h ∧ h.Ns mainGlobals mg
  c : SaysV cs0 fn0 K
section
variable {K : PySem.W.Frag} {mg : Str → Option Value}
theorem xt_BadKind (F : Fx K mg) : xtB K (He.ga K "BadKind") = true := F.c.fact 0 (f := c_xt_BadKind)
theorem init_BadKind (F : Fx K mg) : initB K (He.ga K "BadKind") (He.ma K (He.ga K "BadKind") "__init__") = true := F.c.fact 1 (f := c_init_BadKind)
theorem no_BadKind_word (F : Fx K mg) : noB K (He.ga K "BadKind") "word" = true := F.c.fact 2 (f := c_no_BadKind_word)
theorem xt_BadLine (F : Fx K mg) : xtB K (He.ga K "BadLine") = true := F.c.fact 3 (f := c_xt_BadLine)
theorem init_BadLine (F : Fx K mg) : initB K (He.ga K "BadLine") (He.ma K (He.ga K "BadLine") "__init__") = true := F.c.fact 4 (f := c_init_BadLine)
theorem no_BadLine_line (F : Fx K mg) : noB K (He.ga K "BadLine") "line" = true := F.c.fact 5 (f := c_no_BadLine_line)
theorem xt_BadNumber (F : Fx K mg) : xtB K (He.ga K "BadNumber") = true := F.c.fact 6 (f := c_xt_BadNumber)
theorem init_BadNumber (F : Fx K mg) : initB K (He.ga K "BadNumber") (He.ma K (He.ga K "BadNumber") "__init__") = true := F.c.fact 7 (f := c_init_BadNumber)
theorem no_BadNumber_word (F : Fx K mg) : noB K (He.ga K "BadNumber") "word" = true := F.c.fact 8 (f := c_no_BadNumber_word)
theorem xt_BadSigns (F : Fx K mg) : xtB K (He.ga K "BadSigns") = true := F.c.fact 9 (f := c_xt_BadSigns)
theorem init_BadSigns (F : Fx K mg) : initB K (He.ga K "BadSigns") (He.ma K (He.ga K "BadSigns") "__init__") = true := F.c.fact 10 (f := c_init_BadSigns)
theorem no_BadSigns_at (F : Fx K mg) : noB K (He.ga K "BadSigns") "at" = true := F.c.fact 11 (f := c_no_BadSigns_at)
theorem cls_Chart (F : Fx K mg) : clsB K (He.ga K "Chart") = true := F.c.fact 12 (f := c_cls_Chart)
theorem no_Chart__bad (F : Fx K mg) : noB K (He.ga K "Chart") "_bad" = true := F.c.fact 13 (f := c_no_Chart__bad)
theorem isf (F : Fx K mg) : isF (W0 K) [0] = true := F.c.fact 14 (f := c_isf)
theorem m_bool (F : Fx K mg) : mg "bool" = none := by
  obtain ⟨h, X, G⟩ := F.ex
  exact He.free_ok X G (F.c.fact 15 (f := c_m_bool))
theorem m_isinstance (F : Fx K mg) : mg "isinstance" = none := by
  obtain ⟨h, X, G⟩ := F.ex
  exact He.free_ok X G (F.c.fact 16 (f := c_m_isinstance))
theorem m_int (F : Fx K mg) : mg "int" = none := by
  obtain ⟨h, X, G⟩ := F.ex
  exact He.free_ok X G (F.c.fact 17 (f := c_m_int))
theorem m_len (F : Fx K mg) : mg "len" = none := by
  obtain ⟨h, X, G⟩ := F.ex
  exact He.free_ok X G (F.c.fact 18 (f := c_m_len))
theorem m_min (F : Fx K mg) : mg "min" = none := by
  obtain ⟨h, X, G⟩ := F.ex
  exact He.free_ok X G (F.c.fact 19 (f := c_m_min))
theorem m_range (F : Fx K mg) : mg "range" = none := by
  obtain ⟨h, X, G⟩ := F.ex
  exact He.free_ok X G (F.c.fact 20 (f := c_m_range))
theorem m_tuple (F : Fx K mg) : mg "tuple" = none := by
  obtain ⟨h, X, G⟩ := F.ex
  exact He.free_ok X G (F.c.fact 21 (f := c_m_tuple))
theorem m_max (F : Fx K mg) : mg "max" = none := by
  obtain ⟨h, X, G⟩ := F.ex
  exact He.free_ok X G (F.c.fact 22 (f := c_m_max))
theorem no_Chart_signs (F : Fx K mg) : noB K (He.ga K "Chart") "signs" = true := F.c.fact 23 (f := c_no_Chart_signs)
theorem no_Chart__starts (F : Fx K mg) : noB K (He.ga K "Chart") "_starts" = true := F.c.fact 24 (f := c_no_Chart__starts)
theorem gl__law_next (F : Fx K mg) : mg "_law_next" = some (.ref (He.ga K "_law_next")) := by
  obtain ⟨h, X, G⟩ := F.ex
  exact He.glo_ok X G (F.c.fact 25 (f := c_gl__law_next))
theorem m_list (F : Fx K mg) : mg "list" = none := by
  obtain ⟨h, X, G⟩ := F.ex
  exact He.free_ok X G (F.c.fact 26 (f := c_m_list))
theorem gl__law_int (F : Fx K mg) : mg "_law_int" = some (.ref (He.ga K "_law_int")) := by
  obtain ⟨h, X, G⟩ := F.ex
  exact He.glo_ok X G (F.c.fact 27 (f := c_gl__law_int))
theorem gl__law_met (F : Fx K mg) : mg "_law_met" = some (.ref (He.ga K "_law_met")) := by
  obtain ⟨h, X, G⟩ := F.ex
  exact He.glo_ok X G (F.c.fact 28 (f := c_gl__law_met))
theorem gl_Chart (F : Fx K mg) : mg "Chart" = some (.ref (He.ga K "Chart")) := by
  obtain ⟨h, X, G⟩ := F.ex
  exact He.glo_ok X G (F.c.fact 29 (f := c_gl_Chart))
theorem gl_BadKind (F : Fx K mg) : mg "BadKind" = some (.ref (He.ga K "BadKind")) := by
  obtain ⟨h, X, G⟩ := F.ex
  exact He.glo_ok X G (F.c.fact 30 (f := c_gl_BadKind))
theorem gl_is_int (F : Fx K mg) : mg "is_int" = some (.ref (He.ga K "is_int")) := by
  obtain ⟨h, X, G⟩ := F.ex
  exact He.glo_ok X G (F.c.fact 31 (f := c_gl_is_int))
theorem gl_BadNumber (F : Fx K mg) : mg "BadNumber" = some (.ref (He.ga K "BadNumber")) := by
  obtain ⟨h, X, G⟩ := F.ex
  exact He.glo_ok X G (F.c.fact 32 (f := c_gl_BadNumber))
theorem gl_three_list (F : Fx K mg) : mg "three_list" = some (.ref (He.ga K "three_list")) := by
  obtain ⟨h, X, G⟩ := F.ex
  exact He.glo_ok X G (F.c.fact 33 (f := c_gl_three_list))
theorem gl_steady (F : Fx K mg) : mg "steady" = some (.ref (He.ga K "steady")) := by
  obtain ⟨h, X, G⟩ := F.ex
  exact He.glo_ok X G (F.c.fact 34 (f := c_gl_steady))
theorem gl_BadLine (F : Fx K mg) : mg "BadLine" = some (.ref (He.ga K "BadLine")) := by
  obtain ⟨h, X, G⟩ := F.ex
  exact He.glo_ok X G (F.c.fact 35 (f := c_gl_BadLine))
theorem m_sorted (F : Fx K mg) : mg "sorted" = none := by
  obtain ⟨h, X, G⟩ := F.ex
  exact He.free_ok X G (F.c.fact 36 (f := c_m_sorted))
theorem gl_signed (F : Fx K mg) : mg "signed" = some (.ref (He.ga K "signed")) := by
  obtain ⟨h, X, G⟩ := F.ex
  exact He.glo_ok X G (F.c.fact 37 (f := c_gl_signed))
theorem gl__law_makes_ring (F : Fx K mg) : mg "_law_makes_ring" = some (.ref (He.ga K "_law_makes_ring")) := by
  obtain ⟨h, X, G⟩ := F.ex
  exact He.glo_ok X G (F.c.fact 38 (f := c_gl__law_makes_ring))
theorem gl_check_int (F : Fx K mg) : mg "check_int" = some (.ref (He.ga K "check_int")) := by
  obtain ⟨h, X, G⟩ := F.ex
  exact He.glo_ok X G (F.c.fact 39 (f := c_gl_check_int))
theorem gl_good_four (F : Fx K mg) : mg "good_four" = some (.ref (He.ga K "good_four")) := by
  obtain ⟨h, X, G⟩ := F.ex
  exact He.glo_ok X G (F.c.fact 40 (f := c_gl_good_four))
theorem gl_four_list (F : Fx K mg) : mg "four_list" = some (.ref (He.ga K "four_list")) := by
  obtain ⟨h, X, G⟩ := F.ex
  exact He.glo_ok X G (F.c.fact 41 (f := c_gl_four_list))
theorem gl_line_of (F : Fx K mg) : mg "line_of" = some (.ref (He.ga K "line_of")) := by
  obtain ⟨h, X, G⟩ := F.ex
  exact He.glo_ok X G (F.c.fact 42 (f := c_gl_line_of))
theorem gl_met_first (F : Fx K mg) : mg "met_first" = some (.ref (He.ga K "met_first")) := by
  obtain ⟨h, X, G⟩ := F.ex
  exact He.glo_ok X G (F.c.fact 43 (f := c_gl_met_first))
theorem gl_is_good (F : Fx K mg) : mg "is_good" = some (.ref (He.ga K "is_good")) := by
  obtain ⟨h, X, G⟩ := F.ex
  exact He.glo_ok X G (F.c.fact 44 (f := c_gl_is_good))
theorem exm_BentError_BentError (F : Fx K mg) : exB K (.ref (He.ga K "BentError")) (.ref (He.ga K "BentError")) true = true := F.c.fact 45 (f := c_exm_BentError_BentError)
theorem exm_BadNumber_BentError (F : Fx K mg) : exB K (.ref (He.ga K "BadNumber")) (.ref (He.ga K "BentError")) true = true := F.c.fact 46 (f := c_exm_BadNumber_BentError)
theorem exm_BadLine_BentError (F : Fx K mg) : exB K (.ref (He.ga K "BadLine")) (.ref (He.ga K "BentError")) true = true := F.c.fact 47 (f := c_exm_BadLine_BentError)
theorem exm_BadKind_BentError (F : Fx K mg) : exB K (.ref (He.ga K "BadKind")) (.ref (He.ga K "BentError")) true = true := F.c.fact 48 (f := c_exm_BadKind_BentError)
theorem exm_BadSigns_BentError (F : Fx K mg) : exB K (.ref (He.ga K "BadSigns")) (.ref (He.ga K "BentError")) true = true := F.c.fact 49 (f := c_exm_BadSigns_BentError)
theorem exm_TooMany_BentError (F : Fx K mg) : exB K (.ref (He.ga K "TooMany")) (.ref (He.ga K "BentError")) true = true := F.c.fact 50 (f := c_exm_TooMany_BentError)
theorem gl_BentError (F : Fx K mg) : mg "BentError" = some (.ref (He.ga K "BentError")) := by
  obtain ⟨h, X, G⟩ := F.ex
  exact He.glo_ok X G (F.c.fact 51 (f := c_gl_BentError))
theorem exm_BentError_BadKind (F : Fx K mg) : exB K (.ref (He.ga K "BentError")) (.ref (He.ga K "BadKind")) false = true := F.c.fact 52 (f := c_exm_BentError_BadKind)
theorem exm_BadNumber_BadKind (F : Fx K mg) : exB K (.ref (He.ga K "BadNumber")) (.ref (He.ga K "BadKind")) false = true := F.c.fact 53 (f := c_exm_BadNumber_BadKind)
theorem exm_BadLine_BadKind (F : Fx K mg) : exB K (.ref (He.ga K "BadLine")) (.ref (He.ga K "BadKind")) false = true := F.c.fact 54 (f := c_exm_BadLine_BadKind)
theorem exm_BadKind_BadKind (F : Fx K mg) : exB K (.ref (He.ga K "BadKind")) (.ref (He.ga K "BadKind")) true = true := F.c.fact 55 (f := c_exm_BadKind_BadKind)
theorem exm_BadSigns_BadKind (F : Fx K mg) : exB K (.ref (He.ga K "BadSigns")) (.ref (He.ga K "BadKind")) false = true := F.c.fact 56 (f := c_exm_BadSigns_BadKind)
theorem exm_TooMany_BadKind (F : Fx K mg) : exB K (.ref (He.ga K "TooMany")) (.ref (He.ga K "BadKind")) false = true := F.c.fact 57 (f := c_exm_TooMany_BadKind)
theorem xfb_BadKind (F : Fx K mg) : xfB K (He.ga K "BadKind") = true := F.c.fact 58 (f := c_xfb_BadKind)
theorem gl_lines_sorted (F : Fx K mg) : mg "lines_sorted" = some (.ref (He.ga K "lines_sorted")) := by
  obtain ⟨h, X, G⟩ := F.ex
  exact He.glo_ok X G (F.c.fact 59 (f := c_gl_lines_sorted))
theorem gl_check_chart (F : Fx K mg) : mg "check_chart" = some (.ref (He.ga K "check_chart")) := by
  obtain ⟨h, X, G⟩ := F.ex
  exact He.glo_ok X G (F.c.fact 60 (f := c_gl_check_chart))
theorem no_Chart_size (F : Fx K mg) : noB K (He.ga K "Chart") "size" = true := F.c.fact 61 (f := c_no_Chart_size)
theorem m_enumerate (F : Fx K mg) : mg "enumerate" = none := by
  obtain ⟨h, X, G⟩ := F.ex
  exact He.free_ok X G (F.c.fact 62 (f := c_m_enumerate))
theorem gl_round_of (F : Fx K mg) : mg "round_of" = some (.ref (He.ga K "round_of")) := by
  obtain ⟨h, X, G⟩ := F.ex
  exact He.glo_ok X G (F.c.fact 63 (f := c_gl_round_of))
theorem gl_choose (F : Fx K mg) : mg "choose" = some (.ref (He.ga K "choose")) := by
  obtain ⟨h, X, G⟩ := F.ex
  exact He.glo_ok X G (F.c.fact 64 (f := c_gl_choose))
theorem gl_BadSigns (F : Fx K mg) : mg "BadSigns" = some (.ref (He.ga K "BadSigns")) := by
  obtain ⟨h, X, G⟩ := F.ex
  exact He.glo_ok X G (F.c.fact 65 (f := c_gl_BadSigns))
theorem con_Chart_MOST (F : Fx K mg) : conB K (He.ga K "Chart") "MOST" 16 = true := F.c.fact 66 (f := c_con_Chart_MOST)
theorem gl_signs_checked (F : Fx K mg) : mg "signs_checked" = some (.ref (He.ga K "signs_checked")) := by
  obtain ⟨h, X, G⟩ := F.ex
  exact He.glo_ok X G (F.c.fact 67 (f := c_gl_signs_checked))
theorem no_Chart__lines (F : Fx K mg) : noB K (He.ga K "Chart") "_lines" = true := F.c.fact 68 (f := c_no_Chart__lines)
theorem gl_sign_starts (F : Fx K mg) : mg "sign_starts" = some (.ref (He.ga K "sign_starts")) := by
  obtain ⟨h, X, G⟩ := F.ex
  exact He.glo_ok X G (F.c.fact 69 (f := c_gl_sign_starts))
theorem gl_least_bad (F : Fx K mg) : mg "least_bad" = some (.ref (He.ga K "least_bad")) := by
  obtain ⟨h, X, G⟩ := F.ex
  exact He.glo_ok X G (F.c.fact 70 (f := c_gl_least_bad))
theorem no_Chart__simple (F : Fx K mg) : noB K (He.ga K "Chart") "_simple" = true := F.c.fact 71 (f := c_no_Chart__simple)
theorem gl_four_of (F : Fx K mg) : mg "four_of" = some (.ref (He.ga K "four_of")) := by
  obtain ⟨h, X, G⟩ := F.ex
  exact He.glo_ok X G (F.c.fact 72 (f := c_gl_four_of))
theorem gl__law_has_ring (F : Fx K mg) : mg "_law_has_ring" = some (.ref (He.ga K "_law_has_ring")) := by
  obtain ⟨h, X, G⟩ := F.ex
  exact He.glo_ok X G (F.c.fact 73 (f := c_gl__law_has_ring))
theorem mk_Chart (F : Fx K mg) : mkB K (He.ga K "Chart") (He.ma K (He.ga K "Chart") "__init__") = true := F.c.fact 74 (f := c_mk_Chart)
theorem prop_Chart_sound (F : Fx K mg) : propB K (He.ga K "Chart") (getterOf K (He.ga K "Chart") "sound") "sound" = true := F.c.fact 75 (f := c_prop_Chart_sound)
theorem prop_Chart_bad (F : Fx K mg) : propB K (He.ga K "Chart") (getterOf K (He.ga K "Chart") "bad") "bad" = true := F.c.fact 76 (f := c_prop_Chart_bad)
theorem gl_row_of (F : Fx K mg) : mg "row_of" = some (.ref (He.ga K "row_of")) := by
  obtain ⟨h, X, G⟩ := F.ex
  exact He.glo_ok X G (F.c.fact 77 (f := c_gl_row_of))
theorem gl_ring (F : Fx K mg) : mg "ring" = some (.ref (He.ga K "ring")) := by
  obtain ⟨h, X, G⟩ := F.ex
  exact He.glo_ok X G (F.c.fact 78 (f := c_gl_ring))
theorem gl__law_pool (F : Fx K mg) : mg "_law_pool" = some (.ref (He.ga K "_law_pool")) := by
  obtain ⟨h, X, G⟩ := F.ex
  exact He.glo_ok X G (F.c.fact 79 (f := c_gl__law_pool))
theorem gl__law_row (F : Fx K mg) : mg "_law_row" = some (.ref (He.ga K "_law_row")) := by
  obtain ⟨h, X, G⟩ := F.ex
  exact He.glo_ok X G (F.c.fact 80 (f := c_gl__law_row))
theorem gl__law_kept (F : Fx K mg) : mg "_law_kept" = some (.ref (He.ga K "_law_kept")) := by
  obtain ⟨h, X, G⟩ := F.ex
  exact He.glo_ok X G (F.c.fact 81 (f := c_gl__law_kept))
theorem gl__law_faulty (F : Fx K mg) : mg "_law_faulty" = some (.ref (He.ga K "_law_faulty")) := by
  obtain ⟨h, X, G⟩ := F.ex
  exact He.glo_ok X G (F.c.fact 82 (f := c_gl__law_faulty))
theorem gl__law_refused (F : Fx K mg) : mg "_law_refused" = some (.ref (He.ga K "_law_refused")) := by
  obtain ⟨h, X, G⟩ := F.ex
  exact He.glo_ok X G (F.c.fact 83 (f := c_gl__law_refused))
theorem gl_law (F : Fx K mg) : mg "law" = some (.ref (He.ga K "law")) := by
  obtain ⟨h, X, G⟩ := F.ex
  exact He.glo_ok X G (F.c.fact 84 (f := c_gl_law))
theorem fl__bad (F : Fx K mg) : FldF (W0 K) (ocL [0]) "_bad" := ocL_ok (List.forall_mem_cons.mpr ⟨⟨clsB_ok (cls_Chart F), noB_ok (no_Chart__bad F)⟩, List.forall_mem_nil _⟩)
theorem fl_signs (F : Fx K mg) : FldF (W0 K) (ocL [0]) "signs" := ocL_ok (List.forall_mem_cons.mpr ⟨⟨clsB_ok (cls_Chart F), noB_ok (no_Chart_signs F)⟩, List.forall_mem_nil _⟩)
theorem fl__starts (F : Fx K mg) : FldF (W0 K) (ocL [0]) "_starts" := ocL_ok (List.forall_mem_cons.mpr ⟨⟨clsB_ok (cls_Chart F), noB_ok (no_Chart__starts F)⟩, List.forall_mem_nil _⟩)
theorem fl_size (F : Fx K mg) : FldF (W0 K) (ocL [0]) "size" := ocL_ok (List.forall_mem_cons.mpr ⟨⟨clsB_ok (cls_Chart F), noB_ok (no_Chart_size F)⟩, List.forall_mem_nil _⟩)
theorem fl__lines (F : Fx K mg) : FldF (W0 K) (ocL [0]) "_lines" := ocL_ok (List.forall_mem_cons.mpr ⟨⟨clsB_ok (cls_Chart F), noB_ok (no_Chart__lines F)⟩, List.forall_mem_nil _⟩)
theorem fl__simple (F : Fx K mg) : FldF (W0 K) (ocL [0]) "_simple" := ocL_ok (List.forall_mem_cons.mpr ⟨⟨clsB_ok (cls_Chart F), noB_ok (no_Chart__simple F)⟩, List.forall_mem_nil _⟩)
theorem xf_word (F : Fx K mg) : XfF (W0 K) (ocL [4]) "word" := ocL_ok (List.forall_mem_cons.mpr ⟨⟨xfB_ok (xfb_BadKind F), noB_ok (no_BadKind_word F)⟩, List.forall_mem_nil _⟩)
theorem ex_BentError (F : Fx K mg) : ExF (W0 K).K (W0 K).cl (.ref (He.ga K "BentError")) (exL [(1, true), (2, true), (3, true), (4, true), (5, true), (6, true)]) := exL_ok (List.forall_mem_cons.mpr ⟨of_decide_eq_true (exm_BentError_BentError F), List.forall_mem_cons.mpr ⟨of_decide_eq_true (exm_BadNumber_BentError F), List.forall_mem_cons.mpr ⟨of_decide_eq_true (exm_BadLine_BentError F), List.forall_mem_cons.mpr ⟨of_decide_eq_true (exm_BadKind_BentError F), List.forall_mem_cons.mpr ⟨of_decide_eq_true (exm_BadSigns_BentError F), List.forall_mem_cons.mpr ⟨of_decide_eq_true (exm_TooMany_BentError F), List.forall_mem_nil _⟩⟩⟩⟩⟩⟩)
theorem ex_BadKind (F : Fx K mg) : ExF (W0 K).K (W0 K).cl (.ref (He.ga K "BadKind")) (exL [(1, false), (2, false), (3, false), (4, true), (5, false), (6, false)]) := exL_ok (List.forall_mem_cons.mpr ⟨of_decide_eq_true (exm_BentError_BadKind F), List.forall_mem_cons.mpr ⟨of_decide_eq_true (exm_BadNumber_BadKind F), List.forall_mem_cons.mpr ⟨of_decide_eq_true (exm_BadLine_BadKind F), List.forall_mem_cons.mpr ⟨of_decide_eq_true (exm_BadKind_BadKind F), List.forall_mem_cons.mpr ⟨of_decide_eq_true (exm_BadSigns_BadKind F), List.forall_mem_cons.mpr ⟨of_decide_eq_true (exm_TooMany_BadKind F), List.forall_mem_nil _⟩⟩⟩⟩⟩⟩)
def IC (c : Nat) : Bool := ([0] : List Nat).contains c
theorem isf0 (F : Fx K mg) : IsF (W0 K) IC := isF_ok (isf F)
end
theorem S_BadKind____init__ : FnScope ["self", "word"] ["self", "word"] (defScope (inClass (top 5) 0)) := C8.fnScope_by (by kernel_rfl)
theorem ok_BadKind____init__ {P : Program} {w : World} {K : PySem.W.Frag} {mg : Str → Option Value} {base : Heap} (F : Fx K mg) : FnX P w (W0 K) mg base 1 4 [0] := by
  obtain ⟨fd, Fd⟩ := F.c.def_ 0 (d := d_BadKind____init__)
  exact fnX1 (W := W0 K) (f := "word") (k := 0) Fd S_BadKind____init__ (xt_BadKind F) (init_BadKind F) (no_BadKind_word F) rfl (fun _ _ _ _ _ _ us hl => match us, hl with | [_, _], _ => rfl) (fun _ _ _ _ _ _ => pss_one (ps_xst (pv 0) (pv 1)))
theorem S_BadLine____init__ : FnScope ["self", "line"] ["self", "line"] (defScope (inClass (top 4) 0)) := C8.fnScope_by (by kernel_rfl)
theorem ok_BadLine____init__ {P : Program} {w : World} {K : PySem.W.Frag} {mg : Str → Option Value} {base : Heap} (F : Fx K mg) : FnX P w (W0 K) mg base 1 3 [1] := by
  obtain ⟨fd, Fd⟩ := F.c.def_ 1 (d := d_BadLine____init__)
  exact fnX1 (W := W0 K) (f := "line") (k := 0) Fd S_BadLine____init__ (xt_BadLine F) (init_BadLine F) (no_BadLine_line F) rfl (fun _ _ _ _ _ _ us hl => match us, hl with | [_, _], _ => rfl) (fun _ _ _ _ _ _ => pss_one (ps_xst (pv 0) (pv 1)))
theorem S_BadNumber____init__ : FnScope ["self", "word"] ["self", "word"] (defScope (inClass (top 3) 0)) := C8.fnScope_by (by kernel_rfl)
theorem ok_BadNumber____init__ {P : Program} {w : World} {K : PySem.W.Frag} {mg : Str → Option Value} {base : Heap} (F : Fx K mg) : FnX P w (W0 K) mg base 1 2 [0] := by
  obtain ⟨fd, Fd⟩ := F.c.def_ 2 (d := d_BadNumber____init__)
  exact fnX1 (W := W0 K) (f := "word") (k := 0) Fd S_BadNumber____init__ (xt_BadNumber F) (init_BadNumber F) (no_BadNumber_word F) rfl (fun _ _ _ _ _ _ us hl => match us, hl with | [_, _], _ => rfl) (fun _ _ _ _ _ _ => pss_one (ps_xst (pv 0) (pv 1)))
theorem S_BadSigns____init__ : FnScope ["self", "at"] ["self", "at"] (defScope (inClass (top 6) 0)) := C8.fnScope_by (by kernel_rfl)
theorem ok_BadSigns____init__ {P : Program} {w : World} {K : PySem.W.Frag} {mg : Str → Option Value} {base : Heap} (F : Fx K mg) : FnX P w (W0 K) mg base 1 5 [2] := by
  obtain ⟨fd, Fd⟩ := F.c.def_ 3 (d := d_BadSigns____init__)
  exact fnX1 (W := W0 K) (f := "at") (k := 0) Fd S_BadSigns____init__ (xt_BadSigns F) (init_BadSigns F) (no_BadSigns_at F) rfl (fun _ _ _ _ _ _ us hl => match us, hl with | [_, _], _ => rfl) (fun _ _ _ _ _ _ => pss_one (ps_xst (pv 0) (pv 1)))
theorem S_Chart__bad : FnScope ["self"] ["self"] (defScope (inClass (top 31) 2)) := C8.fnScope_by (by kernel_rfl)
def g_Chart__bad_0 : SS := (gRet (sUn (oFld (ocL [0]) 3) (sOp (sName 0))))
def g_Chart__bad : SS := g_Chart__bad_0
def F_Chart__bad : FS := fnF 1 g_Chart__bad
theorem ok_Chart__bad {P : Program} {w : World} {K : PySem.W.Frag} {mg : Str → Option Value} {base : Heap} (F : Fx K mg) : FnV P w (W0 K) mg base 1 (d_Chart__bad.at_ K) 1 F_Chart__bad [] := by
  obtain ⟨fd, Fd⟩ := F.c.def_ 4 (d := d_Chart__bad)
  have S0 := S_Chart__bad
  exact fnV_of (W := W0 K) (k := 0) (g := g_Chart__bad) (N := ["self"]) (ps := ["self"]) Fd S0 (fun _ _ _ _ _ _ us hl => match us, hl with | [_], _ => rfl) fun cdv A outer s H E C hr hE => (pn_one (p1_ret (px_fld 3 rfl inj0 (fl__bad F) rfl (px_name 0))))
theorem S_Chart__sound : FnScope ["self"] ["self"] (defScope (inClass (top 31) 3)) := C8.fnScope_by (by kernel_rfl)
def g_Chart__sound_0 : SS := (gRet (sBin (oIs false) (sOp (sUn (oFld (ocL [0]) 3) (sOp (sName 0)))) (sOp (sC .non))))
def g_Chart__sound : SS := g_Chart__sound_0
def F_Chart__sound : FS := fnF 1 g_Chart__sound
theorem ok_Chart__sound {P : Program} {w : World} {K : PySem.W.Frag} {mg : Str → Option Value} {base : Heap} (F : Fx K mg) : FnV P w (W0 K) mg base 1 (d_Chart__sound.at_ K) 1 F_Chart__sound [] := by
  obtain ⟨fd, Fd⟩ := F.c.def_ 5 (d := d_Chart__sound)
  have S0 := S_Chart__sound
  exact fnV_of (W := W0 K) (k := 0) (g := g_Chart__sound) (N := ["self"]) (ps := ["self"]) Fd S0 (fun _ _ _ _ _ _ us hl => match us, hl with | [_], _ => rfl) fun cdv A outer s H E C hr hE => (pn_one (p1_ret (px_cmp op_isN prim_is (px_fld 3 rfl inj0 (fl__bad F) rfl (px_name 0)) px_non (by first | exact nomark _ | rfl))))
theorem S__law_int : FnScope ["_law_value"] ["_law_value"] (defScope (top 42)) := C8.fnScope_by (by kernel_rfl)
def g__law_int_0 : SS := (gRet (sAnd (sCall (oIsi IC) (sCons (sOp (sName 0)) (sCons (sOp (sC (.ty 0))) sNil))) (sNot (sCall (oIsi IC) (sCons (sOp (sName 0)) (sCons (sOp (sC (.ty 1))) sNil))))))
def g__law_int : SS := g__law_int_0
def F__law_int : FS := fnF 1 g__law_int
theorem ok__law_int {P : Program} {w : World} {K : PySem.W.Frag} {mg : Str → Option Value} {base : Heap} (F : Fx K mg) : FnV P w (W0 K) mg base 1 (d__law_int.at_ K) 1 F__law_int [] := by
  obtain ⟨fd, Fd⟩ := F.c.def_ 6 (d := d__law_int)
  have S0 := S__law_int
  exact fnV_of (W := W0 K) (k := 0) (g := g__law_int) (N := ["_law_value"]) (ps := ["_law_value"]) Fd S0 (fun _ _ _ _ _ _ us hl => match us, hl with | [_], _ => rfl) fun cdv A outer s H E C hr hE => (pn_one (p1_ret (px_and (px_callB call_isiA (prim_isi (isf0 F)) (m_isinstance F) PyProof.Rows.boot_isinstance (pxa_cons (pxo (px_name 0)) (pxa_cons (pxo (px_ty 0 (m_int F) PyProof.Rows.boot_int)) pxa_nil))) (px_one (px_not (px_callB call_isiA (prim_isi (isf0 F)) (m_isinstance F) PyProof.Rows.boot_isinstance (pxa_cons (pxo (px_name 0)) (pxa_cons (pxo (px_ty 1 (m_bool F) PyProof.Rows.boot_bool)) pxa_nil))))))))
theorem kp__law_int {K : PySem.W.Frag} {mg : Str → Option Value} (F : Fx K mg) : PySem.W.keepIn K (.ref (He.ga K "_law_int")) = true := by
  obtain ⟨fd, Fd⟩ := F.c.def_ 6 (d := d__law_int)
  exact Fd.kp
theorem S__law_met : FnScope ["_law_row_here", "_law_x", "_law_y", "_law_z", "_law_sign"] ["_law_row_here", "_law_x", "_law_y", "_law_z"] (defScope (top 44)) := C8.fnScope_by (by kernel_rfl)
def g__law_met_0 : SS := (gSet 4 (sBin oIx (sOp (sName 0)) (sOp (sBin oSub (sOp (sBin oAdd (sOp (sBin oAdd (sOp (sName 1)) (sOp (sName 2)))) (sOp (sName 3)))) (sOp (sC (.int 3)))))))
def g__law_met_1 : SS := (gIf (sTb (sBin oLtA (sOp (sName 2)) (sOp (sName 3)))) (gRet (sName 4)) gNx)
def g__law_met_2 : SS := (gRet (sUn oNeg (sOp (sName 4))))
def g__law_met : SS := (gSeq g__law_met_0 (gSeq g__law_met_1 g__law_met_2))
def F__law_met : FS := fnF 5 g__law_met
theorem ok__law_met {P : Program} {w : World} {K : PySem.W.Frag} {mg : Str → Option Value} {base : Heap} (F : Fx K mg) : FnV P w (W0 K) mg base 1 (d__law_met.at_ K) 4 F__law_met [] := by
  obtain ⟨fd, Fd⟩ := F.c.def_ 7 (d := d__law_met)
  have S0 := S__law_met
  exact fnV_of (W := W0 K) (k := 0) (g := g__law_met) (N := ["_law_row_here", "_law_x", "_law_y", "_law_z", "_law_sign"]) (ps := ["_law_row_here", "_law_x", "_law_y", "_law_z"]) Fd S0 (fun _ _ _ _ _ _ us hl => match us, hl with | [_, _, _, _], _ => rfl) fun cdv A outer s H E C hr hE => (pn_cons (p1_set 4 S0.nd (px_ix rfl (px_name 0) (px_bin op_sub prim_sub (px_bin op_add4 prim_add (px_bin op_add4 prim_add (px_name 1) (px_name 2)) (px_name 3)) px_int))) (pn_cons (p1_if (pxt_cmp (op_ltP (hu_of hr)) prim_ltA (px_name 2) (px_name 3) (by first | exact nomark _ | rfl)) (pn_one (p1_ret (px_name 4))) pn_nil) (pn_one (p1_ret (px_un un_neg prim_neg (px_name 4))))))
theorem kp__law_met {K : PySem.W.Frag} {mg : Str → Option Value} (F : Fx K mg) : PySem.W.keepIn K (.ref (He.ga K "_law_met")) = true := by
  obtain ⟨fd, Fd⟩ := F.c.def_ 7 (d := d__law_met)
  exact Fd.kp
theorem S__law_next : FnScope ["_law_pool_here", "_law_many"] ["_law_pool_here", "_law_many"] (defScope (top 41)) := C8.fnScope_by (by kernel_rfl)
def g__law_next_0 : SS := (gIf (sTb (sBin oEq (sOp (sCall oLen (sCons (sOp (sName 0)) sNil))) (sOp (sC (.int 0))))) (gRet (sC (.int 0))) gNx)
def g__law_next_1 : SS := (gRet (sBin oMod (sOp (sCall oInt (sCons (sOp (sPop 0)) sNil))) (sOp (sName 1))))
def g__law_next : SS := (gSeq g__law_next_0 g__law_next_1)
def F__law_next : FS := fnF 2 g__law_next
theorem ok__law_next {P : Program} {w : World} {K : PySem.W.Frag} {mg : Str → Option Value} {base : Heap} (F : Fx K mg) : FnV P w (W0 K) mg base 1 (d__law_next.at_ K) 2 F__law_next [] := by
  obtain ⟨fd, Fd⟩ := F.c.def_ 8 (d := d__law_next)
  have S0 := S__law_next
  exact fnV_of (W := W0 K) (k := 0) (g := g__law_next) (N := ["_law_pool_here", "_law_many"]) (ps := ["_law_pool_here", "_law_many"]) Fd S0 (fun _ _ _ _ _ _ us hl => match us, hl with | [_, _], _ => rfl) fun cdv A outer s H E C hr hE => (pn_cons (p1_if (pxt_cmp (op_eqP (hu_of hr)) prim_eq (px_callB call_len2 prim_len (m_len F) boot_len (pxa_cons (pxo (px_name 0)) pxa_nil)) px_int (by first | exact nomark _ | rfl)) (pn_one (p1_ret px_int)) pn_nil) (pn_one (p1_ret (px_bin op_mod prim_mod (px_callTy call_int1 prim_int (m_int F) PyProof.Rows.boot_int (pxa_cons (pxo (px_pop 0)) pxa_nil)) (px_name 1)))))
theorem kp__law_next {K : PySem.W.Frag} {mg : Str → Option Value} (F : Fx K mg) : PySem.W.keepIn K (.ref (He.ga K "_law_next")) = true := by
  obtain ⟨fd, Fd⟩ := F.c.def_ 8 (d := d__law_next)
  exact Fd.kp
theorem S__law_pool : FnScope ["_law_script", "_law_pool_here", "_law_at", "_law_cell", "_law_turn", "_law_number"] ["_law_script"] (defScope (top 40)) := C8.fnScope_by (by kernel_rfl)
def g__law_pool_0 : SS := (gSet 1 (sLst sNil))
def g__law_pool_1 : SS := (gFor (sRange (sCons (sOp (sCall oMin2 (sCons (sOp (sCall oLen (sCons (sOp (sName 0)) sNil))) (sCons (sOp (sC (.int 63))) sNil)))) sNil)) (kName 2) (gSeq (gSet 3 (sCall oInt (sCons (sOp (sBin oIx (sOp (sName 0)) (sOp (sName 2)))) sNil))) (gSeq (gIf (sTb (sBin oLtA (sOp (sName 3)) (sOp (sC (.int 0))))) (gSet 3 (sBin oSub (sOp (sC (.int 2))) (sOp (sName 3)))) gNx) (gIf (sTb (sBin oGeA (sOp (sName 3)) (sOp (sBin oPow (sOp (sC (.int 10))) (sOp (sC (.int 18))))))) (gFor (sRange (sCons (sOp (sC (.int 48))) sNil)) (kName 4) (gIf (sTb (sBin oGtA (sOp (sName 3)) (sOp (sC (.int 0))))) (gSeq (gDrop (sAppend 1 (sBin oMod (sOp (sCall oInt (sCons (sOp (sName 3)) sNil))) (sOp (sC (.int 30)))))) (gSet 3 (sBin oFdiv (sOp (sName 3)) (sOp (sC (.int 30)))))) gNx)) (gSeq (gSet 5 (sBin oMod (sOp (sCall oInt (sCons (sOp (sBin oAdd (sOp (sBin oAdd (sOp (sBin oMulI (sOp (sName 3)) (sOp (sC (.int 30011))))) (sOp (sBin oMulI (sOp (sName 2)) (sOp (sC (.int 4513))))))) (sOp (sC (.int 77))))) sNil))) (sOp (sC (.int 1000003))))) (gFor (sRange (sCons (sOp (sC (.int 5))) sNil)) (kName 4) (gSeq (gSet 5 (sBin oMod (sOp (sCall oInt (sCons (sOp (sBin oAdd (sOp (sBin oAdd (sOp (sBin oAdd (sOp (sBin oMulI (sOp (sName 5)) (sOp (sName 5)))) (sOp (sBin oMulI (sOp (sName 4)) (sOp (sC (.int 911))))))) (sOp (sName 2)))) (sOp (sC (.int 3))))) sNil))) (sOp (sC (.int 999983))))) (gDrop (sAppend 1 (sBin oFdiv (sOp (sName 5)) (sOp (sC (.int 7)))))))))))))
def g__law_pool_2 : SS := (gDrop (sReverse 1))
def g__law_pool_3 : SS := (gRet (sName 1))
def g__law_pool : SS := (gSeq g__law_pool_0 (gSeq g__law_pool_1 (gSeq g__law_pool_2 g__law_pool_3)))
def F__law_pool : FS := fnF 6 g__law_pool
theorem ok__law_pool {P : Program} {w : World} {K : PySem.W.Frag} {mg : Str → Option Value} {base : Heap} (F : Fx K mg) : FnV P w (W0 K) mg base 1 (d__law_pool.at_ K) 1 F__law_pool [] := by
  obtain ⟨fd, Fd⟩ := F.c.def_ 9 (d := d__law_pool)
  have S0 := S__law_pool
  exact fnV_of (W := W0 K) (k := 0) (g := g__law_pool) (N := ["_law_script", "_law_pool_here", "_law_at", "_law_cell", "_law_turn", "_law_number"]) (ps := ["_law_script"]) Fd S0 (fun _ _ _ _ _ _ us hl => match us, hl with | [_], _ => rfl) fun cdv A outer s H E C hr hE => (pn_cons (p1_set 1 S0.nd (px_lst pxa_nil)) (pn_cons (p1_for (passes_of rfl) rfl (pi_rng1 (m_range F) (pxo (px_callB (call_min2 rfl) (prim_mm2 fMin) (m_min F) PyProof.Rows.boot_min (pxa_cons (pxo (px_callB call_len2 prim_len (m_len F) boot_len (pxa_cons (pxo (px_name 0)) pxa_nil))) (pxa_cons (pxo px_int) pxa_nil))))) (pg_x 2 S0.nd) (pn_cons (p1_set 3 S0.nd (px_callTy call_int1 prim_int (m_int F) PyProof.Rows.boot_int (pxa_cons (pxo (px_ix rfl (px_name 0) (px_name 2))) pxa_nil))) (pn_cons (p1_if (pxt_cmp (op_ltP (hu_of hr)) prim_ltA (px_name 3) px_int (by first | exact nomark _ | rfl)) (pn_one (p1_set 3 S0.nd (px_bin op_sub prim_sub px_int (px_name 3)))) pn_nil) (pn_one (p1_if (pxt_cmp (op_geP (hu_of hr)) prim_geA (px_name 3) (px_bin op_pow prim_pow px_int px_int) (by first | exact nomark _ | rfl)) (pn_one (p1_for (passes_of rfl) rfl (pi_rng1 (m_range F) (pxo px_int)) (pg_x 4 S0.nd) (pn_one (p1_if (pxt_cmp (op_gtP (hu_of hr)) prim_gtA (px_name 3) px_int (by first | exact nomark _ | rfl)) (pn_cons (p1_expr (px_append 1 (px_bin op_mod prim_mod (px_callTy call_int1 prim_int (m_int F) PyProof.Rows.boot_int (pxa_cons (pxo (px_name 3)) pxa_nil)) px_int))) (pn_one (p1_set 3 S0.nd (px_bin op_fdiv prim_fdiv (px_name 3) px_int)))) pn_nil)))) (pn_cons (p1_set 5 S0.nd (px_bin op_mod prim_mod (px_callTy call_int1 prim_int (m_int F) PyProof.Rows.boot_int (pxa_cons (pxo (px_bin op_add4 prim_add (px_bin op_add4 prim_add (px_bin op_mul prim_mulI (px_name 3) px_int) (px_bin op_mul prim_mulI (px_name 2) px_int)) px_int)) pxa_nil)) px_int)) (pn_one (p1_for (passes_of rfl) rfl (pi_rng1 (m_range F) (pxo px_int)) (pg_x 4 S0.nd) (pn_cons (p1_set 5 S0.nd (px_bin op_mod prim_mod (px_callTy call_int1 prim_int (m_int F) PyProof.Rows.boot_int (pxa_cons (pxo (px_bin op_add4 prim_add (px_bin op_add4 prim_add (px_bin op_add4 prim_add (px_bin op_mul prim_mulI (px_name 5) (px_name 5)) (px_bin op_mul prim_mulI (px_name 4) px_int)) (px_name 2)) px_int)) pxa_nil)) px_int)) (pn_one (p1_expr (px_append 1 (px_bin op_fdiv prim_fdiv (px_name 5) px_int))))))))))))) (pn_cons (p1_expr (px_reverse 1)) (pn_one (p1_ret (px_name 1))))))
theorem kp__law_pool {K : PySem.W.Frag} {mg : Str → Option Value} (F : Fx K mg) : PySem.W.keepIn K (.ref (He.ga K "_law_pool")) = true := by
  obtain ⟨fd, Fd⟩ := F.c.def_ 9 (d := d__law_pool)
  exact Fd.kp
theorem S__law_row : FnScope ["_law_number", "_law_row_here", "_law_at"] ["_law_number"] (defScope (top 43)) := C8.fnScope_by (by kernel_rfl)
def g__law_row_0 : SS := (gSet 1 (sLst sNil))
def g__law_row_1 : SS := (gFor (sRange (sCons (sOp (sC (.int 4))) sNil)) (kName 2) (gSeq (gDrop (sAppend 1 (sBin oSub (sOp (sBin oMod (sOp (sCall oInt (sCons (sOp (sName 0)) sNil))) (sOp (sC (.int 3))))) (sOp (sC (.int 1)))))) (gSet 0 (sBin oFdiv (sOp (sName 0)) (sOp (sC (.int 3)))))))
def g__law_row_2 : SS := (gRet (sName 1))
def g__law_row : SS := (gSeq g__law_row_0 (gSeq g__law_row_1 g__law_row_2))
def F__law_row : FS := fnF 3 g__law_row
theorem ok__law_row {P : Program} {w : World} {K : PySem.W.Frag} {mg : Str → Option Value} {base : Heap} (F : Fx K mg) : FnV P w (W0 K) mg base 1 (d__law_row.at_ K) 1 F__law_row [] := by
  obtain ⟨fd, Fd⟩ := F.c.def_ 10 (d := d__law_row)
  have S0 := S__law_row
  exact fnV_of (W := W0 K) (k := 0) (g := g__law_row) (N := ["_law_number", "_law_row_here", "_law_at"]) (ps := ["_law_number"]) Fd S0 (fun _ _ _ _ _ _ us hl => match us, hl with | [_], _ => rfl) fun cdv A outer s H E C hr hE => (pn_cons (p1_set 1 S0.nd (px_lst pxa_nil)) (pn_cons (p1_for (passes_of rfl) rfl (pi_rng1 (m_range F) (pxo px_int)) (pg_x 2 S0.nd) (pn_cons (p1_expr (px_append 1 (px_bin op_sub prim_sub (px_bin op_mod prim_mod (px_callTy call_int1 prim_int (m_int F) PyProof.Rows.boot_int (pxa_cons (pxo (px_name 0)) pxa_nil)) px_int) px_int))) (pn_one (p1_set 0 S0.nd (px_bin op_fdiv prim_fdiv (px_name 0) px_int))))) (pn_one (p1_ret (px_name 1)))))
theorem kp__law_row {K : PySem.W.Frag} {mg : Str → Option Value} (F : Fx K mg) : PySem.W.keepIn K (.ref (He.ga K "_law_row")) = true := by
  obtain ⟨fd, Fd⟩ := F.c.def_ 10 (d := d__law_row)
  exact Fd.kp
theorem S_is_int : FnScope ["value"] ["value"] (defScope (top 9)) := C8.fnScope_by (by kernel_rfl)
def g_is_int_0 : SS := (gRet (sAnd (sCall (oIsi IC) (sCons (sOp (sName 0)) (sCons (sOp (sC (.ty 0))) sNil))) (sNot (sCall (oIsi IC) (sCons (sOp (sName 0)) (sCons (sOp (sC (.ty 1))) sNil))))))
def g_is_int : SS := g_is_int_0
def F_is_int : FS := fnF 1 g_is_int
theorem ok_is_int {P : Program} {w : World} {K : PySem.W.Frag} {mg : Str → Option Value} {base : Heap} (F : Fx K mg) : FnV P w (W0 K) mg base 1 (d_is_int.at_ K) 1 F_is_int [] := by
  obtain ⟨fd, Fd⟩ := F.c.def_ 11 (d := d_is_int)
  have S0 := S_is_int
  exact fnV_of (W := W0 K) (k := 0) (g := g_is_int) (N := ["value"]) (ps := ["value"]) Fd S0 (fun _ _ _ _ _ _ us hl => match us, hl with | [_], _ => rfl) fun cdv A outer s H E C hr hE => (pn_one (p1_ret (px_and (px_callB call_isiA (prim_isi (isf0 F)) (m_isinstance F) PyProof.Rows.boot_isinstance (pxa_cons (pxo (px_name 0)) (pxa_cons (pxo (px_ty 0 (m_int F) PyProof.Rows.boot_int)) pxa_nil))) (px_one (px_not (px_callB call_isiA (prim_isi (isf0 F)) (m_isinstance F) PyProof.Rows.boot_isinstance (pxa_cons (pxo (px_name 0)) (pxa_cons (pxo (px_ty 1 (m_bool F) PyProof.Rows.boot_bool)) pxa_nil))))))))
theorem kp_is_int {K : PySem.W.Frag} {mg : Str → Option Value} (F : Fx K mg) : PySem.W.keepIn K (.ref (He.ga K "is_int")) = true := by
  obtain ⟨fd, Fd⟩ := F.c.def_ 11 (d := d_is_int)
  exact Fd.kp
theorem S_sign_starts : FnScope ["size", "table", "before", "i", "starts", "j"] ["size"] (defScope (top 20)) := C8.fnScope_by (by kernel_rfl)
def g_sign_starts_0 : SS := (gSet 1 (sLst sNil))
def g_sign_starts_1 : SS := (gSet 2 (sC (.int 0)))
def g_sign_starts_2 : SS := (gFor (sRange (sCons (sOp (sName 0)) sNil)) (kName 3) (gSeq (gSet 4 (sLst sNil)) (gSeq (gFor (sRange (sCons (sOp (sName 0)) sNil)) (kName 5) (gSeq (gDrop (sAppend 4 (sBin oSub (sOp (sBin oSub (sOp (sName 2)) (sOp (sName 5)))) (sOp (sC (.int 1)))))) (gIf (sTb (sBin oGtA (sOp (sName 5)) (sOp (sName 3)))) (gSet 2 (sBin oSub (sOp (sBin oSub (sOp (sBin oAdd (sOp (sName 2)) (sOp (sName 0)))) (sOp (sName 5)))) (sOp (sC (.int 1))))) gNx))) (gDrop (sAppend 1 (sCall oTuple (sCons (sOp (sName 4)) sNil)))))))
def g_sign_starts_3 : SS := (gRet (sCall oTuple (sCons (sOp (sName 1)) sNil)))
def g_sign_starts : SS := (gSeq g_sign_starts_0 (gSeq g_sign_starts_1 (gSeq g_sign_starts_2 g_sign_starts_3)))
def F_sign_starts : FS := fnF 6 g_sign_starts
theorem ok_sign_starts {P : Program} {w : World} {K : PySem.W.Frag} {mg : Str → Option Value} {base : Heap} (F : Fx K mg) : FnV P w (W0 K) mg base 1 (d_sign_starts.at_ K) 1 F_sign_starts [] := by
  obtain ⟨fd, Fd⟩ := F.c.def_ 12 (d := d_sign_starts)
  have S0 := S_sign_starts
  exact fnV_of (W := W0 K) (k := 0) (g := g_sign_starts) (N := ["size", "table", "before", "i", "starts", "j"]) (ps := ["size"]) Fd S0 (fun _ _ _ _ _ _ us hl => match us, hl with | [_], _ => rfl) fun cdv A outer s H E C hr hE => (pn_cons (p1_set 1 S0.nd (px_lst pxa_nil)) (pn_cons (p1_set 2 S0.nd px_int) (pn_cons (p1_for (passes_of rfl) rfl (pi_rng1 (m_range F) (pxo (px_name 0))) (pg_x 3 S0.nd) (pn_cons (p1_set 4 S0.nd (px_lst pxa_nil)) (pn_cons (p1_for (passes_of rfl) rfl (pi_rng1 (m_range F) (pxo (px_name 0))) (pg_x 5 S0.nd) (pn_cons (p1_expr (px_append 4 (px_bin op_sub prim_sub (px_bin op_sub prim_sub (px_name 2) (px_name 5)) px_int))) (pn_one (p1_if (pxt_cmp (op_gtP (hu_of hr)) prim_gtA (px_name 5) (px_name 3) (by first | exact nomark _ | rfl)) (pn_one (p1_set 2 S0.nd (px_bin op_sub prim_sub (px_bin op_sub prim_sub (px_bin op_add4 prim_add (px_name 2) (px_name 0)) (px_name 5)) px_int))) pn_nil)))) (pn_one (p1_expr (px_append 1 (px_callTy call_tuple_of prim_tuple (m_tuple F) PyProof.Rows.boot_tuple (pxa_cons (pxo (px_name 4)) pxa_nil)))))))) (pn_one (p1_ret (px_callTy call_tuple_of prim_tuple (m_tuple F) PyProof.Rows.boot_tuple (pxa_cons (pxo (px_name 1)) pxa_nil)))))))
theorem kp_sign_starts {K : PySem.W.Frag} {mg : Str → Option Value} (F : Fx K mg) : PySem.W.keepIn K (.ref (He.ga K "sign_starts")) = true := by
  obtain ⟨fd, Fd⟩ := F.c.def_ 12 (d := d_sign_starts)
  exact Fd.kp
theorem S_signed : FnScope ["chart", "x", "y", "z", "j", "sign", "odd", "i", "k"] ["chart", "x", "y", "z"] (defScope (top 25)) := C8.fnScope_by (by kernel_rfl)
def g_signed_0 : SS := (gPar 7 8 (sCons (sOv (sCall oMin3 (sCons (sOp (sName 1)) (sCons (sOp (sName 2)) (sCons (sOp (sName 3)) sNil))))) (sCons (sOv (sCall oMax3 (sCons (sOp (sName 1)) (sCons (sOp (sName 2)) (sCons (sOp (sName 3)) sNil))))) sNil)))
def g_signed_1 : SS := (gSet 4 (sBin oSub (sOp (sBin oSub (sOp (sBin oAdd (sOp (sBin oAdd (sOp (sName 1)) (sOp (sName 2)))) (sOp (sName 3)))) (sOp (sName 7)))) (sOp (sName 8))))
def g_signed_2 : SS := (gSet 5 (sBin oIx (sOp (sUn (oFld (ocL [0]) 4) (sOp (sName 0)))) (sOp (sBin oAdd (sOp (sBin oIx (sOp (sBin oIx (sOp (sUn (oFld (ocL [0]) 5) (sOp (sName 0)))) (sOp (sName 7)))) (sOp (sName 4)))) (sOp (sName 8))))))
def g_signed_3 : SS := (gSet 6 (sBin oAdd (sOp (sBin oAdd (sOp (sCall oInt (sCons (sOp (sBin oGtA (sOp (sName 1)) (sOp (sName 2)))) sNil))) (sOp (sCall oInt (sCons (sOp (sBin oGtA (sOp (sName 1)) (sOp (sName 3)))) sNil))))) (sOp (sCall oInt (sCons (sOp (sBin oGtA (sOp (sName 2)) (sOp (sName 3)))) sNil)))))
def g_signed_4 : SS := (gRet (sIf (sTb (sBin oEq (sOp (sBin oMod (sOp (sName 6)) (sOp (sC (.int 2))))) (sOp (sC (.int 0))))) (sName 5) (sUn oNeg (sOp (sName 5)))))
def g_signed : SS := (gSeq g_signed_0 (gSeq g_signed_1 (gSeq g_signed_2 (gSeq g_signed_3 g_signed_4))))
def F_signed : FS := fnF 9 g_signed
theorem ok_signed {P : Program} {w : World} {K : PySem.W.Frag} {mg : Str → Option Value} {base : Heap} (F : Fx K mg) : FnV P w (W0 K) mg base 1 (d_signed.at_ K) 4 F_signed [] := by
  obtain ⟨fd, Fd⟩ := F.c.def_ 13 (d := d_signed)
  have S0 := S_signed
  exact fnV_of (W := W0 K) (k := 0) (g := g_signed) (N := ["chart", "x", "y", "z", "j", "sign", "odd", "i", "k"]) (ps := ["chart", "x", "y", "z"]) Fd S0 (fun _ _ _ _ _ _ us hl => match us, hl with | [_, _, _, _], _ => rfl) fun cdv A outer s H E C hr hE => (pn_cons (p1_par 7 8 rfl S0.nd (pxa_cons (pxov (px_callB (call_min3Nu rfl) prim_min3 (m_min F) PyProof.Rows.boot_min (pxa_cons (pxo (px_name 1)) (pxa_cons (pxo (px_name 2)) (pxa_cons (pxo (px_name 3)) pxa_nil))))) (pxa_cons (pxov (px_callB (call_max3Nu rfl) prim_max3 (m_max F) PyProof.Rows.boot_max (pxa_cons (pxo (px_name 1)) (pxa_cons (pxo (px_name 2)) (pxa_cons (pxo (px_name 3)) pxa_nil))))) pxa_nil))) (pn_cons (p1_set 4 S0.nd (px_bin op_sub prim_sub (px_bin op_sub prim_sub (px_bin op_add4 prim_add (px_bin op_add4 prim_add (px_name 1) (px_name 2)) (px_name 3)) (px_name 7)) (px_name 8))) (pn_cons (p1_set 5 S0.nd (px_ix rfl (px_fld 4 rfl inj0 (fl_signs F) rfl (px_name 0)) (px_bin op_add4 prim_add (px_ix rfl (px_ix rfl (px_fld 5 rfl inj0 (fl__starts F) rfl (px_name 0)) (px_name 7)) (px_name 4)) (px_name 8)))) (pn_cons (p1_set 6 S0.nd (px_bin op_add4 prim_add (px_bin op_add4 prim_add (px_callTy call_int1 prim_int (m_int F) PyProof.Rows.boot_int (pxa_cons (pxo (px_cmp (op_gtP (hu_of hr)) prim_gtA (px_name 1) (px_name 2) (by first | exact nomark _ | rfl))) pxa_nil)) (px_callTy call_int1 prim_int (m_int F) PyProof.Rows.boot_int (pxa_cons (pxo (px_cmp (op_gtP (hu_of hr)) prim_gtA (px_name 1) (px_name 3) (by first | exact nomark _ | rfl))) pxa_nil))) (px_callTy call_int1 prim_int (m_int F) PyProof.Rows.boot_int (pxa_cons (pxo (px_cmp (op_gtP (hu_of hr)) prim_gtA (px_name 2) (px_name 3) (by first | exact nomark _ | rfl))) pxa_nil)))) (pn_one (p1_ret (px_if (pxt_cmp (op_eqP (hu_of hr)) prim_eq (px_bin op_mod prim_mod (px_name 6) px_int) px_int (by first | exact nomark _ | rfl)) (px_name 5) (px_un un_neg prim_neg (px_name 5)))))))))
theorem kp_signed {K : PySem.W.Frag} {mg : Str → Option Value} (F : Fx K mg) : PySem.W.keepIn K (.ref (He.ga K "signed")) = true := by
  obtain ⟨fd, Fd⟩ := F.c.def_ 13 (d := d_signed)
  exact Fd.kp
theorem S_steady : FnScope ["four_signs", "a", "b", "c", "d"] ["four_signs"] (defScope (top 22)) := C8.fnScope_by (by kernel_rfl)
def g_steady_0 : SS := (gUnp (kTup 4 (kCons (kName 1) (kCons (kName 2) (kCons (kName 3) (kCons (kName 4) kNil))))) (sV (sName 0)))
def g_steady_1 : SS := (gRet (sAnd (sBin oNe (sOp (sBin oMulI (sOp (sBin oMulI (sOp (sBin oMulI (sOp (sName 1)) (sOp (sName 2)))) (sOp (sName 3)))) (sOp (sName 4)))) (sOp (sC (.int 0)))) (sBin oLeA (sOp (sBin oAdd (sOp (sBin oAdd (sOp (sCall oInt (sCons (sOp (sBin oNe (sOp (sName 1)) (sOp (sName 2)))) sNil))) (sOp (sCall oInt (sCons (sOp (sBin oNe (sOp (sName 2)) (sOp (sName 3)))) sNil))))) (sOp (sCall oInt (sCons (sOp (sBin oNe (sOp (sName 3)) (sOp (sName 4)))) sNil))))) (sOp (sC (.int 1))))))
def g_steady : SS := (gSeq g_steady_0 g_steady_1)
def F_steady : FS := fnF 5 g_steady
theorem ok_steady {P : Program} {w : World} {K : PySem.W.Frag} {mg : Str → Option Value} {base : Heap} (F : Fx K mg) : FnV P w (W0 K) mg base 1 (d_steady.at_ K) 1 F_steady [] := by
  obtain ⟨fd, Fd⟩ := F.c.def_ 14 (d := d_steady)
  have S0 := S_steady
  exact fnV_of (W := W0 K) (k := 0) (g := g_steady) (N := ["four_signs", "a", "b", "c", "d"]) (ps := ["four_signs"]) Fd S0 (fun _ _ _ _ _ _ us hl => match us, hl with | [_], _ => rfl) fun cdv A outer s H E C hr hE => (pn_cons (p1_unp (px_name 0) (pgx_tup rfl rfl (pgx_cons (pg_x 1 S0.nd) (pgx_cons (pg_x 2 S0.nd) (pgx_cons (pg_x 3 S0.nd) (pgx_cons (pg_x 4 S0.nd) pgx_nil)))))) (pn_one (p1_ret (px_and (px_cmp (op_neP (hu_of hr)) prim_ne (px_bin op_mul prim_mulI (px_bin op_mul prim_mulI (px_bin op_mul prim_mulI (px_name 1) (px_name 2)) (px_name 3)) (px_name 4)) px_int (by first | exact nomark _ | rfl)) (px_one (px_cmp (op_leP (hu_of hr)) prim_leA (px_bin op_add4 prim_add (px_bin op_add4 prim_add (px_callTy call_int1 prim_int (m_int F) PyProof.Rows.boot_int (pxa_cons (pxo (px_cmp (op_neP (hu_of hr)) prim_ne (px_name 1) (px_name 2) (by first | exact nomark _ | rfl))) pxa_nil)) (px_callTy call_int1 prim_int (m_int F) PyProof.Rows.boot_int (pxa_cons (pxo (px_cmp (op_neP (hu_of hr)) prim_ne (px_name 2) (px_name 3) (by first | exact nomark _ | rfl))) pxa_nil))) (px_callTy call_int1 prim_int (m_int F) PyProof.Rows.boot_int (pxa_cons (pxo (px_cmp (op_neP (hu_of hr)) prim_ne (px_name 3) (px_name 4) (by first | exact nomark _ | rfl))) pxa_nil))) px_int (by first | exact nomark _ | rfl)))))))
theorem kp_steady {K : PySem.W.Frag} {mg : Str → Option Value} (F : Fx K mg) : PySem.W.keepIn K (.ref (He.ga K "steady")) = true := by
  obtain ⟨fd, Fd⟩ := F.c.def_ 14 (d := d_steady)
  exact Fd.kp
theorem S_three_list : FnScope ["size", "found", "i", "j", "k"] ["size"] (defScope (top 13)) := C8.fnScope_by (by kernel_rfl)
def g_three_list_0 : SS := (gSet 1 (sLst sNil))
def g_three_list_1 : SS := (gFor (sRange (sCons (sOp (sName 0)) sNil)) (kName 2) (gFor (sRange (sCons (sOp (sBin oAdd (sOp (sName 2)) (sOp (sC (.int 1))))) (sCons (sOp (sName 0)) sNil))) (kName 3) (gFor (sRange (sCons (sOp (sBin oAdd (sOp (sName 3)) (sOp (sC (.int 1))))) (sCons (sOp (sName 0)) sNil))) (kName 4) (gDrop (sAppend 1 (sTup (sCons (sOv (sName 2)) (sCons (sOv (sName 3)) (sCons (sOv (sName 4)) sNil)))))))))
def g_three_list_2 : SS := (gRet (sName 1))
def g_three_list : SS := (gSeq g_three_list_0 (gSeq g_three_list_1 g_three_list_2))
def F_three_list : FS := fnF 5 g_three_list
theorem ok_three_list {P : Program} {w : World} {K : PySem.W.Frag} {mg : Str → Option Value} {base : Heap} (F : Fx K mg) : FnV P w (W0 K) mg base 1 (d_three_list.at_ K) 1 F_three_list [] := by
  obtain ⟨fd, Fd⟩ := F.c.def_ 15 (d := d_three_list)
  have S0 := S_three_list
  exact fnV_of (W := W0 K) (k := 0) (g := g_three_list) (N := ["size", "found", "i", "j", "k"]) (ps := ["size"]) Fd S0 (fun _ _ _ _ _ _ us hl => match us, hl with | [_], _ => rfl) fun cdv A outer s H E C hr hE => (pn_cons (p1_set 1 S0.nd (px_lst pxa_nil)) (pn_cons (p1_for (passes_of rfl) rfl (pi_rng1 (m_range F) (pxo (px_name 0))) (pg_x 2 S0.nd) (pn_one (p1_for (passes_of rfl) rfl (pi_rng2 (m_range F) (pxo (px_bin op_add4 prim_add (px_name 2) px_int)) (pxo (px_name 0))) (pg_x 3 S0.nd) (pn_one (p1_for (passes_of rfl) rfl (pi_rng2 (m_range F) (pxo (px_bin op_add4 prim_add (px_name 3) px_int)) (pxo (px_name 0))) (pg_x 4 S0.nd) (pn_one (p1_expr (px_append 1 (px_tup (pxa_cons (pxov (px_name 2)) (pxa_cons (pxov (px_name 3)) (pxa_cons (pxov (px_name 4)) pxa_nil)))))))))))) (pn_one (p1_ret (px_name 1)))))
theorem kp_three_list {K : PySem.W.Frag} {mg : Str → Option Value} (F : Fx K mg) : PySem.W.keepIn K (.ref (He.ga K "three_list")) = true := by
  obtain ⟨fd, Fd⟩ := F.c.def_ 15 (d := d_three_list)
  exact Fd.kp
theorem S__law_faulty : FnScope ["_law_pool_here", "_law_row_here", "_law_word", "_law_place", "_law_wrong"] ["_law_pool_here", "_law_row_here"] (defScope (top 48)) := C8.fnScope_by (by kernel_rfl)
def g__law_faulty_0 : SS := (gSet 2 (sFn F__law_next [.io, .bo] [] (sCons (sOp (sName 0)) (sCons (sOp (sC (.int 7))) sNil))))
def g__law_faulty_1 : SS := (gSet 3 (sFn F__law_next [.io, .bo] [] (sCons (sOp (sName 0)) (sCons (sOp (sC (.int 4))) sNil))))
def g__law_faulty_2 : SS := (gSet 4 (sCall oList (sCons (sOp (sName 1)) sNil)))
def g__law_faulty_3 : SS := (gIf (sTb (sBin oEq (sOp (sName 2)) (sOp (sC (.int 0))))) (gRet (sCut (sOp (sName 4)) (boSem .no) (boSem (.at_ (sC (.int 3)))))) gNx)
def g__law_faulty_4 : SS := (gIf (sTb (sBin oEq (sOp (sName 2)) (sOp (sC (.int 1))))) (gRet (sBin oAdd (sOp (sName 4)) (sOp (sLst (sCons (sOv (sC (.int 1))) sNil))))) gNx)
def g__law_faulty_5 : SS := (gIf (sTb (sBin oEq (sOp (sName 2)) (sOp (sC (.int 2))))) (gSetIx 4 (sOp (sName 3)) (sV (sC (.int 2)))) gNx)
def g__law_faulty_6 : SS := (gIf (sTb (sBin oEq (sOp (sName 2)) (sOp (sC (.int 3))))) (gSetIx 4 (sOp (sName 3)) (sV (sUn oNeg (sOp (sC (.int 2)))))) gNx)
def g__law_faulty_7 : SS := (gIf (sTb (sBin oEq (sOp (sName 2)) (sOp (sC (.int 4))))) (gSetIx 4 (sOp (sName 3)) (sV (sC (.bl true)))) gNx)
def g__law_faulty_8 : SS := (gIf (sTb (sBin oEq (sOp (sName 2)) (sOp (sC (.int 5))))) (gSetIx 4 (sOp (sName 3)) (sV (sC .non))) gNx)
def g__law_faulty_9 : SS := (gIf (sTb (sBin oEq (sOp (sName 2)) (sOp (sC (.int 6))))) (gRet (sC (.str "+0--"))) gNx)
def g__law_faulty_10 : SS := (gRet (sName 4))
def g__law_faulty : SS := (gSeq g__law_faulty_0 (gSeq g__law_faulty_1 (gSeq g__law_faulty_2 (gSeq g__law_faulty_3 (gSeq g__law_faulty_4 (gSeq g__law_faulty_5 (gSeq g__law_faulty_6 (gSeq g__law_faulty_7 (gSeq g__law_faulty_8 (gSeq g__law_faulty_9 g__law_faulty_10))))))))))
def F__law_faulty : FS := fnF 5 g__law_faulty
theorem ok__law_faulty {P : Program} {w : World} {K : PySem.W.Frag} {mg : Str → Option Value} {base : Heap} (F : Fx K mg) : FnV P w (W0 K) mg base 3 (d__law_faulty.at_ K) 2 F__law_faulty [] := by
  obtain ⟨fd, Fd⟩ := F.c.def_ 16 (d := d__law_faulty)
  have S0 := S__law_faulty
  exact fnV_of (W := W0 K) (k := 2) (g := g__law_faulty) (N := ["_law_pool_here", "_law_row_here", "_law_word", "_law_place", "_law_wrong"]) (ps := ["_law_pool_here", "_law_row_here"]) Fd S0 (fun _ _ _ _ _ _ us hl => match us, hl with | [_, _], _ => rfl) fun cdv A outer s H E C hr hE => (pn_cons (p1_set 2 S0.nd (px_callV [.io, .bo] rfl (ok__law_next F) hr (by decide) (gl__law_next F) (kp__law_next F) (passW_of (takes_of rfl rfl rfl rfl)) (pxa_cons (pxo (px_name 0)) (pxa_cons (pxo px_int) pxa_nil)) rfl)) (pn_cons (p1_set 3 S0.nd (px_callV [.io, .bo] rfl (ok__law_next F) hr (by decide) (gl__law_next F) (kp__law_next F) (passW_of (takes_of rfl rfl rfl rfl)) (pxa_cons (pxo (px_name 0)) (pxa_cons (pxo px_int) pxa_nil)) rfl)) (pn_cons (p1_set 4 S0.nd (px_callTy call_list_of prim_list (m_list F) PyProof.Rows.boot_list (pxa_cons (pxo (px_name 1)) pxa_nil))) (pn_cons (p1_if (pxt_cmp (op_eqP (hu_of hr)) prim_eq (px_name 2) px_int (by first | exact nomark _ | rfl)) (pn_one (p1_ret (px_cut rfl (px_name 4) .no (.at_ px_int)))) pn_nil) (pn_cons (p1_if (pxt_cmp (op_eqP (hu_of hr)) prim_eq (px_name 2) px_int (by first | exact nomark _ | rfl)) (pn_one (p1_ret (px_bin op_add4 prim_add (px_name 4) (px_lst (pxa_cons (pxov px_int) pxa_nil))))) pn_nil) (pn_cons (p1_if (pxt_cmp (op_eqP (hu_of hr)) prim_eq (px_name 2) px_int (by first | exact nomark _ | rfl)) (pn_one (p1_setIx 4 (px_name 3) px_int)) pn_nil) (pn_cons (p1_if (pxt_cmp (op_eqP (hu_of hr)) prim_eq (px_name 2) px_int (by first | exact nomark _ | rfl)) (pn_one (p1_setIx 4 (px_name 3) (px_un un_neg prim_neg px_int))) pn_nil) (pn_cons (p1_if (pxt_cmp (op_eqP (hu_of hr)) prim_eq (px_name 2) px_int (by first | exact nomark _ | rfl)) (pn_one (p1_setIx 4 (px_name 3) px_bl)) pn_nil) (pn_cons (p1_if (pxt_cmp (op_eqP (hu_of hr)) prim_eq (px_name 2) px_int (by first | exact nomark _ | rfl)) (pn_one (p1_setIx 4 (px_name 3) px_non)) pn_nil) (pn_cons (p1_if (pxt_cmp (op_eqP (hu_of hr)) prim_eq (px_name 2) px_int (by first | exact nomark _ | rfl)) (pn_one (p1_ret px_str)) pn_nil) (pn_one (p1_ret (px_name 4)))))))))))))
theorem kp__law_faulty {K : PySem.W.Frag} {mg : Str → Option Value} (F : Fx K mg) : PySem.W.keepIn K (.ref (He.ga K "_law_faulty")) = true := by
  obtain ⟨fd, Fd⟩ := F.c.def_ 16 (d := d__law_faulty)
  exact Fd.kp
theorem S__law_makes_ring : FnScope ["_law_row_here", "_law_x", "_law_told", "_law_name", "_law_ways", "_law_a", "_law_b", "_law_c"] ["_law_row_here", "_law_x", "_law_told"] (defScope (top 45)) := C8.fnScope_by (by kernel_rfl)
def g__law_makes_ring_0 : SS := (gIf (sOrT (sNotT (sTru (sOp (sCall (oIsi IC) (sCons (sOp (sName 2)) (sCons (sOp (sC (.ty 4))) sNil)))))) (sTb (sBin oNe (sOp (sCall oLen (sCons (sOp (sName 2)) sNil))) (sOp (sC (.int 3)))))) (gRet (sC (.bl false))) gNx)
def g__law_makes_ring_1 : SS := (gFor (sIter (sSrc (sName 2))) (kName 3) (gIf (sOrT (sNotT (sTru (sOp (sFn F__law_int [.bo] [] (sCons (sOp (sName 3)) sNil))))) (sOrT (sTb (sBin oLtA (sOp (sName 3)) (sOp (sC (.int 0))))) (sOrT (sTb (sBin oGtA (sOp (sName 3)) (sOp (sC (.int 3))))) (sTb (sBin oEq (sOp (sName 3)) (sOp (sName 1))))))) (gRet (sC (.bl false))) gNx))
def g__law_makes_ring_2 : SS := (gUnp (kTup 3 (kCons (kName 5) (kCons (kName 6) (kCons (kName 7) kNil)))) (sV (sName 2)))
def g__law_makes_ring_3 : SS := (gIf (sOrT (sTb (sBin oEq (sOp (sName 5)) (sOp (sName 6)))) (sOrT (sTb (sBin oEq (sOp (sName 6)) (sOp (sName 7)))) (sTb (sBin oEq (sOp (sName 5)) (sOp (sName 7)))))) (gRet (sC (.bl false))) gNx)
def g__law_makes_ring_4 : SS := (gSet 4 (sLst (sCons (sOv (sFn F__law_met [.bo, .bo, .bo, .bo] [] (sCons (sOp (sName 0)) (sCons (sOp (sName 1)) (sCons (sOp (sName 5)) (sCons (sOp (sName 6)) sNil)))))) (sCons (sOv (sFn F__law_met [.bo, .bo, .bo, .bo] [] (sCons (sOp (sName 0)) (sCons (sOp (sName 1)) (sCons (sOp (sName 6)) (sCons (sOp (sName 7)) sNil)))))) (sCons (sOv (sFn F__law_met [.bo, .bo, .bo, .bo] [] (sCons (sOp (sName 0)) (sCons (sOp (sName 1)) (sCons (sOp (sName 7)) (sCons (sOp (sName 5)) sNil)))))) sNil)))))
def g__law_makes_ring_5 : SS := (gRet (sAnd (sBin oGeA (sOp (sCall oMinL (sCons (sOp (sName 4)) sNil))) (sOp (sC (.int 0)))) (sBin oGtA (sOp (sCall oMaxL (sCons (sOp (sName 4)) sNil))) (sOp (sC (.int 0))))))
def g__law_makes_ring : SS := (gSeq g__law_makes_ring_0 (gSeq g__law_makes_ring_1 (gSeq g__law_makes_ring_2 (gSeq g__law_makes_ring_3 (gSeq g__law_makes_ring_4 g__law_makes_ring_5)))))
def F__law_makes_ring : FS := fnF 8 g__law_makes_ring
theorem ok__law_makes_ring {P : Program} {w : World} {K : PySem.W.Frag} {mg : Str → Option Value} {base : Heap} (F : Fx K mg) : FnV P w (W0 K) mg base 3 (d__law_makes_ring.at_ K) 3 F__law_makes_ring [] := by
  obtain ⟨fd, Fd⟩ := F.c.def_ 17 (d := d__law_makes_ring)
  have S0 := S__law_makes_ring
  exact fnV_of (W := W0 K) (k := 2) (g := g__law_makes_ring) (N := ["_law_row_here", "_law_x", "_law_told", "_law_name", "_law_ways", "_law_a", "_law_b", "_law_c"]) (ps := ["_law_row_here", "_law_x", "_law_told"]) Fd S0 (fun _ _ _ _ _ _ us hl => match us, hl with | [_, _, _], _ => rfl) fun cdv A outer s H E C hr hE => (pn_cons (p1_if (pxt_w (pxw_or (pxt_not (pxt_tru rfl (px_callB call_isiA (prim_isi (isf0 F)) (m_isinstance F) PyProof.Rows.boot_isinstance (pxa_cons (pxo (px_name 2)) (pxa_cons (pxo (px_ty 4 (m_tuple F) PyProof.Rows.boot_tuple)) pxa_nil))))) (pxw_or1 (pxt_cmp (op_neP (hu_of hr)) prim_ne (px_callB call_len2 prim_len (m_len F) boot_len (pxa_cons (pxo (px_name 2)) pxa_nil)) px_int (by first | exact nomark _ | rfl))))) (pn_one (p1_ret px_bl)) pn_nil) (pn_cons (p1_for (passes_of rfl) rfl (pi_seq rfl (px_name 2)) (pg_x 3 S0.nd) (pn_one (p1_if (pxt_w (pxw_or (pxt_not (pxt_tru rfl (px_callV [.bo] rfl (ok__law_int F) hr (by decide) (gl__law_int F) (kp__law_int F) (passW_of (takes_of rfl rfl rfl rfl)) (pxa_cons (pxo (px_name 3)) pxa_nil) rfl))) (pxw_or (pxt_cmp (op_ltP (hu_of hr)) prim_ltA (px_name 3) px_int (by first | exact nomark _ | rfl)) (pxw_or (pxt_cmp (op_gtP (hu_of hr)) prim_gtA (px_name 3) px_int (by first | exact nomark _ | rfl)) (pxw_or1 (pxt_cmp (op_eqP (hu_of hr)) prim_eq (px_name 3) (px_name 1) (by first | exact nomark _ | rfl))))))) (pn_one (p1_ret px_bl)) pn_nil))) (pn_cons (p1_unp (px_name 2) (pgx_tup rfl rfl (pgx_cons (pg_x 5 S0.nd) (pgx_cons (pg_x 6 S0.nd) (pgx_cons (pg_x 7 S0.nd) pgx_nil))))) (pn_cons (p1_if (pxt_w (pxw_or (pxt_cmp (op_eqP (hu_of hr)) prim_eq (px_name 5) (px_name 6) (by first | exact nomark _ | rfl)) (pxw_or (pxt_cmp (op_eqP (hu_of hr)) prim_eq (px_name 6) (px_name 7) (by first | exact nomark _ | rfl)) (pxw_or1 (pxt_cmp (op_eqP (hu_of hr)) prim_eq (px_name 5) (px_name 7) (by first | exact nomark _ | rfl)))))) (pn_one (p1_ret px_bl)) pn_nil) (pn_cons (p1_set 4 S0.nd (px_lst (pxa_cons (pxov (px_callV [.bo, .bo, .bo, .bo] rfl (ok__law_met F) hr (by decide) (gl__law_met F) (kp__law_met F) (passW_of (takes_of rfl rfl rfl rfl)) (pxa_cons (pxo (px_name 0)) (pxa_cons (pxo (px_name 1)) (pxa_cons (pxo (px_name 5)) (pxa_cons (pxo (px_name 6)) pxa_nil)))) rfl)) (pxa_cons (pxov (px_callV [.bo, .bo, .bo, .bo] rfl (ok__law_met F) hr (by decide) (gl__law_met F) (kp__law_met F) (passW_of (takes_of rfl rfl rfl rfl)) (pxa_cons (pxo (px_name 0)) (pxa_cons (pxo (px_name 1)) (pxa_cons (pxo (px_name 6)) (pxa_cons (pxo (px_name 7)) pxa_nil)))) rfl)) (pxa_cons (pxov (px_callV [.bo, .bo, .bo, .bo] rfl (ok__law_met F) hr (by decide) (gl__law_met F) (kp__law_met F) (passW_of (takes_of rfl rfl rfl rfl)) (pxa_cons (pxo (px_name 0)) (pxa_cons (pxo (px_name 1)) (pxa_cons (pxo (px_name 7)) (pxa_cons (pxo (px_name 5)) pxa_nil)))) rfl)) pxa_nil))))) (pn_one (p1_ret (px_and (px_cmp (op_geP (hu_of hr)) prim_geA (px_callB (call_minI rfl (hu_of hr)) prim_ints (m_min F) PyProof.Rows.boot_min (pxa_cons (pxo (px_name 4)) pxa_nil)) px_int (by first | exact nomark _ | rfl)) (px_one (px_cmp (op_gtP (hu_of hr)) prim_gtA (px_callB (call_maxI rfl (hu_of hr)) prim_ints (m_max F) PyProof.Rows.boot_max (pxa_cons (pxo (px_name 4)) pxa_nil)) px_int (by first | exact nomark _ | rfl)))))))))))
theorem kp__law_makes_ring {K : PySem.W.Frag} {mg : Str → Option Value} (F : Fx K mg) : PySem.W.keepIn K (.ref (He.ga K "_law_makes_ring")) = true := by
  obtain ⟨fd, Fd⟩ := F.c.def_ 17 (d := d__law_makes_ring)
  exact Fd.kp
theorem S_check_chart : FnScope ["chart"] ["chart"] (defScope (top 32)) := C8.fnScope_by (by kernel_rfl)
def g_check_chart_0 : SS := (gIf (sNotT (sTru (sOp (sCall (oIsi IC) (sCons (sOp (sName 0)) (sCons (sOp (sC (.cls 0))) sNil)))))) (gRaise 4 [0] (sCons (sOv (sC (.str "chart"))) sNil)) gNx)
def g_check_chart : SS := g_check_chart_0
def F_check_chart : FS := fnF 1 g_check_chart
theorem ok_check_chart {P : Program} {w : World} {K : PySem.W.Frag} {mg : Str → Option Value} {base : Heap} (F : Fx K mg) : FnV P w (W0 K) mg base 3 (d_check_chart.at_ K) 1 F_check_chart [] := by
  obtain ⟨fd, Fd⟩ := F.c.def_ 18 (d := d_check_chart)
  have S0 := S_check_chart
  exact fnV_of (W := W0 K) (k := 2) (g := g_check_chart) (N := ["chart"]) (ps := ["chart"]) Fd S0 (fun _ _ _ _ _ _ us hl => match us, hl with | [_], _ => rfl) fun cdv A outer s H E C hr hE => (pn_one (p1_if (pxt_not (pxt_tru rfl (px_callB call_isiA (prim_isi (isf0 F)) (m_isinstance F) PyProof.Rows.boot_isinstance (pxa_cons (pxo (px_name 0)) (pxa_cons (pxo (px_cls 0 (gl_Chart F))) pxa_nil))))) (pn_one (p1_raiseV 4 [0] rfl rfl (takes_of rfl rfl rfl rfl) (ok_BadKind____init__ F) hr (by decide) (gl_BadKind F) (pxa_cons (pxov px_str) pxa_nil))) pn_nil))
theorem kp_check_chart {K : PySem.W.Frag} {mg : Str → Option Value} (F : Fx K mg) : PySem.W.keepIn K (.ref (He.ga K "check_chart")) = true := by
  obtain ⟨fd, Fd⟩ := F.c.def_ 18 (d := d_check_chart)
  exact Fd.kp
theorem S_check_int : FnScope ["value", "word", "least", "most"] ["value", "word", "least", "most"] (defScope (top 10)) := C8.fnScope_by (by kernel_rfl)
def g_check_int_0 : SS := (gIf (sNotT (sTru (sOp (sFn F_is_int [.bo] [] (sCons (sOp (sName 0)) sNil))))) (gRaise 2 [0] (sCons (sOv (sName 1)) sNil)) gNx)
def g_check_int_1 : SS := (gIf (sAndT (sTb (sBin (oIs true) (sOp (sName 2)) (sOp (sC .non)))) (sTb (sBin oLtA (sOp (sName 0)) (sOp (sName 2))))) (gRaise 2 [0] (sCons (sOv (sName 1)) sNil)) gNx)
def g_check_int_2 : SS := (gIf (sAndT (sTb (sBin (oIs true) (sOp (sName 3)) (sOp (sC .non)))) (sTb (sBin oGtA (sOp (sName 0)) (sOp (sName 3))))) (gRaise 2 [0] (sCons (sOv (sName 1)) sNil)) gNx)
def g_check_int_3 : SS := (gRet (sName 0))
def g_check_int : SS := (gSeq g_check_int_0 (gSeq g_check_int_1 (gSeq g_check_int_2 g_check_int_3)))
def F_check_int : FS := fnF 4 g_check_int
theorem ok_check_int {P : Program} {w : World} {K : PySem.W.Frag} {mg : Str → Option Value} {base : Heap} (F : Fx K mg) : FnV P w (W0 K) mg base 3 (d_check_int.at_ K) 4 F_check_int [] := by
  obtain ⟨fd, Fd⟩ := F.c.def_ 19 (d := d_check_int)
  have S0 := S_check_int
  exact fnV_of (W := W0 K) (k := 2) (g := g_check_int) (N := ["value", "word", "least", "most"]) (ps := ["value", "word", "least", "most"]) Fd S0 (fun _ _ _ _ _ _ us hl => match us, hl with | [_, _, _, _], _ => rfl) fun cdv A outer s H E C hr hE => (pn_cons (p1_if (pxt_not (pxt_tru rfl (px_callV [.bo] rfl (ok_is_int F) hr (by decide) (gl_is_int F) (kp_is_int F) (passW_of (takes_of rfl rfl rfl rfl)) (pxa_cons (pxo (px_name 0)) pxa_nil) rfl))) (pn_one (p1_raiseV 2 [0] rfl rfl (takes_of rfl rfl rfl rfl) (ok_BadNumber____init__ F) hr (by decide) (gl_BadNumber F) (pxa_cons (pxov (px_name 1)) pxa_nil))) pn_nil) (pn_cons (p1_if (pxt_w (pxw_and (pxt_cmp op_notN prim_isnot (px_name 2) px_non (by first | exact nomark _ | rfl)) (pxw_and1 (pxt_cmp (op_ltP (hu_of hr)) prim_ltA (px_name 0) (px_name 2) (by first | exact nomark _ | rfl))))) (pn_one (p1_raiseV 2 [0] rfl rfl (takes_of rfl rfl rfl rfl) (ok_BadNumber____init__ F) hr (by decide) (gl_BadNumber F) (pxa_cons (pxov (px_name 1)) pxa_nil))) pn_nil) (pn_cons (p1_if (pxt_w (pxw_and (pxt_cmp op_notN prim_isnot (px_name 3) px_non (by first | exact nomark _ | rfl)) (pxw_and1 (pxt_cmp (op_gtP (hu_of hr)) prim_gtA (px_name 0) (px_name 3) (by first | exact nomark _ | rfl))))) (pn_one (p1_raiseV 2 [0] rfl rfl (takes_of rfl rfl rfl rfl) (ok_BadNumber____init__ F) hr (by decide) (gl_BadNumber F) (pxa_cons (pxov (px_name 1)) pxa_nil))) pn_nil) (pn_one (p1_ret (px_name 0))))))
theorem kp_check_int {K : PySem.W.Frag} {mg : Str → Option Value} (F : Fx K mg) : PySem.W.keepIn K (.ref (He.ga K "check_int")) = true := by
  obtain ⟨fd, Fd⟩ := F.c.def_ 19 (d := d_check_int)
  exact Fd.kp
theorem S_four_list : FnScope ["size", "m", "i", "j", "k"] ["size"] (defScope (top 14)) := C8.fnScope_by (by kernel_rfl)
def g_four_list_0 : SS := (gRet (sLcT (sIter (sSrc (sFn F_three_list [.bo] [] (sCons (sOp (sName 0)) sNil)))) (kTup 3 (kCons (kName 2) (kCons (kName 3) (kCons (kName 4) kNil)))) [2, 3, 4, 1] (turn2 sYes (sRange (sCons (sOp (sBin oAdd (sOp (sName 4)) (sOp (sC (.int 1))))) (sCons (sOp (sName 0)) sNil))) (kName 1) [1] (turn1 sYes (sV (sTup (sCons (sOv (sName 2)) (sCons (sOv (sName 3)) (sCons (sOv (sName 4)) (sCons (sOv (sName 1)) sNil))))))))))
def g_four_list : SS := g_four_list_0
def F_four_list : FS := fnF 5 g_four_list
theorem ok_four_list {P : Program} {w : World} {K : PySem.W.Frag} {mg : Str → Option Value} {base : Heap} (F : Fx K mg) : FnV P w (W0 K) mg base 3 (d_four_list.at_ K) 1 F_four_list [] := by
  obtain ⟨fd, Fd⟩ := F.c.def_ 20 (d := d_four_list)
  have S0 := S_four_list
  exact fnV_of (W := W0 K) (k := 2) (g := g_four_list) (N := ["size", "m", "i", "j", "k"]) (ps := ["size"]) Fd S0 (fun _ _ _ _ _ _ us hl => match us, hl with | [_], _ => rfl) fun cdv A outer s H E C hr hE => (pn_one (p1_ret (px_lc2 [("i", 2), ("j", 3), ("k", 4), ("m", 1)] [1] rfl S0.nd (pi_seq rfl (px_callV [.bo] rfl (ok_three_list F) hr (by decide) (gl_three_list F) (kp_three_list F) (passW_of (takes_of rfl rfl rfl rfl)) (pxa_cons (pxo (px_name 0)) pxa_nil) rfl)) (blkOk_by (by kernel_rfl)) (by decide) (fun s1 H1 E1 cl1 fp1 => (pgx_tup rfl rfl (pgx_cons (pg_x 2 S0.nd) (pgx_cons (pg_x 3 S0.nd) (pgx_cons (pg_x 4 S0.nd) pgx_nil))))) (fun s1 H1 E1 cl1 fp1 => pxs_nil) (fun s1 H1 E1 cl1 fp1 => (pi_rng2 (m_range F) (pxo (px_bin op_add4 prim_add (px_name 4) px_int)) (pxo (px_name 0)))) (fun s1 H1 E1 cl1 fp1 => (pg_x 1 S0.nd)) (fun s1 H1 E1 cl1 fp1 => pxs_nil) (fun s1 H1 E1 cl1 fp1 => (px_tup (pxa_cons (pxov (px_name 2)) (pxa_cons (pxov (px_name 3)) (pxa_cons (pxov (px_name 4)) (pxa_cons (pxov (px_name 1)) pxa_nil)))))) (by decide) (by decide) (tok_tup (tok_cons (tok_name 2) (tok_cons (tok_name 3) (tok_cons (tok_name 4) tok_nil)))) (tok_name 1))))
theorem kp_four_list {K : PySem.W.Frag} {mg : Str → Option Value} (F : Fx K mg) : PySem.W.keepIn K (.ref (He.ga K "four_list")) = true := by
  obtain ⟨fd, Fd⟩ := F.c.def_ 20 (d := d_four_list)
  exact Fd.kp
theorem S_good_four : FnScope ["four_signs", "zeros", "at", "head", "tail"] ["four_signs"] (defScope (top 23)) := C8.fnScope_by (by kernel_rfl)
def g_good_four_0 : SS := (gIf (sTru (sOp (sFn F_steady [.va] [] (sCons (sOv (sName 0)) sNil)))) (gRet (sC (.bl true))) gNx)
def g_good_four_1 : SS := (gSet 1 (sLcT (sRange (sCons (sOp (sC (.int 4))) sNil)) (kName 2) [2] (turn1 (sTb (sBin oEq (sOp (sBin oIx (sOp (sName 0)) (sOp (sName 2)))) (sOp (sC (.int 0))))) (sV (sName 2)))))
def g_good_four_2 : SS := (gIf (sTb (sBin oNe (sOp (sCall oLen (sCons (sOp (sName 1)) sNil))) (sOp (sC (.int 1))))) (gRet (sBin oEq (sOp (sCall oLen (sCons (sOp (sName 1)) sNil))) (sOp (sC (.int 4))))) gNx)
def g_good_four_3 : SS := (gSet 2 (sBin oIx (sOp (sName 1)) (sOp (sC (.int 0)))))
def g_good_four_4 : SS := (gPar 3 4 (sCons (sOv (sCall oTuple (sCons (sOp (sCut (sOp (sName 0)) (boSem .no) (boSem (.at_ (sName 2))))) sNil))) (sCons (sOv (sCall oTuple (sCons (sOp (sCut (sOp (sName 0)) (boSem (.at_ (sBin oAdd (sOp (sName 2)) (sOp (sC (.int 1)))))) (boSem .no))) sNil))) sNil)))
def g_good_four_5 : SS := (gRet (sAnd (sFn F_steady [.va] [] (sCons (sOv (sBin oAdd (sOp (sBin oAdd (sOp (sName 3)) (sOp (sTup (sCons (sOv (sC (.int 1))) sNil))))) (sOp (sName 4)))) sNil)) (sFn F_steady [.va] [] (sCons (sOv (sBin oAdd (sOp (sBin oAdd (sOp (sName 3)) (sOp (sTup (sCons (sOv (sUn oNeg (sOp (sC (.int 1))))) sNil))))) (sOp (sName 4)))) sNil))))
def g_good_four : SS := (gSeq g_good_four_0 (gSeq g_good_four_1 (gSeq g_good_four_2 (gSeq g_good_four_3 (gSeq g_good_four_4 g_good_four_5)))))
def F_good_four : FS := fnF 5 g_good_four
theorem ok_good_four {P : Program} {w : World} {K : PySem.W.Frag} {mg : Str → Option Value} {base : Heap} (F : Fx K mg) : FnV P w (W0 K) mg base 3 (d_good_four.at_ K) 1 F_good_four [] := by
  obtain ⟨fd, Fd⟩ := F.c.def_ 21 (d := d_good_four)
  have S0 := S_good_four
  exact fnV_of (W := W0 K) (k := 2) (g := g_good_four) (N := ["four_signs", "zeros", "at", "head", "tail"]) (ps := ["four_signs"]) Fd S0 (fun _ _ _ _ _ _ us hl => match us, hl with | [_], _ => rfl) fun cdv A outer s H E C hr hE => (pn_cons (p1_if (pxt_tru rfl (px_callV [.va] rfl (ok_steady F) hr (by decide) (gl_steady F) (kp_steady F) (passW_of (takes_of rfl rfl rfl rfl)) (pxa_cons (pxov (px_name 0)) pxa_nil) rfl)) (pn_one (p1_ret px_bl)) pn_nil) (pn_cons (p1_setLc 1 [("at", 2)] rfl S0.nd (pi_rng1 (m_range F) (pxo px_int)) (blkOk_by (by kernel_rfl)) (fun s1 H1 E1 cl1 fp1 => (pg_x 2 S0.nd)) (fun s1 H1 E1 cl1 fp1 => (pxs_one (pxt_cmp (op_eqP (hu_of hr)) prim_eq (px_ix rfl (px_name 0) (px_name 2)) px_int (by first | exact nomark _ | rfl)))) (fun s1 H1 E1 cl1 fp1 => (px_name 2)) (by decide) (tok_name 2) (sw_true rfl rfl rfl (by kernel_rfl))) (pn_cons (p1_if (pxt_cmp (op_neP (hu_of hr)) prim_ne (px_callB call_len2 prim_len (m_len F) boot_len (pxa_cons (pxo (px_name 1)) pxa_nil)) px_int (by first | exact nomark _ | rfl)) (pn_one (p1_ret (px_cmp (op_eqP (hu_of hr)) prim_eq (px_callB call_len2 prim_len (m_len F) boot_len (pxa_cons (pxo (px_name 1)) pxa_nil)) px_int (by first | exact nomark _ | rfl)))) pn_nil) (pn_cons (p1_set 2 S0.nd (px_ix rfl (px_name 1) px_int)) (pn_cons (p1_par 3 4 rfl S0.nd (pxa_cons (pxov (px_callTy call_tuple_of prim_tuple (m_tuple F) PyProof.Rows.boot_tuple (pxa_cons (pxo (px_cut rfl (px_name 0) .no (.at_ (px_name 2)))) pxa_nil))) (pxa_cons (pxov (px_callTy call_tuple_of prim_tuple (m_tuple F) PyProof.Rows.boot_tuple (pxa_cons (pxo (px_cut rfl (px_name 0) (.at_ (px_bin op_add4 prim_add (px_name 2) px_int)) .no)) pxa_nil))) pxa_nil))) (pn_one (p1_ret (px_and (px_callV [.va] rfl (ok_steady F) hr (by decide) (gl_steady F) (kp_steady F) (passW_of (takes_of rfl rfl rfl rfl)) (pxa_cons (pxov (px_bin op_add4 prim_add (px_bin op_add4 prim_add (px_name 3) (px_tup (pxa_cons (pxov px_int) pxa_nil))) (px_name 4))) pxa_nil) rfl) (px_one (px_callV [.va] rfl (ok_steady F) hr (by decide) (gl_steady F) (kp_steady F) (passW_of (takes_of rfl rfl rfl rfl)) (pxa_cons (pxov (px_bin op_add4 prim_add (px_bin op_add4 prim_add (px_name 3) (px_tup (pxa_cons (pxov (px_un un_neg prim_neg px_int)) pxa_nil))) (px_name 4))) pxa_nil) rfl))))))))))
theorem kp_good_four {K : PySem.W.Frag} {mg : Str → Option Value} (F : Fx K mg) : PySem.W.keepIn K (.ref (He.ga K "good_four")) = true := by
  obtain ⟨fd, Fd⟩ := F.c.def_ 21 (d := d_good_four)
  exact Fd.kp
theorem S_line_of : FnScope ["value", "size"] ["value", "size"] (defScope (top 15)) := C8.fnScope_by (by kernel_rfl)
def g_line_of_0 : SS := (gIf (sOrT (sNotT (sTru (sOp (sFn F_is_int [.bo] [] (sCons (sOp (sName 0)) sNil))))) (sOrT (sTb (sBin oLtA (sOp (sName 0)) (sOp (sC (.int 0))))) (sTb (sBin oGeA (sOp (sName 0)) (sOp (sName 1)))))) (gRaise 3 [1] (sCons (sOv (sName 0)) sNil)) gNx)
def g_line_of_1 : SS := (gRet (sName 0))
def g_line_of : SS := (gSeq g_line_of_0 g_line_of_1)
def F_line_of : FS := fnF 2 g_line_of
theorem ok_line_of {P : Program} {w : World} {K : PySem.W.Frag} {mg : Str → Option Value} {base : Heap} (F : Fx K mg) : FnV P w (W0 K) mg base 3 (d_line_of.at_ K) 2 F_line_of [] := by
  obtain ⟨fd, Fd⟩ := F.c.def_ 22 (d := d_line_of)
  have S0 := S_line_of
  exact fnV_of (W := W0 K) (k := 2) (g := g_line_of) (N := ["value", "size"]) (ps := ["value", "size"]) Fd S0 (fun _ _ _ _ _ _ us hl => match us, hl with | [_, _], _ => rfl) fun cdv A outer s H E C hr hE => (pn_cons (p1_if (pxt_w (pxw_or (pxt_not (pxt_tru rfl (px_callV [.bo] rfl (ok_is_int F) hr (by decide) (gl_is_int F) (kp_is_int F) (passW_of (takes_of rfl rfl rfl rfl)) (pxa_cons (pxo (px_name 0)) pxa_nil) rfl))) (pxw_or (pxt_cmp (op_ltP (hu_of hr)) prim_ltA (px_name 0) px_int (by first | exact nomark _ | rfl)) (pxw_or1 (pxt_cmp (op_geP (hu_of hr)) prim_geA (px_name 0) (px_name 1) (by first | exact nomark _ | rfl)))))) (pn_one (p1_raiseV 3 [1] rfl rfl (takes_of rfl rfl rfl rfl) (ok_BadLine____init__ F) hr (by decide) (gl_BadLine F) (pxa_cons (pxov (px_name 0)) pxa_nil))) pn_nil) (pn_one (p1_ret (px_name 0))))
theorem kp_line_of {K : PySem.W.Frag} {mg : Str → Option Value} (F : Fx K mg) : PySem.W.keepIn K (.ref (He.ga K "line_of")) = true := by
  obtain ⟨fd, Fd⟩ := F.c.def_ 22 (d := d_line_of)
  exact Fd.kp
theorem S_met_first : FnScope ["chart", "line", "first", "second", "names", "sign", "low", "high"] ["chart", "line", "first", "second"] (defScope (top 36)) := C8.fnScope_by (by kernel_rfl)
def g_met_first_0 : SS := (gPar 6 7 (sCons (sOv (sCall oMin2 (sCons (sOp (sName 2)) (sCons (sOp (sName 3)) sNil)))) (sCons (sOv (sCall oMax2 (sCons (sOp (sName 2)) (sCons (sOp (sName 3)) sNil)))) sNil)))
def g_met_first_1 : SS := (gSet 4 (sCall oSorted (sCons (sOp (sLst (sCons (sOv (sName 1)) (sCons (sOv (sName 6)) (sCons (sOv (sName 7)) sNil))))) sNil)))
def g_met_first_2 : SS := (gSet 5 (sFn F_signed [.bo, .bo, .bo, .bo] [] (sCons (sOp (sName 0)) (sCons (sOp (sBin oIx (sOp (sName 4)) (sOp (sC (.int 0))))) (sCons (sOp (sBin oIx (sOp (sName 4)) (sOp (sC (.int 1))))) (sCons (sOp (sBin oIx (sOp (sName 4)) (sOp (sC (.int 2))))) sNil))))))
def g_met_first_3 : SS := (gRet (sIf (sTb (sBin oEq (sOp (sName 2)) (sOp (sName 6)))) (sName 5) (sUn oNeg (sOp (sName 5)))))
def g_met_first : SS := (gSeq g_met_first_0 (gSeq g_met_first_1 (gSeq g_met_first_2 g_met_first_3)))
def F_met_first : FS := fnF 8 g_met_first
theorem ok_met_first {P : Program} {w : World} {K : PySem.W.Frag} {mg : Str → Option Value} {base : Heap} (F : Fx K mg) : FnV P w (W0 K) mg base 3 (d_met_first.at_ K) 4 F_met_first [] := by
  obtain ⟨fd, Fd⟩ := F.c.def_ 23 (d := d_met_first)
  have S0 := S_met_first
  exact fnV_of (W := W0 K) (k := 2) (g := g_met_first) (N := ["chart", "line", "first", "second", "names", "sign", "low", "high"]) (ps := ["chart", "line", "first", "second"]) Fd S0 (fun _ _ _ _ _ _ us hl => match us, hl with | [_, _, _, _], _ => rfl) fun cdv A outer s H E C hr hE => (pn_cons (p1_par 6 7 rfl S0.nd (pxa_cons (pxov (px_callB (call_min2 rfl) (prim_mm2 fMin) (m_min F) PyProof.Rows.boot_min (pxa_cons (pxo (px_name 2)) (pxa_cons (pxo (px_name 3)) pxa_nil)))) (pxa_cons (pxov (px_callB (call_max2 rfl) (prim_mm2 fMax) (m_max F) PyProof.Rows.boot_max (pxa_cons (pxo (px_name 2)) (pxa_cons (pxo (px_name 3)) pxa_nil)))) pxa_nil))) (pn_cons (p1_set 4 S0.nd (px_callB cr_sortedI prim_sorted (m_sorted F) PyProof.Rows.boot_sorted (pxa_cons (pxo (px_lst (pxa_cons (pxov (px_name 1)) (pxa_cons (pxov (px_name 6)) (pxa_cons (pxov (px_name 7)) pxa_nil))))) pxa_nil))) (pn_cons (p1_set 5 S0.nd (px_callV [.bo, .bo, .bo, .bo] rfl (ok_signed F) hr (by decide) (gl_signed F) (kp_signed F) (passW_of (takes_of rfl rfl rfl rfl)) (pxa_cons (pxo (px_name 0)) (pxa_cons (pxo (px_ix rfl (px_name 4) px_int)) (pxa_cons (pxo (px_ix rfl (px_name 4) px_int)) (pxa_cons (pxo (px_ix rfl (px_name 4) px_int)) pxa_nil)))) rfl)) (pn_one (p1_ret (px_if (pxt_cmp (op_eqP (hu_of hr)) prim_eq (px_name 2) (px_name 6) (by first | exact nomark _ | rfl)) (px_name 5) (px_un un_neg prim_neg (px_name 5))))))))
theorem kp_met_first {K : PySem.W.Frag} {mg : Str → Option Value} (F : Fx K mg) : PySem.W.keepIn K (.ref (He.ga K "met_first")) = true := by
  obtain ⟨fd, Fd⟩ := F.c.def_ 23 (d := d_met_first)
  exact Fd.kp
theorem S__law_has_ring : FnScope ["_law_row_here", "_law_x", "_law_a", "_law_b", "_law_c", "_law_y"] ["_law_row_here", "_law_x"] (defScope (top 46)) := C8.fnScope_by (by kernel_rfl)
def g__law_has_ring_0 : SS := (gUnp (kTup 3 (kCons (kName 2) (kCons (kName 3) (kCons (kName 4) kNil)))) (sV (sLcT (sRange (sCons (sOp (sC (.int 4))) sNil)) (kName 5) [5] (turn1 (sTb (sBin oNe (sOp (sName 5)) (sOp (sName 1)))) (sV (sName 5))))))
def g__law_has_ring_1 : SS := (gRet (sOr (sFn F__law_makes_ring [.bo, .bo, .va] [] (sCons (sOp (sName 0)) (sCons (sOp (sName 1)) (sCons (sOv (sTup (sCons (sOv (sName 2)) (sCons (sOv (sName 3)) (sCons (sOv (sName 4)) sNil))))) sNil)))) (sFn F__law_makes_ring [.bo, .bo, .va] [] (sCons (sOp (sName 0)) (sCons (sOp (sName 1)) (sCons (sOv (sTup (sCons (sOv (sName 2)) (sCons (sOv (sName 4)) (sCons (sOv (sName 3)) sNil))))) sNil))))))
def g__law_has_ring : SS := (gSeq g__law_has_ring_0 g__law_has_ring_1)
def F__law_has_ring : FS := fnF 6 g__law_has_ring
theorem ok__law_has_ring {P : Program} {w : World} {K : PySem.W.Frag} {mg : Str → Option Value} {base : Heap} (F : Fx K mg) : FnV P w (W0 K) mg base 5 (d__law_has_ring.at_ K) 2 F__law_has_ring [] := by
  obtain ⟨fd, Fd⟩ := F.c.def_ 24 (d := d__law_has_ring)
  have S0 := S__law_has_ring
  exact fnV_of (W := W0 K) (k := 4) (g := g__law_has_ring) (N := ["_law_row_here", "_law_x", "_law_a", "_law_b", "_law_c", "_law_y"]) (ps := ["_law_row_here", "_law_x"]) Fd S0 (fun _ _ _ _ _ _ us hl => match us, hl with | [_, _], _ => rfl) fun cdv A outer s H E C hr hE => (pn_cons (p1_unp (px_lc [("_law_y", 5)] rfl S0.nd (pi_rng1 (m_range F) (pxo px_int)) (blkOk_by (by kernel_rfl)) (fun s1 H1 E1 cl1 fp1 => (pg_x 5 S0.nd)) (fun s1 H1 E1 cl1 fp1 => (pxs_one (pxt_cmp (op_neP (hu_of hr)) prim_ne (px_name 5) (px_name 1) (by first | exact nomark _ | rfl)))) (fun s1 H1 E1 cl1 fp1 => (px_name 5)) (by decide) (tok_name 5)) (pgx_tup rfl rfl (pgx_cons (pg_x 2 S0.nd) (pgx_cons (pg_x 3 S0.nd) (pgx_cons (pg_x 4 S0.nd) pgx_nil))))) (pn_one (p1_ret (px_or (px_callV [.bo, .bo, .va] rfl (ok__law_makes_ring F) hr (by decide) (gl__law_makes_ring F) (kp__law_makes_ring F) (passW_of (takes_of rfl rfl rfl rfl)) (pxa_cons (pxo (px_name 0)) (pxa_cons (pxo (px_name 1)) (pxa_cons (pxov (px_tup (pxa_cons (pxov (px_name 2)) (pxa_cons (pxov (px_name 3)) (pxa_cons (pxov (px_name 4)) pxa_nil))))) pxa_nil))) rfl) (px_one (px_callV [.bo, .bo, .va] rfl (ok__law_makes_ring F) hr (by decide) (gl__law_makes_ring F) (kp__law_makes_ring F) (passW_of (takes_of rfl rfl rfl rfl)) (pxa_cons (pxo (px_name 0)) (pxa_cons (pxo (px_name 1)) (pxa_cons (pxov (px_tup (pxa_cons (pxov (px_name 2)) (pxa_cons (pxov (px_name 4)) (pxa_cons (pxov (px_name 3)) pxa_nil))))) pxa_nil))) rfl))))))
theorem kp__law_has_ring {K : PySem.W.Frag} {mg : Str → Option Value} (F : Fx K mg) : PySem.W.keepIn K (.ref (He.ga K "_law_has_ring")) = true := by
  obtain ⟨fd, Fd⟩ := F.c.def_ 24 (d := d__law_has_ring)
  exact Fd.kp
theorem S_choose : FnScope ["n", "k", "result", "done"] ["n", "k"] (defScope (top 11)) := C8.fnScope_by (by kernel_rfl)
def g_choose_0 : SS := (gDrop (sFn F_check_int [.va, .va, .bo, .bo] [] (sCons (sOv (sName 0)) (sCons (sOv (sC (.str "n"))) (sCons (sOp (sC .non)) (sCons (sOp (sC .non)) sNil))))))
def g_choose_1 : SS := (gDrop (sFn F_check_int [.va, .va, .bo, .bo] [] (sCons (sOv (sName 1)) (sCons (sOv (sC (.str "k"))) (sCons (sOp (sC .non)) (sCons (sOp (sC .non)) sNil))))))
def g_choose_2 : SS := (gIf (sOrT (sTb (sBin oLtA (sOp (sName 1)) (sOp (sC (.int 0))))) (sTb (sBin oGtA (sOp (sName 1)) (sOp (sName 0))))) (gRet (sC (.int 0))) gNx)
def g_choose_3 : SS := (gSet 2 (sC (.int 1)))
def g_choose_4 : SS := (gFor (sRange (sCons (sOp (sCall oMin2 (sCons (sOp (sName 1)) (sCons (sOp (sBin oSub (sOp (sName 0)) (sOp (sName 1)))) sNil)))) sNil)) (kName 3) (gSet 2 (sBin oFdiv (sOp (sBin oMulI (sOp (sName 2)) (sOp (sBin oSub (sOp (sName 0)) (sOp (sName 3)))))) (sOp (sBin oAdd (sOp (sName 3)) (sOp (sC (.int 1))))))))
def g_choose_5 : SS := (gRet (sName 2))
def g_choose : SS := (gSeq g_choose_0 (gSeq g_choose_1 (gSeq g_choose_2 (gSeq g_choose_3 (gSeq g_choose_4 g_choose_5)))))
def F_choose : FS := fnF 4 g_choose
theorem ok_choose {P : Program} {w : World} {K : PySem.W.Frag} {mg : Str → Option Value} {base : Heap} (F : Fx K mg) : FnV P w (W0 K) mg base 5 (d_choose.at_ K) 2 F_choose [] := by
  obtain ⟨fd, Fd⟩ := F.c.def_ 25 (d := d_choose)
  have S0 := S_choose
  exact fnV_of (W := W0 K) (k := 4) (g := g_choose) (N := ["n", "k", "result", "done"]) (ps := ["n", "k"]) Fd S0 (fun _ _ _ _ _ _ us hl => match us, hl with | [_, _], _ => rfl) fun cdv A outer s H E C hr hE => (pn_cons (p1_expr (px_callV [.va, .va, .bo, .bo] rfl (ok_check_int F) hr (by decide) (gl_check_int F) (kp_check_int F) (passW_of (takes_of rfl rfl rfl rfl)) (pxa_cons (pxov (px_name 0)) (pxa_cons (pxov px_str) (pxa_cons (pxo px_non) (pxa_cons (pxo px_non) pxa_nil)))) rfl)) (pn_cons (p1_expr (px_callV [.va, .va, .bo, .bo] rfl (ok_check_int F) hr (by decide) (gl_check_int F) (kp_check_int F) (passW_of (takes_of rfl rfl rfl rfl)) (pxa_cons (pxov (px_name 1)) (pxa_cons (pxov px_str) (pxa_cons (pxo px_non) (pxa_cons (pxo px_non) pxa_nil)))) rfl)) (pn_cons (p1_if (pxt_w (pxw_or (pxt_cmp (op_ltP (hu_of hr)) prim_ltA (px_name 1) px_int (by first | exact nomark _ | rfl)) (pxw_or1 (pxt_cmp (op_gtP (hu_of hr)) prim_gtA (px_name 1) (px_name 0) (by first | exact nomark _ | rfl))))) (pn_one (p1_ret px_int)) pn_nil) (pn_cons (p1_set 2 S0.nd px_int) (pn_cons (p1_for (passes_of rfl) rfl (pi_rng1 (m_range F) (pxo (px_callB (call_min2 rfl) (prim_mm2 fMin) (m_min F) PyProof.Rows.boot_min (pxa_cons (pxo (px_name 1)) (pxa_cons (pxo (px_bin op_sub prim_sub (px_name 0) (px_name 1))) pxa_nil))))) (pg_x 3 S0.nd) (pn_one (p1_set 2 S0.nd (px_bin op_fdiv prim_fdiv (px_bin op_mul prim_mulI (px_name 2) (px_bin op_sub prim_sub (px_name 0) (px_name 3))) (px_bin op_add4 prim_add (px_name 3) px_int))))) (pn_one (p1_ret (px_name 2))))))))
theorem kp_choose {K : PySem.W.Frag} {mg : Str → Option Value} (F : Fx K mg) : PySem.W.keepIn K (.ref (He.ga K "choose")) = true := by
  obtain ⟨fd, Fd⟩ := F.c.def_ 25 (d := d_choose)
  exact Fd.kp
theorem S_is_good : FnScope ["row", "one"] ["row"] (defScope (top 35)) := C8.fnScope_by (by kernel_rfl)
def g_is_good_0 : SS := (gIf (sOrT (sNotT (sTru (sOp (sCall (oIsi IC) (sCons (sOp (sName 0)) (sCons (sOp (sTup (sCons (sOv (sC (.ty 3))) (sCons (sOv (sC (.ty 4))) sNil)))) sNil)))))) (sTb (sBin oNe (sOp (sCall oLen (sCons (sOp (sName 0)) sNil))) (sOp (sC (.int 4)))))) (gRaise 4 [0] (sCons (sOv (sC (.str "row"))) sNil)) gNx)
def g_is_good_1 : SS := (gFor (sIter (sSrc (sName 0))) (kName 1) (gIf (sOrT (sNotT (sTru (sOp (sFn F_is_int [.bo] [] (sCons (sOp (sName 1)) sNil))))) (sOrT (sTb (sBin oLtA (sOp (sName 1)) (sOp (sUn oNeg (sOp (sC (.int 1))))))) (sTb (sBin oGtA (sOp (sName 1)) (sOp (sC (.int 1))))))) (gRaise 4 [0] (sCons (sOv (sC (.str "row"))) sNil)) gNx))
def g_is_good_2 : SS := (gRet (sFn F_good_four [.va] [] (sCons (sOv (sCall oTuple (sCons (sOp (sName 0)) sNil))) sNil)))
def g_is_good : SS := (gSeq g_is_good_0 (gSeq g_is_good_1 g_is_good_2))
def F_is_good : FS := fnF 2 g_is_good
theorem ok_is_good {P : Program} {w : World} {K : PySem.W.Frag} {mg : Str → Option Value} {base : Heap} (F : Fx K mg) : FnV P w (W0 K) mg base 5 (d_is_good.at_ K) 1 F_is_good [] := by
  obtain ⟨fd, Fd⟩ := F.c.def_ 26 (d := d_is_good)
  have S0 := S_is_good
  exact fnV_of (W := W0 K) (k := 4) (g := g_is_good) (N := ["row", "one"]) (ps := ["row"]) Fd S0 (fun _ _ _ _ _ _ us hl => match us, hl with | [_], _ => rfl) fun cdv A outer s H E C hr hE => (pn_cons (p1_if (pxt_w (pxw_or (pxt_not (pxt_tru rfl (px_callB call_isiA (prim_isi (isf0 F)) (m_isinstance F) PyProof.Rows.boot_isinstance (pxa_cons (pxo (px_name 0)) (pxa_cons (pxo (px_tup (pxa_cons (pxov (px_ty 3 (m_list F) PyProof.Rows.boot_list)) (pxa_cons (pxov (px_ty 4 (m_tuple F) PyProof.Rows.boot_tuple)) pxa_nil)))) pxa_nil))))) (pxw_or1 (pxt_cmp (op_neP (hu_of hr)) prim_ne (px_callB call_len2 prim_len (m_len F) boot_len (pxa_cons (pxo (px_name 0)) pxa_nil)) px_int (by first | exact nomark _ | rfl))))) (pn_one (p1_raiseV 4 [0] rfl rfl (takes_of rfl rfl rfl rfl) (ok_BadKind____init__ F) hr (by decide) (gl_BadKind F) (pxa_cons (pxov px_str) pxa_nil))) pn_nil) (pn_cons (p1_for (passes_of rfl) rfl (pi_seq rfl (px_name 0)) (pg_x 1 S0.nd) (pn_one (p1_if (pxt_w (pxw_or (pxt_not (pxt_tru rfl (px_callV [.bo] rfl (ok_is_int F) hr (by decide) (gl_is_int F) (kp_is_int F) (passW_of (takes_of rfl rfl rfl rfl)) (pxa_cons (pxo (px_name 1)) pxa_nil) rfl))) (pxw_or (pxt_cmp (op_ltP (hu_of hr)) prim_ltA (px_name 1) (px_un un_neg prim_neg px_int) (by first | exact nomark _ | rfl)) (pxw_or1 (pxt_cmp (op_gtP (hu_of hr)) prim_gtA (px_name 1) px_int (by first | exact nomark _ | rfl)))))) (pn_one (p1_raiseV 4 [0] rfl rfl (takes_of rfl rfl rfl rfl) (ok_BadKind____init__ F) hr (by decide) (gl_BadKind F) (pxa_cons (pxov px_str) pxa_nil))) pn_nil))) (pn_one (p1_ret (px_callV [.va] rfl (ok_good_four F) hr (by decide) (gl_good_four F) (kp_good_four F) (passW_of (takes_of rfl rfl rfl rfl)) (pxa_cons (pxov (px_callTy call_tuple_of prim_tuple (m_tuple F) PyProof.Rows.boot_tuple (pxa_cons (pxo (px_name 0)) pxa_nil))) pxa_nil) rfl)))))
theorem kp_is_good {K : PySem.W.Frag} {mg : Str → Option Value} (F : Fx K mg) : PySem.W.keepIn K (.ref (He.ga K "is_good")) = true := by
  obtain ⟨fd, Fd⟩ := F.c.def_ 26 (d := d_is_good)
  exact Fd.kp
theorem S_least_bad : FnScope ["size", "starts", "signs", "i", "j", "k", "m", "far"] ["size", "starts", "signs"] (defScope (top 24)) := C8.fnScope_by (by kernel_rfl)
def g_least_bad_0 : SS := (gFor (sIter (sSrc (sFn F_four_list [.bo] [] (sCons (sOp (sName 0)) sNil)))) (kTup 4 (kCons (kName 3) (kCons (kName 4) (kCons (kName 5) (kCons (kName 6) kNil))))) (gSeq (gSet 7 (sBin oIx (sOp (sBin oIx (sOp (sName 1)) (sOp (sName 3)))) (sOp (sName 4)))) (gIf (sNotT (sTru (sOp (sFn F_good_four [.va] [] (sCons (sOv (sTup (sCons (sOv (sBin oIx (sOp (sName 2)) (sOp (sBin oAdd (sOp (sName 7)) (sOp (sName 5)))))) (sCons (sOv (sBin oIx (sOp (sName 2)) (sOp (sBin oAdd (sOp (sName 7)) (sOp (sName 6)))))) (sCons (sOv (sBin oIx (sOp (sName 2)) (sOp (sBin oAdd (sOp (sBin oIx (sOp (sBin oIx (sOp (sName 1)) (sOp (sName 3)))) (sOp (sName 5)))) (sOp (sName 6)))))) (sCons (sOv (sBin oIx (sOp (sName 2)) (sOp (sBin oAdd (sOp (sBin oIx (sOp (sBin oIx (sOp (sName 1)) (sOp (sName 4)))) (sOp (sName 5)))) (sOp (sName 6)))))) sNil)))))) sNil))))) (gRet (sTup (sCons (sOv (sName 3)) (sCons (sOv (sName 4)) (sCons (sOv (sName 5)) (sCons (sOv (sName 6)) sNil)))))) gNx)))
def g_least_bad_1 : SS := (gRet (sC .non))
def g_least_bad : SS := (gSeq g_least_bad_0 g_least_bad_1)
def F_least_bad : FS := fnF 8 g_least_bad
theorem ok_least_bad {P : Program} {w : World} {K : PySem.W.Frag} {mg : Str → Option Value} {base : Heap} (F : Fx K mg) : FnV P w (W0 K) mg base 5 (d_least_bad.at_ K) 3 F_least_bad [] := by
  obtain ⟨fd, Fd⟩ := F.c.def_ 27 (d := d_least_bad)
  have S0 := S_least_bad
  exact fnV_of (W := W0 K) (k := 4) (g := g_least_bad) (N := ["size", "starts", "signs", "i", "j", "k", "m", "far"]) (ps := ["size", "starts", "signs"]) Fd S0 (fun _ _ _ _ _ _ us hl => match us, hl with | [_, _, _], _ => rfl) fun cdv A outer s H E C hr hE => (pn_cons (p1_for (passes_of rfl) rfl (pi_seq rfl (px_callV [.bo] rfl (ok_four_list F) hr (by decide) (gl_four_list F) (kp_four_list F) (passW_of (takes_of rfl rfl rfl rfl)) (pxa_cons (pxo (px_name 0)) pxa_nil) rfl)) (pgx_tup rfl rfl (pgx_cons (pg_x 3 S0.nd) (pgx_cons (pg_x 4 S0.nd) (pgx_cons (pg_x 5 S0.nd) (pgx_cons (pg_x 6 S0.nd) pgx_nil))))) (pn_cons (p1_set 7 S0.nd (px_ix rfl (px_ix rfl (px_name 1) (px_name 3)) (px_name 4))) (pn_one (p1_if (pxt_not (pxt_tru rfl (px_callV [.va] rfl (ok_good_four F) hr (by decide) (gl_good_four F) (kp_good_four F) (passW_of (takes_of rfl rfl rfl rfl)) (pxa_cons (pxov (px_tup (pxa_cons (pxov (px_ix rfl (px_name 2) (px_bin op_add4 prim_add (px_name 7) (px_name 5)))) (pxa_cons (pxov (px_ix rfl (px_name 2) (px_bin op_add4 prim_add (px_name 7) (px_name 6)))) (pxa_cons (pxov (px_ix rfl (px_name 2) (px_bin op_add4 prim_add (px_ix rfl (px_ix rfl (px_name 1) (px_name 3)) (px_name 5)) (px_name 6)))) (pxa_cons (pxov (px_ix rfl (px_name 2) (px_bin op_add4 prim_add (px_ix rfl (px_ix rfl (px_name 1) (px_name 4)) (px_name 5)) (px_name 6)))) pxa_nil)))))) pxa_nil) rfl))) (pn_one (p1_ret (px_tup (pxa_cons (pxov (px_name 3)) (pxa_cons (pxov (px_name 4)) (pxa_cons (pxov (px_name 5)) (pxa_cons (pxov (px_name 6)) pxa_nil))))))) pn_nil)))) (pn_one (p1_ret px_non)))
theorem kp_least_bad {K : PySem.W.Frag} {mg : Str → Option Value} (F : Fx K mg) : PySem.W.keepIn K (.ref (He.ga K "least_bad")) = true := by
  obtain ⟨fd, Fd⟩ := F.c.def_ 27 (d := d_least_bad)
  exact Fd.kp
theorem S_lines_sorted : FnScope ["value", "size", "word", "many", "found", "name"] ["value", "size", "word", "many"] (defScope (top 16)) := C8.fnScope_by (by kernel_rfl)
def g_lines_sorted_0 : SS := (gIf (sNotT (sTru (sOp (sCall (oIsi IC) (sCons (sOp (sName 0)) (sCons (sOp (sTup (sCons (sOv (sC (.ty 3))) (sCons (sOv (sC (.ty 4))) sNil)))) sNil)))))) (gRaise 4 [0] (sCons (sOv (sName 2)) sNil)) gNx)
def g_lines_sorted_1 : SS := (gIf (sAndT (sTb (sBin (oIs true) (sOp (sName 3)) (sOp (sC .non)))) (sTb (sBin oNe (sOp (sCall oLen (sCons (sOp (sName 0)) sNil))) (sOp (sName 3))))) (gRaise 4 [0] (sCons (sOv (sName 2)) sNil)) gNx)
def g_lines_sorted_2 : SS := (gSet 4 (sLst sNil))
def g_lines_sorted_3 : SS := (gFor (sIter (sSrc (sName 0))) (kName 5) (gSeq (gDrop (sFn F_line_of [.va, .bo] [] (sCons (sOv (sName 5)) (sCons (sOp (sName 1)) sNil)))) (gSeq (gIf (sTb (sBin (oIn false) (sOp (sName 5)) (sOp (sName 4)))) (gRaise 3 [1] (sCons (sOv (sName 5)) sNil)) gNx) (gDrop (sAppend 4 (sName 5))))))
def g_lines_sorted_4 : SS := (gRet (sCall oTuple (sCons (sOp (sCall oSorted (sCons (sOp (sName 4)) sNil))) sNil)))
def g_lines_sorted : SS := (gSeq g_lines_sorted_0 (gSeq g_lines_sorted_1 (gSeq g_lines_sorted_2 (gSeq g_lines_sorted_3 g_lines_sorted_4))))
def F_lines_sorted : FS := fnF 6 g_lines_sorted
theorem ok_lines_sorted {P : Program} {w : World} {K : PySem.W.Frag} {mg : Str → Option Value} {base : Heap} (F : Fx K mg) : FnV P w (W0 K) mg base 5 (d_lines_sorted.at_ K) 4 F_lines_sorted [] := by
  obtain ⟨fd, Fd⟩ := F.c.def_ 28 (d := d_lines_sorted)
  have S0 := S_lines_sorted
  exact fnV_of (W := W0 K) (k := 4) (g := g_lines_sorted) (N := ["value", "size", "word", "many", "found", "name"]) (ps := ["value", "size", "word", "many"]) Fd S0 (fun _ _ _ _ _ _ us hl => match us, hl with | [_, _, _, _], _ => rfl) fun cdv A outer s H E C hr hE => (pn_cons (p1_if (pxt_not (pxt_tru rfl (px_callB call_isiA (prim_isi (isf0 F)) (m_isinstance F) PyProof.Rows.boot_isinstance (pxa_cons (pxo (px_name 0)) (pxa_cons (pxo (px_tup (pxa_cons (pxov (px_ty 3 (m_list F) PyProof.Rows.boot_list)) (pxa_cons (pxov (px_ty 4 (m_tuple F) PyProof.Rows.boot_tuple)) pxa_nil)))) pxa_nil))))) (pn_one (p1_raiseV 4 [0] rfl rfl (takes_of rfl rfl rfl rfl) (ok_BadKind____init__ F) hr (by decide) (gl_BadKind F) (pxa_cons (pxov (px_name 2)) pxa_nil))) pn_nil) (pn_cons (p1_if (pxt_w (pxw_and (pxt_cmp op_notN prim_isnot (px_name 3) px_non (by first | exact nomark _ | rfl)) (pxw_and1 (pxt_cmp (op_neP (hu_of hr)) prim_ne (px_callB call_len2 prim_len (m_len F) boot_len (pxa_cons (pxo (px_name 0)) pxa_nil)) (px_name 3) (by first | exact nomark _ | rfl))))) (pn_one (p1_raiseV 4 [0] rfl rfl (takes_of rfl rfl rfl rfl) (ok_BadKind____init__ F) hr (by decide) (gl_BadKind F) (pxa_cons (pxov (px_name 2)) pxa_nil))) pn_nil) (pn_cons (p1_set 4 S0.nd (px_lst pxa_nil)) (pn_cons (p1_for (passes_of rfl) rfl (pi_seq rfl (px_name 0)) (pg_x 5 S0.nd) (pn_cons (p1_expr (px_callV [.va, .bo] rfl (ok_line_of F) hr (by decide) (gl_line_of F) (kp_line_of F) (passW_of (takes_of rfl rfl rfl rfl)) (pxa_cons (pxov (px_name 5)) (pxa_cons (pxo (px_name 1)) pxa_nil)) rfl)) (pn_cons (p1_if (pxt_cmp (op_inP (hu_of hr)) prim_in (px_name 5) (px_name 4) (by first | exact nomark _ | rfl)) (pn_one (p1_raiseV 3 [1] rfl rfl (takes_of rfl rfl rfl rfl) (ok_BadLine____init__ F) hr (by decide) (gl_BadLine F) (pxa_cons (pxov (px_name 5)) pxa_nil))) pn_nil) (pn_one (p1_expr (px_append 4 (px_name 5))))))) (pn_one (p1_ret (px_callTy call_tuple_of prim_tuple (m_tuple F) PyProof.Rows.boot_tuple (pxa_cons (pxo (px_callB cr_sortedI prim_sorted (m_sorted F) PyProof.Rows.boot_sorted (pxa_cons (pxo (px_name 4)) pxa_nil))) pxa_nil))))))))
theorem kp_lines_sorted {K : PySem.W.Frag} {mg : Str → Option Value} (F : Fx K mg) : PySem.W.keepIn K (.ref (He.ga K "lines_sorted")) = true := by
  obtain ⟨fd, Fd⟩ := F.c.def_ 28 (d := d_lines_sorted)
  exact Fd.kp
theorem S_round_of : FnScope ["chart", "line", "x", "y", "z", "ways"] ["chart", "line", "x", "y", "z"] (defScope (top 37)) := C8.fnScope_by (by kernel_rfl)
def g_round_of_0 : SS := (gSet 5 (sTup (sCons (sOv (sFn F_met_first [.bo, .va, .bo, .bo] [] (sCons (sOp (sName 0)) (sCons (sOv (sName 1)) (sCons (sOp (sName 2)) (sCons (sOp (sName 3)) sNil)))))) (sCons (sOv (sFn F_met_first [.bo, .va, .bo, .bo] [] (sCons (sOp (sName 0)) (sCons (sOv (sName 1)) (sCons (sOp (sName 3)) (sCons (sOp (sName 4)) sNil)))))) (sCons (sOv (sFn F_met_first [.bo, .va, .bo, .bo] [] (sCons (sOp (sName 0)) (sCons (sOv (sName 1)) (sCons (sOp (sName 4)) (sCons (sOp (sName 2)) sNil)))))) sNil)))))
def g_round_of_1 : SS := (gRet (sAnd (sBin oGeA (sOp (sCall oMinL (sCons (sOp (sName 5)) sNil))) (sOp (sC (.int 0)))) (sBin oGtA (sOp (sCall oMaxL (sCons (sOp (sName 5)) sNil))) (sOp (sC (.int 0))))))
def g_round_of : SS := (gSeq g_round_of_0 g_round_of_1)
def F_round_of : FS := fnF 6 g_round_of
theorem ok_round_of {P : Program} {w : World} {K : PySem.W.Frag} {mg : Str → Option Value} {base : Heap} (F : Fx K mg) : FnV P w (W0 K) mg base 5 (d_round_of.at_ K) 5 F_round_of [] := by
  obtain ⟨fd, Fd⟩ := F.c.def_ 29 (d := d_round_of)
  have S0 := S_round_of
  exact fnV_of (W := W0 K) (k := 4) (g := g_round_of) (N := ["chart", "line", "x", "y", "z", "ways"]) (ps := ["chart", "line", "x", "y", "z"]) Fd S0 (fun _ _ _ _ _ _ us hl => match us, hl with | [_, _, _, _, _], _ => rfl) fun cdv A outer s H E C hr hE => (pn_cons (p1_set 5 S0.nd (px_tup (pxa_cons (pxov (px_callV [.bo, .va, .bo, .bo] rfl (ok_met_first F) hr (by decide) (gl_met_first F) (kp_met_first F) (passW_of (takes_of rfl rfl rfl rfl)) (pxa_cons (pxo (px_name 0)) (pxa_cons (pxov (px_name 1)) (pxa_cons (pxo (px_name 2)) (pxa_cons (pxo (px_name 3)) pxa_nil)))) rfl)) (pxa_cons (pxov (px_callV [.bo, .va, .bo, .bo] rfl (ok_met_first F) hr (by decide) (gl_met_first F) (kp_met_first F) (passW_of (takes_of rfl rfl rfl rfl)) (pxa_cons (pxo (px_name 0)) (pxa_cons (pxov (px_name 1)) (pxa_cons (pxo (px_name 3)) (pxa_cons (pxo (px_name 4)) pxa_nil)))) rfl)) (pxa_cons (pxov (px_callV [.bo, .va, .bo, .bo] rfl (ok_met_first F) hr (by decide) (gl_met_first F) (kp_met_first F) (passW_of (takes_of rfl rfl rfl rfl)) (pxa_cons (pxo (px_name 0)) (pxa_cons (pxov (px_name 1)) (pxa_cons (pxo (px_name 4)) (pxa_cons (pxo (px_name 2)) pxa_nil)))) rfl)) pxa_nil))))) (pn_one (p1_ret (px_and (px_cmp (op_geP (hu_of hr)) prim_geA (px_callB (call_minI rfl (hu_of hr)) prim_ints (m_min F) PyProof.Rows.boot_min (pxa_cons (pxo (px_name 5)) pxa_nil)) px_int (by first | exact nomark _ | rfl)) (px_one (px_cmp (op_gtP (hu_of hr)) prim_gtA (px_callB (call_maxI rfl (hu_of hr)) prim_ints (m_max F) PyProof.Rows.boot_max (pxa_cons (pxo (px_name 5)) pxa_nil)) px_int (by first | exact nomark _ | rfl)))))))
theorem kp_round_of {K : PySem.W.Frag} {mg : Str → Option Value} (F : Fx K mg) : PySem.W.keepIn K (.ref (He.ga K "round_of")) = true := by
  obtain ⟨fd, Fd⟩ := F.c.def_ 29 (d := d_round_of)
  exact Fd.kp
theorem S__law_refused : FnScope ["_law_row_here", "_law_word", "error"] ["_law_row_here"] (defScope (top 49)) := C8.fnScope_by (by kernel_rfl)
def g__law_refused_0 : SS := (gSet 1 (sC (.str "taken")))
def g__law_refused_1 : SS := (gTry (gDrop (sFn F_is_good [.bo] [] (sCons (sOp (sName 0)) sNil))) [⟨(exL [(1, false), (2, false), (3, false), (4, true), (5, false), (6, false)]), some 2, fun y => (gSet 1 (sXf y (ocL [4]) 2 0))⟩, ⟨(exL [(1, true), (2, true), (3, true), (4, true), (5, true), (6, true)]), none, fun y => (gSet 1 (sC (.str "another")))⟩])
def g__law_refused_2 : SS := (gRet (sName 1))
def g__law_refused : SS := (gSeq g__law_refused_0 (gSeq g__law_refused_1 g__law_refused_2))
def F__law_refused : FS := fnF 3 g__law_refused
theorem ok__law_refused {P : Program} {w : World} {K : PySem.W.Frag} {mg : Str → Option Value} {base : Heap} (F : Fx K mg) : FnV P w (W0 K) mg base 7 (d__law_refused.at_ K) 1 F__law_refused [] := by
  obtain ⟨fd, Fd⟩ := F.c.def_ 30 (d := d__law_refused)
  have S0 := S__law_refused
  exact fnV_of (W := W0 K) (k := 6) (g := g__law_refused) (N := ["_law_row_here", "_law_word", "error"]) (ps := ["_law_row_here"]) Fd S0 (fun _ _ _ _ _ _ us hl => match us, hl with | [_], _ => rfl) fun cdv A outer s H E C hr hE => (pn_cons (p1_set 1 S0.nd px_str) (pn_cons (p1_try rfl hE S0.nd (takes_of rfl rfl rfl rfl) (fun W1 pn1 xe1 tk1 hp1 => (pn_one (p1_expr (px_callV [.bo] rfl (ok_is_good F) hr (by decide) (gl_is_good F) (kp_is_good F) (passW_of tk1) (pxa_cons (pxo (px_name 0)) pxa_nil) rfl)))) (.as_ ⟨rfl, by decide, .inl (gl_BadKind F)⟩ (ex_BadKind F) rfl rfl (fun a oe cls d pn y hz hd => (pn_one (p1_set 1 S0.nd (px_xf 2 0 rfl inj0 (xf_word F) rfl hz hd)))) (.only ⟨rfl, by decide, .inl (gl_BentError F)⟩ (ex_BentError F) (fun a oe cls d pn y hz hd => (pn_one (p1_set 1 S0.nd px_str))) .nil))) (pn_one (p1_ret (px_name 1)))))
theorem kp__law_refused {K : PySem.W.Frag} {mg : Str → Option Value} (F : Fx K mg) : PySem.W.keepIn K (.ref (He.ga K "_law_refused")) = true := by
  obtain ⟨fd, Fd⟩ := F.c.def_ 30 (d := d__law_refused)
  exact Fd.kp
theorem S_four_of : FnScope ["value", "size"] ["value", "size"] (defScope (top 18)) := C8.fnScope_by (by kernel_rfl)
def g_four_of_0 : SS := (gDrop (sFn F_check_int [.va, .va, .bo, .bo] [] (sCons (sOv (sName 1)) (sCons (sOv (sC (.str "size"))) (sCons (sOp (sC (.int 1))) (sCons (sOp (sC (.int 16))) sNil))))))
def g_four_of_1 : SS := (gRet (sFn F_lines_sorted [.bo, .bo, .va, .bo] [] (sCons (sOp (sName 0)) (sCons (sOp (sName 1)) (sCons (sOv (sC (.str "four"))) (sCons (sOp (sC (.int 4))) sNil))))))
def g_four_of : SS := (gSeq g_four_of_0 g_four_of_1)
def F_four_of : FS := fnF 2 g_four_of
theorem ok_four_of {P : Program} {w : World} {K : PySem.W.Frag} {mg : Str → Option Value} {base : Heap} (F : Fx K mg) : FnV P w (W0 K) mg base 7 (d_four_of.at_ K) 2 F_four_of [] := by
  obtain ⟨fd, Fd⟩ := F.c.def_ 31 (d := d_four_of)
  have S0 := S_four_of
  exact fnV_of (W := W0 K) (k := 6) (g := g_four_of) (N := ["value", "size"]) (ps := ["value", "size"]) Fd S0 (fun _ _ _ _ _ _ us hl => match us, hl with | [_, _], _ => rfl) fun cdv A outer s H E C hr hE => (pn_cons (p1_expr (px_callV [.va, .va, .bo, .bo] rfl (ok_check_int F) hr (by decide) (gl_check_int F) (kp_check_int F) (passW_of (takes_of rfl rfl rfl rfl)) (pxa_cons (pxov (px_name 1)) (pxa_cons (pxov px_str) (pxa_cons (pxo px_int) (pxa_cons (pxo px_int) pxa_nil)))) rfl)) (pn_one (p1_ret (px_callV [.bo, .bo, .va, .bo] rfl (ok_lines_sorted F) hr (by decide) (gl_lines_sorted F) (kp_lines_sorted F) (passW_of (takes_of rfl rfl rfl rfl)) (pxa_cons (pxo (px_name 0)) (pxa_cons (pxo (px_name 1)) (pxa_cons (pxov px_str) (pxa_cons (pxo px_int) pxa_nil)))) rfl))))
theorem kp_four_of {K : PySem.W.Frag} {mg : Str → Option Value} (F : Fx K mg) : PySem.W.keepIn K (.ref (He.ga K "four_of")) = true := by
  obtain ⟨fd, Fd⟩ := F.c.def_ 31 (d := d_four_of)
  exact Fd.kp
theorem S_ring : FnScope ["chart", "line", "others", "at", "x", "name", "place", "y", "z"] ["chart", "line"] (defScope (top 38)) := C8.fnScope_by (by kernel_rfl)
def g_ring_0 : SS := (gDrop (sFn F_check_chart [.bo] [] (sCons (sOp (sName 0)) sNil)))
def g_ring_1 : SS := (gDrop (sFn F_line_of [.va, .bo] [] (sCons (sOv (sName 1)) (sCons (sOp (sUn (oFld (ocL [0]) 6) (sOp (sName 0)))) sNil))))
def g_ring_2 : SS := (gSet 2 (sLcT (sRange (sCons (sOp (sUn (oFld (ocL [0]) 6) (sOp (sName 0)))) sNil)) (kName 5) [5] (turn1 (sTb (sBin oNe (sOp (sName 5)) (sOp (sName 1)))) (sV (sName 5)))))
def g_ring_3 : SS := (gFor (sEnum (sSrc (sName 2))) (kTup 2 (kCons (kName 3) (kCons (kName 4) kNil))) (gFor (sEnum (sSrc (sCut (sOp (sName 2)) (boSem (.at_ (sBin oAdd (sOp (sName 3)) (sOp (sC (.int 1)))))) (boSem .no)))) (kTup 2 (kCons (kName 6) (kCons (kName 7) kNil))) (gFor (sIter (sSrc (sCut (sOp (sName 2)) (boSem (.at_ (sBin oAdd (sOp (sBin oAdd (sOp (sName 3)) (sOp (sName 6)))) (sOp (sC (.int 2)))))) (boSem .no)))) (kName 8) (gSeq (gIf (sTru (sOp (sFn F_round_of [.bo, .va, .bo, .bo, .bo] [] (sCons (sOp (sName 0)) (sCons (sOv (sName 1)) (sCons (sOp (sName 4)) (sCons (sOp (sName 7)) (sCons (sOp (sName 8)) sNil)))))))) (gRet (sTup (sCons (sOv (sName 4)) (sCons (sOv (sName 7)) (sCons (sOv (sName 8)) sNil))))) gNx) (gIf (sTru (sOp (sFn F_round_of [.bo, .va, .bo, .bo, .bo] [] (sCons (sOp (sName 0)) (sCons (sOv (sName 1)) (sCons (sOp (sName 4)) (sCons (sOp (sName 8)) (sCons (sOp (sName 7)) sNil)))))))) (gRet (sTup (sCons (sOv (sName 4)) (sCons (sOv (sName 8)) (sCons (sOv (sName 7)) sNil))))) gNx)))))
def g_ring_4 : SS := (gRet (sC .non))
def g_ring : SS := (gSeq g_ring_0 (gSeq g_ring_1 (gSeq g_ring_2 (gSeq g_ring_3 g_ring_4))))
def F_ring : FS := fnF 9 g_ring
theorem ok_ring {P : Program} {w : World} {K : PySem.W.Frag} {mg : Str → Option Value} {base : Heap} (F : Fx K mg) : FnV P w (W0 K) mg base 7 (d_ring.at_ K) 2 F_ring [] := by
  obtain ⟨fd, Fd⟩ := F.c.def_ 32 (d := d_ring)
  have S0 := S_ring
  exact fnV_of (W := W0 K) (k := 6) (g := g_ring) (N := ["chart", "line", "others", "at", "x", "name", "place", "y", "z"]) (ps := ["chart", "line"]) Fd S0 (fun _ _ _ _ _ _ us hl => match us, hl with | [_, _], _ => rfl) fun cdv A outer s H E C hr hE => (pn_cons (p1_expr (px_callV [.bo] rfl (ok_check_chart F) hr (by decide) (gl_check_chart F) (kp_check_chart F) (passW_of (takes_of rfl rfl rfl rfl)) (pxa_cons (pxo (px_name 0)) pxa_nil) rfl)) (pn_cons (p1_expr (px_callV [.va, .bo] rfl (ok_line_of F) hr (by decide) (gl_line_of F) (kp_line_of F) (passW_of (takes_of rfl rfl rfl rfl)) (pxa_cons (pxov (px_name 1)) (pxa_cons (pxo (px_fld 6 rfl inj0 (fl_size F) rfl (px_name 0))) pxa_nil)) rfl)) (pn_cons (p1_setLc 2 [("name", 5)] rfl S0.nd (pi_rng1 (m_range F) (pxo (px_fld 6 rfl inj0 (fl_size F) rfl (px_name 0)))) (blkOk_by (by kernel_rfl)) (fun s1 H1 E1 cl1 fp1 => (pg_x 5 S0.nd)) (fun s1 H1 E1 cl1 fp1 => (pxs_one (pxt_cmp (op_neP (hu_of hr)) prim_ne (px_name 5) (px_name 1) (by first | exact nomark _ | rfl)))) (fun s1 H1 E1 cl1 fp1 => (px_name 5)) (by decide) (tok_name 5) (sw_true rfl rfl rfl (by kernel_rfl))) (pn_cons (p1_for (passes_of rfl) rfl (pi_en rfl (m_enumerate F) (px_name 2)) (pgx_tup rfl rfl (pgx_cons (pg_x 3 S0.nd) (pgx_cons (pg_x 4 S0.nd) pgx_nil))) (pn_one (p1_for (passes_of rfl) rfl (pi_en rfl (m_enumerate F) (px_cut rfl (px_name 2) (.at_ (px_bin op_add4 prim_add (px_name 3) px_int)) .no)) (pgx_tup rfl rfl (pgx_cons (pg_x 6 S0.nd) (pgx_cons (pg_x 7 S0.nd) pgx_nil))) (pn_one (p1_for (passes_of rfl) rfl (pi_seq rfl (px_cut rfl (px_name 2) (.at_ (px_bin op_add4 prim_add (px_bin op_add4 prim_add (px_name 3) (px_name 6)) px_int)) .no)) (pg_x 8 S0.nd) (pn_cons (p1_if (pxt_tru rfl (px_callV [.bo, .va, .bo, .bo, .bo] rfl (ok_round_of F) hr (by decide) (gl_round_of F) (kp_round_of F) (passW_of (takes_of rfl rfl rfl rfl)) (pxa_cons (pxo (px_name 0)) (pxa_cons (pxov (px_name 1)) (pxa_cons (pxo (px_name 4)) (pxa_cons (pxo (px_name 7)) (pxa_cons (pxo (px_name 8)) pxa_nil))))) rfl)) (pn_one (p1_ret (px_tup (pxa_cons (pxov (px_name 4)) (pxa_cons (pxov (px_name 7)) (pxa_cons (pxov (px_name 8)) pxa_nil)))))) pn_nil) (pn_one (p1_if (pxt_tru rfl (px_callV [.bo, .va, .bo, .bo, .bo] rfl (ok_round_of F) hr (by decide) (gl_round_of F) (kp_round_of F) (passW_of (takes_of rfl rfl rfl rfl)) (pxa_cons (pxo (px_name 0)) (pxa_cons (pxov (px_name 1)) (pxa_cons (pxo (px_name 4)) (pxa_cons (pxo (px_name 8)) (pxa_cons (pxo (px_name 7)) pxa_nil))))) rfl)) (pn_one (p1_ret (px_tup (pxa_cons (pxov (px_name 4)) (pxa_cons (pxov (px_name 8)) (pxa_cons (pxov (px_name 7)) pxa_nil)))))) pn_nil)))))))) (pn_one (p1_ret px_non))))))
theorem kp_ring {K : PySem.W.Frag} {mg : Str → Option Value} (F : Fx K mg) : PySem.W.keepIn K (.ref (He.ga K "ring")) = true := by
  obtain ⟨fd, Fd⟩ := F.c.def_ 32 (d := d_ring)
  exact Fd.kp
theorem S_signs_checked : FnScope ["size", "signs", "at", "one"] ["size", "signs"] (defScope (top 21)) := C8.fnScope_by (by kernel_rfl)
def g_signs_checked_0 : SS := (gIf (sOrT (sNotT (sTru (sOp (sCall (oIsi IC) (sCons (sOp (sName 1)) (sCons (sOp (sTup (sCons (sOv (sC (.ty 3))) (sCons (sOv (sC (.ty 4))) sNil)))) sNil)))))) (sTb (sBin oNe (sOp (sCall oLen (sCons (sOp (sName 1)) sNil))) (sOp (sFn F_choose [.va, .va] [] (sCons (sOv (sName 0)) (sCons (sOv (sC (.int 3))) sNil))))))) (gRaise 5 [2] (sCons (sOv (sUn oNeg (sOp (sC (.int 1))))) sNil)) gNx)
def g_signs_checked_1 : SS := (gFor (sEnum (sSrc (sName 1))) (kTup 2 (kCons (kName 2) (kCons (kName 3) kNil))) (gIf (sOrT (sNotT (sTru (sOp (sFn F_is_int [.bo] [] (sCons (sOp (sName 3)) sNil))))) (sOrT (sTb (sBin oLtA (sOp (sName 3)) (sOp (sUn oNeg (sOp (sC (.int 1))))))) (sTb (sBin oGtA (sOp (sName 3)) (sOp (sC (.int 1))))))) (gRaise 5 [2] (sCons (sOv (sName 2)) sNil)) gNx))
def g_signs_checked_2 : SS := (gRet (sCall oTuple (sCons (sOp (sName 1)) sNil)))
def g_signs_checked : SS := (gSeq g_signs_checked_0 (gSeq g_signs_checked_1 g_signs_checked_2))
def F_signs_checked : FS := fnF 4 g_signs_checked
theorem ok_signs_checked {P : Program} {w : World} {K : PySem.W.Frag} {mg : Str → Option Value} {base : Heap} (F : Fx K mg) : FnV P w (W0 K) mg base 7 (d_signs_checked.at_ K) 2 F_signs_checked [] := by
  obtain ⟨fd, Fd⟩ := F.c.def_ 33 (d := d_signs_checked)
  have S0 := S_signs_checked
  exact fnV_of (W := W0 K) (k := 6) (g := g_signs_checked) (N := ["size", "signs", "at", "one"]) (ps := ["size", "signs"]) Fd S0 (fun _ _ _ _ _ _ us hl => match us, hl with | [_, _], _ => rfl) fun cdv A outer s H E C hr hE => (pn_cons (p1_if (pxt_w (pxw_or (pxt_not (pxt_tru rfl (px_callB call_isiA (prim_isi (isf0 F)) (m_isinstance F) PyProof.Rows.boot_isinstance (pxa_cons (pxo (px_name 1)) (pxa_cons (pxo (px_tup (pxa_cons (pxov (px_ty 3 (m_list F) PyProof.Rows.boot_list)) (pxa_cons (pxov (px_ty 4 (m_tuple F) PyProof.Rows.boot_tuple)) pxa_nil)))) pxa_nil))))) (pxw_or1 (pxt_cmp (op_neP (hu_of hr)) prim_ne (px_callB call_len2 prim_len (m_len F) boot_len (pxa_cons (pxo (px_name 1)) pxa_nil)) (px_callV [.va, .va] rfl (ok_choose F) hr (by decide) (gl_choose F) (kp_choose F) (passW_of (takes_of rfl rfl rfl rfl)) (pxa_cons (pxov (px_name 0)) (pxa_cons (pxov px_int) pxa_nil)) rfl) (by first | exact nomark _ | rfl))))) (pn_one (p1_raiseV 5 [2] rfl rfl (takes_of rfl rfl rfl rfl) (ok_BadSigns____init__ F) hr (by decide) (gl_BadSigns F) (pxa_cons (pxov (px_un un_neg prim_neg px_int)) pxa_nil))) pn_nil) (pn_cons (p1_for (passes_of rfl) rfl (pi_en rfl (m_enumerate F) (px_name 1)) (pgx_tup rfl rfl (pgx_cons (pg_x 2 S0.nd) (pgx_cons (pg_x 3 S0.nd) pgx_nil))) (pn_one (p1_if (pxt_w (pxw_or (pxt_not (pxt_tru rfl (px_callV [.bo] rfl (ok_is_int F) hr (by decide) (gl_is_int F) (kp_is_int F) (passW_of (takes_of rfl rfl rfl rfl)) (pxa_cons (pxo (px_name 3)) pxa_nil) rfl))) (pxw_or (pxt_cmp (op_ltP (hu_of hr)) prim_ltA (px_name 3) (px_un un_neg prim_neg px_int) (by first | exact nomark _ | rfl)) (pxw_or1 (pxt_cmp (op_gtP (hu_of hr)) prim_gtA (px_name 3) px_int (by first | exact nomark _ | rfl)))))) (pn_one (p1_raiseV 5 [2] rfl rfl (takes_of rfl rfl rfl rfl) (ok_BadSigns____init__ F) hr (by decide) (gl_BadSigns F) (pxa_cons (pxov (px_name 2)) pxa_nil))) pn_nil))) (pn_one (p1_ret (px_callTy call_tuple_of prim_tuple (m_tuple F) PyProof.Rows.boot_tuple (pxa_cons (pxo (px_name 1)) pxa_nil))))))
theorem kp_signs_checked {K : PySem.W.Frag} {mg : Str → Option Value} (F : Fx K mg) : PySem.W.keepIn K (.ref (He.ga K "signs_checked")) = true := by
  obtain ⟨fd, Fd⟩ := F.c.def_ 33 (d := d_signs_checked)
  exact Fd.kp
theorem S_Chart____init__ : FnScope ["self", "size", "signs"] ["self", "size", "signs"] (defScope (inClass (top 31) 1)) := C8.fnScope_by (by kernel_rfl)
def g_Chart____init___0 : SS := (gSetF (ocL [0]) 0 6 (sV (sFn F_check_int [.va, .va, .bo, .bo] [] (sCons (sOv (sName 1)) (sCons (sOv (sC (.str "size"))) (sCons (sOp (sC (.int 1))) (sCons (sOp (sUn (oCon 0 7 (.int 16)) (sOp (sName 0)))) sNil)))))))
def g_Chart____init___1 : SS := (gSetF (ocL [0]) 0 4 (sV (sFn F_signs_checked [.va, .bo] [] (sCons (sOv (sName 1)) (sCons (sOp (sName 2)) sNil)))))
def g_Chart____init___2 : SS := (gSetF (ocL [0]) 0 8 (sV (sLr1 (sOp (sName 1)))))
def g_Chart____init___3 : SS := (gSetF (ocL [0]) 0 5 (sV (sFn F_sign_starts [.bo] [] (sCons (sOp (sName 1)) sNil))))
def g_Chart____init___4 : SS := (gSetF (ocL [0]) 0 3 (sV (sFn F_least_bad [.bo, .bo, .bo] [] (sCons (sOp (sName 1)) (sCons (sOp (sUn (oFld (ocL [0]) 5) (sOp (sName 0)))) (sCons (sOp (sUn (oFld (ocL [0]) 4) (sOp (sName 0)))) sNil))))))
def g_Chart____init___5 : SS := (gSetF (ocL [0]) 0 9 (sV (sBin (oIn true) (sOp (sC (.int 0))) (sOp (sUn (oFld (ocL [0]) 4) (sOp (sName 0)))))))
def g_Chart____init__ : SS := (gSeq g_Chart____init___0 (gSeq g_Chart____init___1 (gSeq g_Chart____init___2 (gSeq g_Chart____init___3 (gSeq g_Chart____init___4 g_Chart____init___5)))))
def F_Chart____init__ : FS := fnF 3 g_Chart____init__
theorem ok_Chart____init__ {P : Program} {w : World} {K : PySem.W.Frag} {mg : Str → Option Value} {base : Heap} (F : Fx K mg) : FnV P w (W0 K) mg base 9 (d_Chart____init__.at_ K) 3 F_Chart____init__ [] := by
  obtain ⟨fd, Fd⟩ := F.c.def_ 34 (d := d_Chart____init__)
  have S0 := S_Chart____init__
  exact fnV_of (W := W0 K) (k := 8) (g := g_Chart____init__) (N := ["self", "size", "signs"]) (ps := ["self", "size", "signs"]) Fd S0 (fun _ _ _ _ _ _ us hl => match us, hl with | [_, _, _], _ => rfl) fun cdv A outer s H E C hr hE => (pn_cons (p1_setF 0 6 rfl inj0 (fl_size F) rfl (px_callV [.va, .va, .bo, .bo] rfl (ok_check_int F) hr (by decide) (gl_check_int F) (kp_check_int F) (passW_of (takes_of rfl rfl rfl rfl)) (pxa_cons (pxov (px_name 1)) (pxa_cons (pxov px_str) (pxa_cons (pxo px_int) (pxa_cons (pxo (px_con 0 7 rfl inj0 (conB_ok (W := W0 K) (c := 0) (cls_Chart F) (con_Chart_MOST F) (by decide)) (fun _ => .int) rfl (px_name 0))) pxa_nil)))) rfl)) (pn_cons (p1_setF 0 4 rfl inj0 (fl_signs F) rfl (px_callV [.va, .bo] rfl (ok_signs_checked F) hr (by decide) (gl_signs_checked F) (kp_signs_checked F) (passW_of (takes_of rfl rfl rfl rfl)) (pxa_cons (pxov (px_name 1)) (pxa_cons (pxo (px_name 2)) pxa_nil)) rfl)) (pn_cons (p1_setF 0 8 rfl inj0 (fl__lines F) rfl (px_lrg1 rfl (m_list F) (m_range F) (pxo (px_name 1)))) (pn_cons (p1_setF 0 5 rfl inj0 (fl__starts F) rfl (px_callV [.bo] rfl (ok_sign_starts F) hr (by decide) (gl_sign_starts F) (kp_sign_starts F) (passW_of (takes_of rfl rfl rfl rfl)) (pxa_cons (pxo (px_name 1)) pxa_nil) rfl)) (pn_cons (p1_setF 0 3 rfl inj0 (fl__bad F) rfl (px_callV [.bo, .bo, .bo] rfl (ok_least_bad F) hr (by decide) (gl_least_bad F) (kp_least_bad F) (passW_of (takes_of rfl rfl rfl rfl)) (pxa_cons (pxo (px_name 1)) (pxa_cons (pxo (px_fld 5 rfl inj0 (fl__starts F) rfl (px_name 0))) (pxa_cons (pxo (px_fld 4 rfl inj0 (fl_signs F) rfl (px_name 0))) pxa_nil))) rfl)) (pn_one (p1_setF 0 9 rfl inj0 (fl__simple F) rfl (px_cmp (op_notInP (hu_of hr)) prim_in px_int (px_fld 4 rfl inj0 (fl_signs F) rfl (px_name 0)) (by first | exact nomark _ | rfl)))))))))
theorem S_row_of : FnScope ["chart", "four", "i", "j", "k", "m"] ["chart", "four"] (defScope (top 34)) := C8.fnScope_by (by kernel_rfl)
def g_row_of_0 : SS := (gDrop (sFn F_check_chart [.bo] [] (sCons (sOp (sName 0)) sNil)))
def g_row_of_1 : SS := (gUnp (kTup 4 (kCons (kName 2) (kCons (kName 3) (kCons (kName 4) (kCons (kName 5) kNil))))) (sV (sFn F_four_of [.bo, .va] [] (sCons (sOp (sName 1)) (sCons (sOv (sUn (oFld (ocL [0]) 6) (sOp (sName 0)))) sNil)))))
def g_row_of_2 : SS := (gRet (sTup (sCons (sOv (sFn F_signed [.bo, .bo, .bo, .bo] [] (sCons (sOp (sName 0)) (sCons (sOp (sName 2)) (sCons (sOp (sName 3)) (sCons (sOp (sName 4)) sNil)))))) (sCons (sOv (sFn F_signed [.bo, .bo, .bo, .bo] [] (sCons (sOp (sName 0)) (sCons (sOp (sName 2)) (sCons (sOp (sName 3)) (sCons (sOp (sName 5)) sNil)))))) (sCons (sOv (sFn F_signed [.bo, .bo, .bo, .bo] [] (sCons (sOp (sName 0)) (sCons (sOp (sName 2)) (sCons (sOp (sName 4)) (sCons (sOp (sName 5)) sNil)))))) (sCons (sOv (sFn F_signed [.bo, .bo, .bo, .bo] [] (sCons (sOp (sName 0)) (sCons (sOp (sName 3)) (sCons (sOp (sName 4)) (sCons (sOp (sName 5)) sNil)))))) sNil))))))
def g_row_of : SS := (gSeq g_row_of_0 (gSeq g_row_of_1 g_row_of_2))
def F_row_of : FS := fnF 6 g_row_of
theorem ok_row_of {P : Program} {w : World} {K : PySem.W.Frag} {mg : Str → Option Value} {base : Heap} (F : Fx K mg) : FnV P w (W0 K) mg base 9 (d_row_of.at_ K) 2 F_row_of [] := by
  obtain ⟨fd, Fd⟩ := F.c.def_ 35 (d := d_row_of)
  have S0 := S_row_of
  exact fnV_of (W := W0 K) (k := 8) (g := g_row_of) (N := ["chart", "four", "i", "j", "k", "m"]) (ps := ["chart", "four"]) Fd S0 (fun _ _ _ _ _ _ us hl => match us, hl with | [_, _], _ => rfl) fun cdv A outer s H E C hr hE => (pn_cons (p1_expr (px_callV [.bo] rfl (ok_check_chart F) hr (by decide) (gl_check_chart F) (kp_check_chart F) (passW_of (takes_of rfl rfl rfl rfl)) (pxa_cons (pxo (px_name 0)) pxa_nil) rfl)) (pn_cons (p1_unp (px_callV [.bo, .va] rfl (ok_four_of F) hr (by decide) (gl_four_of F) (kp_four_of F) (passW_of (takes_of rfl rfl rfl rfl)) (pxa_cons (pxo (px_name 1)) (pxa_cons (pxov (px_fld 6 rfl inj0 (fl_size F) rfl (px_name 0))) pxa_nil)) rfl) (pgx_tup rfl rfl (pgx_cons (pg_x 2 S0.nd) (pgx_cons (pg_x 3 S0.nd) (pgx_cons (pg_x 4 S0.nd) (pgx_cons (pg_x 5 S0.nd) pgx_nil)))))) (pn_one (p1_ret (px_tup (pxa_cons (pxov (px_callV [.bo, .bo, .bo, .bo] rfl (ok_signed F) hr (by decide) (gl_signed F) (kp_signed F) (passW_of (takes_of rfl rfl rfl rfl)) (pxa_cons (pxo (px_name 0)) (pxa_cons (pxo (px_name 2)) (pxa_cons (pxo (px_name 3)) (pxa_cons (pxo (px_name 4)) pxa_nil)))) rfl)) (pxa_cons (pxov (px_callV [.bo, .bo, .bo, .bo] rfl (ok_signed F) hr (by decide) (gl_signed F) (kp_signed F) (passW_of (takes_of rfl rfl rfl rfl)) (pxa_cons (pxo (px_name 0)) (pxa_cons (pxo (px_name 2)) (pxa_cons (pxo (px_name 3)) (pxa_cons (pxo (px_name 5)) pxa_nil)))) rfl)) (pxa_cons (pxov (px_callV [.bo, .bo, .bo, .bo] rfl (ok_signed F) hr (by decide) (gl_signed F) (kp_signed F) (passW_of (takes_of rfl rfl rfl rfl)) (pxa_cons (pxo (px_name 0)) (pxa_cons (pxo (px_name 2)) (pxa_cons (pxo (px_name 4)) (pxa_cons (pxo (px_name 5)) pxa_nil)))) rfl)) (pxa_cons (pxov (px_callV [.bo, .bo, .bo, .bo] rfl (ok_signed F) hr (by decide) (gl_signed F) (kp_signed F) (passW_of (takes_of rfl rfl rfl rfl)) (pxa_cons (pxo (px_name 0)) (pxa_cons (pxo (px_name 3)) (pxa_cons (pxo (px_name 4)) (pxa_cons (pxo (px_name 5)) pxa_nil)))) rfl)) pxa_nil)))))))))
theorem kp_row_of {K : PySem.W.Frag} {mg : Str → Option Value} (F : Fx K mg) : PySem.W.keepIn K (.ref (He.ga K "row_of")) = true := by
  obtain ⟨fd, Fd⟩ := F.c.def_ 35 (d := d_row_of)
  exact Fd.kp
theorem S__law_kept : FnScope ["_law_pool_here", "_law_row_here", "_law_as_tuple", "_law_due", "_law_x", "_law_form", "_law_answer", "_law_handed", "_law_chart", "_law_shift", "_law_four", "_law_told"] ["_law_pool_here", "_law_row_here", "_law_as_tuple"] (defScope (top 47)) := C8.fnScope_by (by kernel_rfl)
def g__law_kept_0 : SS := (gSet 3 (sC (.bl true)))
def g__law_kept_1 : SS := (gFor (sRange (sCons (sOp (sC (.int 4))) sNil)) (kName 4) (gIf (sTru (sOp (sFn F__law_has_ring [.bo, .bo] [] (sCons (sOp (sName 1)) (sCons (sOp (sName 4)) sNil))))) (gSet 3 (sC (.bl false))) gNx))
def g__law_kept_2 : SS := (gSet 5 (sCall oList (sCons (sOp (sName 1)) sNil)))
def g__law_kept_3 : SS := (gIf (sTru (sOp (sName 2))) (gSet 5 (sCall oTuple (sCons (sOp (sName 1)) sNil))) gNx)
def g__law_kept_4 : SS := (gSet 6 (sFn F_is_good [.bo] [] (sCons (sOp (sName 5)) sNil)))
def g__law_kept_5 : SS := (gIf (sOrT (sNotT (sTru (sOp (sCall (oIsi IC) (sCons (sOp (sName 6)) (sCons (sOp (sC (.ty 1))) sNil)))))) (sTb (sBin oNe (sOp (sName 6)) (sOp (sName 3))))) (gRet (sC (.bl false))) gNx)
def g__law_kept_6 : SS := (gSet 7 (sCall oList (sCons (sOp (sName 1)) sNil)))
def g__law_kept_7 : SS := (gSet 8 (sMake 0 F_Chart____init__ [.va, .bo] [] (sCons (sOv (sC (.int 4))) (sCons (sOp (sName 7)) sNil))))
def g__law_kept_8 : SS := (gSetIx 7 (sOp (sC (.int 0))) (sV (sC (.int 7))))
def g__law_kept_9 : SS := (gIf (sOrT (sNotT (sTru (sOp (sCall (oIsi IC) (sCons (sOp (sProp 0 F_Chart__sound .bo (sOp (sName 8)))) (sCons (sOp (sC (.ty 1))) sNil)))))) (sTb (sBin oNe (sOp (sProp 0 F_Chart__sound .bo (sOp (sName 8)))) (sOp (sName 3))))) (gRet (sC (.bl false))) gNx)
def g__law_kept_10 : SS := (gIf (sAndT (sTru (sOp (sName 3))) (sTb (sBin (oIs true) (sOp (sProp 0 F_Chart__bad .bo (sOp (sName 8)))) (sOp (sC .non))))) (gRet (sC (.bl false))) gNx)
def g__law_kept_11 : SS := (gIf (sAndT (sNotT (sTru (sOp (sName 3)))) (sTb (sBin oNe (sOp (sProp 0 F_Chart__bad .bo (sOp (sName 8)))) (sOp (sTup (sCons (sOv (sC (.int 0))) (sCons (sOv (sC (.int 1))) (sCons (sOv (sC (.int 2))) (sCons (sOv (sC (.int 3))) sNil))))))))) (gRet (sC (.bl false))) gNx)
def g__law_kept_12 : SS := (gSet 9 (sFn F__law_next [.io, .bo] [] (sCons (sOp (sName 0)) (sCons (sOp (sC (.int 4))) sNil))))
def g__law_kept_13 : SS := (gSet 10 (sLcT (sRange (sCons (sOp (sC (.int 4))) sNil)) (kName 4) [4] (turn1 sYes (sV (sBin oMod (sOp (sCall oInt (sCons (sOp (sBin oAdd (sOp (sName 4)) (sOp (sName 9)))) sNil))) (sOp (sC (.int 4))))))))
def g__law_kept_14 : SS := (gIf (sTb (sBin oEq (sOp (sFn F__law_next [.io, .bo] [] (sCons (sOp (sName 0)) (sCons (sOp (sC (.int 2))) sNil)))) (sOp (sC (.int 1))))) (gDrop (sReverse 10)) gNx)
def g__law_kept_15 : SS := (gIf (sTb (sBin oNe (sOp (sFn F_row_of [.bo, .bo] [] (sCons (sOp (sName 8)) (sCons (sOp (sName 10)) sNil)))) (sOp (sCall oTuple (sCons (sOp (sName 1)) sNil))))) (gRet (sC (.bl false))) gNx)
def g__law_kept_16 : SS := (gFor (sRange (sCons (sOp (sC (.int 4))) sNil)) (kName 4) (gSeq (gSet 11 (sFn F_ring [.bo, .va] [] (sCons (sOp (sName 8)) (sCons (sOv (sName 4)) sNil)))) (gIf (sTru (sOp (sFn F__law_has_ring [.bo, .bo] [] (sCons (sOp (sName 1)) (sCons (sOp (sName 4)) sNil))))) (gIf (sNotT (sTru (sOp (sFn F__law_makes_ring [.bo, .bo, .va] [] (sCons (sOp (sName 1)) (sCons (sOp (sName 4)) (sCons (sOv (sName 11)) sNil))))))) (gRet (sC (.bl false))) gNx) (gIf (sTb (sBin (oIs true) (sOp (sName 11)) (sOp (sC .non)))) (gRet (sC (.bl false))) gNx))))
def g__law_kept_17 : SS := (gRet (sC (.bl true)))
def g__law_kept : SS := (gSeq g__law_kept_0 (gSeq g__law_kept_1 (gSeq g__law_kept_2 (gSeq g__law_kept_3 (gSeq g__law_kept_4 (gSeq g__law_kept_5 (gSeq g__law_kept_6 (gSeq g__law_kept_7 (gSeq g__law_kept_8 (gSeq g__law_kept_9 (gSeq g__law_kept_10 (gSeq g__law_kept_11 (gSeq g__law_kept_12 (gSeq g__law_kept_13 (gSeq g__law_kept_14 (gSeq g__law_kept_15 (gSeq g__law_kept_16 g__law_kept_17)))))))))))))))))
def F__law_kept : FS := fnF 12 g__law_kept
theorem ok__law_kept {P : Program} {w : World} {K : PySem.W.Frag} {mg : Str → Option Value} {base : Heap} (F : Fx K mg) : FnV P w (W0 K) mg base 11 (d__law_kept.at_ K) 3 F__law_kept [] := by
  obtain ⟨fd, Fd⟩ := F.c.def_ 36 (d := d__law_kept)
  have S0 := S__law_kept
  exact fnV_of (W := W0 K) (k := 10) (g := g__law_kept) (N := ["_law_pool_here", "_law_row_here", "_law_as_tuple", "_law_due", "_law_x", "_law_form", "_law_answer", "_law_handed", "_law_chart", "_law_shift", "_law_four", "_law_told"]) (ps := ["_law_pool_here", "_law_row_here", "_law_as_tuple"]) Fd S0 (fun _ _ _ _ _ _ us hl => match us, hl with | [_, _, _], _ => rfl) fun cdv A outer s H E C hr hE => (pn_cons (p1_set 3 S0.nd px_bl) (pn_cons (p1_for (passes_of rfl) rfl (pi_rng1 (m_range F) (pxo px_int)) (pg_x 4 S0.nd) (pn_one (p1_if (pxt_tru rfl (px_callV [.bo, .bo] rfl (ok__law_has_ring F) hr (by decide) (gl__law_has_ring F) (kp__law_has_ring F) (passW_of (takes_of rfl rfl rfl rfl)) (pxa_cons (pxo (px_name 1)) (pxa_cons (pxo (px_name 4)) pxa_nil)) rfl)) (pn_one (p1_set 3 S0.nd px_bl)) pn_nil))) (pn_cons (p1_set 5 S0.nd (px_callTy call_list_of prim_list (m_list F) PyProof.Rows.boot_list (pxa_cons (pxo (px_name 1)) pxa_nil))) (pn_cons (p1_if (pxt_tru rfl (px_name 2)) (pn_one (p1_set 5 S0.nd (px_callTy call_tuple_of prim_tuple (m_tuple F) PyProof.Rows.boot_tuple (pxa_cons (pxo (px_name 1)) pxa_nil)))) pn_nil) (pn_cons (p1_set 6 S0.nd (px_callV [.bo] rfl (ok_is_good F) hr (by decide) (gl_is_good F) (kp_is_good F) (passW_of (takes_of rfl rfl rfl rfl)) (pxa_cons (pxo (px_name 5)) pxa_nil) rfl)) (pn_cons (p1_if (pxt_w (pxw_or (pxt_not (pxt_tru rfl (px_callB call_isiA (prim_isi (isf0 F)) (m_isinstance F) PyProof.Rows.boot_isinstance (pxa_cons (pxo (px_name 6)) (pxa_cons (pxo (px_ty 1 (m_bool F) PyProof.Rows.boot_bool)) pxa_nil))))) (pxw_or1 (pxt_cmp (op_neP (hu_of hr)) prim_ne (px_name 6) (px_name 3) (by first | exact nomark _ | rfl))))) (pn_one (p1_ret px_bl)) pn_nil) (pn_cons (p1_set 7 S0.nd (px_callTy call_list_of prim_list (m_list F) PyProof.Rows.boot_list (pxa_cons (pxo (px_name 1)) pxa_nil))) (pn_cons (p1_set 8 S0.nd (px_makeVx 0 [.va, .bo] rfl (mkB_ok (mk_Chart F)) (ok_Chart____init__ F) hr (by decide) (gl_Chart F) (passW_of (takes_of rfl rfl rfl rfl)) (pxa_cons (pxov px_int) (pxa_cons (pxo (px_name 7)) pxa_nil)) rfl)) (pn_cons (p1_setIx 7 px_int px_int) (pn_cons (p1_if (pxt_w (pxw_or (pxt_not (pxt_tru rfl (px_callB call_isiA (prim_isi (isf0 F)) (m_isinstance F) PyProof.Rows.boot_isinstance (pxa_cons (pxo (px_propVx 0 .bo rfl (clsB_ok (cls_Chart F)) (propB_ok (prop_Chart_sound F)) (ok_Chart__sound F) hr (by decide) (px_name 8))) (pxa_cons (pxo (px_ty 1 (m_bool F) PyProof.Rows.boot_bool)) pxa_nil))))) (pxw_or1 (pxt_cmp (op_neP (hu_of hr)) prim_ne (px_propVx 0 .bo rfl (clsB_ok (cls_Chart F)) (propB_ok (prop_Chart_sound F)) (ok_Chart__sound F) hr (by decide) (px_name 8)) (px_name 3) (by first | exact nomark _ | rfl))))) (pn_one (p1_ret px_bl)) pn_nil) (pn_cons (p1_if (pxt_w (pxw_and (pxt_tru rfl (px_name 3)) (pxw_and1 (pxt_cmp op_notN prim_isnot (px_propVx 0 .bo rfl (clsB_ok (cls_Chart F)) (propB_ok (prop_Chart_bad F)) (ok_Chart__bad F) hr (by decide) (px_name 8)) px_non (by first | exact nomark _ | rfl))))) (pn_one (p1_ret px_bl)) pn_nil) (pn_cons (p1_if (pxt_w (pxw_and (pxt_not (pxt_tru rfl (px_name 3))) (pxw_and1 (pxt_cmp (op_neP (hu_of hr)) prim_ne (px_propVx 0 .bo rfl (clsB_ok (cls_Chart F)) (propB_ok (prop_Chart_bad F)) (ok_Chart__bad F) hr (by decide) (px_name 8)) (px_tup (pxa_cons (pxov px_int) (pxa_cons (pxov px_int) (pxa_cons (pxov px_int) (pxa_cons (pxov px_int) pxa_nil))))) (by first | exact nomark _ | rfl))))) (pn_one (p1_ret px_bl)) pn_nil) (pn_cons (p1_set 9 S0.nd (px_callV [.io, .bo] rfl (ok__law_next F) hr (by decide) (gl__law_next F) (kp__law_next F) (passW_of (takes_of rfl rfl rfl rfl)) (pxa_cons (pxo (px_name 0)) (pxa_cons (pxo px_int) pxa_nil)) rfl)) (pn_cons (p1_setLc 10 [("_law_x", 4)] rfl S0.nd (pi_rng1 (m_range F) (pxo px_int)) (blkOk_by (by kernel_rfl)) (fun s1 H1 E1 cl1 fp1 => (pg_x 4 S0.nd)) (fun s1 H1 E1 cl1 fp1 => pxs_nil) (fun s1 H1 E1 cl1 fp1 => (px_bin op_mod prim_mod (px_callTy call_int1 prim_int (m_int F) PyProof.Rows.boot_int (pxa_cons (pxo (px_bin op_add4 prim_add (px_name 4) (px_name 9))) pxa_nil)) px_int)) (by decide) (tok_name 4) (sw_true rfl rfl rfl (by kernel_rfl))) (pn_cons (p1_if (pxt_cmp (op_eqP (hu_of hr)) prim_eq (px_callV [.io, .bo] rfl (ok__law_next F) hr (by decide) (gl__law_next F) (kp__law_next F) (passW_of (takes_of rfl rfl rfl rfl)) (pxa_cons (pxo (px_name 0)) (pxa_cons (pxo px_int) pxa_nil)) rfl) px_int (by first | exact nomark _ | rfl)) (pn_one (p1_expr (px_reverse 10))) pn_nil) (pn_cons (p1_if (pxt_cmp (op_neP (hu_of hr)) prim_ne (px_callV [.bo, .bo] rfl (ok_row_of F) hr (by decide) (gl_row_of F) (kp_row_of F) (passW_of (takes_of rfl rfl rfl rfl)) (pxa_cons (pxo (px_name 8)) (pxa_cons (pxo (px_name 10)) pxa_nil)) rfl) (px_callTy call_tuple_of prim_tuple (m_tuple F) PyProof.Rows.boot_tuple (pxa_cons (pxo (px_name 1)) pxa_nil)) (by first | exact nomark _ | rfl)) (pn_one (p1_ret px_bl)) pn_nil) (pn_cons (p1_for (passes_of rfl) rfl (pi_rng1 (m_range F) (pxo px_int)) (pg_x 4 S0.nd) (pn_cons (p1_set 11 S0.nd (px_callV [.bo, .va] rfl (ok_ring F) hr (by decide) (gl_ring F) (kp_ring F) (passW_of (takes_of rfl rfl rfl rfl)) (pxa_cons (pxo (px_name 8)) (pxa_cons (pxov (px_name 4)) pxa_nil)) rfl)) (pn_one (p1_if (pxt_tru rfl (px_callV [.bo, .bo] rfl (ok__law_has_ring F) hr (by decide) (gl__law_has_ring F) (kp__law_has_ring F) (passW_of (takes_of rfl rfl rfl rfl)) (pxa_cons (pxo (px_name 1)) (pxa_cons (pxo (px_name 4)) pxa_nil)) rfl)) (pn_one (p1_if (pxt_not (pxt_tru rfl (px_callV [.bo, .bo, .va] rfl (ok__law_makes_ring F) hr (by decide) (gl__law_makes_ring F) (kp__law_makes_ring F) (passW_of (takes_of rfl rfl rfl rfl)) (pxa_cons (pxo (px_name 1)) (pxa_cons (pxo (px_name 4)) (pxa_cons (pxov (px_name 11)) pxa_nil))) rfl))) (pn_one (p1_ret px_bl)) pn_nil)) (pn_one (p1_if (pxt_cmp op_notN prim_isnot (px_name 11) px_non (by first | exact nomark _ | rfl)) (pn_one (p1_ret px_bl)) pn_nil)))))) (pn_one (p1_ret px_bl)))))))))))))))))))
theorem kp__law_kept {K : PySem.W.Frag} {mg : Str → Option Value} (F : Fx K mg) : PySem.W.keepIn K (.ref (He.ga K "_law_kept")) = true := by
  obtain ⟨fd, Fd⟩ := F.c.def_ 36 (d := d__law_kept)
  exact Fd.kp
theorem S_law : FnScope ["_law_script", "_law_pool_here", "_law_start", "_law_many", "_law_good", "_law_plain", "_law_turn", "_law_row_here"] ["_law_script"] (defScope (top 50)) := C8.fnScope_by (by kernel_rfl)
def g_law_0 : SS := (gSet 1 (sFn F__law_pool [.bo] [] (sCons (sOp (sName 0)) sNil)))
def g_law_1 : SS := (gSet 2 (sFn F__law_next [.io, .bo] [] (sCons (sOp (sName 1)) (sCons (sOp (sC (.int 81))) sNil))))
def g_law_2 : SS := (gSet 3 (sBin oAdd (sOp (sC (.int 1))) (sOp (sFn F__law_next [.io, .bo] [] (sCons (sOp (sName 1)) (sCons (sOp (sC (.int 12))) sNil))))))
def g_law_3 : SS := (gIf (sTb (sBin oEq (sOp (sName 3)) (sOp (sC (.int 12))))) (gSet 3 (sC (.int 81))) gNx)
def g_law_4 : SS := (gSet 4 (sC (.int 0)))
def g_law_5 : SS := (gSet 5 (sC (.int 0)))
def g_law_6 : SS := (gFor (sRange (sCons (sOp (sName 3)) sNil)) (kName 6) (gSeq (gSet 7 (sFn F__law_row [.bo] [] (sCons (sOp (sBin oMod (sOp (sCall oInt (sCons (sOp (sBin oAdd (sOp (sName 2)) (sOp (sName 6)))) sNil))) (sOp (sC (.int 81))))) sNil))) (gSeq (gIf (sNotT (sTru (sOp (sFn F__law_kept [.io, .bo, .bo] [] (sCons (sOp (sName 1)) (sCons (sOp (sName 7)) (sCons (sOp (sBin oEq (sOp (sBin oMod (sOp (sCall oInt (sCons (sOp (sName 6)) sNil))) (sOp (sC (.int 2))))) (sOp (sC (.int 1))))) sNil))))))) (gRet (sC (.bl false))) gNx) (gIf (sTru (sOp (sFn F_is_good [.bo] [] (sCons (sOp (sName 7)) sNil)))) (gSeq (gAugN 4 oAddI (sOp (sC (.int 1)))) (gIf (sTb (sBin (oIn true) (sOp (sC (.int 0))) (sOp (sName 7)))) (gAugN 5 oAddI (sOp (sC (.int 1)))) gNx)) gNx))))
def g_law_7 : SS := (gIf (sAndT (sTb (sBin oEq (sOp (sName 3)) (sOp (sC (.int 81))))) (sOrT (sTb (sBin oNe (sOp (sName 4)) (sOp (sC (.int 17))))) (sTb (sBin oNe (sOp (sName 5)) (sOp (sC (.int 8))))))) (gRet (sC (.bl false))) gNx)
def g_law_8 : SS := (gRet (sBin oEq (sOp (sFn F__law_refused [.bo] [] (sCons (sOp (sFn F__law_faulty [.io, .bo] [] (sCons (sOp (sName 1)) (sCons (sOp (sFn F__law_row [.bo] [] (sCons (sOp (sName 2)) sNil))) sNil)))) sNil))) (sOp (sC (.str "row")))))
def g_law : SS := (gSeq g_law_0 (gSeq g_law_1 (gSeq g_law_2 (gSeq g_law_3 (gSeq g_law_4 (gSeq g_law_5 (gSeq g_law_6 (gSeq g_law_7 g_law_8))))))))
def F_law : FS := fnF 8 g_law
theorem b_law {P : Program} {w : World} {K : PySem.W.Frag} {mg : Str → Option Value} {base : Heap} (F : Fx K mg) (cdv : Value) (A : Around) (outer : List Env) (s : Shared) (H : Hp) (E : XK) (C : Fr) (hr : Room 12 (A.deeper (envOfC "law" (defScope (top 50)) s.heap.objs.size (d_law.at_ K) cdv))) (hE : C.er = none) :
    PTn (cxOf (L2.CX P w) P w (W0 K).K mg base ["_law_script", "_law_pool_here", "_law_start", "_law_many", "_law_good", "_law_plain", "_law_turn", "_law_row_here"] "law" (defScope (top 50)) (d_law.at_ K) cdv A outer s H E) (W0 K) C (fun cls d _ H => E cls d H) (defBody (top 50)) g_law := by
  have S0 := S_law
  exact (pn_cons (p1_set 1 S0.nd (px_callV [.bo] rfl (ok__law_pool F) hr (by decide) (gl__law_pool F) (kp__law_pool F) (passW_of (takes_of rfl rfl rfl rfl)) (pxa_cons (pxo (px_name 0)) pxa_nil) rfl)) (pn_cons (p1_set 2 S0.nd (px_callV [.io, .bo] rfl (ok__law_next F) hr (by decide) (gl__law_next F) (kp__law_next F) (passW_of (takes_of rfl rfl rfl rfl)) (pxa_cons (pxo (px_name 1)) (pxa_cons (pxo px_int) pxa_nil)) rfl)) (pn_cons (p1_set 3 S0.nd (px_bin op_add4 prim_add px_int (px_callV [.io, .bo] rfl (ok__law_next F) hr (by decide) (gl__law_next F) (kp__law_next F) (passW_of (takes_of rfl rfl rfl rfl)) (pxa_cons (pxo (px_name 1)) (pxa_cons (pxo px_int) pxa_nil)) rfl))) (pn_cons (p1_if (pxt_cmp (op_eqP (hu_of hr)) prim_eq (px_name 3) px_int (by first | exact nomark _ | rfl)) (pn_one (p1_set 3 S0.nd px_int)) pn_nil) (pn_cons (p1_set 4 S0.nd px_int) (pn_cons (p1_set 5 S0.nd px_int) (pn_cons (p1_for (passes_of rfl) rfl (pi_rng1 (m_range F) (pxo (px_name 3))) (pg_x 6 S0.nd) (pn_cons (p1_set 7 S0.nd (px_callV [.bo] rfl (ok__law_row F) hr (by decide) (gl__law_row F) (kp__law_row F) (passW_of (takes_of rfl rfl rfl rfl)) (pxa_cons (pxo (px_bin op_mod prim_mod (px_callTy call_int1 prim_int (m_int F) PyProof.Rows.boot_int (pxa_cons (pxo (px_bin op_add4 prim_add (px_name 2) (px_name 6))) pxa_nil)) px_int)) pxa_nil) rfl)) (pn_cons (p1_if (pxt_not (pxt_tru rfl (px_callV [.io, .bo, .bo] rfl (ok__law_kept F) hr (by decide) (gl__law_kept F) (kp__law_kept F) (passW_of (takes_of rfl rfl rfl rfl)) (pxa_cons (pxo (px_name 1)) (pxa_cons (pxo (px_name 7)) (pxa_cons (pxo (px_cmp (op_eqP (hu_of hr)) prim_eq (px_bin op_mod prim_mod (px_callTy call_int1 prim_int (m_int F) PyProof.Rows.boot_int (pxa_cons (pxo (px_name 6)) pxa_nil)) px_int) px_int (by first | exact nomark _ | rfl))) pxa_nil))) rfl))) (pn_one (p1_ret px_bl)) pn_nil) (pn_one (p1_if (pxt_tru rfl (px_callV [.bo] rfl (ok_is_good F) hr (by decide) (gl_is_good F) (kp_is_good F) (passW_of (takes_of rfl rfl rfl rfl)) (pxa_cons (pxo (px_name 7)) pxa_nil) rfl)) (pn_cons (p1_augAdd 4 S0.nd px_int) (pn_one (p1_if (pxt_cmp (op_notInP (hu_of hr)) prim_in px_int (px_name 7) (by first | exact nomark _ | rfl)) (pn_one (p1_augAdd 5 S0.nd px_int)) pn_nil))) pn_nil))))) (pn_cons (p1_if (pxt_w (pxw_and (pxt_cmp (op_eqP (hu_of hr)) prim_eq (px_name 3) px_int (by first | exact nomark _ | rfl)) (pxw_and1 (pxt_w (pxw_or (pxt_cmp (op_neP (hu_of hr)) prim_ne (px_name 4) px_int (by first | exact nomark _ | rfl)) (pxw_or1 (pxt_cmp (op_neP (hu_of hr)) prim_ne (px_name 5) px_int (by first | exact nomark _ | rfl)))))))) (pn_one (p1_ret px_bl)) pn_nil) (pn_one (p1_ret (px_cmp (op_eqP (hu_of hr)) prim_eq (px_callV [.bo] rfl (ok__law_refused F) hr (by decide) (gl__law_refused F) (kp__law_refused F) (passW_of (takes_of rfl rfl rfl rfl)) (pxa_cons (pxo (px_callV [.io, .bo] rfl (ok__law_faulty F) hr (by decide) (gl__law_faulty F) (kp__law_faulty F) (passW_of (takes_of rfl rfl rfl rfl)) (pxa_cons (pxo (px_name 1)) (pxa_cons (pxo (px_callV [.bo] rfl (ok__law_row F) hr (by decide) (gl__law_row F) (kp__law_row F) (passW_of (takes_of rfl rfl rfl rfl)) (pxa_cons (pxo (px_name 2)) pxa_nil) rfl)) pxa_nil)) rfl)) pxa_nil) rfl) px_str (by first | exact nomark _ | rfl))))))))))))
abbrev R : PySem.W.OpenRow := PySem.W.OpenLaw.row PySem.Challenge.rw_bentlines_k00_rows_of_four
def lo : List PySem.Str := (["_wall", "BentError", "BadNumber", "BadLine", "BadKind", "BadSigns", "TooMany", "is_int", "check_int", "choose", "three_list", "four_list", "line_of", "lines_sorted", "three_of", "four_of", "sign_starts", "signs_checked", "steady", "good_four", "least_bad", "signed", "sign_told", "contrary_of", "mirrored_of", "rolled_of", "chart_beside", "Chart", "check_chart", "row_of"] : List (PySem.Str)) ++ (["is_good", "met_first", "round_of", "ring", "_law_pool", "_law_next", "_law_int", "_law_row", "_law_met", "_law_makes_ring", "_law_has_ring", "_law_kept", "_law_faulty", "_law_refused"] : List (PySem.Str))
abbrev hk : PySem.W.Hook := hookV 6 cs0 fn0
def ob (s : PySem.W.SharedT) : AlV := obsVG 6 cs0 fn0 (HandSHeadRun.getT s)
theorem ob_eq (s : PySem.W.SharedT) : ob s = hk.obs s.abs := obsVG_eq (HandSHeadRun.getT_eq s)
end VW

set_option Elab.async false
set_option linter.all false
set_option maxRecDepth 100000
set_option maxHeartbeats 0
namespace VP
open PySem PySem.Spec PyProof.Rows L2 VL VW
def rowsD : List (List D) := [[.int (-1), .int (-1), .int (-1), .int (-1)], [.int 0, .int (-1), .int (-1), .int (-1)], [.int 1, .int (-1), .int (-1), .int (-1)], [.int (-1), .int 0, .int (-1), .int (-1)], [.int 0, .int 0, .int (-1), .int (-1)], [.int 1, .int 0, .int (-1), .int (-1)], [.int (-1), .int 1, .int (-1), .int (-1)], [.int 0, .int 1, .int (-1), .int (-1)], [.int 1, .int 1, .int (-1), .int (-1)], [.int (-1), .int (-1), .int 0, .int (-1)], [.int 0, .int (-1), .int 0, .int (-1)], [.int 1, .int (-1), .int 0, .int (-1)], [.int (-1), .int 0, .int 0, .int (-1)], [.int 0, .int 0, .int 0, .int (-1)], [.int 1, .int 0, .int 0, .int (-1)], [.int (-1), .int 1, .int 0, .int (-1)], [.int 0, .int 1, .int 0, .int (-1)], [.int 1, .int 1, .int 0, .int (-1)], [.int (-1), .int (-1), .int 1, .int (-1)], [.int 0, .int (-1), .int 1, .int (-1)], [.int 1, .int (-1), .int 1, .int (-1)], [.int (-1), .int 0, .int 1, .int (-1)], [.int 0, .int 0, .int 1, .int (-1)], [.int 1, .int 0, .int 1, .int (-1)], [.int (-1), .int 1, .int 1, .int (-1)], [.int 0, .int 1, .int 1, .int (-1)], [.int 1, .int 1, .int 1, .int (-1)], [.int (-1), .int (-1), .int (-1), .int 0], [.int 0, .int (-1), .int (-1), .int 0], [.int 1, .int (-1), .int (-1), .int 0], [.int (-1), .int 0, .int (-1), .int 0], [.int 0, .int 0, .int (-1), .int 0], [.int 1, .int 0, .int (-1), .int 0], [.int (-1), .int 1, .int (-1), .int 0], [.int 0, .int 1, .int (-1), .int 0], [.int 1, .int 1, .int (-1), .int 0], [.int (-1), .int (-1), .int 0, .int 0], [.int 0, .int (-1), .int 0, .int 0], [.int 1, .int (-1), .int 0, .int 0], [.int (-1), .int 0, .int 0, .int 0], [.int 0, .int 0, .int 0, .int 0], [.int 1, .int 0, .int 0, .int 0], [.int (-1), .int 1, .int 0, .int 0], [.int 0, .int 1, .int 0, .int 0], [.int 1, .int 1, .int 0, .int 0], [.int (-1), .int (-1), .int 1, .int 0], [.int 0, .int (-1), .int 1, .int 0], [.int 1, .int (-1), .int 1, .int 0], [.int (-1), .int 0, .int 1, .int 0], [.int 0, .int 0, .int 1, .int 0], [.int 1, .int 0, .int 1, .int 0], [.int (-1), .int 1, .int 1, .int 0], [.int 0, .int 1, .int 1, .int 0], [.int 1, .int 1, .int 1, .int 0], [.int (-1), .int (-1), .int (-1), .int 1], [.int 0, .int (-1), .int (-1), .int 1], [.int 1, .int (-1), .int (-1), .int 1], [.int (-1), .int 0, .int (-1), .int 1], [.int 0, .int 0, .int (-1), .int 1], [.int 1, .int 0, .int (-1), .int 1], [.int (-1), .int 1, .int (-1), .int 1], [.int 0, .int 1, .int (-1), .int 1], [.int 1, .int 1, .int (-1), .int 1], [.int (-1), .int (-1), .int 0, .int 1], [.int 0, .int (-1), .int 0, .int 1], [.int 1, .int (-1), .int 0, .int 1], [.int (-1), .int 0, .int 0, .int 1], [.int 0, .int 0, .int 0, .int 1], [.int 1, .int 0, .int 0, .int 1], [.int (-1), .int 1, .int 0, .int 1], [.int 0, .int 1, .int 0, .int 1], [.int 1, .int 1, .int 0, .int 1], [.int (-1), .int (-1), .int 1, .int 1], [.int 0, .int (-1), .int 1, .int 1], [.int 1, .int (-1), .int 1, .int 1], [.int (-1), .int 0, .int 1, .int 1], [.int 0, .int 0, .int 1, .int 1], [.int 1, .int 0, .int 1, .int 1], [.int (-1), .int 1, .int 1, .int 1], [.int 0, .int 1, .int 1, .int 1], [.int 1, .int 1, .int 1, .int 1]]
def dueT : List Bool := [true, true, true, false, false, true, false, false, true, false, false, false, false, false, false, false, false, true, false, false, false, false, false, false, false, false, true, true, false, false, false, false, false, false, false, false, false, false, false, false, true, false, false, false, false, false, false, false, false, false, false, false, false, true, true, false, false, false, false, false, false, false, false, true, false, false, false, false, false, false, false, false, true, false, false, true, false, false, true, true, true]
def plT : List Bool := [true, false, true, false, false, false, false, false, true, false, false, false, false, false, false, false, false, false, false, false, false, false, false, false, false, false, true, false, false, false, false, false, false, false, false, false, false, false, false, false, false, false, false, false, false, false, false, false, false, false, false, false, false, false, true, false, false, false, false, false, false, false, false, false, false, false, false, false, false, false, false, false, true, false, false, false, false, false, true, false, true]
def smT : List Bool := [true, false, true, false, false, false, true, false, true, false, false, false, false, false, false, false, false, false, true, false, true, false, false, false, true, false, true, false, false, false, false, false, false, false, false, false, false, false, false, false, false, false, false, false, false, false, false, false, false, false, false, false, false, false, true, false, true, false, false, false, true, false, true, false, false, false, false, false, false, false, false, false, true, false, true, false, false, false, true, false, true]
def rD (n : Nat) : List D := rowsD.getD n []
def Rw (n : Nat) : D := .lst (rD n)
def due (n : Nat) : Bool := dueT.getD n false
def simp_ (n : Nat) : Bool := smT.getD n false
def chD (n : Nat) : D := .ins 0 [6, 4, 8, 5, 3, 9] [.int 4, .tup (rD n), .lst [.int 0, .int 1, .int 2, .int 3], .tup [.tup [.int (-1), .int (-2), .int (-1), .int (-1)], .tup [.int 2, .int 1, .int 0, .int 0], .tup [.int 3, .int 2, .int 1, .int 0], .tup [.int 3, .int 2, .int 1, .int 0]], (match due n with | true => .non | false => .tup [.int 0, .int 1, .int 2, .int 3]), .bl (simp_ n)]
def hdD (n : Nat) : D := .lst ((rD n).set 0 (.int 7))
def GA : SS := gSeq g__law_kept_0 g__law_kept_1
def GB : SS := gSeq g__law_kept_2 (gSeq g__law_kept_3 (gSeq g__law_kept_4 g__law_kept_5))
def GC : SS := gSeq g__law_kept_6 (gSeq g__law_kept_7 (gSeq g__law_kept_8 (gSeq g__law_kept_9 (gSeq g__law_kept_10 g__law_kept_11))))
def GF : SS := gSeq g__law_kept_16 g__law_kept_17
theorem gSeq_assoc (a b c : SS) : gSeq (gSeq a b) c = gSeq a (gSeq b c) := by
  funext S
  unfold gSeq
  cases a S <;> rfl
theorem kept_eq : g__law_kept = gSeq GA (gSeq GB (gSeq GC (gSeq g__law_kept_12 (gSeq g__law_kept_13 (gSeq g__law_kept_14 (gSeq g__law_kept_15 GF)))))) := by
  unfold g__law_kept GA GB GC GF
  simp only [gSeq_assoc]
def finK : SR → Option Slot
  | .rt false (.bl true) (s :: _ :: _ :: _) => some s
  | _ => none
def frm (p : Bool) (n : Nat) : Slot := match p with
  | true => .va (.tup (rD n))
  | false => .ow (Rw n)
def four (sh : Nat) : List D := [.int ((0 + sh) % 4 : Nat), .int ((1 + sh) % 4 : Nat), .int ((2 + sh) % 4 : Nat), .int ((3 + sh) % 4 : Nat)]
def fourR (sh : Nat) (rv : Bool) : D := match rv with
  | true => .lst (four sh).reverse
  | false => .lst (four sh)
theorem R_0 : F__law_row [.va (.int (0 : Nat))] = .rt true (Rw 0) [.un] := by kernel_rfl
theorem G_0 : F_is_good [.bo (Rw 0)] = .rt false (.bl (due 0)) [.un] := by kernel_rfl
theorem A_0 : ∀ s p : Slot, GA [s, .bo (Rw 0), p, .un, .un, .un, .un, .un, .un, .un, .un, .un] = .nx [s, .bo (Rw 0), p, .va (.bl (due 0)), .va (.int 3), .un, .un, .un, .un, .un, .un, .un] := fun s p => by kernel_rfl
theorem B_0 : ∀ s : Slot, ∀ q : Bool, GB [s, .bo (Rw 0), .va (.bl q), .va (.bl (due 0)), .va (.int 3), .un, .un, .un, .un, .un, .un, .un] = .nx [s, .bo (Rw 0), .va (.bl q), .va (.bl (due 0)), .va (.int 3), frm q 0, .va (.bl (due 0)), .un, .un, .un, .un, .un] := fun s q => by cases q <;> kernel_rfl
theorem C_0 : ∀ s p f : Slot, GC [s, .bo (Rw 0), p, .va (.bl (due 0)), .va (.int 3), f, .va (.bl (due 0)), .un, .un, .un, .un, .un] = .nx [s, .bo (Rw 0), p, .va (.bl (due 0)), .va (.int 3), f, .va (.bl (due 0)), .ow (hdD 0), .ow (chD 0), .un, .un, .un] := fun s p f => by kernel_rfl
theorem E_0 : ∀ s p f : Slot, ∀ sh : Nat, ∀ rv : Bool, sh < 4 → g__law_kept_15 [s, .bo (Rw 0), p, .va (.bl (due 0)), .va (.int 3), f, .va (.bl (due 0)), .ow (hdD 0), .ow (chD 0), .va (.int sh), .ow (fourR sh rv), .un] = .nx [s, .bo (Rw 0), p, .va (.bl (due 0)), .va (.int 3), f, .va (.bl (due 0)), .ow (hdD 0), .ow (chD 0), .va (.int sh), .ow (fourR sh rv), .un] := fun s p f sh rv h => match sh, h with
  | 0, _ => by cases rv <;> kernel_rfl
  | 1, _ => by cases rv <;> kernel_rfl
  | 2, _ => by cases rv <;> kernel_rfl
  | 3, _ => by cases rv <;> kernel_rfl
  | n + 4, h => absurd h (by omega)
theorem F_0 : ∀ s p f s9 s10 : Slot, finK (GF [s, .bo (Rw 0), p, .va (.bl (due 0)), .va (.int 3), f, .va (.bl (due 0)), .ow (hdD 0), .ow (chD 0), s9, s10, .un]) = some s := fun s p f s9 s10 => by kernel_rfl
theorem R_1 : F__law_row [.va (.int (1 : Nat))] = .rt true (Rw 1) [.un] := by kernel_rfl
theorem G_1 : F_is_good [.bo (Rw 1)] = .rt false (.bl (due 1)) [.un] := by kernel_rfl
theorem A_1 : ∀ s p : Slot, GA [s, .bo (Rw 1), p, .un, .un, .un, .un, .un, .un, .un, .un, .un] = .nx [s, .bo (Rw 1), p, .va (.bl (due 1)), .va (.int 3), .un, .un, .un, .un, .un, .un, .un] := fun s p => by kernel_rfl
theorem B_1 : ∀ s : Slot, ∀ q : Bool, GB [s, .bo (Rw 1), .va (.bl q), .va (.bl (due 1)), .va (.int 3), .un, .un, .un, .un, .un, .un, .un] = .nx [s, .bo (Rw 1), .va (.bl q), .va (.bl (due 1)), .va (.int 3), frm q 1, .va (.bl (due 1)), .un, .un, .un, .un, .un] := fun s q => by cases q <;> kernel_rfl
theorem C_1 : ∀ s p f : Slot, GC [s, .bo (Rw 1), p, .va (.bl (due 1)), .va (.int 3), f, .va (.bl (due 1)), .un, .un, .un, .un, .un] = .nx [s, .bo (Rw 1), p, .va (.bl (due 1)), .va (.int 3), f, .va (.bl (due 1)), .ow (hdD 1), .ow (chD 1), .un, .un, .un] := fun s p f => by kernel_rfl
theorem E_1 : ∀ s p f : Slot, ∀ sh : Nat, ∀ rv : Bool, sh < 4 → g__law_kept_15 [s, .bo (Rw 1), p, .va (.bl (due 1)), .va (.int 3), f, .va (.bl (due 1)), .ow (hdD 1), .ow (chD 1), .va (.int sh), .ow (fourR sh rv), .un] = .nx [s, .bo (Rw 1), p, .va (.bl (due 1)), .va (.int 3), f, .va (.bl (due 1)), .ow (hdD 1), .ow (chD 1), .va (.int sh), .ow (fourR sh rv), .un] := fun s p f sh rv h => match sh, h with
  | 0, _ => by cases rv <;> kernel_rfl
  | 1, _ => by cases rv <;> kernel_rfl
  | 2, _ => by cases rv <;> kernel_rfl
  | 3, _ => by cases rv <;> kernel_rfl
  | n + 4, h => absurd h (by omega)
theorem F_1 : ∀ s p f s9 s10 : Slot, finK (GF [s, .bo (Rw 1), p, .va (.bl (due 1)), .va (.int 3), f, .va (.bl (due 1)), .ow (hdD 1), .ow (chD 1), s9, s10, .un]) = some s := fun s p f s9 s10 => by kernel_rfl
theorem R_2 : F__law_row [.va (.int (2 : Nat))] = .rt true (Rw 2) [.un] := by kernel_rfl
theorem G_2 : F_is_good [.bo (Rw 2)] = .rt false (.bl (due 2)) [.un] := by kernel_rfl
theorem A_2 : ∀ s p : Slot, GA [s, .bo (Rw 2), p, .un, .un, .un, .un, .un, .un, .un, .un, .un] = .nx [s, .bo (Rw 2), p, .va (.bl (due 2)), .va (.int 3), .un, .un, .un, .un, .un, .un, .un] := fun s p => by kernel_rfl
theorem B_2 : ∀ s : Slot, ∀ q : Bool, GB [s, .bo (Rw 2), .va (.bl q), .va (.bl (due 2)), .va (.int 3), .un, .un, .un, .un, .un, .un, .un] = .nx [s, .bo (Rw 2), .va (.bl q), .va (.bl (due 2)), .va (.int 3), frm q 2, .va (.bl (due 2)), .un, .un, .un, .un, .un] := fun s q => by cases q <;> kernel_rfl
theorem C_2 : ∀ s p f : Slot, GC [s, .bo (Rw 2), p, .va (.bl (due 2)), .va (.int 3), f, .va (.bl (due 2)), .un, .un, .un, .un, .un] = .nx [s, .bo (Rw 2), p, .va (.bl (due 2)), .va (.int 3), f, .va (.bl (due 2)), .ow (hdD 2), .ow (chD 2), .un, .un, .un] := fun s p f => by kernel_rfl
theorem E_2 : ∀ s p f : Slot, ∀ sh : Nat, ∀ rv : Bool, sh < 4 → g__law_kept_15 [s, .bo (Rw 2), p, .va (.bl (due 2)), .va (.int 3), f, .va (.bl (due 2)), .ow (hdD 2), .ow (chD 2), .va (.int sh), .ow (fourR sh rv), .un] = .nx [s, .bo (Rw 2), p, .va (.bl (due 2)), .va (.int 3), f, .va (.bl (due 2)), .ow (hdD 2), .ow (chD 2), .va (.int sh), .ow (fourR sh rv), .un] := fun s p f sh rv h => match sh, h with
  | 0, _ => by cases rv <;> kernel_rfl
  | 1, _ => by cases rv <;> kernel_rfl
  | 2, _ => by cases rv <;> kernel_rfl
  | 3, _ => by cases rv <;> kernel_rfl
  | n + 4, h => absurd h (by omega)
theorem F_2 : ∀ s p f s9 s10 : Slot, finK (GF [s, .bo (Rw 2), p, .va (.bl (due 2)), .va (.int 3), f, .va (.bl (due 2)), .ow (hdD 2), .ow (chD 2), s9, s10, .un]) = some s := fun s p f s9 s10 => by kernel_rfl
theorem R_3 : F__law_row [.va (.int (3 : Nat))] = .rt true (Rw 3) [.un] := by kernel_rfl
theorem G_3 : F_is_good [.bo (Rw 3)] = .rt false (.bl (due 3)) [.un] := by kernel_rfl
theorem A_3 : ∀ s p : Slot, GA [s, .bo (Rw 3), p, .un, .un, .un, .un, .un, .un, .un, .un, .un] = .nx [s, .bo (Rw 3), p, .va (.bl (due 3)), .va (.int 3), .un, .un, .un, .un, .un, .un, .un] := fun s p => by kernel_rfl
theorem B_3 : ∀ s : Slot, ∀ q : Bool, GB [s, .bo (Rw 3), .va (.bl q), .va (.bl (due 3)), .va (.int 3), .un, .un, .un, .un, .un, .un, .un] = .nx [s, .bo (Rw 3), .va (.bl q), .va (.bl (due 3)), .va (.int 3), frm q 3, .va (.bl (due 3)), .un, .un, .un, .un, .un] := fun s q => by cases q <;> kernel_rfl
theorem C_3 : ∀ s p f : Slot, GC [s, .bo (Rw 3), p, .va (.bl (due 3)), .va (.int 3), f, .va (.bl (due 3)), .un, .un, .un, .un, .un] = .nx [s, .bo (Rw 3), p, .va (.bl (due 3)), .va (.int 3), f, .va (.bl (due 3)), .ow (hdD 3), .ow (chD 3), .un, .un, .un] := fun s p f => by kernel_rfl
theorem E_3 : ∀ s p f : Slot, ∀ sh : Nat, ∀ rv : Bool, sh < 4 → g__law_kept_15 [s, .bo (Rw 3), p, .va (.bl (due 3)), .va (.int 3), f, .va (.bl (due 3)), .ow (hdD 3), .ow (chD 3), .va (.int sh), .ow (fourR sh rv), .un] = .nx [s, .bo (Rw 3), p, .va (.bl (due 3)), .va (.int 3), f, .va (.bl (due 3)), .ow (hdD 3), .ow (chD 3), .va (.int sh), .ow (fourR sh rv), .un] := fun s p f sh rv h => match sh, h with
  | 0, _ => by cases rv <;> kernel_rfl
  | 1, _ => by cases rv <;> kernel_rfl
  | 2, _ => by cases rv <;> kernel_rfl
  | 3, _ => by cases rv <;> kernel_rfl
  | n + 4, h => absurd h (by omega)
theorem F_3 : ∀ s p f s9 s10 : Slot, finK (GF [s, .bo (Rw 3), p, .va (.bl (due 3)), .va (.int 3), f, .va (.bl (due 3)), .ow (hdD 3), .ow (chD 3), s9, s10, .un]) = some s := fun s p f s9 s10 => by kernel_rfl
theorem R_4 : F__law_row [.va (.int (4 : Nat))] = .rt true (Rw 4) [.un] := by kernel_rfl
theorem G_4 : F_is_good [.bo (Rw 4)] = .rt false (.bl (due 4)) [.un] := by kernel_rfl
theorem A_4 : ∀ s p : Slot, GA [s, .bo (Rw 4), p, .un, .un, .un, .un, .un, .un, .un, .un, .un] = .nx [s, .bo (Rw 4), p, .va (.bl (due 4)), .va (.int 3), .un, .un, .un, .un, .un, .un, .un] := fun s p => by kernel_rfl
theorem B_4 : ∀ s : Slot, ∀ q : Bool, GB [s, .bo (Rw 4), .va (.bl q), .va (.bl (due 4)), .va (.int 3), .un, .un, .un, .un, .un, .un, .un] = .nx [s, .bo (Rw 4), .va (.bl q), .va (.bl (due 4)), .va (.int 3), frm q 4, .va (.bl (due 4)), .un, .un, .un, .un, .un] := fun s q => by cases q <;> kernel_rfl
theorem C_4 : ∀ s p f : Slot, GC [s, .bo (Rw 4), p, .va (.bl (due 4)), .va (.int 3), f, .va (.bl (due 4)), .un, .un, .un, .un, .un] = .nx [s, .bo (Rw 4), p, .va (.bl (due 4)), .va (.int 3), f, .va (.bl (due 4)), .ow (hdD 4), .ow (chD 4), .un, .un, .un] := fun s p f => by kernel_rfl
theorem E_4 : ∀ s p f : Slot, ∀ sh : Nat, ∀ rv : Bool, sh < 4 → g__law_kept_15 [s, .bo (Rw 4), p, .va (.bl (due 4)), .va (.int 3), f, .va (.bl (due 4)), .ow (hdD 4), .ow (chD 4), .va (.int sh), .ow (fourR sh rv), .un] = .nx [s, .bo (Rw 4), p, .va (.bl (due 4)), .va (.int 3), f, .va (.bl (due 4)), .ow (hdD 4), .ow (chD 4), .va (.int sh), .ow (fourR sh rv), .un] := fun s p f sh rv h => match sh, h with
  | 0, _ => by cases rv <;> kernel_rfl
  | 1, _ => by cases rv <;> kernel_rfl
  | 2, _ => by cases rv <;> kernel_rfl
  | 3, _ => by cases rv <;> kernel_rfl
  | n + 4, h => absurd h (by omega)
theorem F_4 : ∀ s p f s9 s10 : Slot, finK (GF [s, .bo (Rw 4), p, .va (.bl (due 4)), .va (.int 3), f, .va (.bl (due 4)), .ow (hdD 4), .ow (chD 4), s9, s10, .un]) = some s := fun s p f s9 s10 => by kernel_rfl
theorem R_5 : F__law_row [.va (.int (5 : Nat))] = .rt true (Rw 5) [.un] := by kernel_rfl
theorem G_5 : F_is_good [.bo (Rw 5)] = .rt false (.bl (due 5)) [.un] := by kernel_rfl
theorem A_5 : ∀ s p : Slot, GA [s, .bo (Rw 5), p, .un, .un, .un, .un, .un, .un, .un, .un, .un] = .nx [s, .bo (Rw 5), p, .va (.bl (due 5)), .va (.int 3), .un, .un, .un, .un, .un, .un, .un] := fun s p => by kernel_rfl
theorem B_5 : ∀ s : Slot, ∀ q : Bool, GB [s, .bo (Rw 5), .va (.bl q), .va (.bl (due 5)), .va (.int 3), .un, .un, .un, .un, .un, .un, .un] = .nx [s, .bo (Rw 5), .va (.bl q), .va (.bl (due 5)), .va (.int 3), frm q 5, .va (.bl (due 5)), .un, .un, .un, .un, .un] := fun s q => by cases q <;> kernel_rfl
theorem C_5 : ∀ s p f : Slot, GC [s, .bo (Rw 5), p, .va (.bl (due 5)), .va (.int 3), f, .va (.bl (due 5)), .un, .un, .un, .un, .un] = .nx [s, .bo (Rw 5), p, .va (.bl (due 5)), .va (.int 3), f, .va (.bl (due 5)), .ow (hdD 5), .ow (chD 5), .un, .un, .un] := fun s p f => by kernel_rfl
theorem E_5 : ∀ s p f : Slot, ∀ sh : Nat, ∀ rv : Bool, sh < 4 → g__law_kept_15 [s, .bo (Rw 5), p, .va (.bl (due 5)), .va (.int 3), f, .va (.bl (due 5)), .ow (hdD 5), .ow (chD 5), .va (.int sh), .ow (fourR sh rv), .un] = .nx [s, .bo (Rw 5), p, .va (.bl (due 5)), .va (.int 3), f, .va (.bl (due 5)), .ow (hdD 5), .ow (chD 5), .va (.int sh), .ow (fourR sh rv), .un] := fun s p f sh rv h => match sh, h with
  | 0, _ => by cases rv <;> kernel_rfl
  | 1, _ => by cases rv <;> kernel_rfl
  | 2, _ => by cases rv <;> kernel_rfl
  | 3, _ => by cases rv <;> kernel_rfl
  | n + 4, h => absurd h (by omega)
theorem F_5 : ∀ s p f s9 s10 : Slot, finK (GF [s, .bo (Rw 5), p, .va (.bl (due 5)), .va (.int 3), f, .va (.bl (due 5)), .ow (hdD 5), .ow (chD 5), s9, s10, .un]) = some s := fun s p f s9 s10 => by kernel_rfl
theorem R_6 : F__law_row [.va (.int (6 : Nat))] = .rt true (Rw 6) [.un] := by kernel_rfl
theorem G_6 : F_is_good [.bo (Rw 6)] = .rt false (.bl (due 6)) [.un] := by kernel_rfl
theorem A_6 : ∀ s p : Slot, GA [s, .bo (Rw 6), p, .un, .un, .un, .un, .un, .un, .un, .un, .un] = .nx [s, .bo (Rw 6), p, .va (.bl (due 6)), .va (.int 3), .un, .un, .un, .un, .un, .un, .un] := fun s p => by kernel_rfl
theorem B_6 : ∀ s : Slot, ∀ q : Bool, GB [s, .bo (Rw 6), .va (.bl q), .va (.bl (due 6)), .va (.int 3), .un, .un, .un, .un, .un, .un, .un] = .nx [s, .bo (Rw 6), .va (.bl q), .va (.bl (due 6)), .va (.int 3), frm q 6, .va (.bl (due 6)), .un, .un, .un, .un, .un] := fun s q => by cases q <;> kernel_rfl
theorem C_6 : ∀ s p f : Slot, GC [s, .bo (Rw 6), p, .va (.bl (due 6)), .va (.int 3), f, .va (.bl (due 6)), .un, .un, .un, .un, .un] = .nx [s, .bo (Rw 6), p, .va (.bl (due 6)), .va (.int 3), f, .va (.bl (due 6)), .ow (hdD 6), .ow (chD 6), .un, .un, .un] := fun s p f => by kernel_rfl
theorem E_6 : ∀ s p f : Slot, ∀ sh : Nat, ∀ rv : Bool, sh < 4 → g__law_kept_15 [s, .bo (Rw 6), p, .va (.bl (due 6)), .va (.int 3), f, .va (.bl (due 6)), .ow (hdD 6), .ow (chD 6), .va (.int sh), .ow (fourR sh rv), .un] = .nx [s, .bo (Rw 6), p, .va (.bl (due 6)), .va (.int 3), f, .va (.bl (due 6)), .ow (hdD 6), .ow (chD 6), .va (.int sh), .ow (fourR sh rv), .un] := fun s p f sh rv h => match sh, h with
  | 0, _ => by cases rv <;> kernel_rfl
  | 1, _ => by cases rv <;> kernel_rfl
  | 2, _ => by cases rv <;> kernel_rfl
  | 3, _ => by cases rv <;> kernel_rfl
  | n + 4, h => absurd h (by omega)
theorem F_6 : ∀ s p f s9 s10 : Slot, finK (GF [s, .bo (Rw 6), p, .va (.bl (due 6)), .va (.int 3), f, .va (.bl (due 6)), .ow (hdD 6), .ow (chD 6), s9, s10, .un]) = some s := fun s p f s9 s10 => by kernel_rfl
theorem R_7 : F__law_row [.va (.int (7 : Nat))] = .rt true (Rw 7) [.un] := by kernel_rfl
theorem G_7 : F_is_good [.bo (Rw 7)] = .rt false (.bl (due 7)) [.un] := by kernel_rfl
theorem A_7 : ∀ s p : Slot, GA [s, .bo (Rw 7), p, .un, .un, .un, .un, .un, .un, .un, .un, .un] = .nx [s, .bo (Rw 7), p, .va (.bl (due 7)), .va (.int 3), .un, .un, .un, .un, .un, .un, .un] := fun s p => by kernel_rfl
theorem B_7 : ∀ s : Slot, ∀ q : Bool, GB [s, .bo (Rw 7), .va (.bl q), .va (.bl (due 7)), .va (.int 3), .un, .un, .un, .un, .un, .un, .un] = .nx [s, .bo (Rw 7), .va (.bl q), .va (.bl (due 7)), .va (.int 3), frm q 7, .va (.bl (due 7)), .un, .un, .un, .un, .un] := fun s q => by cases q <;> kernel_rfl
theorem C_7 : ∀ s p f : Slot, GC [s, .bo (Rw 7), p, .va (.bl (due 7)), .va (.int 3), f, .va (.bl (due 7)), .un, .un, .un, .un, .un] = .nx [s, .bo (Rw 7), p, .va (.bl (due 7)), .va (.int 3), f, .va (.bl (due 7)), .ow (hdD 7), .ow (chD 7), .un, .un, .un] := fun s p f => by kernel_rfl
theorem E_7 : ∀ s p f : Slot, ∀ sh : Nat, ∀ rv : Bool, sh < 4 → g__law_kept_15 [s, .bo (Rw 7), p, .va (.bl (due 7)), .va (.int 3), f, .va (.bl (due 7)), .ow (hdD 7), .ow (chD 7), .va (.int sh), .ow (fourR sh rv), .un] = .nx [s, .bo (Rw 7), p, .va (.bl (due 7)), .va (.int 3), f, .va (.bl (due 7)), .ow (hdD 7), .ow (chD 7), .va (.int sh), .ow (fourR sh rv), .un] := fun s p f sh rv h => match sh, h with
  | 0, _ => by cases rv <;> kernel_rfl
  | 1, _ => by cases rv <;> kernel_rfl
  | 2, _ => by cases rv <;> kernel_rfl
  | 3, _ => by cases rv <;> kernel_rfl
  | n + 4, h => absurd h (by omega)
theorem F_7 : ∀ s p f s9 s10 : Slot, finK (GF [s, .bo (Rw 7), p, .va (.bl (due 7)), .va (.int 3), f, .va (.bl (due 7)), .ow (hdD 7), .ow (chD 7), s9, s10, .un]) = some s := fun s p f s9 s10 => by kernel_rfl
theorem R_8 : F__law_row [.va (.int (8 : Nat))] = .rt true (Rw 8) [.un] := by kernel_rfl
theorem G_8 : F_is_good [.bo (Rw 8)] = .rt false (.bl (due 8)) [.un] := by kernel_rfl
theorem A_8 : ∀ s p : Slot, GA [s, .bo (Rw 8), p, .un, .un, .un, .un, .un, .un, .un, .un, .un] = .nx [s, .bo (Rw 8), p, .va (.bl (due 8)), .va (.int 3), .un, .un, .un, .un, .un, .un, .un] := fun s p => by kernel_rfl
theorem B_8 : ∀ s : Slot, ∀ q : Bool, GB [s, .bo (Rw 8), .va (.bl q), .va (.bl (due 8)), .va (.int 3), .un, .un, .un, .un, .un, .un, .un] = .nx [s, .bo (Rw 8), .va (.bl q), .va (.bl (due 8)), .va (.int 3), frm q 8, .va (.bl (due 8)), .un, .un, .un, .un, .un] := fun s q => by cases q <;> kernel_rfl
theorem C_8 : ∀ s p f : Slot, GC [s, .bo (Rw 8), p, .va (.bl (due 8)), .va (.int 3), f, .va (.bl (due 8)), .un, .un, .un, .un, .un] = .nx [s, .bo (Rw 8), p, .va (.bl (due 8)), .va (.int 3), f, .va (.bl (due 8)), .ow (hdD 8), .ow (chD 8), .un, .un, .un] := fun s p f => by kernel_rfl
theorem E_8 : ∀ s p f : Slot, ∀ sh : Nat, ∀ rv : Bool, sh < 4 → g__law_kept_15 [s, .bo (Rw 8), p, .va (.bl (due 8)), .va (.int 3), f, .va (.bl (due 8)), .ow (hdD 8), .ow (chD 8), .va (.int sh), .ow (fourR sh rv), .un] = .nx [s, .bo (Rw 8), p, .va (.bl (due 8)), .va (.int 3), f, .va (.bl (due 8)), .ow (hdD 8), .ow (chD 8), .va (.int sh), .ow (fourR sh rv), .un] := fun s p f sh rv h => match sh, h with
  | 0, _ => by cases rv <;> kernel_rfl
  | 1, _ => by cases rv <;> kernel_rfl
  | 2, _ => by cases rv <;> kernel_rfl
  | 3, _ => by cases rv <;> kernel_rfl
  | n + 4, h => absurd h (by omega)
theorem F_8 : ∀ s p f s9 s10 : Slot, finK (GF [s, .bo (Rw 8), p, .va (.bl (due 8)), .va (.int 3), f, .va (.bl (due 8)), .ow (hdD 8), .ow (chD 8), s9, s10, .un]) = some s := fun s p f s9 s10 => by kernel_rfl
theorem R_9 : F__law_row [.va (.int (9 : Nat))] = .rt true (Rw 9) [.un] := by kernel_rfl
theorem G_9 : F_is_good [.bo (Rw 9)] = .rt false (.bl (due 9)) [.un] := by kernel_rfl
theorem A_9 : ∀ s p : Slot, GA [s, .bo (Rw 9), p, .un, .un, .un, .un, .un, .un, .un, .un, .un] = .nx [s, .bo (Rw 9), p, .va (.bl (due 9)), .va (.int 3), .un, .un, .un, .un, .un, .un, .un] := fun s p => by kernel_rfl
theorem B_9 : ∀ s : Slot, ∀ q : Bool, GB [s, .bo (Rw 9), .va (.bl q), .va (.bl (due 9)), .va (.int 3), .un, .un, .un, .un, .un, .un, .un] = .nx [s, .bo (Rw 9), .va (.bl q), .va (.bl (due 9)), .va (.int 3), frm q 9, .va (.bl (due 9)), .un, .un, .un, .un, .un] := fun s q => by cases q <;> kernel_rfl
theorem C_9 : ∀ s p f : Slot, GC [s, .bo (Rw 9), p, .va (.bl (due 9)), .va (.int 3), f, .va (.bl (due 9)), .un, .un, .un, .un, .un] = .nx [s, .bo (Rw 9), p, .va (.bl (due 9)), .va (.int 3), f, .va (.bl (due 9)), .ow (hdD 9), .ow (chD 9), .un, .un, .un] := fun s p f => by kernel_rfl
theorem E_9 : ∀ s p f : Slot, ∀ sh : Nat, ∀ rv : Bool, sh < 4 → g__law_kept_15 [s, .bo (Rw 9), p, .va (.bl (due 9)), .va (.int 3), f, .va (.bl (due 9)), .ow (hdD 9), .ow (chD 9), .va (.int sh), .ow (fourR sh rv), .un] = .nx [s, .bo (Rw 9), p, .va (.bl (due 9)), .va (.int 3), f, .va (.bl (due 9)), .ow (hdD 9), .ow (chD 9), .va (.int sh), .ow (fourR sh rv), .un] := fun s p f sh rv h => match sh, h with
  | 0, _ => by cases rv <;> kernel_rfl
  | 1, _ => by cases rv <;> kernel_rfl
  | 2, _ => by cases rv <;> kernel_rfl
  | 3, _ => by cases rv <;> kernel_rfl
  | n + 4, h => absurd h (by omega)
theorem F_9 : ∀ s p f s9 s10 : Slot, finK (GF [s, .bo (Rw 9), p, .va (.bl (due 9)), .va (.int 3), f, .va (.bl (due 9)), .ow (hdD 9), .ow (chD 9), s9, s10, .un]) = some s := fun s p f s9 s10 => by kernel_rfl
theorem R_10 : F__law_row [.va (.int (10 : Nat))] = .rt true (Rw 10) [.un] := by kernel_rfl
theorem G_10 : F_is_good [.bo (Rw 10)] = .rt false (.bl (due 10)) [.un] := by kernel_rfl
theorem A_10 : ∀ s p : Slot, GA [s, .bo (Rw 10), p, .un, .un, .un, .un, .un, .un, .un, .un, .un] = .nx [s, .bo (Rw 10), p, .va (.bl (due 10)), .va (.int 3), .un, .un, .un, .un, .un, .un, .un] := fun s p => by kernel_rfl
theorem B_10 : ∀ s : Slot, ∀ q : Bool, GB [s, .bo (Rw 10), .va (.bl q), .va (.bl (due 10)), .va (.int 3), .un, .un, .un, .un, .un, .un, .un] = .nx [s, .bo (Rw 10), .va (.bl q), .va (.bl (due 10)), .va (.int 3), frm q 10, .va (.bl (due 10)), .un, .un, .un, .un, .un] := fun s q => by cases q <;> kernel_rfl
theorem C_10 : ∀ s p f : Slot, GC [s, .bo (Rw 10), p, .va (.bl (due 10)), .va (.int 3), f, .va (.bl (due 10)), .un, .un, .un, .un, .un] = .nx [s, .bo (Rw 10), p, .va (.bl (due 10)), .va (.int 3), f, .va (.bl (due 10)), .ow (hdD 10), .ow (chD 10), .un, .un, .un] := fun s p f => by kernel_rfl
theorem E_10 : ∀ s p f : Slot, ∀ sh : Nat, ∀ rv : Bool, sh < 4 → g__law_kept_15 [s, .bo (Rw 10), p, .va (.bl (due 10)), .va (.int 3), f, .va (.bl (due 10)), .ow (hdD 10), .ow (chD 10), .va (.int sh), .ow (fourR sh rv), .un] = .nx [s, .bo (Rw 10), p, .va (.bl (due 10)), .va (.int 3), f, .va (.bl (due 10)), .ow (hdD 10), .ow (chD 10), .va (.int sh), .ow (fourR sh rv), .un] := fun s p f sh rv h => match sh, h with
  | 0, _ => by cases rv <;> kernel_rfl
  | 1, _ => by cases rv <;> kernel_rfl
  | 2, _ => by cases rv <;> kernel_rfl
  | 3, _ => by cases rv <;> kernel_rfl
  | n + 4, h => absurd h (by omega)
theorem F_10 : ∀ s p f s9 s10 : Slot, finK (GF [s, .bo (Rw 10), p, .va (.bl (due 10)), .va (.int 3), f, .va (.bl (due 10)), .ow (hdD 10), .ow (chD 10), s9, s10, .un]) = some s := fun s p f s9 s10 => by kernel_rfl
theorem R_11 : F__law_row [.va (.int (11 : Nat))] = .rt true (Rw 11) [.un] := by kernel_rfl
theorem G_11 : F_is_good [.bo (Rw 11)] = .rt false (.bl (due 11)) [.un] := by kernel_rfl
theorem A_11 : ∀ s p : Slot, GA [s, .bo (Rw 11), p, .un, .un, .un, .un, .un, .un, .un, .un, .un] = .nx [s, .bo (Rw 11), p, .va (.bl (due 11)), .va (.int 3), .un, .un, .un, .un, .un, .un, .un] := fun s p => by kernel_rfl
theorem B_11 : ∀ s : Slot, ∀ q : Bool, GB [s, .bo (Rw 11), .va (.bl q), .va (.bl (due 11)), .va (.int 3), .un, .un, .un, .un, .un, .un, .un] = .nx [s, .bo (Rw 11), .va (.bl q), .va (.bl (due 11)), .va (.int 3), frm q 11, .va (.bl (due 11)), .un, .un, .un, .un, .un] := fun s q => by cases q <;> kernel_rfl
theorem C_11 : ∀ s p f : Slot, GC [s, .bo (Rw 11), p, .va (.bl (due 11)), .va (.int 3), f, .va (.bl (due 11)), .un, .un, .un, .un, .un] = .nx [s, .bo (Rw 11), p, .va (.bl (due 11)), .va (.int 3), f, .va (.bl (due 11)), .ow (hdD 11), .ow (chD 11), .un, .un, .un] := fun s p f => by kernel_rfl
theorem E_11 : ∀ s p f : Slot, ∀ sh : Nat, ∀ rv : Bool, sh < 4 → g__law_kept_15 [s, .bo (Rw 11), p, .va (.bl (due 11)), .va (.int 3), f, .va (.bl (due 11)), .ow (hdD 11), .ow (chD 11), .va (.int sh), .ow (fourR sh rv), .un] = .nx [s, .bo (Rw 11), p, .va (.bl (due 11)), .va (.int 3), f, .va (.bl (due 11)), .ow (hdD 11), .ow (chD 11), .va (.int sh), .ow (fourR sh rv), .un] := fun s p f sh rv h => match sh, h with
  | 0, _ => by cases rv <;> kernel_rfl
  | 1, _ => by cases rv <;> kernel_rfl
  | 2, _ => by cases rv <;> kernel_rfl
  | 3, _ => by cases rv <;> kernel_rfl
  | n + 4, h => absurd h (by omega)
theorem F_11 : ∀ s p f s9 s10 : Slot, finK (GF [s, .bo (Rw 11), p, .va (.bl (due 11)), .va (.int 3), f, .va (.bl (due 11)), .ow (hdD 11), .ow (chD 11), s9, s10, .un]) = some s := fun s p f s9 s10 => by kernel_rfl
theorem R_12 : F__law_row [.va (.int (12 : Nat))] = .rt true (Rw 12) [.un] := by kernel_rfl
theorem G_12 : F_is_good [.bo (Rw 12)] = .rt false (.bl (due 12)) [.un] := by kernel_rfl
theorem A_12 : ∀ s p : Slot, GA [s, .bo (Rw 12), p, .un, .un, .un, .un, .un, .un, .un, .un, .un] = .nx [s, .bo (Rw 12), p, .va (.bl (due 12)), .va (.int 3), .un, .un, .un, .un, .un, .un, .un] := fun s p => by kernel_rfl
theorem B_12 : ∀ s : Slot, ∀ q : Bool, GB [s, .bo (Rw 12), .va (.bl q), .va (.bl (due 12)), .va (.int 3), .un, .un, .un, .un, .un, .un, .un] = .nx [s, .bo (Rw 12), .va (.bl q), .va (.bl (due 12)), .va (.int 3), frm q 12, .va (.bl (due 12)), .un, .un, .un, .un, .un] := fun s q => by cases q <;> kernel_rfl
theorem C_12 : ∀ s p f : Slot, GC [s, .bo (Rw 12), p, .va (.bl (due 12)), .va (.int 3), f, .va (.bl (due 12)), .un, .un, .un, .un, .un] = .nx [s, .bo (Rw 12), p, .va (.bl (due 12)), .va (.int 3), f, .va (.bl (due 12)), .ow (hdD 12), .ow (chD 12), .un, .un, .un] := fun s p f => by kernel_rfl
theorem E_12 : ∀ s p f : Slot, ∀ sh : Nat, ∀ rv : Bool, sh < 4 → g__law_kept_15 [s, .bo (Rw 12), p, .va (.bl (due 12)), .va (.int 3), f, .va (.bl (due 12)), .ow (hdD 12), .ow (chD 12), .va (.int sh), .ow (fourR sh rv), .un] = .nx [s, .bo (Rw 12), p, .va (.bl (due 12)), .va (.int 3), f, .va (.bl (due 12)), .ow (hdD 12), .ow (chD 12), .va (.int sh), .ow (fourR sh rv), .un] := fun s p f sh rv h => match sh, h with
  | 0, _ => by cases rv <;> kernel_rfl
  | 1, _ => by cases rv <;> kernel_rfl
  | 2, _ => by cases rv <;> kernel_rfl
  | 3, _ => by cases rv <;> kernel_rfl
  | n + 4, h => absurd h (by omega)
theorem F_12 : ∀ s p f s9 s10 : Slot, finK (GF [s, .bo (Rw 12), p, .va (.bl (due 12)), .va (.int 3), f, .va (.bl (due 12)), .ow (hdD 12), .ow (chD 12), s9, s10, .un]) = some s := fun s p f s9 s10 => by kernel_rfl
theorem R_13 : F__law_row [.va (.int (13 : Nat))] = .rt true (Rw 13) [.un] := by kernel_rfl
theorem G_13 : F_is_good [.bo (Rw 13)] = .rt false (.bl (due 13)) [.un] := by kernel_rfl
theorem A_13 : ∀ s p : Slot, GA [s, .bo (Rw 13), p, .un, .un, .un, .un, .un, .un, .un, .un, .un] = .nx [s, .bo (Rw 13), p, .va (.bl (due 13)), .va (.int 3), .un, .un, .un, .un, .un, .un, .un] := fun s p => by kernel_rfl
theorem B_13 : ∀ s : Slot, ∀ q : Bool, GB [s, .bo (Rw 13), .va (.bl q), .va (.bl (due 13)), .va (.int 3), .un, .un, .un, .un, .un, .un, .un] = .nx [s, .bo (Rw 13), .va (.bl q), .va (.bl (due 13)), .va (.int 3), frm q 13, .va (.bl (due 13)), .un, .un, .un, .un, .un] := fun s q => by cases q <;> kernel_rfl
theorem C_13 : ∀ s p f : Slot, GC [s, .bo (Rw 13), p, .va (.bl (due 13)), .va (.int 3), f, .va (.bl (due 13)), .un, .un, .un, .un, .un] = .nx [s, .bo (Rw 13), p, .va (.bl (due 13)), .va (.int 3), f, .va (.bl (due 13)), .ow (hdD 13), .ow (chD 13), .un, .un, .un] := fun s p f => by kernel_rfl
theorem E_13 : ∀ s p f : Slot, ∀ sh : Nat, ∀ rv : Bool, sh < 4 → g__law_kept_15 [s, .bo (Rw 13), p, .va (.bl (due 13)), .va (.int 3), f, .va (.bl (due 13)), .ow (hdD 13), .ow (chD 13), .va (.int sh), .ow (fourR sh rv), .un] = .nx [s, .bo (Rw 13), p, .va (.bl (due 13)), .va (.int 3), f, .va (.bl (due 13)), .ow (hdD 13), .ow (chD 13), .va (.int sh), .ow (fourR sh rv), .un] := fun s p f sh rv h => match sh, h with
  | 0, _ => by cases rv <;> kernel_rfl
  | 1, _ => by cases rv <;> kernel_rfl
  | 2, _ => by cases rv <;> kernel_rfl
  | 3, _ => by cases rv <;> kernel_rfl
  | n + 4, h => absurd h (by omega)
theorem F_13 : ∀ s p f s9 s10 : Slot, finK (GF [s, .bo (Rw 13), p, .va (.bl (due 13)), .va (.int 3), f, .va (.bl (due 13)), .ow (hdD 13), .ow (chD 13), s9, s10, .un]) = some s := fun s p f s9 s10 => by kernel_rfl
theorem R_14 : F__law_row [.va (.int (14 : Nat))] = .rt true (Rw 14) [.un] := by kernel_rfl
theorem G_14 : F_is_good [.bo (Rw 14)] = .rt false (.bl (due 14)) [.un] := by kernel_rfl
theorem A_14 : ∀ s p : Slot, GA [s, .bo (Rw 14), p, .un, .un, .un, .un, .un, .un, .un, .un, .un] = .nx [s, .bo (Rw 14), p, .va (.bl (due 14)), .va (.int 3), .un, .un, .un, .un, .un, .un, .un] := fun s p => by kernel_rfl
theorem B_14 : ∀ s : Slot, ∀ q : Bool, GB [s, .bo (Rw 14), .va (.bl q), .va (.bl (due 14)), .va (.int 3), .un, .un, .un, .un, .un, .un, .un] = .nx [s, .bo (Rw 14), .va (.bl q), .va (.bl (due 14)), .va (.int 3), frm q 14, .va (.bl (due 14)), .un, .un, .un, .un, .un] := fun s q => by cases q <;> kernel_rfl
theorem C_14 : ∀ s p f : Slot, GC [s, .bo (Rw 14), p, .va (.bl (due 14)), .va (.int 3), f, .va (.bl (due 14)), .un, .un, .un, .un, .un] = .nx [s, .bo (Rw 14), p, .va (.bl (due 14)), .va (.int 3), f, .va (.bl (due 14)), .ow (hdD 14), .ow (chD 14), .un, .un, .un] := fun s p f => by kernel_rfl
theorem E_14 : ∀ s p f : Slot, ∀ sh : Nat, ∀ rv : Bool, sh < 4 → g__law_kept_15 [s, .bo (Rw 14), p, .va (.bl (due 14)), .va (.int 3), f, .va (.bl (due 14)), .ow (hdD 14), .ow (chD 14), .va (.int sh), .ow (fourR sh rv), .un] = .nx [s, .bo (Rw 14), p, .va (.bl (due 14)), .va (.int 3), f, .va (.bl (due 14)), .ow (hdD 14), .ow (chD 14), .va (.int sh), .ow (fourR sh rv), .un] := fun s p f sh rv h => match sh, h with
  | 0, _ => by cases rv <;> kernel_rfl
  | 1, _ => by cases rv <;> kernel_rfl
  | 2, _ => by cases rv <;> kernel_rfl
  | 3, _ => by cases rv <;> kernel_rfl
  | n + 4, h => absurd h (by omega)
theorem F_14 : ∀ s p f s9 s10 : Slot, finK (GF [s, .bo (Rw 14), p, .va (.bl (due 14)), .va (.int 3), f, .va (.bl (due 14)), .ow (hdD 14), .ow (chD 14), s9, s10, .un]) = some s := fun s p f s9 s10 => by kernel_rfl
theorem R_15 : F__law_row [.va (.int (15 : Nat))] = .rt true (Rw 15) [.un] := by kernel_rfl
theorem G_15 : F_is_good [.bo (Rw 15)] = .rt false (.bl (due 15)) [.un] := by kernel_rfl
theorem A_15 : ∀ s p : Slot, GA [s, .bo (Rw 15), p, .un, .un, .un, .un, .un, .un, .un, .un, .un] = .nx [s, .bo (Rw 15), p, .va (.bl (due 15)), .va (.int 3), .un, .un, .un, .un, .un, .un, .un] := fun s p => by kernel_rfl
theorem B_15 : ∀ s : Slot, ∀ q : Bool, GB [s, .bo (Rw 15), .va (.bl q), .va (.bl (due 15)), .va (.int 3), .un, .un, .un, .un, .un, .un, .un] = .nx [s, .bo (Rw 15), .va (.bl q), .va (.bl (due 15)), .va (.int 3), frm q 15, .va (.bl (due 15)), .un, .un, .un, .un, .un] := fun s q => by cases q <;> kernel_rfl
theorem C_15 : ∀ s p f : Slot, GC [s, .bo (Rw 15), p, .va (.bl (due 15)), .va (.int 3), f, .va (.bl (due 15)), .un, .un, .un, .un, .un] = .nx [s, .bo (Rw 15), p, .va (.bl (due 15)), .va (.int 3), f, .va (.bl (due 15)), .ow (hdD 15), .ow (chD 15), .un, .un, .un] := fun s p f => by kernel_rfl
theorem E_15 : ∀ s p f : Slot, ∀ sh : Nat, ∀ rv : Bool, sh < 4 → g__law_kept_15 [s, .bo (Rw 15), p, .va (.bl (due 15)), .va (.int 3), f, .va (.bl (due 15)), .ow (hdD 15), .ow (chD 15), .va (.int sh), .ow (fourR sh rv), .un] = .nx [s, .bo (Rw 15), p, .va (.bl (due 15)), .va (.int 3), f, .va (.bl (due 15)), .ow (hdD 15), .ow (chD 15), .va (.int sh), .ow (fourR sh rv), .un] := fun s p f sh rv h => match sh, h with
  | 0, _ => by cases rv <;> kernel_rfl
  | 1, _ => by cases rv <;> kernel_rfl
  | 2, _ => by cases rv <;> kernel_rfl
  | 3, _ => by cases rv <;> kernel_rfl
  | n + 4, h => absurd h (by omega)
theorem F_15 : ∀ s p f s9 s10 : Slot, finK (GF [s, .bo (Rw 15), p, .va (.bl (due 15)), .va (.int 3), f, .va (.bl (due 15)), .ow (hdD 15), .ow (chD 15), s9, s10, .un]) = some s := fun s p f s9 s10 => by kernel_rfl
theorem R_16 : F__law_row [.va (.int (16 : Nat))] = .rt true (Rw 16) [.un] := by kernel_rfl
theorem G_16 : F_is_good [.bo (Rw 16)] = .rt false (.bl (due 16)) [.un] := by kernel_rfl
theorem A_16 : ∀ s p : Slot, GA [s, .bo (Rw 16), p, .un, .un, .un, .un, .un, .un, .un, .un, .un] = .nx [s, .bo (Rw 16), p, .va (.bl (due 16)), .va (.int 3), .un, .un, .un, .un, .un, .un, .un] := fun s p => by kernel_rfl
theorem B_16 : ∀ s : Slot, ∀ q : Bool, GB [s, .bo (Rw 16), .va (.bl q), .va (.bl (due 16)), .va (.int 3), .un, .un, .un, .un, .un, .un, .un] = .nx [s, .bo (Rw 16), .va (.bl q), .va (.bl (due 16)), .va (.int 3), frm q 16, .va (.bl (due 16)), .un, .un, .un, .un, .un] := fun s q => by cases q <;> kernel_rfl
theorem C_16 : ∀ s p f : Slot, GC [s, .bo (Rw 16), p, .va (.bl (due 16)), .va (.int 3), f, .va (.bl (due 16)), .un, .un, .un, .un, .un] = .nx [s, .bo (Rw 16), p, .va (.bl (due 16)), .va (.int 3), f, .va (.bl (due 16)), .ow (hdD 16), .ow (chD 16), .un, .un, .un] := fun s p f => by kernel_rfl
theorem E_16 : ∀ s p f : Slot, ∀ sh : Nat, ∀ rv : Bool, sh < 4 → g__law_kept_15 [s, .bo (Rw 16), p, .va (.bl (due 16)), .va (.int 3), f, .va (.bl (due 16)), .ow (hdD 16), .ow (chD 16), .va (.int sh), .ow (fourR sh rv), .un] = .nx [s, .bo (Rw 16), p, .va (.bl (due 16)), .va (.int 3), f, .va (.bl (due 16)), .ow (hdD 16), .ow (chD 16), .va (.int sh), .ow (fourR sh rv), .un] := fun s p f sh rv h => match sh, h with
  | 0, _ => by cases rv <;> kernel_rfl
  | 1, _ => by cases rv <;> kernel_rfl
  | 2, _ => by cases rv <;> kernel_rfl
  | 3, _ => by cases rv <;> kernel_rfl
  | n + 4, h => absurd h (by omega)
theorem F_16 : ∀ s p f s9 s10 : Slot, finK (GF [s, .bo (Rw 16), p, .va (.bl (due 16)), .va (.int 3), f, .va (.bl (due 16)), .ow (hdD 16), .ow (chD 16), s9, s10, .un]) = some s := fun s p f s9 s10 => by kernel_rfl
theorem R_17 : F__law_row [.va (.int (17 : Nat))] = .rt true (Rw 17) [.un] := by kernel_rfl
theorem G_17 : F_is_good [.bo (Rw 17)] = .rt false (.bl (due 17)) [.un] := by kernel_rfl
theorem A_17 : ∀ s p : Slot, GA [s, .bo (Rw 17), p, .un, .un, .un, .un, .un, .un, .un, .un, .un] = .nx [s, .bo (Rw 17), p, .va (.bl (due 17)), .va (.int 3), .un, .un, .un, .un, .un, .un, .un] := fun s p => by kernel_rfl
theorem B_17 : ∀ s : Slot, ∀ q : Bool, GB [s, .bo (Rw 17), .va (.bl q), .va (.bl (due 17)), .va (.int 3), .un, .un, .un, .un, .un, .un, .un] = .nx [s, .bo (Rw 17), .va (.bl q), .va (.bl (due 17)), .va (.int 3), frm q 17, .va (.bl (due 17)), .un, .un, .un, .un, .un] := fun s q => by cases q <;> kernel_rfl
theorem C_17 : ∀ s p f : Slot, GC [s, .bo (Rw 17), p, .va (.bl (due 17)), .va (.int 3), f, .va (.bl (due 17)), .un, .un, .un, .un, .un] = .nx [s, .bo (Rw 17), p, .va (.bl (due 17)), .va (.int 3), f, .va (.bl (due 17)), .ow (hdD 17), .ow (chD 17), .un, .un, .un] := fun s p f => by kernel_rfl
theorem E_17 : ∀ s p f : Slot, ∀ sh : Nat, ∀ rv : Bool, sh < 4 → g__law_kept_15 [s, .bo (Rw 17), p, .va (.bl (due 17)), .va (.int 3), f, .va (.bl (due 17)), .ow (hdD 17), .ow (chD 17), .va (.int sh), .ow (fourR sh rv), .un] = .nx [s, .bo (Rw 17), p, .va (.bl (due 17)), .va (.int 3), f, .va (.bl (due 17)), .ow (hdD 17), .ow (chD 17), .va (.int sh), .ow (fourR sh rv), .un] := fun s p f sh rv h => match sh, h with
  | 0, _ => by cases rv <;> kernel_rfl
  | 1, _ => by cases rv <;> kernel_rfl
  | 2, _ => by cases rv <;> kernel_rfl
  | 3, _ => by cases rv <;> kernel_rfl
  | n + 4, h => absurd h (by omega)
theorem F_17 : ∀ s p f s9 s10 : Slot, finK (GF [s, .bo (Rw 17), p, .va (.bl (due 17)), .va (.int 3), f, .va (.bl (due 17)), .ow (hdD 17), .ow (chD 17), s9, s10, .un]) = some s := fun s p f s9 s10 => by kernel_rfl
theorem R_18 : F__law_row [.va (.int (18 : Nat))] = .rt true (Rw 18) [.un] := by kernel_rfl
theorem G_18 : F_is_good [.bo (Rw 18)] = .rt false (.bl (due 18)) [.un] := by kernel_rfl
theorem A_18 : ∀ s p : Slot, GA [s, .bo (Rw 18), p, .un, .un, .un, .un, .un, .un, .un, .un, .un] = .nx [s, .bo (Rw 18), p, .va (.bl (due 18)), .va (.int 3), .un, .un, .un, .un, .un, .un, .un] := fun s p => by kernel_rfl
theorem B_18 : ∀ s : Slot, ∀ q : Bool, GB [s, .bo (Rw 18), .va (.bl q), .va (.bl (due 18)), .va (.int 3), .un, .un, .un, .un, .un, .un, .un] = .nx [s, .bo (Rw 18), .va (.bl q), .va (.bl (due 18)), .va (.int 3), frm q 18, .va (.bl (due 18)), .un, .un, .un, .un, .un] := fun s q => by cases q <;> kernel_rfl
theorem C_18 : ∀ s p f : Slot, GC [s, .bo (Rw 18), p, .va (.bl (due 18)), .va (.int 3), f, .va (.bl (due 18)), .un, .un, .un, .un, .un] = .nx [s, .bo (Rw 18), p, .va (.bl (due 18)), .va (.int 3), f, .va (.bl (due 18)), .ow (hdD 18), .ow (chD 18), .un, .un, .un] := fun s p f => by kernel_rfl
theorem E_18 : ∀ s p f : Slot, ∀ sh : Nat, ∀ rv : Bool, sh < 4 → g__law_kept_15 [s, .bo (Rw 18), p, .va (.bl (due 18)), .va (.int 3), f, .va (.bl (due 18)), .ow (hdD 18), .ow (chD 18), .va (.int sh), .ow (fourR sh rv), .un] = .nx [s, .bo (Rw 18), p, .va (.bl (due 18)), .va (.int 3), f, .va (.bl (due 18)), .ow (hdD 18), .ow (chD 18), .va (.int sh), .ow (fourR sh rv), .un] := fun s p f sh rv h => match sh, h with
  | 0, _ => by cases rv <;> kernel_rfl
  | 1, _ => by cases rv <;> kernel_rfl
  | 2, _ => by cases rv <;> kernel_rfl
  | 3, _ => by cases rv <;> kernel_rfl
  | n + 4, h => absurd h (by omega)
theorem F_18 : ∀ s p f s9 s10 : Slot, finK (GF [s, .bo (Rw 18), p, .va (.bl (due 18)), .va (.int 3), f, .va (.bl (due 18)), .ow (hdD 18), .ow (chD 18), s9, s10, .un]) = some s := fun s p f s9 s10 => by kernel_rfl
theorem R_19 : F__law_row [.va (.int (19 : Nat))] = .rt true (Rw 19) [.un] := by kernel_rfl
theorem G_19 : F_is_good [.bo (Rw 19)] = .rt false (.bl (due 19)) [.un] := by kernel_rfl
theorem A_19 : ∀ s p : Slot, GA [s, .bo (Rw 19), p, .un, .un, .un, .un, .un, .un, .un, .un, .un] = .nx [s, .bo (Rw 19), p, .va (.bl (due 19)), .va (.int 3), .un, .un, .un, .un, .un, .un, .un] := fun s p => by kernel_rfl
theorem B_19 : ∀ s : Slot, ∀ q : Bool, GB [s, .bo (Rw 19), .va (.bl q), .va (.bl (due 19)), .va (.int 3), .un, .un, .un, .un, .un, .un, .un] = .nx [s, .bo (Rw 19), .va (.bl q), .va (.bl (due 19)), .va (.int 3), frm q 19, .va (.bl (due 19)), .un, .un, .un, .un, .un] := fun s q => by cases q <;> kernel_rfl
theorem C_19 : ∀ s p f : Slot, GC [s, .bo (Rw 19), p, .va (.bl (due 19)), .va (.int 3), f, .va (.bl (due 19)), .un, .un, .un, .un, .un] = .nx [s, .bo (Rw 19), p, .va (.bl (due 19)), .va (.int 3), f, .va (.bl (due 19)), .ow (hdD 19), .ow (chD 19), .un, .un, .un] := fun s p f => by kernel_rfl
theorem E_19 : ∀ s p f : Slot, ∀ sh : Nat, ∀ rv : Bool, sh < 4 → g__law_kept_15 [s, .bo (Rw 19), p, .va (.bl (due 19)), .va (.int 3), f, .va (.bl (due 19)), .ow (hdD 19), .ow (chD 19), .va (.int sh), .ow (fourR sh rv), .un] = .nx [s, .bo (Rw 19), p, .va (.bl (due 19)), .va (.int 3), f, .va (.bl (due 19)), .ow (hdD 19), .ow (chD 19), .va (.int sh), .ow (fourR sh rv), .un] := fun s p f sh rv h => match sh, h with
  | 0, _ => by cases rv <;> kernel_rfl
  | 1, _ => by cases rv <;> kernel_rfl
  | 2, _ => by cases rv <;> kernel_rfl
  | 3, _ => by cases rv <;> kernel_rfl
  | n + 4, h => absurd h (by omega)
theorem F_19 : ∀ s p f s9 s10 : Slot, finK (GF [s, .bo (Rw 19), p, .va (.bl (due 19)), .va (.int 3), f, .va (.bl (due 19)), .ow (hdD 19), .ow (chD 19), s9, s10, .un]) = some s := fun s p f s9 s10 => by kernel_rfl
theorem R_20 : F__law_row [.va (.int (20 : Nat))] = .rt true (Rw 20) [.un] := by kernel_rfl
theorem G_20 : F_is_good [.bo (Rw 20)] = .rt false (.bl (due 20)) [.un] := by kernel_rfl
theorem A_20 : ∀ s p : Slot, GA [s, .bo (Rw 20), p, .un, .un, .un, .un, .un, .un, .un, .un, .un] = .nx [s, .bo (Rw 20), p, .va (.bl (due 20)), .va (.int 3), .un, .un, .un, .un, .un, .un, .un] := fun s p => by kernel_rfl
theorem B_20 : ∀ s : Slot, ∀ q : Bool, GB [s, .bo (Rw 20), .va (.bl q), .va (.bl (due 20)), .va (.int 3), .un, .un, .un, .un, .un, .un, .un] = .nx [s, .bo (Rw 20), .va (.bl q), .va (.bl (due 20)), .va (.int 3), frm q 20, .va (.bl (due 20)), .un, .un, .un, .un, .un] := fun s q => by cases q <;> kernel_rfl
theorem C_20 : ∀ s p f : Slot, GC [s, .bo (Rw 20), p, .va (.bl (due 20)), .va (.int 3), f, .va (.bl (due 20)), .un, .un, .un, .un, .un] = .nx [s, .bo (Rw 20), p, .va (.bl (due 20)), .va (.int 3), f, .va (.bl (due 20)), .ow (hdD 20), .ow (chD 20), .un, .un, .un] := fun s p f => by kernel_rfl
theorem E_20 : ∀ s p f : Slot, ∀ sh : Nat, ∀ rv : Bool, sh < 4 → g__law_kept_15 [s, .bo (Rw 20), p, .va (.bl (due 20)), .va (.int 3), f, .va (.bl (due 20)), .ow (hdD 20), .ow (chD 20), .va (.int sh), .ow (fourR sh rv), .un] = .nx [s, .bo (Rw 20), p, .va (.bl (due 20)), .va (.int 3), f, .va (.bl (due 20)), .ow (hdD 20), .ow (chD 20), .va (.int sh), .ow (fourR sh rv), .un] := fun s p f sh rv h => match sh, h with
  | 0, _ => by cases rv <;> kernel_rfl
  | 1, _ => by cases rv <;> kernel_rfl
  | 2, _ => by cases rv <;> kernel_rfl
  | 3, _ => by cases rv <;> kernel_rfl
  | n + 4, h => absurd h (by omega)
theorem F_20 : ∀ s p f s9 s10 : Slot, finK (GF [s, .bo (Rw 20), p, .va (.bl (due 20)), .va (.int 3), f, .va (.bl (due 20)), .ow (hdD 20), .ow (chD 20), s9, s10, .un]) = some s := fun s p f s9 s10 => by kernel_rfl
theorem R_21 : F__law_row [.va (.int (21 : Nat))] = .rt true (Rw 21) [.un] := by kernel_rfl
theorem G_21 : F_is_good [.bo (Rw 21)] = .rt false (.bl (due 21)) [.un] := by kernel_rfl
theorem A_21 : ∀ s p : Slot, GA [s, .bo (Rw 21), p, .un, .un, .un, .un, .un, .un, .un, .un, .un] = .nx [s, .bo (Rw 21), p, .va (.bl (due 21)), .va (.int 3), .un, .un, .un, .un, .un, .un, .un] := fun s p => by kernel_rfl
theorem B_21 : ∀ s : Slot, ∀ q : Bool, GB [s, .bo (Rw 21), .va (.bl q), .va (.bl (due 21)), .va (.int 3), .un, .un, .un, .un, .un, .un, .un] = .nx [s, .bo (Rw 21), .va (.bl q), .va (.bl (due 21)), .va (.int 3), frm q 21, .va (.bl (due 21)), .un, .un, .un, .un, .un] := fun s q => by cases q <;> kernel_rfl
theorem C_21 : ∀ s p f : Slot, GC [s, .bo (Rw 21), p, .va (.bl (due 21)), .va (.int 3), f, .va (.bl (due 21)), .un, .un, .un, .un, .un] = .nx [s, .bo (Rw 21), p, .va (.bl (due 21)), .va (.int 3), f, .va (.bl (due 21)), .ow (hdD 21), .ow (chD 21), .un, .un, .un] := fun s p f => by kernel_rfl
theorem E_21 : ∀ s p f : Slot, ∀ sh : Nat, ∀ rv : Bool, sh < 4 → g__law_kept_15 [s, .bo (Rw 21), p, .va (.bl (due 21)), .va (.int 3), f, .va (.bl (due 21)), .ow (hdD 21), .ow (chD 21), .va (.int sh), .ow (fourR sh rv), .un] = .nx [s, .bo (Rw 21), p, .va (.bl (due 21)), .va (.int 3), f, .va (.bl (due 21)), .ow (hdD 21), .ow (chD 21), .va (.int sh), .ow (fourR sh rv), .un] := fun s p f sh rv h => match sh, h with
  | 0, _ => by cases rv <;> kernel_rfl
  | 1, _ => by cases rv <;> kernel_rfl
  | 2, _ => by cases rv <;> kernel_rfl
  | 3, _ => by cases rv <;> kernel_rfl
  | n + 4, h => absurd h (by omega)
theorem F_21 : ∀ s p f s9 s10 : Slot, finK (GF [s, .bo (Rw 21), p, .va (.bl (due 21)), .va (.int 3), f, .va (.bl (due 21)), .ow (hdD 21), .ow (chD 21), s9, s10, .un]) = some s := fun s p f s9 s10 => by kernel_rfl
theorem R_22 : F__law_row [.va (.int (22 : Nat))] = .rt true (Rw 22) [.un] := by kernel_rfl
theorem G_22 : F_is_good [.bo (Rw 22)] = .rt false (.bl (due 22)) [.un] := by kernel_rfl
theorem A_22 : ∀ s p : Slot, GA [s, .bo (Rw 22), p, .un, .un, .un, .un, .un, .un, .un, .un, .un] = .nx [s, .bo (Rw 22), p, .va (.bl (due 22)), .va (.int 3), .un, .un, .un, .un, .un, .un, .un] := fun s p => by kernel_rfl
theorem B_22 : ∀ s : Slot, ∀ q : Bool, GB [s, .bo (Rw 22), .va (.bl q), .va (.bl (due 22)), .va (.int 3), .un, .un, .un, .un, .un, .un, .un] = .nx [s, .bo (Rw 22), .va (.bl q), .va (.bl (due 22)), .va (.int 3), frm q 22, .va (.bl (due 22)), .un, .un, .un, .un, .un] := fun s q => by cases q <;> kernel_rfl
theorem C_22 : ∀ s p f : Slot, GC [s, .bo (Rw 22), p, .va (.bl (due 22)), .va (.int 3), f, .va (.bl (due 22)), .un, .un, .un, .un, .un] = .nx [s, .bo (Rw 22), p, .va (.bl (due 22)), .va (.int 3), f, .va (.bl (due 22)), .ow (hdD 22), .ow (chD 22), .un, .un, .un] := fun s p f => by kernel_rfl
theorem E_22 : ∀ s p f : Slot, ∀ sh : Nat, ∀ rv : Bool, sh < 4 → g__law_kept_15 [s, .bo (Rw 22), p, .va (.bl (due 22)), .va (.int 3), f, .va (.bl (due 22)), .ow (hdD 22), .ow (chD 22), .va (.int sh), .ow (fourR sh rv), .un] = .nx [s, .bo (Rw 22), p, .va (.bl (due 22)), .va (.int 3), f, .va (.bl (due 22)), .ow (hdD 22), .ow (chD 22), .va (.int sh), .ow (fourR sh rv), .un] := fun s p f sh rv h => match sh, h with
  | 0, _ => by cases rv <;> kernel_rfl
  | 1, _ => by cases rv <;> kernel_rfl
  | 2, _ => by cases rv <;> kernel_rfl
  | 3, _ => by cases rv <;> kernel_rfl
  | n + 4, h => absurd h (by omega)
theorem F_22 : ∀ s p f s9 s10 : Slot, finK (GF [s, .bo (Rw 22), p, .va (.bl (due 22)), .va (.int 3), f, .va (.bl (due 22)), .ow (hdD 22), .ow (chD 22), s9, s10, .un]) = some s := fun s p f s9 s10 => by kernel_rfl
theorem R_23 : F__law_row [.va (.int (23 : Nat))] = .rt true (Rw 23) [.un] := by kernel_rfl
theorem G_23 : F_is_good [.bo (Rw 23)] = .rt false (.bl (due 23)) [.un] := by kernel_rfl
theorem A_23 : ∀ s p : Slot, GA [s, .bo (Rw 23), p, .un, .un, .un, .un, .un, .un, .un, .un, .un] = .nx [s, .bo (Rw 23), p, .va (.bl (due 23)), .va (.int 3), .un, .un, .un, .un, .un, .un, .un] := fun s p => by kernel_rfl
theorem B_23 : ∀ s : Slot, ∀ q : Bool, GB [s, .bo (Rw 23), .va (.bl q), .va (.bl (due 23)), .va (.int 3), .un, .un, .un, .un, .un, .un, .un] = .nx [s, .bo (Rw 23), .va (.bl q), .va (.bl (due 23)), .va (.int 3), frm q 23, .va (.bl (due 23)), .un, .un, .un, .un, .un] := fun s q => by cases q <;> kernel_rfl
theorem C_23 : ∀ s p f : Slot, GC [s, .bo (Rw 23), p, .va (.bl (due 23)), .va (.int 3), f, .va (.bl (due 23)), .un, .un, .un, .un, .un] = .nx [s, .bo (Rw 23), p, .va (.bl (due 23)), .va (.int 3), f, .va (.bl (due 23)), .ow (hdD 23), .ow (chD 23), .un, .un, .un] := fun s p f => by kernel_rfl
theorem E_23 : ∀ s p f : Slot, ∀ sh : Nat, ∀ rv : Bool, sh < 4 → g__law_kept_15 [s, .bo (Rw 23), p, .va (.bl (due 23)), .va (.int 3), f, .va (.bl (due 23)), .ow (hdD 23), .ow (chD 23), .va (.int sh), .ow (fourR sh rv), .un] = .nx [s, .bo (Rw 23), p, .va (.bl (due 23)), .va (.int 3), f, .va (.bl (due 23)), .ow (hdD 23), .ow (chD 23), .va (.int sh), .ow (fourR sh rv), .un] := fun s p f sh rv h => match sh, h with
  | 0, _ => by cases rv <;> kernel_rfl
  | 1, _ => by cases rv <;> kernel_rfl
  | 2, _ => by cases rv <;> kernel_rfl
  | 3, _ => by cases rv <;> kernel_rfl
  | n + 4, h => absurd h (by omega)
theorem F_23 : ∀ s p f s9 s10 : Slot, finK (GF [s, .bo (Rw 23), p, .va (.bl (due 23)), .va (.int 3), f, .va (.bl (due 23)), .ow (hdD 23), .ow (chD 23), s9, s10, .un]) = some s := fun s p f s9 s10 => by kernel_rfl
theorem R_24 : F__law_row [.va (.int (24 : Nat))] = .rt true (Rw 24) [.un] := by kernel_rfl
theorem G_24 : F_is_good [.bo (Rw 24)] = .rt false (.bl (due 24)) [.un] := by kernel_rfl
theorem A_24 : ∀ s p : Slot, GA [s, .bo (Rw 24), p, .un, .un, .un, .un, .un, .un, .un, .un, .un] = .nx [s, .bo (Rw 24), p, .va (.bl (due 24)), .va (.int 3), .un, .un, .un, .un, .un, .un, .un] := fun s p => by kernel_rfl
theorem B_24 : ∀ s : Slot, ∀ q : Bool, GB [s, .bo (Rw 24), .va (.bl q), .va (.bl (due 24)), .va (.int 3), .un, .un, .un, .un, .un, .un, .un] = .nx [s, .bo (Rw 24), .va (.bl q), .va (.bl (due 24)), .va (.int 3), frm q 24, .va (.bl (due 24)), .un, .un, .un, .un, .un] := fun s q => by cases q <;> kernel_rfl
theorem C_24 : ∀ s p f : Slot, GC [s, .bo (Rw 24), p, .va (.bl (due 24)), .va (.int 3), f, .va (.bl (due 24)), .un, .un, .un, .un, .un] = .nx [s, .bo (Rw 24), p, .va (.bl (due 24)), .va (.int 3), f, .va (.bl (due 24)), .ow (hdD 24), .ow (chD 24), .un, .un, .un] := fun s p f => by kernel_rfl
theorem E_24 : ∀ s p f : Slot, ∀ sh : Nat, ∀ rv : Bool, sh < 4 → g__law_kept_15 [s, .bo (Rw 24), p, .va (.bl (due 24)), .va (.int 3), f, .va (.bl (due 24)), .ow (hdD 24), .ow (chD 24), .va (.int sh), .ow (fourR sh rv), .un] = .nx [s, .bo (Rw 24), p, .va (.bl (due 24)), .va (.int 3), f, .va (.bl (due 24)), .ow (hdD 24), .ow (chD 24), .va (.int sh), .ow (fourR sh rv), .un] := fun s p f sh rv h => match sh, h with
  | 0, _ => by cases rv <;> kernel_rfl
  | 1, _ => by cases rv <;> kernel_rfl
  | 2, _ => by cases rv <;> kernel_rfl
  | 3, _ => by cases rv <;> kernel_rfl
  | n + 4, h => absurd h (by omega)
theorem F_24 : ∀ s p f s9 s10 : Slot, finK (GF [s, .bo (Rw 24), p, .va (.bl (due 24)), .va (.int 3), f, .va (.bl (due 24)), .ow (hdD 24), .ow (chD 24), s9, s10, .un]) = some s := fun s p f s9 s10 => by kernel_rfl
theorem R_25 : F__law_row [.va (.int (25 : Nat))] = .rt true (Rw 25) [.un] := by kernel_rfl
theorem G_25 : F_is_good [.bo (Rw 25)] = .rt false (.bl (due 25)) [.un] := by kernel_rfl
theorem A_25 : ∀ s p : Slot, GA [s, .bo (Rw 25), p, .un, .un, .un, .un, .un, .un, .un, .un, .un] = .nx [s, .bo (Rw 25), p, .va (.bl (due 25)), .va (.int 3), .un, .un, .un, .un, .un, .un, .un] := fun s p => by kernel_rfl
theorem B_25 : ∀ s : Slot, ∀ q : Bool, GB [s, .bo (Rw 25), .va (.bl q), .va (.bl (due 25)), .va (.int 3), .un, .un, .un, .un, .un, .un, .un] = .nx [s, .bo (Rw 25), .va (.bl q), .va (.bl (due 25)), .va (.int 3), frm q 25, .va (.bl (due 25)), .un, .un, .un, .un, .un] := fun s q => by cases q <;> kernel_rfl
theorem C_25 : ∀ s p f : Slot, GC [s, .bo (Rw 25), p, .va (.bl (due 25)), .va (.int 3), f, .va (.bl (due 25)), .un, .un, .un, .un, .un] = .nx [s, .bo (Rw 25), p, .va (.bl (due 25)), .va (.int 3), f, .va (.bl (due 25)), .ow (hdD 25), .ow (chD 25), .un, .un, .un] := fun s p f => by kernel_rfl
theorem E_25 : ∀ s p f : Slot, ∀ sh : Nat, ∀ rv : Bool, sh < 4 → g__law_kept_15 [s, .bo (Rw 25), p, .va (.bl (due 25)), .va (.int 3), f, .va (.bl (due 25)), .ow (hdD 25), .ow (chD 25), .va (.int sh), .ow (fourR sh rv), .un] = .nx [s, .bo (Rw 25), p, .va (.bl (due 25)), .va (.int 3), f, .va (.bl (due 25)), .ow (hdD 25), .ow (chD 25), .va (.int sh), .ow (fourR sh rv), .un] := fun s p f sh rv h => match sh, h with
  | 0, _ => by cases rv <;> kernel_rfl
  | 1, _ => by cases rv <;> kernel_rfl
  | 2, _ => by cases rv <;> kernel_rfl
  | 3, _ => by cases rv <;> kernel_rfl
  | n + 4, h => absurd h (by omega)
theorem F_25 : ∀ s p f s9 s10 : Slot, finK (GF [s, .bo (Rw 25), p, .va (.bl (due 25)), .va (.int 3), f, .va (.bl (due 25)), .ow (hdD 25), .ow (chD 25), s9, s10, .un]) = some s := fun s p f s9 s10 => by kernel_rfl
theorem R_26 : F__law_row [.va (.int (26 : Nat))] = .rt true (Rw 26) [.un] := by kernel_rfl
theorem G_26 : F_is_good [.bo (Rw 26)] = .rt false (.bl (due 26)) [.un] := by kernel_rfl
theorem A_26 : ∀ s p : Slot, GA [s, .bo (Rw 26), p, .un, .un, .un, .un, .un, .un, .un, .un, .un] = .nx [s, .bo (Rw 26), p, .va (.bl (due 26)), .va (.int 3), .un, .un, .un, .un, .un, .un, .un] := fun s p => by kernel_rfl
theorem B_26 : ∀ s : Slot, ∀ q : Bool, GB [s, .bo (Rw 26), .va (.bl q), .va (.bl (due 26)), .va (.int 3), .un, .un, .un, .un, .un, .un, .un] = .nx [s, .bo (Rw 26), .va (.bl q), .va (.bl (due 26)), .va (.int 3), frm q 26, .va (.bl (due 26)), .un, .un, .un, .un, .un] := fun s q => by cases q <;> kernel_rfl
theorem C_26 : ∀ s p f : Slot, GC [s, .bo (Rw 26), p, .va (.bl (due 26)), .va (.int 3), f, .va (.bl (due 26)), .un, .un, .un, .un, .un] = .nx [s, .bo (Rw 26), p, .va (.bl (due 26)), .va (.int 3), f, .va (.bl (due 26)), .ow (hdD 26), .ow (chD 26), .un, .un, .un] := fun s p f => by kernel_rfl
theorem E_26 : ∀ s p f : Slot, ∀ sh : Nat, ∀ rv : Bool, sh < 4 → g__law_kept_15 [s, .bo (Rw 26), p, .va (.bl (due 26)), .va (.int 3), f, .va (.bl (due 26)), .ow (hdD 26), .ow (chD 26), .va (.int sh), .ow (fourR sh rv), .un] = .nx [s, .bo (Rw 26), p, .va (.bl (due 26)), .va (.int 3), f, .va (.bl (due 26)), .ow (hdD 26), .ow (chD 26), .va (.int sh), .ow (fourR sh rv), .un] := fun s p f sh rv h => match sh, h with
  | 0, _ => by cases rv <;> kernel_rfl
  | 1, _ => by cases rv <;> kernel_rfl
  | 2, _ => by cases rv <;> kernel_rfl
  | 3, _ => by cases rv <;> kernel_rfl
  | n + 4, h => absurd h (by omega)
theorem F_26 : ∀ s p f s9 s10 : Slot, finK (GF [s, .bo (Rw 26), p, .va (.bl (due 26)), .va (.int 3), f, .va (.bl (due 26)), .ow (hdD 26), .ow (chD 26), s9, s10, .un]) = some s := fun s p f s9 s10 => by kernel_rfl
theorem R_27 : F__law_row [.va (.int (27 : Nat))] = .rt true (Rw 27) [.un] := by kernel_rfl
theorem G_27 : F_is_good [.bo (Rw 27)] = .rt false (.bl (due 27)) [.un] := by kernel_rfl
theorem A_27 : ∀ s p : Slot, GA [s, .bo (Rw 27), p, .un, .un, .un, .un, .un, .un, .un, .un, .un] = .nx [s, .bo (Rw 27), p, .va (.bl (due 27)), .va (.int 3), .un, .un, .un, .un, .un, .un, .un] := fun s p => by kernel_rfl
theorem B_27 : ∀ s : Slot, ∀ q : Bool, GB [s, .bo (Rw 27), .va (.bl q), .va (.bl (due 27)), .va (.int 3), .un, .un, .un, .un, .un, .un, .un] = .nx [s, .bo (Rw 27), .va (.bl q), .va (.bl (due 27)), .va (.int 3), frm q 27, .va (.bl (due 27)), .un, .un, .un, .un, .un] := fun s q => by cases q <;> kernel_rfl
theorem C_27 : ∀ s p f : Slot, GC [s, .bo (Rw 27), p, .va (.bl (due 27)), .va (.int 3), f, .va (.bl (due 27)), .un, .un, .un, .un, .un] = .nx [s, .bo (Rw 27), p, .va (.bl (due 27)), .va (.int 3), f, .va (.bl (due 27)), .ow (hdD 27), .ow (chD 27), .un, .un, .un] := fun s p f => by kernel_rfl
theorem E_27 : ∀ s p f : Slot, ∀ sh : Nat, ∀ rv : Bool, sh < 4 → g__law_kept_15 [s, .bo (Rw 27), p, .va (.bl (due 27)), .va (.int 3), f, .va (.bl (due 27)), .ow (hdD 27), .ow (chD 27), .va (.int sh), .ow (fourR sh rv), .un] = .nx [s, .bo (Rw 27), p, .va (.bl (due 27)), .va (.int 3), f, .va (.bl (due 27)), .ow (hdD 27), .ow (chD 27), .va (.int sh), .ow (fourR sh rv), .un] := fun s p f sh rv h => match sh, h with
  | 0, _ => by cases rv <;> kernel_rfl
  | 1, _ => by cases rv <;> kernel_rfl
  | 2, _ => by cases rv <;> kernel_rfl
  | 3, _ => by cases rv <;> kernel_rfl
  | n + 4, h => absurd h (by omega)
theorem F_27 : ∀ s p f s9 s10 : Slot, finK (GF [s, .bo (Rw 27), p, .va (.bl (due 27)), .va (.int 3), f, .va (.bl (due 27)), .ow (hdD 27), .ow (chD 27), s9, s10, .un]) = some s := fun s p f s9 s10 => by kernel_rfl
theorem R_28 : F__law_row [.va (.int (28 : Nat))] = .rt true (Rw 28) [.un] := by kernel_rfl
theorem G_28 : F_is_good [.bo (Rw 28)] = .rt false (.bl (due 28)) [.un] := by kernel_rfl
theorem A_28 : ∀ s p : Slot, GA [s, .bo (Rw 28), p, .un, .un, .un, .un, .un, .un, .un, .un, .un] = .nx [s, .bo (Rw 28), p, .va (.bl (due 28)), .va (.int 3), .un, .un, .un, .un, .un, .un, .un] := fun s p => by kernel_rfl
theorem B_28 : ∀ s : Slot, ∀ q : Bool, GB [s, .bo (Rw 28), .va (.bl q), .va (.bl (due 28)), .va (.int 3), .un, .un, .un, .un, .un, .un, .un] = .nx [s, .bo (Rw 28), .va (.bl q), .va (.bl (due 28)), .va (.int 3), frm q 28, .va (.bl (due 28)), .un, .un, .un, .un, .un] := fun s q => by cases q <;> kernel_rfl
theorem C_28 : ∀ s p f : Slot, GC [s, .bo (Rw 28), p, .va (.bl (due 28)), .va (.int 3), f, .va (.bl (due 28)), .un, .un, .un, .un, .un] = .nx [s, .bo (Rw 28), p, .va (.bl (due 28)), .va (.int 3), f, .va (.bl (due 28)), .ow (hdD 28), .ow (chD 28), .un, .un, .un] := fun s p f => by kernel_rfl
theorem E_28 : ∀ s p f : Slot, ∀ sh : Nat, ∀ rv : Bool, sh < 4 → g__law_kept_15 [s, .bo (Rw 28), p, .va (.bl (due 28)), .va (.int 3), f, .va (.bl (due 28)), .ow (hdD 28), .ow (chD 28), .va (.int sh), .ow (fourR sh rv), .un] = .nx [s, .bo (Rw 28), p, .va (.bl (due 28)), .va (.int 3), f, .va (.bl (due 28)), .ow (hdD 28), .ow (chD 28), .va (.int sh), .ow (fourR sh rv), .un] := fun s p f sh rv h => match sh, h with
  | 0, _ => by cases rv <;> kernel_rfl
  | 1, _ => by cases rv <;> kernel_rfl
  | 2, _ => by cases rv <;> kernel_rfl
  | 3, _ => by cases rv <;> kernel_rfl
  | n + 4, h => absurd h (by omega)
theorem F_28 : ∀ s p f s9 s10 : Slot, finK (GF [s, .bo (Rw 28), p, .va (.bl (due 28)), .va (.int 3), f, .va (.bl (due 28)), .ow (hdD 28), .ow (chD 28), s9, s10, .un]) = some s := fun s p f s9 s10 => by kernel_rfl
theorem R_29 : F__law_row [.va (.int (29 : Nat))] = .rt true (Rw 29) [.un] := by kernel_rfl
theorem G_29 : F_is_good [.bo (Rw 29)] = .rt false (.bl (due 29)) [.un] := by kernel_rfl
theorem A_29 : ∀ s p : Slot, GA [s, .bo (Rw 29), p, .un, .un, .un, .un, .un, .un, .un, .un, .un] = .nx [s, .bo (Rw 29), p, .va (.bl (due 29)), .va (.int 3), .un, .un, .un, .un, .un, .un, .un] := fun s p => by kernel_rfl
theorem B_29 : ∀ s : Slot, ∀ q : Bool, GB [s, .bo (Rw 29), .va (.bl q), .va (.bl (due 29)), .va (.int 3), .un, .un, .un, .un, .un, .un, .un] = .nx [s, .bo (Rw 29), .va (.bl q), .va (.bl (due 29)), .va (.int 3), frm q 29, .va (.bl (due 29)), .un, .un, .un, .un, .un] := fun s q => by cases q <;> kernel_rfl
theorem C_29 : ∀ s p f : Slot, GC [s, .bo (Rw 29), p, .va (.bl (due 29)), .va (.int 3), f, .va (.bl (due 29)), .un, .un, .un, .un, .un] = .nx [s, .bo (Rw 29), p, .va (.bl (due 29)), .va (.int 3), f, .va (.bl (due 29)), .ow (hdD 29), .ow (chD 29), .un, .un, .un] := fun s p f => by kernel_rfl
theorem E_29 : ∀ s p f : Slot, ∀ sh : Nat, ∀ rv : Bool, sh < 4 → g__law_kept_15 [s, .bo (Rw 29), p, .va (.bl (due 29)), .va (.int 3), f, .va (.bl (due 29)), .ow (hdD 29), .ow (chD 29), .va (.int sh), .ow (fourR sh rv), .un] = .nx [s, .bo (Rw 29), p, .va (.bl (due 29)), .va (.int 3), f, .va (.bl (due 29)), .ow (hdD 29), .ow (chD 29), .va (.int sh), .ow (fourR sh rv), .un] := fun s p f sh rv h => match sh, h with
  | 0, _ => by cases rv <;> kernel_rfl
  | 1, _ => by cases rv <;> kernel_rfl
  | 2, _ => by cases rv <;> kernel_rfl
  | 3, _ => by cases rv <;> kernel_rfl
  | n + 4, h => absurd h (by omega)
theorem F_29 : ∀ s p f s9 s10 : Slot, finK (GF [s, .bo (Rw 29), p, .va (.bl (due 29)), .va (.int 3), f, .va (.bl (due 29)), .ow (hdD 29), .ow (chD 29), s9, s10, .un]) = some s := fun s p f s9 s10 => by kernel_rfl
theorem R_30 : F__law_row [.va (.int (30 : Nat))] = .rt true (Rw 30) [.un] := by kernel_rfl
theorem G_30 : F_is_good [.bo (Rw 30)] = .rt false (.bl (due 30)) [.un] := by kernel_rfl
theorem A_30 : ∀ s p : Slot, GA [s, .bo (Rw 30), p, .un, .un, .un, .un, .un, .un, .un, .un, .un] = .nx [s, .bo (Rw 30), p, .va (.bl (due 30)), .va (.int 3), .un, .un, .un, .un, .un, .un, .un] := fun s p => by kernel_rfl
theorem B_30 : ∀ s : Slot, ∀ q : Bool, GB [s, .bo (Rw 30), .va (.bl q), .va (.bl (due 30)), .va (.int 3), .un, .un, .un, .un, .un, .un, .un] = .nx [s, .bo (Rw 30), .va (.bl q), .va (.bl (due 30)), .va (.int 3), frm q 30, .va (.bl (due 30)), .un, .un, .un, .un, .un] := fun s q => by cases q <;> kernel_rfl
theorem C_30 : ∀ s p f : Slot, GC [s, .bo (Rw 30), p, .va (.bl (due 30)), .va (.int 3), f, .va (.bl (due 30)), .un, .un, .un, .un, .un] = .nx [s, .bo (Rw 30), p, .va (.bl (due 30)), .va (.int 3), f, .va (.bl (due 30)), .ow (hdD 30), .ow (chD 30), .un, .un, .un] := fun s p f => by kernel_rfl
theorem E_30 : ∀ s p f : Slot, ∀ sh : Nat, ∀ rv : Bool, sh < 4 → g__law_kept_15 [s, .bo (Rw 30), p, .va (.bl (due 30)), .va (.int 3), f, .va (.bl (due 30)), .ow (hdD 30), .ow (chD 30), .va (.int sh), .ow (fourR sh rv), .un] = .nx [s, .bo (Rw 30), p, .va (.bl (due 30)), .va (.int 3), f, .va (.bl (due 30)), .ow (hdD 30), .ow (chD 30), .va (.int sh), .ow (fourR sh rv), .un] := fun s p f sh rv h => match sh, h with
  | 0, _ => by cases rv <;> kernel_rfl
  | 1, _ => by cases rv <;> kernel_rfl
  | 2, _ => by cases rv <;> kernel_rfl
  | 3, _ => by cases rv <;> kernel_rfl
  | n + 4, h => absurd h (by omega)
theorem F_30 : ∀ s p f s9 s10 : Slot, finK (GF [s, .bo (Rw 30), p, .va (.bl (due 30)), .va (.int 3), f, .va (.bl (due 30)), .ow (hdD 30), .ow (chD 30), s9, s10, .un]) = some s := fun s p f s9 s10 => by kernel_rfl
theorem R_31 : F__law_row [.va (.int (31 : Nat))] = .rt true (Rw 31) [.un] := by kernel_rfl
theorem G_31 : F_is_good [.bo (Rw 31)] = .rt false (.bl (due 31)) [.un] := by kernel_rfl
theorem A_31 : ∀ s p : Slot, GA [s, .bo (Rw 31), p, .un, .un, .un, .un, .un, .un, .un, .un, .un] = .nx [s, .bo (Rw 31), p, .va (.bl (due 31)), .va (.int 3), .un, .un, .un, .un, .un, .un, .un] := fun s p => by kernel_rfl
theorem B_31 : ∀ s : Slot, ∀ q : Bool, GB [s, .bo (Rw 31), .va (.bl q), .va (.bl (due 31)), .va (.int 3), .un, .un, .un, .un, .un, .un, .un] = .nx [s, .bo (Rw 31), .va (.bl q), .va (.bl (due 31)), .va (.int 3), frm q 31, .va (.bl (due 31)), .un, .un, .un, .un, .un] := fun s q => by cases q <;> kernel_rfl
theorem C_31 : ∀ s p f : Slot, GC [s, .bo (Rw 31), p, .va (.bl (due 31)), .va (.int 3), f, .va (.bl (due 31)), .un, .un, .un, .un, .un] = .nx [s, .bo (Rw 31), p, .va (.bl (due 31)), .va (.int 3), f, .va (.bl (due 31)), .ow (hdD 31), .ow (chD 31), .un, .un, .un] := fun s p f => by kernel_rfl
theorem E_31 : ∀ s p f : Slot, ∀ sh : Nat, ∀ rv : Bool, sh < 4 → g__law_kept_15 [s, .bo (Rw 31), p, .va (.bl (due 31)), .va (.int 3), f, .va (.bl (due 31)), .ow (hdD 31), .ow (chD 31), .va (.int sh), .ow (fourR sh rv), .un] = .nx [s, .bo (Rw 31), p, .va (.bl (due 31)), .va (.int 3), f, .va (.bl (due 31)), .ow (hdD 31), .ow (chD 31), .va (.int sh), .ow (fourR sh rv), .un] := fun s p f sh rv h => match sh, h with
  | 0, _ => by cases rv <;> kernel_rfl
  | 1, _ => by cases rv <;> kernel_rfl
  | 2, _ => by cases rv <;> kernel_rfl
  | 3, _ => by cases rv <;> kernel_rfl
  | n + 4, h => absurd h (by omega)
theorem F_31 : ∀ s p f s9 s10 : Slot, finK (GF [s, .bo (Rw 31), p, .va (.bl (due 31)), .va (.int 3), f, .va (.bl (due 31)), .ow (hdD 31), .ow (chD 31), s9, s10, .un]) = some s := fun s p f s9 s10 => by kernel_rfl
theorem R_32 : F__law_row [.va (.int (32 : Nat))] = .rt true (Rw 32) [.un] := by kernel_rfl
theorem G_32 : F_is_good [.bo (Rw 32)] = .rt false (.bl (due 32)) [.un] := by kernel_rfl
theorem A_32 : ∀ s p : Slot, GA [s, .bo (Rw 32), p, .un, .un, .un, .un, .un, .un, .un, .un, .un] = .nx [s, .bo (Rw 32), p, .va (.bl (due 32)), .va (.int 3), .un, .un, .un, .un, .un, .un, .un] := fun s p => by kernel_rfl
theorem B_32 : ∀ s : Slot, ∀ q : Bool, GB [s, .bo (Rw 32), .va (.bl q), .va (.bl (due 32)), .va (.int 3), .un, .un, .un, .un, .un, .un, .un] = .nx [s, .bo (Rw 32), .va (.bl q), .va (.bl (due 32)), .va (.int 3), frm q 32, .va (.bl (due 32)), .un, .un, .un, .un, .un] := fun s q => by cases q <;> kernel_rfl
theorem C_32 : ∀ s p f : Slot, GC [s, .bo (Rw 32), p, .va (.bl (due 32)), .va (.int 3), f, .va (.bl (due 32)), .un, .un, .un, .un, .un] = .nx [s, .bo (Rw 32), p, .va (.bl (due 32)), .va (.int 3), f, .va (.bl (due 32)), .ow (hdD 32), .ow (chD 32), .un, .un, .un] := fun s p f => by kernel_rfl
theorem E_32 : ∀ s p f : Slot, ∀ sh : Nat, ∀ rv : Bool, sh < 4 → g__law_kept_15 [s, .bo (Rw 32), p, .va (.bl (due 32)), .va (.int 3), f, .va (.bl (due 32)), .ow (hdD 32), .ow (chD 32), .va (.int sh), .ow (fourR sh rv), .un] = .nx [s, .bo (Rw 32), p, .va (.bl (due 32)), .va (.int 3), f, .va (.bl (due 32)), .ow (hdD 32), .ow (chD 32), .va (.int sh), .ow (fourR sh rv), .un] := fun s p f sh rv h => match sh, h with
  | 0, _ => by cases rv <;> kernel_rfl
  | 1, _ => by cases rv <;> kernel_rfl
  | 2, _ => by cases rv <;> kernel_rfl
  | 3, _ => by cases rv <;> kernel_rfl
  | n + 4, h => absurd h (by omega)
theorem F_32 : ∀ s p f s9 s10 : Slot, finK (GF [s, .bo (Rw 32), p, .va (.bl (due 32)), .va (.int 3), f, .va (.bl (due 32)), .ow (hdD 32), .ow (chD 32), s9, s10, .un]) = some s := fun s p f s9 s10 => by kernel_rfl
theorem R_33 : F__law_row [.va (.int (33 : Nat))] = .rt true (Rw 33) [.un] := by kernel_rfl
theorem G_33 : F_is_good [.bo (Rw 33)] = .rt false (.bl (due 33)) [.un] := by kernel_rfl
theorem A_33 : ∀ s p : Slot, GA [s, .bo (Rw 33), p, .un, .un, .un, .un, .un, .un, .un, .un, .un] = .nx [s, .bo (Rw 33), p, .va (.bl (due 33)), .va (.int 3), .un, .un, .un, .un, .un, .un, .un] := fun s p => by kernel_rfl
theorem B_33 : ∀ s : Slot, ∀ q : Bool, GB [s, .bo (Rw 33), .va (.bl q), .va (.bl (due 33)), .va (.int 3), .un, .un, .un, .un, .un, .un, .un] = .nx [s, .bo (Rw 33), .va (.bl q), .va (.bl (due 33)), .va (.int 3), frm q 33, .va (.bl (due 33)), .un, .un, .un, .un, .un] := fun s q => by cases q <;> kernel_rfl
theorem C_33 : ∀ s p f : Slot, GC [s, .bo (Rw 33), p, .va (.bl (due 33)), .va (.int 3), f, .va (.bl (due 33)), .un, .un, .un, .un, .un] = .nx [s, .bo (Rw 33), p, .va (.bl (due 33)), .va (.int 3), f, .va (.bl (due 33)), .ow (hdD 33), .ow (chD 33), .un, .un, .un] := fun s p f => by kernel_rfl
theorem E_33 : ∀ s p f : Slot, ∀ sh : Nat, ∀ rv : Bool, sh < 4 → g__law_kept_15 [s, .bo (Rw 33), p, .va (.bl (due 33)), .va (.int 3), f, .va (.bl (due 33)), .ow (hdD 33), .ow (chD 33), .va (.int sh), .ow (fourR sh rv), .un] = .nx [s, .bo (Rw 33), p, .va (.bl (due 33)), .va (.int 3), f, .va (.bl (due 33)), .ow (hdD 33), .ow (chD 33), .va (.int sh), .ow (fourR sh rv), .un] := fun s p f sh rv h => match sh, h with
  | 0, _ => by cases rv <;> kernel_rfl
  | 1, _ => by cases rv <;> kernel_rfl
  | 2, _ => by cases rv <;> kernel_rfl
  | 3, _ => by cases rv <;> kernel_rfl
  | n + 4, h => absurd h (by omega)
theorem F_33 : ∀ s p f s9 s10 : Slot, finK (GF [s, .bo (Rw 33), p, .va (.bl (due 33)), .va (.int 3), f, .va (.bl (due 33)), .ow (hdD 33), .ow (chD 33), s9, s10, .un]) = some s := fun s p f s9 s10 => by kernel_rfl
theorem R_34 : F__law_row [.va (.int (34 : Nat))] = .rt true (Rw 34) [.un] := by kernel_rfl
theorem G_34 : F_is_good [.bo (Rw 34)] = .rt false (.bl (due 34)) [.un] := by kernel_rfl
theorem A_34 : ∀ s p : Slot, GA [s, .bo (Rw 34), p, .un, .un, .un, .un, .un, .un, .un, .un, .un] = .nx [s, .bo (Rw 34), p, .va (.bl (due 34)), .va (.int 3), .un, .un, .un, .un, .un, .un, .un] := fun s p => by kernel_rfl
theorem B_34 : ∀ s : Slot, ∀ q : Bool, GB [s, .bo (Rw 34), .va (.bl q), .va (.bl (due 34)), .va (.int 3), .un, .un, .un, .un, .un, .un, .un] = .nx [s, .bo (Rw 34), .va (.bl q), .va (.bl (due 34)), .va (.int 3), frm q 34, .va (.bl (due 34)), .un, .un, .un, .un, .un] := fun s q => by cases q <;> kernel_rfl
theorem C_34 : ∀ s p f : Slot, GC [s, .bo (Rw 34), p, .va (.bl (due 34)), .va (.int 3), f, .va (.bl (due 34)), .un, .un, .un, .un, .un] = .nx [s, .bo (Rw 34), p, .va (.bl (due 34)), .va (.int 3), f, .va (.bl (due 34)), .ow (hdD 34), .ow (chD 34), .un, .un, .un] := fun s p f => by kernel_rfl
theorem E_34 : ∀ s p f : Slot, ∀ sh : Nat, ∀ rv : Bool, sh < 4 → g__law_kept_15 [s, .bo (Rw 34), p, .va (.bl (due 34)), .va (.int 3), f, .va (.bl (due 34)), .ow (hdD 34), .ow (chD 34), .va (.int sh), .ow (fourR sh rv), .un] = .nx [s, .bo (Rw 34), p, .va (.bl (due 34)), .va (.int 3), f, .va (.bl (due 34)), .ow (hdD 34), .ow (chD 34), .va (.int sh), .ow (fourR sh rv), .un] := fun s p f sh rv h => match sh, h with
  | 0, _ => by cases rv <;> kernel_rfl
  | 1, _ => by cases rv <;> kernel_rfl
  | 2, _ => by cases rv <;> kernel_rfl
  | 3, _ => by cases rv <;> kernel_rfl
  | n + 4, h => absurd h (by omega)
theorem F_34 : ∀ s p f s9 s10 : Slot, finK (GF [s, .bo (Rw 34), p, .va (.bl (due 34)), .va (.int 3), f, .va (.bl (due 34)), .ow (hdD 34), .ow (chD 34), s9, s10, .un]) = some s := fun s p f s9 s10 => by kernel_rfl
theorem R_35 : F__law_row [.va (.int (35 : Nat))] = .rt true (Rw 35) [.un] := by kernel_rfl
theorem G_35 : F_is_good [.bo (Rw 35)] = .rt false (.bl (due 35)) [.un] := by kernel_rfl
theorem A_35 : ∀ s p : Slot, GA [s, .bo (Rw 35), p, .un, .un, .un, .un, .un, .un, .un, .un, .un] = .nx [s, .bo (Rw 35), p, .va (.bl (due 35)), .va (.int 3), .un, .un, .un, .un, .un, .un, .un] := fun s p => by kernel_rfl
theorem B_35 : ∀ s : Slot, ∀ q : Bool, GB [s, .bo (Rw 35), .va (.bl q), .va (.bl (due 35)), .va (.int 3), .un, .un, .un, .un, .un, .un, .un] = .nx [s, .bo (Rw 35), .va (.bl q), .va (.bl (due 35)), .va (.int 3), frm q 35, .va (.bl (due 35)), .un, .un, .un, .un, .un] := fun s q => by cases q <;> kernel_rfl
theorem C_35 : ∀ s p f : Slot, GC [s, .bo (Rw 35), p, .va (.bl (due 35)), .va (.int 3), f, .va (.bl (due 35)), .un, .un, .un, .un, .un] = .nx [s, .bo (Rw 35), p, .va (.bl (due 35)), .va (.int 3), f, .va (.bl (due 35)), .ow (hdD 35), .ow (chD 35), .un, .un, .un] := fun s p f => by kernel_rfl
theorem E_35 : ∀ s p f : Slot, ∀ sh : Nat, ∀ rv : Bool, sh < 4 → g__law_kept_15 [s, .bo (Rw 35), p, .va (.bl (due 35)), .va (.int 3), f, .va (.bl (due 35)), .ow (hdD 35), .ow (chD 35), .va (.int sh), .ow (fourR sh rv), .un] = .nx [s, .bo (Rw 35), p, .va (.bl (due 35)), .va (.int 3), f, .va (.bl (due 35)), .ow (hdD 35), .ow (chD 35), .va (.int sh), .ow (fourR sh rv), .un] := fun s p f sh rv h => match sh, h with
  | 0, _ => by cases rv <;> kernel_rfl
  | 1, _ => by cases rv <;> kernel_rfl
  | 2, _ => by cases rv <;> kernel_rfl
  | 3, _ => by cases rv <;> kernel_rfl
  | n + 4, h => absurd h (by omega)
theorem F_35 : ∀ s p f s9 s10 : Slot, finK (GF [s, .bo (Rw 35), p, .va (.bl (due 35)), .va (.int 3), f, .va (.bl (due 35)), .ow (hdD 35), .ow (chD 35), s9, s10, .un]) = some s := fun s p f s9 s10 => by kernel_rfl
theorem R_36 : F__law_row [.va (.int (36 : Nat))] = .rt true (Rw 36) [.un] := by kernel_rfl
theorem G_36 : F_is_good [.bo (Rw 36)] = .rt false (.bl (due 36)) [.un] := by kernel_rfl
theorem A_36 : ∀ s p : Slot, GA [s, .bo (Rw 36), p, .un, .un, .un, .un, .un, .un, .un, .un, .un] = .nx [s, .bo (Rw 36), p, .va (.bl (due 36)), .va (.int 3), .un, .un, .un, .un, .un, .un, .un] := fun s p => by kernel_rfl
theorem B_36 : ∀ s : Slot, ∀ q : Bool, GB [s, .bo (Rw 36), .va (.bl q), .va (.bl (due 36)), .va (.int 3), .un, .un, .un, .un, .un, .un, .un] = .nx [s, .bo (Rw 36), .va (.bl q), .va (.bl (due 36)), .va (.int 3), frm q 36, .va (.bl (due 36)), .un, .un, .un, .un, .un] := fun s q => by cases q <;> kernel_rfl
theorem C_36 : ∀ s p f : Slot, GC [s, .bo (Rw 36), p, .va (.bl (due 36)), .va (.int 3), f, .va (.bl (due 36)), .un, .un, .un, .un, .un] = .nx [s, .bo (Rw 36), p, .va (.bl (due 36)), .va (.int 3), f, .va (.bl (due 36)), .ow (hdD 36), .ow (chD 36), .un, .un, .un] := fun s p f => by kernel_rfl
theorem E_36 : ∀ s p f : Slot, ∀ sh : Nat, ∀ rv : Bool, sh < 4 → g__law_kept_15 [s, .bo (Rw 36), p, .va (.bl (due 36)), .va (.int 3), f, .va (.bl (due 36)), .ow (hdD 36), .ow (chD 36), .va (.int sh), .ow (fourR sh rv), .un] = .nx [s, .bo (Rw 36), p, .va (.bl (due 36)), .va (.int 3), f, .va (.bl (due 36)), .ow (hdD 36), .ow (chD 36), .va (.int sh), .ow (fourR sh rv), .un] := fun s p f sh rv h => match sh, h with
  | 0, _ => by cases rv <;> kernel_rfl
  | 1, _ => by cases rv <;> kernel_rfl
  | 2, _ => by cases rv <;> kernel_rfl
  | 3, _ => by cases rv <;> kernel_rfl
  | n + 4, h => absurd h (by omega)
theorem F_36 : ∀ s p f s9 s10 : Slot, finK (GF [s, .bo (Rw 36), p, .va (.bl (due 36)), .va (.int 3), f, .va (.bl (due 36)), .ow (hdD 36), .ow (chD 36), s9, s10, .un]) = some s := fun s p f s9 s10 => by kernel_rfl
theorem R_37 : F__law_row [.va (.int (37 : Nat))] = .rt true (Rw 37) [.un] := by kernel_rfl
theorem G_37 : F_is_good [.bo (Rw 37)] = .rt false (.bl (due 37)) [.un] := by kernel_rfl
theorem A_37 : ∀ s p : Slot, GA [s, .bo (Rw 37), p, .un, .un, .un, .un, .un, .un, .un, .un, .un] = .nx [s, .bo (Rw 37), p, .va (.bl (due 37)), .va (.int 3), .un, .un, .un, .un, .un, .un, .un] := fun s p => by kernel_rfl
theorem B_37 : ∀ s : Slot, ∀ q : Bool, GB [s, .bo (Rw 37), .va (.bl q), .va (.bl (due 37)), .va (.int 3), .un, .un, .un, .un, .un, .un, .un] = .nx [s, .bo (Rw 37), .va (.bl q), .va (.bl (due 37)), .va (.int 3), frm q 37, .va (.bl (due 37)), .un, .un, .un, .un, .un] := fun s q => by cases q <;> kernel_rfl
theorem C_37 : ∀ s p f : Slot, GC [s, .bo (Rw 37), p, .va (.bl (due 37)), .va (.int 3), f, .va (.bl (due 37)), .un, .un, .un, .un, .un] = .nx [s, .bo (Rw 37), p, .va (.bl (due 37)), .va (.int 3), f, .va (.bl (due 37)), .ow (hdD 37), .ow (chD 37), .un, .un, .un] := fun s p f => by kernel_rfl
theorem E_37 : ∀ s p f : Slot, ∀ sh : Nat, ∀ rv : Bool, sh < 4 → g__law_kept_15 [s, .bo (Rw 37), p, .va (.bl (due 37)), .va (.int 3), f, .va (.bl (due 37)), .ow (hdD 37), .ow (chD 37), .va (.int sh), .ow (fourR sh rv), .un] = .nx [s, .bo (Rw 37), p, .va (.bl (due 37)), .va (.int 3), f, .va (.bl (due 37)), .ow (hdD 37), .ow (chD 37), .va (.int sh), .ow (fourR sh rv), .un] := fun s p f sh rv h => match sh, h with
  | 0, _ => by cases rv <;> kernel_rfl
  | 1, _ => by cases rv <;> kernel_rfl
  | 2, _ => by cases rv <;> kernel_rfl
  | 3, _ => by cases rv <;> kernel_rfl
  | n + 4, h => absurd h (by omega)
theorem F_37 : ∀ s p f s9 s10 : Slot, finK (GF [s, .bo (Rw 37), p, .va (.bl (due 37)), .va (.int 3), f, .va (.bl (due 37)), .ow (hdD 37), .ow (chD 37), s9, s10, .un]) = some s := fun s p f s9 s10 => by kernel_rfl
theorem R_38 : F__law_row [.va (.int (38 : Nat))] = .rt true (Rw 38) [.un] := by kernel_rfl
theorem G_38 : F_is_good [.bo (Rw 38)] = .rt false (.bl (due 38)) [.un] := by kernel_rfl
theorem A_38 : ∀ s p : Slot, GA [s, .bo (Rw 38), p, .un, .un, .un, .un, .un, .un, .un, .un, .un] = .nx [s, .bo (Rw 38), p, .va (.bl (due 38)), .va (.int 3), .un, .un, .un, .un, .un, .un, .un] := fun s p => by kernel_rfl
theorem B_38 : ∀ s : Slot, ∀ q : Bool, GB [s, .bo (Rw 38), .va (.bl q), .va (.bl (due 38)), .va (.int 3), .un, .un, .un, .un, .un, .un, .un] = .nx [s, .bo (Rw 38), .va (.bl q), .va (.bl (due 38)), .va (.int 3), frm q 38, .va (.bl (due 38)), .un, .un, .un, .un, .un] := fun s q => by cases q <;> kernel_rfl
theorem C_38 : ∀ s p f : Slot, GC [s, .bo (Rw 38), p, .va (.bl (due 38)), .va (.int 3), f, .va (.bl (due 38)), .un, .un, .un, .un, .un] = .nx [s, .bo (Rw 38), p, .va (.bl (due 38)), .va (.int 3), f, .va (.bl (due 38)), .ow (hdD 38), .ow (chD 38), .un, .un, .un] := fun s p f => by kernel_rfl
theorem E_38 : ∀ s p f : Slot, ∀ sh : Nat, ∀ rv : Bool, sh < 4 → g__law_kept_15 [s, .bo (Rw 38), p, .va (.bl (due 38)), .va (.int 3), f, .va (.bl (due 38)), .ow (hdD 38), .ow (chD 38), .va (.int sh), .ow (fourR sh rv), .un] = .nx [s, .bo (Rw 38), p, .va (.bl (due 38)), .va (.int 3), f, .va (.bl (due 38)), .ow (hdD 38), .ow (chD 38), .va (.int sh), .ow (fourR sh rv), .un] := fun s p f sh rv h => match sh, h with
  | 0, _ => by cases rv <;> kernel_rfl
  | 1, _ => by cases rv <;> kernel_rfl
  | 2, _ => by cases rv <;> kernel_rfl
  | 3, _ => by cases rv <;> kernel_rfl
  | n + 4, h => absurd h (by omega)
theorem F_38 : ∀ s p f s9 s10 : Slot, finK (GF [s, .bo (Rw 38), p, .va (.bl (due 38)), .va (.int 3), f, .va (.bl (due 38)), .ow (hdD 38), .ow (chD 38), s9, s10, .un]) = some s := fun s p f s9 s10 => by kernel_rfl
theorem R_39 : F__law_row [.va (.int (39 : Nat))] = .rt true (Rw 39) [.un] := by kernel_rfl
theorem G_39 : F_is_good [.bo (Rw 39)] = .rt false (.bl (due 39)) [.un] := by kernel_rfl
theorem A_39 : ∀ s p : Slot, GA [s, .bo (Rw 39), p, .un, .un, .un, .un, .un, .un, .un, .un, .un] = .nx [s, .bo (Rw 39), p, .va (.bl (due 39)), .va (.int 3), .un, .un, .un, .un, .un, .un, .un] := fun s p => by kernel_rfl
theorem B_39 : ∀ s : Slot, ∀ q : Bool, GB [s, .bo (Rw 39), .va (.bl q), .va (.bl (due 39)), .va (.int 3), .un, .un, .un, .un, .un, .un, .un] = .nx [s, .bo (Rw 39), .va (.bl q), .va (.bl (due 39)), .va (.int 3), frm q 39, .va (.bl (due 39)), .un, .un, .un, .un, .un] := fun s q => by cases q <;> kernel_rfl
theorem C_39 : ∀ s p f : Slot, GC [s, .bo (Rw 39), p, .va (.bl (due 39)), .va (.int 3), f, .va (.bl (due 39)), .un, .un, .un, .un, .un] = .nx [s, .bo (Rw 39), p, .va (.bl (due 39)), .va (.int 3), f, .va (.bl (due 39)), .ow (hdD 39), .ow (chD 39), .un, .un, .un] := fun s p f => by kernel_rfl
theorem E_39 : ∀ s p f : Slot, ∀ sh : Nat, ∀ rv : Bool, sh < 4 → g__law_kept_15 [s, .bo (Rw 39), p, .va (.bl (due 39)), .va (.int 3), f, .va (.bl (due 39)), .ow (hdD 39), .ow (chD 39), .va (.int sh), .ow (fourR sh rv), .un] = .nx [s, .bo (Rw 39), p, .va (.bl (due 39)), .va (.int 3), f, .va (.bl (due 39)), .ow (hdD 39), .ow (chD 39), .va (.int sh), .ow (fourR sh rv), .un] := fun s p f sh rv h => match sh, h with
  | 0, _ => by cases rv <;> kernel_rfl
  | 1, _ => by cases rv <;> kernel_rfl
  | 2, _ => by cases rv <;> kernel_rfl
  | 3, _ => by cases rv <;> kernel_rfl
  | n + 4, h => absurd h (by omega)
theorem F_39 : ∀ s p f s9 s10 : Slot, finK (GF [s, .bo (Rw 39), p, .va (.bl (due 39)), .va (.int 3), f, .va (.bl (due 39)), .ow (hdD 39), .ow (chD 39), s9, s10, .un]) = some s := fun s p f s9 s10 => by kernel_rfl
theorem R_40 : F__law_row [.va (.int (40 : Nat))] = .rt true (Rw 40) [.un] := by kernel_rfl
theorem G_40 : F_is_good [.bo (Rw 40)] = .rt false (.bl (due 40)) [.un] := by kernel_rfl
theorem A_40 : ∀ s p : Slot, GA [s, .bo (Rw 40), p, .un, .un, .un, .un, .un, .un, .un, .un, .un] = .nx [s, .bo (Rw 40), p, .va (.bl (due 40)), .va (.int 3), .un, .un, .un, .un, .un, .un, .un] := fun s p => by kernel_rfl
theorem B_40 : ∀ s : Slot, ∀ q : Bool, GB [s, .bo (Rw 40), .va (.bl q), .va (.bl (due 40)), .va (.int 3), .un, .un, .un, .un, .un, .un, .un] = .nx [s, .bo (Rw 40), .va (.bl q), .va (.bl (due 40)), .va (.int 3), frm q 40, .va (.bl (due 40)), .un, .un, .un, .un, .un] := fun s q => by cases q <;> kernel_rfl
theorem C_40 : ∀ s p f : Slot, GC [s, .bo (Rw 40), p, .va (.bl (due 40)), .va (.int 3), f, .va (.bl (due 40)), .un, .un, .un, .un, .un] = .nx [s, .bo (Rw 40), p, .va (.bl (due 40)), .va (.int 3), f, .va (.bl (due 40)), .ow (hdD 40), .ow (chD 40), .un, .un, .un] := fun s p f => by kernel_rfl
theorem E_40 : ∀ s p f : Slot, ∀ sh : Nat, ∀ rv : Bool, sh < 4 → g__law_kept_15 [s, .bo (Rw 40), p, .va (.bl (due 40)), .va (.int 3), f, .va (.bl (due 40)), .ow (hdD 40), .ow (chD 40), .va (.int sh), .ow (fourR sh rv), .un] = .nx [s, .bo (Rw 40), p, .va (.bl (due 40)), .va (.int 3), f, .va (.bl (due 40)), .ow (hdD 40), .ow (chD 40), .va (.int sh), .ow (fourR sh rv), .un] := fun s p f sh rv h => match sh, h with
  | 0, _ => by cases rv <;> kernel_rfl
  | 1, _ => by cases rv <;> kernel_rfl
  | 2, _ => by cases rv <;> kernel_rfl
  | 3, _ => by cases rv <;> kernel_rfl
  | n + 4, h => absurd h (by omega)
theorem F_40 : ∀ s p f s9 s10 : Slot, finK (GF [s, .bo (Rw 40), p, .va (.bl (due 40)), .va (.int 3), f, .va (.bl (due 40)), .ow (hdD 40), .ow (chD 40), s9, s10, .un]) = some s := fun s p f s9 s10 => by kernel_rfl
theorem R_41 : F__law_row [.va (.int (41 : Nat))] = .rt true (Rw 41) [.un] := by kernel_rfl
theorem G_41 : F_is_good [.bo (Rw 41)] = .rt false (.bl (due 41)) [.un] := by kernel_rfl
theorem A_41 : ∀ s p : Slot, GA [s, .bo (Rw 41), p, .un, .un, .un, .un, .un, .un, .un, .un, .un] = .nx [s, .bo (Rw 41), p, .va (.bl (due 41)), .va (.int 3), .un, .un, .un, .un, .un, .un, .un] := fun s p => by kernel_rfl
theorem B_41 : ∀ s : Slot, ∀ q : Bool, GB [s, .bo (Rw 41), .va (.bl q), .va (.bl (due 41)), .va (.int 3), .un, .un, .un, .un, .un, .un, .un] = .nx [s, .bo (Rw 41), .va (.bl q), .va (.bl (due 41)), .va (.int 3), frm q 41, .va (.bl (due 41)), .un, .un, .un, .un, .un] := fun s q => by cases q <;> kernel_rfl
theorem C_41 : ∀ s p f : Slot, GC [s, .bo (Rw 41), p, .va (.bl (due 41)), .va (.int 3), f, .va (.bl (due 41)), .un, .un, .un, .un, .un] = .nx [s, .bo (Rw 41), p, .va (.bl (due 41)), .va (.int 3), f, .va (.bl (due 41)), .ow (hdD 41), .ow (chD 41), .un, .un, .un] := fun s p f => by kernel_rfl
theorem E_41 : ∀ s p f : Slot, ∀ sh : Nat, ∀ rv : Bool, sh < 4 → g__law_kept_15 [s, .bo (Rw 41), p, .va (.bl (due 41)), .va (.int 3), f, .va (.bl (due 41)), .ow (hdD 41), .ow (chD 41), .va (.int sh), .ow (fourR sh rv), .un] = .nx [s, .bo (Rw 41), p, .va (.bl (due 41)), .va (.int 3), f, .va (.bl (due 41)), .ow (hdD 41), .ow (chD 41), .va (.int sh), .ow (fourR sh rv), .un] := fun s p f sh rv h => match sh, h with
  | 0, _ => by cases rv <;> kernel_rfl
  | 1, _ => by cases rv <;> kernel_rfl
  | 2, _ => by cases rv <;> kernel_rfl
  | 3, _ => by cases rv <;> kernel_rfl
  | n + 4, h => absurd h (by omega)
theorem F_41 : ∀ s p f s9 s10 : Slot, finK (GF [s, .bo (Rw 41), p, .va (.bl (due 41)), .va (.int 3), f, .va (.bl (due 41)), .ow (hdD 41), .ow (chD 41), s9, s10, .un]) = some s := fun s p f s9 s10 => by kernel_rfl
theorem R_42 : F__law_row [.va (.int (42 : Nat))] = .rt true (Rw 42) [.un] := by kernel_rfl
theorem G_42 : F_is_good [.bo (Rw 42)] = .rt false (.bl (due 42)) [.un] := by kernel_rfl
theorem A_42 : ∀ s p : Slot, GA [s, .bo (Rw 42), p, .un, .un, .un, .un, .un, .un, .un, .un, .un] = .nx [s, .bo (Rw 42), p, .va (.bl (due 42)), .va (.int 3), .un, .un, .un, .un, .un, .un, .un] := fun s p => by kernel_rfl
theorem B_42 : ∀ s : Slot, ∀ q : Bool, GB [s, .bo (Rw 42), .va (.bl q), .va (.bl (due 42)), .va (.int 3), .un, .un, .un, .un, .un, .un, .un] = .nx [s, .bo (Rw 42), .va (.bl q), .va (.bl (due 42)), .va (.int 3), frm q 42, .va (.bl (due 42)), .un, .un, .un, .un, .un] := fun s q => by cases q <;> kernel_rfl
theorem C_42 : ∀ s p f : Slot, GC [s, .bo (Rw 42), p, .va (.bl (due 42)), .va (.int 3), f, .va (.bl (due 42)), .un, .un, .un, .un, .un] = .nx [s, .bo (Rw 42), p, .va (.bl (due 42)), .va (.int 3), f, .va (.bl (due 42)), .ow (hdD 42), .ow (chD 42), .un, .un, .un] := fun s p f => by kernel_rfl
theorem E_42 : ∀ s p f : Slot, ∀ sh : Nat, ∀ rv : Bool, sh < 4 → g__law_kept_15 [s, .bo (Rw 42), p, .va (.bl (due 42)), .va (.int 3), f, .va (.bl (due 42)), .ow (hdD 42), .ow (chD 42), .va (.int sh), .ow (fourR sh rv), .un] = .nx [s, .bo (Rw 42), p, .va (.bl (due 42)), .va (.int 3), f, .va (.bl (due 42)), .ow (hdD 42), .ow (chD 42), .va (.int sh), .ow (fourR sh rv), .un] := fun s p f sh rv h => match sh, h with
  | 0, _ => by cases rv <;> kernel_rfl
  | 1, _ => by cases rv <;> kernel_rfl
  | 2, _ => by cases rv <;> kernel_rfl
  | 3, _ => by cases rv <;> kernel_rfl
  | n + 4, h => absurd h (by omega)
theorem F_42 : ∀ s p f s9 s10 : Slot, finK (GF [s, .bo (Rw 42), p, .va (.bl (due 42)), .va (.int 3), f, .va (.bl (due 42)), .ow (hdD 42), .ow (chD 42), s9, s10, .un]) = some s := fun s p f s9 s10 => by kernel_rfl
theorem R_43 : F__law_row [.va (.int (43 : Nat))] = .rt true (Rw 43) [.un] := by kernel_rfl
theorem G_43 : F_is_good [.bo (Rw 43)] = .rt false (.bl (due 43)) [.un] := by kernel_rfl
theorem A_43 : ∀ s p : Slot, GA [s, .bo (Rw 43), p, .un, .un, .un, .un, .un, .un, .un, .un, .un] = .nx [s, .bo (Rw 43), p, .va (.bl (due 43)), .va (.int 3), .un, .un, .un, .un, .un, .un, .un] := fun s p => by kernel_rfl
theorem B_43 : ∀ s : Slot, ∀ q : Bool, GB [s, .bo (Rw 43), .va (.bl q), .va (.bl (due 43)), .va (.int 3), .un, .un, .un, .un, .un, .un, .un] = .nx [s, .bo (Rw 43), .va (.bl q), .va (.bl (due 43)), .va (.int 3), frm q 43, .va (.bl (due 43)), .un, .un, .un, .un, .un] := fun s q => by cases q <;> kernel_rfl
theorem C_43 : ∀ s p f : Slot, GC [s, .bo (Rw 43), p, .va (.bl (due 43)), .va (.int 3), f, .va (.bl (due 43)), .un, .un, .un, .un, .un] = .nx [s, .bo (Rw 43), p, .va (.bl (due 43)), .va (.int 3), f, .va (.bl (due 43)), .ow (hdD 43), .ow (chD 43), .un, .un, .un] := fun s p f => by kernel_rfl
theorem E_43 : ∀ s p f : Slot, ∀ sh : Nat, ∀ rv : Bool, sh < 4 → g__law_kept_15 [s, .bo (Rw 43), p, .va (.bl (due 43)), .va (.int 3), f, .va (.bl (due 43)), .ow (hdD 43), .ow (chD 43), .va (.int sh), .ow (fourR sh rv), .un] = .nx [s, .bo (Rw 43), p, .va (.bl (due 43)), .va (.int 3), f, .va (.bl (due 43)), .ow (hdD 43), .ow (chD 43), .va (.int sh), .ow (fourR sh rv), .un] := fun s p f sh rv h => match sh, h with
  | 0, _ => by cases rv <;> kernel_rfl
  | 1, _ => by cases rv <;> kernel_rfl
  | 2, _ => by cases rv <;> kernel_rfl
  | 3, _ => by cases rv <;> kernel_rfl
  | n + 4, h => absurd h (by omega)
theorem F_43 : ∀ s p f s9 s10 : Slot, finK (GF [s, .bo (Rw 43), p, .va (.bl (due 43)), .va (.int 3), f, .va (.bl (due 43)), .ow (hdD 43), .ow (chD 43), s9, s10, .un]) = some s := fun s p f s9 s10 => by kernel_rfl
theorem R_44 : F__law_row [.va (.int (44 : Nat))] = .rt true (Rw 44) [.un] := by kernel_rfl
theorem G_44 : F_is_good [.bo (Rw 44)] = .rt false (.bl (due 44)) [.un] := by kernel_rfl
theorem A_44 : ∀ s p : Slot, GA [s, .bo (Rw 44), p, .un, .un, .un, .un, .un, .un, .un, .un, .un] = .nx [s, .bo (Rw 44), p, .va (.bl (due 44)), .va (.int 3), .un, .un, .un, .un, .un, .un, .un] := fun s p => by kernel_rfl
theorem B_44 : ∀ s : Slot, ∀ q : Bool, GB [s, .bo (Rw 44), .va (.bl q), .va (.bl (due 44)), .va (.int 3), .un, .un, .un, .un, .un, .un, .un] = .nx [s, .bo (Rw 44), .va (.bl q), .va (.bl (due 44)), .va (.int 3), frm q 44, .va (.bl (due 44)), .un, .un, .un, .un, .un] := fun s q => by cases q <;> kernel_rfl
theorem C_44 : ∀ s p f : Slot, GC [s, .bo (Rw 44), p, .va (.bl (due 44)), .va (.int 3), f, .va (.bl (due 44)), .un, .un, .un, .un, .un] = .nx [s, .bo (Rw 44), p, .va (.bl (due 44)), .va (.int 3), f, .va (.bl (due 44)), .ow (hdD 44), .ow (chD 44), .un, .un, .un] := fun s p f => by kernel_rfl
theorem E_44 : ∀ s p f : Slot, ∀ sh : Nat, ∀ rv : Bool, sh < 4 → g__law_kept_15 [s, .bo (Rw 44), p, .va (.bl (due 44)), .va (.int 3), f, .va (.bl (due 44)), .ow (hdD 44), .ow (chD 44), .va (.int sh), .ow (fourR sh rv), .un] = .nx [s, .bo (Rw 44), p, .va (.bl (due 44)), .va (.int 3), f, .va (.bl (due 44)), .ow (hdD 44), .ow (chD 44), .va (.int sh), .ow (fourR sh rv), .un] := fun s p f sh rv h => match sh, h with
  | 0, _ => by cases rv <;> kernel_rfl
  | 1, _ => by cases rv <;> kernel_rfl
  | 2, _ => by cases rv <;> kernel_rfl
  | 3, _ => by cases rv <;> kernel_rfl
  | n + 4, h => absurd h (by omega)
theorem F_44 : ∀ s p f s9 s10 : Slot, finK (GF [s, .bo (Rw 44), p, .va (.bl (due 44)), .va (.int 3), f, .va (.bl (due 44)), .ow (hdD 44), .ow (chD 44), s9, s10, .un]) = some s := fun s p f s9 s10 => by kernel_rfl
theorem R_45 : F__law_row [.va (.int (45 : Nat))] = .rt true (Rw 45) [.un] := by kernel_rfl
theorem G_45 : F_is_good [.bo (Rw 45)] = .rt false (.bl (due 45)) [.un] := by kernel_rfl
theorem A_45 : ∀ s p : Slot, GA [s, .bo (Rw 45), p, .un, .un, .un, .un, .un, .un, .un, .un, .un] = .nx [s, .bo (Rw 45), p, .va (.bl (due 45)), .va (.int 3), .un, .un, .un, .un, .un, .un, .un] := fun s p => by kernel_rfl
theorem B_45 : ∀ s : Slot, ∀ q : Bool, GB [s, .bo (Rw 45), .va (.bl q), .va (.bl (due 45)), .va (.int 3), .un, .un, .un, .un, .un, .un, .un] = .nx [s, .bo (Rw 45), .va (.bl q), .va (.bl (due 45)), .va (.int 3), frm q 45, .va (.bl (due 45)), .un, .un, .un, .un, .un] := fun s q => by cases q <;> kernel_rfl
theorem C_45 : ∀ s p f : Slot, GC [s, .bo (Rw 45), p, .va (.bl (due 45)), .va (.int 3), f, .va (.bl (due 45)), .un, .un, .un, .un, .un] = .nx [s, .bo (Rw 45), p, .va (.bl (due 45)), .va (.int 3), f, .va (.bl (due 45)), .ow (hdD 45), .ow (chD 45), .un, .un, .un] := fun s p f => by kernel_rfl
theorem E_45 : ∀ s p f : Slot, ∀ sh : Nat, ∀ rv : Bool, sh < 4 → g__law_kept_15 [s, .bo (Rw 45), p, .va (.bl (due 45)), .va (.int 3), f, .va (.bl (due 45)), .ow (hdD 45), .ow (chD 45), .va (.int sh), .ow (fourR sh rv), .un] = .nx [s, .bo (Rw 45), p, .va (.bl (due 45)), .va (.int 3), f, .va (.bl (due 45)), .ow (hdD 45), .ow (chD 45), .va (.int sh), .ow (fourR sh rv), .un] := fun s p f sh rv h => match sh, h with
  | 0, _ => by cases rv <;> kernel_rfl
  | 1, _ => by cases rv <;> kernel_rfl
  | 2, _ => by cases rv <;> kernel_rfl
  | 3, _ => by cases rv <;> kernel_rfl
  | n + 4, h => absurd h (by omega)
theorem F_45 : ∀ s p f s9 s10 : Slot, finK (GF [s, .bo (Rw 45), p, .va (.bl (due 45)), .va (.int 3), f, .va (.bl (due 45)), .ow (hdD 45), .ow (chD 45), s9, s10, .un]) = some s := fun s p f s9 s10 => by kernel_rfl
theorem R_46 : F__law_row [.va (.int (46 : Nat))] = .rt true (Rw 46) [.un] := by kernel_rfl
theorem G_46 : F_is_good [.bo (Rw 46)] = .rt false (.bl (due 46)) [.un] := by kernel_rfl
theorem A_46 : ∀ s p : Slot, GA [s, .bo (Rw 46), p, .un, .un, .un, .un, .un, .un, .un, .un, .un] = .nx [s, .bo (Rw 46), p, .va (.bl (due 46)), .va (.int 3), .un, .un, .un, .un, .un, .un, .un] := fun s p => by kernel_rfl
theorem B_46 : ∀ s : Slot, ∀ q : Bool, GB [s, .bo (Rw 46), .va (.bl q), .va (.bl (due 46)), .va (.int 3), .un, .un, .un, .un, .un, .un, .un] = .nx [s, .bo (Rw 46), .va (.bl q), .va (.bl (due 46)), .va (.int 3), frm q 46, .va (.bl (due 46)), .un, .un, .un, .un, .un] := fun s q => by cases q <;> kernel_rfl
theorem C_46 : ∀ s p f : Slot, GC [s, .bo (Rw 46), p, .va (.bl (due 46)), .va (.int 3), f, .va (.bl (due 46)), .un, .un, .un, .un, .un] = .nx [s, .bo (Rw 46), p, .va (.bl (due 46)), .va (.int 3), f, .va (.bl (due 46)), .ow (hdD 46), .ow (chD 46), .un, .un, .un] := fun s p f => by kernel_rfl
theorem E_46 : ∀ s p f : Slot, ∀ sh : Nat, ∀ rv : Bool, sh < 4 → g__law_kept_15 [s, .bo (Rw 46), p, .va (.bl (due 46)), .va (.int 3), f, .va (.bl (due 46)), .ow (hdD 46), .ow (chD 46), .va (.int sh), .ow (fourR sh rv), .un] = .nx [s, .bo (Rw 46), p, .va (.bl (due 46)), .va (.int 3), f, .va (.bl (due 46)), .ow (hdD 46), .ow (chD 46), .va (.int sh), .ow (fourR sh rv), .un] := fun s p f sh rv h => match sh, h with
  | 0, _ => by cases rv <;> kernel_rfl
  | 1, _ => by cases rv <;> kernel_rfl
  | 2, _ => by cases rv <;> kernel_rfl
  | 3, _ => by cases rv <;> kernel_rfl
  | n + 4, h => absurd h (by omega)
theorem F_46 : ∀ s p f s9 s10 : Slot, finK (GF [s, .bo (Rw 46), p, .va (.bl (due 46)), .va (.int 3), f, .va (.bl (due 46)), .ow (hdD 46), .ow (chD 46), s9, s10, .un]) = some s := fun s p f s9 s10 => by kernel_rfl
theorem R_47 : F__law_row [.va (.int (47 : Nat))] = .rt true (Rw 47) [.un] := by kernel_rfl
theorem G_47 : F_is_good [.bo (Rw 47)] = .rt false (.bl (due 47)) [.un] := by kernel_rfl
theorem A_47 : ∀ s p : Slot, GA [s, .bo (Rw 47), p, .un, .un, .un, .un, .un, .un, .un, .un, .un] = .nx [s, .bo (Rw 47), p, .va (.bl (due 47)), .va (.int 3), .un, .un, .un, .un, .un, .un, .un] := fun s p => by kernel_rfl
theorem B_47 : ∀ s : Slot, ∀ q : Bool, GB [s, .bo (Rw 47), .va (.bl q), .va (.bl (due 47)), .va (.int 3), .un, .un, .un, .un, .un, .un, .un] = .nx [s, .bo (Rw 47), .va (.bl q), .va (.bl (due 47)), .va (.int 3), frm q 47, .va (.bl (due 47)), .un, .un, .un, .un, .un] := fun s q => by cases q <;> kernel_rfl
theorem C_47 : ∀ s p f : Slot, GC [s, .bo (Rw 47), p, .va (.bl (due 47)), .va (.int 3), f, .va (.bl (due 47)), .un, .un, .un, .un, .un] = .nx [s, .bo (Rw 47), p, .va (.bl (due 47)), .va (.int 3), f, .va (.bl (due 47)), .ow (hdD 47), .ow (chD 47), .un, .un, .un] := fun s p f => by kernel_rfl
theorem E_47 : ∀ s p f : Slot, ∀ sh : Nat, ∀ rv : Bool, sh < 4 → g__law_kept_15 [s, .bo (Rw 47), p, .va (.bl (due 47)), .va (.int 3), f, .va (.bl (due 47)), .ow (hdD 47), .ow (chD 47), .va (.int sh), .ow (fourR sh rv), .un] = .nx [s, .bo (Rw 47), p, .va (.bl (due 47)), .va (.int 3), f, .va (.bl (due 47)), .ow (hdD 47), .ow (chD 47), .va (.int sh), .ow (fourR sh rv), .un] := fun s p f sh rv h => match sh, h with
  | 0, _ => by cases rv <;> kernel_rfl
  | 1, _ => by cases rv <;> kernel_rfl
  | 2, _ => by cases rv <;> kernel_rfl
  | 3, _ => by cases rv <;> kernel_rfl
  | n + 4, h => absurd h (by omega)
theorem F_47 : ∀ s p f s9 s10 : Slot, finK (GF [s, .bo (Rw 47), p, .va (.bl (due 47)), .va (.int 3), f, .va (.bl (due 47)), .ow (hdD 47), .ow (chD 47), s9, s10, .un]) = some s := fun s p f s9 s10 => by kernel_rfl
theorem R_48 : F__law_row [.va (.int (48 : Nat))] = .rt true (Rw 48) [.un] := by kernel_rfl
theorem G_48 : F_is_good [.bo (Rw 48)] = .rt false (.bl (due 48)) [.un] := by kernel_rfl
theorem A_48 : ∀ s p : Slot, GA [s, .bo (Rw 48), p, .un, .un, .un, .un, .un, .un, .un, .un, .un] = .nx [s, .bo (Rw 48), p, .va (.bl (due 48)), .va (.int 3), .un, .un, .un, .un, .un, .un, .un] := fun s p => by kernel_rfl
theorem B_48 : ∀ s : Slot, ∀ q : Bool, GB [s, .bo (Rw 48), .va (.bl q), .va (.bl (due 48)), .va (.int 3), .un, .un, .un, .un, .un, .un, .un] = .nx [s, .bo (Rw 48), .va (.bl q), .va (.bl (due 48)), .va (.int 3), frm q 48, .va (.bl (due 48)), .un, .un, .un, .un, .un] := fun s q => by cases q <;> kernel_rfl
theorem C_48 : ∀ s p f : Slot, GC [s, .bo (Rw 48), p, .va (.bl (due 48)), .va (.int 3), f, .va (.bl (due 48)), .un, .un, .un, .un, .un] = .nx [s, .bo (Rw 48), p, .va (.bl (due 48)), .va (.int 3), f, .va (.bl (due 48)), .ow (hdD 48), .ow (chD 48), .un, .un, .un] := fun s p f => by kernel_rfl
theorem E_48 : ∀ s p f : Slot, ∀ sh : Nat, ∀ rv : Bool, sh < 4 → g__law_kept_15 [s, .bo (Rw 48), p, .va (.bl (due 48)), .va (.int 3), f, .va (.bl (due 48)), .ow (hdD 48), .ow (chD 48), .va (.int sh), .ow (fourR sh rv), .un] = .nx [s, .bo (Rw 48), p, .va (.bl (due 48)), .va (.int 3), f, .va (.bl (due 48)), .ow (hdD 48), .ow (chD 48), .va (.int sh), .ow (fourR sh rv), .un] := fun s p f sh rv h => match sh, h with
  | 0, _ => by cases rv <;> kernel_rfl
  | 1, _ => by cases rv <;> kernel_rfl
  | 2, _ => by cases rv <;> kernel_rfl
  | 3, _ => by cases rv <;> kernel_rfl
  | n + 4, h => absurd h (by omega)
theorem F_48 : ∀ s p f s9 s10 : Slot, finK (GF [s, .bo (Rw 48), p, .va (.bl (due 48)), .va (.int 3), f, .va (.bl (due 48)), .ow (hdD 48), .ow (chD 48), s9, s10, .un]) = some s := fun s p f s9 s10 => by kernel_rfl
theorem R_49 : F__law_row [.va (.int (49 : Nat))] = .rt true (Rw 49) [.un] := by kernel_rfl
theorem G_49 : F_is_good [.bo (Rw 49)] = .rt false (.bl (due 49)) [.un] := by kernel_rfl
theorem A_49 : ∀ s p : Slot, GA [s, .bo (Rw 49), p, .un, .un, .un, .un, .un, .un, .un, .un, .un] = .nx [s, .bo (Rw 49), p, .va (.bl (due 49)), .va (.int 3), .un, .un, .un, .un, .un, .un, .un] := fun s p => by kernel_rfl
theorem B_49 : ∀ s : Slot, ∀ q : Bool, GB [s, .bo (Rw 49), .va (.bl q), .va (.bl (due 49)), .va (.int 3), .un, .un, .un, .un, .un, .un, .un] = .nx [s, .bo (Rw 49), .va (.bl q), .va (.bl (due 49)), .va (.int 3), frm q 49, .va (.bl (due 49)), .un, .un, .un, .un, .un] := fun s q => by cases q <;> kernel_rfl
theorem C_49 : ∀ s p f : Slot, GC [s, .bo (Rw 49), p, .va (.bl (due 49)), .va (.int 3), f, .va (.bl (due 49)), .un, .un, .un, .un, .un] = .nx [s, .bo (Rw 49), p, .va (.bl (due 49)), .va (.int 3), f, .va (.bl (due 49)), .ow (hdD 49), .ow (chD 49), .un, .un, .un] := fun s p f => by kernel_rfl
theorem E_49 : ∀ s p f : Slot, ∀ sh : Nat, ∀ rv : Bool, sh < 4 → g__law_kept_15 [s, .bo (Rw 49), p, .va (.bl (due 49)), .va (.int 3), f, .va (.bl (due 49)), .ow (hdD 49), .ow (chD 49), .va (.int sh), .ow (fourR sh rv), .un] = .nx [s, .bo (Rw 49), p, .va (.bl (due 49)), .va (.int 3), f, .va (.bl (due 49)), .ow (hdD 49), .ow (chD 49), .va (.int sh), .ow (fourR sh rv), .un] := fun s p f sh rv h => match sh, h with
  | 0, _ => by cases rv <;> kernel_rfl
  | 1, _ => by cases rv <;> kernel_rfl
  | 2, _ => by cases rv <;> kernel_rfl
  | 3, _ => by cases rv <;> kernel_rfl
  | n + 4, h => absurd h (by omega)
theorem F_49 : ∀ s p f s9 s10 : Slot, finK (GF [s, .bo (Rw 49), p, .va (.bl (due 49)), .va (.int 3), f, .va (.bl (due 49)), .ow (hdD 49), .ow (chD 49), s9, s10, .un]) = some s := fun s p f s9 s10 => by kernel_rfl
theorem R_50 : F__law_row [.va (.int (50 : Nat))] = .rt true (Rw 50) [.un] := by kernel_rfl
theorem G_50 : F_is_good [.bo (Rw 50)] = .rt false (.bl (due 50)) [.un] := by kernel_rfl
theorem A_50 : ∀ s p : Slot, GA [s, .bo (Rw 50), p, .un, .un, .un, .un, .un, .un, .un, .un, .un] = .nx [s, .bo (Rw 50), p, .va (.bl (due 50)), .va (.int 3), .un, .un, .un, .un, .un, .un, .un] := fun s p => by kernel_rfl
theorem B_50 : ∀ s : Slot, ∀ q : Bool, GB [s, .bo (Rw 50), .va (.bl q), .va (.bl (due 50)), .va (.int 3), .un, .un, .un, .un, .un, .un, .un] = .nx [s, .bo (Rw 50), .va (.bl q), .va (.bl (due 50)), .va (.int 3), frm q 50, .va (.bl (due 50)), .un, .un, .un, .un, .un] := fun s q => by cases q <;> kernel_rfl
theorem C_50 : ∀ s p f : Slot, GC [s, .bo (Rw 50), p, .va (.bl (due 50)), .va (.int 3), f, .va (.bl (due 50)), .un, .un, .un, .un, .un] = .nx [s, .bo (Rw 50), p, .va (.bl (due 50)), .va (.int 3), f, .va (.bl (due 50)), .ow (hdD 50), .ow (chD 50), .un, .un, .un] := fun s p f => by kernel_rfl
theorem E_50 : ∀ s p f : Slot, ∀ sh : Nat, ∀ rv : Bool, sh < 4 → g__law_kept_15 [s, .bo (Rw 50), p, .va (.bl (due 50)), .va (.int 3), f, .va (.bl (due 50)), .ow (hdD 50), .ow (chD 50), .va (.int sh), .ow (fourR sh rv), .un] = .nx [s, .bo (Rw 50), p, .va (.bl (due 50)), .va (.int 3), f, .va (.bl (due 50)), .ow (hdD 50), .ow (chD 50), .va (.int sh), .ow (fourR sh rv), .un] := fun s p f sh rv h => match sh, h with
  | 0, _ => by cases rv <;> kernel_rfl
  | 1, _ => by cases rv <;> kernel_rfl
  | 2, _ => by cases rv <;> kernel_rfl
  | 3, _ => by cases rv <;> kernel_rfl
  | n + 4, h => absurd h (by omega)
theorem F_50 : ∀ s p f s9 s10 : Slot, finK (GF [s, .bo (Rw 50), p, .va (.bl (due 50)), .va (.int 3), f, .va (.bl (due 50)), .ow (hdD 50), .ow (chD 50), s9, s10, .un]) = some s := fun s p f s9 s10 => by kernel_rfl
theorem R_51 : F__law_row [.va (.int (51 : Nat))] = .rt true (Rw 51) [.un] := by kernel_rfl
theorem G_51 : F_is_good [.bo (Rw 51)] = .rt false (.bl (due 51)) [.un] := by kernel_rfl
theorem A_51 : ∀ s p : Slot, GA [s, .bo (Rw 51), p, .un, .un, .un, .un, .un, .un, .un, .un, .un] = .nx [s, .bo (Rw 51), p, .va (.bl (due 51)), .va (.int 3), .un, .un, .un, .un, .un, .un, .un] := fun s p => by kernel_rfl
theorem B_51 : ∀ s : Slot, ∀ q : Bool, GB [s, .bo (Rw 51), .va (.bl q), .va (.bl (due 51)), .va (.int 3), .un, .un, .un, .un, .un, .un, .un] = .nx [s, .bo (Rw 51), .va (.bl q), .va (.bl (due 51)), .va (.int 3), frm q 51, .va (.bl (due 51)), .un, .un, .un, .un, .un] := fun s q => by cases q <;> kernel_rfl
theorem C_51 : ∀ s p f : Slot, GC [s, .bo (Rw 51), p, .va (.bl (due 51)), .va (.int 3), f, .va (.bl (due 51)), .un, .un, .un, .un, .un] = .nx [s, .bo (Rw 51), p, .va (.bl (due 51)), .va (.int 3), f, .va (.bl (due 51)), .ow (hdD 51), .ow (chD 51), .un, .un, .un] := fun s p f => by kernel_rfl
theorem E_51 : ∀ s p f : Slot, ∀ sh : Nat, ∀ rv : Bool, sh < 4 → g__law_kept_15 [s, .bo (Rw 51), p, .va (.bl (due 51)), .va (.int 3), f, .va (.bl (due 51)), .ow (hdD 51), .ow (chD 51), .va (.int sh), .ow (fourR sh rv), .un] = .nx [s, .bo (Rw 51), p, .va (.bl (due 51)), .va (.int 3), f, .va (.bl (due 51)), .ow (hdD 51), .ow (chD 51), .va (.int sh), .ow (fourR sh rv), .un] := fun s p f sh rv h => match sh, h with
  | 0, _ => by cases rv <;> kernel_rfl
  | 1, _ => by cases rv <;> kernel_rfl
  | 2, _ => by cases rv <;> kernel_rfl
  | 3, _ => by cases rv <;> kernel_rfl
  | n + 4, h => absurd h (by omega)
theorem F_51 : ∀ s p f s9 s10 : Slot, finK (GF [s, .bo (Rw 51), p, .va (.bl (due 51)), .va (.int 3), f, .va (.bl (due 51)), .ow (hdD 51), .ow (chD 51), s9, s10, .un]) = some s := fun s p f s9 s10 => by kernel_rfl
theorem R_52 : F__law_row [.va (.int (52 : Nat))] = .rt true (Rw 52) [.un] := by kernel_rfl
theorem G_52 : F_is_good [.bo (Rw 52)] = .rt false (.bl (due 52)) [.un] := by kernel_rfl
theorem A_52 : ∀ s p : Slot, GA [s, .bo (Rw 52), p, .un, .un, .un, .un, .un, .un, .un, .un, .un] = .nx [s, .bo (Rw 52), p, .va (.bl (due 52)), .va (.int 3), .un, .un, .un, .un, .un, .un, .un] := fun s p => by kernel_rfl
theorem B_52 : ∀ s : Slot, ∀ q : Bool, GB [s, .bo (Rw 52), .va (.bl q), .va (.bl (due 52)), .va (.int 3), .un, .un, .un, .un, .un, .un, .un] = .nx [s, .bo (Rw 52), .va (.bl q), .va (.bl (due 52)), .va (.int 3), frm q 52, .va (.bl (due 52)), .un, .un, .un, .un, .un] := fun s q => by cases q <;> kernel_rfl
theorem C_52 : ∀ s p f : Slot, GC [s, .bo (Rw 52), p, .va (.bl (due 52)), .va (.int 3), f, .va (.bl (due 52)), .un, .un, .un, .un, .un] = .nx [s, .bo (Rw 52), p, .va (.bl (due 52)), .va (.int 3), f, .va (.bl (due 52)), .ow (hdD 52), .ow (chD 52), .un, .un, .un] := fun s p f => by kernel_rfl
theorem E_52 : ∀ s p f : Slot, ∀ sh : Nat, ∀ rv : Bool, sh < 4 → g__law_kept_15 [s, .bo (Rw 52), p, .va (.bl (due 52)), .va (.int 3), f, .va (.bl (due 52)), .ow (hdD 52), .ow (chD 52), .va (.int sh), .ow (fourR sh rv), .un] = .nx [s, .bo (Rw 52), p, .va (.bl (due 52)), .va (.int 3), f, .va (.bl (due 52)), .ow (hdD 52), .ow (chD 52), .va (.int sh), .ow (fourR sh rv), .un] := fun s p f sh rv h => match sh, h with
  | 0, _ => by cases rv <;> kernel_rfl
  | 1, _ => by cases rv <;> kernel_rfl
  | 2, _ => by cases rv <;> kernel_rfl
  | 3, _ => by cases rv <;> kernel_rfl
  | n + 4, h => absurd h (by omega)
theorem F_52 : ∀ s p f s9 s10 : Slot, finK (GF [s, .bo (Rw 52), p, .va (.bl (due 52)), .va (.int 3), f, .va (.bl (due 52)), .ow (hdD 52), .ow (chD 52), s9, s10, .un]) = some s := fun s p f s9 s10 => by kernel_rfl
theorem R_53 : F__law_row [.va (.int (53 : Nat))] = .rt true (Rw 53) [.un] := by kernel_rfl
theorem G_53 : F_is_good [.bo (Rw 53)] = .rt false (.bl (due 53)) [.un] := by kernel_rfl
theorem A_53 : ∀ s p : Slot, GA [s, .bo (Rw 53), p, .un, .un, .un, .un, .un, .un, .un, .un, .un] = .nx [s, .bo (Rw 53), p, .va (.bl (due 53)), .va (.int 3), .un, .un, .un, .un, .un, .un, .un] := fun s p => by kernel_rfl
theorem B_53 : ∀ s : Slot, ∀ q : Bool, GB [s, .bo (Rw 53), .va (.bl q), .va (.bl (due 53)), .va (.int 3), .un, .un, .un, .un, .un, .un, .un] = .nx [s, .bo (Rw 53), .va (.bl q), .va (.bl (due 53)), .va (.int 3), frm q 53, .va (.bl (due 53)), .un, .un, .un, .un, .un] := fun s q => by cases q <;> kernel_rfl
theorem C_53 : ∀ s p f : Slot, GC [s, .bo (Rw 53), p, .va (.bl (due 53)), .va (.int 3), f, .va (.bl (due 53)), .un, .un, .un, .un, .un] = .nx [s, .bo (Rw 53), p, .va (.bl (due 53)), .va (.int 3), f, .va (.bl (due 53)), .ow (hdD 53), .ow (chD 53), .un, .un, .un] := fun s p f => by kernel_rfl
theorem E_53 : ∀ s p f : Slot, ∀ sh : Nat, ∀ rv : Bool, sh < 4 → g__law_kept_15 [s, .bo (Rw 53), p, .va (.bl (due 53)), .va (.int 3), f, .va (.bl (due 53)), .ow (hdD 53), .ow (chD 53), .va (.int sh), .ow (fourR sh rv), .un] = .nx [s, .bo (Rw 53), p, .va (.bl (due 53)), .va (.int 3), f, .va (.bl (due 53)), .ow (hdD 53), .ow (chD 53), .va (.int sh), .ow (fourR sh rv), .un] := fun s p f sh rv h => match sh, h with
  | 0, _ => by cases rv <;> kernel_rfl
  | 1, _ => by cases rv <;> kernel_rfl
  | 2, _ => by cases rv <;> kernel_rfl
  | 3, _ => by cases rv <;> kernel_rfl
  | n + 4, h => absurd h (by omega)
theorem F_53 : ∀ s p f s9 s10 : Slot, finK (GF [s, .bo (Rw 53), p, .va (.bl (due 53)), .va (.int 3), f, .va (.bl (due 53)), .ow (hdD 53), .ow (chD 53), s9, s10, .un]) = some s := fun s p f s9 s10 => by kernel_rfl
theorem R_54 : F__law_row [.va (.int (54 : Nat))] = .rt true (Rw 54) [.un] := by kernel_rfl
theorem G_54 : F_is_good [.bo (Rw 54)] = .rt false (.bl (due 54)) [.un] := by kernel_rfl
theorem A_54 : ∀ s p : Slot, GA [s, .bo (Rw 54), p, .un, .un, .un, .un, .un, .un, .un, .un, .un] = .nx [s, .bo (Rw 54), p, .va (.bl (due 54)), .va (.int 3), .un, .un, .un, .un, .un, .un, .un] := fun s p => by kernel_rfl
theorem B_54 : ∀ s : Slot, ∀ q : Bool, GB [s, .bo (Rw 54), .va (.bl q), .va (.bl (due 54)), .va (.int 3), .un, .un, .un, .un, .un, .un, .un] = .nx [s, .bo (Rw 54), .va (.bl q), .va (.bl (due 54)), .va (.int 3), frm q 54, .va (.bl (due 54)), .un, .un, .un, .un, .un] := fun s q => by cases q <;> kernel_rfl
theorem C_54 : ∀ s p f : Slot, GC [s, .bo (Rw 54), p, .va (.bl (due 54)), .va (.int 3), f, .va (.bl (due 54)), .un, .un, .un, .un, .un] = .nx [s, .bo (Rw 54), p, .va (.bl (due 54)), .va (.int 3), f, .va (.bl (due 54)), .ow (hdD 54), .ow (chD 54), .un, .un, .un] := fun s p f => by kernel_rfl
theorem E_54 : ∀ s p f : Slot, ∀ sh : Nat, ∀ rv : Bool, sh < 4 → g__law_kept_15 [s, .bo (Rw 54), p, .va (.bl (due 54)), .va (.int 3), f, .va (.bl (due 54)), .ow (hdD 54), .ow (chD 54), .va (.int sh), .ow (fourR sh rv), .un] = .nx [s, .bo (Rw 54), p, .va (.bl (due 54)), .va (.int 3), f, .va (.bl (due 54)), .ow (hdD 54), .ow (chD 54), .va (.int sh), .ow (fourR sh rv), .un] := fun s p f sh rv h => match sh, h with
  | 0, _ => by cases rv <;> kernel_rfl
  | 1, _ => by cases rv <;> kernel_rfl
  | 2, _ => by cases rv <;> kernel_rfl
  | 3, _ => by cases rv <;> kernel_rfl
  | n + 4, h => absurd h (by omega)
theorem F_54 : ∀ s p f s9 s10 : Slot, finK (GF [s, .bo (Rw 54), p, .va (.bl (due 54)), .va (.int 3), f, .va (.bl (due 54)), .ow (hdD 54), .ow (chD 54), s9, s10, .un]) = some s := fun s p f s9 s10 => by kernel_rfl
theorem R_55 : F__law_row [.va (.int (55 : Nat))] = .rt true (Rw 55) [.un] := by kernel_rfl
theorem G_55 : F_is_good [.bo (Rw 55)] = .rt false (.bl (due 55)) [.un] := by kernel_rfl
theorem A_55 : ∀ s p : Slot, GA [s, .bo (Rw 55), p, .un, .un, .un, .un, .un, .un, .un, .un, .un] = .nx [s, .bo (Rw 55), p, .va (.bl (due 55)), .va (.int 3), .un, .un, .un, .un, .un, .un, .un] := fun s p => by kernel_rfl
theorem B_55 : ∀ s : Slot, ∀ q : Bool, GB [s, .bo (Rw 55), .va (.bl q), .va (.bl (due 55)), .va (.int 3), .un, .un, .un, .un, .un, .un, .un] = .nx [s, .bo (Rw 55), .va (.bl q), .va (.bl (due 55)), .va (.int 3), frm q 55, .va (.bl (due 55)), .un, .un, .un, .un, .un] := fun s q => by cases q <;> kernel_rfl
theorem C_55 : ∀ s p f : Slot, GC [s, .bo (Rw 55), p, .va (.bl (due 55)), .va (.int 3), f, .va (.bl (due 55)), .un, .un, .un, .un, .un] = .nx [s, .bo (Rw 55), p, .va (.bl (due 55)), .va (.int 3), f, .va (.bl (due 55)), .ow (hdD 55), .ow (chD 55), .un, .un, .un] := fun s p f => by kernel_rfl
theorem E_55 : ∀ s p f : Slot, ∀ sh : Nat, ∀ rv : Bool, sh < 4 → g__law_kept_15 [s, .bo (Rw 55), p, .va (.bl (due 55)), .va (.int 3), f, .va (.bl (due 55)), .ow (hdD 55), .ow (chD 55), .va (.int sh), .ow (fourR sh rv), .un] = .nx [s, .bo (Rw 55), p, .va (.bl (due 55)), .va (.int 3), f, .va (.bl (due 55)), .ow (hdD 55), .ow (chD 55), .va (.int sh), .ow (fourR sh rv), .un] := fun s p f sh rv h => match sh, h with
  | 0, _ => by cases rv <;> kernel_rfl
  | 1, _ => by cases rv <;> kernel_rfl
  | 2, _ => by cases rv <;> kernel_rfl
  | 3, _ => by cases rv <;> kernel_rfl
  | n + 4, h => absurd h (by omega)
theorem F_55 : ∀ s p f s9 s10 : Slot, finK (GF [s, .bo (Rw 55), p, .va (.bl (due 55)), .va (.int 3), f, .va (.bl (due 55)), .ow (hdD 55), .ow (chD 55), s9, s10, .un]) = some s := fun s p f s9 s10 => by kernel_rfl
theorem R_56 : F__law_row [.va (.int (56 : Nat))] = .rt true (Rw 56) [.un] := by kernel_rfl
theorem G_56 : F_is_good [.bo (Rw 56)] = .rt false (.bl (due 56)) [.un] := by kernel_rfl
theorem A_56 : ∀ s p : Slot, GA [s, .bo (Rw 56), p, .un, .un, .un, .un, .un, .un, .un, .un, .un] = .nx [s, .bo (Rw 56), p, .va (.bl (due 56)), .va (.int 3), .un, .un, .un, .un, .un, .un, .un] := fun s p => by kernel_rfl
theorem B_56 : ∀ s : Slot, ∀ q : Bool, GB [s, .bo (Rw 56), .va (.bl q), .va (.bl (due 56)), .va (.int 3), .un, .un, .un, .un, .un, .un, .un] = .nx [s, .bo (Rw 56), .va (.bl q), .va (.bl (due 56)), .va (.int 3), frm q 56, .va (.bl (due 56)), .un, .un, .un, .un, .un] := fun s q => by cases q <;> kernel_rfl
theorem C_56 : ∀ s p f : Slot, GC [s, .bo (Rw 56), p, .va (.bl (due 56)), .va (.int 3), f, .va (.bl (due 56)), .un, .un, .un, .un, .un] = .nx [s, .bo (Rw 56), p, .va (.bl (due 56)), .va (.int 3), f, .va (.bl (due 56)), .ow (hdD 56), .ow (chD 56), .un, .un, .un] := fun s p f => by kernel_rfl
theorem E_56 : ∀ s p f : Slot, ∀ sh : Nat, ∀ rv : Bool, sh < 4 → g__law_kept_15 [s, .bo (Rw 56), p, .va (.bl (due 56)), .va (.int 3), f, .va (.bl (due 56)), .ow (hdD 56), .ow (chD 56), .va (.int sh), .ow (fourR sh rv), .un] = .nx [s, .bo (Rw 56), p, .va (.bl (due 56)), .va (.int 3), f, .va (.bl (due 56)), .ow (hdD 56), .ow (chD 56), .va (.int sh), .ow (fourR sh rv), .un] := fun s p f sh rv h => match sh, h with
  | 0, _ => by cases rv <;> kernel_rfl
  | 1, _ => by cases rv <;> kernel_rfl
  | 2, _ => by cases rv <;> kernel_rfl
  | 3, _ => by cases rv <;> kernel_rfl
  | n + 4, h => absurd h (by omega)
theorem F_56 : ∀ s p f s9 s10 : Slot, finK (GF [s, .bo (Rw 56), p, .va (.bl (due 56)), .va (.int 3), f, .va (.bl (due 56)), .ow (hdD 56), .ow (chD 56), s9, s10, .un]) = some s := fun s p f s9 s10 => by kernel_rfl
theorem R_57 : F__law_row [.va (.int (57 : Nat))] = .rt true (Rw 57) [.un] := by kernel_rfl
theorem G_57 : F_is_good [.bo (Rw 57)] = .rt false (.bl (due 57)) [.un] := by kernel_rfl
theorem A_57 : ∀ s p : Slot, GA [s, .bo (Rw 57), p, .un, .un, .un, .un, .un, .un, .un, .un, .un] = .nx [s, .bo (Rw 57), p, .va (.bl (due 57)), .va (.int 3), .un, .un, .un, .un, .un, .un, .un] := fun s p => by kernel_rfl
theorem B_57 : ∀ s : Slot, ∀ q : Bool, GB [s, .bo (Rw 57), .va (.bl q), .va (.bl (due 57)), .va (.int 3), .un, .un, .un, .un, .un, .un, .un] = .nx [s, .bo (Rw 57), .va (.bl q), .va (.bl (due 57)), .va (.int 3), frm q 57, .va (.bl (due 57)), .un, .un, .un, .un, .un] := fun s q => by cases q <;> kernel_rfl
theorem C_57 : ∀ s p f : Slot, GC [s, .bo (Rw 57), p, .va (.bl (due 57)), .va (.int 3), f, .va (.bl (due 57)), .un, .un, .un, .un, .un] = .nx [s, .bo (Rw 57), p, .va (.bl (due 57)), .va (.int 3), f, .va (.bl (due 57)), .ow (hdD 57), .ow (chD 57), .un, .un, .un] := fun s p f => by kernel_rfl
theorem E_57 : ∀ s p f : Slot, ∀ sh : Nat, ∀ rv : Bool, sh < 4 → g__law_kept_15 [s, .bo (Rw 57), p, .va (.bl (due 57)), .va (.int 3), f, .va (.bl (due 57)), .ow (hdD 57), .ow (chD 57), .va (.int sh), .ow (fourR sh rv), .un] = .nx [s, .bo (Rw 57), p, .va (.bl (due 57)), .va (.int 3), f, .va (.bl (due 57)), .ow (hdD 57), .ow (chD 57), .va (.int sh), .ow (fourR sh rv), .un] := fun s p f sh rv h => match sh, h with
  | 0, _ => by cases rv <;> kernel_rfl
  | 1, _ => by cases rv <;> kernel_rfl
  | 2, _ => by cases rv <;> kernel_rfl
  | 3, _ => by cases rv <;> kernel_rfl
  | n + 4, h => absurd h (by omega)
theorem F_57 : ∀ s p f s9 s10 : Slot, finK (GF [s, .bo (Rw 57), p, .va (.bl (due 57)), .va (.int 3), f, .va (.bl (due 57)), .ow (hdD 57), .ow (chD 57), s9, s10, .un]) = some s := fun s p f s9 s10 => by kernel_rfl
theorem R_58 : F__law_row [.va (.int (58 : Nat))] = .rt true (Rw 58) [.un] := by kernel_rfl
theorem G_58 : F_is_good [.bo (Rw 58)] = .rt false (.bl (due 58)) [.un] := by kernel_rfl
theorem A_58 : ∀ s p : Slot, GA [s, .bo (Rw 58), p, .un, .un, .un, .un, .un, .un, .un, .un, .un] = .nx [s, .bo (Rw 58), p, .va (.bl (due 58)), .va (.int 3), .un, .un, .un, .un, .un, .un, .un] := fun s p => by kernel_rfl
theorem B_58 : ∀ s : Slot, ∀ q : Bool, GB [s, .bo (Rw 58), .va (.bl q), .va (.bl (due 58)), .va (.int 3), .un, .un, .un, .un, .un, .un, .un] = .nx [s, .bo (Rw 58), .va (.bl q), .va (.bl (due 58)), .va (.int 3), frm q 58, .va (.bl (due 58)), .un, .un, .un, .un, .un] := fun s q => by cases q <;> kernel_rfl
theorem C_58 : ∀ s p f : Slot, GC [s, .bo (Rw 58), p, .va (.bl (due 58)), .va (.int 3), f, .va (.bl (due 58)), .un, .un, .un, .un, .un] = .nx [s, .bo (Rw 58), p, .va (.bl (due 58)), .va (.int 3), f, .va (.bl (due 58)), .ow (hdD 58), .ow (chD 58), .un, .un, .un] := fun s p f => by kernel_rfl
theorem E_58 : ∀ s p f : Slot, ∀ sh : Nat, ∀ rv : Bool, sh < 4 → g__law_kept_15 [s, .bo (Rw 58), p, .va (.bl (due 58)), .va (.int 3), f, .va (.bl (due 58)), .ow (hdD 58), .ow (chD 58), .va (.int sh), .ow (fourR sh rv), .un] = .nx [s, .bo (Rw 58), p, .va (.bl (due 58)), .va (.int 3), f, .va (.bl (due 58)), .ow (hdD 58), .ow (chD 58), .va (.int sh), .ow (fourR sh rv), .un] := fun s p f sh rv h => match sh, h with
  | 0, _ => by cases rv <;> kernel_rfl
  | 1, _ => by cases rv <;> kernel_rfl
  | 2, _ => by cases rv <;> kernel_rfl
  | 3, _ => by cases rv <;> kernel_rfl
  | n + 4, h => absurd h (by omega)
theorem F_58 : ∀ s p f s9 s10 : Slot, finK (GF [s, .bo (Rw 58), p, .va (.bl (due 58)), .va (.int 3), f, .va (.bl (due 58)), .ow (hdD 58), .ow (chD 58), s9, s10, .un]) = some s := fun s p f s9 s10 => by kernel_rfl
theorem R_59 : F__law_row [.va (.int (59 : Nat))] = .rt true (Rw 59) [.un] := by kernel_rfl
theorem G_59 : F_is_good [.bo (Rw 59)] = .rt false (.bl (due 59)) [.un] := by kernel_rfl
theorem A_59 : ∀ s p : Slot, GA [s, .bo (Rw 59), p, .un, .un, .un, .un, .un, .un, .un, .un, .un] = .nx [s, .bo (Rw 59), p, .va (.bl (due 59)), .va (.int 3), .un, .un, .un, .un, .un, .un, .un] := fun s p => by kernel_rfl
theorem B_59 : ∀ s : Slot, ∀ q : Bool, GB [s, .bo (Rw 59), .va (.bl q), .va (.bl (due 59)), .va (.int 3), .un, .un, .un, .un, .un, .un, .un] = .nx [s, .bo (Rw 59), .va (.bl q), .va (.bl (due 59)), .va (.int 3), frm q 59, .va (.bl (due 59)), .un, .un, .un, .un, .un] := fun s q => by cases q <;> kernel_rfl
theorem C_59 : ∀ s p f : Slot, GC [s, .bo (Rw 59), p, .va (.bl (due 59)), .va (.int 3), f, .va (.bl (due 59)), .un, .un, .un, .un, .un] = .nx [s, .bo (Rw 59), p, .va (.bl (due 59)), .va (.int 3), f, .va (.bl (due 59)), .ow (hdD 59), .ow (chD 59), .un, .un, .un] := fun s p f => by kernel_rfl
theorem E_59 : ∀ s p f : Slot, ∀ sh : Nat, ∀ rv : Bool, sh < 4 → g__law_kept_15 [s, .bo (Rw 59), p, .va (.bl (due 59)), .va (.int 3), f, .va (.bl (due 59)), .ow (hdD 59), .ow (chD 59), .va (.int sh), .ow (fourR sh rv), .un] = .nx [s, .bo (Rw 59), p, .va (.bl (due 59)), .va (.int 3), f, .va (.bl (due 59)), .ow (hdD 59), .ow (chD 59), .va (.int sh), .ow (fourR sh rv), .un] := fun s p f sh rv h => match sh, h with
  | 0, _ => by cases rv <;> kernel_rfl
  | 1, _ => by cases rv <;> kernel_rfl
  | 2, _ => by cases rv <;> kernel_rfl
  | 3, _ => by cases rv <;> kernel_rfl
  | n + 4, h => absurd h (by omega)
theorem F_59 : ∀ s p f s9 s10 : Slot, finK (GF [s, .bo (Rw 59), p, .va (.bl (due 59)), .va (.int 3), f, .va (.bl (due 59)), .ow (hdD 59), .ow (chD 59), s9, s10, .un]) = some s := fun s p f s9 s10 => by kernel_rfl
theorem R_60 : F__law_row [.va (.int (60 : Nat))] = .rt true (Rw 60) [.un] := by kernel_rfl
theorem G_60 : F_is_good [.bo (Rw 60)] = .rt false (.bl (due 60)) [.un] := by kernel_rfl
theorem A_60 : ∀ s p : Slot, GA [s, .bo (Rw 60), p, .un, .un, .un, .un, .un, .un, .un, .un, .un] = .nx [s, .bo (Rw 60), p, .va (.bl (due 60)), .va (.int 3), .un, .un, .un, .un, .un, .un, .un] := fun s p => by kernel_rfl
theorem B_60 : ∀ s : Slot, ∀ q : Bool, GB [s, .bo (Rw 60), .va (.bl q), .va (.bl (due 60)), .va (.int 3), .un, .un, .un, .un, .un, .un, .un] = .nx [s, .bo (Rw 60), .va (.bl q), .va (.bl (due 60)), .va (.int 3), frm q 60, .va (.bl (due 60)), .un, .un, .un, .un, .un] := fun s q => by cases q <;> kernel_rfl
theorem C_60 : ∀ s p f : Slot, GC [s, .bo (Rw 60), p, .va (.bl (due 60)), .va (.int 3), f, .va (.bl (due 60)), .un, .un, .un, .un, .un] = .nx [s, .bo (Rw 60), p, .va (.bl (due 60)), .va (.int 3), f, .va (.bl (due 60)), .ow (hdD 60), .ow (chD 60), .un, .un, .un] := fun s p f => by kernel_rfl
theorem E_60 : ∀ s p f : Slot, ∀ sh : Nat, ∀ rv : Bool, sh < 4 → g__law_kept_15 [s, .bo (Rw 60), p, .va (.bl (due 60)), .va (.int 3), f, .va (.bl (due 60)), .ow (hdD 60), .ow (chD 60), .va (.int sh), .ow (fourR sh rv), .un] = .nx [s, .bo (Rw 60), p, .va (.bl (due 60)), .va (.int 3), f, .va (.bl (due 60)), .ow (hdD 60), .ow (chD 60), .va (.int sh), .ow (fourR sh rv), .un] := fun s p f sh rv h => match sh, h with
  | 0, _ => by cases rv <;> kernel_rfl
  | 1, _ => by cases rv <;> kernel_rfl
  | 2, _ => by cases rv <;> kernel_rfl
  | 3, _ => by cases rv <;> kernel_rfl
  | n + 4, h => absurd h (by omega)
theorem F_60 : ∀ s p f s9 s10 : Slot, finK (GF [s, .bo (Rw 60), p, .va (.bl (due 60)), .va (.int 3), f, .va (.bl (due 60)), .ow (hdD 60), .ow (chD 60), s9, s10, .un]) = some s := fun s p f s9 s10 => by kernel_rfl
theorem R_61 : F__law_row [.va (.int (61 : Nat))] = .rt true (Rw 61) [.un] := by kernel_rfl
theorem G_61 : F_is_good [.bo (Rw 61)] = .rt false (.bl (due 61)) [.un] := by kernel_rfl
theorem A_61 : ∀ s p : Slot, GA [s, .bo (Rw 61), p, .un, .un, .un, .un, .un, .un, .un, .un, .un] = .nx [s, .bo (Rw 61), p, .va (.bl (due 61)), .va (.int 3), .un, .un, .un, .un, .un, .un, .un] := fun s p => by kernel_rfl
theorem B_61 : ∀ s : Slot, ∀ q : Bool, GB [s, .bo (Rw 61), .va (.bl q), .va (.bl (due 61)), .va (.int 3), .un, .un, .un, .un, .un, .un, .un] = .nx [s, .bo (Rw 61), .va (.bl q), .va (.bl (due 61)), .va (.int 3), frm q 61, .va (.bl (due 61)), .un, .un, .un, .un, .un] := fun s q => by cases q <;> kernel_rfl
theorem C_61 : ∀ s p f : Slot, GC [s, .bo (Rw 61), p, .va (.bl (due 61)), .va (.int 3), f, .va (.bl (due 61)), .un, .un, .un, .un, .un] = .nx [s, .bo (Rw 61), p, .va (.bl (due 61)), .va (.int 3), f, .va (.bl (due 61)), .ow (hdD 61), .ow (chD 61), .un, .un, .un] := fun s p f => by kernel_rfl
theorem E_61 : ∀ s p f : Slot, ∀ sh : Nat, ∀ rv : Bool, sh < 4 → g__law_kept_15 [s, .bo (Rw 61), p, .va (.bl (due 61)), .va (.int 3), f, .va (.bl (due 61)), .ow (hdD 61), .ow (chD 61), .va (.int sh), .ow (fourR sh rv), .un] = .nx [s, .bo (Rw 61), p, .va (.bl (due 61)), .va (.int 3), f, .va (.bl (due 61)), .ow (hdD 61), .ow (chD 61), .va (.int sh), .ow (fourR sh rv), .un] := fun s p f sh rv h => match sh, h with
  | 0, _ => by cases rv <;> kernel_rfl
  | 1, _ => by cases rv <;> kernel_rfl
  | 2, _ => by cases rv <;> kernel_rfl
  | 3, _ => by cases rv <;> kernel_rfl
  | n + 4, h => absurd h (by omega)
theorem F_61 : ∀ s p f s9 s10 : Slot, finK (GF [s, .bo (Rw 61), p, .va (.bl (due 61)), .va (.int 3), f, .va (.bl (due 61)), .ow (hdD 61), .ow (chD 61), s9, s10, .un]) = some s := fun s p f s9 s10 => by kernel_rfl
theorem R_62 : F__law_row [.va (.int (62 : Nat))] = .rt true (Rw 62) [.un] := by kernel_rfl
theorem G_62 : F_is_good [.bo (Rw 62)] = .rt false (.bl (due 62)) [.un] := by kernel_rfl
theorem A_62 : ∀ s p : Slot, GA [s, .bo (Rw 62), p, .un, .un, .un, .un, .un, .un, .un, .un, .un] = .nx [s, .bo (Rw 62), p, .va (.bl (due 62)), .va (.int 3), .un, .un, .un, .un, .un, .un, .un] := fun s p => by kernel_rfl
theorem B_62 : ∀ s : Slot, ∀ q : Bool, GB [s, .bo (Rw 62), .va (.bl q), .va (.bl (due 62)), .va (.int 3), .un, .un, .un, .un, .un, .un, .un] = .nx [s, .bo (Rw 62), .va (.bl q), .va (.bl (due 62)), .va (.int 3), frm q 62, .va (.bl (due 62)), .un, .un, .un, .un, .un] := fun s q => by cases q <;> kernel_rfl
theorem C_62 : ∀ s p f : Slot, GC [s, .bo (Rw 62), p, .va (.bl (due 62)), .va (.int 3), f, .va (.bl (due 62)), .un, .un, .un, .un, .un] = .nx [s, .bo (Rw 62), p, .va (.bl (due 62)), .va (.int 3), f, .va (.bl (due 62)), .ow (hdD 62), .ow (chD 62), .un, .un, .un] := fun s p f => by kernel_rfl
theorem E_62 : ∀ s p f : Slot, ∀ sh : Nat, ∀ rv : Bool, sh < 4 → g__law_kept_15 [s, .bo (Rw 62), p, .va (.bl (due 62)), .va (.int 3), f, .va (.bl (due 62)), .ow (hdD 62), .ow (chD 62), .va (.int sh), .ow (fourR sh rv), .un] = .nx [s, .bo (Rw 62), p, .va (.bl (due 62)), .va (.int 3), f, .va (.bl (due 62)), .ow (hdD 62), .ow (chD 62), .va (.int sh), .ow (fourR sh rv), .un] := fun s p f sh rv h => match sh, h with
  | 0, _ => by cases rv <;> kernel_rfl
  | 1, _ => by cases rv <;> kernel_rfl
  | 2, _ => by cases rv <;> kernel_rfl
  | 3, _ => by cases rv <;> kernel_rfl
  | n + 4, h => absurd h (by omega)
theorem F_62 : ∀ s p f s9 s10 : Slot, finK (GF [s, .bo (Rw 62), p, .va (.bl (due 62)), .va (.int 3), f, .va (.bl (due 62)), .ow (hdD 62), .ow (chD 62), s9, s10, .un]) = some s := fun s p f s9 s10 => by kernel_rfl
theorem R_63 : F__law_row [.va (.int (63 : Nat))] = .rt true (Rw 63) [.un] := by kernel_rfl
theorem G_63 : F_is_good [.bo (Rw 63)] = .rt false (.bl (due 63)) [.un] := by kernel_rfl
theorem A_63 : ∀ s p : Slot, GA [s, .bo (Rw 63), p, .un, .un, .un, .un, .un, .un, .un, .un, .un] = .nx [s, .bo (Rw 63), p, .va (.bl (due 63)), .va (.int 3), .un, .un, .un, .un, .un, .un, .un] := fun s p => by kernel_rfl
theorem B_63 : ∀ s : Slot, ∀ q : Bool, GB [s, .bo (Rw 63), .va (.bl q), .va (.bl (due 63)), .va (.int 3), .un, .un, .un, .un, .un, .un, .un] = .nx [s, .bo (Rw 63), .va (.bl q), .va (.bl (due 63)), .va (.int 3), frm q 63, .va (.bl (due 63)), .un, .un, .un, .un, .un] := fun s q => by cases q <;> kernel_rfl
theorem C_63 : ∀ s p f : Slot, GC [s, .bo (Rw 63), p, .va (.bl (due 63)), .va (.int 3), f, .va (.bl (due 63)), .un, .un, .un, .un, .un] = .nx [s, .bo (Rw 63), p, .va (.bl (due 63)), .va (.int 3), f, .va (.bl (due 63)), .ow (hdD 63), .ow (chD 63), .un, .un, .un] := fun s p f => by kernel_rfl
theorem E_63 : ∀ s p f : Slot, ∀ sh : Nat, ∀ rv : Bool, sh < 4 → g__law_kept_15 [s, .bo (Rw 63), p, .va (.bl (due 63)), .va (.int 3), f, .va (.bl (due 63)), .ow (hdD 63), .ow (chD 63), .va (.int sh), .ow (fourR sh rv), .un] = .nx [s, .bo (Rw 63), p, .va (.bl (due 63)), .va (.int 3), f, .va (.bl (due 63)), .ow (hdD 63), .ow (chD 63), .va (.int sh), .ow (fourR sh rv), .un] := fun s p f sh rv h => match sh, h with
  | 0, _ => by cases rv <;> kernel_rfl
  | 1, _ => by cases rv <;> kernel_rfl
  | 2, _ => by cases rv <;> kernel_rfl
  | 3, _ => by cases rv <;> kernel_rfl
  | n + 4, h => absurd h (by omega)
theorem F_63 : ∀ s p f s9 s10 : Slot, finK (GF [s, .bo (Rw 63), p, .va (.bl (due 63)), .va (.int 3), f, .va (.bl (due 63)), .ow (hdD 63), .ow (chD 63), s9, s10, .un]) = some s := fun s p f s9 s10 => by kernel_rfl
theorem R_64 : F__law_row [.va (.int (64 : Nat))] = .rt true (Rw 64) [.un] := by kernel_rfl
theorem G_64 : F_is_good [.bo (Rw 64)] = .rt false (.bl (due 64)) [.un] := by kernel_rfl
theorem A_64 : ∀ s p : Slot, GA [s, .bo (Rw 64), p, .un, .un, .un, .un, .un, .un, .un, .un, .un] = .nx [s, .bo (Rw 64), p, .va (.bl (due 64)), .va (.int 3), .un, .un, .un, .un, .un, .un, .un] := fun s p => by kernel_rfl
theorem B_64 : ∀ s : Slot, ∀ q : Bool, GB [s, .bo (Rw 64), .va (.bl q), .va (.bl (due 64)), .va (.int 3), .un, .un, .un, .un, .un, .un, .un] = .nx [s, .bo (Rw 64), .va (.bl q), .va (.bl (due 64)), .va (.int 3), frm q 64, .va (.bl (due 64)), .un, .un, .un, .un, .un] := fun s q => by cases q <;> kernel_rfl
theorem C_64 : ∀ s p f : Slot, GC [s, .bo (Rw 64), p, .va (.bl (due 64)), .va (.int 3), f, .va (.bl (due 64)), .un, .un, .un, .un, .un] = .nx [s, .bo (Rw 64), p, .va (.bl (due 64)), .va (.int 3), f, .va (.bl (due 64)), .ow (hdD 64), .ow (chD 64), .un, .un, .un] := fun s p f => by kernel_rfl
theorem E_64 : ∀ s p f : Slot, ∀ sh : Nat, ∀ rv : Bool, sh < 4 → g__law_kept_15 [s, .bo (Rw 64), p, .va (.bl (due 64)), .va (.int 3), f, .va (.bl (due 64)), .ow (hdD 64), .ow (chD 64), .va (.int sh), .ow (fourR sh rv), .un] = .nx [s, .bo (Rw 64), p, .va (.bl (due 64)), .va (.int 3), f, .va (.bl (due 64)), .ow (hdD 64), .ow (chD 64), .va (.int sh), .ow (fourR sh rv), .un] := fun s p f sh rv h => match sh, h with
  | 0, _ => by cases rv <;> kernel_rfl
  | 1, _ => by cases rv <;> kernel_rfl
  | 2, _ => by cases rv <;> kernel_rfl
  | 3, _ => by cases rv <;> kernel_rfl
  | n + 4, h => absurd h (by omega)
theorem F_64 : ∀ s p f s9 s10 : Slot, finK (GF [s, .bo (Rw 64), p, .va (.bl (due 64)), .va (.int 3), f, .va (.bl (due 64)), .ow (hdD 64), .ow (chD 64), s9, s10, .un]) = some s := fun s p f s9 s10 => by kernel_rfl
theorem R_65 : F__law_row [.va (.int (65 : Nat))] = .rt true (Rw 65) [.un] := by kernel_rfl
theorem G_65 : F_is_good [.bo (Rw 65)] = .rt false (.bl (due 65)) [.un] := by kernel_rfl
theorem A_65 : ∀ s p : Slot, GA [s, .bo (Rw 65), p, .un, .un, .un, .un, .un, .un, .un, .un, .un] = .nx [s, .bo (Rw 65), p, .va (.bl (due 65)), .va (.int 3), .un, .un, .un, .un, .un, .un, .un] := fun s p => by kernel_rfl
theorem B_65 : ∀ s : Slot, ∀ q : Bool, GB [s, .bo (Rw 65), .va (.bl q), .va (.bl (due 65)), .va (.int 3), .un, .un, .un, .un, .un, .un, .un] = .nx [s, .bo (Rw 65), .va (.bl q), .va (.bl (due 65)), .va (.int 3), frm q 65, .va (.bl (due 65)), .un, .un, .un, .un, .un] := fun s q => by cases q <;> kernel_rfl
theorem C_65 : ∀ s p f : Slot, GC [s, .bo (Rw 65), p, .va (.bl (due 65)), .va (.int 3), f, .va (.bl (due 65)), .un, .un, .un, .un, .un] = .nx [s, .bo (Rw 65), p, .va (.bl (due 65)), .va (.int 3), f, .va (.bl (due 65)), .ow (hdD 65), .ow (chD 65), .un, .un, .un] := fun s p f => by kernel_rfl
theorem E_65 : ∀ s p f : Slot, ∀ sh : Nat, ∀ rv : Bool, sh < 4 → g__law_kept_15 [s, .bo (Rw 65), p, .va (.bl (due 65)), .va (.int 3), f, .va (.bl (due 65)), .ow (hdD 65), .ow (chD 65), .va (.int sh), .ow (fourR sh rv), .un] = .nx [s, .bo (Rw 65), p, .va (.bl (due 65)), .va (.int 3), f, .va (.bl (due 65)), .ow (hdD 65), .ow (chD 65), .va (.int sh), .ow (fourR sh rv), .un] := fun s p f sh rv h => match sh, h with
  | 0, _ => by cases rv <;> kernel_rfl
  | 1, _ => by cases rv <;> kernel_rfl
  | 2, _ => by cases rv <;> kernel_rfl
  | 3, _ => by cases rv <;> kernel_rfl
  | n + 4, h => absurd h (by omega)
theorem F_65 : ∀ s p f s9 s10 : Slot, finK (GF [s, .bo (Rw 65), p, .va (.bl (due 65)), .va (.int 3), f, .va (.bl (due 65)), .ow (hdD 65), .ow (chD 65), s9, s10, .un]) = some s := fun s p f s9 s10 => by kernel_rfl
theorem R_66 : F__law_row [.va (.int (66 : Nat))] = .rt true (Rw 66) [.un] := by kernel_rfl
theorem G_66 : F_is_good [.bo (Rw 66)] = .rt false (.bl (due 66)) [.un] := by kernel_rfl
theorem A_66 : ∀ s p : Slot, GA [s, .bo (Rw 66), p, .un, .un, .un, .un, .un, .un, .un, .un, .un] = .nx [s, .bo (Rw 66), p, .va (.bl (due 66)), .va (.int 3), .un, .un, .un, .un, .un, .un, .un] := fun s p => by kernel_rfl
theorem B_66 : ∀ s : Slot, ∀ q : Bool, GB [s, .bo (Rw 66), .va (.bl q), .va (.bl (due 66)), .va (.int 3), .un, .un, .un, .un, .un, .un, .un] = .nx [s, .bo (Rw 66), .va (.bl q), .va (.bl (due 66)), .va (.int 3), frm q 66, .va (.bl (due 66)), .un, .un, .un, .un, .un] := fun s q => by cases q <;> kernel_rfl
theorem C_66 : ∀ s p f : Slot, GC [s, .bo (Rw 66), p, .va (.bl (due 66)), .va (.int 3), f, .va (.bl (due 66)), .un, .un, .un, .un, .un] = .nx [s, .bo (Rw 66), p, .va (.bl (due 66)), .va (.int 3), f, .va (.bl (due 66)), .ow (hdD 66), .ow (chD 66), .un, .un, .un] := fun s p f => by kernel_rfl
theorem E_66 : ∀ s p f : Slot, ∀ sh : Nat, ∀ rv : Bool, sh < 4 → g__law_kept_15 [s, .bo (Rw 66), p, .va (.bl (due 66)), .va (.int 3), f, .va (.bl (due 66)), .ow (hdD 66), .ow (chD 66), .va (.int sh), .ow (fourR sh rv), .un] = .nx [s, .bo (Rw 66), p, .va (.bl (due 66)), .va (.int 3), f, .va (.bl (due 66)), .ow (hdD 66), .ow (chD 66), .va (.int sh), .ow (fourR sh rv), .un] := fun s p f sh rv h => match sh, h with
  | 0, _ => by cases rv <;> kernel_rfl
  | 1, _ => by cases rv <;> kernel_rfl
  | 2, _ => by cases rv <;> kernel_rfl
  | 3, _ => by cases rv <;> kernel_rfl
  | n + 4, h => absurd h (by omega)
theorem F_66 : ∀ s p f s9 s10 : Slot, finK (GF [s, .bo (Rw 66), p, .va (.bl (due 66)), .va (.int 3), f, .va (.bl (due 66)), .ow (hdD 66), .ow (chD 66), s9, s10, .un]) = some s := fun s p f s9 s10 => by kernel_rfl
theorem R_67 : F__law_row [.va (.int (67 : Nat))] = .rt true (Rw 67) [.un] := by kernel_rfl
theorem G_67 : F_is_good [.bo (Rw 67)] = .rt false (.bl (due 67)) [.un] := by kernel_rfl
theorem A_67 : ∀ s p : Slot, GA [s, .bo (Rw 67), p, .un, .un, .un, .un, .un, .un, .un, .un, .un] = .nx [s, .bo (Rw 67), p, .va (.bl (due 67)), .va (.int 3), .un, .un, .un, .un, .un, .un, .un] := fun s p => by kernel_rfl
theorem B_67 : ∀ s : Slot, ∀ q : Bool, GB [s, .bo (Rw 67), .va (.bl q), .va (.bl (due 67)), .va (.int 3), .un, .un, .un, .un, .un, .un, .un] = .nx [s, .bo (Rw 67), .va (.bl q), .va (.bl (due 67)), .va (.int 3), frm q 67, .va (.bl (due 67)), .un, .un, .un, .un, .un] := fun s q => by cases q <;> kernel_rfl
theorem C_67 : ∀ s p f : Slot, GC [s, .bo (Rw 67), p, .va (.bl (due 67)), .va (.int 3), f, .va (.bl (due 67)), .un, .un, .un, .un, .un] = .nx [s, .bo (Rw 67), p, .va (.bl (due 67)), .va (.int 3), f, .va (.bl (due 67)), .ow (hdD 67), .ow (chD 67), .un, .un, .un] := fun s p f => by kernel_rfl
theorem E_67 : ∀ s p f : Slot, ∀ sh : Nat, ∀ rv : Bool, sh < 4 → g__law_kept_15 [s, .bo (Rw 67), p, .va (.bl (due 67)), .va (.int 3), f, .va (.bl (due 67)), .ow (hdD 67), .ow (chD 67), .va (.int sh), .ow (fourR sh rv), .un] = .nx [s, .bo (Rw 67), p, .va (.bl (due 67)), .va (.int 3), f, .va (.bl (due 67)), .ow (hdD 67), .ow (chD 67), .va (.int sh), .ow (fourR sh rv), .un] := fun s p f sh rv h => match sh, h with
  | 0, _ => by cases rv <;> kernel_rfl
  | 1, _ => by cases rv <;> kernel_rfl
  | 2, _ => by cases rv <;> kernel_rfl
  | 3, _ => by cases rv <;> kernel_rfl
  | n + 4, h => absurd h (by omega)
theorem F_67 : ∀ s p f s9 s10 : Slot, finK (GF [s, .bo (Rw 67), p, .va (.bl (due 67)), .va (.int 3), f, .va (.bl (due 67)), .ow (hdD 67), .ow (chD 67), s9, s10, .un]) = some s := fun s p f s9 s10 => by kernel_rfl
theorem R_68 : F__law_row [.va (.int (68 : Nat))] = .rt true (Rw 68) [.un] := by kernel_rfl
theorem G_68 : F_is_good [.bo (Rw 68)] = .rt false (.bl (due 68)) [.un] := by kernel_rfl
theorem A_68 : ∀ s p : Slot, GA [s, .bo (Rw 68), p, .un, .un, .un, .un, .un, .un, .un, .un, .un] = .nx [s, .bo (Rw 68), p, .va (.bl (due 68)), .va (.int 3), .un, .un, .un, .un, .un, .un, .un] := fun s p => by kernel_rfl
theorem B_68 : ∀ s : Slot, ∀ q : Bool, GB [s, .bo (Rw 68), .va (.bl q), .va (.bl (due 68)), .va (.int 3), .un, .un, .un, .un, .un, .un, .un] = .nx [s, .bo (Rw 68), .va (.bl q), .va (.bl (due 68)), .va (.int 3), frm q 68, .va (.bl (due 68)), .un, .un, .un, .un, .un] := fun s q => by cases q <;> kernel_rfl
theorem C_68 : ∀ s p f : Slot, GC [s, .bo (Rw 68), p, .va (.bl (due 68)), .va (.int 3), f, .va (.bl (due 68)), .un, .un, .un, .un, .un] = .nx [s, .bo (Rw 68), p, .va (.bl (due 68)), .va (.int 3), f, .va (.bl (due 68)), .ow (hdD 68), .ow (chD 68), .un, .un, .un] := fun s p f => by kernel_rfl
theorem E_68 : ∀ s p f : Slot, ∀ sh : Nat, ∀ rv : Bool, sh < 4 → g__law_kept_15 [s, .bo (Rw 68), p, .va (.bl (due 68)), .va (.int 3), f, .va (.bl (due 68)), .ow (hdD 68), .ow (chD 68), .va (.int sh), .ow (fourR sh rv), .un] = .nx [s, .bo (Rw 68), p, .va (.bl (due 68)), .va (.int 3), f, .va (.bl (due 68)), .ow (hdD 68), .ow (chD 68), .va (.int sh), .ow (fourR sh rv), .un] := fun s p f sh rv h => match sh, h with
  | 0, _ => by cases rv <;> kernel_rfl
  | 1, _ => by cases rv <;> kernel_rfl
  | 2, _ => by cases rv <;> kernel_rfl
  | 3, _ => by cases rv <;> kernel_rfl
  | n + 4, h => absurd h (by omega)
theorem F_68 : ∀ s p f s9 s10 : Slot, finK (GF [s, .bo (Rw 68), p, .va (.bl (due 68)), .va (.int 3), f, .va (.bl (due 68)), .ow (hdD 68), .ow (chD 68), s9, s10, .un]) = some s := fun s p f s9 s10 => by kernel_rfl
theorem R_69 : F__law_row [.va (.int (69 : Nat))] = .rt true (Rw 69) [.un] := by kernel_rfl
theorem G_69 : F_is_good [.bo (Rw 69)] = .rt false (.bl (due 69)) [.un] := by kernel_rfl
theorem A_69 : ∀ s p : Slot, GA [s, .bo (Rw 69), p, .un, .un, .un, .un, .un, .un, .un, .un, .un] = .nx [s, .bo (Rw 69), p, .va (.bl (due 69)), .va (.int 3), .un, .un, .un, .un, .un, .un, .un] := fun s p => by kernel_rfl
theorem B_69 : ∀ s : Slot, ∀ q : Bool, GB [s, .bo (Rw 69), .va (.bl q), .va (.bl (due 69)), .va (.int 3), .un, .un, .un, .un, .un, .un, .un] = .nx [s, .bo (Rw 69), .va (.bl q), .va (.bl (due 69)), .va (.int 3), frm q 69, .va (.bl (due 69)), .un, .un, .un, .un, .un] := fun s q => by cases q <;> kernel_rfl
theorem C_69 : ∀ s p f : Slot, GC [s, .bo (Rw 69), p, .va (.bl (due 69)), .va (.int 3), f, .va (.bl (due 69)), .un, .un, .un, .un, .un] = .nx [s, .bo (Rw 69), p, .va (.bl (due 69)), .va (.int 3), f, .va (.bl (due 69)), .ow (hdD 69), .ow (chD 69), .un, .un, .un] := fun s p f => by kernel_rfl
theorem E_69 : ∀ s p f : Slot, ∀ sh : Nat, ∀ rv : Bool, sh < 4 → g__law_kept_15 [s, .bo (Rw 69), p, .va (.bl (due 69)), .va (.int 3), f, .va (.bl (due 69)), .ow (hdD 69), .ow (chD 69), .va (.int sh), .ow (fourR sh rv), .un] = .nx [s, .bo (Rw 69), p, .va (.bl (due 69)), .va (.int 3), f, .va (.bl (due 69)), .ow (hdD 69), .ow (chD 69), .va (.int sh), .ow (fourR sh rv), .un] := fun s p f sh rv h => match sh, h with
  | 0, _ => by cases rv <;> kernel_rfl
  | 1, _ => by cases rv <;> kernel_rfl
  | 2, _ => by cases rv <;> kernel_rfl
  | 3, _ => by cases rv <;> kernel_rfl
  | n + 4, h => absurd h (by omega)
theorem F_69 : ∀ s p f s9 s10 : Slot, finK (GF [s, .bo (Rw 69), p, .va (.bl (due 69)), .va (.int 3), f, .va (.bl (due 69)), .ow (hdD 69), .ow (chD 69), s9, s10, .un]) = some s := fun s p f s9 s10 => by kernel_rfl
theorem R_70 : F__law_row [.va (.int (70 : Nat))] = .rt true (Rw 70) [.un] := by kernel_rfl
theorem G_70 : F_is_good [.bo (Rw 70)] = .rt false (.bl (due 70)) [.un] := by kernel_rfl
theorem A_70 : ∀ s p : Slot, GA [s, .bo (Rw 70), p, .un, .un, .un, .un, .un, .un, .un, .un, .un] = .nx [s, .bo (Rw 70), p, .va (.bl (due 70)), .va (.int 3), .un, .un, .un, .un, .un, .un, .un] := fun s p => by kernel_rfl
theorem B_70 : ∀ s : Slot, ∀ q : Bool, GB [s, .bo (Rw 70), .va (.bl q), .va (.bl (due 70)), .va (.int 3), .un, .un, .un, .un, .un, .un, .un] = .nx [s, .bo (Rw 70), .va (.bl q), .va (.bl (due 70)), .va (.int 3), frm q 70, .va (.bl (due 70)), .un, .un, .un, .un, .un] := fun s q => by cases q <;> kernel_rfl
theorem C_70 : ∀ s p f : Slot, GC [s, .bo (Rw 70), p, .va (.bl (due 70)), .va (.int 3), f, .va (.bl (due 70)), .un, .un, .un, .un, .un] = .nx [s, .bo (Rw 70), p, .va (.bl (due 70)), .va (.int 3), f, .va (.bl (due 70)), .ow (hdD 70), .ow (chD 70), .un, .un, .un] := fun s p f => by kernel_rfl
theorem E_70 : ∀ s p f : Slot, ∀ sh : Nat, ∀ rv : Bool, sh < 4 → g__law_kept_15 [s, .bo (Rw 70), p, .va (.bl (due 70)), .va (.int 3), f, .va (.bl (due 70)), .ow (hdD 70), .ow (chD 70), .va (.int sh), .ow (fourR sh rv), .un] = .nx [s, .bo (Rw 70), p, .va (.bl (due 70)), .va (.int 3), f, .va (.bl (due 70)), .ow (hdD 70), .ow (chD 70), .va (.int sh), .ow (fourR sh rv), .un] := fun s p f sh rv h => match sh, h with
  | 0, _ => by cases rv <;> kernel_rfl
  | 1, _ => by cases rv <;> kernel_rfl
  | 2, _ => by cases rv <;> kernel_rfl
  | 3, _ => by cases rv <;> kernel_rfl
  | n + 4, h => absurd h (by omega)
theorem F_70 : ∀ s p f s9 s10 : Slot, finK (GF [s, .bo (Rw 70), p, .va (.bl (due 70)), .va (.int 3), f, .va (.bl (due 70)), .ow (hdD 70), .ow (chD 70), s9, s10, .un]) = some s := fun s p f s9 s10 => by kernel_rfl
theorem R_71 : F__law_row [.va (.int (71 : Nat))] = .rt true (Rw 71) [.un] := by kernel_rfl
theorem G_71 : F_is_good [.bo (Rw 71)] = .rt false (.bl (due 71)) [.un] := by kernel_rfl
theorem A_71 : ∀ s p : Slot, GA [s, .bo (Rw 71), p, .un, .un, .un, .un, .un, .un, .un, .un, .un] = .nx [s, .bo (Rw 71), p, .va (.bl (due 71)), .va (.int 3), .un, .un, .un, .un, .un, .un, .un] := fun s p => by kernel_rfl
theorem B_71 : ∀ s : Slot, ∀ q : Bool, GB [s, .bo (Rw 71), .va (.bl q), .va (.bl (due 71)), .va (.int 3), .un, .un, .un, .un, .un, .un, .un] = .nx [s, .bo (Rw 71), .va (.bl q), .va (.bl (due 71)), .va (.int 3), frm q 71, .va (.bl (due 71)), .un, .un, .un, .un, .un] := fun s q => by cases q <;> kernel_rfl
theorem C_71 : ∀ s p f : Slot, GC [s, .bo (Rw 71), p, .va (.bl (due 71)), .va (.int 3), f, .va (.bl (due 71)), .un, .un, .un, .un, .un] = .nx [s, .bo (Rw 71), p, .va (.bl (due 71)), .va (.int 3), f, .va (.bl (due 71)), .ow (hdD 71), .ow (chD 71), .un, .un, .un] := fun s p f => by kernel_rfl
theorem E_71 : ∀ s p f : Slot, ∀ sh : Nat, ∀ rv : Bool, sh < 4 → g__law_kept_15 [s, .bo (Rw 71), p, .va (.bl (due 71)), .va (.int 3), f, .va (.bl (due 71)), .ow (hdD 71), .ow (chD 71), .va (.int sh), .ow (fourR sh rv), .un] = .nx [s, .bo (Rw 71), p, .va (.bl (due 71)), .va (.int 3), f, .va (.bl (due 71)), .ow (hdD 71), .ow (chD 71), .va (.int sh), .ow (fourR sh rv), .un] := fun s p f sh rv h => match sh, h with
  | 0, _ => by cases rv <;> kernel_rfl
  | 1, _ => by cases rv <;> kernel_rfl
  | 2, _ => by cases rv <;> kernel_rfl
  | 3, _ => by cases rv <;> kernel_rfl
  | n + 4, h => absurd h (by omega)
theorem F_71 : ∀ s p f s9 s10 : Slot, finK (GF [s, .bo (Rw 71), p, .va (.bl (due 71)), .va (.int 3), f, .va (.bl (due 71)), .ow (hdD 71), .ow (chD 71), s9, s10, .un]) = some s := fun s p f s9 s10 => by kernel_rfl
theorem R_72 : F__law_row [.va (.int (72 : Nat))] = .rt true (Rw 72) [.un] := by kernel_rfl
theorem G_72 : F_is_good [.bo (Rw 72)] = .rt false (.bl (due 72)) [.un] := by kernel_rfl
theorem A_72 : ∀ s p : Slot, GA [s, .bo (Rw 72), p, .un, .un, .un, .un, .un, .un, .un, .un, .un] = .nx [s, .bo (Rw 72), p, .va (.bl (due 72)), .va (.int 3), .un, .un, .un, .un, .un, .un, .un] := fun s p => by kernel_rfl
theorem B_72 : ∀ s : Slot, ∀ q : Bool, GB [s, .bo (Rw 72), .va (.bl q), .va (.bl (due 72)), .va (.int 3), .un, .un, .un, .un, .un, .un, .un] = .nx [s, .bo (Rw 72), .va (.bl q), .va (.bl (due 72)), .va (.int 3), frm q 72, .va (.bl (due 72)), .un, .un, .un, .un, .un] := fun s q => by cases q <;> kernel_rfl
theorem C_72 : ∀ s p f : Slot, GC [s, .bo (Rw 72), p, .va (.bl (due 72)), .va (.int 3), f, .va (.bl (due 72)), .un, .un, .un, .un, .un] = .nx [s, .bo (Rw 72), p, .va (.bl (due 72)), .va (.int 3), f, .va (.bl (due 72)), .ow (hdD 72), .ow (chD 72), .un, .un, .un] := fun s p f => by kernel_rfl
theorem E_72 : ∀ s p f : Slot, ∀ sh : Nat, ∀ rv : Bool, sh < 4 → g__law_kept_15 [s, .bo (Rw 72), p, .va (.bl (due 72)), .va (.int 3), f, .va (.bl (due 72)), .ow (hdD 72), .ow (chD 72), .va (.int sh), .ow (fourR sh rv), .un] = .nx [s, .bo (Rw 72), p, .va (.bl (due 72)), .va (.int 3), f, .va (.bl (due 72)), .ow (hdD 72), .ow (chD 72), .va (.int sh), .ow (fourR sh rv), .un] := fun s p f sh rv h => match sh, h with
  | 0, _ => by cases rv <;> kernel_rfl
  | 1, _ => by cases rv <;> kernel_rfl
  | 2, _ => by cases rv <;> kernel_rfl
  | 3, _ => by cases rv <;> kernel_rfl
  | n + 4, h => absurd h (by omega)
theorem F_72 : ∀ s p f s9 s10 : Slot, finK (GF [s, .bo (Rw 72), p, .va (.bl (due 72)), .va (.int 3), f, .va (.bl (due 72)), .ow (hdD 72), .ow (chD 72), s9, s10, .un]) = some s := fun s p f s9 s10 => by kernel_rfl
theorem R_73 : F__law_row [.va (.int (73 : Nat))] = .rt true (Rw 73) [.un] := by kernel_rfl
theorem G_73 : F_is_good [.bo (Rw 73)] = .rt false (.bl (due 73)) [.un] := by kernel_rfl
theorem A_73 : ∀ s p : Slot, GA [s, .bo (Rw 73), p, .un, .un, .un, .un, .un, .un, .un, .un, .un] = .nx [s, .bo (Rw 73), p, .va (.bl (due 73)), .va (.int 3), .un, .un, .un, .un, .un, .un, .un] := fun s p => by kernel_rfl
theorem B_73 : ∀ s : Slot, ∀ q : Bool, GB [s, .bo (Rw 73), .va (.bl q), .va (.bl (due 73)), .va (.int 3), .un, .un, .un, .un, .un, .un, .un] = .nx [s, .bo (Rw 73), .va (.bl q), .va (.bl (due 73)), .va (.int 3), frm q 73, .va (.bl (due 73)), .un, .un, .un, .un, .un] := fun s q => by cases q <;> kernel_rfl
theorem C_73 : ∀ s p f : Slot, GC [s, .bo (Rw 73), p, .va (.bl (due 73)), .va (.int 3), f, .va (.bl (due 73)), .un, .un, .un, .un, .un] = .nx [s, .bo (Rw 73), p, .va (.bl (due 73)), .va (.int 3), f, .va (.bl (due 73)), .ow (hdD 73), .ow (chD 73), .un, .un, .un] := fun s p f => by kernel_rfl
theorem E_73 : ∀ s p f : Slot, ∀ sh : Nat, ∀ rv : Bool, sh < 4 → g__law_kept_15 [s, .bo (Rw 73), p, .va (.bl (due 73)), .va (.int 3), f, .va (.bl (due 73)), .ow (hdD 73), .ow (chD 73), .va (.int sh), .ow (fourR sh rv), .un] = .nx [s, .bo (Rw 73), p, .va (.bl (due 73)), .va (.int 3), f, .va (.bl (due 73)), .ow (hdD 73), .ow (chD 73), .va (.int sh), .ow (fourR sh rv), .un] := fun s p f sh rv h => match sh, h with
  | 0, _ => by cases rv <;> kernel_rfl
  | 1, _ => by cases rv <;> kernel_rfl
  | 2, _ => by cases rv <;> kernel_rfl
  | 3, _ => by cases rv <;> kernel_rfl
  | n + 4, h => absurd h (by omega)
theorem F_73 : ∀ s p f s9 s10 : Slot, finK (GF [s, .bo (Rw 73), p, .va (.bl (due 73)), .va (.int 3), f, .va (.bl (due 73)), .ow (hdD 73), .ow (chD 73), s9, s10, .un]) = some s := fun s p f s9 s10 => by kernel_rfl
theorem R_74 : F__law_row [.va (.int (74 : Nat))] = .rt true (Rw 74) [.un] := by kernel_rfl
theorem G_74 : F_is_good [.bo (Rw 74)] = .rt false (.bl (due 74)) [.un] := by kernel_rfl
theorem A_74 : ∀ s p : Slot, GA [s, .bo (Rw 74), p, .un, .un, .un, .un, .un, .un, .un, .un, .un] = .nx [s, .bo (Rw 74), p, .va (.bl (due 74)), .va (.int 3), .un, .un, .un, .un, .un, .un, .un] := fun s p => by kernel_rfl
theorem B_74 : ∀ s : Slot, ∀ q : Bool, GB [s, .bo (Rw 74), .va (.bl q), .va (.bl (due 74)), .va (.int 3), .un, .un, .un, .un, .un, .un, .un] = .nx [s, .bo (Rw 74), .va (.bl q), .va (.bl (due 74)), .va (.int 3), frm q 74, .va (.bl (due 74)), .un, .un, .un, .un, .un] := fun s q => by cases q <;> kernel_rfl
theorem C_74 : ∀ s p f : Slot, GC [s, .bo (Rw 74), p, .va (.bl (due 74)), .va (.int 3), f, .va (.bl (due 74)), .un, .un, .un, .un, .un] = .nx [s, .bo (Rw 74), p, .va (.bl (due 74)), .va (.int 3), f, .va (.bl (due 74)), .ow (hdD 74), .ow (chD 74), .un, .un, .un] := fun s p f => by kernel_rfl
theorem E_74 : ∀ s p f : Slot, ∀ sh : Nat, ∀ rv : Bool, sh < 4 → g__law_kept_15 [s, .bo (Rw 74), p, .va (.bl (due 74)), .va (.int 3), f, .va (.bl (due 74)), .ow (hdD 74), .ow (chD 74), .va (.int sh), .ow (fourR sh rv), .un] = .nx [s, .bo (Rw 74), p, .va (.bl (due 74)), .va (.int 3), f, .va (.bl (due 74)), .ow (hdD 74), .ow (chD 74), .va (.int sh), .ow (fourR sh rv), .un] := fun s p f sh rv h => match sh, h with
  | 0, _ => by cases rv <;> kernel_rfl
  | 1, _ => by cases rv <;> kernel_rfl
  | 2, _ => by cases rv <;> kernel_rfl
  | 3, _ => by cases rv <;> kernel_rfl
  | n + 4, h => absurd h (by omega)
theorem F_74 : ∀ s p f s9 s10 : Slot, finK (GF [s, .bo (Rw 74), p, .va (.bl (due 74)), .va (.int 3), f, .va (.bl (due 74)), .ow (hdD 74), .ow (chD 74), s9, s10, .un]) = some s := fun s p f s9 s10 => by kernel_rfl
theorem R_75 : F__law_row [.va (.int (75 : Nat))] = .rt true (Rw 75) [.un] := by kernel_rfl
theorem G_75 : F_is_good [.bo (Rw 75)] = .rt false (.bl (due 75)) [.un] := by kernel_rfl
theorem A_75 : ∀ s p : Slot, GA [s, .bo (Rw 75), p, .un, .un, .un, .un, .un, .un, .un, .un, .un] = .nx [s, .bo (Rw 75), p, .va (.bl (due 75)), .va (.int 3), .un, .un, .un, .un, .un, .un, .un] := fun s p => by kernel_rfl
theorem B_75 : ∀ s : Slot, ∀ q : Bool, GB [s, .bo (Rw 75), .va (.bl q), .va (.bl (due 75)), .va (.int 3), .un, .un, .un, .un, .un, .un, .un] = .nx [s, .bo (Rw 75), .va (.bl q), .va (.bl (due 75)), .va (.int 3), frm q 75, .va (.bl (due 75)), .un, .un, .un, .un, .un] := fun s q => by cases q <;> kernel_rfl
theorem C_75 : ∀ s p f : Slot, GC [s, .bo (Rw 75), p, .va (.bl (due 75)), .va (.int 3), f, .va (.bl (due 75)), .un, .un, .un, .un, .un] = .nx [s, .bo (Rw 75), p, .va (.bl (due 75)), .va (.int 3), f, .va (.bl (due 75)), .ow (hdD 75), .ow (chD 75), .un, .un, .un] := fun s p f => by kernel_rfl
theorem E_75 : ∀ s p f : Slot, ∀ sh : Nat, ∀ rv : Bool, sh < 4 → g__law_kept_15 [s, .bo (Rw 75), p, .va (.bl (due 75)), .va (.int 3), f, .va (.bl (due 75)), .ow (hdD 75), .ow (chD 75), .va (.int sh), .ow (fourR sh rv), .un] = .nx [s, .bo (Rw 75), p, .va (.bl (due 75)), .va (.int 3), f, .va (.bl (due 75)), .ow (hdD 75), .ow (chD 75), .va (.int sh), .ow (fourR sh rv), .un] := fun s p f sh rv h => match sh, h with
  | 0, _ => by cases rv <;> kernel_rfl
  | 1, _ => by cases rv <;> kernel_rfl
  | 2, _ => by cases rv <;> kernel_rfl
  | 3, _ => by cases rv <;> kernel_rfl
  | n + 4, h => absurd h (by omega)
theorem F_75 : ∀ s p f s9 s10 : Slot, finK (GF [s, .bo (Rw 75), p, .va (.bl (due 75)), .va (.int 3), f, .va (.bl (due 75)), .ow (hdD 75), .ow (chD 75), s9, s10, .un]) = some s := fun s p f s9 s10 => by kernel_rfl
theorem R_76 : F__law_row [.va (.int (76 : Nat))] = .rt true (Rw 76) [.un] := by kernel_rfl
theorem G_76 : F_is_good [.bo (Rw 76)] = .rt false (.bl (due 76)) [.un] := by kernel_rfl
theorem A_76 : ∀ s p : Slot, GA [s, .bo (Rw 76), p, .un, .un, .un, .un, .un, .un, .un, .un, .un] = .nx [s, .bo (Rw 76), p, .va (.bl (due 76)), .va (.int 3), .un, .un, .un, .un, .un, .un, .un] := fun s p => by kernel_rfl
theorem B_76 : ∀ s : Slot, ∀ q : Bool, GB [s, .bo (Rw 76), .va (.bl q), .va (.bl (due 76)), .va (.int 3), .un, .un, .un, .un, .un, .un, .un] = .nx [s, .bo (Rw 76), .va (.bl q), .va (.bl (due 76)), .va (.int 3), frm q 76, .va (.bl (due 76)), .un, .un, .un, .un, .un] := fun s q => by cases q <;> kernel_rfl
theorem C_76 : ∀ s p f : Slot, GC [s, .bo (Rw 76), p, .va (.bl (due 76)), .va (.int 3), f, .va (.bl (due 76)), .un, .un, .un, .un, .un] = .nx [s, .bo (Rw 76), p, .va (.bl (due 76)), .va (.int 3), f, .va (.bl (due 76)), .ow (hdD 76), .ow (chD 76), .un, .un, .un] := fun s p f => by kernel_rfl
theorem E_76 : ∀ s p f : Slot, ∀ sh : Nat, ∀ rv : Bool, sh < 4 → g__law_kept_15 [s, .bo (Rw 76), p, .va (.bl (due 76)), .va (.int 3), f, .va (.bl (due 76)), .ow (hdD 76), .ow (chD 76), .va (.int sh), .ow (fourR sh rv), .un] = .nx [s, .bo (Rw 76), p, .va (.bl (due 76)), .va (.int 3), f, .va (.bl (due 76)), .ow (hdD 76), .ow (chD 76), .va (.int sh), .ow (fourR sh rv), .un] := fun s p f sh rv h => match sh, h with
  | 0, _ => by cases rv <;> kernel_rfl
  | 1, _ => by cases rv <;> kernel_rfl
  | 2, _ => by cases rv <;> kernel_rfl
  | 3, _ => by cases rv <;> kernel_rfl
  | n + 4, h => absurd h (by omega)
theorem F_76 : ∀ s p f s9 s10 : Slot, finK (GF [s, .bo (Rw 76), p, .va (.bl (due 76)), .va (.int 3), f, .va (.bl (due 76)), .ow (hdD 76), .ow (chD 76), s9, s10, .un]) = some s := fun s p f s9 s10 => by kernel_rfl
theorem R_77 : F__law_row [.va (.int (77 : Nat))] = .rt true (Rw 77) [.un] := by kernel_rfl
theorem G_77 : F_is_good [.bo (Rw 77)] = .rt false (.bl (due 77)) [.un] := by kernel_rfl
theorem A_77 : ∀ s p : Slot, GA [s, .bo (Rw 77), p, .un, .un, .un, .un, .un, .un, .un, .un, .un] = .nx [s, .bo (Rw 77), p, .va (.bl (due 77)), .va (.int 3), .un, .un, .un, .un, .un, .un, .un] := fun s p => by kernel_rfl
theorem B_77 : ∀ s : Slot, ∀ q : Bool, GB [s, .bo (Rw 77), .va (.bl q), .va (.bl (due 77)), .va (.int 3), .un, .un, .un, .un, .un, .un, .un] = .nx [s, .bo (Rw 77), .va (.bl q), .va (.bl (due 77)), .va (.int 3), frm q 77, .va (.bl (due 77)), .un, .un, .un, .un, .un] := fun s q => by cases q <;> kernel_rfl
theorem C_77 : ∀ s p f : Slot, GC [s, .bo (Rw 77), p, .va (.bl (due 77)), .va (.int 3), f, .va (.bl (due 77)), .un, .un, .un, .un, .un] = .nx [s, .bo (Rw 77), p, .va (.bl (due 77)), .va (.int 3), f, .va (.bl (due 77)), .ow (hdD 77), .ow (chD 77), .un, .un, .un] := fun s p f => by kernel_rfl
theorem E_77 : ∀ s p f : Slot, ∀ sh : Nat, ∀ rv : Bool, sh < 4 → g__law_kept_15 [s, .bo (Rw 77), p, .va (.bl (due 77)), .va (.int 3), f, .va (.bl (due 77)), .ow (hdD 77), .ow (chD 77), .va (.int sh), .ow (fourR sh rv), .un] = .nx [s, .bo (Rw 77), p, .va (.bl (due 77)), .va (.int 3), f, .va (.bl (due 77)), .ow (hdD 77), .ow (chD 77), .va (.int sh), .ow (fourR sh rv), .un] := fun s p f sh rv h => match sh, h with
  | 0, _ => by cases rv <;> kernel_rfl
  | 1, _ => by cases rv <;> kernel_rfl
  | 2, _ => by cases rv <;> kernel_rfl
  | 3, _ => by cases rv <;> kernel_rfl
  | n + 4, h => absurd h (by omega)
theorem F_77 : ∀ s p f s9 s10 : Slot, finK (GF [s, .bo (Rw 77), p, .va (.bl (due 77)), .va (.int 3), f, .va (.bl (due 77)), .ow (hdD 77), .ow (chD 77), s9, s10, .un]) = some s := fun s p f s9 s10 => by kernel_rfl
theorem R_78 : F__law_row [.va (.int (78 : Nat))] = .rt true (Rw 78) [.un] := by kernel_rfl
theorem G_78 : F_is_good [.bo (Rw 78)] = .rt false (.bl (due 78)) [.un] := by kernel_rfl
theorem A_78 : ∀ s p : Slot, GA [s, .bo (Rw 78), p, .un, .un, .un, .un, .un, .un, .un, .un, .un] = .nx [s, .bo (Rw 78), p, .va (.bl (due 78)), .va (.int 3), .un, .un, .un, .un, .un, .un, .un] := fun s p => by kernel_rfl
theorem B_78 : ∀ s : Slot, ∀ q : Bool, GB [s, .bo (Rw 78), .va (.bl q), .va (.bl (due 78)), .va (.int 3), .un, .un, .un, .un, .un, .un, .un] = .nx [s, .bo (Rw 78), .va (.bl q), .va (.bl (due 78)), .va (.int 3), frm q 78, .va (.bl (due 78)), .un, .un, .un, .un, .un] := fun s q => by cases q <;> kernel_rfl
theorem C_78 : ∀ s p f : Slot, GC [s, .bo (Rw 78), p, .va (.bl (due 78)), .va (.int 3), f, .va (.bl (due 78)), .un, .un, .un, .un, .un] = .nx [s, .bo (Rw 78), p, .va (.bl (due 78)), .va (.int 3), f, .va (.bl (due 78)), .ow (hdD 78), .ow (chD 78), .un, .un, .un] := fun s p f => by kernel_rfl
theorem E_78 : ∀ s p f : Slot, ∀ sh : Nat, ∀ rv : Bool, sh < 4 → g__law_kept_15 [s, .bo (Rw 78), p, .va (.bl (due 78)), .va (.int 3), f, .va (.bl (due 78)), .ow (hdD 78), .ow (chD 78), .va (.int sh), .ow (fourR sh rv), .un] = .nx [s, .bo (Rw 78), p, .va (.bl (due 78)), .va (.int 3), f, .va (.bl (due 78)), .ow (hdD 78), .ow (chD 78), .va (.int sh), .ow (fourR sh rv), .un] := fun s p f sh rv h => match sh, h with
  | 0, _ => by cases rv <;> kernel_rfl
  | 1, _ => by cases rv <;> kernel_rfl
  | 2, _ => by cases rv <;> kernel_rfl
  | 3, _ => by cases rv <;> kernel_rfl
  | n + 4, h => absurd h (by omega)
theorem F_78 : ∀ s p f s9 s10 : Slot, finK (GF [s, .bo (Rw 78), p, .va (.bl (due 78)), .va (.int 3), f, .va (.bl (due 78)), .ow (hdD 78), .ow (chD 78), s9, s10, .un]) = some s := fun s p f s9 s10 => by kernel_rfl
theorem R_79 : F__law_row [.va (.int (79 : Nat))] = .rt true (Rw 79) [.un] := by kernel_rfl
theorem G_79 : F_is_good [.bo (Rw 79)] = .rt false (.bl (due 79)) [.un] := by kernel_rfl
theorem A_79 : ∀ s p : Slot, GA [s, .bo (Rw 79), p, .un, .un, .un, .un, .un, .un, .un, .un, .un] = .nx [s, .bo (Rw 79), p, .va (.bl (due 79)), .va (.int 3), .un, .un, .un, .un, .un, .un, .un] := fun s p => by kernel_rfl
theorem B_79 : ∀ s : Slot, ∀ q : Bool, GB [s, .bo (Rw 79), .va (.bl q), .va (.bl (due 79)), .va (.int 3), .un, .un, .un, .un, .un, .un, .un] = .nx [s, .bo (Rw 79), .va (.bl q), .va (.bl (due 79)), .va (.int 3), frm q 79, .va (.bl (due 79)), .un, .un, .un, .un, .un] := fun s q => by cases q <;> kernel_rfl
theorem C_79 : ∀ s p f : Slot, GC [s, .bo (Rw 79), p, .va (.bl (due 79)), .va (.int 3), f, .va (.bl (due 79)), .un, .un, .un, .un, .un] = .nx [s, .bo (Rw 79), p, .va (.bl (due 79)), .va (.int 3), f, .va (.bl (due 79)), .ow (hdD 79), .ow (chD 79), .un, .un, .un] := fun s p f => by kernel_rfl
theorem E_79 : ∀ s p f : Slot, ∀ sh : Nat, ∀ rv : Bool, sh < 4 → g__law_kept_15 [s, .bo (Rw 79), p, .va (.bl (due 79)), .va (.int 3), f, .va (.bl (due 79)), .ow (hdD 79), .ow (chD 79), .va (.int sh), .ow (fourR sh rv), .un] = .nx [s, .bo (Rw 79), p, .va (.bl (due 79)), .va (.int 3), f, .va (.bl (due 79)), .ow (hdD 79), .ow (chD 79), .va (.int sh), .ow (fourR sh rv), .un] := fun s p f sh rv h => match sh, h with
  | 0, _ => by cases rv <;> kernel_rfl
  | 1, _ => by cases rv <;> kernel_rfl
  | 2, _ => by cases rv <;> kernel_rfl
  | 3, _ => by cases rv <;> kernel_rfl
  | n + 4, h => absurd h (by omega)
theorem F_79 : ∀ s p f s9 s10 : Slot, finK (GF [s, .bo (Rw 79), p, .va (.bl (due 79)), .va (.int 3), f, .va (.bl (due 79)), .ow (hdD 79), .ow (chD 79), s9, s10, .un]) = some s := fun s p f s9 s10 => by kernel_rfl
theorem R_80 : F__law_row [.va (.int (80 : Nat))] = .rt true (Rw 80) [.un] := by kernel_rfl
theorem G_80 : F_is_good [.bo (Rw 80)] = .rt false (.bl (due 80)) [.un] := by kernel_rfl
theorem A_80 : ∀ s p : Slot, GA [s, .bo (Rw 80), p, .un, .un, .un, .un, .un, .un, .un, .un, .un] = .nx [s, .bo (Rw 80), p, .va (.bl (due 80)), .va (.int 3), .un, .un, .un, .un, .un, .un, .un] := fun s p => by kernel_rfl
theorem B_80 : ∀ s : Slot, ∀ q : Bool, GB [s, .bo (Rw 80), .va (.bl q), .va (.bl (due 80)), .va (.int 3), .un, .un, .un, .un, .un, .un, .un] = .nx [s, .bo (Rw 80), .va (.bl q), .va (.bl (due 80)), .va (.int 3), frm q 80, .va (.bl (due 80)), .un, .un, .un, .un, .un] := fun s q => by cases q <;> kernel_rfl
theorem C_80 : ∀ s p f : Slot, GC [s, .bo (Rw 80), p, .va (.bl (due 80)), .va (.int 3), f, .va (.bl (due 80)), .un, .un, .un, .un, .un] = .nx [s, .bo (Rw 80), p, .va (.bl (due 80)), .va (.int 3), f, .va (.bl (due 80)), .ow (hdD 80), .ow (chD 80), .un, .un, .un] := fun s p f => by kernel_rfl
theorem E_80 : ∀ s p f : Slot, ∀ sh : Nat, ∀ rv : Bool, sh < 4 → g__law_kept_15 [s, .bo (Rw 80), p, .va (.bl (due 80)), .va (.int 3), f, .va (.bl (due 80)), .ow (hdD 80), .ow (chD 80), .va (.int sh), .ow (fourR sh rv), .un] = .nx [s, .bo (Rw 80), p, .va (.bl (due 80)), .va (.int 3), f, .va (.bl (due 80)), .ow (hdD 80), .ow (chD 80), .va (.int sh), .ow (fourR sh rv), .un] := fun s p f sh rv h => match sh, h with
  | 0, _ => by cases rv <;> kernel_rfl
  | 1, _ => by cases rv <;> kernel_rfl
  | 2, _ => by cases rv <;> kernel_rfl
  | 3, _ => by cases rv <;> kernel_rfl
  | n + 4, h => absurd h (by omega)
theorem F_80 : ∀ s p f s9 s10 : Slot, finK (GF [s, .bo (Rw 80), p, .va (.bl (due 80)), .va (.int 3), f, .va (.bl (due 80)), .ow (hdD 80), .ow (chD 80), s9, s10, .un]) = some s := fun s p f s9 s10 => by kernel_rfl
theorem R_all : ∀ n : Nat, n < 81 → F__law_row [.va (.int (n : Nat))] = .rt true (Rw n) [.un]
  | 0, _ => R_0
  | 1, _ => R_1
  | 2, _ => R_2
  | 3, _ => R_3
  | 4, _ => R_4
  | 5, _ => R_5
  | 6, _ => R_6
  | 7, _ => R_7
  | 8, _ => R_8
  | 9, _ => R_9
  | 10, _ => R_10
  | 11, _ => R_11
  | 12, _ => R_12
  | 13, _ => R_13
  | 14, _ => R_14
  | 15, _ => R_15
  | 16, _ => R_16
  | 17, _ => R_17
  | 18, _ => R_18
  | 19, _ => R_19
  | 20, _ => R_20
  | 21, _ => R_21
  | 22, _ => R_22
  | 23, _ => R_23
  | 24, _ => R_24
  | 25, _ => R_25
  | 26, _ => R_26
  | 27, _ => R_27
  | 28, _ => R_28
  | 29, _ => R_29
  | 30, _ => R_30
  | 31, _ => R_31
  | 32, _ => R_32
  | 33, _ => R_33
  | 34, _ => R_34
  | 35, _ => R_35
  | 36, _ => R_36
  | 37, _ => R_37
  | 38, _ => R_38
  | 39, _ => R_39
  | 40, _ => R_40
  | 41, _ => R_41
  | 42, _ => R_42
  | 43, _ => R_43
  | 44, _ => R_44
  | 45, _ => R_45
  | 46, _ => R_46
  | 47, _ => R_47
  | 48, _ => R_48
  | 49, _ => R_49
  | 50, _ => R_50
  | 51, _ => R_51
  | 52, _ => R_52
  | 53, _ => R_53
  | 54, _ => R_54
  | 55, _ => R_55
  | 56, _ => R_56
  | 57, _ => R_57
  | 58, _ => R_58
  | 59, _ => R_59
  | 60, _ => R_60
  | 61, _ => R_61
  | 62, _ => R_62
  | 63, _ => R_63
  | 64, _ => R_64
  | 65, _ => R_65
  | 66, _ => R_66
  | 67, _ => R_67
  | 68, _ => R_68
  | 69, _ => R_69
  | 70, _ => R_70
  | 71, _ => R_71
  | 72, _ => R_72
  | 73, _ => R_73
  | 74, _ => R_74
  | 75, _ => R_75
  | 76, _ => R_76
  | 77, _ => R_77
  | 78, _ => R_78
  | 79, _ => R_79
  | 80, _ => R_80
  | n + 81, h => absurd h (by omega)
theorem G_all : ∀ n : Nat, n < 81 → F_is_good [.bo (Rw n)] = .rt false (.bl (due n)) [.un]
  | 0, _ => G_0
  | 1, _ => G_1
  | 2, _ => G_2
  | 3, _ => G_3
  | 4, _ => G_4
  | 5, _ => G_5
  | 6, _ => G_6
  | 7, _ => G_7
  | 8, _ => G_8
  | 9, _ => G_9
  | 10, _ => G_10
  | 11, _ => G_11
  | 12, _ => G_12
  | 13, _ => G_13
  | 14, _ => G_14
  | 15, _ => G_15
  | 16, _ => G_16
  | 17, _ => G_17
  | 18, _ => G_18
  | 19, _ => G_19
  | 20, _ => G_20
  | 21, _ => G_21
  | 22, _ => G_22
  | 23, _ => G_23
  | 24, _ => G_24
  | 25, _ => G_25
  | 26, _ => G_26
  | 27, _ => G_27
  | 28, _ => G_28
  | 29, _ => G_29
  | 30, _ => G_30
  | 31, _ => G_31
  | 32, _ => G_32
  | 33, _ => G_33
  | 34, _ => G_34
  | 35, _ => G_35
  | 36, _ => G_36
  | 37, _ => G_37
  | 38, _ => G_38
  | 39, _ => G_39
  | 40, _ => G_40
  | 41, _ => G_41
  | 42, _ => G_42
  | 43, _ => G_43
  | 44, _ => G_44
  | 45, _ => G_45
  | 46, _ => G_46
  | 47, _ => G_47
  | 48, _ => G_48
  | 49, _ => G_49
  | 50, _ => G_50
  | 51, _ => G_51
  | 52, _ => G_52
  | 53, _ => G_53
  | 54, _ => G_54
  | 55, _ => G_55
  | 56, _ => G_56
  | 57, _ => G_57
  | 58, _ => G_58
  | 59, _ => G_59
  | 60, _ => G_60
  | 61, _ => G_61
  | 62, _ => G_62
  | 63, _ => G_63
  | 64, _ => G_64
  | 65, _ => G_65
  | 66, _ => G_66
  | 67, _ => G_67
  | 68, _ => G_68
  | 69, _ => G_69
  | 70, _ => G_70
  | 71, _ => G_71
  | 72, _ => G_72
  | 73, _ => G_73
  | 74, _ => G_74
  | 75, _ => G_75
  | 76, _ => G_76
  | 77, _ => G_77
  | 78, _ => G_78
  | 79, _ => G_79
  | 80, _ => G_80
  | n + 81, h => absurd h (by omega)
theorem A_all : ∀ n : Nat, n < 81 → ∀ s p : Slot, GA [s, .bo (Rw n), p, .un, .un, .un, .un, .un, .un, .un, .un, .un] = .nx [s, .bo (Rw n), p, .va (.bl (due n)), .va (.int 3), .un, .un, .un, .un, .un, .un, .un]
  | 0, _ => A_0
  | 1, _ => A_1
  | 2, _ => A_2
  | 3, _ => A_3
  | 4, _ => A_4
  | 5, _ => A_5
  | 6, _ => A_6
  | 7, _ => A_7
  | 8, _ => A_8
  | 9, _ => A_9
  | 10, _ => A_10
  | 11, _ => A_11
  | 12, _ => A_12
  | 13, _ => A_13
  | 14, _ => A_14
  | 15, _ => A_15
  | 16, _ => A_16
  | 17, _ => A_17
  | 18, _ => A_18
  | 19, _ => A_19
  | 20, _ => A_20
  | 21, _ => A_21
  | 22, _ => A_22
  | 23, _ => A_23
  | 24, _ => A_24
  | 25, _ => A_25
  | 26, _ => A_26
  | 27, _ => A_27
  | 28, _ => A_28
  | 29, _ => A_29
  | 30, _ => A_30
  | 31, _ => A_31
  | 32, _ => A_32
  | 33, _ => A_33
  | 34, _ => A_34
  | 35, _ => A_35
  | 36, _ => A_36
  | 37, _ => A_37
  | 38, _ => A_38
  | 39, _ => A_39
  | 40, _ => A_40
  | 41, _ => A_41
  | 42, _ => A_42
  | 43, _ => A_43
  | 44, _ => A_44
  | 45, _ => A_45
  | 46, _ => A_46
  | 47, _ => A_47
  | 48, _ => A_48
  | 49, _ => A_49
  | 50, _ => A_50
  | 51, _ => A_51
  | 52, _ => A_52
  | 53, _ => A_53
  | 54, _ => A_54
  | 55, _ => A_55
  | 56, _ => A_56
  | 57, _ => A_57
  | 58, _ => A_58
  | 59, _ => A_59
  | 60, _ => A_60
  | 61, _ => A_61
  | 62, _ => A_62
  | 63, _ => A_63
  | 64, _ => A_64
  | 65, _ => A_65
  | 66, _ => A_66
  | 67, _ => A_67
  | 68, _ => A_68
  | 69, _ => A_69
  | 70, _ => A_70
  | 71, _ => A_71
  | 72, _ => A_72
  | 73, _ => A_73
  | 74, _ => A_74
  | 75, _ => A_75
  | 76, _ => A_76
  | 77, _ => A_77
  | 78, _ => A_78
  | 79, _ => A_79
  | 80, _ => A_80
  | n + 81, h => absurd h (by omega)
theorem B_all : ∀ n : Nat, n < 81 → ∀ s : Slot, ∀ q : Bool, GB [s, .bo (Rw n), .va (.bl q), .va (.bl (due n)), .va (.int 3), .un, .un, .un, .un, .un, .un, .un] = .nx [s, .bo (Rw n), .va (.bl q), .va (.bl (due n)), .va (.int 3), frm q n, .va (.bl (due n)), .un, .un, .un, .un, .un]
  | 0, _ => B_0
  | 1, _ => B_1
  | 2, _ => B_2
  | 3, _ => B_3
  | 4, _ => B_4
  | 5, _ => B_5
  | 6, _ => B_6
  | 7, _ => B_7
  | 8, _ => B_8
  | 9, _ => B_9
  | 10, _ => B_10
  | 11, _ => B_11
  | 12, _ => B_12
  | 13, _ => B_13
  | 14, _ => B_14
  | 15, _ => B_15
  | 16, _ => B_16
  | 17, _ => B_17
  | 18, _ => B_18
  | 19, _ => B_19
  | 20, _ => B_20
  | 21, _ => B_21
  | 22, _ => B_22
  | 23, _ => B_23
  | 24, _ => B_24
  | 25, _ => B_25
  | 26, _ => B_26
  | 27, _ => B_27
  | 28, _ => B_28
  | 29, _ => B_29
  | 30, _ => B_30
  | 31, _ => B_31
  | 32, _ => B_32
  | 33, _ => B_33
  | 34, _ => B_34
  | 35, _ => B_35
  | 36, _ => B_36
  | 37, _ => B_37
  | 38, _ => B_38
  | 39, _ => B_39
  | 40, _ => B_40
  | 41, _ => B_41
  | 42, _ => B_42
  | 43, _ => B_43
  | 44, _ => B_44
  | 45, _ => B_45
  | 46, _ => B_46
  | 47, _ => B_47
  | 48, _ => B_48
  | 49, _ => B_49
  | 50, _ => B_50
  | 51, _ => B_51
  | 52, _ => B_52
  | 53, _ => B_53
  | 54, _ => B_54
  | 55, _ => B_55
  | 56, _ => B_56
  | 57, _ => B_57
  | 58, _ => B_58
  | 59, _ => B_59
  | 60, _ => B_60
  | 61, _ => B_61
  | 62, _ => B_62
  | 63, _ => B_63
  | 64, _ => B_64
  | 65, _ => B_65
  | 66, _ => B_66
  | 67, _ => B_67
  | 68, _ => B_68
  | 69, _ => B_69
  | 70, _ => B_70
  | 71, _ => B_71
  | 72, _ => B_72
  | 73, _ => B_73
  | 74, _ => B_74
  | 75, _ => B_75
  | 76, _ => B_76
  | 77, _ => B_77
  | 78, _ => B_78
  | 79, _ => B_79
  | 80, _ => B_80
  | n + 81, h => absurd h (by omega)
theorem C_all : ∀ n : Nat, n < 81 → ∀ s p f : Slot, GC [s, .bo (Rw n), p, .va (.bl (due n)), .va (.int 3), f, .va (.bl (due n)), .un, .un, .un, .un, .un] = .nx [s, .bo (Rw n), p, .va (.bl (due n)), .va (.int 3), f, .va (.bl (due n)), .ow (hdD n), .ow (chD n), .un, .un, .un]
  | 0, _ => C_0
  | 1, _ => C_1
  | 2, _ => C_2
  | 3, _ => C_3
  | 4, _ => C_4
  | 5, _ => C_5
  | 6, _ => C_6
  | 7, _ => C_7
  | 8, _ => C_8
  | 9, _ => C_9
  | 10, _ => C_10
  | 11, _ => C_11
  | 12, _ => C_12
  | 13, _ => C_13
  | 14, _ => C_14
  | 15, _ => C_15
  | 16, _ => C_16
  | 17, _ => C_17
  | 18, _ => C_18
  | 19, _ => C_19
  | 20, _ => C_20
  | 21, _ => C_21
  | 22, _ => C_22
  | 23, _ => C_23
  | 24, _ => C_24
  | 25, _ => C_25
  | 26, _ => C_26
  | 27, _ => C_27
  | 28, _ => C_28
  | 29, _ => C_29
  | 30, _ => C_30
  | 31, _ => C_31
  | 32, _ => C_32
  | 33, _ => C_33
  | 34, _ => C_34
  | 35, _ => C_35
  | 36, _ => C_36
  | 37, _ => C_37
  | 38, _ => C_38
  | 39, _ => C_39
  | 40, _ => C_40
  | 41, _ => C_41
  | 42, _ => C_42
  | 43, _ => C_43
  | 44, _ => C_44
  | 45, _ => C_45
  | 46, _ => C_46
  | 47, _ => C_47
  | 48, _ => C_48
  | 49, _ => C_49
  | 50, _ => C_50
  | 51, _ => C_51
  | 52, _ => C_52
  | 53, _ => C_53
  | 54, _ => C_54
  | 55, _ => C_55
  | 56, _ => C_56
  | 57, _ => C_57
  | 58, _ => C_58
  | 59, _ => C_59
  | 60, _ => C_60
  | 61, _ => C_61
  | 62, _ => C_62
  | 63, _ => C_63
  | 64, _ => C_64
  | 65, _ => C_65
  | 66, _ => C_66
  | 67, _ => C_67
  | 68, _ => C_68
  | 69, _ => C_69
  | 70, _ => C_70
  | 71, _ => C_71
  | 72, _ => C_72
  | 73, _ => C_73
  | 74, _ => C_74
  | 75, _ => C_75
  | 76, _ => C_76
  | 77, _ => C_77
  | 78, _ => C_78
  | 79, _ => C_79
  | 80, _ => C_80
  | n + 81, h => absurd h (by omega)
theorem E_all : ∀ n : Nat, n < 81 → ∀ s p f : Slot, ∀ sh : Nat, ∀ rv : Bool, sh < 4 → g__law_kept_15 [s, .bo (Rw n), p, .va (.bl (due n)), .va (.int 3), f, .va (.bl (due n)), .ow (hdD n), .ow (chD n), .va (.int sh), .ow (fourR sh rv), .un] = .nx [s, .bo (Rw n), p, .va (.bl (due n)), .va (.int 3), f, .va (.bl (due n)), .ow (hdD n), .ow (chD n), .va (.int sh), .ow (fourR sh rv), .un]
  | 0, _ => E_0
  | 1, _ => E_1
  | 2, _ => E_2
  | 3, _ => E_3
  | 4, _ => E_4
  | 5, _ => E_5
  | 6, _ => E_6
  | 7, _ => E_7
  | 8, _ => E_8
  | 9, _ => E_9
  | 10, _ => E_10
  | 11, _ => E_11
  | 12, _ => E_12
  | 13, _ => E_13
  | 14, _ => E_14
  | 15, _ => E_15
  | 16, _ => E_16
  | 17, _ => E_17
  | 18, _ => E_18
  | 19, _ => E_19
  | 20, _ => E_20
  | 21, _ => E_21
  | 22, _ => E_22
  | 23, _ => E_23
  | 24, _ => E_24
  | 25, _ => E_25
  | 26, _ => E_26
  | 27, _ => E_27
  | 28, _ => E_28
  | 29, _ => E_29
  | 30, _ => E_30
  | 31, _ => E_31
  | 32, _ => E_32
  | 33, _ => E_33
  | 34, _ => E_34
  | 35, _ => E_35
  | 36, _ => E_36
  | 37, _ => E_37
  | 38, _ => E_38
  | 39, _ => E_39
  | 40, _ => E_40
  | 41, _ => E_41
  | 42, _ => E_42
  | 43, _ => E_43
  | 44, _ => E_44
  | 45, _ => E_45
  | 46, _ => E_46
  | 47, _ => E_47
  | 48, _ => E_48
  | 49, _ => E_49
  | 50, _ => E_50
  | 51, _ => E_51
  | 52, _ => E_52
  | 53, _ => E_53
  | 54, _ => E_54
  | 55, _ => E_55
  | 56, _ => E_56
  | 57, _ => E_57
  | 58, _ => E_58
  | 59, _ => E_59
  | 60, _ => E_60
  | 61, _ => E_61
  | 62, _ => E_62
  | 63, _ => E_63
  | 64, _ => E_64
  | 65, _ => E_65
  | 66, _ => E_66
  | 67, _ => E_67
  | 68, _ => E_68
  | 69, _ => E_69
  | 70, _ => E_70
  | 71, _ => E_71
  | 72, _ => E_72
  | 73, _ => E_73
  | 74, _ => E_74
  | 75, _ => E_75
  | 76, _ => E_76
  | 77, _ => E_77
  | 78, _ => E_78
  | 79, _ => E_79
  | 80, _ => E_80
  | n + 81, h => absurd h (by omega)
theorem F_all : ∀ n : Nat, n < 81 → ∀ s p f s9 s10 : Slot, finK (GF [s, .bo (Rw n), p, .va (.bl (due n)), .va (.int 3), f, .va (.bl (due n)), .ow (hdD n), .ow (chD n), s9, s10, .un]) = some s
  | 0, _ => F_0
  | 1, _ => F_1
  | 2, _ => F_2
  | 3, _ => F_3
  | 4, _ => F_4
  | 5, _ => F_5
  | 6, _ => F_6
  | 7, _ => F_7
  | 8, _ => F_8
  | 9, _ => F_9
  | 10, _ => F_10
  | 11, _ => F_11
  | 12, _ => F_12
  | 13, _ => F_13
  | 14, _ => F_14
  | 15, _ => F_15
  | 16, _ => F_16
  | 17, _ => F_17
  | 18, _ => F_18
  | 19, _ => F_19
  | 20, _ => F_20
  | 21, _ => F_21
  | 22, _ => F_22
  | 23, _ => F_23
  | 24, _ => F_24
  | 25, _ => F_25
  | 26, _ => F_26
  | 27, _ => F_27
  | 28, _ => F_28
  | 29, _ => F_29
  | 30, _ => F_30
  | 31, _ => F_31
  | 32, _ => F_32
  | 33, _ => F_33
  | 34, _ => F_34
  | 35, _ => F_35
  | 36, _ => F_36
  | 37, _ => F_37
  | 38, _ => F_38
  | 39, _ => F_39
  | 40, _ => F_40
  | 41, _ => F_41
  | 42, _ => F_42
  | 43, _ => F_43
  | 44, _ => F_44
  | 45, _ => F_45
  | 46, _ => F_46
  | 47, _ => F_47
  | 48, _ => F_48
  | 49, _ => F_49
  | 50, _ => F_50
  | 51, _ => F_51
  | 52, _ => F_52
  | 53, _ => F_53
  | 54, _ => F_54
  | 55, _ => F_55
  | 56, _ => F_56
  | 57, _ => F_57
  | 58, _ => F_58
  | 59, _ => F_59
  | 60, _ => F_60
  | 61, _ => F_61
  | 62, _ => F_62
  | 63, _ => F_63
  | 64, _ => F_64
  | 65, _ => F_65
  | 66, _ => F_66
  | 67, _ => F_67
  | 68, _ => F_68
  | 69, _ => F_69
  | 70, _ => F_70
  | 71, _ => F_71
  | 72, _ => F_72
  | 73, _ => F_73
  | 74, _ => F_74
  | 75, _ => F_75
  | 76, _ => F_76
  | 77, _ => F_77
  | 78, _ => F_78
  | 79, _ => F_79
  | 80, _ => F_80
  | n + 81, h => absurd h (by omega)
end VP

set_option Elab.async false
set_option linter.all false
set_option maxRecDepth 100000
set_option maxHeartbeats 0
namespace VP
open PySem PySem.Spec PyProof.Rows L2 VL VW
def GR : SS := gSeq g__law_faulty_2 (gSeq g__law_faulty_3 (gSeq g__law_faulty_4 (gSeq g__law_faulty_5 (gSeq g__law_faulty_6 (gSeq g__law_faulty_7 (gSeq g__law_faulty_8 (gSeq g__law_faulty_9 g__law_faulty_10)))))))
def fauD (n wd pl : Nat) : D := match wd with
  | 0 => .lst ((rD n).take 3)
  | 1 => .lst (rD n ++ [.int 1])
  | 2 => .lst ((rD n).set pl (.int 2))
  | 3 => .lst ((rD n).set pl (.int (-2)))
  | 4 => .lst ((rD n).set pl (.bl true))
  | 5 => .lst ((rD n).set pl .non)
  | _ => .str "+0--"
def finF : SR → Option (Slot × D)
  | .rt _ d (s :: _ :: _) => some (s, d)
  | _ => none
theorem by28 {P : Nat → Nat → Prop} (h : P 0 0 ∧ P 0 1 ∧ P 0 2 ∧ P 0 3 ∧ P 1 0 ∧ P 1 1 ∧ P 1 2 ∧ P 1 3 ∧ P 2 0 ∧ P 2 1 ∧ P 2 2 ∧ P 2 3 ∧ P 3 0 ∧ P 3 1 ∧ P 3 2 ∧ P 3 3 ∧ P 4 0 ∧ P 4 1 ∧ P 4 2 ∧ P 4 3 ∧ P 5 0 ∧ P 5 1 ∧ P 5 2 ∧ P 5 3 ∧ P 6 0 ∧ P 6 1 ∧ P 6 2 ∧ P 6 3) : ∀ wd pl : Nat, wd < 7 → pl < 4 → P wd pl := by
  obtain ⟨a0, a1, a2, a3, b0, b1, b2, b3, c0, c1, c2, c3, d0, d1, d2, d3, e0, e1, e2, e3, f0, f1, f2, f3, g0, g1, g2, g3⟩ := h
  intro wd pl hw hp
  match wd, hw, pl, hp with
  | 0, _, 0, _ => exact a0
  | 0, _, 1, _ => exact a1
  | 0, _, 2, _ => exact a2
  | 0, _, 3, _ => exact a3
  | 1, _, 0, _ => exact b0
  | 1, _, 1, _ => exact b1
  | 1, _, 2, _ => exact b2
  | 1, _, 3, _ => exact b3
  | 2, _, 0, _ => exact c0
  | 2, _, 1, _ => exact c1
  | 2, _, 2, _ => exact c2
  | 2, _, 3, _ => exact c3
  | 3, _, 0, _ => exact d0
  | 3, _, 1, _ => exact d1
  | 3, _, 2, _ => exact d2
  | 3, _, 3, _ => exact d3
  | 4, _, 0, _ => exact e0
  | 4, _, 1, _ => exact e1
  | 4, _, 2, _ => exact e2
  | 4, _, 3, _ => exact e3
  | 5, _, 0, _ => exact f0
  | 5, _, 1, _ => exact f1
  | 5, _, 2, _ => exact f2
  | 5, _, 3, _ => exact f3
  | 6, _, 0, _ => exact g0
  | 6, _, 1, _ => exact g1
  | 6, _, 2, _ => exact g2
  | 6, _, 3, _ => exact g3
  | n + 7, h, _, _ => omega
  | _, _, n + 4, h => omega
def isRow (f : FR) : Bool := match f with
  | .rt false (.str x) [.un] => decide (x = "row")
  | _ => false
theorem X_0 : ∀ s : Slot, ∀ wd pl : Nat, wd < 7 → pl < 4 → finF (GR [s, .va (Rw 0), .va (.int wd), .va (.int pl), .un]) = some (s, fauD 0 wd pl) := fun s => by28 ⟨by kernel_rfl, by kernel_rfl, by kernel_rfl, by kernel_rfl, by kernel_rfl, by kernel_rfl, by kernel_rfl, by kernel_rfl, by kernel_rfl, by kernel_rfl, by kernel_rfl, by kernel_rfl, by kernel_rfl, by kernel_rfl, by kernel_rfl, by kernel_rfl, by kernel_rfl, by kernel_rfl, by kernel_rfl, by kernel_rfl, by kernel_rfl, by kernel_rfl, by kernel_rfl, by kernel_rfl, by kernel_rfl, by kernel_rfl, by kernel_rfl, by kernel_rfl⟩
theorem Y_0 : ∀ wd pl : Nat, wd < 7 → pl < 4 → isRow (F__law_refused [.va (fauD 0 wd pl)]) = true := by28 ⟨by kernel_rfl, by kernel_rfl, by kernel_rfl, by kernel_rfl, by kernel_rfl, by kernel_rfl, by kernel_rfl, by kernel_rfl, by kernel_rfl, by kernel_rfl, by kernel_rfl, by kernel_rfl, by kernel_rfl, by kernel_rfl, by kernel_rfl, by kernel_rfl, by kernel_rfl, by kernel_rfl, by kernel_rfl, by kernel_rfl, by kernel_rfl, by kernel_rfl, by kernel_rfl, by kernel_rfl, by kernel_rfl, by kernel_rfl, by kernel_rfl, by kernel_rfl⟩
theorem X_1 : ∀ s : Slot, ∀ wd pl : Nat, wd < 7 → pl < 4 → finF (GR [s, .va (Rw 1), .va (.int wd), .va (.int pl), .un]) = some (s, fauD 1 wd pl) := fun s => by28 ⟨by kernel_rfl, by kernel_rfl, by kernel_rfl, by kernel_rfl, by kernel_rfl, by kernel_rfl, by kernel_rfl, by kernel_rfl, by kernel_rfl, by kernel_rfl, by kernel_rfl, by kernel_rfl, by kernel_rfl, by kernel_rfl, by kernel_rfl, by kernel_rfl, by kernel_rfl, by kernel_rfl, by kernel_rfl, by kernel_rfl, by kernel_rfl, by kernel_rfl, by kernel_rfl, by kernel_rfl, by kernel_rfl, by kernel_rfl, by kernel_rfl, by kernel_rfl⟩
theorem Y_1 : ∀ wd pl : Nat, wd < 7 → pl < 4 → isRow (F__law_refused [.va (fauD 1 wd pl)]) = true := by28 ⟨by kernel_rfl, by kernel_rfl, by kernel_rfl, by kernel_rfl, by kernel_rfl, by kernel_rfl, by kernel_rfl, by kernel_rfl, by kernel_rfl, by kernel_rfl, by kernel_rfl, by kernel_rfl, by kernel_rfl, by kernel_rfl, by kernel_rfl, by kernel_rfl, by kernel_rfl, by kernel_rfl, by kernel_rfl, by kernel_rfl, by kernel_rfl, by kernel_rfl, by kernel_rfl, by kernel_rfl, by kernel_rfl, by kernel_rfl, by kernel_rfl, by kernel_rfl⟩
theorem X_2 : ∀ s : Slot, ∀ wd pl : Nat, wd < 7 → pl < 4 → finF (GR [s, .va (Rw 2), .va (.int wd), .va (.int pl), .un]) = some (s, fauD 2 wd pl) := fun s => by28 ⟨by kernel_rfl, by kernel_rfl, by kernel_rfl, by kernel_rfl, by kernel_rfl, by kernel_rfl, by kernel_rfl, by kernel_rfl, by kernel_rfl, by kernel_rfl, by kernel_rfl, by kernel_rfl, by kernel_rfl, by kernel_rfl, by kernel_rfl, by kernel_rfl, by kernel_rfl, by kernel_rfl, by kernel_rfl, by kernel_rfl, by kernel_rfl, by kernel_rfl, by kernel_rfl, by kernel_rfl, by kernel_rfl, by kernel_rfl, by kernel_rfl, by kernel_rfl⟩
theorem Y_2 : ∀ wd pl : Nat, wd < 7 → pl < 4 → isRow (F__law_refused [.va (fauD 2 wd pl)]) = true := by28 ⟨by kernel_rfl, by kernel_rfl, by kernel_rfl, by kernel_rfl, by kernel_rfl, by kernel_rfl, by kernel_rfl, by kernel_rfl, by kernel_rfl, by kernel_rfl, by kernel_rfl, by kernel_rfl, by kernel_rfl, by kernel_rfl, by kernel_rfl, by kernel_rfl, by kernel_rfl, by kernel_rfl, by kernel_rfl, by kernel_rfl, by kernel_rfl, by kernel_rfl, by kernel_rfl, by kernel_rfl, by kernel_rfl, by kernel_rfl, by kernel_rfl, by kernel_rfl⟩
theorem X_3 : ∀ s : Slot, ∀ wd pl : Nat, wd < 7 → pl < 4 → finF (GR [s, .va (Rw 3), .va (.int wd), .va (.int pl), .un]) = some (s, fauD 3 wd pl) := fun s => by28 ⟨by kernel_rfl, by kernel_rfl, by kernel_rfl, by kernel_rfl, by kernel_rfl, by kernel_rfl, by kernel_rfl, by kernel_rfl, by kernel_rfl, by kernel_rfl, by kernel_rfl, by kernel_rfl, by kernel_rfl, by kernel_rfl, by kernel_rfl, by kernel_rfl, by kernel_rfl, by kernel_rfl, by kernel_rfl, by kernel_rfl, by kernel_rfl, by kernel_rfl, by kernel_rfl, by kernel_rfl, by kernel_rfl, by kernel_rfl, by kernel_rfl, by kernel_rfl⟩
theorem Y_3 : ∀ wd pl : Nat, wd < 7 → pl < 4 → isRow (F__law_refused [.va (fauD 3 wd pl)]) = true := by28 ⟨by kernel_rfl, by kernel_rfl, by kernel_rfl, by kernel_rfl, by kernel_rfl, by kernel_rfl, by kernel_rfl, by kernel_rfl, by kernel_rfl, by kernel_rfl, by kernel_rfl, by kernel_rfl, by kernel_rfl, by kernel_rfl, by kernel_rfl, by kernel_rfl, by kernel_rfl, by kernel_rfl, by kernel_rfl, by kernel_rfl, by kernel_rfl, by kernel_rfl, by kernel_rfl, by kernel_rfl, by kernel_rfl, by kernel_rfl, by kernel_rfl, by kernel_rfl⟩
theorem X_4 : ∀ s : Slot, ∀ wd pl : Nat, wd < 7 → pl < 4 → finF (GR [s, .va (Rw 4), .va (.int wd), .va (.int pl), .un]) = some (s, fauD 4 wd pl) := fun s => by28 ⟨by kernel_rfl, by kernel_rfl, by kernel_rfl, by kernel_rfl, by kernel_rfl, by kernel_rfl, by kernel_rfl, by kernel_rfl, by kernel_rfl, by kernel_rfl, by kernel_rfl, by kernel_rfl, by kernel_rfl, by kernel_rfl, by kernel_rfl, by kernel_rfl, by kernel_rfl, by kernel_rfl, by kernel_rfl, by kernel_rfl, by kernel_rfl, by kernel_rfl, by kernel_rfl, by kernel_rfl, by kernel_rfl, by kernel_rfl, by kernel_rfl, by kernel_rfl⟩
theorem Y_4 : ∀ wd pl : Nat, wd < 7 → pl < 4 → isRow (F__law_refused [.va (fauD 4 wd pl)]) = true := by28 ⟨by kernel_rfl, by kernel_rfl, by kernel_rfl, by kernel_rfl, by kernel_rfl, by kernel_rfl, by kernel_rfl, by kernel_rfl, by kernel_rfl, by kernel_rfl, by kernel_rfl, by kernel_rfl, by kernel_rfl, by kernel_rfl, by kernel_rfl, by kernel_rfl, by kernel_rfl, by kernel_rfl, by kernel_rfl, by kernel_rfl, by kernel_rfl, by kernel_rfl, by kernel_rfl, by kernel_rfl, by kernel_rfl, by kernel_rfl, by kernel_rfl, by kernel_rfl⟩
theorem X_5 : ∀ s : Slot, ∀ wd pl : Nat, wd < 7 → pl < 4 → finF (GR [s, .va (Rw 5), .va (.int wd), .va (.int pl), .un]) = some (s, fauD 5 wd pl) := fun s => by28 ⟨by kernel_rfl, by kernel_rfl, by kernel_rfl, by kernel_rfl, by kernel_rfl, by kernel_rfl, by kernel_rfl, by kernel_rfl, by kernel_rfl, by kernel_rfl, by kernel_rfl, by kernel_rfl, by kernel_rfl, by kernel_rfl, by kernel_rfl, by kernel_rfl, by kernel_rfl, by kernel_rfl, by kernel_rfl, by kernel_rfl, by kernel_rfl, by kernel_rfl, by kernel_rfl, by kernel_rfl, by kernel_rfl, by kernel_rfl, by kernel_rfl, by kernel_rfl⟩
theorem Y_5 : ∀ wd pl : Nat, wd < 7 → pl < 4 → isRow (F__law_refused [.va (fauD 5 wd pl)]) = true := by28 ⟨by kernel_rfl, by kernel_rfl, by kernel_rfl, by kernel_rfl, by kernel_rfl, by kernel_rfl, by kernel_rfl, by kernel_rfl, by kernel_rfl, by kernel_rfl, by kernel_rfl, by kernel_rfl, by kernel_rfl, by kernel_rfl, by kernel_rfl, by kernel_rfl, by kernel_rfl, by kernel_rfl, by kernel_rfl, by kernel_rfl, by kernel_rfl, by kernel_rfl, by kernel_rfl, by kernel_rfl, by kernel_rfl, by kernel_rfl, by kernel_rfl, by kernel_rfl⟩
theorem X_6 : ∀ s : Slot, ∀ wd pl : Nat, wd < 7 → pl < 4 → finF (GR [s, .va (Rw 6), .va (.int wd), .va (.int pl), .un]) = some (s, fauD 6 wd pl) := fun s => by28 ⟨by kernel_rfl, by kernel_rfl, by kernel_rfl, by kernel_rfl, by kernel_rfl, by kernel_rfl, by kernel_rfl, by kernel_rfl, by kernel_rfl, by kernel_rfl, by kernel_rfl, by kernel_rfl, by kernel_rfl, by kernel_rfl, by kernel_rfl, by kernel_rfl, by kernel_rfl, by kernel_rfl, by kernel_rfl, by kernel_rfl, by kernel_rfl, by kernel_rfl, by kernel_rfl, by kernel_rfl, by kernel_rfl, by kernel_rfl, by kernel_rfl, by kernel_rfl⟩
theorem Y_6 : ∀ wd pl : Nat, wd < 7 → pl < 4 → isRow (F__law_refused [.va (fauD 6 wd pl)]) = true := by28 ⟨by kernel_rfl, by kernel_rfl, by kernel_rfl, by kernel_rfl, by kernel_rfl, by kernel_rfl, by kernel_rfl, by kernel_rfl, by kernel_rfl, by kernel_rfl, by kernel_rfl, by kernel_rfl, by kernel_rfl, by kernel_rfl, by kernel_rfl, by kernel_rfl, by kernel_rfl, by kernel_rfl, by kernel_rfl, by kernel_rfl, by kernel_rfl, by kernel_rfl, by kernel_rfl, by kernel_rfl, by kernel_rfl, by kernel_rfl, by kernel_rfl, by kernel_rfl⟩
theorem X_7 : ∀ s : Slot, ∀ wd pl : Nat, wd < 7 → pl < 4 → finF (GR [s, .va (Rw 7), .va (.int wd), .va (.int pl), .un]) = some (s, fauD 7 wd pl) := fun s => by28 ⟨by kernel_rfl, by kernel_rfl, by kernel_rfl, by kernel_rfl, by kernel_rfl, by kernel_rfl, by kernel_rfl, by kernel_rfl, by kernel_rfl, by kernel_rfl, by kernel_rfl, by kernel_rfl, by kernel_rfl, by kernel_rfl, by kernel_rfl, by kernel_rfl, by kernel_rfl, by kernel_rfl, by kernel_rfl, by kernel_rfl, by kernel_rfl, by kernel_rfl, by kernel_rfl, by kernel_rfl, by kernel_rfl, by kernel_rfl, by kernel_rfl, by kernel_rfl⟩
theorem Y_7 : ∀ wd pl : Nat, wd < 7 → pl < 4 → isRow (F__law_refused [.va (fauD 7 wd pl)]) = true := by28 ⟨by kernel_rfl, by kernel_rfl, by kernel_rfl, by kernel_rfl, by kernel_rfl, by kernel_rfl, by kernel_rfl, by kernel_rfl, by kernel_rfl, by kernel_rfl, by kernel_rfl, by kernel_rfl, by kernel_rfl, by kernel_rfl, by kernel_rfl, by kernel_rfl, by kernel_rfl, by kernel_rfl, by kernel_rfl, by kernel_rfl, by kernel_rfl, by kernel_rfl, by kernel_rfl, by kernel_rfl, by kernel_rfl, by kernel_rfl, by kernel_rfl, by kernel_rfl⟩
theorem X_8 : ∀ s : Slot, ∀ wd pl : Nat, wd < 7 → pl < 4 → finF (GR [s, .va (Rw 8), .va (.int wd), .va (.int pl), .un]) = some (s, fauD 8 wd pl) := fun s => by28 ⟨by kernel_rfl, by kernel_rfl, by kernel_rfl, by kernel_rfl, by kernel_rfl, by kernel_rfl, by kernel_rfl, by kernel_rfl, by kernel_rfl, by kernel_rfl, by kernel_rfl, by kernel_rfl, by kernel_rfl, by kernel_rfl, by kernel_rfl, by kernel_rfl, by kernel_rfl, by kernel_rfl, by kernel_rfl, by kernel_rfl, by kernel_rfl, by kernel_rfl, by kernel_rfl, by kernel_rfl, by kernel_rfl, by kernel_rfl, by kernel_rfl, by kernel_rfl⟩
theorem Y_8 : ∀ wd pl : Nat, wd < 7 → pl < 4 → isRow (F__law_refused [.va (fauD 8 wd pl)]) = true := by28 ⟨by kernel_rfl, by kernel_rfl, by kernel_rfl, by kernel_rfl, by kernel_rfl, by kernel_rfl, by kernel_rfl, by kernel_rfl, by kernel_rfl, by kernel_rfl, by kernel_rfl, by kernel_rfl, by kernel_rfl, by kernel_rfl, by kernel_rfl, by kernel_rfl, by kernel_rfl, by kernel_rfl, by kernel_rfl, by kernel_rfl, by kernel_rfl, by kernel_rfl, by kernel_rfl, by kernel_rfl, by kernel_rfl, by kernel_rfl, by kernel_rfl, by kernel_rfl⟩
theorem X_9 : ∀ s : Slot, ∀ wd pl : Nat, wd < 7 → pl < 4 → finF (GR [s, .va (Rw 9), .va (.int wd), .va (.int pl), .un]) = some (s, fauD 9 wd pl) := fun s => by28 ⟨by kernel_rfl, by kernel_rfl, by kernel_rfl, by kernel_rfl, by kernel_rfl, by kernel_rfl, by kernel_rfl, by kernel_rfl, by kernel_rfl, by kernel_rfl, by kernel_rfl, by kernel_rfl, by kernel_rfl, by kernel_rfl, by kernel_rfl, by kernel_rfl, by kernel_rfl, by kernel_rfl, by kernel_rfl, by kernel_rfl, by kernel_rfl, by kernel_rfl, by kernel_rfl, by kernel_rfl, by kernel_rfl, by kernel_rfl, by kernel_rfl, by kernel_rfl⟩
theorem Y_9 : ∀ wd pl : Nat, wd < 7 → pl < 4 → isRow (F__law_refused [.va (fauD 9 wd pl)]) = true := by28 ⟨by kernel_rfl, by kernel_rfl, by kernel_rfl, by kernel_rfl, by kernel_rfl, by kernel_rfl, by kernel_rfl, by kernel_rfl, by kernel_rfl, by kernel_rfl, by kernel_rfl, by kernel_rfl, by kernel_rfl, by kernel_rfl, by kernel_rfl, by kernel_rfl, by kernel_rfl, by kernel_rfl, by kernel_rfl, by kernel_rfl, by kernel_rfl, by kernel_rfl, by kernel_rfl, by kernel_rfl, by kernel_rfl, by kernel_rfl, by kernel_rfl, by kernel_rfl⟩
theorem X_10 : ∀ s : Slot, ∀ wd pl : Nat, wd < 7 → pl < 4 → finF (GR [s, .va (Rw 10), .va (.int wd), .va (.int pl), .un]) = some (s, fauD 10 wd pl) := fun s => by28 ⟨by kernel_rfl, by kernel_rfl, by kernel_rfl, by kernel_rfl, by kernel_rfl, by kernel_rfl, by kernel_rfl, by kernel_rfl, by kernel_rfl, by kernel_rfl, by kernel_rfl, by kernel_rfl, by kernel_rfl, by kernel_rfl, by kernel_rfl, by kernel_rfl, by kernel_rfl, by kernel_rfl, by kernel_rfl, by kernel_rfl, by kernel_rfl, by kernel_rfl, by kernel_rfl, by kernel_rfl, by kernel_rfl, by kernel_rfl, by kernel_rfl, by kernel_rfl⟩
theorem Y_10 : ∀ wd pl : Nat, wd < 7 → pl < 4 → isRow (F__law_refused [.va (fauD 10 wd pl)]) = true := by28 ⟨by kernel_rfl, by kernel_rfl, by kernel_rfl, by kernel_rfl, by kernel_rfl, by kernel_rfl, by kernel_rfl, by kernel_rfl, by kernel_rfl, by kernel_rfl, by kernel_rfl, by kernel_rfl, by kernel_rfl, by kernel_rfl, by kernel_rfl, by kernel_rfl, by kernel_rfl, by kernel_rfl, by kernel_rfl, by kernel_rfl, by kernel_rfl, by kernel_rfl, by kernel_rfl, by kernel_rfl, by kernel_rfl, by kernel_rfl, by kernel_rfl, by kernel_rfl⟩
theorem X_11 : ∀ s : Slot, ∀ wd pl : Nat, wd < 7 → pl < 4 → finF (GR [s, .va (Rw 11), .va (.int wd), .va (.int pl), .un]) = some (s, fauD 11 wd pl) := fun s => by28 ⟨by kernel_rfl, by kernel_rfl, by kernel_rfl, by kernel_rfl, by kernel_rfl, by kernel_rfl, by kernel_rfl, by kernel_rfl, by kernel_rfl, by kernel_rfl, by kernel_rfl, by kernel_rfl, by kernel_rfl, by kernel_rfl, by kernel_rfl, by kernel_rfl, by kernel_rfl, by kernel_rfl, by kernel_rfl, by kernel_rfl, by kernel_rfl, by kernel_rfl, by kernel_rfl, by kernel_rfl, by kernel_rfl, by kernel_rfl, by kernel_rfl, by kernel_rfl⟩
theorem Y_11 : ∀ wd pl : Nat, wd < 7 → pl < 4 → isRow (F__law_refused [.va (fauD 11 wd pl)]) = true := by28 ⟨by kernel_rfl, by kernel_rfl, by kernel_rfl, by kernel_rfl, by kernel_rfl, by kernel_rfl, by kernel_rfl, by kernel_rfl, by kernel_rfl, by kernel_rfl, by kernel_rfl, by kernel_rfl, by kernel_rfl, by kernel_rfl, by kernel_rfl, by kernel_rfl, by kernel_rfl, by kernel_rfl, by kernel_rfl, by kernel_rfl, by kernel_rfl, by kernel_rfl, by kernel_rfl, by kernel_rfl, by kernel_rfl, by kernel_rfl, by kernel_rfl, by kernel_rfl⟩
theorem X_12 : ∀ s : Slot, ∀ wd pl : Nat, wd < 7 → pl < 4 → finF (GR [s, .va (Rw 12), .va (.int wd), .va (.int pl), .un]) = some (s, fauD 12 wd pl) := fun s => by28 ⟨by kernel_rfl, by kernel_rfl, by kernel_rfl, by kernel_rfl, by kernel_rfl, by kernel_rfl, by kernel_rfl, by kernel_rfl, by kernel_rfl, by kernel_rfl, by kernel_rfl, by kernel_rfl, by kernel_rfl, by kernel_rfl, by kernel_rfl, by kernel_rfl, by kernel_rfl, by kernel_rfl, by kernel_rfl, by kernel_rfl, by kernel_rfl, by kernel_rfl, by kernel_rfl, by kernel_rfl, by kernel_rfl, by kernel_rfl, by kernel_rfl, by kernel_rfl⟩
theorem Y_12 : ∀ wd pl : Nat, wd < 7 → pl < 4 → isRow (F__law_refused [.va (fauD 12 wd pl)]) = true := by28 ⟨by kernel_rfl, by kernel_rfl, by kernel_rfl, by kernel_rfl, by kernel_rfl, by kernel_rfl, by kernel_rfl, by kernel_rfl, by kernel_rfl, by kernel_rfl, by kernel_rfl, by kernel_rfl, by kernel_rfl, by kernel_rfl, by kernel_rfl, by kernel_rfl, by kernel_rfl, by kernel_rfl, by kernel_rfl, by kernel_rfl, by kernel_rfl, by kernel_rfl, by kernel_rfl, by kernel_rfl, by kernel_rfl, by kernel_rfl, by kernel_rfl, by kernel_rfl⟩
theorem X_13 : ∀ s : Slot, ∀ wd pl : Nat, wd < 7 → pl < 4 → finF (GR [s, .va (Rw 13), .va (.int wd), .va (.int pl), .un]) = some (s, fauD 13 wd pl) := fun s => by28 ⟨by kernel_rfl, by kernel_rfl, by kernel_rfl, by kernel_rfl, by kernel_rfl, by kernel_rfl, by kernel_rfl, by kernel_rfl, by kernel_rfl, by kernel_rfl, by kernel_rfl, by kernel_rfl, by kernel_rfl, by kernel_rfl, by kernel_rfl, by kernel_rfl, by kernel_rfl, by kernel_rfl, by kernel_rfl, by kernel_rfl, by kernel_rfl, by kernel_rfl, by kernel_rfl, by kernel_rfl, by kernel_rfl, by kernel_rfl, by kernel_rfl, by kernel_rfl⟩
theorem Y_13 : ∀ wd pl : Nat, wd < 7 → pl < 4 → isRow (F__law_refused [.va (fauD 13 wd pl)]) = true := by28 ⟨by kernel_rfl, by kernel_rfl, by kernel_rfl, by kernel_rfl, by kernel_rfl, by kernel_rfl, by kernel_rfl, by kernel_rfl, by kernel_rfl, by kernel_rfl, by kernel_rfl, by kernel_rfl, by kernel_rfl, by kernel_rfl, by kernel_rfl, by kernel_rfl, by kernel_rfl, by kernel_rfl, by kernel_rfl, by kernel_rfl, by kernel_rfl, by kernel_rfl, by kernel_rfl, by kernel_rfl, by kernel_rfl, by kernel_rfl, by kernel_rfl, by kernel_rfl⟩
theorem X_14 : ∀ s : Slot, ∀ wd pl : Nat, wd < 7 → pl < 4 → finF (GR [s, .va (Rw 14), .va (.int wd), .va (.int pl), .un]) = some (s, fauD 14 wd pl) := fun s => by28 ⟨by kernel_rfl, by kernel_rfl, by kernel_rfl, by kernel_rfl, by kernel_rfl, by kernel_rfl, by kernel_rfl, by kernel_rfl, by kernel_rfl, by kernel_rfl, by kernel_rfl, by kernel_rfl, by kernel_rfl, by kernel_rfl, by kernel_rfl, by kernel_rfl, by kernel_rfl, by kernel_rfl, by kernel_rfl, by kernel_rfl, by kernel_rfl, by kernel_rfl, by kernel_rfl, by kernel_rfl, by kernel_rfl, by kernel_rfl, by kernel_rfl, by kernel_rfl⟩
theorem Y_14 : ∀ wd pl : Nat, wd < 7 → pl < 4 → isRow (F__law_refused [.va (fauD 14 wd pl)]) = true := by28 ⟨by kernel_rfl, by kernel_rfl, by kernel_rfl, by kernel_rfl, by kernel_rfl, by kernel_rfl, by kernel_rfl, by kernel_rfl, by kernel_rfl, by kernel_rfl, by kernel_rfl, by kernel_rfl, by kernel_rfl, by kernel_rfl, by kernel_rfl, by kernel_rfl, by kernel_rfl, by kernel_rfl, by kernel_rfl, by kernel_rfl, by kernel_rfl, by kernel_rfl, by kernel_rfl, by kernel_rfl, by kernel_rfl, by kernel_rfl, by kernel_rfl, by kernel_rfl⟩
theorem X_15 : ∀ s : Slot, ∀ wd pl : Nat, wd < 7 → pl < 4 → finF (GR [s, .va (Rw 15), .va (.int wd), .va (.int pl), .un]) = some (s, fauD 15 wd pl) := fun s => by28 ⟨by kernel_rfl, by kernel_rfl, by kernel_rfl, by kernel_rfl, by kernel_rfl, by kernel_rfl, by kernel_rfl, by kernel_rfl, by kernel_rfl, by kernel_rfl, by kernel_rfl, by kernel_rfl, by kernel_rfl, by kernel_rfl, by kernel_rfl, by kernel_rfl, by kernel_rfl, by kernel_rfl, by kernel_rfl, by kernel_rfl, by kernel_rfl, by kernel_rfl, by kernel_rfl, by kernel_rfl, by kernel_rfl, by kernel_rfl, by kernel_rfl, by kernel_rfl⟩
theorem Y_15 : ∀ wd pl : Nat, wd < 7 → pl < 4 → isRow (F__law_refused [.va (fauD 15 wd pl)]) = true := by28 ⟨by kernel_rfl, by kernel_rfl, by kernel_rfl, by kernel_rfl, by kernel_rfl, by kernel_rfl, by kernel_rfl, by kernel_rfl, by kernel_rfl, by kernel_rfl, by kernel_rfl, by kernel_rfl, by kernel_rfl, by kernel_rfl, by kernel_rfl, by kernel_rfl, by kernel_rfl, by kernel_rfl, by kernel_rfl, by kernel_rfl, by kernel_rfl, by kernel_rfl, by kernel_rfl, by kernel_rfl, by kernel_rfl, by kernel_rfl, by kernel_rfl, by kernel_rfl⟩
theorem X_16 : ∀ s : Slot, ∀ wd pl : Nat, wd < 7 → pl < 4 → finF (GR [s, .va (Rw 16), .va (.int wd), .va (.int pl), .un]) = some (s, fauD 16 wd pl) := fun s => by28 ⟨by kernel_rfl, by kernel_rfl, by kernel_rfl, by kernel_rfl, by kernel_rfl, by kernel_rfl, by kernel_rfl, by kernel_rfl, by kernel_rfl, by kernel_rfl, by kernel_rfl, by kernel_rfl, by kernel_rfl, by kernel_rfl, by kernel_rfl, by kernel_rfl, by kernel_rfl, by kernel_rfl, by kernel_rfl, by kernel_rfl, by kernel_rfl, by kernel_rfl, by kernel_rfl, by kernel_rfl, by kernel_rfl, by kernel_rfl, by kernel_rfl, by kernel_rfl⟩
theorem Y_16 : ∀ wd pl : Nat, wd < 7 → pl < 4 → isRow (F__law_refused [.va (fauD 16 wd pl)]) = true := by28 ⟨by kernel_rfl, by kernel_rfl, by kernel_rfl, by kernel_rfl, by kernel_rfl, by kernel_rfl, by kernel_rfl, by kernel_rfl, by kernel_rfl, by kernel_rfl, by kernel_rfl, by kernel_rfl, by kernel_rfl, by kernel_rfl, by kernel_rfl, by kernel_rfl, by kernel_rfl, by kernel_rfl, by kernel_rfl, by kernel_rfl, by kernel_rfl, by kernel_rfl, by kernel_rfl, by kernel_rfl, by kernel_rfl, by kernel_rfl, by kernel_rfl, by kernel_rfl⟩
theorem X_17 : ∀ s : Slot, ∀ wd pl : Nat, wd < 7 → pl < 4 → finF (GR [s, .va (Rw 17), .va (.int wd), .va (.int pl), .un]) = some (s, fauD 17 wd pl) := fun s => by28 ⟨by kernel_rfl, by kernel_rfl, by kernel_rfl, by kernel_rfl, by kernel_rfl, by kernel_rfl, by kernel_rfl, by kernel_rfl, by kernel_rfl, by kernel_rfl, by kernel_rfl, by kernel_rfl, by kernel_rfl, by kernel_rfl, by kernel_rfl, by kernel_rfl, by kernel_rfl, by kernel_rfl, by kernel_rfl, by kernel_rfl, by kernel_rfl, by kernel_rfl, by kernel_rfl, by kernel_rfl, by kernel_rfl, by kernel_rfl, by kernel_rfl, by kernel_rfl⟩
theorem Y_17 : ∀ wd pl : Nat, wd < 7 → pl < 4 → isRow (F__law_refused [.va (fauD 17 wd pl)]) = true := by28 ⟨by kernel_rfl, by kernel_rfl, by kernel_rfl, by kernel_rfl, by kernel_rfl, by kernel_rfl, by kernel_rfl, by kernel_rfl, by kernel_rfl, by kernel_rfl, by kernel_rfl, by kernel_rfl, by kernel_rfl, by kernel_rfl, by kernel_rfl, by kernel_rfl, by kernel_rfl, by kernel_rfl, by kernel_rfl, by kernel_rfl, by kernel_rfl, by kernel_rfl, by kernel_rfl, by kernel_rfl, by kernel_rfl, by kernel_rfl, by kernel_rfl, by kernel_rfl⟩
theorem X_18 : ∀ s : Slot, ∀ wd pl : Nat, wd < 7 → pl < 4 → finF (GR [s, .va (Rw 18), .va (.int wd), .va (.int pl), .un]) = some (s, fauD 18 wd pl) := fun s => by28 ⟨by kernel_rfl, by kernel_rfl, by kernel_rfl, by kernel_rfl, by kernel_rfl, by kernel_rfl, by kernel_rfl, by kernel_rfl, by kernel_rfl, by kernel_rfl, by kernel_rfl, by kernel_rfl, by kernel_rfl, by kernel_rfl, by kernel_rfl, by kernel_rfl, by kernel_rfl, by kernel_rfl, by kernel_rfl, by kernel_rfl, by kernel_rfl, by kernel_rfl, by kernel_rfl, by kernel_rfl, by kernel_rfl, by kernel_rfl, by kernel_rfl, by kernel_rfl⟩
theorem Y_18 : ∀ wd pl : Nat, wd < 7 → pl < 4 → isRow (F__law_refused [.va (fauD 18 wd pl)]) = true := by28 ⟨by kernel_rfl, by kernel_rfl, by kernel_rfl, by kernel_rfl, by kernel_rfl, by kernel_rfl, by kernel_rfl, by kernel_rfl, by kernel_rfl, by kernel_rfl, by kernel_rfl, by kernel_rfl, by kernel_rfl, by kernel_rfl, by kernel_rfl, by kernel_rfl, by kernel_rfl, by kernel_rfl, by kernel_rfl, by kernel_rfl, by kernel_rfl, by kernel_rfl, by kernel_rfl, by kernel_rfl, by kernel_rfl, by kernel_rfl, by kernel_rfl, by kernel_rfl⟩
theorem X_19 : ∀ s : Slot, ∀ wd pl : Nat, wd < 7 → pl < 4 → finF (GR [s, .va (Rw 19), .va (.int wd), .va (.int pl), .un]) = some (s, fauD 19 wd pl) := fun s => by28 ⟨by kernel_rfl, by kernel_rfl, by kernel_rfl, by kernel_rfl, by kernel_rfl, by kernel_rfl, by kernel_rfl, by kernel_rfl, by kernel_rfl, by kernel_rfl, by kernel_rfl, by kernel_rfl, by kernel_rfl, by kernel_rfl, by kernel_rfl, by kernel_rfl, by kernel_rfl, by kernel_rfl, by kernel_rfl, by kernel_rfl, by kernel_rfl, by kernel_rfl, by kernel_rfl, by kernel_rfl, by kernel_rfl, by kernel_rfl, by kernel_rfl, by kernel_rfl⟩
theorem Y_19 : ∀ wd pl : Nat, wd < 7 → pl < 4 → isRow (F__law_refused [.va (fauD 19 wd pl)]) = true := by28 ⟨by kernel_rfl, by kernel_rfl, by kernel_rfl, by kernel_rfl, by kernel_rfl, by kernel_rfl, by kernel_rfl, by kernel_rfl, by kernel_rfl, by kernel_rfl, by kernel_rfl, by kernel_rfl, by kernel_rfl, by kernel_rfl, by kernel_rfl, by kernel_rfl, by kernel_rfl, by kernel_rfl, by kernel_rfl, by kernel_rfl, by kernel_rfl, by kernel_rfl, by kernel_rfl, by kernel_rfl, by kernel_rfl, by kernel_rfl, by kernel_rfl, by kernel_rfl⟩
theorem X_20 : ∀ s : Slot, ∀ wd pl : Nat, wd < 7 → pl < 4 → finF (GR [s, .va (Rw 20), .va (.int wd), .va (.int pl), .un]) = some (s, fauD 20 wd pl) := fun s => by28 ⟨by kernel_rfl, by kernel_rfl, by kernel_rfl, by kernel_rfl, by kernel_rfl, by kernel_rfl, by kernel_rfl, by kernel_rfl, by kernel_rfl, by kernel_rfl, by kernel_rfl, by kernel_rfl, by kernel_rfl, by kernel_rfl, by kernel_rfl, by kernel_rfl, by kernel_rfl, by kernel_rfl, by kernel_rfl, by kernel_rfl, by kernel_rfl, by kernel_rfl, by kernel_rfl, by kernel_rfl, by kernel_rfl, by kernel_rfl, by kernel_rfl, by kernel_rfl⟩
theorem Y_20 : ∀ wd pl : Nat, wd < 7 → pl < 4 → isRow (F__law_refused [.va (fauD 20 wd pl)]) = true := by28 ⟨by kernel_rfl, by kernel_rfl, by kernel_rfl, by kernel_rfl, by kernel_rfl, by kernel_rfl, by kernel_rfl, by kernel_rfl, by kernel_rfl, by kernel_rfl, by kernel_rfl, by kernel_rfl, by kernel_rfl, by kernel_rfl, by kernel_rfl, by kernel_rfl, by kernel_rfl, by kernel_rfl, by kernel_rfl, by kernel_rfl, by kernel_rfl, by kernel_rfl, by kernel_rfl, by kernel_rfl, by kernel_rfl, by kernel_rfl, by kernel_rfl, by kernel_rfl⟩
theorem X_21 : ∀ s : Slot, ∀ wd pl : Nat, wd < 7 → pl < 4 → finF (GR [s, .va (Rw 21), .va (.int wd), .va (.int pl), .un]) = some (s, fauD 21 wd pl) := fun s => by28 ⟨by kernel_rfl, by kernel_rfl, by kernel_rfl, by kernel_rfl, by kernel_rfl, by kernel_rfl, by kernel_rfl, by kernel_rfl, by kernel_rfl, by kernel_rfl, by kernel_rfl, by kernel_rfl, by kernel_rfl, by kernel_rfl, by kernel_rfl, by kernel_rfl, by kernel_rfl, by kernel_rfl, by kernel_rfl, by kernel_rfl, by kernel_rfl, by kernel_rfl, by kernel_rfl, by kernel_rfl, by kernel_rfl, by kernel_rfl, by kernel_rfl, by kernel_rfl⟩
theorem Y_21 : ∀ wd pl : Nat, wd < 7 → pl < 4 → isRow (F__law_refused [.va (fauD 21 wd pl)]) = true := by28 ⟨by kernel_rfl, by kernel_rfl, by kernel_rfl, by kernel_rfl, by kernel_rfl, by kernel_rfl, by kernel_rfl, by kernel_rfl, by kernel_rfl, by kernel_rfl, by kernel_rfl, by kernel_rfl, by kernel_rfl, by kernel_rfl, by kernel_rfl, by kernel_rfl, by kernel_rfl, by kernel_rfl, by kernel_rfl, by kernel_rfl, by kernel_rfl, by kernel_rfl, by kernel_rfl, by kernel_rfl, by kernel_rfl, by kernel_rfl, by kernel_rfl, by kernel_rfl⟩
theorem X_22 : ∀ s : Slot, ∀ wd pl : Nat, wd < 7 → pl < 4 → finF (GR [s, .va (Rw 22), .va (.int wd), .va (.int pl), .un]) = some (s, fauD 22 wd pl) := fun s => by28 ⟨by kernel_rfl, by kernel_rfl, by kernel_rfl, by kernel_rfl, by kernel_rfl, by kernel_rfl, by kernel_rfl, by kernel_rfl, by kernel_rfl, by kernel_rfl, by kernel_rfl, by kernel_rfl, by kernel_rfl, by kernel_rfl, by kernel_rfl, by kernel_rfl, by kernel_rfl, by kernel_rfl, by kernel_rfl, by kernel_rfl, by kernel_rfl, by kernel_rfl, by kernel_rfl, by kernel_rfl, by kernel_rfl, by kernel_rfl, by kernel_rfl, by kernel_rfl⟩
theorem Y_22 : ∀ wd pl : Nat, wd < 7 → pl < 4 → isRow (F__law_refused [.va (fauD 22 wd pl)]) = true := by28 ⟨by kernel_rfl, by kernel_rfl, by kernel_rfl, by kernel_rfl, by kernel_rfl, by kernel_rfl, by kernel_rfl, by kernel_rfl, by kernel_rfl, by kernel_rfl, by kernel_rfl, by kernel_rfl, by kernel_rfl, by kernel_rfl, by kernel_rfl, by kernel_rfl, by kernel_rfl, by kernel_rfl, by kernel_rfl, by kernel_rfl, by kernel_rfl, by kernel_rfl, by kernel_rfl, by kernel_rfl, by kernel_rfl, by kernel_rfl, by kernel_rfl, by kernel_rfl⟩
theorem X_23 : ∀ s : Slot, ∀ wd pl : Nat, wd < 7 → pl < 4 → finF (GR [s, .va (Rw 23), .va (.int wd), .va (.int pl), .un]) = some (s, fauD 23 wd pl) := fun s => by28 ⟨by kernel_rfl, by kernel_rfl, by kernel_rfl, by kernel_rfl, by kernel_rfl, by kernel_rfl, by kernel_rfl, by kernel_rfl, by kernel_rfl, by kernel_rfl, by kernel_rfl, by kernel_rfl, by kernel_rfl, by kernel_rfl, by kernel_rfl, by kernel_rfl, by kernel_rfl, by kernel_rfl, by kernel_rfl, by kernel_rfl, by kernel_rfl, by kernel_rfl, by kernel_rfl, by kernel_rfl, by kernel_rfl, by kernel_rfl, by kernel_rfl, by kernel_rfl⟩
theorem Y_23 : ∀ wd pl : Nat, wd < 7 → pl < 4 → isRow (F__law_refused [.va (fauD 23 wd pl)]) = true := by28 ⟨by kernel_rfl, by kernel_rfl, by kernel_rfl, by kernel_rfl, by kernel_rfl, by kernel_rfl, by kernel_rfl, by kernel_rfl, by kernel_rfl, by kernel_rfl, by kernel_rfl, by kernel_rfl, by kernel_rfl, by kernel_rfl, by kernel_rfl, by kernel_rfl, by kernel_rfl, by kernel_rfl, by kernel_rfl, by kernel_rfl, by kernel_rfl, by kernel_rfl, by kernel_rfl, by kernel_rfl, by kernel_rfl, by kernel_rfl, by kernel_rfl, by kernel_rfl⟩
theorem X_24 : ∀ s : Slot, ∀ wd pl : Nat, wd < 7 → pl < 4 → finF (GR [s, .va (Rw 24), .va (.int wd), .va (.int pl), .un]) = some (s, fauD 24 wd pl) := fun s => by28 ⟨by kernel_rfl, by kernel_rfl, by kernel_rfl, by kernel_rfl, by kernel_rfl, by kernel_rfl, by kernel_rfl, by kernel_rfl, by kernel_rfl, by kernel_rfl, by kernel_rfl, by kernel_rfl, by kernel_rfl, by kernel_rfl, by kernel_rfl, by kernel_rfl, by kernel_rfl, by kernel_rfl, by kernel_rfl, by kernel_rfl, by kernel_rfl, by kernel_rfl, by kernel_rfl, by kernel_rfl, by kernel_rfl, by kernel_rfl, by kernel_rfl, by kernel_rfl⟩
theorem Y_24 : ∀ wd pl : Nat, wd < 7 → pl < 4 → isRow (F__law_refused [.va (fauD 24 wd pl)]) = true := by28 ⟨by kernel_rfl, by kernel_rfl, by kernel_rfl, by kernel_rfl, by kernel_rfl, by kernel_rfl, by kernel_rfl, by kernel_rfl, by kernel_rfl, by kernel_rfl, by kernel_rfl, by kernel_rfl, by kernel_rfl, by kernel_rfl, by kernel_rfl, by kernel_rfl, by kernel_rfl, by kernel_rfl, by kernel_rfl, by kernel_rfl, by kernel_rfl, by kernel_rfl, by kernel_rfl, by kernel_rfl, by kernel_rfl, by kernel_rfl, by kernel_rfl, by kernel_rfl⟩
theorem X_25 : ∀ s : Slot, ∀ wd pl : Nat, wd < 7 → pl < 4 → finF (GR [s, .va (Rw 25), .va (.int wd), .va (.int pl), .un]) = some (s, fauD 25 wd pl) := fun s => by28 ⟨by kernel_rfl, by kernel_rfl, by kernel_rfl, by kernel_rfl, by kernel_rfl, by kernel_rfl, by kernel_rfl, by kernel_rfl, by kernel_rfl, by kernel_rfl, by kernel_rfl, by kernel_rfl, by kernel_rfl, by kernel_rfl, by kernel_rfl, by kernel_rfl, by kernel_rfl, by kernel_rfl, by kernel_rfl, by kernel_rfl, by kernel_rfl, by kernel_rfl, by kernel_rfl, by kernel_rfl, by kernel_rfl, by kernel_rfl, by kernel_rfl, by kernel_rfl⟩
theorem Y_25 : ∀ wd pl : Nat, wd < 7 → pl < 4 → isRow (F__law_refused [.va (fauD 25 wd pl)]) = true := by28 ⟨by kernel_rfl, by kernel_rfl, by kernel_rfl, by kernel_rfl, by kernel_rfl, by kernel_rfl, by kernel_rfl, by kernel_rfl, by kernel_rfl, by kernel_rfl, by kernel_rfl, by kernel_rfl, by kernel_rfl, by kernel_rfl, by kernel_rfl, by kernel_rfl, by kernel_rfl, by kernel_rfl, by kernel_rfl, by kernel_rfl, by kernel_rfl, by kernel_rfl, by kernel_rfl, by kernel_rfl, by kernel_rfl, by kernel_rfl, by kernel_rfl, by kernel_rfl⟩
theorem X_26 : ∀ s : Slot, ∀ wd pl : Nat, wd < 7 → pl < 4 → finF (GR [s, .va (Rw 26), .va (.int wd), .va (.int pl), .un]) = some (s, fauD 26 wd pl) := fun s => by28 ⟨by kernel_rfl, by kernel_rfl, by kernel_rfl, by kernel_rfl, by kernel_rfl, by kernel_rfl, by kernel_rfl, by kernel_rfl, by kernel_rfl, by kernel_rfl, by kernel_rfl, by kernel_rfl, by kernel_rfl, by kernel_rfl, by kernel_rfl, by kernel_rfl, by kernel_rfl, by kernel_rfl, by kernel_rfl, by kernel_rfl, by kernel_rfl, by kernel_rfl, by kernel_rfl, by kernel_rfl, by kernel_rfl, by kernel_rfl, by kernel_rfl, by kernel_rfl⟩
theorem Y_26 : ∀ wd pl : Nat, wd < 7 → pl < 4 → isRow (F__law_refused [.va (fauD 26 wd pl)]) = true := by28 ⟨by kernel_rfl, by kernel_rfl, by kernel_rfl, by kernel_rfl, by kernel_rfl, by kernel_rfl, by kernel_rfl, by kernel_rfl, by kernel_rfl, by kernel_rfl, by kernel_rfl, by kernel_rfl, by kernel_rfl, by kernel_rfl, by kernel_rfl, by kernel_rfl, by kernel_rfl, by kernel_rfl, by kernel_rfl, by kernel_rfl, by kernel_rfl, by kernel_rfl, by kernel_rfl, by kernel_rfl, by kernel_rfl, by kernel_rfl, by kernel_rfl, by kernel_rfl⟩
theorem X_27 : ∀ s : Slot, ∀ wd pl : Nat, wd < 7 → pl < 4 → finF (GR [s, .va (Rw 27), .va (.int wd), .va (.int pl), .un]) = some (s, fauD 27 wd pl) := fun s => by28 ⟨by kernel_rfl, by kernel_rfl, by kernel_rfl, by kernel_rfl, by kernel_rfl, by kernel_rfl, by kernel_rfl, by kernel_rfl, by kernel_rfl, by kernel_rfl, by kernel_rfl, by kernel_rfl, by kernel_rfl, by kernel_rfl, by kernel_rfl, by kernel_rfl, by kernel_rfl, by kernel_rfl, by kernel_rfl, by kernel_rfl, by kernel_rfl, by kernel_rfl, by kernel_rfl, by kernel_rfl, by kernel_rfl, by kernel_rfl, by kernel_rfl, by kernel_rfl⟩
theorem Y_27 : ∀ wd pl : Nat, wd < 7 → pl < 4 → isRow (F__law_refused [.va (fauD 27 wd pl)]) = true := by28 ⟨by kernel_rfl, by kernel_rfl, by kernel_rfl, by kernel_rfl, by kernel_rfl, by kernel_rfl, by kernel_rfl, by kernel_rfl, by kernel_rfl, by kernel_rfl, by kernel_rfl, by kernel_rfl, by kernel_rfl, by kernel_rfl, by kernel_rfl, by kernel_rfl, by kernel_rfl, by kernel_rfl, by kernel_rfl, by kernel_rfl, by kernel_rfl, by kernel_rfl, by kernel_rfl, by kernel_rfl, by kernel_rfl, by kernel_rfl, by kernel_rfl, by kernel_rfl⟩
theorem X_28 : ∀ s : Slot, ∀ wd pl : Nat, wd < 7 → pl < 4 → finF (GR [s, .va (Rw 28), .va (.int wd), .va (.int pl), .un]) = some (s, fauD 28 wd pl) := fun s => by28 ⟨by kernel_rfl, by kernel_rfl, by kernel_rfl, by kernel_rfl, by kernel_rfl, by kernel_rfl, by kernel_rfl, by kernel_rfl, by kernel_rfl, by kernel_rfl, by kernel_rfl, by kernel_rfl, by kernel_rfl, by kernel_rfl, by kernel_rfl, by kernel_rfl, by kernel_rfl, by kernel_rfl, by kernel_rfl, by kernel_rfl, by kernel_rfl, by kernel_rfl, by kernel_rfl, by kernel_rfl, by kernel_rfl, by kernel_rfl, by kernel_rfl, by kernel_rfl⟩
theorem Y_28 : ∀ wd pl : Nat, wd < 7 → pl < 4 → isRow (F__law_refused [.va (fauD 28 wd pl)]) = true := by28 ⟨by kernel_rfl, by kernel_rfl, by kernel_rfl, by kernel_rfl, by kernel_rfl, by kernel_rfl, by kernel_rfl, by kernel_rfl, by kernel_rfl, by kernel_rfl, by kernel_rfl, by kernel_rfl, by kernel_rfl, by kernel_rfl, by kernel_rfl, by kernel_rfl, by kernel_rfl, by kernel_rfl, by kernel_rfl, by kernel_rfl, by kernel_rfl, by kernel_rfl, by kernel_rfl, by kernel_rfl, by kernel_rfl, by kernel_rfl, by kernel_rfl, by kernel_rfl⟩
theorem X_29 : ∀ s : Slot, ∀ wd pl : Nat, wd < 7 → pl < 4 → finF (GR [s, .va (Rw 29), .va (.int wd), .va (.int pl), .un]) = some (s, fauD 29 wd pl) := fun s => by28 ⟨by kernel_rfl, by kernel_rfl, by kernel_rfl, by kernel_rfl, by kernel_rfl, by kernel_rfl, by kernel_rfl, by kernel_rfl, by kernel_rfl, by kernel_rfl, by kernel_rfl, by kernel_rfl, by kernel_rfl, by kernel_rfl, by kernel_rfl, by kernel_rfl, by kernel_rfl, by kernel_rfl, by kernel_rfl, by kernel_rfl, by kernel_rfl, by kernel_rfl, by kernel_rfl, by kernel_rfl, by kernel_rfl, by kernel_rfl, by kernel_rfl, by kernel_rfl⟩
theorem Y_29 : ∀ wd pl : Nat, wd < 7 → pl < 4 → isRow (F__law_refused [.va (fauD 29 wd pl)]) = true := by28 ⟨by kernel_rfl, by kernel_rfl, by kernel_rfl, by kernel_rfl, by kernel_rfl, by kernel_rfl, by kernel_rfl, by kernel_rfl, by kernel_rfl, by kernel_rfl, by kernel_rfl, by kernel_rfl, by kernel_rfl, by kernel_rfl, by kernel_rfl, by kernel_rfl, by kernel_rfl, by kernel_rfl, by kernel_rfl, by kernel_rfl, by kernel_rfl, by kernel_rfl, by kernel_rfl, by kernel_rfl, by kernel_rfl, by kernel_rfl, by kernel_rfl, by kernel_rfl⟩
theorem X_30 : ∀ s : Slot, ∀ wd pl : Nat, wd < 7 → pl < 4 → finF (GR [s, .va (Rw 30), .va (.int wd), .va (.int pl), .un]) = some (s, fauD 30 wd pl) := fun s => by28 ⟨by kernel_rfl, by kernel_rfl, by kernel_rfl, by kernel_rfl, by kernel_rfl, by kernel_rfl, by kernel_rfl, by kernel_rfl, by kernel_rfl, by kernel_rfl, by kernel_rfl, by kernel_rfl, by kernel_rfl, by kernel_rfl, by kernel_rfl, by kernel_rfl, by kernel_rfl, by kernel_rfl, by kernel_rfl, by kernel_rfl, by kernel_rfl, by kernel_rfl, by kernel_rfl, by kernel_rfl, by kernel_rfl, by kernel_rfl, by kernel_rfl, by kernel_rfl⟩
theorem Y_30 : ∀ wd pl : Nat, wd < 7 → pl < 4 → isRow (F__law_refused [.va (fauD 30 wd pl)]) = true := by28 ⟨by kernel_rfl, by kernel_rfl, by kernel_rfl, by kernel_rfl, by kernel_rfl, by kernel_rfl, by kernel_rfl, by kernel_rfl, by kernel_rfl, by kernel_rfl, by kernel_rfl, by kernel_rfl, by kernel_rfl, by kernel_rfl, by kernel_rfl, by kernel_rfl, by kernel_rfl, by kernel_rfl, by kernel_rfl, by kernel_rfl, by kernel_rfl, by kernel_rfl, by kernel_rfl, by kernel_rfl, by kernel_rfl, by kernel_rfl, by kernel_rfl, by kernel_rfl⟩
theorem X_31 : ∀ s : Slot, ∀ wd pl : Nat, wd < 7 → pl < 4 → finF (GR [s, .va (Rw 31), .va (.int wd), .va (.int pl), .un]) = some (s, fauD 31 wd pl) := fun s => by28 ⟨by kernel_rfl, by kernel_rfl, by kernel_rfl, by kernel_rfl, by kernel_rfl, by kernel_rfl, by kernel_rfl, by kernel_rfl, by kernel_rfl, by kernel_rfl, by kernel_rfl, by kernel_rfl, by kernel_rfl, by kernel_rfl, by kernel_rfl, by kernel_rfl, by kernel_rfl, by kernel_rfl, by kernel_rfl, by kernel_rfl, by kernel_rfl, by kernel_rfl, by kernel_rfl, by kernel_rfl, by kernel_rfl, by kernel_rfl, by kernel_rfl, by kernel_rfl⟩
theorem Y_31 : ∀ wd pl : Nat, wd < 7 → pl < 4 → isRow (F__law_refused [.va (fauD 31 wd pl)]) = true := by28 ⟨by kernel_rfl, by kernel_rfl, by kernel_rfl, by kernel_rfl, by kernel_rfl, by kernel_rfl, by kernel_rfl, by kernel_rfl, by kernel_rfl, by kernel_rfl, by kernel_rfl, by kernel_rfl, by kernel_rfl, by kernel_rfl, by kernel_rfl, by kernel_rfl, by kernel_rfl, by kernel_rfl, by kernel_rfl, by kernel_rfl, by kernel_rfl, by kernel_rfl, by kernel_rfl, by kernel_rfl, by kernel_rfl, by kernel_rfl, by kernel_rfl, by kernel_rfl⟩
theorem X_32 : ∀ s : Slot, ∀ wd pl : Nat, wd < 7 → pl < 4 → finF (GR [s, .va (Rw 32), .va (.int wd), .va (.int pl), .un]) = some (s, fauD 32 wd pl) := fun s => by28 ⟨by kernel_rfl, by kernel_rfl, by kernel_rfl, by kernel_rfl, by kernel_rfl, by kernel_rfl, by kernel_rfl, by kernel_rfl, by kernel_rfl, by kernel_rfl, by kernel_rfl, by kernel_rfl, by kernel_rfl, by kernel_rfl, by kernel_rfl, by kernel_rfl, by kernel_rfl, by kernel_rfl, by kernel_rfl, by kernel_rfl, by kernel_rfl, by kernel_rfl, by kernel_rfl, by kernel_rfl, by kernel_rfl, by kernel_rfl, by kernel_rfl, by kernel_rfl⟩
theorem Y_32 : ∀ wd pl : Nat, wd < 7 → pl < 4 → isRow (F__law_refused [.va (fauD 32 wd pl)]) = true := by28 ⟨by kernel_rfl, by kernel_rfl, by kernel_rfl, by kernel_rfl, by kernel_rfl, by kernel_rfl, by kernel_rfl, by kernel_rfl, by kernel_rfl, by kernel_rfl, by kernel_rfl, by kernel_rfl, by kernel_rfl, by kernel_rfl, by kernel_rfl, by kernel_rfl, by kernel_rfl, by kernel_rfl, by kernel_rfl, by kernel_rfl, by kernel_rfl, by kernel_rfl, by kernel_rfl, by kernel_rfl, by kernel_rfl, by kernel_rfl, by kernel_rfl, by kernel_rfl⟩
theorem X_33 : ∀ s : Slot, ∀ wd pl : Nat, wd < 7 → pl < 4 → finF (GR [s, .va (Rw 33), .va (.int wd), .va (.int pl), .un]) = some (s, fauD 33 wd pl) := fun s => by28 ⟨by kernel_rfl, by kernel_rfl, by kernel_rfl, by kernel_rfl, by kernel_rfl, by kernel_rfl, by kernel_rfl, by kernel_rfl, by kernel_rfl, by kernel_rfl, by kernel_rfl, by kernel_rfl, by kernel_rfl, by kernel_rfl, by kernel_rfl, by kernel_rfl, by kernel_rfl, by kernel_rfl, by kernel_rfl, by kernel_rfl, by kernel_rfl, by kernel_rfl, by kernel_rfl, by kernel_rfl, by kernel_rfl, by kernel_rfl, by kernel_rfl, by kernel_rfl⟩
theorem Y_33 : ∀ wd pl : Nat, wd < 7 → pl < 4 → isRow (F__law_refused [.va (fauD 33 wd pl)]) = true := by28 ⟨by kernel_rfl, by kernel_rfl, by kernel_rfl, by kernel_rfl, by kernel_rfl, by kernel_rfl, by kernel_rfl, by kernel_rfl, by kernel_rfl, by kernel_rfl, by kernel_rfl, by kernel_rfl, by kernel_rfl, by kernel_rfl, by kernel_rfl, by kernel_rfl, by kernel_rfl, by kernel_rfl, by kernel_rfl, by kernel_rfl, by kernel_rfl, by kernel_rfl, by kernel_rfl, by kernel_rfl, by kernel_rfl, by kernel_rfl, by kernel_rfl, by kernel_rfl⟩
theorem X_34 : ∀ s : Slot, ∀ wd pl : Nat, wd < 7 → pl < 4 → finF (GR [s, .va (Rw 34), .va (.int wd), .va (.int pl), .un]) = some (s, fauD 34 wd pl) := fun s => by28 ⟨by kernel_rfl, by kernel_rfl, by kernel_rfl, by kernel_rfl, by kernel_rfl, by kernel_rfl, by kernel_rfl, by kernel_rfl, by kernel_rfl, by kernel_rfl, by kernel_rfl, by kernel_rfl, by kernel_rfl, by kernel_rfl, by kernel_rfl, by kernel_rfl, by kernel_rfl, by kernel_rfl, by kernel_rfl, by kernel_rfl, by kernel_rfl, by kernel_rfl, by kernel_rfl, by kernel_rfl, by kernel_rfl, by kernel_rfl, by kernel_rfl, by kernel_rfl⟩
theorem Y_34 : ∀ wd pl : Nat, wd < 7 → pl < 4 → isRow (F__law_refused [.va (fauD 34 wd pl)]) = true := by28 ⟨by kernel_rfl, by kernel_rfl, by kernel_rfl, by kernel_rfl, by kernel_rfl, by kernel_rfl, by kernel_rfl, by kernel_rfl, by kernel_rfl, by kernel_rfl, by kernel_rfl, by kernel_rfl, by kernel_rfl, by kernel_rfl, by kernel_rfl, by kernel_rfl, by kernel_rfl, by kernel_rfl, by kernel_rfl, by kernel_rfl, by kernel_rfl, by kernel_rfl, by kernel_rfl, by kernel_rfl, by kernel_rfl, by kernel_rfl, by kernel_rfl, by kernel_rfl⟩
theorem X_35 : ∀ s : Slot, ∀ wd pl : Nat, wd < 7 → pl < 4 → finF (GR [s, .va (Rw 35), .va (.int wd), .va (.int pl), .un]) = some (s, fauD 35 wd pl) := fun s => by28 ⟨by kernel_rfl, by kernel_rfl, by kernel_rfl, by kernel_rfl, by kernel_rfl, by kernel_rfl, by kernel_rfl, by kernel_rfl, by kernel_rfl, by kernel_rfl, by kernel_rfl, by kernel_rfl, by kernel_rfl, by kernel_rfl, by kernel_rfl, by kernel_rfl, by kernel_rfl, by kernel_rfl, by kernel_rfl, by kernel_rfl, by kernel_rfl, by kernel_rfl, by kernel_rfl, by kernel_rfl, by kernel_rfl, by kernel_rfl, by kernel_rfl, by kernel_rfl⟩
theorem Y_35 : ∀ wd pl : Nat, wd < 7 → pl < 4 → isRow (F__law_refused [.va (fauD 35 wd pl)]) = true := by28 ⟨by kernel_rfl, by kernel_rfl, by kernel_rfl, by kernel_rfl, by kernel_rfl, by kernel_rfl, by kernel_rfl, by kernel_rfl, by kernel_rfl, by kernel_rfl, by kernel_rfl, by kernel_rfl, by kernel_rfl, by kernel_rfl, by kernel_rfl, by kernel_rfl, by kernel_rfl, by kernel_rfl, by kernel_rfl, by kernel_rfl, by kernel_rfl, by kernel_rfl, by kernel_rfl, by kernel_rfl, by kernel_rfl, by kernel_rfl, by kernel_rfl, by kernel_rfl⟩
theorem X_36 : ∀ s : Slot, ∀ wd pl : Nat, wd < 7 → pl < 4 → finF (GR [s, .va (Rw 36), .va (.int wd), .va (.int pl), .un]) = some (s, fauD 36 wd pl) := fun s => by28 ⟨by kernel_rfl, by kernel_rfl, by kernel_rfl, by kernel_rfl, by kernel_rfl, by kernel_rfl, by kernel_rfl, by kernel_rfl, by kernel_rfl, by kernel_rfl, by kernel_rfl, by kernel_rfl, by kernel_rfl, by kernel_rfl, by kernel_rfl, by kernel_rfl, by kernel_rfl, by kernel_rfl, by kernel_rfl, by kernel_rfl, by kernel_rfl, by kernel_rfl, by kernel_rfl, by kernel_rfl, by kernel_rfl, by kernel_rfl, by kernel_rfl, by kernel_rfl⟩
theorem Y_36 : ∀ wd pl : Nat, wd < 7 → pl < 4 → isRow (F__law_refused [.va (fauD 36 wd pl)]) = true := by28 ⟨by kernel_rfl, by kernel_rfl, by kernel_rfl, by kernel_rfl, by kernel_rfl, by kernel_rfl, by kernel_rfl, by kernel_rfl, by kernel_rfl, by kernel_rfl, by kernel_rfl, by kernel_rfl, by kernel_rfl, by kernel_rfl, by kernel_rfl, by kernel_rfl, by kernel_rfl, by kernel_rfl, by kernel_rfl, by kernel_rfl, by kernel_rfl, by kernel_rfl, by kernel_rfl, by kernel_rfl, by kernel_rfl, by kernel_rfl, by kernel_rfl, by kernel_rfl⟩
theorem X_37 : ∀ s : Slot, ∀ wd pl : Nat, wd < 7 → pl < 4 → finF (GR [s, .va (Rw 37), .va (.int wd), .va (.int pl), .un]) = some (s, fauD 37 wd pl) := fun s => by28 ⟨by kernel_rfl, by kernel_rfl, by kernel_rfl, by kernel_rfl, by kernel_rfl, by kernel_rfl, by kernel_rfl, by kernel_rfl, by kernel_rfl, by kernel_rfl, by kernel_rfl, by kernel_rfl, by kernel_rfl, by kernel_rfl, by kernel_rfl, by kernel_rfl, by kernel_rfl, by kernel_rfl, by kernel_rfl, by kernel_rfl, by kernel_rfl, by kernel_rfl, by kernel_rfl, by kernel_rfl, by kernel_rfl, by kernel_rfl, by kernel_rfl, by kernel_rfl⟩
theorem Y_37 : ∀ wd pl : Nat, wd < 7 → pl < 4 → isRow (F__law_refused [.va (fauD 37 wd pl)]) = true := by28 ⟨by kernel_rfl, by kernel_rfl, by kernel_rfl, by kernel_rfl, by kernel_rfl, by kernel_rfl, by kernel_rfl, by kernel_rfl, by kernel_rfl, by kernel_rfl, by kernel_rfl, by kernel_rfl, by kernel_rfl, by kernel_rfl, by kernel_rfl, by kernel_rfl, by kernel_rfl, by kernel_rfl, by kernel_rfl, by kernel_rfl, by kernel_rfl, by kernel_rfl, by kernel_rfl, by kernel_rfl, by kernel_rfl, by kernel_rfl, by kernel_rfl, by kernel_rfl⟩
theorem X_38 : ∀ s : Slot, ∀ wd pl : Nat, wd < 7 → pl < 4 → finF (GR [s, .va (Rw 38), .va (.int wd), .va (.int pl), .un]) = some (s, fauD 38 wd pl) := fun s => by28 ⟨by kernel_rfl, by kernel_rfl, by kernel_rfl, by kernel_rfl, by kernel_rfl, by kernel_rfl, by kernel_rfl, by kernel_rfl, by kernel_rfl, by kernel_rfl, by kernel_rfl, by kernel_rfl, by kernel_rfl, by kernel_rfl, by kernel_rfl, by kernel_rfl, by kernel_rfl, by kernel_rfl, by kernel_rfl, by kernel_rfl, by kernel_rfl, by kernel_rfl, by kernel_rfl, by kernel_rfl, by kernel_rfl, by kernel_rfl, by kernel_rfl, by kernel_rfl⟩
theorem Y_38 : ∀ wd pl : Nat, wd < 7 → pl < 4 → isRow (F__law_refused [.va (fauD 38 wd pl)]) = true := by28 ⟨by kernel_rfl, by kernel_rfl, by kernel_rfl, by kernel_rfl, by kernel_rfl, by kernel_rfl, by kernel_rfl, by kernel_rfl, by kernel_rfl, by kernel_rfl, by kernel_rfl, by kernel_rfl, by kernel_rfl, by kernel_rfl, by kernel_rfl, by kernel_rfl, by kernel_rfl, by kernel_rfl, by kernel_rfl, by kernel_rfl, by kernel_rfl, by kernel_rfl, by kernel_rfl, by kernel_rfl, by kernel_rfl, by kernel_rfl, by kernel_rfl, by kernel_rfl⟩
theorem X_39 : ∀ s : Slot, ∀ wd pl : Nat, wd < 7 → pl < 4 → finF (GR [s, .va (Rw 39), .va (.int wd), .va (.int pl), .un]) = some (s, fauD 39 wd pl) := fun s => by28 ⟨by kernel_rfl, by kernel_rfl, by kernel_rfl, by kernel_rfl, by kernel_rfl, by kernel_rfl, by kernel_rfl, by kernel_rfl, by kernel_rfl, by kernel_rfl, by kernel_rfl, by kernel_rfl, by kernel_rfl, by kernel_rfl, by kernel_rfl, by kernel_rfl, by kernel_rfl, by kernel_rfl, by kernel_rfl, by kernel_rfl, by kernel_rfl, by kernel_rfl, by kernel_rfl, by kernel_rfl, by kernel_rfl, by kernel_rfl, by kernel_rfl, by kernel_rfl⟩
theorem Y_39 : ∀ wd pl : Nat, wd < 7 → pl < 4 → isRow (F__law_refused [.va (fauD 39 wd pl)]) = true := by28 ⟨by kernel_rfl, by kernel_rfl, by kernel_rfl, by kernel_rfl, by kernel_rfl, by kernel_rfl, by kernel_rfl, by kernel_rfl, by kernel_rfl, by kernel_rfl, by kernel_rfl, by kernel_rfl, by kernel_rfl, by kernel_rfl, by kernel_rfl, by kernel_rfl, by kernel_rfl, by kernel_rfl, by kernel_rfl, by kernel_rfl, by kernel_rfl, by kernel_rfl, by kernel_rfl, by kernel_rfl, by kernel_rfl, by kernel_rfl, by kernel_rfl, by kernel_rfl⟩
theorem X_40 : ∀ s : Slot, ∀ wd pl : Nat, wd < 7 → pl < 4 → finF (GR [s, .va (Rw 40), .va (.int wd), .va (.int pl), .un]) = some (s, fauD 40 wd pl) := fun s => by28 ⟨by kernel_rfl, by kernel_rfl, by kernel_rfl, by kernel_rfl, by kernel_rfl, by kernel_rfl, by kernel_rfl, by kernel_rfl, by kernel_rfl, by kernel_rfl, by kernel_rfl, by kernel_rfl, by kernel_rfl, by kernel_rfl, by kernel_rfl, by kernel_rfl, by kernel_rfl, by kernel_rfl, by kernel_rfl, by kernel_rfl, by kernel_rfl, by kernel_rfl, by kernel_rfl, by kernel_rfl, by kernel_rfl, by kernel_rfl, by kernel_rfl, by kernel_rfl⟩
theorem Y_40 : ∀ wd pl : Nat, wd < 7 → pl < 4 → isRow (F__law_refused [.va (fauD 40 wd pl)]) = true := by28 ⟨by kernel_rfl, by kernel_rfl, by kernel_rfl, by kernel_rfl, by kernel_rfl, by kernel_rfl, by kernel_rfl, by kernel_rfl, by kernel_rfl, by kernel_rfl, by kernel_rfl, by kernel_rfl, by kernel_rfl, by kernel_rfl, by kernel_rfl, by kernel_rfl, by kernel_rfl, by kernel_rfl, by kernel_rfl, by kernel_rfl, by kernel_rfl, by kernel_rfl, by kernel_rfl, by kernel_rfl, by kernel_rfl, by kernel_rfl, by kernel_rfl, by kernel_rfl⟩
theorem X_41 : ∀ s : Slot, ∀ wd pl : Nat, wd < 7 → pl < 4 → finF (GR [s, .va (Rw 41), .va (.int wd), .va (.int pl), .un]) = some (s, fauD 41 wd pl) := fun s => by28 ⟨by kernel_rfl, by kernel_rfl, by kernel_rfl, by kernel_rfl, by kernel_rfl, by kernel_rfl, by kernel_rfl, by kernel_rfl, by kernel_rfl, by kernel_rfl, by kernel_rfl, by kernel_rfl, by kernel_rfl, by kernel_rfl, by kernel_rfl, by kernel_rfl, by kernel_rfl, by kernel_rfl, by kernel_rfl, by kernel_rfl, by kernel_rfl, by kernel_rfl, by kernel_rfl, by kernel_rfl, by kernel_rfl, by kernel_rfl, by kernel_rfl, by kernel_rfl⟩
theorem Y_41 : ∀ wd pl : Nat, wd < 7 → pl < 4 → isRow (F__law_refused [.va (fauD 41 wd pl)]) = true := by28 ⟨by kernel_rfl, by kernel_rfl, by kernel_rfl, by kernel_rfl, by kernel_rfl, by kernel_rfl, by kernel_rfl, by kernel_rfl, by kernel_rfl, by kernel_rfl, by kernel_rfl, by kernel_rfl, by kernel_rfl, by kernel_rfl, by kernel_rfl, by kernel_rfl, by kernel_rfl, by kernel_rfl, by kernel_rfl, by kernel_rfl, by kernel_rfl, by kernel_rfl, by kernel_rfl, by kernel_rfl, by kernel_rfl, by kernel_rfl, by kernel_rfl, by kernel_rfl⟩
theorem X_42 : ∀ s : Slot, ∀ wd pl : Nat, wd < 7 → pl < 4 → finF (GR [s, .va (Rw 42), .va (.int wd), .va (.int pl), .un]) = some (s, fauD 42 wd pl) := fun s => by28 ⟨by kernel_rfl, by kernel_rfl, by kernel_rfl, by kernel_rfl, by kernel_rfl, by kernel_rfl, by kernel_rfl, by kernel_rfl, by kernel_rfl, by kernel_rfl, by kernel_rfl, by kernel_rfl, by kernel_rfl, by kernel_rfl, by kernel_rfl, by kernel_rfl, by kernel_rfl, by kernel_rfl, by kernel_rfl, by kernel_rfl, by kernel_rfl, by kernel_rfl, by kernel_rfl, by kernel_rfl, by kernel_rfl, by kernel_rfl, by kernel_rfl, by kernel_rfl⟩
theorem Y_42 : ∀ wd pl : Nat, wd < 7 → pl < 4 → isRow (F__law_refused [.va (fauD 42 wd pl)]) = true := by28 ⟨by kernel_rfl, by kernel_rfl, by kernel_rfl, by kernel_rfl, by kernel_rfl, by kernel_rfl, by kernel_rfl, by kernel_rfl, by kernel_rfl, by kernel_rfl, by kernel_rfl, by kernel_rfl, by kernel_rfl, by kernel_rfl, by kernel_rfl, by kernel_rfl, by kernel_rfl, by kernel_rfl, by kernel_rfl, by kernel_rfl, by kernel_rfl, by kernel_rfl, by kernel_rfl, by kernel_rfl, by kernel_rfl, by kernel_rfl, by kernel_rfl, by kernel_rfl⟩
theorem X_43 : ∀ s : Slot, ∀ wd pl : Nat, wd < 7 → pl < 4 → finF (GR [s, .va (Rw 43), .va (.int wd), .va (.int pl), .un]) = some (s, fauD 43 wd pl) := fun s => by28 ⟨by kernel_rfl, by kernel_rfl, by kernel_rfl, by kernel_rfl, by kernel_rfl, by kernel_rfl, by kernel_rfl, by kernel_rfl, by kernel_rfl, by kernel_rfl, by kernel_rfl, by kernel_rfl, by kernel_rfl, by kernel_rfl, by kernel_rfl, by kernel_rfl, by kernel_rfl, by kernel_rfl, by kernel_rfl, by kernel_rfl, by kernel_rfl, by kernel_rfl, by kernel_rfl, by kernel_rfl, by kernel_rfl, by kernel_rfl, by kernel_rfl, by kernel_rfl⟩
theorem Y_43 : ∀ wd pl : Nat, wd < 7 → pl < 4 → isRow (F__law_refused [.va (fauD 43 wd pl)]) = true := by28 ⟨by kernel_rfl, by kernel_rfl, by kernel_rfl, by kernel_rfl, by kernel_rfl, by kernel_rfl, by kernel_rfl, by kernel_rfl, by kernel_rfl, by kernel_rfl, by kernel_rfl, by kernel_rfl, by kernel_rfl, by kernel_rfl, by kernel_rfl, by kernel_rfl, by kernel_rfl, by kernel_rfl, by kernel_rfl, by kernel_rfl, by kernel_rfl, by kernel_rfl, by kernel_rfl, by kernel_rfl, by kernel_rfl, by kernel_rfl, by kernel_rfl, by kernel_rfl⟩
theorem X_44 : ∀ s : Slot, ∀ wd pl : Nat, wd < 7 → pl < 4 → finF (GR [s, .va (Rw 44), .va (.int wd), .va (.int pl), .un]) = some (s, fauD 44 wd pl) := fun s => by28 ⟨by kernel_rfl, by kernel_rfl, by kernel_rfl, by kernel_rfl, by kernel_rfl, by kernel_rfl, by kernel_rfl, by kernel_rfl, by kernel_rfl, by kernel_rfl, by kernel_rfl, by kernel_rfl, by kernel_rfl, by kernel_rfl, by kernel_rfl, by kernel_rfl, by kernel_rfl, by kernel_rfl, by kernel_rfl, by kernel_rfl, by kernel_rfl, by kernel_rfl, by kernel_rfl, by kernel_rfl, by kernel_rfl, by kernel_rfl, by kernel_rfl, by kernel_rfl⟩
theorem Y_44 : ∀ wd pl : Nat, wd < 7 → pl < 4 → isRow (F__law_refused [.va (fauD 44 wd pl)]) = true := by28 ⟨by kernel_rfl, by kernel_rfl, by kernel_rfl, by kernel_rfl, by kernel_rfl, by kernel_rfl, by kernel_rfl, by kernel_rfl, by kernel_rfl, by kernel_rfl, by kernel_rfl, by kernel_rfl, by kernel_rfl, by kernel_rfl, by kernel_rfl, by kernel_rfl, by kernel_rfl, by kernel_rfl, by kernel_rfl, by kernel_rfl, by kernel_rfl, by kernel_rfl, by kernel_rfl, by kernel_rfl, by kernel_rfl, by kernel_rfl, by kernel_rfl, by kernel_rfl⟩
theorem X_45 : ∀ s : Slot, ∀ wd pl : Nat, wd < 7 → pl < 4 → finF (GR [s, .va (Rw 45), .va (.int wd), .va (.int pl), .un]) = some (s, fauD 45 wd pl) := fun s => by28 ⟨by kernel_rfl, by kernel_rfl, by kernel_rfl, by kernel_rfl, by kernel_rfl, by kernel_rfl, by kernel_rfl, by kernel_rfl, by kernel_rfl, by kernel_rfl, by kernel_rfl, by kernel_rfl, by kernel_rfl, by kernel_rfl, by kernel_rfl, by kernel_rfl, by kernel_rfl, by kernel_rfl, by kernel_rfl, by kernel_rfl, by kernel_rfl, by kernel_rfl, by kernel_rfl, by kernel_rfl, by kernel_rfl, by kernel_rfl, by kernel_rfl, by kernel_rfl⟩
theorem Y_45 : ∀ wd pl : Nat, wd < 7 → pl < 4 → isRow (F__law_refused [.va (fauD 45 wd pl)]) = true := by28 ⟨by kernel_rfl, by kernel_rfl, by kernel_rfl, by kernel_rfl, by kernel_rfl, by kernel_rfl, by kernel_rfl, by kernel_rfl, by kernel_rfl, by kernel_rfl, by kernel_rfl, by kernel_rfl, by kernel_rfl, by kernel_rfl, by kernel_rfl, by kernel_rfl, by kernel_rfl, by kernel_rfl, by kernel_rfl, by kernel_rfl, by kernel_rfl, by kernel_rfl, by kernel_rfl, by kernel_rfl, by kernel_rfl, by kernel_rfl, by kernel_rfl, by kernel_rfl⟩
theorem X_46 : ∀ s : Slot, ∀ wd pl : Nat, wd < 7 → pl < 4 → finF (GR [s, .va (Rw 46), .va (.int wd), .va (.int pl), .un]) = some (s, fauD 46 wd pl) := fun s => by28 ⟨by kernel_rfl, by kernel_rfl, by kernel_rfl, by kernel_rfl, by kernel_rfl, by kernel_rfl, by kernel_rfl, by kernel_rfl, by kernel_rfl, by kernel_rfl, by kernel_rfl, by kernel_rfl, by kernel_rfl, by kernel_rfl, by kernel_rfl, by kernel_rfl, by kernel_rfl, by kernel_rfl, by kernel_rfl, by kernel_rfl, by kernel_rfl, by kernel_rfl, by kernel_rfl, by kernel_rfl, by kernel_rfl, by kernel_rfl, by kernel_rfl, by kernel_rfl⟩
theorem Y_46 : ∀ wd pl : Nat, wd < 7 → pl < 4 → isRow (F__law_refused [.va (fauD 46 wd pl)]) = true := by28 ⟨by kernel_rfl, by kernel_rfl, by kernel_rfl, by kernel_rfl, by kernel_rfl, by kernel_rfl, by kernel_rfl, by kernel_rfl, by kernel_rfl, by kernel_rfl, by kernel_rfl, by kernel_rfl, by kernel_rfl, by kernel_rfl, by kernel_rfl, by kernel_rfl, by kernel_rfl, by kernel_rfl, by kernel_rfl, by kernel_rfl, by kernel_rfl, by kernel_rfl, by kernel_rfl, by kernel_rfl, by kernel_rfl, by kernel_rfl, by kernel_rfl, by kernel_rfl⟩
theorem X_47 : ∀ s : Slot, ∀ wd pl : Nat, wd < 7 → pl < 4 → finF (GR [s, .va (Rw 47), .va (.int wd), .va (.int pl), .un]) = some (s, fauD 47 wd pl) := fun s => by28 ⟨by kernel_rfl, by kernel_rfl, by kernel_rfl, by kernel_rfl, by kernel_rfl, by kernel_rfl, by kernel_rfl, by kernel_rfl, by kernel_rfl, by kernel_rfl, by kernel_rfl, by kernel_rfl, by kernel_rfl, by kernel_rfl, by kernel_rfl, by kernel_rfl, by kernel_rfl, by kernel_rfl, by kernel_rfl, by kernel_rfl, by kernel_rfl, by kernel_rfl, by kernel_rfl, by kernel_rfl, by kernel_rfl, by kernel_rfl, by kernel_rfl, by kernel_rfl⟩
theorem Y_47 : ∀ wd pl : Nat, wd < 7 → pl < 4 → isRow (F__law_refused [.va (fauD 47 wd pl)]) = true := by28 ⟨by kernel_rfl, by kernel_rfl, by kernel_rfl, by kernel_rfl, by kernel_rfl, by kernel_rfl, by kernel_rfl, by kernel_rfl, by kernel_rfl, by kernel_rfl, by kernel_rfl, by kernel_rfl, by kernel_rfl, by kernel_rfl, by kernel_rfl, by kernel_rfl, by kernel_rfl, by kernel_rfl, by kernel_rfl, by kernel_rfl, by kernel_rfl, by kernel_rfl, by kernel_rfl, by kernel_rfl, by kernel_rfl, by kernel_rfl, by kernel_rfl, by kernel_rfl⟩
theorem X_48 : ∀ s : Slot, ∀ wd pl : Nat, wd < 7 → pl < 4 → finF (GR [s, .va (Rw 48), .va (.int wd), .va (.int pl), .un]) = some (s, fauD 48 wd pl) := fun s => by28 ⟨by kernel_rfl, by kernel_rfl, by kernel_rfl, by kernel_rfl, by kernel_rfl, by kernel_rfl, by kernel_rfl, by kernel_rfl, by kernel_rfl, by kernel_rfl, by kernel_rfl, by kernel_rfl, by kernel_rfl, by kernel_rfl, by kernel_rfl, by kernel_rfl, by kernel_rfl, by kernel_rfl, by kernel_rfl, by kernel_rfl, by kernel_rfl, by kernel_rfl, by kernel_rfl, by kernel_rfl, by kernel_rfl, by kernel_rfl, by kernel_rfl, by kernel_rfl⟩
theorem Y_48 : ∀ wd pl : Nat, wd < 7 → pl < 4 → isRow (F__law_refused [.va (fauD 48 wd pl)]) = true := by28 ⟨by kernel_rfl, by kernel_rfl, by kernel_rfl, by kernel_rfl, by kernel_rfl, by kernel_rfl, by kernel_rfl, by kernel_rfl, by kernel_rfl, by kernel_rfl, by kernel_rfl, by kernel_rfl, by kernel_rfl, by kernel_rfl, by kernel_rfl, by kernel_rfl, by kernel_rfl, by kernel_rfl, by kernel_rfl, by kernel_rfl, by kernel_rfl, by kernel_rfl, by kernel_rfl, by kernel_rfl, by kernel_rfl, by kernel_rfl, by kernel_rfl, by kernel_rfl⟩
theorem X_49 : ∀ s : Slot, ∀ wd pl : Nat, wd < 7 → pl < 4 → finF (GR [s, .va (Rw 49), .va (.int wd), .va (.int pl), .un]) = some (s, fauD 49 wd pl) := fun s => by28 ⟨by kernel_rfl, by kernel_rfl, by kernel_rfl, by kernel_rfl, by kernel_rfl, by kernel_rfl, by kernel_rfl, by kernel_rfl, by kernel_rfl, by kernel_rfl, by kernel_rfl, by kernel_rfl, by kernel_rfl, by kernel_rfl, by kernel_rfl, by kernel_rfl, by kernel_rfl, by kernel_rfl, by kernel_rfl, by kernel_rfl, by kernel_rfl, by kernel_rfl, by kernel_rfl, by kernel_rfl, by kernel_rfl, by kernel_rfl, by kernel_rfl, by kernel_rfl⟩
theorem Y_49 : ∀ wd pl : Nat, wd < 7 → pl < 4 → isRow (F__law_refused [.va (fauD 49 wd pl)]) = true := by28 ⟨by kernel_rfl, by kernel_rfl, by kernel_rfl, by kernel_rfl, by kernel_rfl, by kernel_rfl, by kernel_rfl, by kernel_rfl, by kernel_rfl, by kernel_rfl, by kernel_rfl, by kernel_rfl, by kernel_rfl, by kernel_rfl, by kernel_rfl, by kernel_rfl, by kernel_rfl, by kernel_rfl, by kernel_rfl, by kernel_rfl, by kernel_rfl, by kernel_rfl, by kernel_rfl, by kernel_rfl, by kernel_rfl, by kernel_rfl, by kernel_rfl, by kernel_rfl⟩
theorem X_50 : ∀ s : Slot, ∀ wd pl : Nat, wd < 7 → pl < 4 → finF (GR [s, .va (Rw 50), .va (.int wd), .va (.int pl), .un]) = some (s, fauD 50 wd pl) := fun s => by28 ⟨by kernel_rfl, by kernel_rfl, by kernel_rfl, by kernel_rfl, by kernel_rfl, by kernel_rfl, by kernel_rfl, by kernel_rfl, by kernel_rfl, by kernel_rfl, by kernel_rfl, by kernel_rfl, by kernel_rfl, by kernel_rfl, by kernel_rfl, by kernel_rfl, by kernel_rfl, by kernel_rfl, by kernel_rfl, by kernel_rfl, by kernel_rfl, by kernel_rfl, by kernel_rfl, by kernel_rfl, by kernel_rfl, by kernel_rfl, by kernel_rfl, by kernel_rfl⟩
theorem Y_50 : ∀ wd pl : Nat, wd < 7 → pl < 4 → isRow (F__law_refused [.va (fauD 50 wd pl)]) = true := by28 ⟨by kernel_rfl, by kernel_rfl, by kernel_rfl, by kernel_rfl, by kernel_rfl, by kernel_rfl, by kernel_rfl, by kernel_rfl, by kernel_rfl, by kernel_rfl, by kernel_rfl, by kernel_rfl, by kernel_rfl, by kernel_rfl, by kernel_rfl, by kernel_rfl, by kernel_rfl, by kernel_rfl, by kernel_rfl, by kernel_rfl, by kernel_rfl, by kernel_rfl, by kernel_rfl, by kernel_rfl, by kernel_rfl, by kernel_rfl, by kernel_rfl, by kernel_rfl⟩
theorem X_51 : ∀ s : Slot, ∀ wd pl : Nat, wd < 7 → pl < 4 → finF (GR [s, .va (Rw 51), .va (.int wd), .va (.int pl), .un]) = some (s, fauD 51 wd pl) := fun s => by28 ⟨by kernel_rfl, by kernel_rfl, by kernel_rfl, by kernel_rfl, by kernel_rfl, by kernel_rfl, by kernel_rfl, by kernel_rfl, by kernel_rfl, by kernel_rfl, by kernel_rfl, by kernel_rfl, by kernel_rfl, by kernel_rfl, by kernel_rfl, by kernel_rfl, by kernel_rfl, by kernel_rfl, by kernel_rfl, by kernel_rfl, by kernel_rfl, by kernel_rfl, by kernel_rfl, by kernel_rfl, by kernel_rfl, by kernel_rfl, by kernel_rfl, by kernel_rfl⟩
theorem Y_51 : ∀ wd pl : Nat, wd < 7 → pl < 4 → isRow (F__law_refused [.va (fauD 51 wd pl)]) = true := by28 ⟨by kernel_rfl, by kernel_rfl, by kernel_rfl, by kernel_rfl, by kernel_rfl, by kernel_rfl, by kernel_rfl, by kernel_rfl, by kernel_rfl, by kernel_rfl, by kernel_rfl, by kernel_rfl, by kernel_rfl, by kernel_rfl, by kernel_rfl, by kernel_rfl, by kernel_rfl, by kernel_rfl, by kernel_rfl, by kernel_rfl, by kernel_rfl, by kernel_rfl, by kernel_rfl, by kernel_rfl, by kernel_rfl, by kernel_rfl, by kernel_rfl, by kernel_rfl⟩
theorem X_52 : ∀ s : Slot, ∀ wd pl : Nat, wd < 7 → pl < 4 → finF (GR [s, .va (Rw 52), .va (.int wd), .va (.int pl), .un]) = some (s, fauD 52 wd pl) := fun s => by28 ⟨by kernel_rfl, by kernel_rfl, by kernel_rfl, by kernel_rfl, by kernel_rfl, by kernel_rfl, by kernel_rfl, by kernel_rfl, by kernel_rfl, by kernel_rfl, by kernel_rfl, by kernel_rfl, by kernel_rfl, by kernel_rfl, by kernel_rfl, by kernel_rfl, by kernel_rfl, by kernel_rfl, by kernel_rfl, by kernel_rfl, by kernel_rfl, by kernel_rfl, by kernel_rfl, by kernel_rfl, by kernel_rfl, by kernel_rfl, by kernel_rfl, by kernel_rfl⟩
theorem Y_52 : ∀ wd pl : Nat, wd < 7 → pl < 4 → isRow (F__law_refused [.va (fauD 52 wd pl)]) = true := by28 ⟨by kernel_rfl, by kernel_rfl, by kernel_rfl, by kernel_rfl, by kernel_rfl, by kernel_rfl, by kernel_rfl, by kernel_rfl, by kernel_rfl, by kernel_rfl, by kernel_rfl, by kernel_rfl, by kernel_rfl, by kernel_rfl, by kernel_rfl, by kernel_rfl, by kernel_rfl, by kernel_rfl, by kernel_rfl, by kernel_rfl, by kernel_rfl, by kernel_rfl, by kernel_rfl, by kernel_rfl, by kernel_rfl, by kernel_rfl, by kernel_rfl, by kernel_rfl⟩
theorem X_53 : ∀ s : Slot, ∀ wd pl : Nat, wd < 7 → pl < 4 → finF (GR [s, .va (Rw 53), .va (.int wd), .va (.int pl), .un]) = some (s, fauD 53 wd pl) := fun s => by28 ⟨by kernel_rfl, by kernel_rfl, by kernel_rfl, by kernel_rfl, by kernel_rfl, by kernel_rfl, by kernel_rfl, by kernel_rfl, by kernel_rfl, by kernel_rfl, by kernel_rfl, by kernel_rfl, by kernel_rfl, by kernel_rfl, by kernel_rfl, by kernel_rfl, by kernel_rfl, by kernel_rfl, by kernel_rfl, by kernel_rfl, by kernel_rfl, by kernel_rfl, by kernel_rfl, by kernel_rfl, by kernel_rfl, by kernel_rfl, by kernel_rfl, by kernel_rfl⟩
theorem Y_53 : ∀ wd pl : Nat, wd < 7 → pl < 4 → isRow (F__law_refused [.va (fauD 53 wd pl)]) = true := by28 ⟨by kernel_rfl, by kernel_rfl, by kernel_rfl, by kernel_rfl, by kernel_rfl, by kernel_rfl, by kernel_rfl, by kernel_rfl, by kernel_rfl, by kernel_rfl, by kernel_rfl, by kernel_rfl, by kernel_rfl, by kernel_rfl, by kernel_rfl, by kernel_rfl, by kernel_rfl, by kernel_rfl, by kernel_rfl, by kernel_rfl, by kernel_rfl, by kernel_rfl, by kernel_rfl, by kernel_rfl, by kernel_rfl, by kernel_rfl, by kernel_rfl, by kernel_rfl⟩
theorem X_54 : ∀ s : Slot, ∀ wd pl : Nat, wd < 7 → pl < 4 → finF (GR [s, .va (Rw 54), .va (.int wd), .va (.int pl), .un]) = some (s, fauD 54 wd pl) := fun s => by28 ⟨by kernel_rfl, by kernel_rfl, by kernel_rfl, by kernel_rfl, by kernel_rfl, by kernel_rfl, by kernel_rfl, by kernel_rfl, by kernel_rfl, by kernel_rfl, by kernel_rfl, by kernel_rfl, by kernel_rfl, by kernel_rfl, by kernel_rfl, by kernel_rfl, by kernel_rfl, by kernel_rfl, by kernel_rfl, by kernel_rfl, by kernel_rfl, by kernel_rfl, by kernel_rfl, by kernel_rfl, by kernel_rfl, by kernel_rfl, by kernel_rfl, by kernel_rfl⟩
theorem Y_54 : ∀ wd pl : Nat, wd < 7 → pl < 4 → isRow (F__law_refused [.va (fauD 54 wd pl)]) = true := by28 ⟨by kernel_rfl, by kernel_rfl, by kernel_rfl, by kernel_rfl, by kernel_rfl, by kernel_rfl, by kernel_rfl, by kernel_rfl, by kernel_rfl, by kernel_rfl, by kernel_rfl, by kernel_rfl, by kernel_rfl, by kernel_rfl, by kernel_rfl, by kernel_rfl, by kernel_rfl, by kernel_rfl, by kernel_rfl, by kernel_rfl, by kernel_rfl, by kernel_rfl, by kernel_rfl, by kernel_rfl, by kernel_rfl, by kernel_rfl, by kernel_rfl, by kernel_rfl⟩
theorem X_55 : ∀ s : Slot, ∀ wd pl : Nat, wd < 7 → pl < 4 → finF (GR [s, .va (Rw 55), .va (.int wd), .va (.int pl), .un]) = some (s, fauD 55 wd pl) := fun s => by28 ⟨by kernel_rfl, by kernel_rfl, by kernel_rfl, by kernel_rfl, by kernel_rfl, by kernel_rfl, by kernel_rfl, by kernel_rfl, by kernel_rfl, by kernel_rfl, by kernel_rfl, by kernel_rfl, by kernel_rfl, by kernel_rfl, by kernel_rfl, by kernel_rfl, by kernel_rfl, by kernel_rfl, by kernel_rfl, by kernel_rfl, by kernel_rfl, by kernel_rfl, by kernel_rfl, by kernel_rfl, by kernel_rfl, by kernel_rfl, by kernel_rfl, by kernel_rfl⟩
theorem Y_55 : ∀ wd pl : Nat, wd < 7 → pl < 4 → isRow (F__law_refused [.va (fauD 55 wd pl)]) = true := by28 ⟨by kernel_rfl, by kernel_rfl, by kernel_rfl, by kernel_rfl, by kernel_rfl, by kernel_rfl, by kernel_rfl, by kernel_rfl, by kernel_rfl, by kernel_rfl, by kernel_rfl, by kernel_rfl, by kernel_rfl, by kernel_rfl, by kernel_rfl, by kernel_rfl, by kernel_rfl, by kernel_rfl, by kernel_rfl, by kernel_rfl, by kernel_rfl, by kernel_rfl, by kernel_rfl, by kernel_rfl, by kernel_rfl, by kernel_rfl, by kernel_rfl, by kernel_rfl⟩
theorem X_56 : ∀ s : Slot, ∀ wd pl : Nat, wd < 7 → pl < 4 → finF (GR [s, .va (Rw 56), .va (.int wd), .va (.int pl), .un]) = some (s, fauD 56 wd pl) := fun s => by28 ⟨by kernel_rfl, by kernel_rfl, by kernel_rfl, by kernel_rfl, by kernel_rfl, by kernel_rfl, by kernel_rfl, by kernel_rfl, by kernel_rfl, by kernel_rfl, by kernel_rfl, by kernel_rfl, by kernel_rfl, by kernel_rfl, by kernel_rfl, by kernel_rfl, by kernel_rfl, by kernel_rfl, by kernel_rfl, by kernel_rfl, by kernel_rfl, by kernel_rfl, by kernel_rfl, by kernel_rfl, by kernel_rfl, by kernel_rfl, by kernel_rfl, by kernel_rfl⟩
theorem Y_56 : ∀ wd pl : Nat, wd < 7 → pl < 4 → isRow (F__law_refused [.va (fauD 56 wd pl)]) = true := by28 ⟨by kernel_rfl, by kernel_rfl, by kernel_rfl, by kernel_rfl, by kernel_rfl, by kernel_rfl, by kernel_rfl, by kernel_rfl, by kernel_rfl, by kernel_rfl, by kernel_rfl, by kernel_rfl, by kernel_rfl, by kernel_rfl, by kernel_rfl, by kernel_rfl, by kernel_rfl, by kernel_rfl, by kernel_rfl, by kernel_rfl, by kernel_rfl, by kernel_rfl, by kernel_rfl, by kernel_rfl, by kernel_rfl, by kernel_rfl, by kernel_rfl, by kernel_rfl⟩
theorem X_57 : ∀ s : Slot, ∀ wd pl : Nat, wd < 7 → pl < 4 → finF (GR [s, .va (Rw 57), .va (.int wd), .va (.int pl), .un]) = some (s, fauD 57 wd pl) := fun s => by28 ⟨by kernel_rfl, by kernel_rfl, by kernel_rfl, by kernel_rfl, by kernel_rfl, by kernel_rfl, by kernel_rfl, by kernel_rfl, by kernel_rfl, by kernel_rfl, by kernel_rfl, by kernel_rfl, by kernel_rfl, by kernel_rfl, by kernel_rfl, by kernel_rfl, by kernel_rfl, by kernel_rfl, by kernel_rfl, by kernel_rfl, by kernel_rfl, by kernel_rfl, by kernel_rfl, by kernel_rfl, by kernel_rfl, by kernel_rfl, by kernel_rfl, by kernel_rfl⟩
theorem Y_57 : ∀ wd pl : Nat, wd < 7 → pl < 4 → isRow (F__law_refused [.va (fauD 57 wd pl)]) = true := by28 ⟨by kernel_rfl, by kernel_rfl, by kernel_rfl, by kernel_rfl, by kernel_rfl, by kernel_rfl, by kernel_rfl, by kernel_rfl, by kernel_rfl, by kernel_rfl, by kernel_rfl, by kernel_rfl, by kernel_rfl, by kernel_rfl, by kernel_rfl, by kernel_rfl, by kernel_rfl, by kernel_rfl, by kernel_rfl, by kernel_rfl, by kernel_rfl, by kernel_rfl, by kernel_rfl, by kernel_rfl, by kernel_rfl, by kernel_rfl, by kernel_rfl, by kernel_rfl⟩
theorem X_58 : ∀ s : Slot, ∀ wd pl : Nat, wd < 7 → pl < 4 → finF (GR [s, .va (Rw 58), .va (.int wd), .va (.int pl), .un]) = some (s, fauD 58 wd pl) := fun s => by28 ⟨by kernel_rfl, by kernel_rfl, by kernel_rfl, by kernel_rfl, by kernel_rfl, by kernel_rfl, by kernel_rfl, by kernel_rfl, by kernel_rfl, by kernel_rfl, by kernel_rfl, by kernel_rfl, by kernel_rfl, by kernel_rfl, by kernel_rfl, by kernel_rfl, by kernel_rfl, by kernel_rfl, by kernel_rfl, by kernel_rfl, by kernel_rfl, by kernel_rfl, by kernel_rfl, by kernel_rfl, by kernel_rfl, by kernel_rfl, by kernel_rfl, by kernel_rfl⟩
theorem Y_58 : ∀ wd pl : Nat, wd < 7 → pl < 4 → isRow (F__law_refused [.va (fauD 58 wd pl)]) = true := by28 ⟨by kernel_rfl, by kernel_rfl, by kernel_rfl, by kernel_rfl, by kernel_rfl, by kernel_rfl, by kernel_rfl, by kernel_rfl, by kernel_rfl, by kernel_rfl, by kernel_rfl, by kernel_rfl, by kernel_rfl, by kernel_rfl, by kernel_rfl, by kernel_rfl, by kernel_rfl, by kernel_rfl, by kernel_rfl, by kernel_rfl, by kernel_rfl, by kernel_rfl, by kernel_rfl, by kernel_rfl, by kernel_rfl, by kernel_rfl, by kernel_rfl, by kernel_rfl⟩
theorem X_59 : ∀ s : Slot, ∀ wd pl : Nat, wd < 7 → pl < 4 → finF (GR [s, .va (Rw 59), .va (.int wd), .va (.int pl), .un]) = some (s, fauD 59 wd pl) := fun s => by28 ⟨by kernel_rfl, by kernel_rfl, by kernel_rfl, by kernel_rfl, by kernel_rfl, by kernel_rfl, by kernel_rfl, by kernel_rfl, by kernel_rfl, by kernel_rfl, by kernel_rfl, by kernel_rfl, by kernel_rfl, by kernel_rfl, by kernel_rfl, by kernel_rfl, by kernel_rfl, by kernel_rfl, by kernel_rfl, by kernel_rfl, by kernel_rfl, by kernel_rfl, by kernel_rfl, by kernel_rfl, by kernel_rfl, by kernel_rfl, by kernel_rfl, by kernel_rfl⟩
theorem Y_59 : ∀ wd pl : Nat, wd < 7 → pl < 4 → isRow (F__law_refused [.va (fauD 59 wd pl)]) = true := by28 ⟨by kernel_rfl, by kernel_rfl, by kernel_rfl, by kernel_rfl, by kernel_rfl, by kernel_rfl, by kernel_rfl, by kernel_rfl, by kernel_rfl, by kernel_rfl, by kernel_rfl, by kernel_rfl, by kernel_rfl, by kernel_rfl, by kernel_rfl, by kernel_rfl, by kernel_rfl, by kernel_rfl, by kernel_rfl, by kernel_rfl, by kernel_rfl, by kernel_rfl, by kernel_rfl, by kernel_rfl, by kernel_rfl, by kernel_rfl, by kernel_rfl, by kernel_rfl⟩
theorem X_60 : ∀ s : Slot, ∀ wd pl : Nat, wd < 7 → pl < 4 → finF (GR [s, .va (Rw 60), .va (.int wd), .va (.int pl), .un]) = some (s, fauD 60 wd pl) := fun s => by28 ⟨by kernel_rfl, by kernel_rfl, by kernel_rfl, by kernel_rfl, by kernel_rfl, by kernel_rfl, by kernel_rfl, by kernel_rfl, by kernel_rfl, by kernel_rfl, by kernel_rfl, by kernel_rfl, by kernel_rfl, by kernel_rfl, by kernel_rfl, by kernel_rfl, by kernel_rfl, by kernel_rfl, by kernel_rfl, by kernel_rfl, by kernel_rfl, by kernel_rfl, by kernel_rfl, by kernel_rfl, by kernel_rfl, by kernel_rfl, by kernel_rfl, by kernel_rfl⟩
theorem Y_60 : ∀ wd pl : Nat, wd < 7 → pl < 4 → isRow (F__law_refused [.va (fauD 60 wd pl)]) = true := by28 ⟨by kernel_rfl, by kernel_rfl, by kernel_rfl, by kernel_rfl, by kernel_rfl, by kernel_rfl, by kernel_rfl, by kernel_rfl, by kernel_rfl, by kernel_rfl, by kernel_rfl, by kernel_rfl, by kernel_rfl, by kernel_rfl, by kernel_rfl, by kernel_rfl, by kernel_rfl, by kernel_rfl, by kernel_rfl, by kernel_rfl, by kernel_rfl, by kernel_rfl, by kernel_rfl, by kernel_rfl, by kernel_rfl, by kernel_rfl, by kernel_rfl, by kernel_rfl⟩
theorem X_61 : ∀ s : Slot, ∀ wd pl : Nat, wd < 7 → pl < 4 → finF (GR [s, .va (Rw 61), .va (.int wd), .va (.int pl), .un]) = some (s, fauD 61 wd pl) := fun s => by28 ⟨by kernel_rfl, by kernel_rfl, by kernel_rfl, by kernel_rfl, by kernel_rfl, by kernel_rfl, by kernel_rfl, by kernel_rfl, by kernel_rfl, by kernel_rfl, by kernel_rfl, by kernel_rfl, by kernel_rfl, by kernel_rfl, by kernel_rfl, by kernel_rfl, by kernel_rfl, by kernel_rfl, by kernel_rfl, by kernel_rfl, by kernel_rfl, by kernel_rfl, by kernel_rfl, by kernel_rfl, by kernel_rfl, by kernel_rfl, by kernel_rfl, by kernel_rfl⟩
theorem Y_61 : ∀ wd pl : Nat, wd < 7 → pl < 4 → isRow (F__law_refused [.va (fauD 61 wd pl)]) = true := by28 ⟨by kernel_rfl, by kernel_rfl, by kernel_rfl, by kernel_rfl, by kernel_rfl, by kernel_rfl, by kernel_rfl, by kernel_rfl, by kernel_rfl, by kernel_rfl, by kernel_rfl, by kernel_rfl, by kernel_rfl, by kernel_rfl, by kernel_rfl, by kernel_rfl, by kernel_rfl, by kernel_rfl, by kernel_rfl, by kernel_rfl, by kernel_rfl, by kernel_rfl, by kernel_rfl, by kernel_rfl, by kernel_rfl, by kernel_rfl, by kernel_rfl, by kernel_rfl⟩
theorem X_62 : ∀ s : Slot, ∀ wd pl : Nat, wd < 7 → pl < 4 → finF (GR [s, .va (Rw 62), .va (.int wd), .va (.int pl), .un]) = some (s, fauD 62 wd pl) := fun s => by28 ⟨by kernel_rfl, by kernel_rfl, by kernel_rfl, by kernel_rfl, by kernel_rfl, by kernel_rfl, by kernel_rfl, by kernel_rfl, by kernel_rfl, by kernel_rfl, by kernel_rfl, by kernel_rfl, by kernel_rfl, by kernel_rfl, by kernel_rfl, by kernel_rfl, by kernel_rfl, by kernel_rfl, by kernel_rfl, by kernel_rfl, by kernel_rfl, by kernel_rfl, by kernel_rfl, by kernel_rfl, by kernel_rfl, by kernel_rfl, by kernel_rfl, by kernel_rfl⟩
theorem Y_62 : ∀ wd pl : Nat, wd < 7 → pl < 4 → isRow (F__law_refused [.va (fauD 62 wd pl)]) = true := by28 ⟨by kernel_rfl, by kernel_rfl, by kernel_rfl, by kernel_rfl, by kernel_rfl, by kernel_rfl, by kernel_rfl, by kernel_rfl, by kernel_rfl, by kernel_rfl, by kernel_rfl, by kernel_rfl, by kernel_rfl, by kernel_rfl, by kernel_rfl, by kernel_rfl, by kernel_rfl, by kernel_rfl, by kernel_rfl, by kernel_rfl, by kernel_rfl, by kernel_rfl, by kernel_rfl, by kernel_rfl, by kernel_rfl, by kernel_rfl, by kernel_rfl, by kernel_rfl⟩
theorem X_63 : ∀ s : Slot, ∀ wd pl : Nat, wd < 7 → pl < 4 → finF (GR [s, .va (Rw 63), .va (.int wd), .va (.int pl), .un]) = some (s, fauD 63 wd pl) := fun s => by28 ⟨by kernel_rfl, by kernel_rfl, by kernel_rfl, by kernel_rfl, by kernel_rfl, by kernel_rfl, by kernel_rfl, by kernel_rfl, by kernel_rfl, by kernel_rfl, by kernel_rfl, by kernel_rfl, by kernel_rfl, by kernel_rfl, by kernel_rfl, by kernel_rfl, by kernel_rfl, by kernel_rfl, by kernel_rfl, by kernel_rfl, by kernel_rfl, by kernel_rfl, by kernel_rfl, by kernel_rfl, by kernel_rfl, by kernel_rfl, by kernel_rfl, by kernel_rfl⟩
theorem Y_63 : ∀ wd pl : Nat, wd < 7 → pl < 4 → isRow (F__law_refused [.va (fauD 63 wd pl)]) = true := by28 ⟨by kernel_rfl, by kernel_rfl, by kernel_rfl, by kernel_rfl, by kernel_rfl, by kernel_rfl, by kernel_rfl, by kernel_rfl, by kernel_rfl, by kernel_rfl, by kernel_rfl, by kernel_rfl, by kernel_rfl, by kernel_rfl, by kernel_rfl, by kernel_rfl, by kernel_rfl, by kernel_rfl, by kernel_rfl, by kernel_rfl, by kernel_rfl, by kernel_rfl, by kernel_rfl, by kernel_rfl, by kernel_rfl, by kernel_rfl, by kernel_rfl, by kernel_rfl⟩
theorem X_64 : ∀ s : Slot, ∀ wd pl : Nat, wd < 7 → pl < 4 → finF (GR [s, .va (Rw 64), .va (.int wd), .va (.int pl), .un]) = some (s, fauD 64 wd pl) := fun s => by28 ⟨by kernel_rfl, by kernel_rfl, by kernel_rfl, by kernel_rfl, by kernel_rfl, by kernel_rfl, by kernel_rfl, by kernel_rfl, by kernel_rfl, by kernel_rfl, by kernel_rfl, by kernel_rfl, by kernel_rfl, by kernel_rfl, by kernel_rfl, by kernel_rfl, by kernel_rfl, by kernel_rfl, by kernel_rfl, by kernel_rfl, by kernel_rfl, by kernel_rfl, by kernel_rfl, by kernel_rfl, by kernel_rfl, by kernel_rfl, by kernel_rfl, by kernel_rfl⟩
theorem Y_64 : ∀ wd pl : Nat, wd < 7 → pl < 4 → isRow (F__law_refused [.va (fauD 64 wd pl)]) = true := by28 ⟨by kernel_rfl, by kernel_rfl, by kernel_rfl, by kernel_rfl, by kernel_rfl, by kernel_rfl, by kernel_rfl, by kernel_rfl, by kernel_rfl, by kernel_rfl, by kernel_rfl, by kernel_rfl, by kernel_rfl, by kernel_rfl, by kernel_rfl, by kernel_rfl, by kernel_rfl, by kernel_rfl, by kernel_rfl, by kernel_rfl, by kernel_rfl, by kernel_rfl, by kernel_rfl, by kernel_rfl, by kernel_rfl, by kernel_rfl, by kernel_rfl, by kernel_rfl⟩
theorem X_65 : ∀ s : Slot, ∀ wd pl : Nat, wd < 7 → pl < 4 → finF (GR [s, .va (Rw 65), .va (.int wd), .va (.int pl), .un]) = some (s, fauD 65 wd pl) := fun s => by28 ⟨by kernel_rfl, by kernel_rfl, by kernel_rfl, by kernel_rfl, by kernel_rfl, by kernel_rfl, by kernel_rfl, by kernel_rfl, by kernel_rfl, by kernel_rfl, by kernel_rfl, by kernel_rfl, by kernel_rfl, by kernel_rfl, by kernel_rfl, by kernel_rfl, by kernel_rfl, by kernel_rfl, by kernel_rfl, by kernel_rfl, by kernel_rfl, by kernel_rfl, by kernel_rfl, by kernel_rfl, by kernel_rfl, by kernel_rfl, by kernel_rfl, by kernel_rfl⟩
theorem Y_65 : ∀ wd pl : Nat, wd < 7 → pl < 4 → isRow (F__law_refused [.va (fauD 65 wd pl)]) = true := by28 ⟨by kernel_rfl, by kernel_rfl, by kernel_rfl, by kernel_rfl, by kernel_rfl, by kernel_rfl, by kernel_rfl, by kernel_rfl, by kernel_rfl, by kernel_rfl, by kernel_rfl, by kernel_rfl, by kernel_rfl, by kernel_rfl, by kernel_rfl, by kernel_rfl, by kernel_rfl, by kernel_rfl, by kernel_rfl, by kernel_rfl, by kernel_rfl, by kernel_rfl, by kernel_rfl, by kernel_rfl, by kernel_rfl, by kernel_rfl, by kernel_rfl, by kernel_rfl⟩
theorem X_66 : ∀ s : Slot, ∀ wd pl : Nat, wd < 7 → pl < 4 → finF (GR [s, .va (Rw 66), .va (.int wd), .va (.int pl), .un]) = some (s, fauD 66 wd pl) := fun s => by28 ⟨by kernel_rfl, by kernel_rfl, by kernel_rfl, by kernel_rfl, by kernel_rfl, by kernel_rfl, by kernel_rfl, by kernel_rfl, by kernel_rfl, by kernel_rfl, by kernel_rfl, by kernel_rfl, by kernel_rfl, by kernel_rfl, by kernel_rfl, by kernel_rfl, by kernel_rfl, by kernel_rfl, by kernel_rfl, by kernel_rfl, by kernel_rfl, by kernel_rfl, by kernel_rfl, by kernel_rfl, by kernel_rfl, by kernel_rfl, by kernel_rfl, by kernel_rfl⟩
theorem Y_66 : ∀ wd pl : Nat, wd < 7 → pl < 4 → isRow (F__law_refused [.va (fauD 66 wd pl)]) = true := by28 ⟨by kernel_rfl, by kernel_rfl, by kernel_rfl, by kernel_rfl, by kernel_rfl, by kernel_rfl, by kernel_rfl, by kernel_rfl, by kernel_rfl, by kernel_rfl, by kernel_rfl, by kernel_rfl, by kernel_rfl, by kernel_rfl, by kernel_rfl, by kernel_rfl, by kernel_rfl, by kernel_rfl, by kernel_rfl, by kernel_rfl, by kernel_rfl, by kernel_rfl, by kernel_rfl, by kernel_rfl, by kernel_rfl, by kernel_rfl, by kernel_rfl, by kernel_rfl⟩
theorem X_67 : ∀ s : Slot, ∀ wd pl : Nat, wd < 7 → pl < 4 → finF (GR [s, .va (Rw 67), .va (.int wd), .va (.int pl), .un]) = some (s, fauD 67 wd pl) := fun s => by28 ⟨by kernel_rfl, by kernel_rfl, by kernel_rfl, by kernel_rfl, by kernel_rfl, by kernel_rfl, by kernel_rfl, by kernel_rfl, by kernel_rfl, by kernel_rfl, by kernel_rfl, by kernel_rfl, by kernel_rfl, by kernel_rfl, by kernel_rfl, by kernel_rfl, by kernel_rfl, by kernel_rfl, by kernel_rfl, by kernel_rfl, by kernel_rfl, by kernel_rfl, by kernel_rfl, by kernel_rfl, by kernel_rfl, by kernel_rfl, by kernel_rfl, by kernel_rfl⟩
theorem Y_67 : ∀ wd pl : Nat, wd < 7 → pl < 4 → isRow (F__law_refused [.va (fauD 67 wd pl)]) = true := by28 ⟨by kernel_rfl, by kernel_rfl, by kernel_rfl, by kernel_rfl, by kernel_rfl, by kernel_rfl, by kernel_rfl, by kernel_rfl, by kernel_rfl, by kernel_rfl, by kernel_rfl, by kernel_rfl, by kernel_rfl, by kernel_rfl, by kernel_rfl, by kernel_rfl, by kernel_rfl, by kernel_rfl, by kernel_rfl, by kernel_rfl, by kernel_rfl, by kernel_rfl, by kernel_rfl, by kernel_rfl, by kernel_rfl, by kernel_rfl, by kernel_rfl, by kernel_rfl⟩
theorem X_68 : ∀ s : Slot, ∀ wd pl : Nat, wd < 7 → pl < 4 → finF (GR [s, .va (Rw 68), .va (.int wd), .va (.int pl), .un]) = some (s, fauD 68 wd pl) := fun s => by28 ⟨by kernel_rfl, by kernel_rfl, by kernel_rfl, by kernel_rfl, by kernel_rfl, by kernel_rfl, by kernel_rfl, by kernel_rfl, by kernel_rfl, by kernel_rfl, by kernel_rfl, by kernel_rfl, by kernel_rfl, by kernel_rfl, by kernel_rfl, by kernel_rfl, by kernel_rfl, by kernel_rfl, by kernel_rfl, by kernel_rfl, by kernel_rfl, by kernel_rfl, by kernel_rfl, by kernel_rfl, by kernel_rfl, by kernel_rfl, by kernel_rfl, by kernel_rfl⟩
theorem Y_68 : ∀ wd pl : Nat, wd < 7 → pl < 4 → isRow (F__law_refused [.va (fauD 68 wd pl)]) = true := by28 ⟨by kernel_rfl, by kernel_rfl, by kernel_rfl, by kernel_rfl, by kernel_rfl, by kernel_rfl, by kernel_rfl, by kernel_rfl, by kernel_rfl, by kernel_rfl, by kernel_rfl, by kernel_rfl, by kernel_rfl, by kernel_rfl, by kernel_rfl, by kernel_rfl, by kernel_rfl, by kernel_rfl, by kernel_rfl, by kernel_rfl, by kernel_rfl, by kernel_rfl, by kernel_rfl, by kernel_rfl, by kernel_rfl, by kernel_rfl, by kernel_rfl, by kernel_rfl⟩
theorem X_69 : ∀ s : Slot, ∀ wd pl : Nat, wd < 7 → pl < 4 → finF (GR [s, .va (Rw 69), .va (.int wd), .va (.int pl), .un]) = some (s, fauD 69 wd pl) := fun s => by28 ⟨by kernel_rfl, by kernel_rfl, by kernel_rfl, by kernel_rfl, by kernel_rfl, by kernel_rfl, by kernel_rfl, by kernel_rfl, by kernel_rfl, by kernel_rfl, by kernel_rfl, by kernel_rfl, by kernel_rfl, by kernel_rfl, by kernel_rfl, by kernel_rfl, by kernel_rfl, by kernel_rfl, by kernel_rfl, by kernel_rfl, by kernel_rfl, by kernel_rfl, by kernel_rfl, by kernel_rfl, by kernel_rfl, by kernel_rfl, by kernel_rfl, by kernel_rfl⟩
theorem Y_69 : ∀ wd pl : Nat, wd < 7 → pl < 4 → isRow (F__law_refused [.va (fauD 69 wd pl)]) = true := by28 ⟨by kernel_rfl, by kernel_rfl, by kernel_rfl, by kernel_rfl, by kernel_rfl, by kernel_rfl, by kernel_rfl, by kernel_rfl, by kernel_rfl, by kernel_rfl, by kernel_rfl, by kernel_rfl, by kernel_rfl, by kernel_rfl, by kernel_rfl, by kernel_rfl, by kernel_rfl, by kernel_rfl, by kernel_rfl, by kernel_rfl, by kernel_rfl, by kernel_rfl, by kernel_rfl, by kernel_rfl, by kernel_rfl, by kernel_rfl, by kernel_rfl, by kernel_rfl⟩
theorem X_70 : ∀ s : Slot, ∀ wd pl : Nat, wd < 7 → pl < 4 → finF (GR [s, .va (Rw 70), .va (.int wd), .va (.int pl), .un]) = some (s, fauD 70 wd pl) := fun s => by28 ⟨by kernel_rfl, by kernel_rfl, by kernel_rfl, by kernel_rfl, by kernel_rfl, by kernel_rfl, by kernel_rfl, by kernel_rfl, by kernel_rfl, by kernel_rfl, by kernel_rfl, by kernel_rfl, by kernel_rfl, by kernel_rfl, by kernel_rfl, by kernel_rfl, by kernel_rfl, by kernel_rfl, by kernel_rfl, by kernel_rfl, by kernel_rfl, by kernel_rfl, by kernel_rfl, by kernel_rfl, by kernel_rfl, by kernel_rfl, by kernel_rfl, by kernel_rfl⟩
theorem Y_70 : ∀ wd pl : Nat, wd < 7 → pl < 4 → isRow (F__law_refused [.va (fauD 70 wd pl)]) = true := by28 ⟨by kernel_rfl, by kernel_rfl, by kernel_rfl, by kernel_rfl, by kernel_rfl, by kernel_rfl, by kernel_rfl, by kernel_rfl, by kernel_rfl, by kernel_rfl, by kernel_rfl, by kernel_rfl, by kernel_rfl, by kernel_rfl, by kernel_rfl, by kernel_rfl, by kernel_rfl, by kernel_rfl, by kernel_rfl, by kernel_rfl, by kernel_rfl, by kernel_rfl, by kernel_rfl, by kernel_rfl, by kernel_rfl, by kernel_rfl, by kernel_rfl, by kernel_rfl⟩
theorem X_71 : ∀ s : Slot, ∀ wd pl : Nat, wd < 7 → pl < 4 → finF (GR [s, .va (Rw 71), .va (.int wd), .va (.int pl), .un]) = some (s, fauD 71 wd pl) := fun s => by28 ⟨by kernel_rfl, by kernel_rfl, by kernel_rfl, by kernel_rfl, by kernel_rfl, by kernel_rfl, by kernel_rfl, by kernel_rfl, by kernel_rfl, by kernel_rfl, by kernel_rfl, by kernel_rfl, by kernel_rfl, by kernel_rfl, by kernel_rfl, by kernel_rfl, by kernel_rfl, by kernel_rfl, by kernel_rfl, by kernel_rfl, by kernel_rfl, by kernel_rfl, by kernel_rfl, by kernel_rfl, by kernel_rfl, by kernel_rfl, by kernel_rfl, by kernel_rfl⟩
theorem Y_71 : ∀ wd pl : Nat, wd < 7 → pl < 4 → isRow (F__law_refused [.va (fauD 71 wd pl)]) = true := by28 ⟨by kernel_rfl, by kernel_rfl, by kernel_rfl, by kernel_rfl, by kernel_rfl, by kernel_rfl, by kernel_rfl, by kernel_rfl, by kernel_rfl, by kernel_rfl, by kernel_rfl, by kernel_rfl, by kernel_rfl, by kernel_rfl, by kernel_rfl, by kernel_rfl, by kernel_rfl, by kernel_rfl, by kernel_rfl, by kernel_rfl, by kernel_rfl, by kernel_rfl, by kernel_rfl, by kernel_rfl, by kernel_rfl, by kernel_rfl, by kernel_rfl, by kernel_rfl⟩
theorem X_72 : ∀ s : Slot, ∀ wd pl : Nat, wd < 7 → pl < 4 → finF (GR [s, .va (Rw 72), .va (.int wd), .va (.int pl), .un]) = some (s, fauD 72 wd pl) := fun s => by28 ⟨by kernel_rfl, by kernel_rfl, by kernel_rfl, by kernel_rfl, by kernel_rfl, by kernel_rfl, by kernel_rfl, by kernel_rfl, by kernel_rfl, by kernel_rfl, by kernel_rfl, by kernel_rfl, by kernel_rfl, by kernel_rfl, by kernel_rfl, by kernel_rfl, by kernel_rfl, by kernel_rfl, by kernel_rfl, by kernel_rfl, by kernel_rfl, by kernel_rfl, by kernel_rfl, by kernel_rfl, by kernel_rfl, by kernel_rfl, by kernel_rfl, by kernel_rfl⟩
theorem Y_72 : ∀ wd pl : Nat, wd < 7 → pl < 4 → isRow (F__law_refused [.va (fauD 72 wd pl)]) = true := by28 ⟨by kernel_rfl, by kernel_rfl, by kernel_rfl, by kernel_rfl, by kernel_rfl, by kernel_rfl, by kernel_rfl, by kernel_rfl, by kernel_rfl, by kernel_rfl, by kernel_rfl, by kernel_rfl, by kernel_rfl, by kernel_rfl, by kernel_rfl, by kernel_rfl, by kernel_rfl, by kernel_rfl, by kernel_rfl, by kernel_rfl, by kernel_rfl, by kernel_rfl, by kernel_rfl, by kernel_rfl, by kernel_rfl, by kernel_rfl, by kernel_rfl, by kernel_rfl⟩
theorem X_73 : ∀ s : Slot, ∀ wd pl : Nat, wd < 7 → pl < 4 → finF (GR [s, .va (Rw 73), .va (.int wd), .va (.int pl), .un]) = some (s, fauD 73 wd pl) := fun s => by28 ⟨by kernel_rfl, by kernel_rfl, by kernel_rfl, by kernel_rfl, by kernel_rfl, by kernel_rfl, by kernel_rfl, by kernel_rfl, by kernel_rfl, by kernel_rfl, by kernel_rfl, by kernel_rfl, by kernel_rfl, by kernel_rfl, by kernel_rfl, by kernel_rfl, by kernel_rfl, by kernel_rfl, by kernel_rfl, by kernel_rfl, by kernel_rfl, by kernel_rfl, by kernel_rfl, by kernel_rfl, by kernel_rfl, by kernel_rfl, by kernel_rfl, by kernel_rfl⟩
theorem Y_73 : ∀ wd pl : Nat, wd < 7 → pl < 4 → isRow (F__law_refused [.va (fauD 73 wd pl)]) = true := by28 ⟨by kernel_rfl, by kernel_rfl, by kernel_rfl, by kernel_rfl, by kernel_rfl, by kernel_rfl, by kernel_rfl, by kernel_rfl, by kernel_rfl, by kernel_rfl, by kernel_rfl, by kernel_rfl, by kernel_rfl, by kernel_rfl, by kernel_rfl, by kernel_rfl, by kernel_rfl, by kernel_rfl, by kernel_rfl, by kernel_rfl, by kernel_rfl, by kernel_rfl, by kernel_rfl, by kernel_rfl, by kernel_rfl, by kernel_rfl, by kernel_rfl, by kernel_rfl⟩
theorem X_74 : ∀ s : Slot, ∀ wd pl : Nat, wd < 7 → pl < 4 → finF (GR [s, .va (Rw 74), .va (.int wd), .va (.int pl), .un]) = some (s, fauD 74 wd pl) := fun s => by28 ⟨by kernel_rfl, by kernel_rfl, by kernel_rfl, by kernel_rfl, by kernel_rfl, by kernel_rfl, by kernel_rfl, by kernel_rfl, by kernel_rfl, by kernel_rfl, by kernel_rfl, by kernel_rfl, by kernel_rfl, by kernel_rfl, by kernel_rfl, by kernel_rfl, by kernel_rfl, by kernel_rfl, by kernel_rfl, by kernel_rfl, by kernel_rfl, by kernel_rfl, by kernel_rfl, by kernel_rfl, by kernel_rfl, by kernel_rfl, by kernel_rfl, by kernel_rfl⟩
theorem Y_74 : ∀ wd pl : Nat, wd < 7 → pl < 4 → isRow (F__law_refused [.va (fauD 74 wd pl)]) = true := by28 ⟨by kernel_rfl, by kernel_rfl, by kernel_rfl, by kernel_rfl, by kernel_rfl, by kernel_rfl, by kernel_rfl, by kernel_rfl, by kernel_rfl, by kernel_rfl, by kernel_rfl, by kernel_rfl, by kernel_rfl, by kernel_rfl, by kernel_rfl, by kernel_rfl, by kernel_rfl, by kernel_rfl, by kernel_rfl, by kernel_rfl, by kernel_rfl, by kernel_rfl, by kernel_rfl, by kernel_rfl, by kernel_rfl, by kernel_rfl, by kernel_rfl, by kernel_rfl⟩
theorem X_75 : ∀ s : Slot, ∀ wd pl : Nat, wd < 7 → pl < 4 → finF (GR [s, .va (Rw 75), .va (.int wd), .va (.int pl), .un]) = some (s, fauD 75 wd pl) := fun s => by28 ⟨by kernel_rfl, by kernel_rfl, by kernel_rfl, by kernel_rfl, by kernel_rfl, by kernel_rfl, by kernel_rfl, by kernel_rfl, by kernel_rfl, by kernel_rfl, by kernel_rfl, by kernel_rfl, by kernel_rfl, by kernel_rfl, by kernel_rfl, by kernel_rfl, by kernel_rfl, by kernel_rfl, by kernel_rfl, by kernel_rfl, by kernel_rfl, by kernel_rfl, by kernel_rfl, by kernel_rfl, by kernel_rfl, by kernel_rfl, by kernel_rfl, by kernel_rfl⟩
theorem Y_75 : ∀ wd pl : Nat, wd < 7 → pl < 4 → isRow (F__law_refused [.va (fauD 75 wd pl)]) = true := by28 ⟨by kernel_rfl, by kernel_rfl, by kernel_rfl, by kernel_rfl, by kernel_rfl, by kernel_rfl, by kernel_rfl, by kernel_rfl, by kernel_rfl, by kernel_rfl, by kernel_rfl, by kernel_rfl, by kernel_rfl, by kernel_rfl, by kernel_rfl, by kernel_rfl, by kernel_rfl, by kernel_rfl, by kernel_rfl, by kernel_rfl, by kernel_rfl, by kernel_rfl, by kernel_rfl, by kernel_rfl, by kernel_rfl, by kernel_rfl, by kernel_rfl, by kernel_rfl⟩
theorem X_76 : ∀ s : Slot, ∀ wd pl : Nat, wd < 7 → pl < 4 → finF (GR [s, .va (Rw 76), .va (.int wd), .va (.int pl), .un]) = some (s, fauD 76 wd pl) := fun s => by28 ⟨by kernel_rfl, by kernel_rfl, by kernel_rfl, by kernel_rfl, by kernel_rfl, by kernel_rfl, by kernel_rfl, by kernel_rfl, by kernel_rfl, by kernel_rfl, by kernel_rfl, by kernel_rfl, by kernel_rfl, by kernel_rfl, by kernel_rfl, by kernel_rfl, by kernel_rfl, by kernel_rfl, by kernel_rfl, by kernel_rfl, by kernel_rfl, by kernel_rfl, by kernel_rfl, by kernel_rfl, by kernel_rfl, by kernel_rfl, by kernel_rfl, by kernel_rfl⟩
theorem Y_76 : ∀ wd pl : Nat, wd < 7 → pl < 4 → isRow (F__law_refused [.va (fauD 76 wd pl)]) = true := by28 ⟨by kernel_rfl, by kernel_rfl, by kernel_rfl, by kernel_rfl, by kernel_rfl, by kernel_rfl, by kernel_rfl, by kernel_rfl, by kernel_rfl, by kernel_rfl, by kernel_rfl, by kernel_rfl, by kernel_rfl, by kernel_rfl, by kernel_rfl, by kernel_rfl, by kernel_rfl, by kernel_rfl, by kernel_rfl, by kernel_rfl, by kernel_rfl, by kernel_rfl, by kernel_rfl, by kernel_rfl, by kernel_rfl, by kernel_rfl, by kernel_rfl, by kernel_rfl⟩
theorem X_77 : ∀ s : Slot, ∀ wd pl : Nat, wd < 7 → pl < 4 → finF (GR [s, .va (Rw 77), .va (.int wd), .va (.int pl), .un]) = some (s, fauD 77 wd pl) := fun s => by28 ⟨by kernel_rfl, by kernel_rfl, by kernel_rfl, by kernel_rfl, by kernel_rfl, by kernel_rfl, by kernel_rfl, by kernel_rfl, by kernel_rfl, by kernel_rfl, by kernel_rfl, by kernel_rfl, by kernel_rfl, by kernel_rfl, by kernel_rfl, by kernel_rfl, by kernel_rfl, by kernel_rfl, by kernel_rfl, by kernel_rfl, by kernel_rfl, by kernel_rfl, by kernel_rfl, by kernel_rfl, by kernel_rfl, by kernel_rfl, by kernel_rfl, by kernel_rfl⟩
theorem Y_77 : ∀ wd pl : Nat, wd < 7 → pl < 4 → isRow (F__law_refused [.va (fauD 77 wd pl)]) = true := by28 ⟨by kernel_rfl, by kernel_rfl, by kernel_rfl, by kernel_rfl, by kernel_rfl, by kernel_rfl, by kernel_rfl, by kernel_rfl, by kernel_rfl, by kernel_rfl, by kernel_rfl, by kernel_rfl, by kernel_rfl, by kernel_rfl, by kernel_rfl, by kernel_rfl, by kernel_rfl, by kernel_rfl, by kernel_rfl, by kernel_rfl, by kernel_rfl, by kernel_rfl, by kernel_rfl, by kernel_rfl, by kernel_rfl, by kernel_rfl, by kernel_rfl, by kernel_rfl⟩
theorem X_78 : ∀ s : Slot, ∀ wd pl : Nat, wd < 7 → pl < 4 → finF (GR [s, .va (Rw 78), .va (.int wd), .va (.int pl), .un]) = some (s, fauD 78 wd pl) := fun s => by28 ⟨by kernel_rfl, by kernel_rfl, by kernel_rfl, by kernel_rfl, by kernel_rfl, by kernel_rfl, by kernel_rfl, by kernel_rfl, by kernel_rfl, by kernel_rfl, by kernel_rfl, by kernel_rfl, by kernel_rfl, by kernel_rfl, by kernel_rfl, by kernel_rfl, by kernel_rfl, by kernel_rfl, by kernel_rfl, by kernel_rfl, by kernel_rfl, by kernel_rfl, by kernel_rfl, by kernel_rfl, by kernel_rfl, by kernel_rfl, by kernel_rfl, by kernel_rfl⟩
theorem Y_78 : ∀ wd pl : Nat, wd < 7 → pl < 4 → isRow (F__law_refused [.va (fauD 78 wd pl)]) = true := by28 ⟨by kernel_rfl, by kernel_rfl, by kernel_rfl, by kernel_rfl, by kernel_rfl, by kernel_rfl, by kernel_rfl, by kernel_rfl, by kernel_rfl, by kernel_rfl, by kernel_rfl, by kernel_rfl, by kernel_rfl, by kernel_rfl, by kernel_rfl, by kernel_rfl, by kernel_rfl, by kernel_rfl, by kernel_rfl, by kernel_rfl, by kernel_rfl, by kernel_rfl, by kernel_rfl, by kernel_rfl, by kernel_rfl, by kernel_rfl, by kernel_rfl, by kernel_rfl⟩
theorem X_79 : ∀ s : Slot, ∀ wd pl : Nat, wd < 7 → pl < 4 → finF (GR [s, .va (Rw 79), .va (.int wd), .va (.int pl), .un]) = some (s, fauD 79 wd pl) := fun s => by28 ⟨by kernel_rfl, by kernel_rfl, by kernel_rfl, by kernel_rfl, by kernel_rfl, by kernel_rfl, by kernel_rfl, by kernel_rfl, by kernel_rfl, by kernel_rfl, by kernel_rfl, by kernel_rfl, by kernel_rfl, by kernel_rfl, by kernel_rfl, by kernel_rfl, by kernel_rfl, by kernel_rfl, by kernel_rfl, by kernel_rfl, by kernel_rfl, by kernel_rfl, by kernel_rfl, by kernel_rfl, by kernel_rfl, by kernel_rfl, by kernel_rfl, by kernel_rfl⟩
theorem Y_79 : ∀ wd pl : Nat, wd < 7 → pl < 4 → isRow (F__law_refused [.va (fauD 79 wd pl)]) = true := by28 ⟨by kernel_rfl, by kernel_rfl, by kernel_rfl, by kernel_rfl, by kernel_rfl, by kernel_rfl, by kernel_rfl, by kernel_rfl, by kernel_rfl, by kernel_rfl, by kernel_rfl, by kernel_rfl, by kernel_rfl, by kernel_rfl, by kernel_rfl, by kernel_rfl, by kernel_rfl, by kernel_rfl, by kernel_rfl, by kernel_rfl, by kernel_rfl, by kernel_rfl, by kernel_rfl, by kernel_rfl, by kernel_rfl, by kernel_rfl, by kernel_rfl, by kernel_rfl⟩
theorem X_80 : ∀ s : Slot, ∀ wd pl : Nat, wd < 7 → pl < 4 → finF (GR [s, .va (Rw 80), .va (.int wd), .va (.int pl), .un]) = some (s, fauD 80 wd pl) := fun s => by28 ⟨by kernel_rfl, by kernel_rfl, by kernel_rfl, by kernel_rfl, by kernel_rfl, by kernel_rfl, by kernel_rfl, by kernel_rfl, by kernel_rfl, by kernel_rfl, by kernel_rfl, by kernel_rfl, by kernel_rfl, by kernel_rfl, by kernel_rfl, by kernel_rfl, by kernel_rfl, by kernel_rfl, by kernel_rfl, by kernel_rfl, by kernel_rfl, by kernel_rfl, by kernel_rfl, by kernel_rfl, by kernel_rfl, by kernel_rfl, by kernel_rfl, by kernel_rfl⟩
theorem Y_80 : ∀ wd pl : Nat, wd < 7 → pl < 4 → isRow (F__law_refused [.va (fauD 80 wd pl)]) = true := by28 ⟨by kernel_rfl, by kernel_rfl, by kernel_rfl, by kernel_rfl, by kernel_rfl, by kernel_rfl, by kernel_rfl, by kernel_rfl, by kernel_rfl, by kernel_rfl, by kernel_rfl, by kernel_rfl, by kernel_rfl, by kernel_rfl, by kernel_rfl, by kernel_rfl, by kernel_rfl, by kernel_rfl, by kernel_rfl, by kernel_rfl, by kernel_rfl, by kernel_rfl, by kernel_rfl, by kernel_rfl, by kernel_rfl, by kernel_rfl, by kernel_rfl, by kernel_rfl⟩
theorem X_all : ∀ n : Nat, n < 81 → ∀ s : Slot, ∀ wd pl : Nat, wd < 7 → pl < 4 → finF (GR [s, .va (Rw n), .va (.int wd), .va (.int pl), .un]) = some (s, fauD n wd pl)
  | 0, _ => X_0
  | 1, _ => X_1
  | 2, _ => X_2
  | 3, _ => X_3
  | 4, _ => X_4
  | 5, _ => X_5
  | 6, _ => X_6
  | 7, _ => X_7
  | 8, _ => X_8
  | 9, _ => X_9
  | 10, _ => X_10
  | 11, _ => X_11
  | 12, _ => X_12
  | 13, _ => X_13
  | 14, _ => X_14
  | 15, _ => X_15
  | 16, _ => X_16
  | 17, _ => X_17
  | 18, _ => X_18
  | 19, _ => X_19
  | 20, _ => X_20
  | 21, _ => X_21
  | 22, _ => X_22
  | 23, _ => X_23
  | 24, _ => X_24
  | 25, _ => X_25
  | 26, _ => X_26
  | 27, _ => X_27
  | 28, _ => X_28
  | 29, _ => X_29
  | 30, _ => X_30
  | 31, _ => X_31
  | 32, _ => X_32
  | 33, _ => X_33
  | 34, _ => X_34
  | 35, _ => X_35
  | 36, _ => X_36
  | 37, _ => X_37
  | 38, _ => X_38
  | 39, _ => X_39
  | 40, _ => X_40
  | 41, _ => X_41
  | 42, _ => X_42
  | 43, _ => X_43
  | 44, _ => X_44
  | 45, _ => X_45
  | 46, _ => X_46
  | 47, _ => X_47
  | 48, _ => X_48
  | 49, _ => X_49
  | 50, _ => X_50
  | 51, _ => X_51
  | 52, _ => X_52
  | 53, _ => X_53
  | 54, _ => X_54
  | 55, _ => X_55
  | 56, _ => X_56
  | 57, _ => X_57
  | 58, _ => X_58
  | 59, _ => X_59
  | 60, _ => X_60
  | 61, _ => X_61
  | 62, _ => X_62
  | 63, _ => X_63
  | 64, _ => X_64
  | 65, _ => X_65
  | 66, _ => X_66
  | 67, _ => X_67
  | 68, _ => X_68
  | 69, _ => X_69
  | 70, _ => X_70
  | 71, _ => X_71
  | 72, _ => X_72
  | 73, _ => X_73
  | 74, _ => X_74
  | 75, _ => X_75
  | 76, _ => X_76
  | 77, _ => X_77
  | 78, _ => X_78
  | 79, _ => X_79
  | 80, _ => X_80
  | n + 81, h => absurd h (by omega)
theorem Y_all : ∀ n : Nat, n < 81 → ∀ wd pl : Nat, wd < 7 → pl < 4 → isRow (F__law_refused [.va (fauD n wd pl)]) = true
  | 0, _ => Y_0
  | 1, _ => Y_1
  | 2, _ => Y_2
  | 3, _ => Y_3
  | 4, _ => Y_4
  | 5, _ => Y_5
  | 6, _ => Y_6
  | 7, _ => Y_7
  | 8, _ => Y_8
  | 9, _ => Y_9
  | 10, _ => Y_10
  | 11, _ => Y_11
  | 12, _ => Y_12
  | 13, _ => Y_13
  | 14, _ => Y_14
  | 15, _ => Y_15
  | 16, _ => Y_16
  | 17, _ => Y_17
  | 18, _ => Y_18
  | 19, _ => Y_19
  | 20, _ => Y_20
  | 21, _ => Y_21
  | 22, _ => Y_22
  | 23, _ => Y_23
  | 24, _ => Y_24
  | 25, _ => Y_25
  | 26, _ => Y_26
  | 27, _ => Y_27
  | 28, _ => Y_28
  | 29, _ => Y_29
  | 30, _ => Y_30
  | 31, _ => Y_31
  | 32, _ => Y_32
  | 33, _ => Y_33
  | 34, _ => Y_34
  | 35, _ => Y_35
  | 36, _ => Y_36
  | 37, _ => Y_37
  | 38, _ => Y_38
  | 39, _ => Y_39
  | 40, _ => Y_40
  | 41, _ => Y_41
  | 42, _ => Y_42
  | 43, _ => Y_43
  | 44, _ => Y_44
  | 45, _ => Y_45
  | 46, _ => Y_46
  | 47, _ => Y_47
  | 48, _ => Y_48
  | 49, _ => Y_49
  | 50, _ => Y_50
  | 51, _ => Y_51
  | 52, _ => Y_52
  | 53, _ => Y_53
  | 54, _ => Y_54
  | 55, _ => Y_55
  | 56, _ => Y_56
  | 57, _ => Y_57
  | 58, _ => Y_58
  | 59, _ => Y_59
  | 60, _ => Y_60
  | 61, _ => Y_61
  | 62, _ => Y_62
  | 63, _ => Y_63
  | 64, _ => Y_64
  | 65, _ => Y_65
  | 66, _ => Y_66
  | 67, _ => Y_67
  | 68, _ => Y_68
  | 69, _ => Y_69
  | 70, _ => Y_70
  | 71, _ => Y_71
  | 72, _ => Y_72
  | 73, _ => Y_73
  | 74, _ => Y_74
  | 75, _ => Y_75
  | 76, _ => Y_76
  | 77, _ => Y_77
  | 78, _ => Y_78
  | 79, _ => Y_79
  | 80, _ => Y_80
  | n + 81, h => absurd h (by omega)
end VP

set_option Elab.async false
set_option linter.all false
set_option maxRecDepth 100000
set_option maxHeartbeats 4000000
namespace VP
open PySem PySem.Spec PyProof.Rows L2 VL VW
theorem e_next : F__law_next = F_next := rfl
theorem e_pool : F__law_pool = F_pool := rfl
theorem D_sh : ∀ (sh : Nat), sh < 4 → ∀ s0 s1 s2 s3 s5 s6 s7 s8 s10 s11 : Slot, g__law_kept_13 [s0, s1, s2, s3, .va (.int 3), s5, s6, s7, s8, .va (.int sh), s10, s11] = .nx [s0, s1, s2, s3, .va (.int 3), s5, s6, s7, s8, .va (.int sh), .ow (.lst (four sh)), s11]
  | 0, _ => fun s0 s1 s2 s3 s5 s6 s7 s8 s10 s11 => by kernel_rfl
  | 1, _ => fun s0 s1 s2 s3 s5 s6 s7 s8 s10 s11 => by kernel_rfl
  | 2, _ => fun s0 s1 s2 s3 s5 s6 s7 s8 s10 s11 => by kernel_rfl
  | 3, _ => fun s0 s1 s2 s3 s5 s6 s7 s8 s10 s11 => by kernel_rfl
  | n + 4, h => absurd h (by omega)
theorem finK_out {r : SR} {d e p : D} {q : Bool} (h : finK r = some (.io d)) : (match r with
    | .nx S => (match outsOf [.io e, .bo p, .va (.bl q)] S with | some r => FR.rt false .non r | none => .bad)
    | .rt o d S => (match outsOf [.io e, .bo p, .va (.bl q)] S with | some r => .rt o d r | none => .bad)
    | .ex x S => (match outsOf [.io e, .bo p, .va (.bl q)] S with | some r => .ex x r | none => .bad)
    | _ => .bad) = .rt false (.bl true) [.io d, .un, .un] := by
  unfold finK at h
  split at h
  · cases h
    rfl
  · cases h
theorem fn_fin (g : SS) (e d p : D) (q : Bool) (h : finK (g [.io e, .bo p, .va (.bl q), .un, .un, .un, .un, .un, .un, .un, .un, .un]) = some (.io d)) : fnF 12 g [.io e, .bo p, .va (.bl q)] = .rt false (.bl true) [.io d, .un, .un] := finK_out h
theorem kept_ok (n : Nat) (hn : n < 81) (ps : List Int) (q : Bool) : ∃ ps' : List Int, F__law_kept [.io (dInts ps), .bo (Rw n), .va (.bl q)] = .rt false (.bl true) [.io (dInts ps'), .un, .un] := by
  obtain ⟨r1, ps1, h10, h11, e1, _⟩ := next_at 0 ps 4 (by decide)
  obtain ⟨r2, ps2, h20, h21, e2, _⟩ := next_at 0 ps1 2 (by decide)
  refine ⟨ps2, ?_⟩
  refine fn_fin g__law_kept _ _ _ _ ?_
  rw [kept_eq]
  obtain ⟨sh, hsh⟩ : ∃ sh : Nat, r1 = (sh : Int) := ⟨r1.toNat, by omega⟩
  subst hsh
  have hs4 : sh < 4 := by omega
  have k12 : g__law_kept_12 [.io (dInts ps), .bo (Rw n), .va (.bl q), .va (.bl (due n)), .va (.int 3), frm q n, .va (.bl (due n)), .ow (hdD n), .ow (chD n), .un, .un, .un] =
      .nx [.io (dInts ps1), .bo (Rw n), .va (.bl q), .va (.bl (due n)), .va (.int 3), frm q n, .va (.bl (due n)), .ow (hdD n), .ow (chD n), .va (.int sh), .un, .un] := by
    unfold g__law_kept_12 gSet
    rw [e_next, e1 _ rfl]
    rfl
  have k14 : g__law_kept_14 [.io (dInts ps1), .bo (Rw n), .va (.bl q), .va (.bl (due n)), .va (.int 3), frm q n, .va (.bl (due n)), .ow (hdD n), .ow (chD n), .va (.int sh), .ow (.lst (four sh)), .un] =
      .nx [.io (dInts ps2), .bo (Rw n), .va (.bl q), .va (.bl (due n)), .va (.int 3), frm q n, .va (.bl (due n)), .ow (hdD n), .ow (chD n), .va (.int sh), .ow (fourR sh (decide (r2 = 1))), .un] := by
    have t : (sTb (sBin oEq (sOp (sFn F__law_next [.io, .bo] [] (sCons (sOp (sName 0)) (sCons (sOp (sC (.int 2))) sNil)))) (sOp (sC (.int 1))))) [.io (dInts ps1), .bo (Rw n), .va (.bl q), .va (.bl (due n)), .va (.int 3), frm q n, .va (.bl (due n)), .ow (hdD n), .ow (chD n), .va (.int sh), .ow (.lst (four sh)), .un] =
        .ok (decide (r2 = 1)) [.io (dInts ps2), .bo (Rw n), .va (.bl q), .va (.bl (due n)), .va (.int 3), frm q n, .va (.bl (due n)), .ow (hdD n), .ow (chD n), .va (.int sh), .ow (.lst (four sh)), .un] := by
      have t0 : sOp (sFn F__law_next [.io, .bo] [] (sCons (sOp (sName 0)) (sCons (sOp (sC (.int 2))) sNil))) [.io (dInts ps1), .bo (Rw n), .va (.bl q), .va (.bl (due n)), .va (.int 3), frm q n, .va (.bl (due n)), .ow (hdD n), .ow (chD n), .va (.int sh), .ow (.lst (four sh)), .un] =
          .ok (.fz (.int r2)) [.io (dInts ps2), .bo (Rw n), .va (.bl q), .va (.bl (due n)), .va (.int 3), frm q n, .va (.bl (due n)), .ow (hdD n), .ow (chD n), .va (.int sh), .ow (.lst (four sh)), .un] := by
        show (sFn F__law_next _ _ _ _).bind _ = _
        rw [e_next, e2 _ rfl]
        rfl
      unfold sTb sBin
      rw [t0]
      rfl
    unfold g__law_kept_14 gIf
    rw [t]
    cases decide (r2 = 1) with
    | true => rfl
    | false => rfl
  unfold gSeq
  rw [A_all n hn]
  simp only [B_all n hn, C_all n hn, k12, D_sh sh hs4, k14, E_all n hn _ _ _ sh _ hs4]
  exact F_all n hn _ _ _ _ _
end VP

set_option Elab.async false
set_option linter.all false
set_option maxRecDepth 100000
set_option maxHeartbeats 4000000
namespace VP
open PySem PySem.Spec PyProof.Rows L2 VL VW
theorem N_0 : oIn true (.int 0) (Rw 0) = some (.fz (.bl (simp_ 0))) := by kernel_rfl
theorem N_1 : oIn true (.int 0) (Rw 1) = some (.fz (.bl (simp_ 1))) := by kernel_rfl
theorem N_2 : oIn true (.int 0) (Rw 2) = some (.fz (.bl (simp_ 2))) := by kernel_rfl
theorem N_3 : oIn true (.int 0) (Rw 3) = some (.fz (.bl (simp_ 3))) := by kernel_rfl
theorem N_4 : oIn true (.int 0) (Rw 4) = some (.fz (.bl (simp_ 4))) := by kernel_rfl
theorem N_5 : oIn true (.int 0) (Rw 5) = some (.fz (.bl (simp_ 5))) := by kernel_rfl
theorem N_6 : oIn true (.int 0) (Rw 6) = some (.fz (.bl (simp_ 6))) := by kernel_rfl
theorem N_7 : oIn true (.int 0) (Rw 7) = some (.fz (.bl (simp_ 7))) := by kernel_rfl
theorem N_8 : oIn true (.int 0) (Rw 8) = some (.fz (.bl (simp_ 8))) := by kernel_rfl
theorem N_9 : oIn true (.int 0) (Rw 9) = some (.fz (.bl (simp_ 9))) := by kernel_rfl
theorem N_10 : oIn true (.int 0) (Rw 10) = some (.fz (.bl (simp_ 10))) := by kernel_rfl
theorem N_11 : oIn true (.int 0) (Rw 11) = some (.fz (.bl (simp_ 11))) := by kernel_rfl
theorem N_12 : oIn true (.int 0) (Rw 12) = some (.fz (.bl (simp_ 12))) := by kernel_rfl
theorem N_13 : oIn true (.int 0) (Rw 13) = some (.fz (.bl (simp_ 13))) := by kernel_rfl
theorem N_14 : oIn true (.int 0) (Rw 14) = some (.fz (.bl (simp_ 14))) := by kernel_rfl
theorem N_15 : oIn true (.int 0) (Rw 15) = some (.fz (.bl (simp_ 15))) := by kernel_rfl
theorem N_16 : oIn true (.int 0) (Rw 16) = some (.fz (.bl (simp_ 16))) := by kernel_rfl
theorem N_17 : oIn true (.int 0) (Rw 17) = some (.fz (.bl (simp_ 17))) := by kernel_rfl
theorem N_18 : oIn true (.int 0) (Rw 18) = some (.fz (.bl (simp_ 18))) := by kernel_rfl
theorem N_19 : oIn true (.int 0) (Rw 19) = some (.fz (.bl (simp_ 19))) := by kernel_rfl
theorem N_20 : oIn true (.int 0) (Rw 20) = some (.fz (.bl (simp_ 20))) := by kernel_rfl
theorem N_21 : oIn true (.int 0) (Rw 21) = some (.fz (.bl (simp_ 21))) := by kernel_rfl
theorem N_22 : oIn true (.int 0) (Rw 22) = some (.fz (.bl (simp_ 22))) := by kernel_rfl
theorem N_23 : oIn true (.int 0) (Rw 23) = some (.fz (.bl (simp_ 23))) := by kernel_rfl
theorem N_24 : oIn true (.int 0) (Rw 24) = some (.fz (.bl (simp_ 24))) := by kernel_rfl
theorem N_25 : oIn true (.int 0) (Rw 25) = some (.fz (.bl (simp_ 25))) := by kernel_rfl
theorem N_26 : oIn true (.int 0) (Rw 26) = some (.fz (.bl (simp_ 26))) := by kernel_rfl
theorem N_27 : oIn true (.int 0) (Rw 27) = some (.fz (.bl (simp_ 27))) := by kernel_rfl
theorem N_28 : oIn true (.int 0) (Rw 28) = some (.fz (.bl (simp_ 28))) := by kernel_rfl
theorem N_29 : oIn true (.int 0) (Rw 29) = some (.fz (.bl (simp_ 29))) := by kernel_rfl
theorem N_30 : oIn true (.int 0) (Rw 30) = some (.fz (.bl (simp_ 30))) := by kernel_rfl
theorem N_31 : oIn true (.int 0) (Rw 31) = some (.fz (.bl (simp_ 31))) := by kernel_rfl
theorem N_32 : oIn true (.int 0) (Rw 32) = some (.fz (.bl (simp_ 32))) := by kernel_rfl
theorem N_33 : oIn true (.int 0) (Rw 33) = some (.fz (.bl (simp_ 33))) := by kernel_rfl
theorem N_34 : oIn true (.int 0) (Rw 34) = some (.fz (.bl (simp_ 34))) := by kernel_rfl
theorem N_35 : oIn true (.int 0) (Rw 35) = some (.fz (.bl (simp_ 35))) := by kernel_rfl
theorem N_36 : oIn true (.int 0) (Rw 36) = some (.fz (.bl (simp_ 36))) := by kernel_rfl
theorem N_37 : oIn true (.int 0) (Rw 37) = some (.fz (.bl (simp_ 37))) := by kernel_rfl
theorem N_38 : oIn true (.int 0) (Rw 38) = some (.fz (.bl (simp_ 38))) := by kernel_rfl
theorem N_39 : oIn true (.int 0) (Rw 39) = some (.fz (.bl (simp_ 39))) := by kernel_rfl
theorem N_40 : oIn true (.int 0) (Rw 40) = some (.fz (.bl (simp_ 40))) := by kernel_rfl
theorem N_41 : oIn true (.int 0) (Rw 41) = some (.fz (.bl (simp_ 41))) := by kernel_rfl
theorem N_42 : oIn true (.int 0) (Rw 42) = some (.fz (.bl (simp_ 42))) := by kernel_rfl
theorem N_43 : oIn true (.int 0) (Rw 43) = some (.fz (.bl (simp_ 43))) := by kernel_rfl
theorem N_44 : oIn true (.int 0) (Rw 44) = some (.fz (.bl (simp_ 44))) := by kernel_rfl
theorem N_45 : oIn true (.int 0) (Rw 45) = some (.fz (.bl (simp_ 45))) := by kernel_rfl
theorem N_46 : oIn true (.int 0) (Rw 46) = some (.fz (.bl (simp_ 46))) := by kernel_rfl
theorem N_47 : oIn true (.int 0) (Rw 47) = some (.fz (.bl (simp_ 47))) := by kernel_rfl
theorem N_48 : oIn true (.int 0) (Rw 48) = some (.fz (.bl (simp_ 48))) := by kernel_rfl
theorem N_49 : oIn true (.int 0) (Rw 49) = some (.fz (.bl (simp_ 49))) := by kernel_rfl
theorem N_50 : oIn true (.int 0) (Rw 50) = some (.fz (.bl (simp_ 50))) := by kernel_rfl
theorem N_51 : oIn true (.int 0) (Rw 51) = some (.fz (.bl (simp_ 51))) := by kernel_rfl
theorem N_52 : oIn true (.int 0) (Rw 52) = some (.fz (.bl (simp_ 52))) := by kernel_rfl
theorem N_53 : oIn true (.int 0) (Rw 53) = some (.fz (.bl (simp_ 53))) := by kernel_rfl
theorem N_54 : oIn true (.int 0) (Rw 54) = some (.fz (.bl (simp_ 54))) := by kernel_rfl
theorem N_55 : oIn true (.int 0) (Rw 55) = some (.fz (.bl (simp_ 55))) := by kernel_rfl
theorem N_56 : oIn true (.int 0) (Rw 56) = some (.fz (.bl (simp_ 56))) := by kernel_rfl
theorem N_57 : oIn true (.int 0) (Rw 57) = some (.fz (.bl (simp_ 57))) := by kernel_rfl
theorem N_58 : oIn true (.int 0) (Rw 58) = some (.fz (.bl (simp_ 58))) := by kernel_rfl
theorem N_59 : oIn true (.int 0) (Rw 59) = some (.fz (.bl (simp_ 59))) := by kernel_rfl
theorem N_60 : oIn true (.int 0) (Rw 60) = some (.fz (.bl (simp_ 60))) := by kernel_rfl
theorem N_61 : oIn true (.int 0) (Rw 61) = some (.fz (.bl (simp_ 61))) := by kernel_rfl
theorem N_62 : oIn true (.int 0) (Rw 62) = some (.fz (.bl (simp_ 62))) := by kernel_rfl
theorem N_63 : oIn true (.int 0) (Rw 63) = some (.fz (.bl (simp_ 63))) := by kernel_rfl
theorem N_64 : oIn true (.int 0) (Rw 64) = some (.fz (.bl (simp_ 64))) := by kernel_rfl
theorem N_65 : oIn true (.int 0) (Rw 65) = some (.fz (.bl (simp_ 65))) := by kernel_rfl
theorem N_66 : oIn true (.int 0) (Rw 66) = some (.fz (.bl (simp_ 66))) := by kernel_rfl
theorem N_67 : oIn true (.int 0) (Rw 67) = some (.fz (.bl (simp_ 67))) := by kernel_rfl
theorem N_68 : oIn true (.int 0) (Rw 68) = some (.fz (.bl (simp_ 68))) := by kernel_rfl
theorem N_69 : oIn true (.int 0) (Rw 69) = some (.fz (.bl (simp_ 69))) := by kernel_rfl
theorem N_70 : oIn true (.int 0) (Rw 70) = some (.fz (.bl (simp_ 70))) := by kernel_rfl
theorem N_71 : oIn true (.int 0) (Rw 71) = some (.fz (.bl (simp_ 71))) := by kernel_rfl
theorem N_72 : oIn true (.int 0) (Rw 72) = some (.fz (.bl (simp_ 72))) := by kernel_rfl
theorem N_73 : oIn true (.int 0) (Rw 73) = some (.fz (.bl (simp_ 73))) := by kernel_rfl
theorem N_74 : oIn true (.int 0) (Rw 74) = some (.fz (.bl (simp_ 74))) := by kernel_rfl
theorem N_75 : oIn true (.int 0) (Rw 75) = some (.fz (.bl (simp_ 75))) := by kernel_rfl
theorem N_76 : oIn true (.int 0) (Rw 76) = some (.fz (.bl (simp_ 76))) := by kernel_rfl
theorem N_77 : oIn true (.int 0) (Rw 77) = some (.fz (.bl (simp_ 77))) := by kernel_rfl
theorem N_78 : oIn true (.int 0) (Rw 78) = some (.fz (.bl (simp_ 78))) := by kernel_rfl
theorem N_79 : oIn true (.int 0) (Rw 79) = some (.fz (.bl (simp_ 79))) := by kernel_rfl
theorem N_80 : oIn true (.int 0) (Rw 80) = some (.fz (.bl (simp_ 80))) := by kernel_rfl
theorem N_all : ∀ n : Nat, n < 81 → oIn true (.int 0) (Rw n) = some (.fz (.bl (simp_ n)))
  | 0, _ => N_0
  | 1, _ => N_1
  | 2, _ => N_2
  | 3, _ => N_3
  | 4, _ => N_4
  | 5, _ => N_5
  | 6, _ => N_6
  | 7, _ => N_7
  | 8, _ => N_8
  | 9, _ => N_9
  | 10, _ => N_10
  | 11, _ => N_11
  | 12, _ => N_12
  | 13, _ => N_13
  | 14, _ => N_14
  | 15, _ => N_15
  | 16, _ => N_16
  | 17, _ => N_17
  | 18, _ => N_18
  | 19, _ => N_19
  | 20, _ => N_20
  | 21, _ => N_21
  | 22, _ => N_22
  | 23, _ => N_23
  | 24, _ => N_24
  | 25, _ => N_25
  | 26, _ => N_26
  | 27, _ => N_27
  | 28, _ => N_28
  | 29, _ => N_29
  | 30, _ => N_30
  | 31, _ => N_31
  | 32, _ => N_32
  | 33, _ => N_33
  | 34, _ => N_34
  | 35, _ => N_35
  | 36, _ => N_36
  | 37, _ => N_37
  | 38, _ => N_38
  | 39, _ => N_39
  | 40, _ => N_40
  | 41, _ => N_41
  | 42, _ => N_42
  | 43, _ => N_43
  | 44, _ => N_44
  | 45, _ => N_45
  | 46, _ => N_46
  | 47, _ => N_47
  | 48, _ => N_48
  | 49, _ => N_49
  | 50, _ => N_50
  | 51, _ => N_51
  | 52, _ => N_52
  | 53, _ => N_53
  | 54, _ => N_54
  | 55, _ => N_55
  | 56, _ => N_56
  | 57, _ => N_57
  | 58, _ => N_58
  | 59, _ => N_59
  | 60, _ => N_60
  | 61, _ => N_61
  | 62, _ => N_62
  | 63, _ => N_63
  | 64, _ => N_64
  | 65, _ => N_65
  | 66, _ => N_66
  | 67, _ => N_67
  | 68, _ => N_68
  | 69, _ => N_69
  | 70, _ => N_70
  | 71, _ => N_71
  | 72, _ => N_72
  | 73, _ => N_73
  | 74, _ => N_74
  | 75, _ => N_75
  | 76, _ => N_76
  | 77, _ => N_77
  | 78, _ => N_78
  | 79, _ => N_79
  | 80, _ => N_80
  | n + 81, h => absurd h (by omega)
def eIx : VL.Sem Hd := (sBin oMod (sOp (sCall oInt (sCons (sOp (sBin oAdd (sOp (sName 2)) (sOp (sName 6)))) sNil))) (sOp (sC (.int 81))))
def L0 : SS := gSet 7 (sFn F__law_row [.bo] [] (sCons (sOp eIx) sNil))
def ePar : VL.Sem Hd := (sBin oEq (sOp (sBin oMod (sOp (sCall oInt (sCons (sOp (sName 6)) sNil))) (sOp (sC (.int 2))))) (sOp (sC (.int 1))))
def eKept : VL.Sem Hd := (sFn F__law_kept [.io, .bo, .bo] [] (sCons (sOp (sName 1)) (sCons (sOp (sName 7)) (sCons (sOp ePar) sNil))))
def L1_ : SS := gIf (sNotT (sTru (sOp eKept))) (gRet (sC (.bl false))) gNx
def L2_ : SS := gIf (sTru (sOp (sFn F_is_good [.bo] [] (sCons (sOp (sName 7)) sNil)))) (gSeq (gAugN 4 oAddI (sOp (sC (.int 1)))) (gIf (sTb (sBin (oIn true) (sOp (sC (.int 0))) (sOp (sName 7)))) (gAugN 5 oAddI (sOp (sC (.int 1)))) gNx)) gNx
def lb : SS := gSeq L0 (gSeq L1_ L2_)
theorem law6 : g_law_6 = gFor (sRange (sCons (sOp (sName 3)) sNil)) (kName 6) lb := rfl
theorem l0 (z s1 s3 s4 s5 s7 : Slot) (r t : Nat) : L0 [z, s1, .va (.int r), s3, s4, s5, .va (.int (0 + t)), s7] = .nx [z, s1, .va (.int r), s3, s4, s5, .va (.int (0 + t)), .ow (Rw ((r + t) % 81))] := by
  have hn : (r + t) % 81 < 81 := Nat.mod_lt _ (by decide)
  have hi : ((r : Int) + (0 + (t : Int))) % 81 = (((r + t) % 81 : Nat) : Int) := by omega
  have a : (sCons (sOp eIx) sNil) [z, s1, .va (.int r), s3, s4, s5, .va (.int (0 + t)), s7] = .ok [.fz (.int (((r + t) % 81 : Nat) : Int))] [z, s1, .va (.int r), s3, s4, s5, .va (.int (0 + t)), s7] := by
    rw [← hi]
    rfl
  unfold L0
  have c := sFn_rt (f := F__law_row) (ms := [.bo]) (ds := []) (as := [.va (.int (((r + t) % 81 : Nat) : Int))]) (o := true) (d := Rw ((r + t) % 81)) (outs := [.un]) a rfl rfl (R_all _ hn)
  rw [gSet_ok c]
  rfl
theorem l1 (z s2 s3 s4 s5 : Slot) (ps : List Int) (t : Int) (n : Nat) (hn : n < 81) : ∃ ps' : List Int, L1_ [z, .ow (dInts ps), s2, s3, s4, s5, .va (.int t), .ow (Rw n)] = .nx [z, .ow (dInts ps'), s2, s3, s4, s5, .va (.int t), .ow (Rw n)] := by
  obtain ⟨ps', e⟩ := kept_ok n hn ps (decide (t % 2 = 1))
  refine ⟨ps', ?_⟩
  have a : (sCons (sOp (sName 1)) (sCons (sOp (sName 7)) (sCons (sOp ePar) sNil))) [z, .ow (dInts ps), s2, s3, s4, s5, .va (.int t), .ow (Rw n)] = .ok [.slot 1, .slot 7, .fz (.bl (decide (t % 2 = 1)))] [z, .ow (dInts ps), s2, s3, s4, s5, .va (.int t), .ow (Rw n)] := rfl
  have k : eKept [z, .ow (dInts ps), s2, s3, s4, s5, .va (.int t), .ow (Rw n)] = .ok (.fz (.bl true)) [z, .ow (dInts ps'), s2, s3, s4, s5, .va (.int t), .ow (Rw n)] := by
    have c := sFn_rt (f := F__law_kept) (ms := [.io, .bo, .bo]) (ds := []) (as := [.io (dInts ps), .bo (Rw n), .va (.bl (decide (t % 2 = 1)))]) (o := false) (d := .bl true) (outs := [.io (dInts ps'), .un, .un]) a rfl rfl e
    exact c
  have tt : sNotT (sTru (sOp eKept)) [z, .ow (dInts ps), s2, s3, s4, s5, .va (.int t), .ow (Rw n)] = .ok false [z, .ow (dInts ps'), s2, s3, s4, s5, .va (.int t), .ow (Rw n)] := by
    unfold sNotT
    rw [sTru_ok k]
    rfl
  unfold L1_ gIf
  rw [tt]
  rfl
def gd (n : Nat) : Int := if due n = true then 1 else 0
def pd (n : Nat) : Int := if due n = true ∧ simp_ n = true then 1 else 0
theorem l2 (z s1 s2 s3 s6 : Slot) (g p : Int) (n : Nat) (hn : n < 81) : L2_ [z, s1, s2, s3, .va (.int g), .va (.int p), s6, .ow (Rw n)] = .nx [z, s1, s2, s3, .va (.int (g + gd n)), .va (.int (p + pd n)), s6, .ow (Rw n)] := by
  have k : (sFn F_is_good [.bo] [] (sCons (sOp (sName 7)) sNil)) [z, s1, s2, s3, .va (.int g), .va (.int p), s6, .ow (Rw n)] = .ok (.fz (.bl (due n))) [z, s1, s2, s3, .va (.int g), .va (.int p), s6, .ow (Rw n)] := by
    show (match F_is_good [.bo (Rw n)] with
      | .rt o d outs => Res.ok (match o with | true => Hd.own d | false => .fz d) (wbS [.slot 7] outs [z, s1, s2, s3, .va (.int g), .va (.int p), s6, .ow (Rw n)])
      | .ex x outs => .ex x (wbS [.slot 7] outs [z, s1, s2, s3, .va (.int g), .va (.int p), s6, .ow (Rw n)])
      | .bad => .bad) = _
    rw [G_all n hn]
    rfl
  have c : (sTb (sBin (oIn true) (sOp (sC (.int 0))) (sOp (sName 7)))) [z, s1, s2, s3, .va (.int (g + 1)), .va (.int p), s6, .ow (Rw n)] = .ok (simp_ n) [z, s1, s2, s3, .va (.int (g + 1)), .va (.int p), s6, .ow (Rw n)] := by
    show (match oIn true (.int 0) (Rw n) with | some h => Res.ok h [z, s1, s2, s3, .va (.int (g + 1)), .va (.int p), s6, .ow (Rw n)] | none => .bad).bind hdB = _
    rw [N_all n hn]
    rfl
  have tt : sTru (sOp (sFn F_is_good [.bo] [] (sCons (sOp (sName 7)) sNil))) [z, s1, s2, s3, .va (.int g), .va (.int p), s6, .ow (Rw n)] = .ok (due n) [z, s1, s2, s3, .va (.int g), .va (.int p), s6, .ow (Rw n)] := by
    show (((sFn F_is_good [.bo] [] (sCons (sOp (sName 7)) sNil)) [z, s1, s2, s3, .va (.int g), .va (.int p), s6, .ow (Rw n)]).bind fun h S => Res.ok (opnd h) S).bind (fun o S => finT o S) = _
    rw [k]
    rfl
  unfold L2_ gIf
  rw [tt]
  unfold gd pd
  cases hd : due n with
  | false => 
    simp [rS, gNx]
  | true =>
    show (match gAugN 4 oAddI (sOp (sC (.int 1))) [z, s1, s2, s3, .va (.int g), .va (.int p), s6, .ow (Rw n)] with
      | .nx S1 => rS ((sTb (sBin (oIn true) (sOp (sC (.int 0))) (sOp (sName 7)))) S1) (fun b S => if b = true then gAugN 5 oAddI (sOp (sC (.int 1))) S else gNx S)
      | r => r) = _
    have a4 : gAugN 4 oAddI (sOp (sC (.int 1))) [z, s1, s2, s3, .va (.int g), .va (.int p), s6, .ow (Rw n)] = .nx [z, s1, s2, s3, .va (.int (g + 1)), .va (.int p), s6, .ow (Rw n)] := rfl
    rw [a4]
    show rS ((sTb (sBin (oIn true) (sOp (sC (.int 0))) (sOp (sName 7)))) [z, s1, s2, s3, .va (.int (g + 1)), .va (.int p), s6, .ow (Rw n)]) _ = _
    rw [c]
    cases hs : simp_ n with
    | false => simp [rS, gNx]
    | true => simp [rS]; rfl
end VP

set_option Elab.async false
set_option linter.all false
set_option maxRecDepth 100000
set_option maxHeartbeats 4000000
namespace VP
open PySem PySem.Spec PyProof.Rows L2 VL VW
def cg (r : Nat) : Nat → Int
  | 0 => 0
  | i + 1 => cg r i + gd ((r + i) % 81)
def cp (r : Nat) : Nat → Int
  | 0 => 0
  | i + 1 => cp r i + pd ((r + i) % 81)
theorem tot : (List.range 81).all (fun r => decide (cg r 81 = 17) && decide (cp r 81 = 8)) = true := by decide +kernel
theorem loop (z : Slot) (ps : List Int) (r m : Nat) : ∃ (ps' : List Int) (s6 s7 : Slot), forL (kName 6) lb (rgI 0 m) [z, .ow (dInts ps), .va (.int r), .va (.int m), .va (.int 0), .va (.int 0), .un, .un] = .nx [z, .ow (dInts ps'), .va (.int r), .va (.int m), .va (.int (cg r m)), .va (.int (cp r m)), s6, s7] := by
  obtain ⟨S', e, ps', s6, s7, eS⟩ := forL_ix (g := kName 6) (body := lb) (fun i S => ∃ (ps' : List Int) (s6 s7 : Slot), S = [z, .ow (dInts ps'), .va (.int r), .va (.int m), .va (.int (cg r i)), .va (.int (cp r i)), s6, s7]) (rgI 0 m) 0 [z, .ow (dInts ps), .va (.int r), .va (.int m), .va (.int 0), .va (.int 0), .un, .un] ⟨ps, .un, .un, rfl⟩ fun i d S hd ⟨ps1, s6, s7, eS⟩ => by
    obtain ⟨hi, rfl⟩ := rgI_get hd
    subst eS
    have hn : (r + i) % 81 < 81 := Nat.mod_lt _ (by decide)
    obtain ⟨ps2, e1⟩ := l1 z (.va (.int r)) (.va (.int m)) (.va (.int (cg r i))) (.va (.int (cp r i))) ps1 (0 + i) ((r + i) % 81) hn
    refine ⟨_, [z, .ow (dInts ps2), .va (.int r), .va (.int m), .va (.int (cg r i + gd ((r + i) % 81))), .va (.int (cp r i + pd ((r + i) % 81))), .va (.int (0 + i)), .ow (Rw ((r + i) % 81))], rfl, ?_, ps2, .va (.int (0 + i)), .ow (Rw ((r + i) % 81)), ?_⟩
    · have e0 : 0 + i = i := Nat.zero_add i
      rw [e0]
      show lb [z, .ow (dInts ps1), .va (.int r), .va (.int m), .va (.int (cg r i)), .va (.int (cp r i)), .va (.int (0 + i)), s7] = _
      unfold lb
      simp only [gSeq, l0 z (.ow (dInts ps1)) (.va (.int m)) (.va (.int (cg r i))) (.va (.int (cp r i))) s7 r i, e1, l2 z (.ow (dInts ps2)) (.va (.int r)) (.va (.int m)) (.va (.int (0 + i))) (cg r i) (cp r i) _ hn]
    · have e0 : 0 + i + 1 = i + 1 := by omega
      rw [e0]
      rfl
  subst eS
  rw [rgI_length, Nat.zero_add] at e
  exact ⟨ps', s6, s7, e⟩
end VP

set_option Elab.async false
set_option linter.all false
set_option maxRecDepth 100000
set_option maxHeartbeats 4000000
namespace VP
open PySem PySem.Spec PyProof.Rows L2 VL VW
theorem faulty_ok (n : Nat) (hn : n < 81) (ps : List Int) : ∃ (ps' : List Int) (o : Bool) (wd pl : Nat), wd < 7 ∧ pl < 4 ∧ F__law_faulty [.io (dInts ps), .va (Rw n)] = .rt o (fauD n wd pl) [.io (dInts ps'), .un] := by
  obtain ⟨r1, ps1, h10, h11, e1, _⟩ := next_at 0 ps 7 (by decide)
  obtain ⟨r2, ps2, h20, h21, e2, _⟩ := next_at 0 ps1 4 (by decide)
  obtain ⟨wd, rfl⟩ : ∃ wd : Nat, r1 = (wd : Int) := ⟨r1.toNat, by omega⟩
  obtain ⟨pl, rfl⟩ : ∃ pl : Nat, r2 = (pl : Int) := ⟨r2.toNat, by omega⟩
  have hx := X_all n hn (.io (dInts ps2)) wd pl (by omega) (by omega)
  have k0 : g__law_faulty_0 [.io (dInts ps), .va (Rw n), .un, .un, .un] = .nx [.io (dInts ps1), .va (Rw n), .va (.int wd), .un, .un] := by
    unfold g__law_faulty_0
    rw [e_next, gSet_ok (e1 _ rfl)]
    rfl
  have k1 : g__law_faulty_1 [.io (dInts ps1), .va (Rw n), .va (.int wd), .un, .un] = .nx [.io (dInts ps2), .va (Rw n), .va (.int wd), .va (.int pl), .un] := by
    unfold g__law_faulty_1
    rw [e_next, gSet_ok (e2 _ rfl)]
    rfl
  have fin : ∀ (g : SS) (d : D) (e : D), finF (g [.io (dInts ps), .va (Rw n), .un, .un, .un]) = some (.io e, d) → ∃ o, fnF 5 g [.io (dInts ps), .va (Rw n)] = .rt o d [.io e, .un] := fun g d e h => by
    unfold fnF
    show ∃ o, (match g [.io (dInts ps), .va (Rw n), .un, .un, .un] with
      | .nx S => (match outsOf [.io (dInts ps), .va (Rw n)] S with | some r => FR.rt false .non r | none => .bad)
      | .rt o d S => (match outsOf [.io (dInts ps), .va (Rw n)] S with | some r => .rt o d r | none => .bad)
      | .ex x S => (match outsOf [.io (dInts ps), .va (Rw n)] S with | some r => .ex x r | none => .bad)
      | _ => .bad) = .rt o d [.io e, .un]
    generalize g [.io (dInts ps), .va (Rw n), .un, .un, .un] = r at h
    unfold finF at h
    split at h
    · rename_i o d' s x t
      cases h
      exact ⟨o, rfl⟩
    · cases h
  have hg : g__law_faulty = gSeq g__law_faulty_0 (gSeq g__law_faulty_1 GR) := rfl
  obtain ⟨o, e⟩ := fin g__law_faulty (fauD n wd pl) (dInts ps2) (by
    rw [hg]
    unfold gSeq
    rw [k0]
    simp only [k1]
    exact hx)
  exact ⟨ps2, o, wd, pl, by omega, by omega, e⟩
end VP

set_option Elab.async false
set_option linter.all false
set_option maxRecDepth 100000
set_option maxHeartbeats 4000000
namespace VP
open PySem PySem.Spec PyProof.Rows L2 VL VW
def many1 (m0 : Int) : Int := if m0 = 12 then 81 else m0
theorem law7 (z s1 s2 s6 s7 : Slot) (m g p : Int) (h : m = 81 → g = 17 ∧ p = 8) : g_law_7 [z, s1, s2, .va (.int m), .va (.int g), .va (.int p), s6, s7] = .nx [z, s1, s2, .va (.int m), .va (.int g), .va (.int p), s6, s7] := by
  by_cases hm : m = 81
  · obtain ⟨rfl, rfl⟩ := h hm
    subst hm
    rfl
  · simp [g_law_7, gIf, rS, Res.bind, sAndT, sTb, sBin, sOp, sName, sC, fin2, Op.get, Slot.got, opnd, hdB, oCmpI, gEq, gNx, hm]
def eRow : VL.Sem Hd := sFn F__law_row [.bo] [] (sCons (sOp (sName 2)) sNil)
def eFau : VL.Sem Hd := sFn F__law_faulty [.io, .bo] [] (sCons (sOp (sName 1)) (sCons (sOp eRow) sNil))
def eRef : VL.Sem Hd := sFn F__law_refused [.bo] [] (sCons (sOp eFau) sNil)
theorem law8_eq : g_law_8 = gRet (sBin oEq (sOp eRef) (sOp (sC (.str "row")))) := rfl
theorem opnd_hdO (o : Bool) (d : D) : opnd (hdO o d) = .fz d := by cases o <;> rfl
theorem law8 (z s3 s4 s5 s6 s7 : Slot) (ps : List Int) (n : Nat) (hn : n < 81) : ∃ S', g_law_8 [z, .ow (dInts ps), .va (.int n), s3, s4, s5, s6, s7] = .rt false (.bl true) S' ∧ ∃ t, S' = z :: t := by
  obtain ⟨ps', o, wd, pl, hw, hp, e⟩ := faulty_ok n hn ps
  have y := Y_all n hn wd pl hw hp
  have yy : F__law_refused [.va (fauD n wd pl)] = .rt false (.str "row") [.un] := by
    unfold isRow at y
    split at y
    · rename_i q x hx
      rw [hx, of_decide_eq_true y]
    · cases y
  have a : eRow [z, .ow (dInts ps), .va (.int n), s3, s4, s5, s6, s7] = .ok (hdO true (Rw n)) [z, .ow (dInts ps), .va (.int n), s3, s4, s5, s6, s7] :=
    sFn_rt (f := F__law_row) (ms := [.bo]) (ds := []) (os := [.slot 2]) (as := [.va (.int n)]) (o := true) (d := Rw n) (outs := [.un]) rfl rfl rfl (R_all n hn)
  have n1 : sName 1 [z, .ow (dInts ps), .va (.int n), s3, s4, s5, s6, s7] = .ok (.slot 1) [z, .ow (dInts ps), .va (.int n), s3, s4, s5, s6, s7] := rfl
  have b0 : (sCons (sOp (sName 1)) (sCons (sOp eRow) sNil)) [z, .ow (dInts ps), .va (.int n), s3, s4, s5, s6, s7] = .ok [opnd (.slot 1), opnd (hdO true (Rw n))] [z, .ow (dInts ps), .va (.int n), s3, s4, s5, s6, s7] :=
    sCons_ok (sOp_ok n1) (sCons_ok (sOp_ok a) rfl)
  have b1 : eFau [z, .ow (dInts ps), .va (.int n), s3, s4, s5, s6, s7] = .ok (hdO o (fauD n wd pl)) [z, .ow (dInts ps'), .va (.int n), s3, s4, s5, s6, s7] :=
    sFn_rt (f := F__law_faulty) (ms := [.io, .bo]) (ds := []) (os := [.slot 1, .fz (Rw n)]) (as := [.io (dInts ps), .va (Rw n)]) (o := o) (d := fauD n wd pl) (outs := [.io (dInts ps'), .un]) b0 rfl rfl e
  have c0 : (sCons (sOp eFau) sNil) [z, .ow (dInts ps), .va (.int n), s3, s4, s5, s6, s7] = .ok [opnd (hdO o (fauD n wd pl))] [z, .ow (dInts ps'), .va (.int n), s3, s4, s5, s6, s7] :=
    sCons_ok (sOp_ok b1) rfl
  rw [opnd_hdO] at c0
  have c1 : eRef [z, .ow (dInts ps), .va (.int n), s3, s4, s5, s6, s7] = .ok (hdO false (.str "row")) [z, .ow (dInts ps'), .va (.int n), s3, s4, s5, s6, s7] :=
    sFn_rt (f := F__law_refused) (ms := [.bo]) (ds := []) (os := [.fz (fauD n wd pl)]) (as := [.va (fauD n wd pl)]) (o := false) (d := .str "row") (outs := [.un]) c0 rfl rfl yy
  refine ⟨[z, .ow (dInts ps'), .va (.int n), s3, s4, s5, s6, s7], ?_, _, rfl⟩
  have k : sC (.str "row") [z, .ow (dInts ps'), .va (.int n), s3, s4, s5, s6, s7] = .ok (.fz (.str "row")) [z, .ow (dInts ps'), .va (.int n), s3, s4, s5, s6, s7] := rfl
  have fin : (sBin oEq (sOp eRef) (sOp (sC (.str "row")))) [z, .ow (dInts ps), .va (.int n), s3, s4, s5, s6, s7] = .ok (.fz (.bl true)) [z, .ow (dInts ps'), .va (.int n), s3, s4, s5, s6, s7] :=
    sBin_ok (sOp_ok c1) (sOp_ok k) rfl
  rw [law8_eq, gRet_ok fin]
  rfl
end VP

set_option Elab.async false
set_option linter.all false
set_option maxRecDepth 100000
set_option maxHeartbeats 4000000
namespace VW
open PySem PySem.Spec PyProof.Rows L2 VL VP
theorem gSeq_nx {f g : SS} {S S1 : Sl} (h : f S = .nx S1) : gSeq f g S = g S1 := by
  unfold gSeq
  rw [h]
theorem fn_law (g : SS) (ns : List Int) (S' t : Sl) (h : g [.va (.scr ns), .un, .un, .un, .un, .un, .un, .un] = .rt false (.bl true) S') (e : S' = .va (.scr ns) :: t) : fnF 8 g [.va (.scr ns)] = .rt false (.bl true) [.un] := by
  subst e
  unfold fnF
  show (match g [.va (.scr ns), .un, .un, .un, .un, .un, .un, .un] with
      | .nx S => (match outsOf [.va (.scr ns)] S with | some r => FR.rt false .non r | none => .bad)
      | .rt o d S => (match outsOf [.va (.scr ns)] S with | some r => .rt o d r | none => .bad)
      | .ex x S => (match outsOf [.va (.scr ns)] S with | some r => .ex x r | none => .bad)
      | _ => .bad) = _
  rw [h]
  rfl
theorem law_k0 (ns : List Int) (ps : List Int) (hp : F_pool [.va (.scr ns)] = .rt true (dInts ps) [.un]) : g_law_0 [.va (.scr ns), .un, .un, .un, .un, .un, .un, .un] = .nx [.va (.scr ns), .ow (dInts ps), .un, .un, .un, .un, .un, .un] := by
  have a : (sCons (sOp (sName 0)) sNil) [.va (.scr ns), .un, .un, .un, .un, .un, .un, .un] = .ok [.slot 0] [.va (.scr ns), .un, .un, .un, .un, .un, .un, .un] := rfl
  have b : sFn F_pool [.bo] [] (sCons (sOp (sName 0)) sNil) [.va (.scr ns), .un, .un, .un, .un, .un, .un, .un] = .ok (hdO true (dInts ps)) [.va (.scr ns), .un, .un, .un, .un, .un, .un, .un] :=
    sFn_rt (f := F_pool) (ms := [.bo]) (ds := []) (os := [.slot 0]) (as := [.va (.scr ns)]) (o := true) (d := dInts ps) (outs := [.un]) a rfl rfl hp
  unfold g_law_0
  rw [e_pool, gSet_ok b]
  rfl
theorem law_k1 (z : Slot) (ps ps1 : List Int) (r : Int) (e1 : ∀ S : Sl, S[1]? = some (.ow (dInts ps)) → sFn F_next [.io, .bo] [] (sCons (sOp (sName 1)) (sCons (sOp (sC (.int 81))) sNil)) S = .ok (.fz (.int r)) (S.set 1 (.ow (dInts ps1)))) : g_law_1 [z, .ow (dInts ps), .un, .un, .un, .un, .un, .un] = .nx [z, .ow (dInts ps1), .va (.int r), .un, .un, .un, .un, .un] := by
  unfold g_law_1
  rw [e_next, gSet_ok (e1 _ rfl)]
  rfl
theorem law_k2 (z s2 : Slot) (ps ps1 : List Int) (r : Int) (e1 : ∀ S : Sl, S[1]? = some (.ow (dInts ps)) → sFn F_next [.io, .bo] [] (sCons (sOp (sName 1)) (sCons (sOp (sC (.int 12))) sNil)) S = .ok (.fz (.int r)) (S.set 1 (.ow (dInts ps1)))) : g_law_2 [z, .ow (dInts ps), s2, .un, .un, .un, .un, .un] = .nx [z, .ow (dInts ps1), s2, .va (.int (1 + r)), .un, .un, .un, .un] := by
  unfold g_law_2
  have c : sC (.int 1) [z, .ow (dInts ps), s2, .un, .un, .un, .un, .un] = .ok (.fz (.int 1)) [z, .ow (dInts ps), s2, .un, .un, .un, .un, .un] := rfl
  rw [e_next, gSet_ok (sBin_ok (sOp_ok c) (sOp_ok (e1 _ rfl)) rfl)]
  rfl
theorem law_k3 (z s1 s2 : Slot) (r2 : Int) (h20 : 0 ≤ r2) (h21 : r2 < 12) : ∃ m : Nat, m ≤ 81 ∧ g_law_3 [z, s1, s2, .va (.int (1 + r2)), .un, .un, .un, .un] = .nx [z, s1, s2, .va (.int m), .un, .un, .un, .un] := by
  by_cases q : 1 + r2 = 12
  · refine ⟨81, Nat.le_refl _, ?_⟩
    rw [q]
    rfl
  · refine ⟨(1 + r2).toNat, by omega, ?_⟩
    have e : (((1 + r2).toNat : Nat) : Int) = 1 + r2 := by omega
    rw [e]
    simp [g_law_3, gIf, rS, Res.bind, sTb, sBin, sOp, sName, sC, fin2, Op.get, Slot.got, opnd, hdB, oCmpI, gEq, gNx, q]
theorem law_k45 (z s1 s2 s3 : Slot) : g_law_4 [z, s1, s2, s3, .un, .un, .un, .un] = .nx [z, s1, s2, s3, .va (.int 0), .un, .un, .un] ∧ g_law_5 [z, s1, s2, s3, .va (.int 0), .un, .un, .un] = .nx [z, s1, s2, s3, .va (.int 0), .va (.int 0), .un, .un] := ⟨rfl, rfl⟩
theorem for_ok {src : VL.Sem (List D)} {g : Tg} {body : SS} {ds : List D} {S S1 S2 : Sl} (e : src S = .ok ds S1) (e2 : forL g body ds S1 = .nx S2) : gFor src g body S = .nx S2 := by
  unfold gFor
  rw [e]
  exact e2
theorem okR_nat (m : Nat) (hm : m ≤ 81) : okR (m : Int) = true := by
  unfold okR
  rw [Bool.and_eq_true]
  exact ⟨decide_eq_true (by omega), decide_eq_true (by omega)⟩
theorem range_at (S : Sl) (m : Nat) (hm : m ≤ 81) (h : S[3]? = some (.va (.int m))) : (sRange (sCons (sOp (sName 3)) sNil)) S = .ok (rgI 0 m) S := by
  have ok := okR_nat m hm
  have a : sName 3 S = .ok (.slot 3) S := by
    unfold sName
    rw [h]
  have b : sCons (sOp (sName 3)) sNil S = .ok [.slot 3] S := sCons_ok (sOp_ok a) rfl
  have c : getAll [.slot 3] S = some [.int m] := by
    simp [getAll, Op.get, h, Slot.got]
  unfold sRange
  rw [b]
  show (match getAll [.slot 3] S with
    | some ds => rgD ds S
    | none => .bad) = _
  rw [c]
  show (if okR (m : Int) = true then Res.ok (rgI 0 (m : Int).toNat) S else .bad) = _
  rw [if_pos ok, Int.toNat_natCast]
theorem law_k6 (z s1 s2 : Slot) (m : Nat) (hm : m ≤ 81) (S2 : Sl) (el : forL (kName 6) lb (rgI 0 m) [z, s1, s2, .va (.int m), .va (.int 0), .va (.int 0), .un, .un] = .nx S2) : g_law_6 [z, s1, s2, .va (.int m), .va (.int 0), .va (.int 0), .un, .un] = .nx S2 := by
  rw [law6]
  exact for_ok (range_at _ m hm rfl) el
theorem law_k7 (r m : Nat) (h : r < 81) (q : (m : Int) = 81) : cg r m = 17 ∧ cp r m = 8 := by
  have q' : m = 81 := by omega
  subst q'
  have t := List.all_eq_true.mp tot r (List.mem_range.mpr h)
  rw [Bool.and_eq_true] at t
  exact ⟨of_decide_eq_true t.1, of_decide_eq_true t.2⟩
theorem law_seq (g0 g1 g2 g3 g4 g5 g6 g7 g8 : SS) {S0 S1 S2 S3 S4 S5 S6 S7 S8 S9 : Sl} (k0 : g0 S0 = .nx S1) (k1 : g1 S1 = .nx S2) (k2 : g2 S2 = .nx S3) (k3 : g3 S3 = .nx S4) (k4 : g4 S4 = .nx S5) (k5 : g5 S5 = .nx S6) (k6 : g6 S6 = .nx S7) (k7 : g7 S7 = .nx S8) (k8 : g8 S8 = .rt false (.bl true) S9) :
    gSeq g0 (gSeq g1 (gSeq g2 (gSeq g3 (gSeq g4 (gSeq g5 (gSeq g6 (gSeq g7 g8))))))) S0 = .rt false (.bl true) S9 := by
  rw [gSeq_nx k0, gSeq_nx k1, gSeq_nx k2, gSeq_nx k3, gSeq_nx k4, gSeq_nx k5, gSeq_nx k6, gSeq_nx k7]
  exact k8
theorem law_true (ns : List Int) (h : ns.length ≤ 63) : ∃ o outs, F_law [.va (.scr ns)] = .rt o (.bl true) outs := by
  obtain ⟨ps, hp⟩ := pool_ok ns h
  obtain ⟨r1, ps1, h10, h11, _, e1⟩ := next_at 1 ps 81 (by decide)
  obtain ⟨r2, ps2, h20, h21, _, e2⟩ := next_at 1 ps1 12 (by decide)
  obtain ⟨n, rfl⟩ : ∃ n : Nat, r1 = (n : Int) := ⟨r1.toNat, by omega⟩
  obtain ⟨m, hm, k3⟩ := law_k3 (.va (.scr ns)) (.ow (dInts ps2)) (.va (.int n)) r2 h20 h21
  have k45 := law_k45 (.va (.scr ns)) (.ow (dInts ps2)) (.va (.int n)) (.va (.int m))
  obtain ⟨ps3, s6, s7, el⟩ := loop (.va (.scr ns)) ps2 n m
  have k7 := law7 (.va (.scr ns)) (.ow (dInts ps3)) (.va (.int n)) s6 s7 m (cg n m) (cp n m) (law_k7 n m (by omega))
  obtain ⟨S', k8, t, eS⟩ := law8 (.va (.scr ns)) (.va (.int m)) (.va (.int (cg n m))) (.va (.int (cp n m))) s6 s7 ps3 n (by omega)
  exact ⟨false, [.un], fn_law g_law ns S' t (law_seq _ _ _ _ _ _ _ _ _ (law_k0 ns ps hp) (law_k1 _ ps ps1 n e1) (law_k2 _ _ ps1 ps2 r2 e2) k3 k45.1 k45.2 (law_k6 _ _ _ m hm _ el) k7 k8) eS⟩
end VW

set_option Elab.async false
set_option linter.all false
set_option maxRecDepth 100000
set_option maxHeartbeats 0
namespace VW
open PySem PySem.Spec PyProof.Rows L2 VL
theorem run (w : World) : HandSHeadRun.RunEq R (PySem.W.view R.prog [50]) hk ob 6000 lo w := by
  intro os
  kernel_rfl
theorem facts {P : Program} {w : World} {K : PySem.W.Frag} {h : Heap} {mg : Str → Option Value} {f : Addr} (X : K.In h) (G : h.Ns mainGlobals mg) (hfa : mg ("law" : Str) = some (.ref f)) (c : SaysV cs0 fn0 K) :
    ∃ fd : FuncData, (∀ (s : Shared) (v : Value), BindsTo s fd ⟨[v], []⟩ [("_law_script", v)]) ∧ ∀ base : Heap, K.In base → base.Ns mainGlobals mg → FnOk P w K mg base (L2.CX P w) 13 f fd ["_law_script"] (spV (W0 K) 1 F_law) := by
  have Fc : Fx K mg := ⟨⟨h, X, G⟩, c⟩
  obtain ⟨fd, Fd⟩ := c.def_ 37 (d := d_law)
  have e := hfa.symm.trans (gl_law Fc)
  cases e
  have b := FunD.bindsA (ps := ["_law_script"]) Fd fun _ _ _ _ _ _ us hl => match us, hl with | [_], _ => rfl
  exact ⟨fd, fun s v => b s [v] rfl, fun base _ _ => fn_ok (W := W0 K) (k := 12) (g := g_law) (ps := ["_law_script"]) Fd S_law (b_law Fc)⟩
end VW

open PySem PySem.W PySem.Calls PyProof.Rows
theorem PySem.Challenge.cw_bentlines_k00_rows_of_four_holds : PySem.Challenge.rw_bentlines_k00_rows_of_four.Holds := by
  w_on; o_law
  refine HandSHeadRun.head_any (r := OpenLaw.row PySem.Challenge.rw_bentlines_k00_rows_of_four) (q := view (OpenLaw.row PySem.Challenge.rw_bentlines_k00_rows_of_four).prog [50]) (H := VW.hk) (ob := VW.ob) (M := 6000) (loose := VW.lo) (d := HandSHeadRun.topDef (OpenLaw.row PySem.Challenge.rw_bentlines_k00_rows_of_four).prog 50) (kwd := []) VW.ob_eq
    (by kernel_rfl) (fun s => by kernel_rfl) VW.run (by kernel_rfl) (by kernel_rfl) (by kernel_rfl) (by rfl) (by first | assumption | decide +kernel) (by decide +kernel) ⟨rfl, rfl, rfl, rfl, rfl, by decide +kernel⟩ ?hw ?hc
  case hw => w_witness2
  case hc =>
    refine VL.walk_ofV (l := PySem.Challenge.rw_bentlines_k00_rows_of_four) (n := 63) (k := 13) (x := "_law_script") rfl (by decide) (by kernel_rfl) ⟨rfl, by decide, by decide⟩ ?F
    intro w mg fa h Y G hmg0
    obtain ⟨K, KX, c⟩ := Y
    have hmg : mg ("law" : PySem.Str) = some (.ref fa) := by
      have e : (HandSHeadRun.topDef (OpenLaw.row PySem.Challenge.rw_bentlines_k00_rows_of_four).prog 50).name = ("law" : PySem.Str) := by kernel_rfl
      rw [← e]
      exact hmg0
    obtain ⟨fd, hb, hF⟩ := VW.facts (P := (PySem.Challenge.rw_bentlines_k00_rows_of_four).prog) (w := w) KX G hmg c
    exact ⟨K, fd, VL.spV (VW.W0 K) 1 VW.F_law, KX, hb, fun H a ns hl _ hS => VL.law_sp hS (VW.law_true ns hl), hF⟩

