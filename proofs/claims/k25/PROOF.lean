import PyProof.Rows.All
import Wide.All
import OpenK.AllK
import Wide.FinOn
import HandS.ForMost
import HandS.ForExc
import KE.DataCmp
import KE.DataEq
import KE.DataFind
import KE.DataMinMax
import KE.SortData
import HandS.TupAny
import HandS.TryMany
import HandS.WordsExc
import HandS.Flow
import HandS.TupLe
import HandS.IsInst
import HandS.Style
import HandS.Conv
import KE.GoesEnum
import HandS.NoneIn
import HandS.HotCalls
import HandS.ExcInit
import HandS.ExcField
import HandS.Head0
import HandS.Head1
import HandS.Head2
import HandS.HeadEnd
import HandS.HeadHook1
import HandS.HeadHook2
import HandS.Defaults
import HandS.Words
import PySem.Challenge.RW_arrowbench_k25_differences
set_option Elab.async false
set_option linter.all false
set_option autoImplicit false
set_option maxRecDepth 100000
-- PL1
/-! The pure layer: values as trees, slots that own a list, shared cells; its relation to the abstract heap. -/
namespace PL
open PySem PySem.Spec PyProof.Rows L2

/-- a value as a tree: cel k is the k-th shared list or dict, fn x what the module's name x stands for, scr a list that is only read (the script), dcz a dict that is never written again, xcv a caught exception (its place, its dict's, its class, its fields) -/
inductive T where
  | non | bl (b : Bool) | int (i : Int) | str (s : Str)
  | tup (ts : List T) | lst (ts : List T) | scr (ts : List T) | dct (ks : List Key) (ts : List T) | dcz (ks : List Key) (ts : List T)
  | cel (k : Nat) | fn (x : Str) | xcv (a dd : Addr) (x : Str) (ns : List Str) (ts : List T)

section
variable (K : PySem.W.Frag) (mg : Str → Option Value) (ka : List Addr) (G : Hp)
mutual
/-- v denotes t, all lists within frozen in G (cells by their addresses ka) -/
inductive Den : V → T → Prop
  | non : Den .non .non
  | bl (b : Bool) : Den (.bl b) (.bl b)
  | int (i : Int) : Den (.int i) (.int i)
  | str (x : Str) : Den (.str x) (.str x)
  | tup {a : Addr} {vs : List V} {ts : List T} : SqT K G a vs → Dens vs ts → Den (.ref a) (.tup ts)
  | lst {a : Addr} {vs : List V} {ts : List T} : G a = some (.lst vs) → Dens vs ts → Den (.ref a) (.lst ts)
  | scr {a : Addr} {vs : List V} {ts : List T} : SqL K G a vs → Dens vs ts → Den (.ref a) (.scr ts)
  | dct {a : Addr} {kvs : List (Key × V)} {ts : List T} : G a = some (.dK kvs) → Dens (kvs.map (·.2)) ts → Den (.ref a) (.dct (kvs.map (·.1)) ts)
  | dcz {a : Addr} {od : Obj} {kvs : List (Key × V)} {ts : List T} : G a = some (.frz od (.dK kvs)) → Dens (kvs.map (·.2)) ts → Den (.ref a) (.dcz (kvs.map (·.1)) ts)
  | cel {a : Addr} {k : Nat} : ka[k]? = some a → Den (.ref a) (.cel k)
  | fn {f : Addr} {x : Str} : mg x = some (.ref f) → Den (.ref f) (.fn x)
  | xcv {a dd : Addr} {x : Str} {xs : List (Str × V)} {ts : List T} : G dd = some (.xd xs) → Dens (xs.map (·.2)) ts → Den (.ref a) (.xcv a dd x (xs.map (·.1)) ts)
inductive Dens : List V → List T → Prop
  | nil : Dens [] []
  | cons {v : V} {vs : List V} {t : T} {ts : List T} : Den v t → Dens vs ts → Dens (v :: vs) (t :: ts)
end
/-- the object at a in H is t, its parts frozen in G -/
def DenB (H : Hp) (a : Addr) : T → Prop
  | .lst ts => ∃ vs, H a = some (.lst vs) ∧ Dens K mg ka G vs ts
  | .dct ks ts => ∃ kvs, H a = some (.dK kvs) ∧ kvs.map (·.1) = ks ∧ Dens K mg ka G (kvs.map (·.2)) ts
  | _ => False
end

def GLe (G G' : Hp) : Prop := ∀ a o, G a = some o → G' a = some o
def KLe (ka ka' : List Addr) : Prop := ∃ l, ka' = ka ++ l
theorem GLe.refl {G : Hp} : GLe G G := fun _ _ e => e
theorem GLe.trans {G G' G'' : Hp} (h : GLe G G') (h' : GLe G' G'') : GLe G G'' := fun a o e => h' a o (h a o e)
theorem KLe.refl {ka : List Addr} : KLe ka ka := ⟨[], by simp⟩
theorem KLe.trans {a b c : List Addr} : KLe a b → KLe b c → KLe a c := by
  rintro ⟨l, rfl⟩ ⟨m, rfl⟩
  exact ⟨l ++ m, by simp⟩
theorem KLe.get {ka ka' : List Addr} (h : KLe ka ka') {k : Nat} {a : Addr} (e : ka[k]? = some a) : ka'[k]? = some a := by
  obtain ⟨l, rfl⟩ := h
  rw [List.getElem?_append_left (List.getElem?_eq_some_iff.mp e).1]
  exact e
theorem KLe.mem {ka ka' : List Addr} (h : KLe ka ka') {a : Addr} (e : a ∈ ka) : a ∈ ka' := by
  obtain ⟨l, rfl⟩ := h
  exact List.mem_append_left _ e

theorem sqL_mono {K : PySem.W.Frag} {G G' : Hp} (h : GLe G G') {a : Addr} {vs : List V} (e : SqL K G a vs) : SqL K G' a vs := by
  rcases e with (e | ⟨o, e⟩) | e
  · exact .inl (.inl (h _ _ e))
  · exact .inl (.inr ⟨o, h _ _ e⟩)
  · exact .inr e
theorem sqT_mono {K : PySem.W.Frag} {G G' : Hp} (h : GLe G G') {a : Addr} {vs : List V} (e : SqT K G a vs) : SqT K G' a vs := by
  rcases e with (e | ⟨o, e⟩) | e
  · exact .inl (.inl (h _ _ e))
  · exact .inl (.inr ⟨o, h _ _ e⟩)
  · exact .inr e

section
variable {K : PySem.W.Frag} {mg : Str → Option Value} {ka ka' : List Addr} {G G' : Hp}
mutual
theorem Den.mono (hg : GLe G G') (hk : KLe ka ka') : ∀ {v : V} {t : T}, Den K mg ka G v t → Den K mg ka' G' v t
  | _, _, .non => .non
  | _, _, .bl b => .bl b
  | _, _, .int b => .int b
  | _, _, .str b => .str b
  | _, _, .tup h d => .tup (sqT_mono hg h) (Dens.mono hg hk d)
  | _, _, .lst h d => .lst (hg _ _ h) (Dens.mono hg hk d)
  | _, _, .scr h d => .scr (sqL_mono hg h) (Dens.mono hg hk d)
  | _, _, .dct h d => .dct (hg _ _ h) (Dens.mono hg hk d)
  | _, _, .dcz h d => .dcz (hg _ _ h) (Dens.mono hg hk d)
  | _, _, .cel h => .cel (hk.get h)
  | _, _, .fn h => .fn h
  | _, _, .xcv h d => .xcv (hg _ _ h) (Dens.mono hg hk d)
theorem Dens.mono (hg : GLe G G') (hk : KLe ka ka') : ∀ {vs : List V} {ts : List T}, Dens K mg ka G vs ts → Dens K mg ka' G' vs ts
  | _, _, .nil => .nil
  | _, _, .cons h d => .cons (Den.mono hg hk h) (Dens.mono hg hk d)
end
theorem Dens.length : ∀ {vs : List V} {ts : List T}, Dens K mg ka G vs ts → vs.length = ts.length
  | _, _, .nil => rfl
  | _, _, .cons _ d => by simp [Dens.length d]
theorem Dens.get : ∀ {vs : List V} {ts : List T} {i : Nat} {t : T}, Dens K mg ka G vs ts → ts[i]? = some t → ∃ v, vs[i]? = some v ∧ Den K mg ka G v t
  | _, _, i, t, .nil, e => by simp at e
  | _, _, 0, t, .cons h d, e => by simp at e; subst e; exact ⟨_, rfl, h⟩
  | _, _, i + 1, t, .cons h d, e => by simpa using Dens.get (i := i) (t := t) d (by simpa using e)
theorem Dens.getV : ∀ {vs : List V} {ts : List T} {i : Nat} {v : V}, Dens K mg ka G vs ts → vs[i]? = some v → ∃ t, ts[i]? = some t ∧ Den K mg ka G v t
  | _, _, i, t, .nil, e => by simp at e
  | _, _, 0, t, .cons h d, e => by simp at e; subst e; exact ⟨_, rfl, h⟩
  | _, _, i + 1, t, .cons h d, e => by simpa using Dens.getV (i := i) (v := t) d (by simpa using e)
theorem Dens.append : ∀ {vs ws : List V} {ts us : List T}, Dens K mg ka G vs ts → Dens K mg ka G ws us → Dens K mg ka G (vs ++ ws) (ts ++ us)
  | _, _, _, _, .nil, e => e
  | _, _, _, _, .cons h d, e => .cons h (Dens.append d e)
theorem Dens.set {v : V} {t : T} (h : Den K mg ka G v t) : ∀ {vs : List V} {ts : List T} (i : Nat), Dens K mg ka G vs ts → Dens K mg ka G (vs.set i v) (ts.set i t)
  | _, _, _, .nil => .nil
  | _, _, 0, .cons _ d => .cons h d
  | _, _, i + 1, .cons h' d => .cons h' (Dens.set h i d)
theorem Dens.take : ∀ {vs : List V} {ts : List T} (n : Nat), Dens K mg ka G vs ts → Dens K mg ka G (vs.take n) (ts.take n)
  | _, _, 0, _ => .nil
  | _, _, _ + 1, .nil => .nil
  | _, _, n + 1, .cons h d => .cons h (Dens.take n d)
theorem Dens.drop : ∀ {vs : List V} {ts : List T} (n : Nat), Dens K mg ka G vs ts → Dens K mg ka G (vs.drop n) (ts.drop n)
  | _, _, 0, d => d
  | _, _, _ + 1, .nil => .nil
  | _, _, n + 1, .cons _ d => Dens.drop n d
theorem Dens.reverse : ∀ {vs : List V} {ts : List T}, Dens K mg ka G vs ts → Dens K mg ka G vs.reverse ts.reverse
  | _, _, .nil => .nil
  | _, _, .cons h d => by
    rw [List.reverse_cons, List.reverse_cons]
    exact Dens.append (Dens.reverse d) (.cons h .nil)
theorem Dens.erase : ∀ {vs : List V} {ts : List T} (i : Nat), Dens K mg ka G vs ts → Dens K mg ka G (vs.eraseIdx i) (ts.eraseIdx i)
  | _, _, _, .nil => .nil
  | _, _, 0, .cons _ d => d
  | _, _, i + 1, .cons h d => .cons h (Dens.erase i d)
theorem Dens.dropLast {vs : List V} {ts : List T} (d : Dens K mg ka G vs ts) : Dens K mg ka G vs.dropLast ts.dropLast := by
  rw [List.dropLast_eq_take, List.dropLast_eq_take, d.length]
  exact d.take _
theorem DenB.mono {H : Hp} {a : Addr} {t : T} (hg : GLe G G') (hk : KLe ka ka') (h : DenB K mg ka G H a t) : DenB K mg ka' G' H a t := by
  cases t with
  | lst ts => obtain ⟨vs, e, d⟩ := h; exact ⟨vs, e, d.mono hg hk⟩
  | dct ks ts => obtain ⟨vs, e, q, d⟩ := h; exact ⟨vs, e, q, d.mono hg hk⟩
  | _ => exact h
theorem DenB.there {H : Hp} {a : Addr} {t : T} (h : DenB K mg ka G H a t) : ∃ o, H a = some o := by
  cases t with
  | lst ts => obtain ⟨vs, e, d⟩ := h; exact ⟨_, e⟩
  | dct ks ts => obtain ⟨vs, e, q, d⟩ := h; exact ⟨_, e⟩
  | _ => exact h.elim
theorem DenB.at {H H' : Hp} {a : Addr} {t : T} (h : DenB K mg ka G H a t) (k : ∀ o, H a = some o → H' a = some o) : DenB K mg ka G H' a t := by
  cases t with
  | lst ts => obtain ⟨vs, e, d⟩ := h; exact ⟨vs, k _ e, d⟩
  | dct ks ts => obtain ⟨vs, e, q, d⟩ := h; exact ⟨vs, k _ e, q, d⟩
  | _ => exact h
/-- frozen where it stands -/
theorem DenB.den {a : Addr} {t : T} (h : DenB K mg ka G G a t) : Den K mg ka G (.ref a) t := by
  cases t with
  | lst ts => obtain ⟨vs, e, d⟩ := h; exact .lst e d
  | dct ks ts =>
    obtain ⟨vs, e, q, d⟩ := h
    subst q
    exact .dct e d
  | _ => exact h.elim
end

/-! ### slots, states, results -/
inductive Sl where
  | un | va (t : T) | ow (t : T) | xc (c : Str) (fs : List (Str × T))
/-- the slots of the frame, the shared cells -/
structure Ev where
  r : List Sl
  c : List T
inductive Res (α : Type) where
  | st | ok (a : α) (e : Ev) | ex (c : Str) (fs : List (Str × T)) (e : Ev)
abbrev M (α : Type) := Ev → Res α
inductive RV where
  | va (t : T) | ow (t : T) | br (i : Nat)
def M.bd {α β : Type} (m : M α) (f : α → M β) : M β := fun e => match m e with
  | .st => .st
  | .ok a e' => f a e'
  | .ex c fs e' => .ex c fs e'

def Own (s : L2.St) (r : List Sl) (a : Addr) : Prop := ∃ (i : Nat) (t : T), r[i]? = some (.ow t) ∧ s[i]? = some (some (.ref a))
def OwV (s : L2.St) (r : List Sl) (v : V) (q : RV) (a : Addr) : Prop := Own s r a ∨ ∃ t, q = .ow t ∧ v = .ref a

structure Rel (K : PySem.W.Frag) (mg : Str → Option Value) (ka : List Addr) (G H : Hp) (s : L2.St) (e : Ev) : Prop where
  sub : GLe G H
  len : s.length = e.r.length
  va : ∀ (i : Nat) t, e.r[i]? = some (.va t) → ∃ v, s[i]? = some (some v) ∧ Den K mg ka G v t
  ow : ∀ (i : Nat) t, e.r[i]? = some (.ow t) → ∃ a, s[i]? = some (some (.ref a)) ∧ DenB K mg ka G H a t ∧ G a = none ∧ a ∉ ka
  inj : ∀ (i j : Nat) t u a, e.r[i]? = some (.ow t) → e.r[j]? = some (.ow u) → s[i]? = some (some (.ref a)) → s[j]? = some (some (.ref a)) → i = j
  cl : ka.length = e.c.length
  cel : ∀ (k : Nat) t, e.c[k]? = some t → ∃ a, ka[k]? = some a ∧ DenB K mg ka G H a t
  cg : ∀ a, a ∈ ka → G a = none
  nd : ka.Nodup

structure Stp (ka : List Addr) (G H : Hp) (O : Addr → Prop) (ka' : List Addr) (G' H' : Hp) (O' : Addr → Prop) : Prop where
  g : GLe G G'
  k : KLe ka ka'
  keep : ∀ a o, H a = some o → a ∉ ka → ¬ O a → H' a = some o
  gn : ∀ a o, G' a = some o → (∃ o', G a = some o') ∨ H a = none ∨ O a
  on : ∀ a, O' a → O a ∨ H a = none
  kn : ∀ a, a ∈ ka' → a ∈ ka ∨ O a ∨ H a = none
  dom : ∀ a, H' a = none → H a = none

theorem Stp.refl {ka : List Addr} {G H : Hp} {O : Addr → Prop} : Stp ka G H O ka G H O :=
  ⟨GLe.refl, KLe.refl, fun _ _ e _ _ => e, fun a o e => .inl ⟨o, e⟩, fun _ h => .inl h, fun _ h => .inl h, fun _ e => e⟩
theorem Stp.trans {k1 k2 k3 : List Addr} {G1 H1 G2 H2 G3 H3 : Hp} {O1 O2 O3 : Addr → Prop} (a : Stp k1 G1 H1 O1 k2 G2 H2 O2) (b : Stp k2 G2 H2 O2 k3 G3 H3 O3) : Stp k1 G1 H1 O1 k3 G3 H3 O3 where
  g := a.g.trans b.g
  k := a.k.trans b.k
  keep := fun x o e nk no => b.keep x o (a.keep x o e nk no) (fun h => by
      rcases a.kn x h with h | h | h
      · exact nk h
      · exact no h
      · rw [h] at e; cases e) fun h => by
      rcases a.on x h with h | h
      · exact no h
      · rw [h] at e; cases e
  gn := fun x o e => by
    rcases b.gn x o e with ⟨o', h⟩ | h | h
    · exact a.gn x o' h
    · exact .inr (.inl (a.dom x h))
    · rcases a.on x h with h | h
      · exact .inr (.inr h)
      · exact .inr (.inl h)
  on := fun x h => by
    rcases b.on x h with h | h
    · exact a.on x h
    · exact .inr (a.dom x h)
  kn := fun x h => by
    rcases b.kn x h with h | h | h
    · exact a.kn x h
    · rcases a.on x h with h | h
      · exact .inr (.inl h)
      · exact .inr (.inr h)
    · exact .inr (.inr (a.dom x h))
  dom := fun x h => a.dom x (b.dom x h)
/-- less is owned behind -/
theorem Stp.less {ka ka' : List Addr} {G H G' H' : Hp} {O O' O'' : Addr → Prop} (a : Stp ka G H O ka' G' H' O') (h : ∀ x, O'' x → O' x) : Stp ka G H O ka' G' H' O'' :=
  ⟨a.g, a.k, a.keep, a.gn, fun x q => a.on x (h x q), a.kn, a.dom⟩
/-- a new object, untracked so far -/
theorem Stp.new {ka : List Addr} {G H : Hp} {O : Addr → Prop} {p : Addr} {o : HO} (hp : H p = none) : Stp ka G H O ka G (upd H p o) O :=
  ⟨GLe.refl, KLe.refl, fun a u e _ _ => by rw [upd_ne (ne_of_none e hp)]; exact e, fun a o e => .inl ⟨o, e⟩, fun _ h => .inl h, fun _ h => .inl h, fun a e => by
    by_cases z : a = p
    · rw [z]; exact hp
    · rw [upd_ne z] at e; exact e⟩
/-- a new object, frozen at once -/
theorem Stp.newG {ka : List Addr} {G H : Hp} {O : Addr → Prop} {p : Addr} {o : HO} (hs : GLe G H) (hp : H p = none) : Stp ka G H O ka (upd G p o) (upd H p o) O := by
  have hg : G p = none := by
    cases q : G p with
    | none => rfl
    | some u => rw [hs _ _ q] at hp; cases hp
  refine ⟨fun a u e => by rw [upd_ne (ne_of_none e hg)]; exact e, KLe.refl, fun a u e _ _ => by rw [upd_ne (ne_of_none e hp)]; exact e, fun a u e => ?_, fun _ h => .inl h, fun _ h => .inl h, fun a e => by
    by_cases z : a = p
    · rw [z]; exact hp
    · rw [upd_ne z] at e; exact e⟩
  by_cases z : a = p
  · exact .inr (.inl (z ▸ hp))
  · rw [upd_ne z] at e; exact .inl ⟨u, e⟩

section
variable {K : PySem.W.Frag} {mg : Str → Option Value} {ka : List Addr} {G H : Hp} {s : L2.St} {e : Ev}
theorem Rel.gfresh (R : Rel K mg ka G H s e) {p : Addr} (hp : H p = none) : G p = none := by
  cases q : G p with
  | none => rfl
  | some u => rw [R.sub _ _ q] at hp; cases hp
theorem Rel.kfresh (R : Rel K mg ka G H s e) {p : Addr} (hp : H p = none) : p ∉ ka := fun h => by
  obtain ⟨k, hk, ek⟩ := List.getElem_of_mem h
  have hk' : k < e.c.length := by rw [← R.cl]; exact hk
  obtain ⟨a, ea, d⟩ := R.cel k _ (List.getElem?_eq_getElem hk')
  obtain ⟨o, eo⟩ := d.there
  rw [List.getElem?_eq_getElem hk, ek] at ea
  cases ea
  rw [hp] at eo; cases eo
theorem Rel.ofresh (R : Rel K mg ka G H s e) {p : Addr} (hp : H p = none) : ¬ Own s e.r p := fun ⟨i, t, h1, h2⟩ => by
  obtain ⟨a, ea, d, _⟩ := R.ow i t h1
  rw [h2] at ea
  cases ea
  obtain ⟨o, eo⟩ := d.there
  rw [hp] at eo; cases eo
theorem Rel.new (R : Rel K mg ka G H s e) {p : Addr} {o : HO} (hp : H p = none) : Rel K mg ka G (upd H p o) s e where
  sub := fun a u h => by rw [upd_ne (ne_of_none (R.sub _ _ h) hp)]; exact R.sub _ _ h
  len := R.len
  va := R.va
  ow := fun i t h => by
    obtain ⟨a, h1, h2, h3⟩ := R.ow i t h
    exact ⟨a, h1, h2.at fun u q => by rw [upd_ne (ne_of_none q hp)]; exact q, h3⟩
  inj := R.inj
  cl := R.cl
  cel := fun k t h => by
    obtain ⟨a, h1, h2⟩ := R.cel k t h
    exact ⟨a, h1, h2.at fun u q => by rw [upd_ne (ne_of_none q hp)]; exact q⟩
  cg := R.cg
  nd := R.nd
theorem GLe.newG {G : Hp} {p : Addr} {o : HO} (hp : G p = none) : GLe G (upd G p o) := fun a u h => by rw [upd_ne (ne_of_none h hp)]; exact h
/-- freezing what nobody owns -/
theorem Rel.grow (R : Rel K mg ka G H s e) {p : Addr} {o : HO} (hp : H p = some o) (hg : G p = none) (hk : p ∉ ka) (ho : ¬ Own s e.r p) : Rel K mg ka (upd G p o) H s e where
  sub := fun a u h => by
    by_cases z : a = p
    · subst z; rw [upd_same] at h; cases h; exact hp
    · rw [upd_ne z] at h; exact R.sub _ _ h
  len := R.len
  va := fun i t h => by
    obtain ⟨v, h1, h2⟩ := R.va i t h
    exact ⟨v, h1, h2.mono (GLe.newG hg) KLe.refl⟩
  ow := fun i t h => by
    obtain ⟨a, h1, h2, h3, h4⟩ := R.ow i t h
    refine ⟨a, h1, h2.mono (GLe.newG hg) KLe.refl, ?_, h4⟩
    have z : a ≠ p := fun z => ho ⟨i, t, h, z ▸ h1⟩
    rw [upd_ne z]; exact h3
  inj := R.inj
  cl := R.cl
  cel := fun k t h => by
    obtain ⟨a, h1, h2⟩ := R.cel k t h
    exact ⟨a, h1, h2.mono (GLe.newG hg) KLe.refl⟩
  cg := fun a h => by
    have z : a ≠ p := fun z => hk (z ▸ h)
    rw [upd_ne z]; exact R.cg a h
  nd := R.nd
theorem Rel.newG (R : Rel K mg ka G H s e) {p : Addr} {o : HO} (hp : H p = none) : Rel K mg ka (upd G p o) (upd H p o) s e :=
  (R.new hp).grow upd_same (R.gfresh hp) (R.kfresh hp) (R.ofresh hp)
end

/-! ### values of expressions -/
section
variable (K : PySem.W.Frag) (mg : Str → Option Value) (ka : List Addr) (G H : Hp) (s : L2.St) (r : List Sl)
def DV (v : V) : RV → Prop
  | .va t => Den K mg ka G v t
  | .ow t => ∃ a, v = .ref a ∧ DenB K mg ka G H a t ∧ G a = none ∧ a ∉ ka ∧ ¬ Own s r a
  | .br i => s[i]? = some (some v)
end
/-- what is looked at, as it stands -/
def pk (e : Ev) : RV → Option T
  | .va (.cel k) => e.c[k]?
  | .va t => some t
  | .ow t => some t
  | .br i => match e.r[i]? with
    | some (.va (.cel k)) => e.c[k]?
    | some (.va t) => some t
    | some (.ow t) => some t
    | _ => none
/-- frozen -/
def fz (e : Ev) : RV → Option (T × Ev)
  | .va t => some (t, e)
  | .ow t => some (t, e)
  | .br i => match e.r[i]? with
    | some (.va t) => some (t, e)
    | some (.ow t) => some (t, ⟨e.r.set i (.va t), e.c⟩)
    | _ => none
/-- what a look gives: frozen, or an object whose parts are -/
def PDen (K : PySem.W.Frag) (mg : Str → Option Value) (ka : List Addr) (G H : Hp) (v : V) (t : T) : Prop :=
  (Den K mg ka G v t ∧ ∀ k, t ≠ .cel k) ∨ ∃ a, v = .ref a ∧ DenB K mg ka G H a t
section
variable {K : PySem.W.Frag} {mg : Str → Option Value} {ka ka' : List Addr} {G H G' H' : Hp} {s : L2.St} {e e' : Ev} {v : V} {t : T}
theorem pk_va {e : Ev} {t u : T} (h : pk e (.va t) = some u) : (u = t ∧ ∀ k, t ≠ .cel k) ∨ ∃ k, t = .cel k ∧ e.c[k]? = some u := by
  cases t with
  | cel k => exact .inr ⟨k, rfl, h⟩
  | _ => exact .inl ⟨(Option.some.inj h).symm, fun k z => by cases z⟩
theorem Rel.pk_cel (R : Rel K mg ka G H s e) {k : Nat} {u : T} (d : Den K mg ka G v (.cel k)) (h : e.c[k]? = some u) : PDen K mg ka G H v u := by
  cases d with
  | cel ea =>
    obtain ⟨b, ea', d⟩ := R.cel k u h
    rw [ea] at ea'; cases ea'
    exact .inr ⟨_, rfl, d⟩
theorem Rel.pk_den (R : Rel K mg ka G H s e) {t u : T} (d : Den K mg ka G v t) (h : pk e (.va t) = some u) : PDen K mg ka G H v u := by
  rcases pk_va h with ⟨rfl, nc⟩ | ⟨k, rfl, h⟩
  · exact .inl ⟨d, nc⟩
  · exact R.pk_cel d h
theorem Rel.pk (R : Rel K mg ka G H s e) {q : RV} {u : T} (d : DV K mg ka G H s e.r v q) (h : pk e q = some u) : PDen K mg ka G H v u := by
  cases q with
  | va t => exact R.pk_den d h
  | ow t =>
    obtain ⟨a, rfl, d, _⟩ := d
    cases (Option.some.inj h)
    exact .inr ⟨a, rfl, d⟩
  | br i =>
    have hs : s[i]? = some (some v) := d
    unfold PL.pk at h
    dsimp only at h
    cases q : e.r[i]? with
    | none => rw [q] at h; cases h
    | some l =>
      rw [q] at h
      cases l with
      | un => cases h
      | xc c fs => cases h
      | ow t =>
        obtain ⟨a, ea, d, _⟩ := R.ow i t q
        rw [hs] at ea; cases ea
        cases (Option.some.inj h)
        exact .inr ⟨a, rfl, d⟩
      | va t =>
        obtain ⟨v', ev, d⟩ := R.va i t q
        rw [hs] at ev; cases ev
        refine R.pk_den d ?_
        cases t <;> exact h
/-- a value stays a value through a step -/
theorem DV.step {q : RV} (d : DV K mg ka G H s e.r v q) (S : Stp ka G H (OwV s e.r v q) ka' G' H' (Own s e'.r)) (S0 : Stp ka G H (Own s e.r) ka' G' H' (Own s e'.r)) : DV K mg ka' G' H' s e'.r v q := by
  cases q with
  | va t => exact Den.mono S.g S.k d
  | ow t =>
    obtain ⟨a, rfl, d, hg, hk, ho⟩ := d
    obtain ⟨o, eo⟩ := d.there
    have kp : ∀ o, H a = some o → H' a = some o := fun o h => S0.keep a o h hk ho
    refine ⟨a, rfl, (d.at kp).mono S.g S.k, ?_, fun h => ?_, fun h => ?_⟩
    · cases q : G' a with
      | none => rfl
      | some u =>
        rcases S0.gn a u q with ⟨o', h⟩ | h | h
        · rw [hg] at h; cases h
        · rw [h] at eo; cases eo
        · exact absurd h ho
    · rcases S0.kn a h with h | h | h
      · exact hk h
      · exact ho h
      · rw [h] at eo; cases eo
    · rcases S0.on a h with h | h
      · exact ho h
      · rw [h] at eo; cases eo
  | br i => exact d
end
end PL
-- PL2
/-! The pure layer 2: freezing, the judgements of expressions, arguments, names, constants. -/
namespace PL
open PySem PySem.Spec PyProof.Rows L2

def OwT (v : V) (q : RV) (a : Addr) : Prop := ∃ t, q = .ow t ∧ v = .ref a
def OwTs : List V → List RV → Addr → Prop
  | v :: vs, q :: qs, a => OwT v q a ∨ OwTs vs qs a
  | _, _, _ => False
inductive DVs (K : PySem.W.Frag) (mg : Str → Option Value) (ka : List Addr) (G H : Hp) (s : L2.St) (r : List Sl) : List V → List RV → Prop
  | nil : DVs K mg ka G H s r [] []
  | cons {v : V} {q : RV} {vs : List V} {qs : List RV} : DV K mg ka G H s r v q → DVs K mg ka G H s r vs qs → (∀ a, OwT v q a → ¬ OwTs vs qs a) → DVs K mg ka G H s r (v :: vs) (q :: qs)

theorem Stp.frame {ka ka' : List Addr} {G H G' H' : Hp} {O O' : Addr → Prop} (P : Addr → Prop) (a : Stp ka G H O ka' G' H' O') : Stp ka G H (fun x => O x ∨ P x) ka' G' H' (fun x => O' x ∨ P x) :=
  ⟨a.g, a.k, fun x o e nk no => a.keep x o e nk fun h => no (.inl h), fun x o e => (a.gn x o e).imp_right (·.imp_right .inl), fun x h => by
    rcases h with h | h
    · rcases a.on x h with h | h
      · exact .inl (.inl h)
      · exact .inr h
    · exact .inl (.inr h), fun x h => (a.kn x h).imp_right (·.imp_left .inl), a.dom⟩

section
variable {K : PySem.W.Frag} {mg : Str → Option Value} {ka ka' : List Addr} {G H G' H' : Hp} {s : L2.St} {e e' : Ev} {v : V} {q : RV} {vs : List V} {qs : List RV} {t : T} {O O' : Addr → Prop}
theorem DV.stp (d : DV K mg ka G H s e.r v q) (S : Stp ka G H (Own s e.r) ka' G' H' O') (hO : ∀ a, Own s e'.r a → O' a) : DV K mg ka' G' H' s e'.r v q ∧ ∀ a, OwT v q a → ¬ O' a := by
  cases q with
  | va t => exact ⟨Den.mono S.g S.k d, fun a ⟨_, z, _⟩ => by cases z⟩
  | ow t =>
    obtain ⟨a, rfl, d, hg, hk, ho⟩ := d
    obtain ⟨o, eo⟩ := d.there
    have nO : ¬ O' a := fun h => by
      rcases S.on a h with h | h
      · exact ho h
      · rw [h] at eo; cases eo
    refine ⟨⟨a, rfl, (d.at fun o h => S.keep a o h hk ho).mono S.g S.k, ?_, fun h => ?_, fun h => nO (hO a h)⟩, fun b ⟨_, _, z⟩ => by cases z; exact nO⟩
    · cases q : G' a with
      | none => rfl
      | some u =>
        rcases S.gn a u q with ⟨o', h⟩ | h | h
        · rw [hg] at h; cases h
        · rw [h] at eo; cases eo
        · exact absurd h ho
    · rcases S.kn a h with h | h | h
      · exact hk h
      · exact ho h
      · rw [h] at eo; cases eo
  | br i => exact ⟨d, fun a ⟨_, z, _⟩ => by cases z⟩

/-- the part of H at a, taken into G -/
def frzAt (G H : Hp) (a : Addr) : Hp := fun b => if b = a then H a else G b
theorem frzAt_same {G H : Hp} {a : Addr} : frzAt G H a a = H a := if_pos rfl
theorem frzAt_ne {G H : Hp} {a b : Addr} (h : b ≠ a) : frzAt G H a b = G b := if_neg h
theorem frzAt_le {a : Addr} (hg : G a = none) : GLe G (frzAt G H a) := fun b o h => by
  rw [frzAt_ne (ne_of_none h hg)]; exact h
theorem Rel.frz (R : Rel K mg ka G H s e) {a : Addr} {o : HO} (hp : H a = some o) (hg : G a = none) (hk : a ∉ ka) (ho : ¬ Own s e.r a) : Rel K mg ka (frzAt G H a) H s e := by
  have e1 : frzAt G H a = upd G a o := by
    funext b
    by_cases z : b = a
    · subst z; rw [frzAt_same, upd_same]; exact hp
    · rw [frzAt_ne z, upd_ne z]
  rw [e1]
  exact R.grow hp hg hk ho
theorem Rel.lose (R : Rel K mg ka G H s e) {i : Nat} {l : Sl} (hl : ∀ t, l ≠ .ow t) (hv : ∀ t, l = .va t → ∃ v, s[i]? = some (some v) ∧ Den K mg ka G v t) : Rel K mg ka G H s ⟨e.r.set i l, e.c⟩ := by
  have at_ : ∀ {j : Nat} {m : Sl}, (e.r.set i l)[j]? = some m → (j = i ∧ m = l) ∨ (j ≠ i ∧ e.r[j]? = some m) := fun {j m} h => by
    by_cases z : j = i
    · subst z
      by_cases hlt : j < e.r.length
      · rw [List.getElem?_set_self hlt] at h
        exact .inl ⟨rfl, (Option.some.inj h).symm⟩
      · rw [List.getElem?_eq_none (by simpa using hlt)] at h; cases h
    · rw [List.getElem?_set_ne (Ne.symm z)] at h
      exact .inr ⟨z, h⟩
  refine ⟨R.sub, by simpa using R.len, fun j t h => ?_, fun j t h => ?_, fun j k t u a h1 h2 => ?_, R.cl, R.cel, R.cg, R.nd⟩
  · rcases at_ h with ⟨z, y⟩ | ⟨_, y⟩
    · rw [z]; exact hv t y.symm
    · exact R.va j t y
  · rcases at_ h with ⟨z, y⟩ | ⟨_, y⟩
    · exact absurd y.symm (hl t)
    · exact R.ow j t y
  · rcases at_ h1 with ⟨z, y⟩ | ⟨_, y⟩
    · exact absurd y.symm (hl t)
    · rcases at_ h2 with ⟨z2, y2⟩ | ⟨_, y2⟩
      · exact absurd y2.symm (hl u)
      · exact R.inj j k t u a y y2
theorem own_set {r : List Sl} {i : Nat} {l : Sl} (hl : ∀ t, l ≠ .ow t) {a : Addr} (h : Own s (r.set i l) a) : Own s r a ∧ ∀ b, s[i]? = some (some (.ref b)) → (∀ (j : Nat) t u, r[i]? = some (.ow t) → r[j]? = some (.ow u) → s[j]? = some (some (.ref b)) → i = j) → (∃ t, r[i]? = some (.ow t)) → a ≠ b := by
  obtain ⟨j, t, h1, h2⟩ := h
  by_cases z : j = i
  · subst z
    by_cases hlt : j < r.length
    · rw [List.getElem?_set_self hlt] at h1
      exact absurd (Option.some.inj h1) (hl t)
    · rw [List.getElem?_eq_none (by simpa using hlt)] at h1; cases h1
  · rw [List.getElem?_set_ne (Ne.symm z)] at h1
    refine ⟨⟨j, t, h1, h2⟩, fun b hb inj ⟨t', h3⟩ hab => ?_⟩
    subst hab
    exact z (inj j t' t h3 h1 h2).symm
/-- freezing a value -/
theorem Rel.fz (R : Rel K mg ka G H s e) (d : DV K mg ka G H s e.r v q) {t : T} {e' : Ev} (h : fz e q = some (t, e')) :
    ∃ G', Rel K mg ka G' H s e' ∧ Den K mg ka G' v t ∧ Stp ka G H (OwV s e.r v q) ka G' H (Own s e'.r) ∧ (∀ b, ¬ OwV s e.r v q b → G' b = G b) ∧ (∀ b, Own s e'.r b → Own s e.r b) ∧ e'.c = e.c := by
  have stp : ∀ {a : Addr} {e2 : Ev}, G a = none → OwV s e.r v q a → (∀ b, Own s e2.r b → Own s e.r b) → Stp ka G H (OwV s e.r v q) ka (frzAt G H a) H (Own s e2.r) := fun {a e2} hg ho hs =>
    ⟨frzAt_le hg, KLe.refl, fun _ _ x _ _ => x, fun b o x => by
      by_cases z : b = a
      · subst z; exact .inr (.inr ho)
      · rw [frzAt_ne z] at x; exact .inl ⟨o, x⟩, fun b x => .inl (.inl (hs b x)), fun _ x => .inl x, fun _ x => x⟩
  cases q with
  | va t0 =>
    obtain ⟨rfl, rfl⟩ : t0 = t ∧ e = e' := by
      have z := Option.some.inj h
      exact ⟨congrArg Prod.fst z, congrArg Prod.snd z⟩
    exact ⟨G, R, d, Stp.refl.less fun x h => .inl h, fun _ _ => rfl, fun _ h => h, rfl⟩
  | ow t0 =>
    obtain ⟨rfl, rfl⟩ : t0 = t ∧ e = e' := by
      have z := Option.some.inj h
      exact ⟨congrArg Prod.fst z, congrArg Prod.snd z⟩
    obtain ⟨a, rfl, d, hg, hk, ho⟩ := d
    obtain ⟨o, eo⟩ := d.there
    refine ⟨frzAt G H a, R.frz eo hg hk ho, ?_, stp hg (.inr ⟨t0, rfl, rfl⟩) (fun _ h => h), fun b nb => frzAt_ne fun z => nb (.inr ⟨t0, rfl, by rw [z]⟩), fun _ h => h, rfl⟩
    exact ((d.mono (frzAt_le hg) KLe.refl).at fun o h => by rw [frzAt_same]; exact h).den
  | br i =>
    have hs : s[i]? = some (some v) := d
    unfold PL.fz at h
    dsimp only at h
    cases q : e.r[i]? with
    | none => rw [q] at h; cases h
    | some l =>
      rw [q] at h
      cases l with
      | un => cases h
      | xc c fs => cases h
      | va t0 =>
        obtain ⟨rfl, rfl⟩ : t0 = t ∧ e = e' := by
          have z := Option.some.inj h
          exact ⟨congrArg Prod.fst z, congrArg Prod.snd z⟩
        obtain ⟨v', ev, d⟩ := R.va i t0 q
        rw [hs] at ev; cases ev
        exact ⟨G, R, d, Stp.refl.less fun x h => .inl h, fun _ _ => rfl, fun _ h => h, rfl⟩
      | ow t0 =>
        obtain ⟨rfl, rfl⟩ : t0 = t ∧ (⟨e.r.set i (.va t0), e.c⟩ : Ev) = e' := by
          have z := Option.some.inj h
          exact ⟨congrArg Prod.fst z, congrArg Prod.snd z⟩
        obtain ⟨a, ea, db, hg, hk⟩ := R.ow i t0 q
        rw [hs] at ea; cases ea
        obtain ⟨o, eo⟩ := db.there
        have dn : Den K mg ka (frzAt G H a) (.ref a) t0 := ((db.mono (frzAt_le hg) KLe.refl).at fun o h => by rw [frzAt_same]; exact h).den
        have sub : ∀ b, Own s (e.r.set i (.va t0)) b → Own s e.r b := fun b hb => (own_set (fun _ z => by cases z) hb).1
        have ow : Own s e.r a := ⟨i, t0, q, hs⟩
        have no : ¬ Own s (e.r.set i (.va t0)) a := fun hb => (own_set (fun _ z => by cases z) hb).2 a hs (fun j t u h1 h2 h3 => R.inj i j t u a h1 h2 hs h3) ⟨t0, q⟩ rfl
        refine ⟨frzAt G H a, ?_, dn, stp hg (.inl ow) sub, fun b nb => frzAt_ne fun z => nb (.inl (z ▸ ow)), sub, rfl⟩
        -- the slot is given up first, then frozen
        have R1 : Rel K mg ka G H s ⟨e.r.set i .un, e.c⟩ := R.lose (fun _ z => by cases z) fun _ z => by cases z
        have no1 : ¬ Own s (e.r.set i .un) a := fun hb => (own_set (fun _ z => by cases z) hb).2 a hs (fun j t u h1 h2 h3 => R.inj i j t u a h1 h2 hs h3) ⟨t0, q⟩ rfl
        have R2 := R1.frz eo hg hk no1
        have R3 := R2.lose (i := i) (l := .va t0) (fun _ z => by cases z) fun u z => by cases z; exact ⟨_, hs, dn⟩
        simpa using R3
/-- all of them frozen, from the left -/
def fzs (e : Ev) : List RV → Option (List T × Ev)
  | [] => some ([], e)
  | q :: qs => match fz e q with
    | none => none
    | some (t, e1) => match fzs e1 qs with
      | none => none
      | some (ts, e2) => some (t :: ts, e2)
theorem DVs.after {G2 : Hp} {e2 : Ev} {v0 : V} {q0 : RV} (hg : GLe G G2) (hs : ∀ b, ¬ OwV s e.r v0 q0 b → G2 b = G b) (ho : ∀ b, Own s e2.r b → Own s e.r b) : ∀ {vs : List V} {qs : List RV}, DVs K mg ka G H s e.r vs qs → (∀ a, OwT v0 q0 a → ¬ OwTs vs qs a) →
    DVs K mg ka G2 H s e2.r vs qs
  | _, _, .nil, _ => .nil
  | _, _, .cons (v := v) (q := q) d ds ni, nt => by
    refine .cons ?_ (DVs.after hg hs ho ds fun a h z => nt a h (.inr z)) ni
    cases q with
    | va t => exact Den.mono hg KLe.refl d
    | ow t =>
      obtain ⟨a, rfl, d, hga, hk, hoa⟩ := d
      refine ⟨a, rfl, d.mono hg KLe.refl, ?_, hk, fun h => hoa (ho a h)⟩
      rw [hs a fun h => by
        rcases h with h | h
        · exact hoa h
        · exact nt a h (.inl ⟨t, rfl, rfl⟩)]
      exact hga
    | br i => exact d
theorem Rel.fzs : ∀ {vs : List V} {qs : List RV} {G : Hp} {e : Ev}, Rel K mg ka G H s e → DVs K mg ka G H s e.r vs qs → ∀ {ts : List T} {e' : Ev}, fzs e qs = some (ts, e') →
    ∃ G', Rel K mg ka G' H s e' ∧ Dens K mg ka G' vs ts ∧ Stp ka G H (fun a => Own s e.r a ∨ OwTs vs qs a) ka G' H (Own s e'.r) ∧ e'.c = e.c
  | _, _, G, e, R, .nil, ts, e', h => by
    obtain ⟨rfl, rfl⟩ : [] = ts ∧ e = e' := by
      have z := Option.some.inj h
      exact ⟨congrArg Prod.fst z, congrArg Prod.snd z⟩
    exact ⟨G, R, .nil, Stp.refl.less fun x h => .inl h, rfl⟩
  | _, _, G, e, R, .cons (v := v) (q := q) (vs := vs) (qs := qs) d ds ni, ts, e', h => by
    unfold PL.fzs at h
    cases h1 : PL.fz e q with
    | none => rw [h1] at h; cases h
    | some p =>
      obtain ⟨t, e1⟩ := p
      rw [h1] at h
      dsimp only at h
      cases h2 : PL.fzs e1 qs with
      | none => rw [h2] at h; cases h
      | some p2 =>
        obtain ⟨us, e2⟩ := p2
        rw [h2] at h
        dsimp only at h
        obtain ⟨rfl, rfl⟩ : t :: us = ts ∧ e2 = e' := by
          have z := Option.some.inj h
          exact ⟨congrArg Prod.fst z, congrArg Prod.snd z⟩
        obtain ⟨G1, R1, d1, S1, g1, o1, c1⟩ := R.fz d h1
        have ds1 := DVs.after (e2 := e1) S1.g g1 o1 ds ni
        obtain ⟨G2, R2, d2, S2, c2⟩ := Rel.fzs R1 ds1 h2
        refine ⟨G2, R2, .cons (d1.mono S2.g S2.k) d2, ?_, c2.trans c1⟩
        have S1' := (S1.frame (OwTs vs qs))
        refine ⟨S1.g.trans S2.g, KLe.refl, fun _ _ x _ _ => x, fun b o x => ?_, fun b x => ?_, fun _ x => .inl x, fun _ x => x⟩
        · rcases S2.gn b o x with ⟨o', h⟩ | h | h | h
          · rcases S1.gn b o' h with h | h | h | h
            · exact .inl h
            · exact .inr (.inl h)
            · exact .inr (.inr (.inl h))
            · exact .inr (.inr (.inr (.inl h)))
          · exact .inr (.inl h)
          · exact .inr (.inr (.inl (o1 b h)))
          · exact .inr (.inr (.inr (.inr h)))
        · rcases S2.on b x with (h | h) | h
          · exact .inl (.inl (o1 b h))
          · exact .inl (.inr (.inr h))
          · exact .inr h
end

/-! ### the judgements -/
/-- an exception of the class c, its fields fs, frozen in G -/
def DX (K : PySem.W.Frag) (mg : Str → Option Value) (ka : List Addr) (G : Hp) (cls : Value) (d : Option Addr) (c : Str) (fs : List (Str × T)) : Prop :=
  ∃ C, cls = .ref C ∧ mg c = some (.ref C) ∧ (fs = [] ∨ ∃ dx xs, d = some dx ∧ G dx = some (.xd xs) ∧ xs.map (·.1) = fs.map (·.1) ∧ Dens K mg ka G (xs.map (·.2)) (fs.map (·.2)))
section
variable (X : Cx) (W : WX) (ka : List Addr) (G H : Hp) (s : L2.St) (O : Addr → Prop)
def XPo (c : Str) (fs : List (Str × T)) (e : Ev) : Prop := ∀ cls d G' ka' H' s', Rel X.K X.mg ka' G' H' s' e → Stp ka G H O ka' G' H' (Own s' e.r) → DX X.K X.mg ka' G' cls d c fs → W cls d s' H'
def EPo (q : Res RV) (Q : VK) : Prop := match q with
  | .st => False
  | .ok r e => ∀ v G' ka' H', Rel X.K X.mg ka' G' H' s e → Stp ka G H O ka' G' H' (OwV s e.r v r) → DV X.K X.mg ka' G' H' s e.r v r → Q v H'
  | .ex c fs e => XPo X W ka G H O c fs e
def APo (q : Res (List RV)) (Q : List V → Hp → Prop) : Prop := match q with
  | .st => False
  | .ok rs e => ∀ vs G' ka' H', Rel X.K X.mg ka' G' H' s e → Stp ka G H O ka' G' H' (fun a => Own s e.r a ∨ OwTs vs rs a) → DVs X.K X.mg ka' G' H' s e.r vs rs → Q vs H'
  | .ex c fs e => XPo X W ka G H O c fs e
def TPo (q : Res Bool) (Q : Bool → Hp → Prop) : Prop := match q with
  | .st => False
  | .ok b e => ∀ G' ka' H', Rel X.K X.mg ka' G' H' s e → Stp ka G H O ka' G' H' (Own s e.r) → Q b H'
  | .ex c fs e => XPo X W ka G H O c fs e
end
structure JE (X : Cx) (W : WX) (e : Expr) (m : M RV) : Prop where
  ex : ∃ t : TE, PE X e t ∧ ∀ ka G H s E Q, Rel X.K X.mg ka G H s E → EPo X W ka G H s (Own s E.r) (m E) Q → t s H Q
structure JA (X : Cx) (W : WX) (es : List Expr) (m : M (List RV)) : Prop where
  ex : ∃ t : TA, PA X es t ∧ ∀ ka G H s E Q, Rel X.K X.mg ka G H s E → APo X W ka G H s (Own s E.r) (m E) Q → t s H Q
structure JT (X : Cx) (W : WX) (e : Expr) (m : M Bool) : Prop where
  ex : ∃ t : TT, PT X e t ∧ ∀ ka G H s E Q, Rel X.K X.mg ka G H s E → TPo X W ka G H s (Own s E.r) (m E) Q → t s H Q
/-- a test in and, or -/
structure JW (X : Cx) (W : WX) (e : Expr) (m : M Bool) : Prop where
  ex : ∃ t : TT, PW X e t ∧ ∀ ka G H s E Q, Rel X.K X.mg ka G H s E → TPo X W ka G H s (Own s E.r) (m E) Q → t s H Q
theorem JW.jt {X : Cx} {W : WX} {e : Expr} {m : M Bool} (h : JW X W e m) : JT X W e m := by
  obtain ⟨t, h1, h2⟩ := h.ex
  exact ⟨t, h1.pt, h2⟩
section
variable {X : Cx} {W : WX} {ka ka' : List Addr} {G H G' H' : Hp} {s : L2.St} {O O' : Addr → Prop} {Q : VK} {e : Ev}
/-- from a later state -/
theorem XPo.later {c : Str} {fs : List (Str × T)} (S : Stp ka G H O ka' G' H' O') (h : XPo X W ka G H O c fs e) : XPo X W ka' G' H' O' c fs e := fun cls d G2 k2 H2 s2 R S2 D => h cls d G2 k2 H2 s2 R (S.trans S2) D
theorem EPo.later {q : Res RV} (S : Stp ka G H O ka' G' H' O') (h : EPo X W ka G H s O q Q) : EPo X W ka' G' H' s O' q Q := by
  cases q with
  | st => exact h
  | ok r e => exact fun v G2 k2 H2 R S2 D => h v G2 k2 H2 R (S.trans S2) D
  | ex c fs e => exact XPo.later S h
theorem APo.later {q : Res (List RV)} {Q : List V → Hp → Prop} (S : Stp ka G H O ka' G' H' O') (h : APo X W ka G H s O q Q) : APo X W ka' G' H' s O' q Q := by
  cases q with
  | st => exact h
  | ok r e => exact fun v G2 k2 H2 R S2 D => h v G2 k2 H2 R (S.trans S2) D
  | ex c fs e => exact XPo.later S h
theorem TPo.later {q : Res Bool} {Q : Bool → Hp → Prop} (S : Stp ka G H O ka' G' H' O') (h : TPo X W ka G H s O q Q) : TPo X W ka' G' H' s O' q Q := by
  cases q with
  | st => exact h
  | ok r e => exact fun G2 k2 H2 R S2 => h G2 k2 H2 R (S.trans S2)
  | ex c fs e => exact XPo.later S h
end

/-! ### names, constants -/
def mVar (i : Nat) : M RV := fun e => match e.r[i]? with
  | some (.va t) => .ok (.va t) e
  | some (.ow _) => .ok (.br i) e
  | _ => .st
def mC (t : T) : M RV := fun e => .ok (.va t) e
section
variable {X : Cx} {W : WX} {pos : Pos}
theorem je_var {i : Nat} {x : Str} (hN : X.N[i]? = some x) (hv : Vis X.env.scope x) (hd : (x == ("__debug__" : Str)) = false := by decide) (hcd : (x == ("__classdict__" : Str)) = false := by decide) : JE X W (.Name x pos) (mVar i) := by
  refine ⟨tVar i, pe_var hN hv hd hcd, fun ka G H s E Q R h => ?_⟩
  unfold mVar at h
  cases q : E.r[i]? with
  | none => rw [q] at h; exact h.elim
  | some l =>
    rw [q] at h
    cases l with
    | un => exact h.elim
    | xc c fs => exact h.elim
    | va t =>
      obtain ⟨v, ev, d⟩ := R.va i t q
      exact ⟨v, ev, h v G ka H R (Stp.refl.less fun a x => x.elim id fun ⟨_, z, _⟩ => by cases z) d⟩
    | ow t =>
      obtain ⟨a, ea, d⟩ := R.ow i t q
      exact ⟨_, ea, h _ G ka H R (Stp.refl.less fun a x => x.elim id fun ⟨_, z, _⟩ => by cases z) ea⟩
theorem je_c {e : Expr} {v : V} {t : T} (h : PE X e (tC v)) (d : ∀ ka G, Den X.K X.mg ka G v t) : JE X W e (mC t) :=
  ⟨tC v, h, fun ka G H s E Q R h => h v G ka H R (Stp.refl.less fun a x => x.elim id fun ⟨_, z, _⟩ => by cases z) (d ka G)⟩
theorem je_int {i : Int} {j} : JE X W (.Constant (.int i) j pos) (mC (.int i)) := je_c pe_int fun _ _ => .int i
theorem je_bl {b : Bool} {j} : JE X W (.Constant (.bool b) j pos) (mC (.bl b)) := je_c pe_bl fun _ _ => .bl b
theorem je_non {j} : JE X W (.Constant .none j pos) (mC .non) := je_c pe_non fun _ _ => .non
theorem je_str {x : Str} {j} : JE X W (.Constant (.str x) j pos) (mC (.str x)) := je_c pe_str fun _ _ => .str x
/-- a module's int -/
theorem je_gint {x : Str} {i : Int} (hg : Gl X x) (hm : ∃ t, X.mg x = some (.int i t)) (hd : (x == ("__debug__" : Str)) = false := by decide) : JE X W (.Name x pos) (mC (.int i)) := by
  obtain ⟨t, hm⟩ := hm
  exact je_c (pe_glob (v := .int i) hg hm ⟨t, rfl⟩ hd) fun _ _ => .int i
/-- a module's def or class, as a value -/
theorem je_gfn {x : Str} {f : Addr} (hg : Gl X x) (hm : X.mg x = some (.ref f)) (hd : (x == ("__debug__" : Str)) = false := by decide) : JE X W (.Name x pos) (mC (.fn x)) :=
  je_c (pe_glob (v := .ref f) hg hm rfl hd) fun _ _ => .fn hm
end

/-! ### arguments -/
def mNil : M (List RV) := fun e => .ok [] e
def mCons (m : M RV) (ms : M (List RV)) : M (List RV) := m.bd fun q => ms.bd fun qs e => .ok (q :: qs) e
section
variable {X : Cx} {W : WX} {pos : Pos} {e : Expr} {es : List Expr} {m : M RV} {ms : M (List RV)}
theorem ja_nil : JA X W [] mNil := ⟨tNil, pa_nil, fun ka G H s E Q R h => h [] G ka H R (Stp.refl.less fun a x => x.elim id False.elim) .nil⟩
/-- the rest behind a value -/
theorem behind {ka ka1 ka2 : List Addr} {G H G1 H1 G2 H2 : Hp} {O : Addr → Prop} {s : L2.St} {E1 E2 : Ev} {v : V} {q : RV} {P : Addr → Prop} (S1 : Stp ka G H O ka1 G1 H1 (OwV s E1.r v q)) (d1 : DV X.K X.mg ka1 G1 H1 s E1.r v q)
    (S2 : Stp ka1 G1 H1 (Own s E1.r) ka2 G2 H2 (fun a => Own s E2.r a ∨ P a)) : DV X.K X.mg ka2 G2 H2 s E2.r v q ∧ (∀ a, OwT v q a → ¬ P a) ∧ Stp ka G H O ka2 G2 H2 (fun a => Own s E2.r a ∨ (OwT v q a ∨ P a)) := by
  obtain ⟨d2, n2⟩ := d1.stp (e' := E2) S2 fun a x => .inl x
  refine ⟨d2, fun a x y => n2 a x (.inr y), (S1.trans (S2.frame (OwT v q))).less fun a x => ?_⟩
  rcases x with x | x | x
  · exact .inl (.inl x)
  · exact .inr x
  · exact .inl (.inr x)
theorem ja_cons (ha : JE X W e m) (hr : JA X W es ms) (hs : starEach (e :: es) X.env = (false, eval e X.env) :: starEach es X.env := by rfl) : JA X W (e :: es) (mCons m ms) := by
  obtain ⟨t1, p1, q1⟩ := ha.ex
  obtain ⟨t2, p2, q2⟩ := hr.ex
  refine ⟨tCons t1 t2, pa_cons p1 p2 hs, fun ka G H s E Q R h => q1 ka G H s E _ R ?_⟩
  unfold mCons M.bd at h
  cases hm : m E with
  | st => rw [hm] at h; exact h.elim
  | ex c fs e1 => rw [hm] at h; exact h
  | ok r E1 =>
    rw [hm] at h
    dsimp only at h
    intro v G1 ka1 H1 R1 S1 D1
    refine q2 ka1 G1 H1 s E1 _ R1 ?_
    have S1' : Stp ka G H (Own s E.r) ka1 G1 H1 (Own s E1.r) := S1.less fun a x => .inl x
    cases hm2 : ms E1 with
    | st => rw [hm2] at h; exact h.elim
    | ex c fs e1 => rw [hm2] at h; exact XPo.later S1' h
    | ok rs E2 =>
      rw [hm2] at h
      intro vs G2 ka2 H2 R2 S2 D2
      obtain ⟨d, n, S⟩ := behind S1 D1 S2
      exact h (v :: vs) G2 ka2 H2 R2 S (.cons d D2 n)
end
end PL
-- PL3
/-! The pure layer 3: data, operators, displays, subscripts. -/
namespace PL
open PySem PySem.Spec PyProof.Rows L2 PySem.SeqAt

/-! ### data -/
mutual
def T.toD : T → PyData
  | .non => .none
  | .bl b => .bool b
  | .int i => .int i
  | .str x => .str x
  | .tup ts => .tuple (toDs ts)
  | .lst ts => .list (toDs ts)
  | .scr _ => .none
  | .dct _ _ => .none
  | .dcz _ _ => .none
  | .cel _ => .none
  | .fn _ => .none
  | .xcv _ _ _ _ _ => .none
def toDs : List T → List PyData
  | [] => []
  | t :: ts => t.toD :: toDs ts
end
mutual
/-- data at most n deep -/
def T.isD : T → Nat → Bool
  | .non, _ => true
  | .bl _, _ => true
  | .int _, _ => true
  | .str _, _ => true
  | .tup ts, n => decide (n ≠ 0) && isDs ts (n - 1)
  | .lst ts, n => decide (n ≠ 0) && isDs ts (n - 1)
  | .dct _ _, _ => false
  | .dcz _ _, _ => false
  | .scr _, _ => false
  | .cel _, _ => false
  | .fn _, _ => false
  | .xcv _ _ _ _ _, _ => false
def isDs : List T → Nat → Bool
  | [], _ => true
  | t :: ts, n => t.isD n && isDs ts n
end
theorem toDs_map : ∀ ts : List T, toDs ts = ts.map T.toD
  | [] => rfl
  | t :: ts => by rw [toDs, toDs_map ts, List.map_cons]
theorem isDs_all (n : Nat) : ∀ ts : List T, isDs ts n = ts.all fun t => t.isD n
  | [] => rfl
  | t :: ts => by rw [isDs, isDs_all n ts, List.all_cons]
mutual
theorem isD_depth : ∀ (t : T) (n : Nat), t.isD n = true → t.toD.depth ≤ n ∧ t.toD.plain = true
  | .non, n, _ => ⟨by simp [T.toD, PyData.depth], rfl⟩
  | .bl _, n, _ => ⟨by simp [T.toD, PyData.depth], rfl⟩
  | .int _, n, _ => ⟨by simp [T.toD, PyData.depth], rfl⟩
  | .str _, n, _ => ⟨by simp [T.toD, PyData.depth], rfl⟩
  | .tup ts, n, h => by
    rw [T.isD, Bool.and_eq_true, decide_eq_true_eq] at h
    obtain ⟨h1, h2⟩ := isDs_depth ts (n - 1) h.2
    have := h.1
    simp only [T.toD, PyData.depth, PyData.plain]
    exact ⟨by omega, h2⟩
  | .lst ts, n, h => by
    rw [T.isD, Bool.and_eq_true, decide_eq_true_eq] at h
    obtain ⟨h1, h2⟩ := isDs_depth ts (n - 1) h.2
    have := h.1
    simp only [T.toD, PyData.depth, PyData.plain]
    exact ⟨by omega, h2⟩
  | .dct _ _, n, h => by cases h
  | .dcz _ _, n, h => by cases h
  | .scr _, n, h => by cases h
  | .cel _, n, h => by cases h
  | .fn _, n, h => by cases h
  | .xcv _ _ _ _ _, n, h => by cases h
theorem isDs_depth : ∀ (ts : List T) (n : Nat), isDs ts n = true → PyData.depthAll (toDs ts) ≤ n ∧ PyData.plainAll (toDs ts) = true
  | [], n, _ => ⟨by simp [toDs, PyData.depthAll], rfl⟩
  | t :: ts, n, h => by
    rw [isDs, Bool.and_eq_true] at h
    obtain ⟨h1, h2⟩ := isD_depth t n h.1
    obtain ⟨h3, h4⟩ := isDs_depth ts n h.2
    simp only [toDs, PyData.depthAll, PyData.plainAll, Bool.and_eq_true]
    exact ⟨Nat.max_le.mpr ⟨h1, h3⟩, h2, h4⟩
end
section
variable {K : PySem.W.Frag} {mg : Str → Option Value} {ka : List Addr} {G H : Hp}
mutual
theorem Den.dp (hg : GLe G H) : ∀ {v : V} (t : T) (n : Nat), t.isD n = true → Den K mg ka G v t → Dp K H v t.toD
  | _, .non, _, _, .non => .non
  | _, .bl _, _, _, .bl b => .bl b
  | _, .int _, _, _, .int i => .int i
  | _, .str _, _, _, .str x => .str x
  | _, .tup ts, n, h, .tup q d => by
    rw [T.isD, Bool.and_eq_true] at h
    simp only [T.toD]
    exact .tup (sqT_mono hg q) (Dens.dp hg ts _ h.2 d)
  | _, .lst ts, n, h, .lst q d => by
    rw [T.isD, Bool.and_eq_true] at h
    simp only [T.toD]
    exact .lst (SqL.of (hg _ _ q)) (Dens.dp hg ts _ h.2 d)
  | _, .dct _ _, _, h, _ => by cases h
  | _, .dcz _ _, _, h, _ => by cases h
  | _, .scr _, _, h, _ => by cases h
  | _, .cel _, _, h, _ => by cases h
  | _, .fn _, _, h, _ => by cases h
  | _, .xcv _ _ _ _ _, _, h, _ => by cases h
theorem Dens.dp (hg : GLe G H) : ∀ {vs : List V} (ts : List T) (n : Nat), isDs ts n = true → Dens K mg ka G vs ts → DpAll K H vs (toDs ts)
  | _, [], _, _, .nil => .nil
  | _, t :: ts, n, h, .cons d ds => by
    rw [isDs, Bool.and_eq_true] at h
    rw [toDs]
    exact .cons (Den.dp hg t n h.1 d) (Dens.dp hg ts n h.2 ds)
end
theorem PDen.dp (hg : GLe G H) {v : V} {t : T} {n : Nat} (h : t.isD n = true) (d : PDen K mg ka G H v t) : Dp K H v t.toD := by
  rcases d with ⟨d, _⟩ | ⟨a, rfl, d⟩
  · exact d.dp hg t n h
  · cases t with
    | lst ts =>
      obtain ⟨vs, e, d⟩ := d
      rw [T.isD, Bool.and_eq_true] at h
      simp only [T.toD]
      exact .lst (SqL.of e) (Dens.dp hg ts _ h.2 d)
    | dct ks ts => cases h
    | _ => exact d.elim
/-- a list as it is looked at -/
theorem PDen.seqL (hg : GLe G H) {v : V} {ts : List T} (d : PDen K mg ka G H v (.lst ts)) : ∃ a vs, v = .ref a ∧ H a = some (.lst vs) ∧ Dens K mg ka G vs ts := by
  rcases d with ⟨d, _⟩ | ⟨a, rfl, d⟩
  · cases d with
    | lst q d => exact ⟨_, _, rfl, hg _ _ q, d⟩
  · obtain ⟨vs, e, d⟩ := d
    exact ⟨_, _, rfl, e, d⟩
theorem PDen.seqS (hg : GLe G H) {v : V} {ts : List T} (d : PDen K mg ka G H v (.scr ts)) : ∃ a vs, v = .ref a ∧ SqL K H a vs ∧ Dens K mg ka G vs ts := by
  rcases d with ⟨d, _⟩ | ⟨a, rfl, d⟩
  · cases d with
    | scr q d => exact ⟨_, _, rfl, sqL_mono hg q, d⟩
  · exact d.elim
theorem PDen.seqT (hg : GLe G H) {v : V} {ts : List T} (d : PDen K mg ka G H v (.tup ts)) : ∃ a vs, v = .ref a ∧ SqT K H a vs ∧ Dens K mg ka G vs ts := by
  rcases d with ⟨d, _⟩ | ⟨a, rfl, d⟩
  · cases d with
    | tup q d => exact ⟨_, _, rfl, sqT_mono hg q, d⟩
  · exact d.elim
theorem PDen.dict (hg : GLe G H) {v : V} {ks : List Key} {ts : List T} (d : PDen K mg ka G H v (.dct ks ts)) : ∃ a kvs, v = .ref a ∧ H a = some (.dK kvs) ∧ kvs.map (·.1) = ks ∧ Dens K mg ka G (kvs.map (·.2)) ts := by
  rcases d with ⟨d, _⟩ | ⟨a, rfl, d⟩
  · cases d with
    | dct q d => exact ⟨_, _, rfl, hg _ _ q, rfl, d⟩
  · obtain ⟨vs, e, q, d⟩ := d
    exact ⟨_, _, rfl, e, q, d⟩
theorem PDen.dictz (hg : GLe G H) {v : V} {ks : List Key} {ts : List T} (d : PDen K mg ka G H v (.dcz ks ts)) : ∃ a od kvs, v = .ref a ∧ H a = some (.frz od (.dK kvs)) ∧ kvs.map (·.1) = ks ∧ Dens K mg ka G (kvs.map (·.2)) ts := by
  rcases d with ⟨d, _⟩ | ⟨a, rfl, d⟩
  · cases d with
    | dcz q d => exact ⟨_, _, _, rfl, hg _ _ q, rfl, d⟩
  · exact d.elim
theorem PDen.int {v : V} {i : Int} (d : PDen K mg ka G H v (.int i)) : v = .int i := by
  rcases d with ⟨d, _⟩ | ⟨a, rfl, d⟩
  · cases d; rfl
  · exact d.elim
theorem PDen.bl {v : V} {i : Bool} (d : PDen K mg ka G H v (.bl i)) : v = .bl i := by
  rcases d with ⟨d, _⟩ | ⟨a, rfl, d⟩
  · cases d; rfl
  · exact d.elim
theorem PDen.str {v : V} {i : Str} (d : PDen K mg ka G H v (.str i)) : v = .str i := by
  rcases d with ⟨d, _⟩ | ⟨a, rfl, d⟩
  · cases d; rfl
  · exact d.elim
theorem PDen.non {v : V} (d : PDen K mg ka G H v .non) : v = .non := by
  rcases d with ⟨d, _⟩ | ⟨a, rfl, d⟩
  · cases d; rfl
  · exact d.elim
theorem PDen.fn {v : V} {x : Str} (d : PDen K mg ka G H v (.fn x)) : ∃ f, v = .ref f ∧ mg x = some (.ref f) := by
  rcases d with ⟨d, _⟩ | ⟨a, rfl, d⟩
  · cases d with
    | fn h => exact ⟨_, rfl, h⟩
  · exact d.elim
end

/-! ### results of operations -/
inductive OR where
  | sm (t : T) | tp (ts : List T) | ls (ts : List T) | dk (ks : List Key) (ts : List T)
def OPo (K : PySem.W.Frag) (mg : Str → Option Value) (ka : List Addr) (G H : Hp) (q : Option OR) (Q : VK) : Prop := match q with
  | none => False
  | some (.sm t) => ∀ v, Den K mg ka G v t → Q v H
  | some (.tp ts) => ∀ p vs, H p = none → Dens K mg ka G vs ts → Q (.ref p) (upd H p (.tup vs))
  | some (.ls ts) => ∀ p vs, H p = none → Dens K mg ka G vs ts → Q (.ref p) (upd H p (.lst vs))
  | some (.dk ks ts) => ∀ p kvs, H p = none → kvs.map (·.1) = ks → Dens K mg ka G (kvs.map (·.2)) ts → Q (.ref p) (upd H p (.dK kvs))
def ofOR (q : Option OR) : M RV := fun e => match q with
  | none => .st
  | some (.sm t) => .ok (.va t) e
  | some (.tp ts) => .ok (.va (.tup ts)) e
  | some (.ls ts) => .ok (.ow (.lst ts)) e
  | some (.dk ks ts) => .ok (.ow (.dct ks ts)) e
theorem Stp.newO {ka : List Addr} {G H : Hp} {O : Addr → Prop} {p : Addr} {o : HO} (hp : H p = none) : Stp ka G H O ka G (upd H p o) (fun a => O a ∨ a = p) :=
  ⟨GLe.refl, KLe.refl, fun a u e _ _ => by rw [upd_ne (ne_of_none e hp)]; exact e, fun a o e => .inl ⟨o, e⟩, fun a h => h.imp_right fun (z : a = p) => by rw [z]; exact hp, fun _ h => .inl h, fun a e => by
    by_cases z : a = p
    · rw [z]; exact hp
    · rw [upd_ne z] at e; exact e⟩
section
variable {X : Cx} {W : WX} {ka ka2 : List Addr} {G H G2 H2 : Hp} {s : L2.St} {O O2 : Addr → Prop} {Q : VK} {e : Ev}
/-- a new list or dict, owned by the value -/
theorem dv_new (R : Rel X.K X.mg ka G H s e) {p : Addr} {o : HO} {t : T} (hp : H p = none) (d : DenB X.K X.mg ka G (upd H p o) p t) : DV X.K X.mg ka G (upd H p o) s e.r (.ref p) (.ow t) :=
  ⟨p, rfl, d, R.gfresh hp, R.kfresh hp, R.ofresh hp⟩
theorem opo_of {q : Option OR} (R : Rel X.K X.mg ka2 G2 H2 s e) (S : Stp ka G H O ka2 G2 H2 O2) (hO : ∀ a, Own s e.r a → O2 a) (h : EPo X W ka G H s O (ofOR q e) Q) : OPo X.K X.mg ka2 G2 H2 q Q := by
  cases q with
  | none => exact h
  | some q =>
    cases q with
    | sm t => exact fun v d => h v G2 ka2 H2 R (S.less fun a x => x.elim (hO a) fun ⟨_, z, _⟩ => by cases z) d
    | tp ts =>
      intro p vs hp d
      refine h _ (upd G2 p (.tup vs)) ka2 _ (R.newG hp) ((S.trans (Stp.newG R.sub hp)).less fun a x => x.elim (hO a) fun ⟨_, z, _⟩ => by cases z) ?_
      exact .tup (SqT.of upd_same) (d.mono (GLe.newG (R.gfresh hp)) KLe.refl)
    | ls ts =>
      intro p vs hp d
      refine h _ G2 ka2 _ (R.new hp) ((S.trans (Stp.newO hp)).less fun a x => ?_) (dv_new R hp ⟨vs, upd_same, d⟩)
      rcases x with x | ⟨_, _, z⟩
      · exact .inl (hO a x)
      · exact .inr (by cases z; rfl)
    | dk ks ts =>
      intro p kvs hp hk d
      refine h _ G2 ka2 _ (R.new hp) ((S.trans (Stp.newO hp)).less fun a x => ?_) (dv_new R hp ⟨kvs, upd_same, hk, d⟩)
      rcases x with x | ⟨_, _, z⟩
      · exact .inl (hO a x)
      · exact .inr (by cases z; rfl)
end

/-! ### operators -/
/-- a two-place operation by its pure function -/
def rOf (X : Cx) (f : T → T → Option OR) : R2 := fun x y H Q => ∃ ka G a b, GLe G H ∧ PDen X.K X.mg ka G H x a ∧ PDen X.K X.mg ka G H y b ∧ OPo X.K X.mg ka G H (f a b) Q
def mOp (f : T → T → Option OR) (ma mb : M RV) : M RV := ma.bd fun ra => mb.bd fun rb e => match pk e ra, pk e rb with
  | some a, some b => ofOR (f a b) e
  | _, _ => .st
section
variable {X : Cx} {W : WX} {pos : Pos} {a b : Expr} {ma mb : M RV} {f : T → T → Option OR}
/-- two values, then a wish upon both -/
theorem two_of {ta tb : TE} (qa : ∀ ka G H s E Q, Rel X.K X.mg ka G H s E → EPo X W ka G H s (Own s E.r) (ma E) Q → ta s H Q)
    (qb : ∀ ka G H s E Q, Rel X.K X.mg ka G H s E → EPo X W ka G H s (Own s E.r) (mb E) Q → tb s H Q) {ka : List Addr} {G H : Hp} {s : L2.St} {E : Ev} {Q : VK} {k : RV → RV → M RV} {r : V → V → Hp → Prop}
    (R : Rel X.K X.mg ka G H s E) (h : EPo X W ka G H s (Own s E.r) ((ma.bd fun ra => mb.bd fun rb => k ra rb) E) Q)
    (hr : ∀ ra rb E2 x y ka2 G2 H2 O2, Rel X.K X.mg ka2 G2 H2 s E2 → Stp ka G H (Own s E.r) ka2 G2 H2 O2 → (∀ a, Own s E2.r a → O2 a) → DV X.K X.mg ka2 G2 H2 s E2.r x ra → DV X.K X.mg ka2 G2 H2 s E2.r y rb → EPo X W ka G H s (Own s E.r) (k ra rb E2) Q → r x y H2) :
    ta s H fun x H1 => tb s H1 fun y H2 => r x y H2 := by
  refine qa ka G H s E _ R ?_
  unfold M.bd at h
  cases hm : ma E with
  | st => rw [hm] at h; exact h.elim
  | ex c fs e1 => rw [hm] at h; exact h
  | ok ra E1 =>
    rw [hm] at h
    dsimp only at h
    intro x G1 ka1 H1 R1 S1 D1
    refine qb ka1 G1 H1 s E1 _ R1 ?_
    have S1' : Stp ka G H (Own s E.r) ka1 G1 H1 (Own s E1.r) := S1.less fun a x => .inl x
    cases hm2 : mb E1 with
    | st => rw [hm2] at h; exact h.elim
    | ex c fs e1 => rw [hm2] at h; exact XPo.later S1' h
    | ok rb E2 =>
      rw [hm2] at h
      dsimp only at h
      intro y G2 ka2 H2 R2 S2 D2
      obtain ⟨d, n, S⟩ := behind S1 D1 S2
      exact hr ra rb E2 x y ka2 G2 H2 _ R2 S (fun a x => .inl x) d D2 h
theorem je_op {op : Operator} (ho : OpR X (binaryOp op) (rOf X f)) (ha : JE X W a ma) (hb : JE X W b mb) : JE X W (.BinOp a op b pos) (mOp f ma mb) := by
  obtain ⟨ta, pa, qa⟩ := ha.ex
  obtain ⟨tb, pb, qb⟩ := hb.ex
  refine ⟨_, pe_op ho pa pb, fun ka G H s E Q R h => two_of qa qb R h fun ra rb E2 x y ka2 G2 H2 O2 R2 S hO dx dy hk => ?_⟩
  cases h1 : pk E2 ra with
  | none => rw [h1] at hk; exact hk.elim
  | some u =>
    cases h2 : pk E2 rb with
    | none => rw [h1, h2] at hk; exact hk.elim
    | some w =>
      rw [h1, h2] at hk
      exact ⟨ka2, G2, u, w, R2.sub, R2.pk dx h1, R2.pk dy h2, opo_of R2 S hO hk⟩
theorem je_cmp {op : CmpOp} (ho : OpR X (compareOp op) (rOf X f)) (ha : JE X W a ma) (hb : JE X W b mb) (hm : behindInMarks op b = false) : JE X W (.Compare a [op] [b] pos) (mOp f ma mb) := by
  obtain ⟨ta, pa, qa⟩ := ha.ex
  obtain ⟨tb, pb, qb⟩ := hb.ex
  refine ⟨_, pe_cmpR ho pa pb hm, fun ka G H s E Q R h => two_of qa qb R h fun ra rb E2 x y ka2 G2 H2 O2 R2 S hO dx dy hk => ?_⟩
  cases h1 : pk E2 ra with
  | none => rw [h1] at hk; exact hk.elim
  | some u =>
    cases h2 : pk E2 rb with
    | none => rw [h1, h2] at hk; exact hk.elim
    | some w =>
      rw [h1, h2] at hk
      exact ⟨ka2, G2, u, w, R2.sub, R2.pk dx h1, R2.pk dy h2, opo_of R2 S hO hk⟩
end

/-- a value that is a truth value, as a test -/
def mB (m : M RV) : M Bool := m.bd fun q e => match q with
  | .va (.bl b) => .ok b e
  | _ => .st
section
variable {X : Cx} {W : WX}
/-- an expression's reading, with a truth value wanted -/
theorem tb_of {t : TE} {m : M RV} (q : ∀ ka G H s E Q, Rel X.K X.mg ka G H s E → EPo X W ka G H s (Own s E.r) (m E) Q → t s H Q) {ka : List Addr} {G H : Hp} {s : L2.St} {E : Ev} {Q : Bool → Hp → Prop} (R : Rel X.K X.mg ka G H s E)
    (h : TPo X W ka G H s (Own s E.r) (mB m E) Q) : t s H fun x H1 => ∃ k, x = .bl k ∧ Q k H1 := by
  refine q ka G H s E _ R ?_
  unfold mB M.bd at h
  cases hm : m E with
  | st => rw [hm] at h; exact h.elim
  | ex c fs e1 => rw [hm] at h; exact h
  | ok ra E1 =>
    rw [hm] at h
    dsimp only at h
    intro x G1 ka1 H1 R1 S1 D1
    cases ra with
    | ow t => exact h.elim
    | br i => exact h.elim
    | va t =>
      cases t with
      | bl b =>
        cases D1
        exact ⟨b, rfl, h G1 ka1 H1 R1 (S1.less fun a x => .inl x)⟩
      | _ => exact h.elim
theorem jt_val {e : Expr} {m : M RV} (hm : JE X W e m) (he : ∀ whole, isTrue e X.env whole = (do let v ← whole; standAt e.pos; holding [v] (truthy v)) := by intro _; rfl) : JT X W e (mB m) := by
  obtain ⟨t, p, q⟩ := hm.ex
  exact ⟨tB t, pt_val p he, fun ka G H s E Q R h => tb_of q R h⟩
theorem jt_cmp {pos : Pos} {a b : Expr} {ma mb : M RV} {f : T → T → Option OR} {op : CmpOp} (ho : OpR X (compareOp op) (rOf X f)) (ha : JE X W a ma) (hb : JE X W b mb) (hm : behindInMarks op b = false) : JT X W (.Compare a [op] [b] pos) (mB (mOp f ma mb)) := by
  obtain ⟨ta, pa, qa⟩ := ha.ex
  obtain ⟨tb, pb, qb⟩ := hb.ex
  refine ⟨_, pt_cmpR ho pa pb hm, fun ka G H s E Q R h => ?_⟩
  refine tb_of (t := tOp (rOf X f) ta tb) (m := mOp f ma mb) (fun ka G H s E Q R h => two_of qa qb R h fun ra rb E2 x y ka2 G2 H2 O2 R2 S hO dx dy hk => ?_) R h
  cases h1 : pk E2 ra with
  | none => rw [h1] at hk; exact hk.elim
  | some u =>
    cases h2 : pk E2 rb with
    | none => rw [h1, h2] at hk; exact hk.elim
    | some w =>
      rw [h1, h2] at hk
      exact ⟨ka2, G2, u, w, R2.sub, R2.pk dx h1, R2.pk dy h2, opo_of R2 S hO hk⟩
end
end PL
-- PL4
/-! The pure layer 4: the operators. -/
namespace PL
open PySem PySem.Spec PyProof.Rows L2 PySem.SeqAt

abbrev sz : Nat := 16777216
theorem sz_eq {n : Nat} (h : n ≤ sz) : n ≤ sizeLine := by rw [sizeLine_eq]; exact h
def iB (i : Int) : OR := .sm (.int i)
def bB (b : Bool) : OR := .sm (.bl b)
def opAdd : T → T → Option OR
  | .int i, .int j => some (.sm (.int (i + j)))
  | .str x, .str y => if x.length + y.length ≤ sz then some (.sm (.str (x ++ y))) else none
  | .lst xs, .lst ys => if xs.length + ys.length ≤ sz then some (.ls (xs ++ ys)) else none
  | .tup xs, .tup ys => if xs.length + ys.length ≤ sz then some (match xs, ys with
    | [], ys => .sm (.tup ys)
    | x :: xs, [] => .sm (.tup (x :: xs))
    | x :: xs, y :: ys => .tp (x :: xs ++ y :: ys)) else none
  | _, _ => none
def opSub : T → T → Option OR
  | .int i, .int j => some (.sm (.int (i - j)))
  | _, _ => none
noncomputable def opMul : T → T → Option OR
  | .int i, .int j => @ite _ ((-(2 ^ 64) < i ∧ i < 2 ^ 64) ∨ (-(2 ^ 64) < j ∧ j < 2 ^ 64)) (Classical.propDecidable _) (some (.sm (.int (i * j)))) none
  | .lst xs, .int k => @ite _ (-(2 ^ 63) ≤ k ∧ k < 2 ^ 63 ∧ xs.length * k.toNat ≤ sz) (Classical.propDecidable _) (some (.ls (List.replicate k.toNat xs).flatten)) none
  | _, _ => none
def opFdiv : T → T → Option OR
  | .int i, .int j => if j ≠ 0 ∧ j.natAbs < 1073741824 then some (.sm (.int (i.fdiv j))) else none
  | _, _ => none
def opMod : T → T → Option OR
  | .int i, .int j => if j ≠ 0 then some (.sm (.int (i.fmod j))) else none
  | _, _ => none
noncomputable def opPow : T → T → Option OR
  | .int i, .int j => @ite _ (0 ≤ j ∧ j ≤ 1000000 ∧ i.natAbs < 2 ^ 64) (Classical.propDecidable _) (some (.sm (.int (i ^ j.toNat)))) none
  | _, _ => none
noncomputable def opShl : T → T → Option OR
  | .int i, .int j => @ite _ (0 ≤ j ∧ j ≤ 1000000 ∧ i.natAbs < 2 ^ 64) (Classical.propDecidable _) (some (.sm (.int (i * 2 ^ j.toNat)))) none
  | _, _ => none
def opShr : T → T → Option OR
  | .int i, .int j => if 0 ≤ j then some (.sm (.int (i / 2 ^ j.toNat))) else none
  | _, _ => none
def opAnd : T → T → Option OR
  | .int i, .int j => some (.sm (.int (Builtin.bitAnd i j)))
  | _, _ => none
def opOr : T → T → Option OR
  | .int i, .int j => some (.sm (.int (Builtin.bitOr i j)))
  | _, _ => none
def opXor : T → T → Option OR
  | .int i, .int j => some (.sm (.int (Builtin.bitXor i j)))
  | _, _ => none
def eqT (a b : T) : Bool := PyData.eqv a.toD b.toD
def opEq (a b : T) : Option OR := if a.isD 60 && b.isD 60 then some (.sm (.bl (eqT a b))) else none
def opNe (a b : T) : Option OR := if a.isD 60 && b.isD 60 then some (.sm (.bl (!eqT a b))) else none
def likeT (a b : T) : Bool := a.isD 60 && b.isD 60 && PySem.W.alike a.toD b.toD && (match a with | .non => false | _ => true)
def ltT (a b : T) : Bool := PySem.W.dataLt a.toD b.toD
def opLt (a b : T) : Option OR := if likeT a b then some (.sm (.bl (ltT a b))) else none
def opLe (a b : T) : Option OR := if likeT a b then some (.sm (.bl (!ltT b a))) else none
def opGt (a b : T) : Option OR := if likeT a b then some (.sm (.bl (ltT b a))) else none
def opGe (a b : T) : Option OR := if likeT a b then some (.sm (.bl (!ltT a b))) else none
def isNonT : T → Bool
  | .non => true
  | _ => false
def opIs : T → T → Option OR
  | .bl a, .bl b => some (.sm (.bl (decide (a = b))))
  | a, .non => some (.sm (.bl (isNonT a)))
  | _, _ => none
def opIsN : T → T → Option OR
  | a, .non => some (.sm (.bl (!isNonT a)))
  | _, _ => none
def inT (a : T) : T → Option Bool
  | .lst ts => if a.isD 60 && isDs ts 60 then some (ts.any fun t => eqT t a) else none
  | .tup ts => if a.isD 60 && isDs ts 60 then some (ts.any fun t => eqT t a) else none
  | .dct ks _ => match a with
    | .int i => some (ks.any fun k => decide (k = (Sum.inl i : Key)))
    | .str x => some (ks.any fun k => decide (k = (Sum.inr x : Key)))
    | _ => none
  | .dcz ks _ => match a with
    | .int i => some (ks.any fun k => decide (k = (Sum.inl i : Key)))
    | .str x => some (ks.any fun k => decide (k = (Sum.inr x : Key)))
    | _ => none
  | _ => none
def opIn (a b : T) : Option OR := (inT a b).map fun k => .sm (.bl k)
def opNin (a b : T) : Option OR := (inT a b).map fun k => .sm (.bl (!k))

section
variable {X : Cx}
theorem opo_sm {ka : List Addr} {G H : Hp} {t : T} {v : V} {Q : VK} (h : OPo X.K X.mg ka G H (some (.sm t)) Q) (d : Den X.K X.mg ka G v t) : Q v H := h v d
theorem ite_some {c : Prop} {_i : Decidable c} {ka : List Addr} {G H : Hp} {o : OR} {Q : VK} (h : OPo X.K X.mg ka G H (if c then some o else none) Q) : c ∧ OPo X.K X.mg ka G H (some o) Q := by
  by_cases hc : c
  · rw [if_pos hc] at h; exact ⟨hc, h⟩
  · rw [if_neg hc] at h; exact h.elim
/-- two ints -/
theorem ite_some' {c : Prop} [Decidable c] {ka : List Addr} {G H : Hp} {o : Option OR} {Q : VK} (h : OPo X.K X.mg ka G H (if c then o else none) Q) : c ∧ OPo X.K X.mg ka G H o Q := by
  by_cases hc : c
  · rw [if_pos hc] at h; exact ⟨hc, h⟩
  · rw [if_neg hc] at h; exact h.elim
theorem op_ints {f : Value → Value → Sem Value} {C : Int → Int → Prop} {g : Int → Int → V} {gT : Int → Int → T} {F : T → T → Option OR} (h : OpR X f (rI C g)) (hd : ∀ ka G i j, Den X.K X.mg ka G (g i j) (gT i j))
    (hF : ∀ a b ka G H Q, OPo X.K X.mg ka G H (F a b) Q → ∃ i j, a = .int i ∧ b = .int j ∧ C i j ∧ OPo X.K X.mg ka G H (some (.sm (gT i j))) Q) : OpR X f (rOf X F) := by
  intro pins s σ H x y v u Q I rx ry ⟨ka, G, a, b, hg, da, db, h'⟩
  obtain ⟨i, j, rfl, rfl, hc, q⟩ := hF a b ka G H Q h'
  exact h pins s σ H x y v u Q I rx ry ⟨i, j, da.int, db.int, hc, q _ (hd ka G i j)⟩
theorem op_ints0 {f : Value → Value → Sem Value} {g : Int → Int → V} {gT : Int → Int → T} {F : T → T → Option OR} (h : OpR X f (rI0 g)) (hd : ∀ ka G i j, Den X.K X.mg ka G (g i j) (gT i j))
    (hF : ∀ a b ka G H Q, OPo X.K X.mg ka G H (F a b) Q → ∃ i j, a = .int i ∧ b = .int j ∧ OPo X.K X.mg ka G H (some (.sm (gT i j))) Q) : OpR X f (rOf X F) := by
  intro pins s σ H x y v u Q I rx ry ⟨ka, G, a, b, hg, da, db, h'⟩
  obtain ⟨i, j, rfl, rfl, q⟩ := hF a b ka G H Q h'
  exact h pins s σ H x y v u Q I rx ry ⟨i, j, da.int, db.int, q _ (hd ka G i j)⟩
theorem o_sub : OpR X (binaryOp .Sub) (rOf X opSub) := op_ints0 op_sub (gT := fun i j => .int (i - j)) (fun _ _ _ _ => .int _) fun a b ka G H Q h => by
  cases a <;> cases b <;> first | exact h.elim | exact ⟨_, _, rfl, rfl, h⟩
theorem o_and : OpR X (binaryOp .BitAnd) (rOf X opAnd) := op_ints0 op_and (gT := fun i j => .int (Builtin.bitAnd i j)) (fun _ _ _ _ => .int _) fun a b ka G H Q h => by
  cases a <;> cases b <;> first | exact h.elim | exact ⟨_, _, rfl, rfl, h⟩
theorem o_or : OpR X (binaryOp .BitOr) (rOf X opOr) := op_ints0 op_or (gT := fun i j => .int (Builtin.bitOr i j)) (fun _ _ _ _ => .int _) fun a b ka G H Q h => by
  cases a <;> cases b <;> first | exact h.elim | exact ⟨_, _, rfl, rfl, h⟩
theorem o_xor : OpR X (binaryOp .BitXor) (rOf X opXor) := op_ints0 op_xor (gT := fun i j => .int (Builtin.bitXor i j)) (fun _ _ _ _ => .int _) fun a b ka G H Q h => by
  cases a <;> cases b <;> first | exact h.elim | exact ⟨_, _, rfl, rfl, h⟩
theorem o_fdiv : OpR X (binaryOp .FloorDiv) (rOf X opFdiv) := op_ints op_fdivN (gT := fun i j => .int (i.fdiv j)) (fun _ _ _ _ => .int _) fun a b ka G H Q h => by
  cases a <;> cases b <;> first | exact h.elim | exact ⟨_, _, rfl, rfl, (ite_some h).1, (ite_some h).2⟩
theorem o_mod : OpR X (binaryOp .Mod) (rOf X opMod) := op_ints op_modN (gT := fun i j => .int (i.fmod j)) (fun _ _ _ _ => .int _) fun a b ka G H Q h => by
  cases a <;> cases b <;> first | exact h.elim | exact ⟨_, _, rfl, rfl, (ite_some h).1, (ite_some h).2⟩
theorem o_pow : OpR X (binaryOp .Pow) (rOf X opPow) := op_ints op_pow (gT := fun i j => .int (i ^ j.toNat)) (fun _ _ _ _ => .int _) fun a b ka G H Q h => by
  cases a <;> cases b <;> first | exact h.elim | exact ⟨_, _, rfl, rfl, (ite_some h).1, (ite_some h).2⟩
theorem o_shl : OpR X (binaryOp .LShift) (rOf X opShl) := op_ints op_shl (gT := fun i j => .int (i * 2 ^ j.toNat)) (fun _ _ _ _ => .int _) fun a b ka G H Q h => by
  cases a <;> cases b <;> first | exact h.elim | exact ⟨_, _, rfl, rfl, (ite_some h).1, (ite_some h).2⟩
theorem o_shr : OpR X (binaryOp .RShift) (rOf X opShr) := op_ints op_shr (gT := fun i j => .int (i / 2 ^ j.toNat)) (fun _ _ _ _ => .int _) fun a b ka G H Q h => by
  cases a <;> cases b <;> first | exact h.elim | exact ⟨_, _, rfl, rfl, (ite_some h).1, (ite_some h).2⟩
theorem o_add : OpR X (binaryOp .Add) (rOf X opAdd) := by
  intro pins s σ H x y v u Q I rx ry ⟨ka, G, a, b, hg, da, db, h⟩
  cases a with
  | int i =>
    cases b with
    | int j => exact op_add pins s σ H x y v u Q I rx ry ⟨i, j, da.int, db.int, h _ (.int _)⟩
    | _ => exact h.elim
  | str i =>
    cases b with
    | str j =>
      obtain ⟨hc, h⟩ := ite_some h
      exact op_add_str pins s σ H x y v u Q I rx ry ⟨i, j, da.str, db.str, sz_eq hc, h _ (.str _)⟩
    | _ => exact h.elim
  | lst xs =>
    cases b with
    | lst ys =>
      obtain ⟨hc, h⟩ := ite_some h
      obtain ⟨p, vs, e1, q1, d1⟩ := da.seqL hg
      obtain ⟨p2, vs2, e2, q2, d2⟩ := db.seqL hg
      exact op_cat pins s σ H x y v u Q I rx ry ⟨p, p2, vs, vs2, e1, e2, q1, q2, by rw [d1.length, d2.length]; exact sz_eq hc, fun p hp => h p _ hp (d1.append d2)⟩
    | _ => exact h.elim
  | tup xs =>
    cases b with
    | tup ys =>
      obtain ⟨hc, h⟩ := ite_some h
      obtain ⟨p, vs, e1, q1, d1⟩ := da.seqT hg
      obtain ⟨p2, vs2, e2, q2, d2⟩ := db.seqT hg
      have dA : Den X.K X.mg ka G x (.tup xs) := da.elim (fun z => z.1) fun ⟨_, _, z⟩ => z.elim
      have dB : Den X.K X.mg ka G y (.tup ys) := db.elim (fun z => z.1) fun ⟨_, _, z⟩ => z.elim
      refine op_catA pins s σ H x y v u Q I rx ry ⟨p, p2, vs, vs2, e1, e2, q1, q2, by rw [d1.length, d2.length]; exact sz_eq hc, fun z => ?_, fun n1 z => ?_, fun n1 n2 p' hp => ?_⟩
      · subst z
        cases d1
        exact e2 ▸ h _ dB
      · subst z
        cases d2
        cases d1 with
        | nil => exact absurd rfl n1
        | cons d1 ds1 => exact e1 ▸ h _ dA
      · cases d1 with
        | nil => exact absurd rfl n1
        | cons d1 ds1 =>
          cases d2 with
          | nil => exact absurd rfl n2
          | cons d2 ds2 => exact h p' _ hp (Dens.append (.cons d1 ds1) (.cons d2 ds2))
    | _ => exact h.elim
  | _ => exact h.elim
theorem o_mul : OpR X (binaryOp .Mult) (rOf X opMul) := by
  intro pins s σ H x y v u Q I rx ry ⟨ka, G, a, b, hg, da, db, h⟩
  cases a with
  | int i =>
    cases b with
    | int j =>
      obtain ⟨hc, h⟩ := ite_some h
      exact op_mul pins s σ H x y v u Q I rx ry ⟨i, j, da.int, db.int, hc, h _ (.int _)⟩
    | _ => exact h.elim
  | lst xs =>
    cases b with
    | int k =>
      obtain ⟨⟨h1, h2, h3⟩, h⟩ := ite_some h
      have rep : ∀ {vs : List V} {ts : List T}, Dens X.K X.mg ka G vs ts → ∀ n : Nat, Dens X.K X.mg ka G (List.replicate n vs).flatten (List.replicate n ts).flatten := fun {vs ts} d n => by
        induction n with
        | zero => exact .nil
        | succ n ih =>
          rw [List.replicate_succ, List.replicate_succ, List.flatten_cons, List.flatten_cons]
          exact d.append ih
      obtain ⟨p, vs, e1, e2, d⟩ := da.seqL hg
      exact op_rep pins s σ H x y v u Q I rx ry ⟨p, k, vs, e1, db.int, e2, h1, h2, by rw [d.length]; exact sz_eq h3, fun p' hp => h p' _ hp (rep d _)⟩
    | _ => exact h.elim
  | _ => exact h.elim
end
end PL
-- PL5
/-! The pure layer 5: comparisons, truth, not, and, or, if. -/
namespace PL
open PySem PySem.Spec PyProof.Rows L2 PySem.SeqAt PySem.W

section
variable {X : Cx}
theorem room60 {A : Around} {d e : T} (hu : A.units + 200 < cLine) (h : d.isD 60 = true) : A.units + min d.toD.depth e.toD.depth < cLine := by
  have h1 := (isD_depth d 60 h).1
  have h2 := Nat.min_le_left d.toD.depth e.toD.depth
  omega
theorem o_eq (hu : X.A.units + 200 < cLine) : OpR X (compareOp .Eq) (rOf X opEq) := by
  intro pins s σ H x y v u Q I rx ry ⟨ka, G, a, b, hg, da, db, h⟩
  obtain ⟨hc, h⟩ := ite_some h
  rw [Bool.and_eq_true] at hc
  obtain ⟨as, r1⟩ := Dp.reads I _ x v (da.dp hg hc.1) rx
  obtain ⟨bs, r2⟩ := Dp.reads I _ y u (db.dp hg hc.2) ry
  exact eq_plain r1 r2 (isD_depth a 60 hc.1).2 (isD_depth b 60 hc.2).2 (room60 hu hc.1) ⟨.bl _, H, I, rfl, h _ (.bl _)⟩
theorem o_ne (hu : X.A.units + 200 < cLine) : OpR X (compareOp .NotEq) (rOf X opNe) := by
  intro pins s σ H x y v u Q I rx ry ⟨ka, G, a, b, hg, da, db, h⟩
  obtain ⟨hc, h⟩ := ite_some h
  rw [Bool.and_eq_true] at hc
  obtain ⟨as, r1⟩ := Dp.reads I _ x v (da.dp hg hc.1) rx
  obtain ⟨bs, r2⟩ := Dp.reads I _ y u (db.dp hg hc.2) ry
  exact ne_plain r1 r2 (isD_depth a 60 hc.1).2 (isD_depth b 60 hc.2).2 (room60 hu hc.1) ⟨.bl _, H, I, rfl, h _ (.bl _)⟩
theorem likeT_of {a b : T} (h : likeT a b = true) : a.isD 60 = true ∧ b.isD 60 = true ∧ alike a.toD b.toD = true ∧ a.toD ≠ .none := by
  unfold likeT at h
  rw [Bool.and_eq_true, Bool.and_eq_true, Bool.and_eq_true] at h
  refine ⟨h.1.1.1, h.1.1.2, h.1.2, fun z => ?_⟩
  have h1 := h.1.1.1
  have h2 := h.2
  clear h
  cases a <;> simp [T.isD, T.toD] at h1 h2 z
theorem o_lt (hu : X.A.units + 200 < cLine) : OpR X (compareOp .Lt) (rOf X opLt) := by
  intro pins s σ H x y v u Q I rx ry ⟨ka, G, a, b, hg, da, db, h⟩
  obtain ⟨hc, h⟩ := ite_some h
  obtain ⟨h1, h2, h3, h4⟩ := likeT_of hc
  obtain ⟨as, r1⟩ := Dp.reads I _ x v (da.dp hg h1) rx
  obtain ⟨bs, r2⟩ := Dp.reads I _ y u (db.dp hg h2) ry
  exact lt_data r1 r2 h3 h4 (room60 hu h1) ⟨.bl _, H, I, rfl, h _ (.bl _)⟩
theorem o_le (hu : X.A.units + 200 < cLine) : OpR X (compareOp .LtE) (rOf X opLe) := by
  intro pins s σ H x y v u Q I rx ry ⟨ka, G, a, b, hg, da, db, h⟩
  obtain ⟨hc, h⟩ := ite_some h
  obtain ⟨h1, h2, h3, h4⟩ := likeT_of hc
  obtain ⟨as, r1⟩ := Dp.reads I _ x v (da.dp hg h1) rx
  obtain ⟨bs, r2⟩ := Dp.reads I _ y u (db.dp hg h2) ry
  exact le_data r1 r2 h3 h4 (room60 hu h1) ⟨.bl _, H, I, rfl, h _ (.bl _)⟩
theorem o_gt (hu : X.A.units + 200 < cLine) : OpR X (compareOp .Gt) (rOf X opGt) := by
  intro pins s σ H x y v u Q I rx ry ⟨ka, G, a, b, hg, da, db, h⟩
  obtain ⟨hc, h⟩ := ite_some h
  obtain ⟨h1, h2, h3, h4⟩ := likeT_of hc
  obtain ⟨as, r1⟩ := Dp.reads I _ x v (da.dp hg h1) rx
  obtain ⟨bs, r2⟩ := Dp.reads I _ y u (db.dp hg h2) ry
  exact gt_data r1 r2 h3 h4 (room60 hu h1) ⟨.bl _, H, I, rfl, h _ (.bl _)⟩
theorem o_ge (hu : X.A.units + 200 < cLine) : OpR X (compareOp .GtE) (rOf X opGe) := by
  intro pins s σ H x y v u Q I rx ry ⟨ka, G, a, b, hg, da, db, h⟩
  obtain ⟨hc, h⟩ := ite_some h
  obtain ⟨h1, h2, h3, h4⟩ := likeT_of hc
  obtain ⟨as, r1⟩ := Dp.reads I _ x v (da.dp hg h1) rx
  obtain ⟨bs, r2⟩ := Dp.reads I _ y u (db.dp hg h2) ry
  exact ge_data r1 r2 h3 h4 (room60 hu h1) ⟨.bl _, H, I, rfl, h _ (.bl _)⟩
theorem PDen.isNon {ka : List Addr} {G H : Hp} {x : V} {a : T} (d : PDen X.K X.mg ka G H x a) : decide (x = .non) = isNonT a := by
  rcases d with ⟨d, _⟩ | ⟨p, rfl, d⟩
  · cases d <;> rfl
  · cases a <;> first | exact d.elim | rfl
theorem o_isNone {op : CmpOp} {F : T → T → Option OR} (k : Bool → Bool) (h : OpR X (compareOp op) (fun x y H Q => y = .non ∧ Q (.bl (k (decide (x = .non)))) H))
    (hF : ∀ a, F a .non = some (.sm (.bl (k (isNonT a))))) {pins : List (Addr × Obj)} {s : Shared} {σ : L2.St} {H : Hp} {x y : V} {v u : Value} {Q : VK} (I : L2.Inv X pins σ H s) (rx : L2.RelV x v) (ry : L2.RelV y u) {ka : List Addr} {G : Hp} {a : T}
    (da : PDen X.K X.mg ka G H x a) (db : PDen X.K X.mg ka G H y .non) (q : OPo X.K X.mg ka G H (F a .non) Q) : wpAny (model X.prog X.w) X.A (compareOp op v u) (EP X pins σ Q) X.xe s := by
  rw [hF a] at q
  refine h pins s σ H x y v u Q I rx ry ⟨db.non, ?_⟩
  rw [da.isNon]
  exact q _ (.bl _)
theorem o_is : OpR X (compareOp .Is) (rOf X opIs) := by
  intro pins s σ H x y v u Q I rx ry ⟨ka, G, a, b, hg, da, db, h⟩
  cases b with
  | non => exact o_isNone (F := opIs) id op_isN (fun a => by cases a <;> rfl) I rx ry da db h
  | bl b =>
    cases a with
    | bl a => exact op_is_bl pins s σ H x y v u Q I rx ry ⟨a, b, da.bl, db.bl, h _ (.bl _)⟩
    | _ => exact h.elim
  | _ => cases a <;> exact h.elim
theorem o_isN : OpR X (compareOp .IsNot) (rOf X opIsN) := by
  intro pins s σ H x y v u Q I rx ry ⟨ka, G, a, b, hg, da, db, h⟩
  cases b with
  | non => exact o_isNone (F := opIsN) not op_notN (fun a => by cases a <;> rfl) I rx ry da db h
  | _ => cases a <;> exact h.elim
theorem any_eqT (a : T) : ∀ ts : List T, ((toDs ts).any fun d => PyData.eqv d a.toD) = ts.any fun t => eqT t a
  | [] => rfl
  | t :: ts => by rw [toDs, List.any_cons, List.any_cons, any_eqT a ts]; rfl
theorem map_some {q : Option Bool} {g : Bool → OR} {ka : List Addr} {G H : Hp} {Q : VK} (h : OPo X.K X.mg ka G H (q.map g) Q) : ∃ k, q = some k ∧ OPo X.K X.mg ka G H (some (g k)) Q := by
  cases q with
  | none => exact h.elim
  | some k => exact ⟨k, rfl, h⟩
theorem room_in60 {A : Around} {ts : List T} {e : T} (hu : A.units + 200 < cLine) (h : isDs ts 60 = true) : A.units + 1 + min (PyData.depthAll (toDs ts)) e.toD.depth < cLine := by
  have h1 := (isDs_depth ts 60 h).1
  have h2 := Nat.min_le_left (PyData.depthAll (toDs ts)) e.toD.depth
  omega
/-- what x in c looks at -/
theorem in_both (hu : X.A.units + 200 < cLine) {op : CmpOp} (g : Bool → Bool)
    (hl : ∀ {A : Around} {E : Value → Shared → Prop} {s : Shared} {c x : Value} {xs : List PyData} {d : PyData} {as bs : List Addr} {Q : Value → Shared → Prop}, Reads s.heap c (.list xs) as → Reads s.heap x d bs → PyData.plainAll xs = true → d.plain = true → A.units + 1 + min (PyData.depthAll xs) d.depth < cLine →
      Q (.bool (g (xs.any fun y => PyData.eqv y d))) s → wpAny (model X.prog X.w) A (compareOp op x c) Q E s)
    (ht : ∀ {A : Around} {E : Value → Shared → Prop} {s : Shared} {c x : Value} {xs : List PyData} {d : PyData} {as bs : List Addr} {Q : Value → Shared → Prop}, Reads s.heap c (.tuple xs) as → Reads s.heap x d bs → PyData.plainAll xs = true → d.plain = true → A.units + 1 + min (PyData.depthAll xs) d.depth < cLine →
      Q (.bool (g (xs.any fun y => PyData.eqv y d))) s → wpAny (model X.prog X.w) A (compareOp op x c) Q E s)
    (hd : ∀ {pins : List (Addr × Obj)} {s : Shared} {σ : L2.St} {H : Hp} {Q : VK} {a : Addr} {ov : Option V} {iv : Value} {y : V}, L2.Inv X pins σ H s → DGet H a y ov → L2.RelV y iv → Q (.bl (g ov.isSome)) H → wpAny (model X.prog X.w) X.A (compareOp op iv (.ref a)) (EP X pins σ Q) X.xe s) :
    OpR X (compareOp op) (rOf X fun a b => (inT a b).map fun k => .sm (.bl (g k))) := by
  intro pins s σ H x y v u Q I rx ry ⟨ka, G, a, b, hg, da, db, h0⟩
  obtain ⟨k, hk, h⟩ := map_some h0
  clear h0
  cases b with
  | lst ts =>
    have hk : (if a.isD 60 && isDs ts 60 then some (ts.any fun t => eqT t a) else none) = some k := hk
    by_cases hc : (a.isD 60 && isDs ts 60) = true
    · rw [if_pos hc] at hk
      rw [Bool.and_eq_true] at hc
      cases Option.some.inj hk
      have hb : (T.lst ts).isD 61 = true := by simpa [T.isD] using hc.2
      obtain ⟨as, r1⟩ := Dp.reads I _ x v (da.dp hg hc.1) rx
      obtain ⟨bs, r2⟩ := Dp.reads I _ y u (db.dp hg hb) ry
      simp only [T.toD] at r2
      refine hl r2 r1 (isDs_depth ts 60 hc.2).2 (isD_depth a 60 hc.1).2 (room_in60 hu hc.2) ⟨.bl _, H, I, rfl, ?_⟩
      rw [any_eqT]
      exact h _ (.bl _)
    · rw [if_neg hc] at hk; cases hk
  | tup ts =>
    have hk : (if a.isD 60 && isDs ts 60 then some (ts.any fun t => eqT t a) else none) = some k := hk
    by_cases hc : (a.isD 60 && isDs ts 60) = true
    · rw [if_pos hc] at hk
      rw [Bool.and_eq_true] at hc
      cases Option.some.inj hk
      have hb : (T.tup ts).isD 61 = true := by simpa [T.isD] using hc.2
      obtain ⟨as, r1⟩ := Dp.reads I _ x v (da.dp hg hc.1) rx
      obtain ⟨bs, r2⟩ := Dp.reads I _ y u (db.dp hg hb) ry
      simp only [T.toD] at r2
      refine ht r2 r1 (isDs_depth ts 60 hc.2).2 (isD_depth a 60 hc.1).2 (room_in60 hu hc.2) ⟨.bl _, H, I, rfl, ?_⟩
      rw [any_eqT]
      exact h _ (.bl _)
    · rw [if_neg hc] at hk; cases hk
  | dct ks ts =>
    obtain ⟨p, kvs, e1, e2, e3, d⟩ := db.dict hg
    subst e1
    obtain rfl : u = Value.ref p := ry
    have key : ∀ (z : Key), x = kV z → (ks.any fun k => decide (k = z)) = k → wpAny (model X.prog X.w) X.A (compareOp op v (.ref p)) (EP X pins σ Q) X.xe s := fun z ez hk => by
      refine hd I (ez ▸ DGet.k e2) rx ?_
      rw [← valV_any, show (kvs.any fun kv => decide (kv.1 = z)) = (ks.any fun k => decide (k = z)) by rw [← e3, List.any_map]; rfl, hk]
      exact h _ (.bl _)
    cases a with
    | int i => exact key (Sum.inl i) da.int (Option.some.inj hk)
    | str i => exact key (Sum.inr i) da.str (Option.some.inj hk)
    | _ => cases hk
  | dcz ks ts =>
    obtain ⟨p, od, kvs, e1, e2, e3, d⟩ := db.dictz hg
    subst e1
    obtain rfl : u = Value.ref p := ry
    have key : ∀ (z : Key), x = kV z → (ks.any fun k => decide (k = z)) = k → wpAny (model X.prog X.w) X.A (compareOp op v (.ref p)) (EP X pins σ Q) X.xe s := fun z ez hk => by
      refine hd I (show DGet H p x (valV kvs z) from .inl ⟨kvs, z, .inr ⟨od, e2⟩, ez, rfl⟩) rx ?_
      rw [← valV_any, show (kvs.any fun kv => decide (kv.1 = z)) = (ks.any fun k => decide (k = z)) by rw [← e3, List.any_map]; rfl, hk]
      exact h _ (.bl _)
    cases a with
    | int i => exact key (Sum.inl i) da.int (Option.some.inj hk)
    | str i => exact key (Sum.inr i) da.str (Option.some.inj hk)
    | _ => cases hk
  | _ => cases hk
theorem o_in (hu : X.A.units + 200 < cLine) : OpR X (compareOp .In) (rOf X opIn) :=
  in_both hu (op := .In) (fun k => k) (fun a b c d e f => in_list_data a b c d e f) (fun a b c d e f => in_tuple_data a b c d e f) fun I g r q => d_in (by omega) I g r fun s' I' => ⟨.bl _, _, I', rfl, q⟩
theorem o_nin (hu : X.A.units + 200 < cLine) : OpR X (compareOp .NotIn) (rOf X opNin) :=
  in_both hu (op := .NotIn) not (fun a b c d e f => notIn_list_data a b c d e f) (fun a b c d e f => notIn_tuple_data a b c d e f) fun I g r q => d_notIn (by omega) I g r fun s' I' => ⟨.bl _, _, I', rfl, q⟩

/-! ### -x, ~x -/
def mUn (f : Int → Int) (m : M RV) : M RV := m.bd fun q e => match q with
  | .va (.int i) => .ok (.va (.int (f i))) e
  | _ => .st
theorem je_un {W : WX} {pos : Pos} {a : Expr} {m : M RV} {op : UnaryOp} {f : Int → Int} (ho : UnR X (unaryOp op) (rU fun i => .int (f i))) (ha : JE X W a m) : JE X W (.UnaryOp op a pos) (mUn f m) := by
  obtain ⟨t, p, q⟩ := ha.ex
  refine ⟨_, pe_un ho p, fun ka G H s E Q R h => q ka G H s E _ R ?_⟩
  unfold mUn M.bd at h
  cases hm : m E with
  | st => rw [hm] at h; exact h.elim
  | ex c fs e1 => rw [hm] at h; exact h
  | ok ra E1 =>
    rw [hm] at h
    dsimp only at h
    intro x G1 ka1 H1 R1 S1 D1
    cases ra with
    | ow t => exact h.elim
    | br i => exact h.elim
    | va t =>
      cases t with
      | int i =>
        cases D1
        exact ⟨i, rfl, h _ G1 ka1 H1 R1 (S1.less fun a x => x.elim .inl fun ⟨_, z, _⟩ => by cases z) (.int _)⟩
      | _ => exact h.elim

/-! ### truth -/
def tru : T → Option Bool
  | .non => some false
  | .bl b => some b
  | .int i => some (i != 0)
  | .str x => if x.length ≤ sz then some ((x.length : Int) != 0) else none
  | .tup ts => some (!ts.isEmpty)
  | .lst ts => some (!ts.isEmpty)
  | .dct ks _ => some (!ks.isEmpty)
  | _ => none
theorem Dens.empty {ka : List Addr} {G : Hp} {vs : List V} {ts : List T} (d : Dens X.K X.mg ka G vs ts) : vs.isEmpty = ts.isEmpty := by
  cases d <;> rfl
theorem PDen.truth {ka : List Addr} {G H : Hp} (hg : GLe G H) {v : V} {t : T} {k : Bool} (d : PDen X.K X.mg ka G H v t) (h : tru t = some k) : TruV X.K v H k := by
  cases t with
  | non => rw [d.non]; exact (Option.some.inj h).symm
  | bl b => rw [d.bl]; exact (Option.some.inj h).symm
  | int i => rw [d.int]; exact (Option.some.inj h).symm
  | str x =>
    rw [d.str]
    have h : (if x.length ≤ sz then some ((x.length : Int) != 0) else none) = some k := h
    by_cases hc : x.length ≤ sz
    · rw [if_pos hc] at h
      exact ⟨sz_eq hc, (Option.some.inj h).symm⟩
    · rw [if_neg hc] at h; cases h
  | tup ts =>
    obtain ⟨p, vs, rfl, q, d⟩ := d.seqT hg
    exact .inr (.inl ⟨vs, q, by rw [d.empty]; exact (Option.some.inj h).symm⟩)
  | lst ts =>
    obtain ⟨p, vs, rfl, q, d⟩ := d.seqL hg
    exact .inl ⟨vs, SqL.of q, by rw [d.empty]; exact (Option.some.inj h).symm⟩
  | dct ks ts =>
    obtain ⟨p, kvs, rfl, q, e, d⟩ := d.dict hg
    refine .inr (.inr ⟨kvs, q, ?_⟩)
    rw [← Option.some.inj h, ← e]
    cases kvs <;> rfl
  | _ => cases h
/-- a value's truth -/
def mTr (m : M RV) : M Bool := m.bd fun q e => match pk e q with
  | some t => match tru t with
    | some k => .ok k e
    | none => .st
  | none => .st
section
variable {W : WX} {pos : Pos} {e a b c : Expr} {rest : List Expr} {m ma mb : M RV} {mc : M Bool}
theorem tru_of {t : TE} (q : ∀ ka G H s E Q, Rel X.K X.mg ka G H s E → EPo X W ka G H s (Own s E.r) (m E) Q → t s H Q) {ka : List Addr} {G H : Hp} {s : L2.St} {E : Ev} {Q : V → Hp → Prop} (R : Rel X.K X.mg ka G H s E)
    (h : match (mTr m) E with
      | .st => False
      | .ok k E1 => ∀ v q0 G1 ka1 H1, m E = .ok q0 E1 → Rel X.K X.mg ka1 G1 H1 s E1 → Stp ka G H (Own s E.r) ka1 G1 H1 (OwV s E1.r v q0) → DV X.K X.mg ka1 G1 H1 s E1.r v q0 → TruV X.K v H1 k → Q v H1
      | .ex c fs e => XPo X W ka G H (Own s E.r) c fs e) : t s H Q := by
  refine q ka G H s E _ R ?_
  unfold mTr M.bd at h
  cases hm : m E with
  | st => rw [hm] at h; exact h.elim
  | ex c fs e1 => rw [hm] at h; exact h
  | ok ra E1 =>
    rw [hm] at h
    dsimp only at h
    intro x G1 ka1 H1 R1 S1 D1
    cases h1 : pk E1 ra with
    | none => rw [h1] at h; exact h.elim
    | some t =>
      rw [h1] at h
      dsimp only at h
      cases h2 : tru t with
      | none => rw [h2] at h; exact h.elim
      | some k =>
        rw [h2] at h
        exact h x ra G1 ka1 H1 rfl R1 S1 D1 ((R1.pk D1 h1).truth R1.sub h2)
/-- an expression's truth, as a test -/
theorem jt_tr (hm : JE X W e m) (he : ∀ whole, isTrue e X.env whole = (do let v ← whole; standAt e.pos; holding [v] (truthy v)) := by intro _; rfl) : JT X W e (mTr m) := by
  obtain ⟨t, p, q⟩ := hm.ex
  refine ⟨_, pt_truth p he, fun ka G H s E Q R h => tru_of q R ?_⟩
  cases hm : mTr m E with
  | st => rw [hm] at h; exact h
  | ex c fs e1 => rw [hm] at h; exact h
  | ok k E1 =>
    rw [hm] at h
    exact fun v q0 G1 ka1 H1 _ R1 S1 _ tr => ⟨k, tr, h G1 ka1 H1 R1 (S1.less fun a x => .inl x)⟩
def mNot (m : M Bool) : M Bool := m.bd fun k e => .ok (!k) e
theorem jt_not (h : JT X W a mc) : JT X W (.UnaryOp .Not a pos) (mNot mc) := by
  obtain ⟨t, p, q⟩ := h.ex
  refine ⟨_, pt_not p, fun ka G H s E Q R h => q ka G H s E _ R ?_⟩
  unfold mNot M.bd at h
  cases hm : mc E with
  | st => rw [hm] at h; exact h
  | ex c fs e1 => rw [hm] at h; exact h
  | ok k E1 =>
    rw [hm] at h
    exact h
/-- not x as a value -/
def mNotV (m : M RV) : M RV := (mTr m).bd fun k e => .ok (.va (.bl (!k))) e
theorem va_less {s : L2.St} {r : List Sl} {v : V} {t : T} {O : Addr → Prop} (hO : ∀ a, Own s r a → O a) : ∀ a, OwV s r v (.va t) a → O a := fun a x => x.elim (hO a) fun ⟨_, z, _⟩ => by cases z
theorem je_not (h : JE X W a m) : JE X W (.UnaryOp .Not a pos) (mNotV m) := by
  obtain ⟨t, p, q⟩ := h.ex
  refine ⟨_, pe_notT p, fun ka G H s E Q R h => tru_of q R ?_⟩
  unfold mNotV M.bd at h
  cases hm : mTr m E with
  | st => rw [hm] at h; exact h
  | ex c fs e1 => rw [hm] at h; exact h
  | ok k E1 =>
    rw [hm] at h
    exact fun v q0 G1 ka1 H1 _ R1 S1 _ tr => ⟨k, tr, h _ G1 ka1 H1 R1 (S1.less fun a x => va_less (fun _ y => .inl y) a x) (.bl _)⟩
/-! and, or: tests -/
def mAnd (a b : M Bool) : M Bool := a.bd fun k => if k then b else fun e => .ok false e
def mOr (a b : M Bool) : M Bool := a.bd fun k => if k then fun e => .ok true e else b
theorem jw_and1 {mt : M Bool} (h : JT X W a mt) : JW X W (.BoolOp .And [a] pos) mt := by
  obtain ⟨t, p, q⟩ := h.ex
  exact ⟨t, pw_and1 p, q⟩
theorem jw_or1 {mt : M Bool} (h : JT X W a mt) : JW X W (.BoolOp .Or [a] pos) mt := by
  obtain ⟨t, p, q⟩ := h.ex
  exact ⟨t, pw_or1 p, q⟩
theorem jw_and {mt mu : M Bool} (h : JT X W a mt) (h2 : JW X W (.BoolOp .And (b :: rest) pos) mu) : JW X W (.BoolOp .And (a :: b :: rest) pos) (mAnd mt mu) := by
  obtain ⟨t, p, q⟩ := h.ex
  obtain ⟨t2, p2, q2⟩ := h2.ex
  refine ⟨_, pw_and p p2, fun ka G H s E Q R h => q ka G H s E _ R ?_⟩
  unfold mAnd M.bd at h
  cases hm : mt E with
  | st => rw [hm] at h; exact h
  | ex c fs e1 => rw [hm] at h; exact h
  | ok k E1 =>
    rw [hm] at h
    intro G1 ka1 H1 R1 S1
    cases k with
    | true => exact q2 ka1 G1 H1 s E1 Q R1 (h.later S1)
    | false => exact h G1 ka1 H1 R1 S1
theorem jw_or {mt mu : M Bool} (h : JT X W a mt) (h2 : JW X W (.BoolOp .Or (b :: rest) pos) mu) : JW X W (.BoolOp .Or (a :: b :: rest) pos) (mOr mt mu) := by
  obtain ⟨t, p, q⟩ := h.ex
  obtain ⟨t2, p2, q2⟩ := h2.ex
  refine ⟨_, pw_or p p2, fun ka G H s E Q R h => q ka G H s E _ R ?_⟩
  unfold mOr M.bd at h
  cases hm : mt E with
  | st => rw [hm] at h; exact h
  | ex c fs e1 => rw [hm] at h; exact h
  | ok k E1 =>
    rw [hm] at h
    intro G1 ka1 H1 R1 S1
    cases k with
    | false => exact q2 ka1 G1 H1 s E1 Q R1 (h.later S1)
    | true => exact h G1 ka1 H1 R1 S1
/-! and, or: values -/
def mAndV (ma mb : M RV) : M RV := ma.bd fun q e => match pk e q with
  | some t => match tru t with
    | some true => mb e
    | some false => .ok q e
    | none => .st
  | none => .st
def mOrV (ma mb : M RV) : M RV := ma.bd fun q e => match pk e q with
  | some t => match tru t with
    | some false => mb e
    | some true => .ok q e
    | none => .st
  | none => .st
theorem je_one {op} (h : JE X W a m) : JE X W (.BoolOp op [a] pos) m := by
  obtain ⟨t, p, q⟩ := h.ex
  exact ⟨t, pe_one p, q⟩
theorem je_and (h : JE X W a ma) (h2 : JE X W (.BoolOp .And (b :: rest) pos) mb) : JE X W (.BoolOp .And (a :: b :: rest) pos) (mAndV ma mb) := by
  obtain ⟨t, p, q⟩ := h.ex
  obtain ⟨t2, p2, q2⟩ := h2.ex
  refine ⟨_, pe_andT p p2, fun ka G H s E Q R h => q ka G H s E _ R ?_⟩
  unfold mAndV M.bd at h
  cases hm : ma E with
  | st => rw [hm] at h; exact h
  | ex c fs e1 => rw [hm] at h; exact h
  | ok q0 E1 =>
    rw [hm] at h
    dsimp only at h
    intro x G1 ka1 H1 R1 S1 D1
    cases h1 : pk E1 q0 with
    | none => rw [h1] at h; exact h.elim
    | some t =>
      rw [h1] at h
      dsimp only at h
      cases h2 : tru t with
      | none => rw [h2] at h; exact h.elim
      | some k =>
        rw [h2] at h
        refine ⟨k, (R1.pk D1 h1).truth R1.sub h2, ?_⟩
        cases k with
        | true => exact q2 ka1 G1 H1 s E1 Q R1 (EPo.later (S1.less fun a x => .inl x) h)
        | false => exact h x G1 ka1 H1 R1 S1 D1
theorem je_or (h : JE X W a ma) (h2 : JE X W (.BoolOp .Or (b :: rest) pos) mb) : JE X W (.BoolOp .Or (a :: b :: rest) pos) (mOrV ma mb) := by
  obtain ⟨t, p, q⟩ := h.ex
  obtain ⟨t2, p2, q2⟩ := h2.ex
  refine ⟨_, pe_orT p p2, fun ka G H s E Q R h => q ka G H s E _ R ?_⟩
  unfold mOrV M.bd at h
  cases hm : ma E with
  | st => rw [hm] at h; exact h
  | ex c fs e1 => rw [hm] at h; exact h
  | ok q0 E1 =>
    rw [hm] at h
    dsimp only at h
    intro x G1 ka1 H1 R1 S1 D1
    cases h1 : pk E1 q0 with
    | none => rw [h1] at h; exact h.elim
    | some t =>
      rw [h1] at h
      dsimp only at h
      cases h2 : tru t with
      | none => rw [h2] at h; exact h.elim
      | some k =>
        rw [h2] at h
        refine ⟨k, (R1.pk D1 h1).truth R1.sub h2, ?_⟩
        cases k with
        | false => exact q2 ka1 G1 H1 s E1 Q R1 (EPo.later (S1.less fun a x => .inl x) h)
        | true => exact h x G1 ka1 H1 R1 S1 D1
def mIf (c : M Bool) (a b : M RV) : M RV := c.bd fun k => if k then a else b
theorem je_if (hc : JT X W c mc) (h : JE X W a ma) (h2 : JE X W b mb) : JE X W (.IfExp c a b pos) (mIf mc ma mb) := by
  obtain ⟨t, p, q⟩ := hc.ex
  obtain ⟨t1, p1, q1⟩ := h.ex
  obtain ⟨t2, p2, q2⟩ := h2.ex
  refine ⟨_, pe_ifExp p p1 p2, fun ka G H s E Q R h => q ka G H s E _ R ?_⟩
  unfold mIf M.bd at h
  cases hm : mc E with
  | st => rw [hm] at h; exact h
  | ex c fs e1 => rw [hm] at h; exact h
  | ok k E1 =>
    rw [hm] at h
    intro G1 ka1 H1 R1 S1
    cases k with
    | true => exact q1 ka1 G1 H1 s E1 Q R1 (EPo.later S1 h)
    | false => exact q2 ka1 G1 H1 s E1 Q R1 (EPo.later S1 h)
/-! a < b < c -/
def mCh (f g : T → T → Option OR) (ma mb mc : M RV) : M RV := ma.bd fun ra => mb.bd fun rb e => match pk e ra, pk e rb with
  | some a, some b => match f a b with
    | some (.sm (.bl true)) => (mc.bd fun rc e => match pk e rb, pk e rc with
      | some b, some c => ofOR (g b c) e
      | _, _ => .st) e
    | some (.sm (.bl false)) => .ok (.va (.bl false)) e
    | _ => .st
  | _, _ => .st
theorem chain_of {f g : T → T → Option OR} {mc : M RV} {ta tb tc : TE} (qa : ∀ ka G H s E Q, Rel X.K X.mg ka G H s E → EPo X W ka G H s (Own s E.r) (ma E) Q → ta s H Q)
    (qb : ∀ ka G H s E Q, Rel X.K X.mg ka G H s E → EPo X W ka G H s (Own s E.r) (mb E) Q → tb s H Q) (qc : ∀ ka G H s E Q, Rel X.K X.mg ka G H s E → EPo X W ka G H s (Own s E.r) (mc E) Q → tc s H Q)
    {ka : List Addr} {G H : Hp} {s : L2.St} {E : Ev} {Q : VK} (R : Rel X.K X.mg ka G H s E) (h : EPo X W ka G H s (Own s E.r) (mCh f g ma mb mc E) Q) : tChain (rOf X f) (rOf X g) ta tb tc s H Q := by
  refine two_of qa qb R h fun ra rb E2 x y ka2 G2 H2 O2 R2 S hO dx dy hk => ?_
  cases h1 : pk E2 ra with
  | none => rw [h1] at hk; exact hk.elim
  | some u =>
    cases h2 : pk E2 rb with
    | none => rw [h1, h2] at hk; exact hk.elim
    | some w =>
      rw [h1, h2] at hk
      dsimp only at hk
      refine ⟨ka2, G2, u, w, R2.sub, R2.pk dx h1, R2.pk dy h2, ?_⟩
      cases hf : f u w with
      | none => rw [hf] at hk; exact hk.elim
      | some o =>
        rw [hf] at hk
        cases o with
        | sm t =>
          cases t with
          | bl k =>
            intro v d
            cases d
            refine ⟨k, rfl, ?_⟩
            cases k with
            | false => exact hk _ G2 ka2 H2 R2 (S.less fun a x => va_less hO a x) (.bl _)
            | true =>
              have S' : Stp ka G H (Own s E.r) ka2 G2 H2 (Own s E2.r) := S.less hO
              refine qc ka2 G2 H2 s E2 _ R2 ?_
              dsimp only [M.bd] at hk
              cases hm : mc E2 with
              | st => rw [hm] at hk; exact hk.elim
              | ex c fs e1 => rw [hm] at hk; exact XPo.later S' hk
              | ok rc E3 =>
                rw [hm] at hk
                dsimp only at hk
                intro z G3 ka3 H3 R3 S3 D3
                obtain ⟨dy3, _⟩ := dy.stp (e' := E3) (S3.less fun a x => x) fun a x => .inl x
                cases h4 : pk E3 rb with
                | none => rw [h4] at hk; exact hk.elim
                | some b =>
                  cases h5 : pk E3 rc with
                  | none => rw [h4, h5] at hk; exact hk.elim
                  | some c =>
                    rw [h4, h5] at hk
                    exact ⟨ka3, G3, b, c, R3.sub, R3.pk dy3 h4, R3.pk D3 h5, opo_of R3 (S'.trans S3) (fun a x => .inl x) hk⟩
          | _ => exact hk.elim
        | _ => exact hk.elim
theorem je_chain {f g : T → T → Option OR} {mc : M RV} {op op' : CmpOp} (ho : OpR X (compareOp op) (rOf X f)) (ho' : OpR X (compareOp op') (rOf X g)) (ha : JE X W a ma) (hb : JE X W b mb) (hc : JE X W c mc)
    (hm : lastMarks [op, op'] [b, c] = false := by with_unfolding_all rfl) : JE X W (.Compare a [op, op'] [b, c] pos) (mCh f g ma mb mc) := by
  obtain ⟨ta, pa, qa⟩ := ha.ex
  obtain ⟨tb, pb, qb⟩ := hb.ex
  obtain ⟨tc, pc, qc⟩ := hc.ex
  exact ⟨_, pe_chain ho ho' pa pb pc hm, fun ka G H s E Q R h => chain_of qa qb qc R h⟩
theorem jt_chain {f g : T → T → Option OR} {mc : M RV} {op op' : CmpOp} (ho : OpR X (compareOp op) (rOf X f)) (ho' : OpR X (compareOp op') (rOf X g)) (ha : JE X W a ma) (hb : JE X W b mb) (hc : JE X W c mc)
    (hm : lastMarks [op, op'] [b, c] = false := by with_unfolding_all rfl) : JT X W (.Compare a [op, op'] [b, c] pos) (mB (mCh f g ma mb mc)) := by
  obtain ⟨ta, pa, qa⟩ := ha.ex
  obtain ⟨tb, pb, qb⟩ := hb.ex
  obtain ⟨tc, pc, qc⟩ := hc.ex
  exact ⟨_, pt_chain ho ho' pa pb pc hm, fun ka G H s E Q R h => tb_of (fun ka G H s E Q R h => chain_of qa qb qc R h) R h⟩
end
end
end PL
-- PL6
/-! The pure layer 6: displays, subscripts, slices, calls of built-ins. -/
namespace PL
open PySem PySem.Spec PyProof.Rows L2 PySem.SeqAt PySem.W

section
variable {X : Cx} {W : WX} {pos : Pos} {a b e : Expr} {es : List Expr} {m ma mb : M RV} {ms : M (List RV)}
/-! ### displays -/
def mTup (ms : M (List RV)) : M RV := ms.bd fun rs e => match fzs e rs with
  | some (ts, e') => if ts.length ≤ sz then .ok (.va (.tup ts)) e' else .st
  | none => .st
def mLst (ms : M (List RV)) : M RV := ms.bd fun rs e => match fzs e rs with
  | some (ts, e') => if ts.length ≤ sz then .ok (.ow (.lst ts)) e' else .st
  | none => .st
/-- arguments evaluated, then frozen -/
theorem frz_of {t : TA} (q : ∀ ka G H s E Q, Rel X.K X.mg ka G H s E → APo X W ka G H s (Own s E.r) (ms E) Q → t s H Q) {ka : List Addr} {G H : Hp} {s : L2.St} {E : Ev} {Q : List V → Hp → Prop} {k : List T → M RV} {Q2 : VK} (R : Rel X.K X.mg ka G H s E)
    (h : EPo X W ka G H s (Own s E.r) ((ms.bd fun rs e => match fzs e rs with
      | some (ts, e') => k ts e'
      | none => .st) E) Q2)
    (hk : ∀ vs ts E2 ka2 G2 H2, Rel X.K X.mg ka2 G2 H2 s E2 → Stp ka G H (Own s E.r) ka2 G2 H2 (Own s E2.r) → Dens X.K X.mg ka2 G2 vs ts → EPo X W ka G H s (Own s E.r) (k ts E2) Q2 → Q vs H2) : t s H Q := by
  refine q ka G H s E _ R ?_
  unfold M.bd at h
  cases hm : ms E with
  | st => rw [hm] at h; exact h.elim
  | ex c fs e1 => rw [hm] at h; exact h
  | ok rs E1 =>
    rw [hm] at h
    dsimp only at h
    intro vs G1 ka1 H1 R1 S1 D1
    cases hf : fzs E1 rs with
    | none => rw [hf] at h; exact h.elim
    | some p =>
      obtain ⟨ts, E2⟩ := p
      rw [hf] at h
      dsimp only at h
      obtain ⟨G2, R2, d2, S2, _⟩ := Rel.fzs R1 D1 hf
      exact hk vs ts E2 ka1 G2 H1 R2 (S1.trans S2) d2 h
theorem ite_ok {c : Prop} [Decidable c] {ka : List Addr} {G H : Hp} {s : L2.St} {O : Addr → Prop} {r : Res RV} {Q : VK} (h : EPo X W ka G H s O (if c then r else .st) Q) : c ∧ EPo X W ka G H s O r Q := by
  by_cases hc : c
  · rw [if_pos hc] at h; exact ⟨hc, h⟩
  · rw [if_neg hc] at h; exact h.elim
theorem je_tup {x1} (h : JA X W es ms) : JE X W (.Tuple es x1 pos) (mTup ms) := by
  obtain ⟨t, p, q⟩ := h.ex
  refine ⟨_, pe_tup p, fun ka G H s E Q R h => frz_of (k := fun ts e' => if ts.length ≤ sz then .ok (.va (.tup ts)) e' else .st) q R h fun vs ts E2 ka2 G2 H2 R2 S2 d2 h => ?_⟩
  obtain ⟨hc, h⟩ := ite_ok h
  exact ⟨by rw [d2.length]; exact sz_eq hc, fun p hp => opo_of (q := some (.tp ts)) R2 S2 (fun _ x => x) h p vs hp d2⟩
theorem je_lst (h : JA X W es ms) : JE X W (.List es pos) (mLst ms) := by
  obtain ⟨t, p, q⟩ := h.ex
  refine ⟨_, pe_lst p, fun ka G H s E Q R h => frz_of (k := fun ts e' => if ts.length ≤ sz then .ok (.ow (.lst ts)) e' else .st) q R h fun vs ts E2 ka2 G2 H2 R2 S2 d2 h => ?_⟩
  obtain ⟨hc, h⟩ := ite_ok h
  exact ⟨by rw [d2.length]; exact sz_eq hc, fun p hp => opo_of (q := some (.ls ts)) R2 S2 (fun _ x => x) h p vs hp d2⟩
def mDct0 : M RV := fun e => .ok (.ow (.dct [] [])) e
theorem je_dct0 : JE X W (.Dict [] [] pos) mDct0 := by
  refine ⟨_, pe_dnewK, fun ka G H s E Q R h p hp => ?_⟩
  exact opo_of (q := some (.dk [] [])) R Stp.refl (fun _ x => x) h p [] hp rfl .nil
/-- {k: v}, both constants -/
def mDct1 (k : Key) (t : T) : M RV := fun e => .ok (.ow (.dct [k] [t])) e
theorem je_dct1 {k v : Expr} {kk : Key} {x : V} {t : T} (hk : PE X k (tC (kV kk))) (hv : PE X v (tC x)) (d : ∀ ka G, Den X.K X.mg ka G x t) : JE X W (.Dict [some k] [v] pos) (mDct1 kk t) := by
  refine ⟨_, pe_disp (pps_cons hk hv pps_nil) rfl rfl (fun z => by cases z) (by simp), fun ka G H s E Q R h p hp => ?_⟩
  refine ⟨upd_same, [(kk, x)], rfl, by simp, ?_⟩
  have e1 : upd (upd H p (.dK [])) p (.dK (mergeK [] [(kk, x)])) = upd H p (.dK [(kk, x)]) := upd_upd
  rw [e1]
  exact opo_of (q := some (.dk [kk] [t])) R Stp.refl (fun _ x => x) h p [(kk, x)] hp rfl (.cons (d _ _) .nil)

/-! ### subscripts -/
def ixT : T → T → Option OR
  | .lst ts, .int i => (atI ts i).map .sm
  | .scr ts, .int i => (atI ts i).map .sm
  | .tup ts, .int i => (atI ts i).map .sm
  | .str x, .int i => if x.length ≤ sz then (atI x.cps.toList i).map (fun c => .sm (.str ⟨#[c]⟩)) else none
  | .dct ks ts, .int i => ((ks.zip ts).find? fun p => decide (p.1 = (Sum.inl i : Key))).map fun p => .sm p.2
  | .dct ks ts, .str x => ((ks.zip ts).find? fun p => decide (p.1 = (Sum.inr x : Key))).map fun p => .sm p.2
  | .dcz ks ts, .int i => ((ks.zip ts).find? fun p => decide (p.1 = (Sum.inl i : Key))).map fun p => .sm p.2
  | .dcz ks ts, .str x => ((ks.zip ts).find? fun p => decide (p.1 = (Sum.inr x : Key))).map fun p => .sm p.2
  | _, _ => none
theorem Dens.atI {ka : List Addr} {G : Hp} {vs : List V} {ts : List T} (d : Dens X.K X.mg ka G vs ts) {i : Int} {t : T} (h : L2.atI ts i = some t) : ∃ v, L2.atI vs i = some v ∧ Den X.K X.mg ka G v t := by
  unfold L2.atI at h ⊢
  rw [d.length]
  cases hi : ixN ts.length i with
  | none => rw [hi] at h; cases h
  | some j =>
    rw [hi] at h
    exact d.get h
theorem omap_some {α : Type} {q : Option α} {g : α → OR} {ka : List Addr} {G H : Hp} {Q : VK} (h : OPo X.K X.mg ka G H (q.map g) Q) : ∃ k, q = some k ∧ OPo X.K X.mg ka G H (some (g k)) Q := by
  cases q with
  | none => exact h.elim
  | some k => exact ⟨k, rfl, h⟩
theorem ix_dict (hu : X.A.units + 1 < cLine) : IxR X (fun x y H Q => ∃ a v, x = .ref a ∧ DGet H a y (some v) ∧ Q v H) := by
  intro value slice pins s σ H x y v u Q I rx ry h hs
  obtain ⟨p, z, rfl, g, q⟩ := h
  obtain rfl : v = Value.ref p := rx
  exact tail_any (dict_typeIs I g) PySem.F.slot_dict_getitem.lookup (d_getItem hu I g ry fun w' s' I' rw' => ⟨z, H, I', rw', q⟩) hs
theorem find_den {ka : List Addr} {G : Hp} {z : Key} : ∀ {kvs : List (Key × V)} {ts : List T}, Dens X.K X.mg ka G (kvs.map (·.2)) ts → ∀ {p : Key × T}, ((kvs.map (·.1)).zip ts).find? (fun p => decide (p.1 = z)) = some p → ∃ v, valV kvs z = some v ∧ Den X.K X.mg ka G v p.2
  | [], ts, d, p, h => by cases h
  | kv :: kvs, [], d, p, h => by cases h
  | kv :: kvs, t :: ts, d, p, h => by
    cases d with
    | cons d ds =>
      rw [List.map_cons, List.zip_cons_cons, List.find?_cons] at h
      by_cases e : kv.1 = z
      · rw [decide_eq_true e] at h
        cases Option.some.inj h
        exact ⟨_, valV_pos e, d⟩
      · rw [decide_eq_false e] at h
        obtain ⟨v, e1, d1⟩ := find_den ds h
        exact ⟨v, by rw [valV_neg e]; exact e1, d1⟩
theorem ix_all (hu : X.A.units + 200 < cLine) : IxR X (rOf X ixT) := by
  intro value slice pins s σ H x y v u Q I rx ry ⟨ka, G, a, b, hg, da, db, h⟩ hs
  cases a with
  | lst ts =>
    cases b with
    | int i =>
      obtain ⟨t, e, h⟩ := omap_some h
      obtain ⟨p, vs, e1, q1, d1⟩ := da.seqL hg
      obtain ⟨z, e2, d2⟩ := d1.atI e
      exact ix_list value slice pins s σ H x y v u Q I rx ry ⟨p, vs, i, z, e1, db.int, SqL.of q1, e2, h z d2⟩ hs
    | _ => exact h.elim
  | scr ts =>
    cases b with
    | int i =>
      obtain ⟨t, e, h⟩ := omap_some h
      obtain ⟨p, vs, e1, q1, d1⟩ := da.seqS hg
      obtain ⟨z, e2, d2⟩ := d1.atI e
      exact ix_list value slice pins s σ H x y v u Q I rx ry ⟨p, vs, i, z, e1, db.int, q1, e2, h z d2⟩ hs
    | _ => exact h.elim
  | tup ts =>
    cases b with
    | int i =>
      obtain ⟨t, e, h⟩ := omap_some h
      obtain ⟨p, vs, e1, q1, d1⟩ := da.seqT hg
      obtain ⟨z, e2, d2⟩ := d1.atI e
      exact ix_tup value slice pins s σ H x y v u Q I rx ry ⟨p, vs, i, z, e1, db.int, q1, e2, h z d2⟩ hs
    | _ => exact h.elim
  | str w =>
    cases b with
    | int i =>
      obtain ⟨hc, h⟩ := ite_some' h
      obtain ⟨c, e, h⟩ := omap_some h
      exact ix_str value slice pins s σ H x y v u Q I rx ry ⟨w, i, c, da.str, db.int, sz_eq hc, e, h _ (.str _)⟩ hs
    | _ => exact h.elim
  | dct ks ts =>
    obtain ⟨p, kvs, e1, e2, e3, d⟩ := da.dict hg
    subst e3
    cases b with
    | int i =>
      obtain ⟨c, e, h⟩ := omap_some h
      obtain ⟨z, e4, d4⟩ := find_den d e
      have g : DGet H p y (some z) := by rw [db.int, ← e4]; exact DGet.k (k := Sum.inl i) e2
      exact ix_dict (by omega) value slice pins s σ H x y v u Q I rx ry ⟨p, z, e1, g, h z d4⟩ hs
    | str i =>
      obtain ⟨c, e, h⟩ := omap_some h
      obtain ⟨z, e4, d4⟩ := find_den d e
      have g : DGet H p y (some z) := by rw [db.str, ← e4]; exact DGet.k (k := Sum.inr i) e2
      exact ix_dict (by omega) value slice pins s σ H x y v u Q I rx ry ⟨p, z, e1, g, h z d4⟩ hs
    | _ => exact h.elim
  | dcz ks ts =>
    obtain ⟨p, od, kvs, e1, e2, e3, d⟩ := da.dictz hg
    subst e3
    cases b with
    | int i =>
      obtain ⟨c, e, h⟩ := omap_some h
      obtain ⟨z, e4, d4⟩ := find_den d e
      have g : DGet H p y (some z) := by rw [db.int, ← e4]; exact .inl ⟨kvs, Sum.inl i, .inr ⟨od, e2⟩, rfl, rfl⟩
      exact ix_dict (by omega) value slice pins s σ H x y v u Q I rx ry ⟨p, z, e1, g, h z d4⟩ hs
    | str i =>
      obtain ⟨c, e, h⟩ := omap_some h
      obtain ⟨z, e4, d4⟩ := find_den d e
      have g : DGet H p y (some z) := by rw [db.str, ← e4]; exact .inl ⟨kvs, Sum.inr i, .inr ⟨od, e2⟩, rfl, rfl⟩
      exact ix_dict (by omega) value slice pins s σ H x y v u Q I rx ry ⟨p, z, e1, g, h z d4⟩ hs
    | _ => exact h.elim
  | _ => exact h.elim
theorem je_ix (hu : X.A.units + 200 < cLine) (ha : JE X W a ma) (hb : JE X W b mb) (hs : PlainIx b := by intro _ _; rfl) : JE X W (.Subscript a b pos) (mOp ixT ma mb) := by
  obtain ⟨ta, pa, qa⟩ := ha.ex
  obtain ⟨tb, pb, qb⟩ := hb.ex
  refine ⟨_, pe_ix (ix_all hu) pa pb hs, fun ka G H s E Q R h => two_of qa qb R h fun ra rb E2 x y ka2 G2 H2 O2 R2 S hO dx dy hk => ?_⟩
  cases h1 : pk E2 ra with
  | none => rw [h1] at hk; exact hk.elim
  | some u =>
    cases h2 : pk E2 rb with
    | none => rw [h1, h2] at hk; exact hk.elim
    | some w =>
      rw [h1, h2] at hk
      exact ⟨ka2, G2, u, w, R2.sub, R2.pk dx h1, R2.pk dy h2, opo_of R2 S hO hk⟩
end

/-! ### a dict display that is never written again -/
theorem pe_locked {X : Cx} {e : Expr} {t : TE} (h : PE X e t) : PE X e (fun σ H Q => t σ H fun v H1 => ∃ d u, H1 d = some u ∧ Mut (some u) ∧ ∀ od, Q v (upd H1 d (.frz od u))) := by
  refine ⟨fun pins s σ H Q I hw => ?_⟩
  refine thn (h.run pins s σ _ _ I hw) fun v s1 ⟨x, H1, I1, r, d, u, hd, mu, q⟩ => ?_
  obtain ⟨od, I2⟩ := I1.lock hd mu
  exact ⟨x, _, I2, r, q od⟩
def mDcz0 : M RV := fun e => .ok (.va (.dcz [] [])) e
def mDcz1 (k : Key) (t : T) : M RV := fun e => .ok (.va (.dcz [k] [t])) e
section
variable {X : Cx} {W : WX} {pos : Pos}
theorem dcz_new {ka : List Addr} {G H : Hp} {s : L2.St} {E : Ev} {Q : VK} {p : Addr} {od : Obj} {kvs : List (Key × V)} {ts : List T} (R : Rel X.K X.mg ka G H s E) (hp : H p = none) (d : Dens X.K X.mg ka G (kvs.map (·.2)) ts)
    (h : EPo X W ka G H s (Own s E.r) (.ok (.va (.dcz (kvs.map (·.1)) ts)) E) Q) : Q (.ref p) (upd H p (.frz od (.dK kvs))) := by
  refine h _ (upd G p (.frz od (.dK kvs))) ka _ (R.newG hp) ((Stp.newG R.sub hp).less fun a x => x.elim id fun ⟨_, z, _⟩ => by cases z) ?_
  exact .dcz upd_same (d.mono (GLe.newG (R.gfresh hp)) KLe.refl)
theorem je_dcz0 : JE X W (.Dict [] [] pos) mDcz0 := by
  refine ⟨_, pe_locked pe_dnewK, fun ka G H s E Q R h => fun p hp => ⟨p, _, upd_same, trivial, fun od => ?_⟩⟩
  rw [upd_upd]
  exact dcz_new (kvs := []) R hp .nil h
theorem je_dcz1 {k v : Expr} {kk : Key} {x : V} {t : T} (hk : PE X k (tC (kV kk))) (hv : PE X v (tC x)) (d : ∀ ka G, Den X.K X.mg ka G x t) : JE X W (.Dict [some k] [v] pos) (mDcz1 kk t) := by
  refine ⟨_, pe_locked (pe_disp (pps_cons hk hv pps_nil) rfl rfl (by simp) (by simp)), fun ka G H s E Q R h => ?_⟩
  intro p hp
  refine ⟨upd_same, [(kk, x)], rfl, by simp, p, _, upd_same, trivial, fun od => ?_⟩
  rw [upd_upd, upd_upd]
  exact dcz_new (kvs := [(kk, x)]) R hp (.cons (d ka G) .nil) h
end
end PL
-- PL7
/-! The pure layer 7: slices, calls of built-ins. -/
namespace PL
open PySem PySem.Spec PyProof.Rows L2 PySem.SeqAt PySem.W

section
variable {X : Cx} {W : WX} {pos : Pos} {a b e : Expr} {es : List Expr} {m ma mb : M RV} {ms : M (List RV)}
/-! ### slices -/
structure JO (X : Cx) (W : WX) (e : Option Expr) (m : M (Option Int)) : Prop where
  ex : ∃ t : TO, PO X e t ∧ ∀ ka G H s E (Q : Option Int → Hp → Prop), Rel X.K X.mg ka G H s E → (match m E with
    | .st => False
    | .ok o E1 => ∀ G1 ka1 H1, Rel X.K X.mg ka1 G1 H1 s E1 → Stp ka G H (Own s E.r) ka1 G1 H1 (Own s E1.r) → Q o H1
    | .ex c fs E1 => XPo X W ka G H (Own s E.r) c fs E1) → t s H Q
def mNoP : M (Option Int) := fun e => .ok none e
def mPart (m : M RV) : M (Option Int) := m.bd fun q e => match q with
  | .va (.int i) => .ok (some i) e
  | _ => .st
theorem jo_none : JO X W none mNoP := ⟨_, po_none, fun ka G H s E Q R h => h G ka H R Stp.refl⟩
theorem jo_some (h : JE X W e m) : JO X W (some e) (mPart m) := by
  obtain ⟨t, p, q⟩ := h.ex
  refine ⟨_, po_some p, fun ka G H s E Q R h => q ka G H s E _ R ?_⟩
  unfold mPart M.bd at h
  cases hm : m E with
  | st => rw [hm] at h; exact h.elim
  | ex c fs e1 => rw [hm] at h; exact h
  | ok ra E1 =>
    rw [hm] at h
    dsimp only at h
    intro x G1 ka1 H1 R1 S1 D1
    cases ra with
    | ow t => exact h.elim
    | br i => exact h.elim
    | va t =>
      cases t with
      | int i =>
        cases D1
        exact ⟨i, rfl, h G1 ka1 H1 R1 (S1.less fun a x => .inl x)⟩
      | _ => exact h.elim
def cutL {α : Type} (xs : List α) (lo hi : Option Int) : List α := (xs.drop (HT.sIx xs.length 0 lo)).take (HT.sIx xs.length xs.length hi - HT.sIx xs.length 0 lo)
def slT (lo hi : Option Int) : T → Option OR
  | .lst ts => some (.ls (cutL ts lo hi))
  | .scr ts => some (.ls (cutL ts lo hi))
  | .tup ts => if HT.sIx ts.length 0 lo = 0 ∧ HT.sIx ts.length ts.length hi = ts.length then some (.sm (.tup ts)) else some (.tp (cutL ts lo hi))
  | .str x => if x.length ≤ sz then some (.sm (.str (cutS x lo hi))) else none
  | _ => none
theorem Dens.cut {ka : List Addr} {G : Hp} {vs : List V} {ts : List T} (d : Dens X.K X.mg ka G vs ts) (lo hi : Option Int) : Dens X.K X.mg ka G (cutV vs lo hi) (cutL ts lo hi) := by
  unfold cutV cutL
  rw [d.length]
  exact (d.drop _).take _
theorem sl_all : SlR X (fun x lo hi H Q => ∃ ka G t, GLe G H ∧ PDen X.K X.mg ka G H x t ∧ OPo X.K X.mg ka G H (slT lo hi t) Q) := by
  intro pins s σ H x v vl vu lo hi sl Q I rx hs pl pu ⟨ka, G, t, hg, d, h⟩
  cases t with
  | lst ts =>
    obtain ⟨p, vs, e1, q1, d1⟩ := d.seqL hg
    exact sl_list pins s σ H x v vl vu lo hi sl Q I rx hs pl pu ⟨p, vs, e1, SqL.of q1, fun p' hp => h p' _ hp (d1.cut lo hi)⟩
  | scr ts =>
    obtain ⟨p, vs, e1, q1, d1⟩ := d.seqS hg
    exact sl_list pins s σ H x v vl vu lo hi sl Q I rx hs pl pu ⟨p, vs, e1, q1, fun p' hp => h p' _ hp (d1.cut lo hi)⟩
  | tup ts =>
    obtain ⟨p, vs, e1, q1, d1⟩ := d.seqT hg
    have dA : Den X.K X.mg ka G x (.tup ts) := d.elim (fun z => z.1) fun ⟨_, _, z⟩ => z.elim
    have h : OPo X.K X.mg ka G H (if HT.sIx ts.length 0 lo = 0 ∧ HT.sIx ts.length ts.length hi = ts.length then some (.sm (.tup ts)) else some (.tp (cutL ts lo hi))) Q := h
    refine sl_tupA pins s σ H x v vl vu lo hi sl Q I rx hs pl pu ⟨p, vs, e1, q1, fun hw => ?_, fun hw p' hp => ?_⟩
    · rw [d1.length] at hw
      rw [if_pos hw] at h
      exact e1 ▸ h _ dA
    · rw [d1.length] at hw
      rw [if_neg hw] at h
      exact h p' _ hp (d1.cut lo hi)
  | str z =>
    obtain ⟨hc, h⟩ := ite_some' h
    exact sl_str pins s σ H x v vl vu lo hi sl Q I rx hs pl pu ⟨z, d.str, sz_eq hc, h _ (.str _)⟩
  | _ => exact h.elim
def mSl (m : M RV) (l h : M (Option Int)) : M RV := m.bd fun q => l.bd fun lo => h.bd fun hi e => match pk e q with
  | some t => ofOR (slT lo hi t) e
  | none => .st
theorem je_sl {lo hi : Option Expr} {ml mh : M (Option Int)} {p2 : Pos} (he : JE X W e m) (hl : JO X W lo ml) (hh : JO X W hi mh) : JE X W (.Subscript e (.Slice lo hi none p2) pos) (mSl m ml mh) := by
  obtain ⟨t, p, q⟩ := he.ex
  obtain ⟨t1, p1, q1⟩ := hl.ex
  obtain ⟨t2, p2', q2⟩ := hh.ex
  refine ⟨_, pe_slice sl_all p p1 p2', fun ka G H s E Q R h => q ka G H s E _ R ?_⟩
  unfold mSl M.bd at h
  cases hm : m E with
  | st => rw [hm] at h; exact h.elim
  | ex c fs e1 => rw [hm] at h; exact h
  | ok ra E1 =>
    rw [hm] at h
    dsimp only at h
    intro x G1 ka1 H1 R1 S1 D1
    have S1' : Stp ka G H (Own s E.r) ka1 G1 H1 (Own s E1.r) := S1.less fun a x => .inl x
    refine q1 ka1 G1 H1 s E1 _ R1 ?_
    cases hm1 : ml E1 with
    | st => rw [hm1] at h; exact h.elim
    | ex c fs e1 => rw [hm1] at h; exact XPo.later S1' h
    | ok l E2 =>
      rw [hm1] at h
      dsimp only at h ⊢
      intro G2 ka2 H2 R2 S2
      have S2' := S1'.trans S2
      refine q2 ka2 G2 H2 s E2 _ R2 ?_
      cases hm2 : mh E2 with
      | st => rw [hm2] at h; exact h.elim
      | ex c fs e1 => rw [hm2] at h; exact XPo.later S2' h
      | ok u E3 =>
        rw [hm2] at h
        dsimp only at h ⊢
        intro G3 ka3 H3 R3 S3
        have D3 := (D1.stp (e' := E2) S2 fun _ x => x).1
        have D4 := (D3.stp (e' := E3) S3 fun _ x => x).1
        cases h1 : pk E3 ra with
        | none => rw [h1] at h; exact h.elim
        | some t =>
          rw [h1] at h
          exact ⟨ka3, G3, t, R3.sub, R3.pk D4 h1, opo_of R3 (S2'.trans S3) (fun _ x => x) h⟩
/-- x[::-1] of a list -/
def mRev (m : M RV) : M RV := m.bd fun q e => match pk e q with
  | some (.lst ts) => .ok (.ow (.lst ts.reverse)) e
  | _ => .st
theorem je_rev {k : Nat} {p1 p2 p3 : Pos} (he : JE X W e m) : JE X W (.Subscript e (.Slice none none (some (.UnaryOp .USub (.Constant (.int 1) k p1) p2)) p3) pos) (mRev m) := by
  obtain ⟨t, p, q⟩ := he.ex
  refine ⟨_, pe_revL p, fun ka G H s E Q R h => q ka G H s E _ R ?_⟩
  unfold mRev M.bd at h
  cases hm : m E with
  | st => rw [hm] at h; exact h.elim
  | ex c fs e1 => rw [hm] at h; exact h
  | ok ra E1 =>
    rw [hm] at h
    dsimp only at h
    intro x G1 ka1 H1 R1 S1 D1
    cases h1 : pk E1 ra with
    | none => rw [h1] at h; exact h.elim
    | some t =>
      rw [h1] at h
      cases t with
      | lst ts =>
        obtain ⟨p, vs, e1, q1, d1⟩ := (R1.pk D1 h1).seqL R1.sub
        exact ⟨p, vs, e1, SqL.of q1, fun p' hp => opo_of (q := some (.ls ts.reverse)) R1 (S1.less fun _ x => .inl x) (fun _ x => x) h p' _ hp d1.reverse⟩
      | _ => exact h.elim

/-! ### calls of built-ins by values -/
inductive PDens (K : PySem.W.Frag) (mg : Str → Option Value) (ka : List Addr) (G H : Hp) : List V → List T → Prop
  | nil : PDens K mg ka G H [] []
  | cons {v : V} {t : T} {vs : List V} {ts : List T} : PDen K mg ka G H v t → PDens K mg ka G H vs ts → PDens K mg ka G H (v :: vs) (t :: ts)
def pks (e : Ev) : List RV → Option (List T)
  | [] => some []
  | q :: qs => match pk e q with
    | none => none
    | some t => match pks e qs with
      | none => none
      | some ts => some (t :: ts)
theorem Rel.pks {ka : List Addr} {G H : Hp} {s : L2.St} {E : Ev} (R : Rel X.K X.mg ka G H s E) : ∀ {vs : List V} {qs : List RV}, DVs X.K X.mg ka G H s E.r vs qs → ∀ {ts : List T}, pks E qs = some ts → PDens X.K X.mg ka G H vs ts
  | _, _, .nil, ts, h => by cases Option.some.inj h; exact .nil
  | _, _, .cons (q := q) (qs := qs) d ds _, ts, h => by
    unfold PL.pks at h
    cases h1 : PL.pk E q with
    | none => rw [h1] at h; cases h
    | some t =>
      rw [h1] at h
      dsimp only at h
      cases h2 : PL.pks E qs with
      | none => rw [h2] at h; cases h
      | some us =>
        rw [h2] at h
        cases Option.some.inj h
        exact .cons (R.pk d h1) (Rel.pks R ds h2)
def rsOf (X : Cx) (F : List T → Option OR) : List V → Hp → VK → Prop := fun xs H Q => ∃ ka G ts, GLe G H ∧ PDens X.K X.mg ka G H xs ts ∧ OPo X.K X.mg ka G H (F ts) Q
def mCall (F : List T → Option OR) (ms : M (List RV)) : M RV := ms.bd fun rs e => match pks e rs with
  | some ts => ofOR (F ts) e
  | none => .st
theorem call_of {F : List T → Option OR} {t : TA} (q : ∀ ka G H s E Q, Rel X.K X.mg ka G H s E → APo X W ka G H s (Own s E.r) (ms E) Q → t s H Q) {ka : List Addr} {G H : Hp} {s : L2.St} {E : Ev} {Q : VK} (R : Rel X.K X.mg ka G H s E)
    (h : EPo X W ka G H s (Own s E.r) (mCall F ms E) Q) : t s H fun vs H1 => rsOf X F vs H1 Q := by
  refine q ka G H s E _ R ?_
  unfold mCall M.bd at h
  cases hm : ms E with
  | st => rw [hm] at h; exact h.elim
  | ex c fs e1 => rw [hm] at h; exact h
  | ok rs E1 =>
    rw [hm] at h
    dsimp only at h
    intro vs G1 ka1 H1 R1 S1 D1
    cases h1 : pks E1 rs with
    | none => rw [h1] at h; exact h.elim
    | some ts =>
      rw [h1] at h
      exact ⟨ka1, G1, ts, R1.sub, R1.pks D1 h1, opo_of R1 S1 (fun _ x => .inl x) h⟩
theorem je_callB {F : List T → Option OR} {id : String} {x : Str} {p : Pos} (hc : CallR X (.builtin id) (rsOf X F)) (hg : Gl X x) (hm : X.mg x = none) (hv : bootBuiltins x = some (.builtin id)) (ha : JA X W (e :: es) ms) (hn : x ≠ "__name__" := by decide) (hdb : (x == ("__debug__" : Str)) = false := by decide)
    (he : starEach (e :: es) X.env = (false, eval e X.env) :: starEach es X.env := by rfl) (hpl : (backTo pos (starEach es X.env)).any (·.1) = false := by rfl) : JE X W (.Call (.Name x p) (e :: es) [] pos) (mCall F ms) := by
  obtain ⟨t, pa, q⟩ := ha.ex
  exact ⟨_, pe_callB hc hg hm hv pa hn hdb he hpl, fun ka G H s E Q R h => call_of q R h⟩
theorem je_callTy {F : List T → Option OR} {ty : String} {x : Str} {p : Pos} (hc : CallR X (.type ty) (rsOf X F)) (hg : Gl X x) (hm : X.mg x = none) (hv : bootBuiltins x = some (.type ty)) (ha : JA X W (e :: es) ms) (hn : x ≠ "__name__" := by decide) (hdb : (x == ("__debug__" : Str)) = false := by decide)
    (he : starEach (e :: es) X.env = (false, eval e X.env) :: starEach es X.env := by rfl) (hpl : (backTo pos (starEach es X.env)).any (·.1) = false := by rfl) : JE X W (.Call (.Name x p) (e :: es) [] pos) (mCall F ms) := by
  obtain ⟨t, pa, q⟩ := ha.ex
  exact ⟨_, pe_callTy hc hg hm hv pa hn hdb he hpl, fun ka G H s E Q R h => call_of q R h⟩

def lenF : List T → Option OR
  | [.str x] => if x.length ≤ sz then some (.sm (.int x.length)) else none
  | [.tup ts] => some (.sm (.int ts.length))
  | [.lst ts] => some (.sm (.int ts.length))
  | [.scr ts] => some (.sm (.int ts.length))
  | [.dct ks _] => some (.sm (.int ks.length))
  | [.dcz ks _] => some (.sm (.int ks.length))
  | _ => none
/-- one argument -/
theorem one_F {F : List T → Option OR} {F1 : T → Option OR} {f : Value} (hF : ∀ ts, (∀ t, ts = [t] → F ts = F1 t) ∧ ((∀ t, ts ≠ [t]) → F ts = none))
    (h : ∀ (pins : List (Addr × Obj)) (s : Shared) (σ : L2.St) (H : Hp) (x : V) (us : List Value) (Q : VK) ka G t, L2.Inv X pins σ H s → Vals [x] us → GLe G H → PDen X.K X.mg ka G H x t → OPo X.K X.mg ka G H (F1 t) Q →
      wpAny (model X.prog X.w) X.A (call f us) (EP X pins σ Q) X.xe s) : CallR X f (rsOf X F) := by
  intro pins s σ H xs us Q I r ⟨ka, G, ts, hg, d, q⟩
  cases d with
  | nil => rw [(hF []).2 fun t z => by cases z] at q; exact q.elim
  | cons d ds =>
    cases ds with
    | nil => rw [(hF _).1 _ rfl] at q; exact h pins s σ H _ us Q ka G _ I r hg d q
    | cons d2 ds => rw [(hF _).2 fun t z => by cases z] at q; exact q.elim
theorem one_F' {F : List T → Option OR} {f : Value} (h0 : F [] = none) (h2 : ∀ a b ts, F (a :: b :: ts) = none)
    (h : ∀ (pins : List (Addr × Obj)) (s : Shared) (σ : L2.St) (H : Hp) (x : V) (us : List Value) (Q : VK) ka G t, L2.Inv X pins σ H s → Vals [x] us → GLe G H → PDen X.K X.mg ka G H x t → OPo X.K X.mg ka G H (F [t]) Q →
      wpAny (model X.prog X.w) X.A (call f us) (EP X pins σ Q) X.xe s) : CallR X f (rsOf X F) := by
  intro pins s σ H xs us Q I r ⟨ka, G, ts, hg, d, q⟩
  cases d with
  | nil => rw [h0] at q; exact q.elim
  | cons d ds =>
    cases ds with
    | nil => exact h pins s σ H _ us Q ka G _ I r hg d q
    | cons d2 ds => rw [h2] at q; exact q.elim
theorem c_len : CallR X (.builtin "len") (rsOf X lenF) := by
  refine one_F' rfl (fun a b ts => by cases a <;> rfl) fun pins s σ H x us Q ka G t I r hg d q => ?_
  cases t with
  | str z =>
    obtain ⟨hc, q⟩ := ite_some' q
    exact call_len_str pins s σ H _ us Q I r ⟨z, by rw [d.str], sz_eq hc, q _ (.int _)⟩
  | tup ts =>
    obtain ⟨p, vs, rfl, q1, d1⟩ := d.seqT hg
    exact call_len_seq pins s σ H _ us Q I r ⟨p, vs, rfl, .inr q1, q _ (by rw [d1.length]; exact .int _)⟩
  | lst ts =>
    obtain ⟨p, vs, rfl, q1, d1⟩ := d.seqL hg
    exact call_len_seq pins s σ H _ us Q I r ⟨p, vs, rfl, .inl (SqL.of q1), q _ (by rw [d1.length]; exact .int _)⟩
  | scr ts =>
    obtain ⟨p, vs, rfl, q1, d1⟩ := d.seqS hg
    exact call_len_seq pins s σ H _ us Q I r ⟨p, vs, rfl, .inl q1, q _ (by rw [d1.length]; exact .int _)⟩
  | dct ks ts =>
    obtain ⟨p, kvs, rfl, e2, e3, d1⟩ := d.dict hg
    exact call_lenD pins s σ H _ us Q I r ⟨p, kvs, rfl, e2, q _ (by rw [← e3, List.length_map]; exact .int _)⟩
  | dcz ks ts =>
    obtain ⟨p, od, kvs, rfl, e2, e3, d1⟩ := d.dictz hg
    cases r with
    | cons r1 r2 =>
      cases r2
      cases r1
      exact d_len I (.inr ⟨od, e2⟩) fun t s' I' => ⟨.int kvs.length, H, I', ⟨t, rfl⟩, q _ (by rw [← e3, List.length_map]; exact .int _)⟩
  | _ => exact q.elim
def listF : List T → Option OR
  | [.tup ts] => some (.ls ts)
  | [.lst ts] => some (.ls ts)
  | [.scr ts] => some (.ls ts)
  | _ => none
theorem c_list : CallR X (.type "list") (rsOf X listF) := by
  refine one_F' rfl (fun a b ts => by cases a <;> rfl) fun pins s σ H x us Q ka G t I r hg d q => ?_
  cases t with
  | tup ts =>
    obtain ⟨p, vs, rfl, q1, d1⟩ := d.seqT hg
    exact call_list_of pins s σ H _ us Q I r ⟨p, vs, rfl, .inr q1, fun p' hp => q p' _ hp d1⟩
  | lst ts =>
    obtain ⟨p, vs, rfl, q1, d1⟩ := d.seqL hg
    exact call_list_of pins s σ H _ us Q I r ⟨p, vs, rfl, .inl (SqL.of q1), fun p' hp => q p' _ hp d1⟩
  | scr ts =>
    obtain ⟨p, vs, rfl, q1, d1⟩ := d.seqS hg
    exact call_list_of pins s σ H _ us Q I r ⟨p, vs, rfl, .inl q1, fun p' hp => q p' _ hp d1⟩
  | _ => exact q.elim
def tupleF : List T → Option OR
  | [.tup ts] => some (.sm (.tup ts))
  | [.lst ts] => some (.tp ts)
  | [.scr ts] => some (.tp ts)
  | _ => none
theorem c_tuple : CallR X (.type "tuple") (rsOf X tupleF) := by
  refine one_F' rfl (fun a b ts => by cases a <;> rfl) fun pins s σ H x us Q ka G t I r hg d q => ?_
  cases t with
  | tup ts =>
    obtain ⟨p, vs, e1, q1, d1⟩ := d.seqT hg
    have dA : Den X.K X.mg ka G x (.tup ts) := d.elim (fun z => z.1) fun ⟨_, _, z⟩ => z.elim
    subst e1
    exact call_tuple_of pins s σ H _ us Q I r ⟨p, vs, rfl, .inr ⟨q1, q _ dA⟩⟩
  | lst ts =>
    obtain ⟨p, vs, rfl, q1, d1⟩ := d.seqL hg
    exact call_tuple_of pins s σ H _ us Q I r ⟨p, vs, rfl, .inl ⟨SqL.of q1, fun p' hp => q p' _ hp d1⟩⟩
  | scr ts =>
    obtain ⟨p, vs, rfl, q1, d1⟩ := d.seqS hg
    exact call_tuple_of pins s σ H _ us Q I r ⟨p, vs, rfl, .inl ⟨q1, fun p' hp => q p' _ hp d1⟩⟩
  | _ => exact q.elim
def absF : List T → Option OR
  | [.int i] => some (.sm (.int (if i < 0 then -i else i)))
  | _ => none
theorem c_abs : CallR X (.builtin "abs") (rsOf X absF) := by
  refine one_F' rfl (fun a b ts => by cases a <;> rfl) fun pins s σ H x us Q ka G t I r hg d q => ?_
  cases t with
  | int i => exact call_abs pins s σ H _ us Q I r ⟨i, by rw [d.int], q _ (.int _)⟩
  | _ => exact q.elim
def intF : List T → Option OR
  | [.int i] => some (.sm (.int i))
  | [.bl b] => some (.sm (.int (if b then 1 else 0)))
  | _ => none
theorem c_int : CallR X (.type "int") (rsOf X intF) := by
  refine one_F' rfl (fun a b ts => by cases a <;> rfl) fun pins s σ H x us Q ka G t I r hg d q => ?_
  cases t with
  | int i => exact call_int1 pins s σ H _ us Q I r (.inl ⟨i, by rw [d.int], q _ (.int _)⟩)
  | bl b => exact call_int1 pins s σ H _ us Q I r (.inr ⟨b, by rw [d.bl], q _ (.int _)⟩)
  | _ => exact q.elim
def intsOf : List T → Option (List Int)
  | [] => some []
  | .int i :: ts => (intsOf ts).map (i :: ·)
  | _ => none
def blsOf : List T → Option (List Bool)
  | [] => some []
  | .bl i :: ts => (blsOf ts).map (i :: ·)
  | _ => none
theorem Dens.ints {ka : List Addr} {G : Hp} : ∀ {vs : List V} {ts : List T}, Dens X.K X.mg ka G vs ts → ∀ {ns : List Int}, intsOf ts = some ns → vs = ns.map V.int
  | _, _, .nil, ns, h => by cases Option.some.inj h; rfl
  | _, _, .cons (t := t) (ts := ts) d ds, ns, h => by
    cases t with
    | int i =>
      obtain ⟨ms, h1, h2⟩ := Option.map_eq_some_iff.mp (show (intsOf ts).map (i :: ·) = some ns from h)
      subst h2
      cases d
      rw [List.map_cons, Dens.ints ds h1]
    | _ => cases h
theorem Dens.bls {ka : List Addr} {G : Hp} : ∀ {vs : List V} {ts : List T}, Dens X.K X.mg ka G vs ts → ∀ {ns : List Bool}, blsOf ts = some ns → vs = ns.map V.bl
  | _, _, .nil, ns, h => by cases Option.some.inj h; rfl
  | _, _, .cons (t := t) (ts := ts) d ds, ns, h => by
    cases t with
    | bl i =>
      obtain ⟨ms, h1, h2⟩ := Option.map_eq_some_iff.mp (show (blsOf ts).map (i :: ·) = some ns from h)
      subst h2
      cases d
      rw [List.map_cons, Dens.bls ds h1]
    | _ => cases h
def sumF : List T → Option OR
  | [.lst ts] => (intsOf ts).map fun ns => .sm (.int ns.sum)
  | _ => none
theorem c_sum (hc : X.calm = true) : CallR X (.builtin "sum") (rsOf X sumF) := by
  refine one_F' rfl (fun a b ts => by cases a <;> rfl) fun pins s σ H x us Q ka G t I r hg d q => ?_
  cases t with
  | lst ts =>
    obtain ⟨ns, hn, q⟩ := omap_some q
    obtain ⟨p, vs, rfl, q1, d1⟩ := d.seqL hg
    have e := d1.ints hn
    subst e
    exact cr_sum hc pins s σ H _ us Q I r ⟨p, ns, rfl, SqL.of q1, q _ (.int _)⟩
  | _ => exact q.elim
def allF : List T → Option OR
  | [.lst ts] => (blsOf ts).map fun ns => .sm (.bl (ns.all id))
  | _ => none
theorem c_all (hc : X.calm = true) : CallR X (.builtin "all") (rsOf X allF) := by
  refine one_F' rfl (fun a b ts => by cases a <;> rfl) fun pins s σ H x us Q ka G t I r hg d q => ?_
  cases t with
  | lst ts =>
    obtain ⟨ns, hn, q⟩ := omap_some q
    obtain ⟨p, vs, rfl, q1, d1⟩ := d.seqL hg
    have e := d1.bls hn
    subst e
    exact cr_all hc pins s σ H _ us Q I r ⟨p, ns, rfl, SqL.of q1, q _ (.bl _)⟩
  | _ => exact q.elim
def anyF : List T → Option OR
  | [.lst ts] => (blsOf ts).map fun ns => .sm (.bl (ns.any id))
  | _ => none
theorem c_any (hc : X.calm = true) : CallR X (.builtin "any") (rsOf X anyF) := by
  refine one_F' rfl (fun a b ts => by cases a <;> rfl) fun pins s σ H x us Q ka G t I r hg d q => ?_
  cases t with
  | lst ts =>
    obtain ⟨ns, hn, q⟩ := omap_some q
    obtain ⟨p, vs, rfl, q1, d1⟩ := d.seqL hg
    have e := d1.bls hn
    subst e
    exact cr_any hc pins s σ H _ us Q I r ⟨p, ns, rfl, SqL.of q1, q _ (.bl _)⟩
  | _ => exact q.elim
def max2F : List T → Option OR
  | [.int i, .int j] => some (.sm (.int (if j > i then j else i)))
  | _ => none
def min2F : List T → Option OR
  | [.int i, .int j] => some (.sm (.int (if j < i then j else i)))
  | _ => none
theorem two_F {F : List T → Option OR} {f : Value} (h0 : F [] = none) (h1 : ∀ a, F [a] = none) (h2 : ∀ a b c ts, F (a :: b :: c :: ts) = none)
    (h : ∀ (pins : List (Addr × Obj)) (s : Shared) (σ : L2.St) (H : Hp) (x y : V) (us : List Value) (Q : VK) ka G t u, L2.Inv X pins σ H s → Vals [x, y] us → GLe G H → PDen X.K X.mg ka G H x t → PDen X.K X.mg ka G H y u → OPo X.K X.mg ka G H (F [t, u]) Q →
      wpAny (model X.prog X.w) X.A (call f us) (EP X pins σ Q) X.xe s) : CallR X f (rsOf X F) := by
  intro pins s σ H xs us Q I r ⟨ka, G, ts, hg, d, q⟩
  cases d with
  | nil => rw [h0] at q; exact q.elim
  | cons d ds =>
    cases ds with
    | nil => rw [h1] at q; exact q.elim
    | cons d2 ds =>
      cases ds with
      | nil => exact h pins s σ H _ _ us Q ka G _ _ I r hg d d2 q
      | cons d3 ds => rw [h2] at q; exact q.elim
theorem c_max2 (hc : X.calm = true) : CallR X (.builtin "max") (rsOf X max2F) := by
  refine two_F rfl (fun a => by cases a <;> rfl) (fun a b c ts => by cases a <;> cases b <;> rfl) fun pins s σ H x y us Q ka G t u I r hg d d2 q => ?_
  cases t with
  | int i =>
    cases u with
    | int j => exact call_max2 hc pins s σ H _ us Q I r ⟨i, j, by rw [d.int, d2.int], q _ (.int _)⟩
    | _ => exact q.elim
  | _ => cases u <;> exact q.elim
theorem c_min2 (hc : X.calm = true) : CallR X (.builtin "min") (rsOf X min2F) := by
  refine two_F rfl (fun a => by cases a <;> rfl) (fun a b c ts => by cases a <;> cases b <;> rfl) fun pins s σ H x y us Q ka G t u I r hg d d2 q => ?_
  cases t with
  | int i =>
    cases u with
    | int j => exact call_min2 hc pins s σ H _ us Q I r ⟨i, j, by rw [d.int, d2.int], q _ (.int _)⟩
    | _ => exact q.elim
  | _ => cases u <;> exact q.elim
/-! ### list(range(n)), list(range(a, b)) -/
def mLr1 (m : M RV) : M RV := m.bd fun q e => match q with
  | .va (.int n) => if 0 ≤ n ∧ n ≤ sz then .ok (.ow (.lst ((List.range n.toNat).map fun i => T.int (i : Nat)))) e else .st
  | _ => .st
theorem dens_rg {ka : List Addr} {G : Hp} {n : Int} (h : 0 ≤ n) : Dens X.K X.mg ka G (rgV 0 n) ((List.range n.toNat).map fun i => T.int (i : Nat)) := by
  unfold rgV
  have e : (n - 0).toNat = n.toNat := by omega
  rw [e]
  generalize List.range n.toNat = l
  induction l with
  | nil => exact .nil
  | cons x l ih =>
    rw [List.map_cons, List.map_cons]
    refine .cons ?_ ih
    have : (0 : Int) + (x : Nat) = (x : Nat) := by omega
    rw [this]
    exact .int _
theorem je_lr1 {p p2 : Pos} {pos2 : Pos} (hc : X.calm = true) (hg : Gl X "list") (hm : X.mg "list" = none) (hg2 : Gl X "range") (hm2 : X.mg "range" = none) (ha : JE X W a m)
    (na : starEach [a] X.env = (false, eval a X.env) :: starEach [] X.env := by rfl) (nb : starEach [.Call (.Name "range" p2) [a] [] pos2] X.env = (false, eval (.Call (.Name "range" p2) [a] [] pos2) X.env) :: starEach [] X.env := by rfl) :
    JE X W (.Call (.Name "list" p) [.Call (.Name "range" p2) [a] [] pos2] [] pos) (mLr1 m) := by
  obtain ⟨t, pa, q⟩ := ha.ex
  refine ⟨_, pe_listRg hc hg hm (prg_1 hg2 hm2 pa na) nb, fun ka G H s E Q R h => q ka G H s E _ R ?_⟩
  unfold mLr1 M.bd at h
  cases hm : m E with
  | st => rw [hm] at h; exact h.elim
  | ex c fs e1 => rw [hm] at h; exact h
  | ok ra E1 =>
    rw [hm] at h
    dsimp only at h
    intro x G1 ka1 H1 R1 S1 D1
    cases ra with
    | ow t => exact h.elim
    | br i => exact h.elim
    | va t =>
      cases t with
      | int n =>
        obtain ⟨⟨h1, h2⟩, h⟩ := ite_ok h
        cases D1
        exact ⟨n, rfl, RgOk.of_le (by omega) (by simpa [sz] using h2) (by omega) h1, fun p hp => opo_of (q := some (.ls _)) R1 (S1.less fun _ x => .inl x) (fun _ x => x) h p _ hp (dens_rg h1)⟩
      | _ => exact h.elim
end
end PL
-- PL8
/-! The pure layer 8: isinstance, targets, what is walked, comprehensions. -/
namespace PL
open PySem PySem.Spec PyProof.Rows L2 PySem.SeqAt PySem.W

/-! ### isinstance -/
inductive Ky where
  | non | bl | int | str | tup | lst | dct
  deriving DecidableEq
def kyT : T → Option Ky
  | .non => some .non
  | .bl _ => some .bl
  | .int _ => some .int
  | .str _ => some .str
  | .tup _ => some .tup
  | .lst _ => some .lst
  | .scr _ => some .lst
  | .dct _ _ => some .dct
  | .dcz _ _ => some .dct
  | _ => none
def kyS : Ky → String
  | .non => "NoneType"
  | .bl => "bool"
  | .int => "int"
  | .str => "str"
  | .tup => "tuple"
  | .lst => "list"
  | .dct => "dict"
/-- a value of kind k is an instance of the class c -/
def kyI (c k : Ky) : Bool := match c, k with
  | .int, .bl => true
  | .non, .non => true
  | .bl, .bl => true
  | .int, .int => true
  | .str, .str => true
  | .tup, .tup => true
  | .lst, .lst => true
  | .dct, .dct => true
  | _, _ => false
theorem kit_ky : ∀ k c : Ky, c ≠ .non → kitB (kyS k) (kyS c) = some (kyI c k) := by
  intro k c h
  cases k <;> cases c <;> first | exact absurd rfl h | decide +kernel
section
variable {X : Cx} {W : WX} {pos : Pos} {a b e : Expr} {es : List Expr} {m ma mb : M RV} {ms : M (List RV)}
theorem PDen.ty {ka : List Addr} {G H : Hp} (hg : GLe G H) {v : V} {t : T} {k : Ky} (d : PDen X.K X.mg ka G H v t) (h : kyT t = some k) : TyX X.K H v (.type (kyS k)) := by
  cases t with
  | non => cases Option.some.inj h; rw [d.non]; exact .base .non
  | bl b => cases Option.some.inj h; rw [d.bl]; exact .base (.bl b)
  | int i => cases Option.some.inj h; rw [d.int]; exact .base (.int i)
  | str x => cases Option.some.inj h; rw [d.str]; exact .base (.str x)
  | tup ts =>
    cases Option.some.inj h
    obtain ⟨p, vs, rfl, q, d⟩ := d.seqT hg
    rcases q with (q | ⟨o, q⟩) | ⟨o, its, n, e, hc, _⟩
    · exact .base (.tup q)
    · exact .fTuple q
    · exact .kTuple e hc
  | lst ts =>
    cases Option.some.inj h
    obtain ⟨p, vs, rfl, q, d⟩ := d.seqL hg
    exact .base (.lst q)
  | scr ts =>
    cases Option.some.inj h
    obtain ⟨p, vs, rfl, q, d⟩ := d.seqS hg
    rcases q with (q | ⟨o, q⟩) | ⟨o, its, n, e, hc, _⟩
    · exact .base (.lst q)
    · exact .base (.frz q)
    · exact .kList e hc
  | dct ks ts =>
    cases Option.some.inj h
    obtain ⟨p, vs, rfl, q, _, d⟩ := d.dict hg
    exact .base (.dK q)
  | dcz ks ts =>
    cases Option.some.inj h
    obtain ⟨p, od, vs, rfl, q, _, d⟩ := d.dictz hg
    exact .fDict q
  | _ => cases h
def mIsi (cs : List Ky) (m : M RV) : M RV := m.bd fun q e => match pk e q with
  | some t => match kyT t with
    | some k => .ok (.va (.bl (cs.any fun c => kyI c k))) e
    | none => .st
  | none => .st
/-- the class's name as a value -/
theorem pe_ty {x : Str} {c : Ky} {p : Pos} (hg : Gl X x) (hm : X.mg x = none) (hv : bootBuiltins x = some (.type (kyS c))) (hn : x ≠ "__name__" := by decide) (hd : (x == ("__debug__" : Str)) = false := by decide) : PE X (.Name x p) (tC (.ty (kyS c))) :=
  pe_bltn hg hm hv rfl hn hd
theorem je_isi {c : Ky} {cE : Expr} {p : Pos} (hcn : c ≠ .non) (hg : Gl X "isinstance") (hm : X.mg "isinstance" = none) (he : JE X W e m) (hc : PE X cE (tC (.ty (kyS c))))
    (h1 : starEach [e, cE] X.env = (false, eval e X.env) :: starEach [cE] X.env := by rfl) (h2 : starEach [cE] X.env = (false, eval cE X.env) :: starEach [] X.env := by rfl) (hpl : (backTo pos (starEach [cE] X.env)).any (·.1) = false := by rfl) :
    JE X W (.Call (.Name "isinstance" p) [e, cE] [] pos) (mIsi [c] m) := by
  obtain ⟨t, pa, q⟩ := he.ex
  refine ⟨_, pe_callB call_isi hg hm (by decide +kernel) (pa_cons pa (pa_cons hc pa_nil h2) h1) (by decide) (by decide) h1 hpl, fun ka G H s E Q R h => q ka G H s E _ R ?_⟩
  unfold mIsi M.bd at h
  cases hm : m E with
  | st => rw [hm] at h; exact h.elim
  | ex c fs e1 => rw [hm] at h; exact h
  | ok ra E1 =>
    rw [hm] at h
    dsimp only at h
    intro x G1 ka1 H1 R1 S1 D1
    cases h1 : pk E1 ra with
    | none => rw [h1] at h; exact h.elim
    | some t =>
      rw [h1] at h
      dsimp only at h
      cases h2 : kyT t with
      | none => rw [h2] at h; exact h.elim
      | some k =>
        rw [h2] at h
        have ty := (R1.pk D1 h1).ty R1.sub h2
        refine ⟨x, _, _, _, kyI c k, rfl, .ty _, ty, kit_ty (kit_ky k c hcn), ?_⟩
        refine h _ G1 ka1 H1 R1 (S1.less fun a x => va_less (fun _ y => .inl y) a x) ?_
        have e1 : ([c].any fun c => kyI c k) = kyI c k := by simp
        rw [e1]
        exact .bl _
theorem je_isi2 {c c' : Ky} {cE cE' : Expr} {p p2 : Pos} {kk} (hcn : c ≠ .non) (hcn' : c' ≠ .non) (hg : Gl X "isinstance") (hm : X.mg "isinstance" = none) (he : JE X W e m) (hc : PE X cE (tC (.ty (kyS c)))) (hc' : PE X cE' (tC (.ty (kyS c'))))
    (h1 : starEach [e, .Tuple [cE, cE'] kk p2] X.env = (false, eval e X.env) :: starEach [.Tuple [cE, cE'] kk p2] X.env := by rfl) (h2 : starEach [.Tuple [cE, cE'] kk p2] X.env = (false, eval (.Tuple [cE, cE'] kk p2) X.env) :: starEach [] X.env := by rfl)
    (h3 : starEach [cE, cE'] X.env = (false, eval cE X.env) :: starEach [cE'] X.env := by rfl) (h4 : starEach [cE'] X.env = (false, eval cE' X.env) :: starEach [] X.env := by rfl) (hpl : (backTo pos (starEach [.Tuple [cE, cE'] kk p2] X.env)).any (·.1) = false := by rfl) :
    JE X W (.Call (.Name "isinstance" p) [e, .Tuple [cE, cE'] kk p2] [] pos) (mIsi [c, c'] m) := by
  obtain ⟨t, pa, q⟩ := he.ex
  refine ⟨_, pe_callB call_isiT hg hm (by decide +kernel) (pa_cons pa (pa_cons (pe_tup (pa_cons hc (pa_cons hc' pa_nil h4) h3)) pa_nil h2) h1) (by decide) (by decide) h1 hpl, fun ka G H s E Q R h => q ka G H s E _ R ?_⟩
  unfold mIsi M.bd at h
  cases hm : m E with
  | st => rw [hm] at h; exact h.elim
  | ex c fs e1 => rw [hm] at h; exact h
  | ok ra E1 =>
    rw [hm] at h
    dsimp only at h
    intro x G1 ka1 H1 R1 S1 D1
    cases h1 : pk E1 ra with
    | none => rw [h1] at h; exact h.elim
    | some t =>
      rw [h1] at h
      dsimp only at h
      cases h2 : kyT t with
      | none => rw [h2] at h; exact h.elim
      | some k =>
        rw [h2] at h
        refine ⟨by show 2 ≤ sizeLine; decide, fun tp htp => ?_⟩
        have S2 := (S1.trans (Stp.newG (o := .tup [.ty (kyS c), .ty (kyS c')]) R1.sub htp))
        have R2 := R1.newG (o := .tup [.ty (kyS c), .ty (kyS c')]) htp
        have d2 := (D1.stp (e' := E1) (Stp.newG (o := .tup [.ty (kyS c), .ty (kyS c')]) R1.sub htp) fun _ x => x).1
        have ty := (R2.pk d2 h1).ty R2.sub h2
        refine ⟨x, tp, _, _, [.type (kyS c), .type (kyS c')], kyI c k || kyI c' k, rfl, upd_same, .cons (.ty _) (.cons (.ty _) .nil), ty, ?_, ?_⟩
        · refine kitAny_cons (kit_ty (kit_ky k c hcn)) (fun z => kitAny_cons (kit_ty (kit_ky k c' hcn')) (fun z2 => ?_) fun z2 => ?_) fun z => ?_
          · rw [z, z2]; rfl
          · rw [z, z2]; rfl
          · rw [z]; rfl
        · refine h _ _ ka1 _ R2 (S2.less fun a x => va_less (fun _ y => .inl y) a x) ?_
          have e1 : ([c, c'].any fun c => kyI c k) = (kyI c k || kyI c' k) := by simp
          rw [e1]
          exact .bl _

/-! ### targets -/
/-- what a target asks: the slots vs are set, no others -/
structure JG (X : Cx) (W : WX) (tg : Expr) (vs : List Nat) (f : T → M Unit) : Prop where
  ex : ∃ g : TG, PG X tg g ∧ ∀ ka G H s E v t (Q : L2.St → Hp → Prop), Rel X.K X.mg ka G H s E → Den X.K X.mg ka G v t → (match f t E with
    | .ok _ E1 => ∀ s1 G1 ka1 H1, Rel X.K X.mg ka1 G1 H1 s1 E1 → Stp ka G H (Own s E.r) ka1 G1 H1 (Own s1 E1.r) → (∀ i, i ∉ vs → s1[i]? = s[i]?) → s1.length = s.length → Q s1 H1
    | _ => False) → g v s H Q
structure JGs (X : Cx) (W : WX) (tgs : List Expr) (vs : List Nat) (f : List T → M Unit) : Prop where
  ex : ∃ g : TGs, PGs X tgs g ∧ ∀ ka G H s E us ts (Q : L2.St → Hp → Prop), Rel X.K X.mg ka G H s E → Dens X.K X.mg ka G us ts → (match f ts E with
    | .ok _ E1 => ∀ s1 G1 ka1 H1, Rel X.K X.mg ka1 G1 H1 s1 E1 → Stp ka G H (Own s E.r) ka1 G1 H1 (Own s1 E1.r) → (∀ i, i ∉ vs → s1[i]? = s[i]?) → s1.length = s.length → Q s1 H1
    | _ => False) → g us s H Q
def gNm (i : Nat) (t : T) : M Unit := fun e => .ok () ⟨e.r.set i (.va t), e.c⟩
theorem get_set {α : Type} {l : List α} {i j : Nat} {x y : α} (h : (l.set i x)[j]? = some y) : (j = i ∧ i < l.length ∧ y = x) ∨ (j ≠ i ∧ l[j]? = some y) := by
  by_cases z : j = i
  · subst z
    by_cases hlt : j < l.length
    · rw [List.getElem?_set_self hlt] at h
      exact .inl ⟨rfl, hlt, (Option.some.inj h).symm⟩
    · rw [List.getElem?_eq_none (by simpa using hlt)] at h; cases h
  · rw [List.getElem?_set_ne (Ne.symm z)] at h
    exact .inr ⟨z, h⟩
section
variable {K : PySem.W.Frag} {mg : Str → Option Value} {ka : List Addr} {G H : Hp} {s : L2.St} {E : Ev} {v : V} {t : T} {i : Nat}
theorem Rel.setV (R : Rel K mg ka G H s E) (d : Den K mg ka G v t) : Rel K mg ka G H (s.set i (some v)) ⟨E.r.set i (.va t), E.c⟩ := by
  refine ⟨R.sub, by simpa using R.len, fun j u h => ?_, fun j u h => ?_, fun j k u w a h1 h2 h3 h4 => ?_, R.cl, R.cel, R.cg, R.nd⟩
  · rcases get_set h with ⟨rfl, hl, y⟩ | ⟨z, y⟩
    · cases y
      exact ⟨v, List.getElem?_set_self (by rw [R.len]; exact hl), d⟩
    · obtain ⟨v', e1, d1⟩ := R.va j u y
      exact ⟨v', by rw [List.getElem?_set_ne (Ne.symm z)]; exact e1, d1⟩
  · rcases get_set h with ⟨_, _, y⟩ | ⟨z, y⟩
    · cases y
    · obtain ⟨a, e1, d1⟩ := R.ow j u y
      exact ⟨a, by rw [List.getElem?_set_ne (Ne.symm z)]; exact e1, d1⟩
  · rcases get_set h1 with ⟨_, _, y⟩ | ⟨z, y⟩
    · cases y
    · rcases get_set h2 with ⟨_, _, y2⟩ | ⟨z2, y2⟩
      · cases y2
      · rw [List.getElem?_set_ne (Ne.symm z)] at h3
        rw [List.getElem?_set_ne (Ne.symm z2)] at h4
        exact R.inj j k u w a y y2 h3 h4
theorem own_setV {a : Addr} (h : Own (s.set i (some v)) (E.r.set i (.va t)) a) : Own s E.r a := by
  obtain ⟨j, u, h1, h2⟩ := h
  rcases get_set h1 with ⟨_, _, y⟩ | ⟨z, y⟩
  · cases y
  · rw [List.getElem?_set_ne (Ne.symm z)] at h2
    exact ⟨j, u, y, h2⟩
/-- a slot takes a list of its own -/
theorem Rel.setO (R : Rel K mg ka G H s E) (d : DV K mg ka G H s E.r v (.ow t)) : Rel K mg ka G H (s.set i (some v)) ⟨E.r.set i (.ow t), E.c⟩ := by
  obtain ⟨b, rfl, db, hg, hk, ho⟩ := d
  refine ⟨R.sub, by simpa using R.len, fun j u h => ?_, fun j u h => ?_, fun j k u w a h1 h2 h3 h4 => ?_, R.cl, R.cel, R.cg, R.nd⟩
  · rcases get_set h with ⟨_, _, y⟩ | ⟨z, y⟩
    · cases y
    · obtain ⟨v', e1, d1⟩ := R.va j u y
      exact ⟨v', by rw [List.getElem?_set_ne (Ne.symm z)]; exact e1, d1⟩
  · rcases get_set h with ⟨rfl, hl, y⟩ | ⟨z, y⟩
    · cases y
      exact ⟨b, List.getElem?_set_self (by rw [R.len]; exact hl), db, hg, hk⟩
    · obtain ⟨a, e1, d1⟩ := R.ow j u y
      exact ⟨a, by rw [List.getElem?_set_ne (Ne.symm z)]; exact e1, d1⟩
  · rcases get_set h1 with ⟨rfl, hl, y⟩ | ⟨z, y⟩
    · rcases get_set h2 with ⟨rfl, _, y2⟩ | ⟨z2, y2⟩
      · rfl
      · rw [List.getElem?_set_self (by rw [R.len]; exact hl)] at h3
        cases h3
        rw [List.getElem?_set_ne (Ne.symm z2)] at h4
        exact absurd ⟨k, w, y2, h4⟩ ho
    · rcases get_set h2 with ⟨rfl, hl, y2⟩ | ⟨z2, y2⟩
      · rw [List.getElem?_set_self (by rw [R.len]; exact hl)] at h4
        cases h4
        rw [List.getElem?_set_ne (Ne.symm z)] at h3
        exact absurd ⟨j, u, y, h3⟩ ho
      · rw [List.getElem?_set_ne (Ne.symm z)] at h3
        rw [List.getElem?_set_ne (Ne.symm z2)] at h4
        exact R.inj j k u w a y y2 h3 h4
theorem own_setO {a : Addr} (h : Own (s.set i (some v)) (E.r.set i (.ow t)) a) : OwV s E.r v (.ow t) a := by
  obtain ⟨j, u, h1, h2⟩ := h
  rcases get_set h1 with ⟨rfl, hl, y⟩ | ⟨z, y⟩
  · cases y
    by_cases hs : j < s.length
    · rw [List.getElem?_set_self hs] at h2
      cases h2
      exact .inr ⟨t, rfl, rfl⟩
    · rw [List.getElem?_eq_none (by simpa using hs)] at h2; cases h2
  · rw [List.getElem?_set_ne (Ne.symm z)] at h2
    exact .inl ⟨j, u, y, h2⟩
end
theorem jg_nm {i : Nat} {x : Str} (hN : X.N.Nodup) (hi : X.N[i]? = some x) (hx : Loc X.env.scope x) (hf : X.fn x = true ∨ X.env.scope.names.lookup x = some .local := by first | exact .inl rfl | exact .inr rfl | assumption) : JG X W (.Name x pos) [i] (gNm i) :=
  ⟨gName i, pg_name hN hi hx hf, fun ka G H s E v t Q R d h => h _ G ka H (R.setV d) (Stp.refl.less fun _ x => own_setV x) (fun j hj => List.getElem?_set_ne fun z => hj (by simp [z])) (by simp)⟩
def gsN : List T → M Unit
  | [] => fun e => .ok () e
  | _ => fun _ => .st
def gsC (f : T → M Unit) (g : List T → M Unit) : List T → M Unit
  | t :: ts => (f t).bd fun _ => g ts
  | [] => fun _ => .st
theorem jgs_nil : JGs X W [] [] gsN := ⟨gNil, pgs_nil, fun ka G H s E us ts Q R d h => by
  cases d with
  | nil => exact ⟨rfl, h s G ka H R Stp.refl (fun _ _ => rfl) rfl⟩
  | cons d ds => exact h.elim⟩
theorem jgs_cons {tg : Expr} {tgs : List Expr} {vs ws : List Nat} {f : T → M Unit} {g : List T → M Unit} (h1 : JG X W tg vs f) (h2 : JGs X W tgs ws g) (hs : (assignEach (tg :: tgs) X.env).map (·.2) = assign tg X.env :: (assignEach tgs X.env).map (·.2) := by rfl) :
    JGs X W (tg :: tgs) (vs ++ ws) (gsC f g) := by
  obtain ⟨t1, p1, q1⟩ := h1.ex
  obtain ⟨t2, p2, q2⟩ := h2.ex
  refine ⟨_, pgs_cons p1 p2 hs, fun ka G H s E us ts Q R d h => ?_⟩
  cases d with
  | nil => exact h.elim
  | cons d ds =>
    refine ⟨_, _, rfl, q1 ka G H s E _ _ _ R d ?_⟩
    unfold gsC M.bd at h
    dsimp only at h
    rename_i v vs' t ts'
    cases hm : f t E with
    | st => rw [hm] at h; exact h.elim
    | ex c fs e1 => rw [hm] at h; exact h.elim
    | ok u E1 =>
      rw [hm] at h
      dsimp only at h ⊢
      intro s1 G1 ka1 H1 R1 S1 k1 l1
      refine q2 ka1 G1 H1 s1 E1 _ _ _ R1 (ds.mono S1.g S1.k) ?_
      cases hm2 : g ts' E1 with
      | st => rw [hm2] at h; exact h.elim
      | ex c fs e1 => rw [hm2] at h; exact h.elim
      | ok u E2 =>
        rw [hm2] at h
        dsimp only at h ⊢
        intro s2 G2 ka2 H2 R2 S2 k2 l2
        exact h s2 G2 ka2 H2 R2 (S1.trans S2) (fun i hi => (k2 i fun z => hi (List.mem_append_right _ z)).trans (k1 i fun z => hi (List.mem_append_left _ z))) (l2.trans l1)
/-- a tuple of that length, or a list -/
def gTp (n : Nat) (g : List T → M Unit) : T → M Unit
  | .tup ts => if ts.length = n then g ts else fun _ => .st
  | .lst ts => if ts.length = n then g ts else fun _ => .st
  | _ => fun _ => .st
theorem pg_or {tg : Expr} {g1 g2 : TG} (h1 : PG X tg g1) (h2 : PG X tg g2) : PG X tg (fun v σ H Q => g1 v σ H Q ∨ g2 v σ H Q) :=
  ⟨fun pins s σ H v u Q I r h => h.elim (h1.run pins s σ H v u Q I r) (h2.run pins s σ H v u Q I r)⟩
theorem jg_tup {tgs : List Expr} {k n : Nat} {vs : List Nat} {g : List T → M Unit} (hc : X.calm = true) (h : JGs X W tgs vs g) (hn : (assignEach tgs X.env).length = n := by rfl) (hst : (assignEach tgs X.env).findIdx? (·.1) = none := by rfl) :
    JG X W (.Tuple tgs k pos) vs (gTp n g) := by
  obtain ⟨t1, p1, q1⟩ := h.ex
  refine ⟨_, pg_or (pg_tup hc p1 hn hst) (pg_unl hc p1 hn hst), fun ka G H s E v t Q R d h => ?_⟩
  cases d with
  | @tup a us ts q ds =>
    unfold gTp at h
    dsimp only at h
    by_cases hl : ts.length = n
    · rw [if_pos hl] at h
      exact .inl ⟨_, us, rfl, sqT_mono R.sub q, by rw [ds.length]; exact hl, q1 ka G H s E us ts _ R ds h⟩
    · rw [if_neg hl] at h; exact h.elim
  | @lst a us ts q ds =>
    unfold gTp at h
    dsimp only at h
    by_cases hl : ts.length = n
    · rw [if_pos hl] at h
      exact .inr ⟨_, us, rfl, SqL.of (R.sub _ _ q), by rw [ds.length]; exact hl, q1 ka G H s E us ts _ R ds h⟩
    · rw [if_neg hl] at h; exact h.elim
  | _ => exact h.elim
end
end PL
-- PL9
/-! The pure layer 9: what is walked, comprehensions. -/
namespace PL
open PySem PySem.Spec PyProof.Rows L2 PySem.SeqAt PySem.W

/-- what an iterator hands out denotes t -/
def YOk (K : PySem.W.Frag) (mg : Str → Option Value) (ka : List Addr) (G H : Hp) (x : V) (t : T) (H' : Hp) : Prop :=
  (H' = H ∧ Den K mg ka G x t) ∨ ∃ p vs us, x = .ref p ∧ H p = none ∧ H' = upd H p (.tup vs) ∧ t = .tup us ∧ Dens K mg ka G vs us
/-- the cell that is watched: it holds t as long as the walk goes on -/
noncomputable def wOk (w : Option (Nat × T)) (e : Ev) : Bool := match w with
  | none => true
  | some (k, t) => @decide (e.c[k]? = some t) (Classical.propDecidable _)
def WtOk (K : PySem.W.Frag) (mg : Str → Option Value) (ka : List Addr) (G H : Hp) (w : Option (Nat × T)) : Prop := ∀ k t, w = some (k, t) → ∃ a, ka[k]? = some a ∧ DenB K mg ka G H a t
structure Wk where
  w : Option (Nat × T)
  ts : List T
def ItOk (K : PySem.W.Frag) (mg : Str → Option Value) (ka : List Addr) (G : Hp) (J : It) (w : Option (Nat × T)) (ts : List T) : Prop :=
  ∀ ka1 G1 H1, GLe G G1 → KLe ka ka1 → GLe G1 H1 → WtOk K mg ka1 G1 H1 w → ∀ i : Nat, (∀ t, ts[i]? = some t → J.go i H1 ∧ ∀ x H', J.yld i H1 x H' → YOk K mg ka1 G1 H1 x t H') ∧ (ts.length ≤ i → J.stop i H1)
theorem wOk_of {K : PySem.W.Frag} {mg : Str → Option Value} {ka : List Addr} {G H : Hp} {s : L2.St} {e : Ev} {w : Option (Nat × T)} (R : Rel K mg ka G H s e) (h : wOk w e = true) : WtOk K mg ka G H w := by
  intro k t z
  subst z
  unfold wOk at h
  exact R.cel k t (@of_decide_eq_true _ (Classical.propDecidable _) h)
theorem wOk_none {e : Ev} : wOk none e = true := rfl
theorem wOk_some {e : Ev} {k : Nat} {t : T} (h : e.c[k]? = some t) : wOk (some (k, t)) e = true := @decide_eq_true _ (Classical.propDecidable _) h
structure JI (X : Cx) (W : WX) (tg it : Expr) (m : M Wk) : Prop where
  ex : ∃ wi : TI, PI X tg it wi ∧ ∀ ka G H s E (Q : It → Hp → Prop), Rel X.K X.mg ka G H s E → (match m E with
    | .st => False
    | .ok wk E1 => ∀ J G1 ka1 H1, Rel X.K X.mg ka1 G1 H1 s E1 → Stp ka G H (Own s E.r) ka1 G1 H1 (Own s E1.r) → ItOk X.K X.mg ka1 G1 J wk.w wk.ts → Q J H1
    | .ex c fs E1 => XPo X W ka G H (Own s E.r) c fs E1) → wi s H Q
section
variable {X : Cx} {W : WX} {pos : Pos} {tg a b c e : Expr} {es : List Expr} {m ma mb : M RV} {ms : M (List RV)}
/-! ### a list, a tuple -/
def iAny (K : PySem.W.Frag) (tl : TE) : TI := fun σ H R => tl σ H fun x H1 => ∃ a, x = .ref a ∧ (((∃ xs, SqL K H1 a xs) ∧ R (Itl K a) H1) ∨ ((∃ xs, SqT K H1 a xs) ∧ R (Itt K a) H1))
theorem pi_any {l : Expr} {tl : TE} (hl : PE X l tl) : PI X tg l (iAny X.K tl) := by
  constructor
  intro pins s σ H R I h
  refine thn (hl.run pins s σ H _ I h) fun v s1 h1 => ?_
  obtain ⟨x, H1, I1, r1, p, ex, q⟩ := h1
  subst ex
  cases r1
  have fresh : ∀ b ∈ [s1.heap.objs.size], FpOk X pins H1 b := fun b hb => by
    cases List.mem_singleton.mp hb
    exact I1.fpOk (Nat.le_refl _) (I1.hok.fresh (Nat.le_refl _))
  rcases q with ⟨⟨xs, hq⟩, q⟩ | ⟨⟨xs, hq⟩, q⟩
  · obtain ⟨its, rv, pl, hz⟩ := I1.list hq
    refine wpAny_pyIter_list pl.isList ?_
    exact ⟨_, _, _, _, H1, rfl, I1.kept (t' := s1.toks) fun b o e => Heap.get?_push_of_some _ e, turn_list p _, ⟨_, Heap.get?_push_size _ rfl, rfl, rfl⟩, fresh, q⟩
  · obtain ⟨its, rv, pl, hz⟩ := I1.tuple hq
    refine wpAny_pyIter_tuple (show s1.heap.IsTuple p its.toArray from pl) ?_
    exact ⟨_, _, _, _, H1, rfl, I1.kept (t' := s1.toks) fun b o e => Heap.get?_push_of_some _ e, turn_tuple p _, ⟨_, Heap.get?_push_size _ rfl, rfl, rfl⟩, fresh, q⟩
/-- the items: of a cell as they stand, else frozen -/
def itSq (e : Ev) (q : RV) : Option (Wk × Ev) := match q with
  | .va (.cel k) => match e.c[k]? with
    | some (.lst ts) => some (⟨some (k, .lst ts), ts⟩, e)
    | _ => none
  | q => match fz e q with
    | some (.lst ts, e') => some (⟨none, ts⟩, e')
    | some (.tup ts, e') => some (⟨none, ts⟩, e')
    | some (.scr ts, e') => some (⟨none, ts⟩, e')
    | _ => none
theorem itok_list {ka : List Addr} {G : Hp} {p : Addr} {vs : List V} {ts : List T} (q : SqL X.K G p vs) (d : Dens X.K X.mg ka G vs ts) : ItOk X.K X.mg ka G (Itl X.K p) none ts := by
  intro ka1 G1 H1 hg hk hs _ i
  have q1 : SqL X.K H1 p vs := sqL_mono (hg.trans hs) q
  refine ⟨fun t ht => ?_, fun hi => ⟨vs, q1, by rw [d.length]; exact hi⟩⟩
  obtain ⟨v, hv, dv⟩ := d.get ht
  exact ⟨⟨vs, v, q1, hv⟩, fun x H' y => .inl ⟨y.1, by
    have z := y.2 vs q1
    rw [hv] at z
    cases z
    exact dv.mono hg hk⟩⟩
theorem itok_tup {ka : List Addr} {G : Hp} {p : Addr} {vs : List V} {ts : List T} (q : SqT X.K G p vs) (d : Dens X.K X.mg ka G vs ts) : ItOk X.K X.mg ka G (Itt X.K p) none ts := by
  intro ka1 G1 H1 hg hk hs _ i
  have q1 : SqT X.K H1 p vs := sqT_mono (hg.trans hs) q
  refine ⟨fun t ht => ?_, fun hi => ⟨vs, q1, by rw [d.length]; exact hi⟩⟩
  obtain ⟨v, hv, dv⟩ := d.get ht
  exact ⟨⟨vs, v, q1, hv⟩, fun x H' y => .inl ⟨y.1, by
    have z := y.2 vs q1
    rw [hv] at z
    cases z
    exact dv.mono hg hk⟩⟩
theorem itok_cel {ka : List Addr} {G : Hp} {p : Addr} {k : Nat} {ts : List T} (hk0 : ka[k]? = some p) : ItOk X.K X.mg ka G (Itl X.K p) (some (k, .lst ts)) ts := by
  intro ka1 G1 H1 hg hk hs hw i
  obtain ⟨a, ea, vs, hv, d⟩ := hw k _ rfl
  have z := hk.get hk0
  rw [z] at ea
  cases ea
  have q1 : SqL X.K H1 p vs := SqL.of hv
  refine ⟨fun t ht => ?_, fun hi => ⟨vs, q1, by rw [d.length]; exact hi⟩⟩
  obtain ⟨v, hv, dv⟩ := d.get ht
  exact ⟨⟨vs, v, q1, hv⟩, fun x H' y => .inl ⟨y.1, by
    have z := y.2 vs q1
    rw [hv] at z
    cases z
    exact dv⟩⟩
/-- what a walk of q finds -/
theorem itSq_of {ka : List Addr} {G H : Hp} {s : L2.St} {E E2 : Ev} {x : V} {q : RV} {wk : Wk} (R : Rel X.K X.mg ka G H s E) (D : DV X.K X.mg ka G H s E.r x q) (h : itSq E q = some (wk, E2)) :
    ∃ G2, Rel X.K X.mg ka G2 H s E2 ∧ Stp ka G H (OwV s E.r x q) ka G2 H (Own s E2.r) ∧ ∃ p, x = .ref p ∧ (((∃ xs, SqL X.K H p xs) ∧ ItOk X.K X.mg ka G2 (Itl X.K p) wk.w wk.ts) ∨ ((∃ xs, SqT X.K H p xs) ∧ ItOk X.K X.mg ka G2 (Itt X.K p) wk.w wk.ts)) := by
  have frozen : ∀ {q : RV}, DV X.K X.mg ka G H s E.r x q → (match fz E q with
    | some (.lst ts, e') => some (⟨none, ts⟩, e')
    | some (.tup ts, e') => some (⟨none, ts⟩, e')
    | some (.scr ts, e') => some (⟨none, ts⟩, e')
    | _ => none) = some (wk, E2) → ∃ G2, Rel X.K X.mg ka G2 H s E2 ∧ Stp ka G H (OwV s E.r x q) ka G2 H (Own s E2.r) ∧ ∃ p, x = .ref p ∧ (((∃ xs, SqL X.K H p xs) ∧ ItOk X.K X.mg ka G2 (Itl X.K p) wk.w wk.ts) ∨ ((∃ xs, SqT X.K H p xs) ∧ ItOk X.K X.mg ka G2 (Itt X.K p) wk.w wk.ts)) := by
    intro q D h
    cases hf : fz E q with
    | none => rw [hf] at h; cases h
    | some p =>
      obtain ⟨t, E3⟩ := p
      rw [hf] at h
      obtain ⟨G2, R2, d2, S2, _⟩ := R.fz D hf
      cases t with
      | lst ts =>
        cases h
        cases d2 with
        | lst q d => exact ⟨G2, R2, S2, _, rfl, .inl ⟨⟨_, SqL.of (R2.sub _ _ q)⟩, itok_list (SqL.of q) d⟩⟩
      | scr ts =>
        cases h
        cases d2 with
        | scr q d => exact ⟨G2, R2, S2, _, rfl, .inl ⟨⟨_, sqL_mono R2.sub q⟩, itok_list q d⟩⟩
      | tup ts =>
        cases h
        cases d2 with
        | tup q d => exact ⟨G2, R2, S2, _, rfl, .inr ⟨⟨_, sqT_mono R2.sub q⟩, itok_tup q d⟩⟩
      | _ => cases h
  unfold PL.itSq at h
  split at h
  · rename_i k
    cases hc : E.c[k]? with
    | none => rw [hc] at h; cases h
    | some u =>
      rw [hc] at h
      cases u with
      | lst ts =>
        cases h
        cases D with
        | cel ek =>
          obtain ⟨a, ea, vs, hv, d⟩ := R.cel k _ hc
          rw [ek] at ea
          cases ea
          exact ⟨G, R, Stp.refl.less fun a z => .inl z, _, rfl, .inl ⟨⟨vs, SqL.of hv⟩, itok_cel ek⟩⟩
      | _ => cases h
  · exact frozen D h
def keyT : Key → T
  | .inl i => .int i
  | .inr x => .str x
theorem den_key {K : PySem.W.Frag} {mg : Str → Option Value} {ka : List Addr} {G : Hp} : ∀ k : Key, Den K mg ka G (kV k) (keyT k)
  | .inl i => .int i
  | .inr x => .str x
/-- the items of a list, a tuple; the keys of a dict -/
def itOf (e : Ev) (q : RV) : Option (Wk × Ev) := match itSq e q with
  | some r => some r
  | none => match fz e q with
    | some (.dcz ks _, e') => some (⟨none, ks.map keyT⟩, e')
    | _ => none
def iAll (K : PySem.W.Frag) (tl : TE) : TI := fun σ H R => tl σ H fun x H1 => ∃ a, x = .ref a ∧ (((∃ xs, SqL K H1 a xs) ∧ R (Itl K a) H1) ∨ ((∃ xs, SqT K H1 a xs) ∧ R (Itt K a) H1) ∨ ∃ o kvs, H1 a = some (.frz o (.dK kvs)) ∧ R (Itk a o kvs) H1)
theorem pi_all {l : Expr} {tl : TE} (hl : PE X l tl) : PI X tg l (iAll X.K tl) := by
  constructor
  intro pins s σ H R I h
  refine thn (hl.run pins s σ H _ I h) fun v s1 h1 => ?_
  obtain ⟨x, H1, I1, r1, p, ex, q⟩ := h1
  subst ex
  cases r1
  have fresh : ∀ b ∈ [s1.heap.objs.size], FpOk X pins H1 b := fun b hb => by
    cases List.mem_singleton.mp hb
    exact I1.fpOk (Nat.le_refl _) (I1.hok.fresh (Nat.le_refl _))
  rcases q with ⟨⟨xs, hq⟩, q⟩ | ⟨⟨xs, hq⟩, q⟩ | ⟨o, kvs, hd, q⟩
  · obtain ⟨its, rv, pl, hz⟩ := I1.list hq
    refine wpAny_pyIter_list pl.isList ?_
    exact ⟨_, _, _, _, H1, rfl, I1.kept (t' := s1.toks) fun b o e => Heap.get?_push_of_some _ e, turn_list p _, ⟨_, Heap.get?_push_size _ rfl, rfl, rfl⟩, fresh, q⟩
  · obtain ⟨its, rv, pl, hz⟩ := I1.tuple hq
    refine wpAny_pyIter_tuple (show s1.heap.IsTuple p its.toArray from pl) ?_
    exact ⟨_, _, _, _, H1, rfl, I1.kept (t' := s1.toks) fun b o e => Heap.get?_push_of_some _ e, turn_tuple p _, ⟨_, Heap.get?_push_size _ rfl, rfl, rfl⟩, fresh, q⟩
  · obtain ⟨hs, hgd, hx, es, ep, vs, hdt, hsz, kv, hm⟩ := I1.frzK hd
    refine iter_keys hs hgd hx hdt (pi_one (tk := s1.toks) I1 _ (turn_keys _ hdt) ⟨_, Heap.get?_push_size _ rfl, rfl, ?_⟩ q)
    rw [hsz] <;> rfl
theorem itok_keys {ka : List Addr} {G : Hp} {p : Addr} {o : Obj} {kvs : List (Key × V)} (q : G p = some (.frz o (.dK kvs))) : ItOk X.K X.mg ka G (Itk p o kvs) none ((kvs.map (·.1)).map keyT) := by
  intro ka1 G1 H1 hg hk hs _ i
  have q1 : H1 p = some (.frz o (.dK kvs)) := hs _ _ (hg _ _ q)
  refine ⟨fun t ht => ?_, fun hi => ⟨q1, by simpa using hi⟩⟩
  rw [List.getElem?_map, List.getElem?_map] at ht
  cases hx : kvs[i]? with
  | none => rw [hx] at ht; cases ht
  | some kv =>
    rw [hx] at ht
    cases ht
    refine ⟨⟨q1, (List.getElem?_eq_some_iff.mp hx).1⟩, fun x H' y => ?_⟩
    obtain ⟨rfl, k, v, h1, rfl⟩ := y
    rw [hx] at h1
    cases h1
    exact .inl ⟨rfl, den_key _⟩
def mIt (m : M RV) : M Wk := m.bd fun q e => match itOf e q with
  | some (w, e') => .ok w e'
  | none => .st
theorem ji_any (h : JE X W e m) : JI X W tg e (mIt m) := by
  obtain ⟨t, p, q⟩ := h.ex
  refine ⟨_, pi_all p, fun ka G H s E Q R h => q ka G H s E _ R ?_⟩
  unfold mIt M.bd at h
  cases hm : m E with
  | st => rw [hm] at h; exact h.elim
  | ex c fs e1 => rw [hm] at h; exact h
  | ok r E1 =>
    rw [hm] at h
    dsimp only at h
    intro x G1 ka1 H1 R1 S1 D1
    unfold itOf at h
    cases hf : itSq E1 r with
    | some p =>
      obtain ⟨wk, E2⟩ := p
      rw [hf] at h
      obtain ⟨G2, R2, S2, p, rfl, q⟩ := itSq_of R1 D1 hf
      refine ⟨p, rfl, ?_⟩
      rcases q with ⟨a, b⟩ | ⟨a, b⟩
      · exact .inl ⟨a, h _ G2 ka1 H1 R2 (S1.trans S2) b⟩
      · exact .inr (.inl ⟨a, h _ G2 ka1 H1 R2 (S1.trans S2) b⟩)
    | none =>
      rw [hf] at h
      dsimp only at h
      cases hz : fz E1 r with
      | none => rw [hz] at h; exact h.elim
      | some p =>
        obtain ⟨t, E2⟩ := p
        rw [hz] at h
        cases t with
        | dcz ks ts =>
          dsimp only at h
          obtain ⟨G2, R2, d2, S2, _⟩ := R1.fz D1 hz
          cases d2 with
          | @dcz p od kvs _ q d => exact ⟨_, rfl, .inr (.inr ⟨_, _, R2.sub _ _ q, h _ G2 ka1 H1 R2 (S1.trans S2) (itok_keys q)⟩)⟩
        | _ => exact h.elim
/-! ### range -/
def rgT (lo : Int) (n : Nat) : List T := (List.range n).map fun i => T.int (lo + (i : Nat))
theorem rgT_get {lo : Int} {n i : Nat} {t : T} (h : (rgT lo n)[i]? = some t) : i < n ∧ t = .int (lo + (i : Nat)) := by
  unfold rgT at h
  rw [List.getElem?_map] at h
  obtain ⟨j, h1, h2⟩ := Option.map_eq_some_iff.mp h
  obtain ⟨h3, h4⟩ := List.getElem?_eq_some_iff.mp h1
  rw [List.length_range] at h3
  rw [List.getElem_range] at h4
  subst h4
  exact ⟨h3, h2.symm⟩
theorem rgT_len {lo : Int} {n : Nat} : (rgT lo n).length = n := by unfold rgT; rw [List.length_map, List.length_range]
theorem itok_rng {ka : List Addr} {G : Hp} {lo : Int} {n : Nat} : ItOk X.K X.mg ka G (Itr lo n) none (rgT lo n) := by
  intro ka1 G1 H1 hg hk hs _ i
  refine ⟨fun t ht => ?_, fun hi => by rw [rgT_len] at hi; exact hi⟩
  obtain ⟨h1, h2⟩ := rgT_get ht
  subst h2
  exact ⟨h1, fun x H' y => .inl ⟨y.1, by rw [y.2]; exact .int _⟩⟩
noncomputable def rg1 : List RV → Option Int
  | [.va (.int j)] => @ite _ (-(2 ^ 62) ≤ j ∧ j < 2 ^ 62) (Classical.propDecidable _) (some j) none
  | _ => none
noncomputable def rg2 : List RV → Option (Int × Int)
  | [.va (.int i), .va (.int j)] => @ite _ (-(2 ^ 62) ≤ i ∧ i < 2 ^ 62 ∧ -(2 ^ 62) ≤ j ∧ j < 2 ^ 62) (Classical.propDecidable _) (some (i, j)) none
  | _ => none
theorem rg1_of {qs : List RV} {j : Int} (h : rg1 qs = some j) : qs = [.va (.int j)] ∧ -(2 ^ 62) ≤ j ∧ j < 2 ^ 62 := by
  unfold rg1 at h
  split at h
  · rename_i i
    by_cases hc : -(2 ^ 62) ≤ i ∧ i < 2 ^ 62
    · rw [if_pos hc] at h
      cases Option.some.inj h
      exact ⟨rfl, hc⟩
    · rw [if_neg hc] at h; cases h
  · cases h
theorem rg2_of {qs : List RV} {i j : Int} (h : rg2 qs = some (i, j)) : qs = [.va (.int i), .va (.int j)] ∧ -(2 ^ 62) ≤ i ∧ i < 2 ^ 62 ∧ -(2 ^ 62) ≤ j ∧ j < 2 ^ 62 := by
  unfold rg2 at h
  split at h
  · rename_i i' j'
    by_cases hc : -(2 ^ 62) ≤ i' ∧ i' < 2 ^ 62 ∧ -(2 ^ 62) ≤ j' ∧ j' < 2 ^ 62
    · rw [if_pos hc] at h
      cases Option.some.inj h
      exact ⟨rfl, hc⟩
    · rw [if_neg hc] at h; cases h
  · cases h
noncomputable def mRg1 (ms : M (List RV)) : M Wk := ms.bd fun qs e => match rg1 qs with
  | some j => .ok ⟨none, rgT 0 j.toNat⟩ e
  | none => .st
noncomputable def mRg2 (ms : M (List RV)) : M Wk := ms.bd fun qs e => match rg2 qs with
  | some (i, j) => .ok ⟨none, rgT i (j - i).toNat⟩ e
  | none => .st
theorem ji_rng1 {p : Pos} (hg : Gl X "range") (hm : X.mg "range" = none) (ha : JA X W [a] ms) (hs : starEach [a] X.env = [(false, eval a X.env)] := by rfl) : JI X W tg (.Call (.Name "range" p) [a] [] pos) (mRg1 ms) := by
  obtain ⟨t, pa, q⟩ := ha.ex
  refine ⟨_, pi_range1 hg hm pa hs, fun ka G H s E Q R h => q ka G H s E _ R ?_⟩
  unfold mRg1 M.bd at h
  cases hm : ms E with
  | st => rw [hm] at h; exact h.elim
  | ex c fs e1 => rw [hm] at h; exact h
  | ok qs E1 =>
    rw [hm] at h
    dsimp only at h
    intro vs G1 ka1 H1 R1 S1 D1
    cases hq : rg1 qs with
    | none => rw [hq] at h; exact h.elim
    | some j =>
      rw [hq] at h
      obtain ⟨rfl, h1, h2⟩ := rg1_of hq
      cases D1 with
      | cons d ds n =>
        cases ds
        cases d
        exact ⟨j, rfl, h1, h2, h _ G1 ka1 H1 R1 (S1.less fun _ x => .inl x) itok_rng⟩
theorem ji_rng2 {p : Pos} (hg : Gl X "range") (hm : X.mg "range" = none) (ha : JA X W [a, b] ms) (hs : starEach [a, b] X.env = [(false, eval a X.env), (false, eval b X.env)] := by rfl) (hs2 : starEach [b] X.env = [(false, eval b X.env)] := by rfl) :
    JI X W tg (.Call (.Name "range" p) [a, b] [] pos) (mRg2 ms) := by
  obtain ⟨t, pa, q⟩ := ha.ex
  refine ⟨_, pi_range2 hg hm pa hs hs2, fun ka G H s E Q R h => q ka G H s E _ R ?_⟩
  unfold mRg2 M.bd at h
  cases hm : ms E with
  | st => rw [hm] at h; exact h.elim
  | ex c fs e1 => rw [hm] at h; exact h
  | ok qs E1 =>
    rw [hm] at h
    dsimp only at h
    intro vs G1 ka1 H1 R1 S1 D1
    cases hq : rg2 qs with
    | none => rw [hq] at h; exact h.elim
    | some p =>
      obtain ⟨i, j⟩ := p
      rw [hq] at h
      obtain ⟨rfl, hc⟩ := rg2_of hq
      cases D1 with
      | cons d ds n =>
        cases ds with
        | cons d2 ds n2 =>
          cases ds
          cases d
          cases d2
          exact ⟨i, j, rfl, hc, h _ G1 ka1 H1 R1 (S1.less fun _ x => .inl x) itok_rng⟩

/-! ### comprehensions -/
def wipS (r : List Sl) : List Nat → List Sl
  | [] => r
  | v :: vs => (wipS r vs).set v .un
def backS (r0 r : List Sl) : List Nat → List Sl
  | [] => r
  | v :: vs => match r0[v]? with
    | some (.va t) => (backS r0 r vs).set v (.va t)
    | _ => backS r0 r vs
noncomputable def lcGo (w : Option (Nat × T)) (vs : List Nat) (f : T → M Unit) (tt : M Bool) (te : M RV) : List T → List T → M (List T)
  | [], acc => fun e => if wOk w e then .ok acc e else .st
  | t :: ts, acc => fun e => if wOk w e then (match f t e with
    | .ok _ e1 => match tt e1 with
      | .ok true e2 => match te e2 with
        | .ok q e3 => match fz e3 q with
          | some (u, e4) => if acc.length < sz then lcGo w vs f tt te ts (acc ++ [u]) ⟨wipS e4.r vs, e4.c⟩ else .st
          | none => .st
        | _ => .st
      | .ok false e2 => lcGo w vs f tt te ts acc ⟨wipS e2.r vs, e2.c⟩
      | _ => .st
    | _ => .st) else .st
noncomputable def mLc (mi : M Wk) (vs : List Nat) (f : T → M Unit) (tt : M Bool) (te : M RV) : M RV := mi.bd fun wk e => match lcGo wk.w vs f tt te wk.ts [] ⟨wipS e.r vs, e.c⟩ with
  | .ok us e1 => .ok (.ow (.lst us)) ⟨backS e.r e1.r vs, e1.c⟩
  | _ => .st
def mYes : M Bool := fun e => .ok true e
section
variable {K : PySem.W.Frag} {mg : Str → Option Value} {ka ka' : List Addr} {G G' H H' : Hp} {s : L2.St} {E E0 : Ev}
theorem Rel.unset (R : Rel K mg ka G H s E) {i : Nat} {w : Option V} : Rel K mg ka G H (s.set i w) ⟨E.r.set i .un, E.c⟩ := by
  refine ⟨R.sub, by simpa using R.len, fun j u h => ?_, fun j u h => ?_, fun j k u w a h1 h2 h3 h4 => ?_, R.cl, R.cel, R.cg, R.nd⟩
  · rcases get_set h with ⟨_, _, y⟩ | ⟨z, y⟩
    · cases y
    · obtain ⟨v', e1, d1⟩ := R.va j u y
      exact ⟨v', by rw [List.getElem?_set_ne (Ne.symm z)]; exact e1, d1⟩
  · rcases get_set h with ⟨_, _, y⟩ | ⟨z, y⟩
    · cases y
    · obtain ⟨a, e1, d1⟩ := R.ow j u y
      exact ⟨a, by rw [List.getElem?_set_ne (Ne.symm z)]; exact e1, d1⟩
  · rcases get_set h1 with ⟨_, _, y⟩ | ⟨z, y⟩
    · cases y
    · rcases get_set h2 with ⟨_, _, y2⟩ | ⟨z2, y2⟩
      · cases y2
      · rw [List.getElem?_set_ne (Ne.symm z)] at h3
        rw [List.getElem?_set_ne (Ne.symm z2)] at h4
        exact R.inj j k u w a y y2 h3 h4
theorem own_unset {i : Nat} {w : Option V} {a : Addr} (h : Own (s.set i w) (E.r.set i .un) a) : Own s E.r a := by
  obtain ⟨j, u, h1, h2⟩ := h
  rcases get_set h1 with ⟨_, _, y⟩ | ⟨z, y⟩
  · cases y
  · rw [List.getElem?_set_ne (Ne.symm z)] at h2
    exact ⟨j, u, y, h2⟩
theorem Rel.wipe (R : Rel K mg ka G H s E) : ∀ vs : List Nat, Rel K mg ka G H (L2.wipe s vs) ⟨wipS E.r vs, E.c⟩
  | [] => R
  | v :: vs => (R.wipe vs).unset
theorem own_wipe {a : Addr} : ∀ (vs : List Nat), Own (L2.wipe s vs) (wipS E.r vs) a → Own s E.r a
  | [], h => h
  | v :: vs, h => own_wipe vs (own_unset (E := ⟨wipS E.r vs, E.c⟩) h)
/-- the slots of the block forgotten: whatever they held -/
theorem Rel.wiped {s2 : L2.St} (R : Rel K mg ka G H s2 E) (vs : List Nat) (hw : L2.wipe s2 vs = L2.wipe s vs) : Rel K mg ka G H (L2.wipe s vs) ⟨wipS E.r vs, E.c⟩ := hw ▸ R.wipe vs
theorem wipe_of : ∀ (vs : List Nat) {s1 s2 : L2.St}, s1.length = s2.length → (∀ i, i ∉ vs → s1[i]? = s2[i]?) → L2.wipe s1 vs = L2.wipe s2 vs
  | [], s1, s2, _, h => List.ext_getElem? fun i => h i (by simp)
  | v :: vs, s1, s2, hl, h => by
    unfold L2.wipe
    apply List.ext_getElem?
    intro i
    by_cases hi : v = i
    · subst hi
      by_cases hlt : v < s1.length
      · rw [List.getElem?_set_self (by rw [wipe_length]; exact hlt), List.getElem?_set_self (by rw [wipe_length, ← hl]; exact hlt)]
      · rw [List.getElem?_eq_none (by rw [List.length_set, wipe_length]; omega), List.getElem?_eq_none (by rw [List.length_set, wipe_length]; omega)]
    · rw [List.getElem?_set_ne hi, List.getElem?_set_ne hi]
      by_cases hm : i ∈ vs
      · have none_at : ∀ (ws : List Nat) (s : L2.St), i ∈ ws → i < s.length → (L2.wipe s ws)[i]? = some none := by
          intro ws
          induction ws with
          | nil => intro s h; cases h
          | cons w ws ih =>
            intro s hm hlt
            unfold L2.wipe
            by_cases hw : w = i
            · subst hw
              rw [List.getElem?_set_self (by rw [wipe_length]; exact hlt)]
            · rw [List.getElem?_set_ne hw]
              exact ih s ((List.mem_cons.mp hm).resolve_left fun z => hw z.symm) hlt
        by_cases hlt : i < s1.length
        · rw [none_at vs s1 hm hlt, none_at vs s2 hm (by omega)]
        · rw [List.getElem?_eq_none (by rw [wipe_length]; omega), List.getElem?_eq_none (by rw [wipe_length]; omega)]
      · have out : ∀ (ws : List Nat) (s : L2.St), i ∉ ws → (L2.wipe s ws)[i]? = s[i]? := fun ws s hm => wipe_out hm
        rw [out vs s1 hm, out vs s2 hm]
        exact h i (by simp [hi, hm, Ne.symm hi])
theorem wipS_len : ∀ (r : List Sl) (vs : List Nat), (wipS r vs).length = r.length
  | r, [] => rfl
  | r, v :: vs => by unfold wipS; rw [List.length_set, wipS_len r vs]
theorem wipS_at : ∀ {r : List Sl} {vs : List Nat} {i : Nat} {l : Sl}, (wipS r vs)[i]? = some l → l = .un ∨ (r[i]? = some l ∧ i ∉ vs)
  | r, [], i, l, h => .inr ⟨h, by simp⟩
  | r, v :: vs, i, l, h => by
    unfold wipS at h
    rcases get_set h with ⟨_, _, y⟩ | ⟨z, y⟩
    · exact .inl y
    · rcases wipS_at y with h | ⟨h, n⟩
      · exact .inl h
      · exact .inr ⟨h, by simp [z, n]⟩
/-- the frame behind a block: its own slots hold what they held -/
theorem Rel.back (R0 : Rel K mg ka' G' H' s E0) (hg : GLe G' G) (hk : KLe ka' ka) {E1 : Ev} {vs : List Nat} (R : Rel K mg ka G H (L2.wipe s vs) ⟨wipS E1.r vs, E1.c⟩) : ∀ ws : List Nat, (∀ w ∈ ws, w ∈ vs) → Rel K mg ka G H s ⟨backS E0.r (wipS E1.r vs) ws, E1.c⟩ ∧ ∀ a, Own s (backS E0.r (wipS E1.r vs) ws) a → Own (L2.wipe s vs) (wipS E1.r vs) a
  | [], _ => by
    have at_ : ∀ {i : Nat} {l : Sl}, (wipS E1.r vs)[i]? = some l → l ≠ .un → (L2.wipe s vs)[i]? = s[i]? := fun {i l} h n => by
      rcases wipS_at h with z | ⟨_, z⟩
      · exact absurd z n
      · exact wipe_out z
    have Rl : s.length = (wipS E1.r vs).length := by
      have z := R.len
      rw [wipe_length] at z
      exact z
    refine ⟨⟨R.sub, Rl, fun i t h => ?_, fun i t h => ?_, fun i j t u a h1 h2 h3 h4 => ?_, R.cl, R.cel, R.cg, R.nd⟩, fun a ⟨i, t, h1, h2⟩ => ?_⟩
    · rw [← at_ h (fun z => by cases z)]; exact R.va i t h
    · rw [← at_ h (fun z => by cases z)]; exact R.ow i t h
    · rw [← at_ h1 (fun z => by cases z)] at h3
      rw [← at_ h2 (fun z => by cases z)] at h4
      exact R.inj i j t u a h1 h2 h3 h4
    · exact ⟨i, t, h1, (at_ h1 (fun z => by cases z)).trans h2⟩
  | w :: ws, hw => by
    obtain ⟨R1, o1⟩ := R0.back hg hk R ws fun x hx => hw x (List.mem_cons_of_mem _ hx)
    unfold backS
    split
    · rename_i t ht
      obtain ⟨v, ev, d⟩ := R0.va w t ht
      have e : s.set w (some v) = s := by
        apply List.ext_getElem?
        intro i
        by_cases hi : w = i
        · subst hi
          rw [List.getElem?_set_self (List.getElem?_eq_some_iff.mp ev).1, ev]
        · rw [List.getElem?_set_ne hi]
      have R2 := R1.setV (i := w) (d.mono hg hk)
      rw [e] at R2
      refine ⟨R2, fun a h => o1 a ?_⟩
      have h' : Own (s.set w (some v)) ((backS E0.r (wipS E1.r vs) ws).set w (.va t)) a := by rw [e]; exact h
      exact own_setV (E := ⟨backS E0.r (wipS E1.r vs) ws, E1.c⟩) h'
    · exact ⟨R1, o1⟩
end
theorem wipS_idem : ∀ (r : List Sl) (vs : List Nat), wipS (wipS r vs) vs = wipS r vs := fun r vs => by
  apply List.ext_getElem?
  intro i
  cases h : (wipS r vs)[i]? with
  | none =>
    have := List.getElem?_eq_none_iff.mp h
    exact List.getElem?_eq_none (by rw [wipS_len]; exact this)
  | some l =>
    have hlt := (List.getElem?_eq_some_iff.mp h).1
    rw [wipS_len] at hlt
    cases h2 : (wipS (wipS r vs) vs)[i]? with
    | none =>
      have := List.getElem?_eq_none_iff.mp h2
      rw [wipS_len, wipS_len] at this
      omega
    | some l2 =>
      have key : ∀ (ws : List Nat) (r : List Sl) (l : Sl), i ∈ ws → (wipS r ws)[i]? = some l → l = .un := by
        intro ws
        induction ws with
        | nil => intro r l h; cases h
        | cons w ws ih =>
          intro r l hm h
          unfold wipS at h
          rcases get_set h with ⟨_, _, y⟩ | ⟨z, y⟩
          · exact y
          · exact ih r l ((List.mem_cons.mp hm).resolve_left z) y
      by_cases hm : i ∈ vs
      · rw [key vs r l hm h, key vs _ l2 hm h2]
      · rcases wipS_at h2 with z | ⟨z, _⟩
        · have out : ∀ (ws : List Nat) (r : List Sl), i ∉ ws → (wipS r ws)[i]? = r[i]? := by
            intro ws
            induction ws with
            | nil => intro r _; rfl
            | cons w ws ih =>
              intro r hm
              unfold wipS
              rw [List.getElem?_set_ne (fun z => hm (by simp [z])), ih r fun z => hm (List.mem_cons_of_mem _ z)]
          rw [out vs _ hm, h] at h2
          exact h2.symm
        · rw [h] at z; exact z.symm
end
end PL
-- PL10
/-! The pure layer 10: list comprehensions. -/
namespace PL
open PySem PySem.Spec PyProof.Rows L2 PySem.SeqAt PySem.W

/-! ### readings that hang on the pure functions alone -/
def tE (X : Cx) (W : WX) (m : M RV) : TE := fun s H Q => ∃ ka G E, Rel X.K X.mg ka G H s E ∧ EPo X W ka G H s (Own s E.r) (m E) Q
def tT (X : Cx) (W : WX) (m : M Bool) : TT := fun s H Q => ∃ ka G E, Rel X.K X.mg ka G H s E ∧ TPo X W ka G H s (Own s E.r) (m E) Q
def GPo (X : Cx) (vs : List Nat) (ka : List Addr) (G H : Hp) (s : L2.St) (O : Addr → Prop) (q : Res Unit) (Q : L2.St → Hp → Prop) : Prop := match q with
  | .ok _ E1 => ∀ s1 G1 ka1 H1, Rel X.K X.mg ka1 G1 H1 s1 E1 → Stp ka G H O ka1 G1 H1 (Own s1 E1.r) → (∀ i, i ∉ vs → s1[i]? = s[i]?) → s1.length = s.length → Q s1 H1
  | _ => False
def tG (X : Cx) (vs : List Nat) (f : T → M Unit) : TG := fun v s H Q => ∃ ka G E t, Rel X.K X.mg ka G H s E ∧ Den X.K X.mg ka G v t ∧ GPo X vs ka G H s (Own s E.r) (f t E) Q
section
variable {X : Cx} {W : WX} {e tg : Expr} {m : M RV} {mt : M Bool} {f : T → M Unit} {vs : List Nat}
theorem JE.pe (h : JE X W e m) : PE X e (tE X W m) := by
  obtain ⟨t, p, q⟩ := h.ex
  exact ⟨fun pins s σ H Q I ⟨ka, G, E, R, h⟩ => p.run pins s σ H Q I (q ka G H σ E Q R h)⟩
theorem JT.pt (h : JT X W e mt) : PT X e (tT X W mt) := by
  obtain ⟨t, p, q⟩ := h.ex
  exact ⟨fun pins s σ H Q I ⟨ka, G, E, R, h⟩ => p.run pins s σ H Q I (q ka G H σ E Q R h)⟩
theorem JG.pg (h : JG X W tg vs f) : PG X tg (tG X vs f) := by
  obtain ⟨t, p, q⟩ := h.ex
  refine ⟨fun pins s σ H v u Q I r ⟨ka, G, E, t', R, d, h⟩ => p.run pins s σ H v u Q I r (q ka G H σ E v t' Q R d ?_)⟩
  unfold GPo at h
  exact h
end
/-- a list that is being made -/
structure Tmp (ka : List Addr) (G H : Hp) (O : Addr → Prop) (D : Addr) (vs : List V) : Prop where
  here : H D = some (.lst vs)
  ng : G D = none
  nk : D ∉ ka
  no : ¬ O D
theorem Tmp.stp {ka ka' : List Addr} {G H G' H' : Hp} {O O' : Addr → Prop} {D : Addr} {vs : List V} (t : Tmp ka G H O D vs) (S : Stp ka G H O ka' G' H' O') : Tmp ka' G' H' O' D vs where
  here := S.keep D _ t.here t.nk t.no
  ng := by
    cases q : G' D with
    | none => rfl
    | some u =>
      rcases S.gn D u q with ⟨o', h⟩ | h | h
      · rw [t.ng] at h; cases h
      · rw [t.here] at h; cases h
      · exact absurd h t.no
  nk := fun h => by
    rcases S.kn D h with h | h | h
    · exact t.nk h
    · exact t.no h
    · rw [t.here] at h; cases h
  no := fun h => by
    rcases S.on D h with h | h
    · exact t.no h
    · rw [t.here] at h; cases h
section
variable {K : PySem.W.Frag} {mg : Str → Option Value} {ka ka' : List Addr} {G G' H H' : Hp} {s : L2.St} {E : Ev} {O O' : Addr → Prop} {D : Addr} {vs : List V} {o : HO}
theorem Rel.updT (R : Rel K mg ka G H s E) (t : Tmp ka G H (Own s E.r) D vs) : Rel K mg ka G (upd H D o) s E where
  sub := fun a u h => by
    have z : a ≠ D := fun z => by rw [z, t.ng] at h; cases h
    rw [upd_ne z]; exact R.sub a u h
  len := R.len
  va := R.va
  ow := fun i u h => by
    obtain ⟨a, h1, h2, h3⟩ := R.ow i u h
    have z : a ≠ D := fun z => t.no ⟨i, u, h, z ▸ h1⟩
    exact ⟨a, h1, h2.at fun w q => by rw [upd_ne z]; exact q, h3⟩
  inj := R.inj
  cl := R.cl
  cel := fun k u h => by
    obtain ⟨a, h1, h2⟩ := R.cel k u h
    have z : a ≠ D := fun z => t.nk (z ▸ List.mem_of_getElem? h1)
    exact ⟨a, h1, h2.at fun w q => by rw [upd_ne z]; exact q⟩
  cg := R.cg
  nd := R.nd
theorem Stp.updF (S : Stp ka G H O ka' G' H' O') (hD : H D = none) : Stp ka G H O ka' G' (upd H' D o) O' :=
  ⟨S.g, S.k, fun a u e nk no => by
    have z : a ≠ D := fun z => by rw [z, hD] at e; cases e
    rw [upd_ne z]; exact S.keep a u e nk no, S.gn, S.on, S.kn, fun a e => by
    by_cases z : a = D
    · rw [z]; exact hD
    · rw [upd_ne z] at e; exact S.dom a e⟩
theorem Stp.more (S : Stp ka G H O ka' G' H' O') (hD : H D = none) : Stp ka G H O ka' G' H' (fun a => O' a ∨ a = D) :=
  ⟨S.g, S.k, S.keep, S.gn, fun a h => h.elim (S.on a) fun z => .inr (z ▸ hD), S.kn, S.dom⟩
end
/-- a clause's tests, by the pure function -/
structure JTs (X : Cx) (W : WX) (ifs : List Expr) (m : M Bool) : Prop where
  pt : PTs X ifs (tT X W m)
theorem jts_nil {X : Cx} {W : WX} : JTs X W [] mYes := ⟨⟨fun pins s σ H Q I ⟨ka, G, E, R, h⟩ => pts_nil.run pins s σ H Q I (h G ka H R Stp.refl)⟩⟩
theorem jts_one {X : Cx} {W : WX} {c : Expr} {m : M Bool} (h : JT X W c m) : JTs X W [c] m := ⟨pts_one h.pt⟩
abbrev W0 : WX := fun _ _ _ _ => False
section
variable {X : Cx} {W : WX}
theorem xpo_none {ka : List Addr} {G H : Hp} {O : Addr → Prop} {c : Str} {fs : List (Str × T)} {e : Ev} {P : Prop} (h : XPo X W ka G H O c fs e → P) : XPo X W ka G H O c fs e → P := h
theorem je_lc {elt tg iter : Expr} {ifs : List Expr} {scope : Scope} {own : List (Str × Nat)} {pos : Pos} {mi : M Wk} {f : T → M Unit} {mt : M Bool} {me : M RV} (hc : X.calm = true) (hN : X.N.Nodup) (hi : JI X W tg iter mi) (ok : BlkOk X.N X.env.scope scope own)
    (hg : ∀ (s : Shared) (H : Hp) (C : Addr) (cl : List (Str × Addr)) (fp : List Addr), JG (X.blk s H scope (compEnvC scope cl C X.env) fp) W0 tg (own.map (·.2)) f) (ht : ∀ (s : Shared) (H : Hp) (C : Addr) (cl : List (Str × Addr)) (fp : List Addr), JTs (X.blk s H scope (compEnvC scope cl C X.env) fp) W0 ifs mt)
    (he : ∀ (s : Shared) (H : Hp) (C : Addr) (cl : List (Str × Addr)) (fp : List Addr), JE (X.blk s H scope (compEnvC scope cl C X.env) fp) W0 elt me) (hs : ∀ x, foldedSetIterable iter X.env x = pure x := by intro _; rfl) :
    JE X W (.ListComp elt [⟨tg, iter, ifs, 0⟩] scope pos) (mLc mi (own.map (·.2)) f mt me) ∧ (∀ {i : Nat} {y : Str} {py spos : Pos}, X.N[i]? = some y → X.env.scope.names.lookup y = some .local → swapsWith (.ListComp elt [⟨tg, iter, ifs, 0⟩] scope pos) (some (.Name y py)) spos.line X.env = pure true →
      ∃ t : TE, PS X (.Assign [.Name y py] (.ListComp elt [⟨tg, iter, ifs, 0⟩] scope pos) spos) (tAsg t (gName i)) ∧ ∀ ka G H s E Q, Rel X.K X.mg ka G H s E → EPo X W ka G H s (Own s E.r) (mLc mi (own.map (·.2)) f mt me E) Q → t s H Q) := by
  obtain ⟨wi, pi, qi⟩ := hi.ex
  have pg := fun (s : Shared) (H : Hp) (C : Addr) (cl : List (Str × Addr)) (fp : List Addr) => (hg s H C cl fp).pg
  have pt := fun (s : Shared) (H : Hp) (C : Addr) (cl : List (Str × Addr)) (fp : List Addr) => (ht s H C cl fp).pt
  have pe := fun (s : Shared) (H : Hp) (C : Addr) (cl : List (Str × Addr)) (fp : List Addr) => (he s H C cl fp).pe
  have core : ∀ ka G H s E Q, Rel X.K X.mg ka G H s E → EPo X W ka G H s (Own s E.r) (mLc mi (own.map (·.2)) f mt me E) Q → tLc wi (tG X (own.map (·.2)) f) (tT X W0 mt) (tE X W0 me) (own.map (·.2)) s H Q := by
    generalize own.map (·.2) = vs
    intro ka G H s E Q R h
    refine qi ka G H s E _ R ?_
    unfold mLc M.bd at h
    cases hm : mi E with
    | st => rw [hm] at h; exact h.elim
    | ex c fs e1 => rw [hm] at h; exact h
    | ok wk E1 =>
      obtain ⟨w, ts⟩ := wk
      rw [hm] at h
      dsimp only at h ⊢
      intro J G1 ka1 H1 R1 S1 it D hD
      cases hr : lcGo w vs f mt me ts [] ⟨wipS E1.r vs, E1.c⟩ with
      | st => rw [hr] at h; exact h.elim
      | ex c fs e1 => rw [hr] at h; exact h.elim
      | ok us Ef =>
        rw [hr] at h
        dsimp only at h
        refine ⟨fun i m H2 => m = ts.length - i ∧ i ≤ ts.length ∧ ∃ (ka2 : List Addr) (G2 : Hp) (E2 : Ev) (acc : List T) (accV : List V), Rel X.K X.mg ka2 G2 H2 (L2.wipe s vs) ⟨wipS E2.r vs, E2.c⟩ ∧ Stp ka1 G1 H1 (Own s E1.r) ka2 G2 H2 (Own (L2.wipe s vs) (wipS E2.r vs)) ∧
          Tmp ka2 G2 H2 (Own (L2.wipe s vs) (wipS E2.r vs)) D accV ∧ Dens X.K X.mg ka2 G2 accV acc ∧ lcGo w vs f mt me (ts.drop i) acc ⟨wipS E2.r vs, E2.c⟩ = .ok us Ef, ⟨ts.length, rfl, Nat.zero_le _, ka1, G1, E1, [], [], (R1.new hD).wipe vs, (Stp.new hD).less fun a x => own_wipe vs x, ⟨upd_same, R1.gfresh hD, R1.kfresh hD, fun x => R1.ofresh hD (own_wipe vs x)⟩, .nil, by rw [List.drop_zero]; exact hr⟩, ?_⟩
        rintro i m H2 ⟨rfl, hi, ka2, G2, E2, acc, accV, R2, S2, T2, D2, hgo⟩
        have hw : wOk w ⟨wipS E2.r vs, E2.c⟩ = true := by
          cases hq : ts.drop i with
          | nil =>
            rw [hq, lcGo] at hgo
            dsimp only at hgo
            by_cases z : wOk w ⟨wipS E2.r vs, E2.c⟩ = true
            · exact z
            · rw [if_neg z] at hgo; cases hgo
          | cons _ _ =>
            rw [hq, lcGo] at hgo
            dsimp only at hgo
            by_cases z : wOk w ⟨wipS E2.r vs, E2.c⟩ = true
            · exact z
            · rw [if_neg z] at hgo; cases hgo
        obtain ⟨go, stop⟩ := it ka2 G2 H2 S2.g S2.k R2.sub (wOk_of R2 hw) i
        by_cases hlt : i < ts.length
        · have hd : ts.drop i = ts[i] :: ts.drop (i + 1) := List.drop_eq_getElem_cons hlt
          rw [hd] at hgo
          obtain ⟨g1, y1⟩ := go ts[i] (List.getElem?_eq_getElem hlt)
          refine .inr ⟨g1, fun H' => ∃ (ka2 : List Addr) (G2 : Hp) (E2 : Ev) (acc : List T) (accV : List V), Rel X.K X.mg ka2 G2 H' (L2.wipe s vs) ⟨wipS E2.r vs, E2.c⟩ ∧ Stp ka1 G1 H1 (Own s E1.r) ka2 G2 H' (Own (L2.wipe s vs) (wipS E2.r vs)) ∧
            Tmp ka2 G2 H' (Own (L2.wipe s vs) (wipS E2.r vs)) D accV ∧ Dens X.K X.mg ka2 G2 accV acc ∧ lcGo w vs f mt me (ts.drop (i + 1)) acc ⟨wipS E2.r vs, E2.c⟩ = .ok us Ef, fun H' q => ⟨ts.length - (i + 1), by omega, rfl, hlt, q⟩, fun x H' yl => ?_⟩
          -- the item is there: G2 or a little more
          obtain ⟨G3, R3, S3, d3⟩ : ∃ G3, Rel X.K X.mg ka2 G3 H' (L2.wipe s vs) ⟨wipS E2.r vs, E2.c⟩ ∧ Stp ka2 G2 H2 (Own (L2.wipe s vs) (wipS E2.r vs)) ka2 G3 H' (Own (L2.wipe s vs) (wipS E2.r vs)) ∧ Den X.K X.mg ka2 G3 x ts[i] := by
            rcases y1 x H' yl with ⟨rfl, d⟩ | ⟨p, pv, pu, rfl, hp, rfl, et, d⟩
            · exact ⟨G2, R2, Stp.refl, d⟩
            · refine ⟨upd G2 p (.tup pv), R2.newG hp, Stp.newG R2.sub hp, ?_⟩
              rw [et]
              exact .tup (SqT.of upd_same) (d.mono (GLe.newG (R2.gfresh hp)) KLe.refl)
          have S13 := S2.trans S3
          have T3 := T2.stp S3
          have A3 := D2.mono (ka' := ka2) S3.g S3.k
          rw [lcGo] at hgo
          dsimp only at hgo
          rw [if_pos hw] at hgo
          refine ⟨ka2, G3, ⟨wipS E2.r vs, E2.c⟩, ts[i], R3, d3, ?_⟩
          cases hf : f ts[i] ⟨wipS E2.r vs, E2.c⟩ with
          | st => rw [hf] at hgo; cases hgo
          | ex c fs e1 => rw [hf] at hgo; cases hgo
          | ok _ E4 =>
            rw [hf] at hgo
            dsimp only at hgo
            intro s4 G4 ka4 H4 R4 S4 k4 l4
            have w4 : L2.wipe s4 vs = L2.wipe s vs := by
              have z := wipe_of vs l4 k4
              rw [z]
              apply wipe_of vs (by rw [wipe_length])
              intro j hj
              exact wipe_out hj
            refine ⟨w4, ka4, G4, E4, R4, ?_⟩
            have S14 := S13.trans S4
            have T4 := T3.stp S4
            have A4 := A3.mono S4.g S4.k
            cases hq : mt E4 with
            | st => rw [hq] at hgo; cases hgo
            | ex c fs e1 => rw [hq] at hgo; cases hgo
            | ok b E5 =>
              rw [hq] at hgo
              intro G5 ka5 H5 R5 S5
              have S15 := S14.trans S5
              have T5 := T4.stp S5
              have A5 := A4.mono S5.g S5.k
              cases b with
              | false =>
                rw [if_neg Bool.false_ne_true]
                dsimp only at hgo
                have R6 := R5.wiped vs w4
                have S6 : Stp ka1 G1 H1 (Own s E1.r) ka5 G5 H5 (Own (L2.wipe s vs) (wipS E5.r vs)) := S15.less fun a z => own_wipe (s := s4) (E := E5) vs (w4 ▸ z)
                exact ⟨ka5, G5, E5, acc, accV, R6, S6, ⟨T5.here, T5.ng, T5.nk, fun z => T5.no (own_wipe (s := s4) (E := E5) vs (w4 ▸ z))⟩, A5, hgo⟩
              | true =>
                rw [if_pos rfl]
                dsimp only at hgo
                refine ⟨ka5, G5, E5, R5, ?_⟩
                cases hq2 : me E5 with
                | st => rw [hq2] at hgo; cases hgo
                | ex c fs e1 => rw [hq2] at hgo; cases hgo
                | ok q E6 =>
                  rw [hq2] at hgo
                  dsimp only at hgo
                  intro y G6 ka6 H6 R6 S6 D6
                  have T6 := T5.stp S6
                  have A6 := A5.mono S6.g S6.k
                  cases hz : fz E6 q with
                  | none => rw [hz] at hgo; cases hgo
                  | some p =>
                    obtain ⟨u, E7⟩ := p
                    rw [hz] at hgo
                    dsimp only at hgo
                    obtain ⟨G7, R7, d7, S7, _⟩ := R6.fz D6 hz
                    have T7 := T6.stp S7
                    have A7 := A6.mono S7.g S7.k
                    have S17 := (S15.trans S6).trans S7
                    by_cases hlen : acc.length < sz
                    · rw [if_pos hlen] at hgo
                      refine ⟨accV, T7.here, by rw [A7.length]; exact sz_eq hlen, ?_⟩
                      have R8 := (R7.updT (o := .lst (accV ++ [y])) T7).wiped vs w4
                      have S8 : Stp ka1 G1 H1 (Own s E1.r) ka6 G7 (upd H6 D (.lst (accV ++ [y]))) (Own (L2.wipe s vs) (wipS E7.r vs)) := (S17.updF (o := .lst (accV ++ [y])) hD).less fun a z => own_wipe (s := s4) (E := E7) vs (w4 ▸ z)
                      exact ⟨ka6, G7, E7, acc ++ [u], accV ++ [y], R8, S8, ⟨upd_same, T7.ng, T7.nk, fun z => T7.no (own_wipe (s := s4) (E := E7) vs (w4 ▸ z))⟩, A7.append (.cons d7 .nil), hgo⟩
                    · rw [if_neg hlen] at hgo; cases hgo
        · have hi' : i = ts.length := by omega
          subst hi'
          rw [List.drop_length, lcGo] at hgo
          dsimp only at hgo
          rw [if_pos hw] at hgo
          injection hgo with e1 e2
          subst e1 e2
          refine .inl ⟨stop (Nat.le_refl _), ?_⟩
          obtain ⟨Rb, ob⟩ := R1.back S2.g S2.k R2 vs fun _ z => z
          have ob' : ∀ a, Own s (backS E1.r (wipS E2.r vs) vs) a → Own (L2.wipe s vs) (wipS E2.r vs) a := ob
          refine h (.ref D) G2 ka2 H2 Rb ((S1.trans (S2.more hD)).less fun a z => ?_) ⟨D, rfl, ⟨accV, T2.here, D2⟩, T2.ng, T2.nk, fun z => T2.no (ob' D z)⟩
          rcases z with z | ⟨_, _, z⟩
          · exact .inl (ob' a z)
          · cases z; exact .inr rfl
  exact ⟨⟨_, pe_lc hc hN pi ok pg pt pe hs, core⟩, fun {i y py spos} hy hyl hsw => ⟨_, ps_setLc hc hN hy hyl hsw pi ok pg pt pe hs, core⟩⟩
end
end PL
-- PL11
/-! The pure layer 11: statements, what they write. -/
namespace PL
open PySem PySem.Spec PyProof.Rows L2 PySem.SeqAt PySem.W

inductive Fl where
  | nx | br | ct | rt (q : RV)
section
variable (X : Cx) (W : WX) (ka : List Addr) (G H : Hp) (O : Addr → Prop)
def NPo (e : Ev) (N : L2.St → Hp → Prop) : Prop := ∀ s' G' ka' H', Rel X.K X.mg ka' G' H' s' e → Stp ka G H O ka' G' H' (Own s' e.r) → N s' H'
def VPo (q : RV) (e : Ev) (N : VK) : Prop := ∀ v s' G' ka' H', Rel X.K X.mg ka' G' H' s' e → Stp ka G H O ka' G' H' (OwV s' e.r v q) → DV X.K X.mg ka' G' H' s' e.r v q → N v H'
def SPo (q : Res Fl) (D : Ends) : Prop := match q with
  | .st => False
  | .ok .nx e => NPo X ka G H O e D.nx
  | .ok .br e => NPo X ka G H O e D.bk
  | .ok .ct e => NPo X ka G H O e D.ct
  | .ok (.rt q) e => VPo X ka G H O q e D.rt
  | .ex c fs e => XPo X W ka G H O c fs e
end
structure JS (X : Cx) (W : WX) (st : Stmt) (m : M Fl) : Prop where
  ex : ∃ t : TS, PS X st t ∧ ∀ ka G H s E D, Rel X.K X.mg ka G H s E → SPo X W ka G H (Own s E.r) (m E) D → t D s H
structure JSs (X : Cx) (W : WX) (sts : List Stmt) (m : M Fl) : Prop where
  ex : ∃ t : TS, PSs X sts t ∧ ∀ ka G H s E D, Rel X.K X.mg ka G H s E → SPo X W ka G H (Own s E.r) (m E) D → t D s H
section
variable {X : Cx} {W : WX} {ka ka' : List Addr} {G H G' H' : Hp} {O O' : Addr → Prop} {D D' : Ends} {e : Ev}
theorem NPo.later {N : L2.St → Hp → Prop} (S : Stp ka G H O ka' G' H' O') (h : NPo X ka G H O e N) : NPo X ka' G' H' O' e N := fun s' G2 k2 H2 R S2 => h s' G2 k2 H2 R (S.trans S2)
theorem VPo.later {q : RV} {N : VK} (S : Stp ka G H O ka' G' H' O') (h : VPo X ka G H O q e N) : VPo X ka' G' H' O' q e N := fun v s' G2 k2 H2 R S2 => h v s' G2 k2 H2 R (S.trans S2)
theorem SPo.later {q : Res Fl} (S : Stp ka G H O ka' G' H' O') (h : SPo X W ka G H O q D) : SPo X W ka' G' H' O' q D := by
  rcases q with _ | ⟨f, e⟩ | ⟨c, fs, e⟩
  · exact h
  · cases f with
    | nx => exact NPo.later S h
    | br => exact NPo.later S h
    | ct => exact NPo.later S h
    | rt q => exact VPo.later S h
  · exact XPo.later S h
end

/-! ### in order -/
def mNx : M Fl := fun e => .ok .nx e
def mBr : M Fl := fun e => .ok .br e
def mCt : M Fl := fun e => .ok .ct e
def mSeq (m n : M Fl) : M Fl := fun e => match m e with
  | .ok .nx e1 => n e1
  | r => r
section
variable {X : Cx} {W : WX} {pos : Pos} {st : Stmt} {sts : List Stmt} {m n : M Fl} {c e : Expr} {me : M RV} {mt : M Bool}
theorem jss_nil : JSs X W [] mNx := ⟨tNext, pss_nil, fun ka G H s E D R h => h s G ka H R Stp.refl⟩
theorem jss_cons (h1 : JS X W st m) (h2 : JSs X W sts n) : JSs X W (st :: sts) (mSeq m n) := by
  obtain ⟨t1, p1, q1⟩ := h1.ex
  obtain ⟨t2, p2, q2⟩ := h2.ex
  refine ⟨_, pss_cons p1 p2, fun ka G H s E D R h => q1 ka G H s E _ R ?_⟩
  unfold mSeq at h
  rcases hm : m E with _ | ⟨f, e1⟩ | ⟨c, fs, e1⟩
  · rw [hm] at h; exact h.elim
  · rw [hm] at h
    cases f with
    | nx =>
      dsimp only at h
      exact fun s1 G1 ka1 H1 R1 S1 => q2 ka1 G1 H1 s1 e1 D R1 (SPo.later S1 h)
    | br => exact h
    | ct => exact h
    | rt q => exact h
  · rw [hm] at h; exact h
theorem jss_one (h1 : JS X W st m) : JSs X W [st] m := by
  obtain ⟨t1, p1, q1⟩ := h1.ex
  exact ⟨_, pss_one p1, q1⟩
theorem js_pass : JS X W (.Pass pos) mNx := ⟨_, ps_pass, fun ka G H s E D R h => h s G ka H R Stp.refl⟩
theorem js_break : JS X W (.Break pos) mBr := ⟨_, ps_break, fun ka G H s E D R h => h s G ka H R Stp.refl⟩
theorem js_continue : JS X W (.Continue pos) mCt := ⟨_, ps_continue, fun ka G H s E D R h => h s G ka H R Stp.refl⟩
theorem js_doc {x : Str} {j} {pos' : Pos} : JS X W (.Expr (.Constant (.str x) j pos) pos') mNx := ⟨_, ps_doc, fun ka G H s E D R h => h s G ka H R Stp.refl⟩
def mDrop (m : M RV) : M Fl := m.bd fun _ e => .ok .nx e
theorem js_expr (he : JE X W e me) (hs : swapsWith e none pos.line X.env = pure false := by rfl) : JS X W (.Expr e pos) (mDrop me) := by
  obtain ⟨t, p, q⟩ := he.ex
  refine ⟨_, ps_expr p hs, fun ka G H s E D R h => q ka G H s E _ R ?_⟩
  unfold mDrop M.bd at h
  cases hm : me E with
  | st => rw [hm] at h; exact h.elim
  | ex c fs e1 => rw [hm] at h; exact h
  | ok r E1 =>
    rw [hm] at h
    exact fun v G1 ka1 H1 R1 S1 D1 => h s G1 ka1 H1 R1 (S1.less fun _ x => .inl x)
def mRet (m : M RV) : M Fl := m.bd fun q e => .ok (.rt q) e
theorem js_ret (he : JE X W e me) : JS X W (.Return (some e) pos) (mRet me) := by
  obtain ⟨t, p, q⟩ := he.ex
  refine ⟨_, ps_ret p, fun ka G H s E D R h => q ka G H s E _ R ?_⟩
  unfold mRet M.bd at h
  cases hm : me E with
  | st => rw [hm] at h; exact h.elim
  | ex c fs e1 => rw [hm] at h; exact h
  | ok r E1 =>
    rw [hm] at h
    exact fun v G1 ka1 H1 R1 S1 D1 => h v s G1 ka1 H1 R1 S1 D1
def mRetN : M Fl := fun e => .ok (.rt (.va .non)) e
theorem js_retN : JS X W (.Return none pos) mRetN := ⟨_, ps_retN, fun ka G H s E D R h => h .non s G ka H R (Stp.refl.less fun _ x => x.elim id fun ⟨_, z, _⟩ => by cases z) .non⟩
def mIfS (c : M Bool) (m n : M Fl) : M Fl := c.bd fun b => if b then m else n
theorem js_if {a b : List Stmt} (hc : JT X W c mt) (ha : JSs X W a m) (hb : JSs X W b n) : JS X W (.If c a b pos) (mIfS mt m n) := by
  obtain ⟨t1, p1, q1⟩ := hc.ex
  obtain ⟨t2, p2, q2⟩ := ha.ex
  obtain ⟨t3, p3, q3⟩ := hb.ex
  refine ⟨_, ps_if p1 p2 p3, fun ka G H s E D R h => q1 ka G H s E _ R ?_⟩
  unfold mIfS M.bd at h
  cases hm : mt E with
  | st => rw [hm] at h; exact h.elim
  | ex c fs e1 => rw [hm] at h; exact h
  | ok k E1 =>
    rw [hm] at h
    dsimp only at h
    intro G1 ka1 H1 R1 S1
    cases k with
    | true => rw [if_pos rfl]; rw [if_pos rfl] at h; exact q2 ka1 G1 H1 s E1 D R1 (SPo.later S1 h)
    | false => rw [if_neg Bool.false_ne_true]; rw [if_neg Bool.false_ne_true] at h; exact q3 ka1 G1 H1 s E1 D R1 (SPo.later S1 h)
end

/-! ### name = value -/
/-- slot i takes q -/
def stv (i : Nat) (e : Ev) : RV → Option Ev
  | .va t => some ⟨e.r.set i (.va t), e.c⟩
  | .ow t => some ⟨e.r.set i (.ow t), e.c⟩
  | .br j => match e.r[j]? with
    | some (.va t) => some ⟨e.r.set i (.va t), e.c⟩
    | some (.ow t) => if j = i then some e else some ⟨(e.r.set j .un).set i (.ow t), e.c⟩
    | _ => none
section
variable {K : PySem.W.Frag} {mg : Str → Option Value} {ka : List Addr} {G H : Hp} {s : L2.St} {E E' : Ev} {v : V} {q : RV} {i : Nat}
theorem List.set_eq {α : Type} {l : List α} {i : Nat} {x : α} (h : l[i]? = some x) : l.set i x = l := by
  apply List.ext_getElem?
  intro j
  by_cases z : j = i
  · subst z
    rw [List.getElem?_set_self (List.getElem?_eq_some_iff.mp h).1, h]
  · rw [List.getElem?_set_ne (Ne.symm z)]
theorem Rel.stv (R : Rel K mg ka G H s E) (d : DV K mg ka G H s E.r v q) (h : stv i E q = some E') : Rel K mg ka G H (s.set i (some v)) E' ∧ ∀ a, Own (s.set i (some v)) E'.r a → OwV s E.r v q a := by
  cases q with
  | va t =>
    cases Option.some.inj h
    exact ⟨R.setV d, fun a x => .inl (own_setV x)⟩
  | ow t =>
    cases Option.some.inj h
    exact ⟨R.setO d, fun a x => own_setO x⟩
  | br j =>
    have hs : s[j]? = some (some v) := d
    unfold PL.stv at h
    dsimp only at h
    cases q : E.r[j]? with
    | none => rw [q] at h; cases h
    | some l =>
      rw [q] at h
      cases l with
      | un => cases h
      | xc c fs => cases h
      | va t =>
        cases Option.some.inj h
        obtain ⟨v', ev, dv⟩ := R.va j t q
        rw [hs] at ev; cases ev
        exact ⟨R.setV dv, fun a x => .inl (own_setV x)⟩
      | ow t =>
        obtain ⟨a, ea, db, hg, hk⟩ := R.ow j t q
        rw [hs] at ea; cases ea
        dsimp only at h
        by_cases z : j = i
        · subst z
          rw [if_pos rfl] at h
          cases h
          rw [List.set_eq hs]
          exact ⟨R, fun a x => .inl x⟩
        · rw [if_neg z] at h
          cases h
          have R1 : Rel K mg ka G H s ⟨E.r.set j .un, E.c⟩ := R.lose (fun _ z => by cases z) fun _ z => by cases z
          have no1 : ¬ Own s (E.r.set j .un) a := fun hb => (own_set (fun _ z => by cases z) hb).2 a hs (fun k t u h1 h2 h3 => R.inj j k t u a h1 h2 hs h3) ⟨t, q⟩ rfl
          have d1 : DV K mg ka G H s (E.r.set j .un) (.ref a) (.ow t) := ⟨a, rfl, db, hg, hk, no1⟩
          refine ⟨R1.setO (i := i) d1, fun b x => ?_⟩
          rcases own_setO (E := ⟨E.r.set j .un, E.c⟩) x with x | ⟨_, _, x⟩
          · exact .inl (own_set (fun _ z => by cases z) x).1
          · cases x; exact .inl ⟨j, t, q, hs⟩
/-- slot i takes q; a list becomes a shared cell -/
def stc (i : Nat) (e : Ev) : RV → Option Ev
  | .ow t => some ⟨e.r.set i (.va (.cel e.c.length)), e.c ++ [t]⟩
  | q => stv i e q
theorem Rel.addC {a : Addr} {t : T} (R : Rel K mg ka G H s E) (d : DV K mg ka G H s E.r (.ref a) (.ow t)) : Rel K mg (ka ++ [a]) G H s ⟨E.r, E.c ++ [t]⟩ ∧ Den K mg (ka ++ [a]) G (.ref a) (.cel E.c.length) := by
  obtain ⟨b, eb, db, hg, hk, ho⟩ := d
  cases eb
  have kl : KLe ka (ka ++ [a]) := ⟨[a], rfl⟩
  refine ⟨⟨R.sub, R.len, fun i u h => ?_, fun i u h => ?_, R.inj, by simp [R.cl], fun k u h => ?_, fun b hb => ?_, ?_⟩, .cel ?_⟩
  · obtain ⟨v, h1, h2⟩ := R.va i u h
    exact ⟨v, h1, h2.mono GLe.refl kl⟩
  · obtain ⟨b, h1, h2, h3, h4⟩ := R.ow i u h
    refine ⟨b, h1, h2.mono GLe.refl kl, h3, fun hm => ?_⟩
    rcases List.mem_append.mp hm with hm | hm
    · exact h4 hm
    · cases List.mem_singleton.mp hm
      exact ho ⟨i, u, h, h1⟩
  · by_cases z : k < E.c.length
    · rw [List.getElem?_append_left z] at h
      obtain ⟨b, h1, h2⟩ := R.cel k u h
      exact ⟨b, kl.get h1, h2.mono GLe.refl kl⟩
    · have hk2 : k = E.c.length := by
        have := (List.getElem?_eq_some_iff.mp h).1
        simp at this; omega
      subst hk2
      rw [List.getElem?_append_right (Nat.le_refl _), Nat.sub_self] at h
      cases (Option.some.inj h)
      refine ⟨a, ?_, db.mono GLe.refl kl⟩
      rw [← R.cl, List.getElem?_append_right (Nat.le_refl _), Nat.sub_self]
      rfl
  · rcases List.mem_append.mp hb with hb | hb
    · exact R.cg b hb
    · cases List.mem_singleton.mp hb; exact hg
  · exact List.nodup_append.mpr ⟨R.nd, by simp, fun x hx y hy => by
      cases List.mem_singleton.mp hy
      exact fun z => hk (z ▸ hx)⟩
  · rw [← R.cl, List.getElem?_append_right (Nat.le_refl _), Nat.sub_self]
    rfl
theorem Rel.stc (R : Rel K mg ka G H s E) (d : DV K mg ka G H s E.r v q) (h : stc i E q = some E') : ∃ ka', Rel K mg ka' G H (s.set i (some v)) E' ∧ Stp ka G H (OwV s E.r v q) ka' G H (Own (s.set i (some v)) E'.r) := by
  have other : PL.stv i E q = some E' → ∃ ka', Rel K mg ka' G H (s.set i (some v)) E' ∧ Stp ka G H (OwV s E.r v q) ka' G H (Own (s.set i (some v)) E'.r) := fun h => by
    obtain ⟨R1, o1⟩ := R.stv d h
    exact ⟨ka, R1, Stp.refl.less o1⟩
  cases q with
  | va t => exact other h
  | br j => exact other h
  | ow t =>
    cases Option.some.inj h
    obtain ⟨a, rfl, db, hg, hk, ho⟩ := id d
    obtain ⟨R1, d1⟩ := R.addC d
    refine ⟨ka ++ [a], R1.setV d1, ⟨GLe.refl, ⟨[a], rfl⟩, fun _ _ x _ _ => x, fun b o x => .inl ⟨o, x⟩, fun b x => .inl (.inl (own_setV (E := ⟨E.r, E.c ++ [t]⟩) x)), fun b x => ?_, fun _ x => x⟩⟩
    rcases List.mem_append.mp x with x | x
    · exact .inl x
    · cases List.mem_singleton.mp x; exact .inr (.inl (.inr ⟨t, rfl, rfl⟩))
end
def mSet (i : Nat) (m : M RV) : M Fl := m.bd fun q e => match stv i e q with
  | some e' => .ok .nx e'
  | none => .st
def mSetC (i : Nat) (m : M RV) : M Fl := m.bd fun q e => match stc i e q with
  | some e' => .ok .nx e'
  | none => .st
section
variable {X : Cx} {W : WX} {pos pos' : Pos} {e : Expr} {m : M RV} {i : Nat} {x : Str}
theorem set_go {te : TE} {ka : List Addr} {G H : Hp} {s : L2.St} {E : Ev} {D : Ends} (q : ∀ (Q : VK), EPo X W ka G H s (Own s E.r) (m E) Q → te s H Q) (h : SPo X W ka G H (Own s E.r) (mSet i m E) D) : tAsg te (gName i) D s H := by
  refine q _ ?_
  unfold mSet M.bd at h
  cases hm : m E with
  | st => rw [hm] at h; exact h.elim
  | ex c fs e1 => rw [hm] at h; exact h
  | ok r E1 =>
    rw [hm] at h
    dsimp only at h
    intro v G1 ka1 H1 R1 S1 D1
    cases hs : stv i E1 r with
    | none => rw [hs] at h; exact h.elim
    | some E2 =>
      rw [hs] at h
      obtain ⟨R2, o2⟩ := R1.stv D1 hs
      exact h _ G1 ka1 H1 R2 (S1.less o2)
theorem setC_go {te : TE} {ka : List Addr} {G H : Hp} {s : L2.St} {E : Ev} {D : Ends} (q : ∀ (Q : VK), EPo X W ka G H s (Own s E.r) (m E) Q → te s H Q) (h : SPo X W ka G H (Own s E.r) (mSetC i m E) D) : tAsg te (gName i) D s H := by
  refine q _ ?_
  unfold mSetC M.bd at h
  cases hm : m E with
  | st => rw [hm] at h; exact h.elim
  | ex c fs e1 => rw [hm] at h; exact h
  | ok r E1 =>
    rw [hm] at h
    dsimp only at h
    intro v G1 ka1 H1 R1 S1 D1
    cases hs : stc i E1 r with
    | none => rw [hs] at h; exact h.elim
    | some E2 =>
      rw [hs] at h
      obtain ⟨k2, R2, S2⟩ := R1.stc D1 hs
      exact h _ G1 k2 H1 R2 (S1.trans S2)
theorem js_set (hN : X.N.Nodup) (hi : X.N[i]? = some x) (hx : Loc X.env.scope x) (he : JE X W e m) (hs : swapsWith e (some (.Name x pos')) pos.line X.env = pure false := by rfl) (hf : X.fn x = true ∨ X.env.scope.names.lookup x = some .local := by first | exact .inl rfl | exact .inr rfl | assumption) :
    JS X W (.Assign [.Name x pos'] e pos) (mSet i m) := by
  obtain ⟨t, p, q⟩ := he.ex
  exact ⟨_, ps_set hN hi hx p hs hf, fun ka G H s E D R h => set_go (fun Q => q ka G H s E Q R) h⟩
theorem js_setC (hN : X.N.Nodup) (hi : X.N[i]? = some x) (hx : Loc X.env.scope x) (he : JE X W e m) (hs : swapsWith e (some (.Name x pos')) pos.line X.env = pure false := by rfl) (hf : X.fn x = true ∨ X.env.scope.names.lookup x = some .local := by first | exact .inl rfl | exact .inr rfl | assumption) :
    JS X W (.Assign [.Name x pos'] e pos) (mSetC i m) := by
  obtain ⟨t, p, q⟩ := he.ex
  exact ⟨_, ps_set hN hi hx p hs hf, fun ka G H s E D R h => setC_go (fun Q => q ka G H s E Q R) h⟩
end
end PL
-- PL12
/-! The pure layer 12: places that are written, subscript targets, tuples of targets. -/
namespace PL
open PySem PySem.Spec PyProof.Rows L2 PySem.SeqAt PySem.W

/-! ### places -/
def plOf (e : Ev) : RV → Option (Sum Nat Nat × T)
  | .va (.cel k) => match e.c[k]? with
    | some t => some (.inr k, t)
    | none => none
  | .br i => match e.r[i]? with
    | some (.ow t) => some (.inl i, t)
    | _ => none
  | _ => none
def putP (e : Ev) (p : Sum Nat Nat) (t : T) : Ev := match p with
  | .inl i => ⟨e.r.set i (.ow t), e.c⟩
  | .inr k => ⟨e.r, e.c.set k t⟩
section
variable {K : PySem.W.Frag} {mg : Str → Option Value} {ka : List Addr} {G H : Hp} {s : L2.St} {E E' : Ev} {v : V} {q : RV} {i : Nat} {t : T}
theorem DenB.upd {a b : Addr} {o : HO} {u : T} (h : DenB K mg ka G H b u) (hb : b ≠ a) : DenB K mg ka G (upd H a o) b u := h.at fun w q => by rw [upd_ne hb]; exact q
theorem own_putI {a : Addr} {t u : T} (h : E.r[i]? = some (.ow t)) (x : Own s (E.r.set i (.ow u)) a) : Own s E.r a := by
  obtain ⟨j, w, h1, h2⟩ := x
  rcases get_set h1 with ⟨rfl, _, _⟩ | ⟨_, y⟩
  · exact ⟨j, t, h, h2⟩
  · exact ⟨j, w, y, h2⟩
theorem nodup_at {l : List Addr} (nd : l.Nodup) {i j : Nat} {a : Addr} (h1 : l[i]? = some a) (h2 : l[j]? = some a) : i = j := by
  obtain ⟨x1, y1⟩ := List.getElem?_eq_some_iff.mp h1
  exact (List.getElem?_inj x1 nd).mp (h1.trans h2.symm)
theorem Rel.place (R : Rel K mg ka G H s E) (d : DV K mg ka G H s E.r v q) {pl : Sum Nat Nat} (h : plOf E q = some (pl, t)) :
    ∃ a, v = .ref a ∧ DenB K mg ka G H a t ∧ ∀ o u, DenB K mg ka G (upd H a o) a u → Rel K mg ka G (upd H a o) s (putP E pl u) ∧ Stp ka G H (Own s E.r) ka G (upd H a o) (Own s (putP E pl u).r) := by
  have dom : ∀ {a : Addr} {o : HO} {w : T}, DenB K mg ka G H a w → ∀ b, (L2.upd H a o) b = none → H b = none := fun {a o w} _ b e => by
    by_cases z : b = a
    · subst z; rw [upd_same] at e; cases e
    · rw [upd_ne z] at e; exact e
  have cell : ∀ {k : Nat} {t : T}, E.c[k]? = some t → Den K mg ka G v (.cel k) → ∃ a, v = .ref a ∧ DenB K mg ka G H a t ∧ ∀ o u, DenB K mg ka G (L2.upd H a o) a u → Rel K mg ka G (L2.upd H a o) s ⟨E.r, E.c.set k u⟩ ∧ Stp ka G H (Own s E.r) ka G (L2.upd H a o) (Own s E.r) := by
    intro k t hc d
    cases d with
    | @cel a _ ea =>
      obtain ⟨b, eb, db⟩ := R.cel k t hc
      rw [ea] at eb; cases eb
      refine ⟨a, rfl, db, fun o u du => ⟨⟨fun b w hb => ?_, R.len, R.va, fun j w hj => ?_, R.inj, by simp [R.cl], fun j w hj => ?_, R.cg, R.nd⟩, ⟨GLe.refl, KLe.refl, fun b w hb nk _ => ?_, fun b w hb => .inl ⟨w, hb⟩, fun _ x => .inl x, fun _ x => .inl x, dom db⟩⟩⟩
      · have z : b ≠ a := fun z => by rw [z, R.cg a (List.mem_of_getElem? ea)] at hb; cases hb
        rw [upd_ne z]; exact R.sub b w hb
      · obtain ⟨b, h1, h2, h3, h4⟩ := R.ow j w hj
        have z : b ≠ a := fun z => h4 (z ▸ List.mem_of_getElem? ea)
        exact ⟨b, h1, h2.upd z, h3, h4⟩
      · rcases get_set hj with ⟨rfl, _, y⟩ | ⟨z, y⟩
        · cases y; exact ⟨a, ea, du⟩
        · obtain ⟨b, h1, h2⟩ := R.cel j w y
          have z2 : b ≠ a := fun z2 => z (nodup_at R.nd (z2 ▸ h1) ea)
          exact ⟨b, h1, h2.upd z2⟩
      · have z : b ≠ a := fun z => nk (z ▸ List.mem_of_getElem? ea)
        rw [upd_ne z]; exact hb
  cases q with
  | ow t0 => cases h
  | va t0 =>
    cases t0 with
    | cel k =>
      unfold plOf at h
      dsimp only at h
      cases hc : E.c[k]? with
      | none => rw [hc] at h; cases h
      | some w =>
        rw [hc] at h
        cases h
        exact cell hc d
    | _ => cases h
  | br j =>
    have hs : s[j]? = some (some v) := d
    unfold plOf at h
    dsimp only at h
    cases hq : E.r[j]? with
    | none => rw [hq] at h; cases h
    | some l =>
      rw [hq] at h
      cases l with
      | ow t0 =>
        cases h
        obtain ⟨a, ea, db, hg, hk⟩ := R.ow j t hq
        rw [hs] at ea; cases ea
        refine ⟨a, rfl, db, fun o u du => ⟨⟨fun b w hb => ?_, by show s.length = (E.r.set j (.ow u)).length; simpa using R.len, fun i w hi => ?_, fun i w hi => ?_, fun i1 i2 w1 w2 b h1 h2 h3 h4 => ?_, R.cl, fun k w hk2 => ?_, R.cg, R.nd⟩, ⟨GLe.refl, KLe.refl, fun b w hb nk no => ?_, fun b w hb => .inl ⟨w, hb⟩, fun b x => .inl (own_putI hq x), fun _ x => .inl x, dom db⟩⟩⟩
        · have z : b ≠ a := fun z => by rw [z, hg] at hb; cases hb
          rw [upd_ne z]; exact R.sub b w hb
        · rcases get_set hi with ⟨_, _, y⟩ | ⟨_, y⟩
          · cases y
          · exact R.va i w y
        · rcases get_set hi with ⟨rfl, _, y⟩ | ⟨z, y⟩
          · cases y; exact ⟨a, hs, du, hg, hk⟩
          · obtain ⟨b, h1, h2, h3⟩ := R.ow i w y
            have z2 : b ≠ a := fun z2 => z (R.inj i j w t a y hq (z2 ▸ h1) hs)
            exact ⟨b, h1, h2.upd z2, h3⟩
        · have at_ : ∀ {i : Nat} {w : T}, (E.r.set j (.ow u))[i]? = some (.ow w) → ∃ w', E.r[i]? = some (.ow w') := fun {i w} hi => by
            rcases get_set hi with ⟨rfl, _, _⟩ | ⟨_, y⟩
            · exact ⟨t, hq⟩
            · exact ⟨w, y⟩
          obtain ⟨w1', y1⟩ := at_ h1
          obtain ⟨w2', y2⟩ := at_ h2
          exact R.inj i1 i2 w1' w2' b y1 y2 h3 h4
        · obtain ⟨b, h1, h2⟩ := R.cel k w hk2
          have z : b ≠ a := fun z => hk (z ▸ List.mem_of_getElem? h1)
          exact ⟨b, h1, h2.upd z⟩
        · have z : b ≠ a := fun z => no (z ▸ ⟨j, t, hq, hs⟩)
          rw [upd_ne z]; exact hb
      | _ => cases h
end

/-! ### o[i] = .. -/
def sbT (k : T) (t : T) : T → Option T
  | .lst ts => match k with
    | .int i => match ixN ts.length i with
      | some j => some (.lst (ts.set j t))
      | none => none
    | _ => none
  | _ => none
def gSb (mo mi : M RV) (t : T) : M Unit := mo.bd fun q => mi.bd fun p e => match plOf e q, p with
  | some (pl, u), .va k => match sbT k t u with
    | some u' => .ok () (putP e pl u')
    | none => .st
  | _, _ => .st
section
variable {X : Cx} {W : WX} {pos : Pos} {o i : Expr} {mo mi : M RV}
theorem jg_sub (ho : JE X W0 o mo) (hi : JE X W0 i mi) (ha : ∀ v, assign (.Subscript o i pos) X.env v = (do
      let ov ← holding [v] (eval o X.env)
      let iv ← holding [v, ov] (eval i X.env)
      standAt pos
      holding [v, ov, iv] (setItem ov iv v)
      release [v, ov, iv] []) := by intro _; rfl) : JG X W (.Subscript o i pos) [] (gSb mo mi) := by
  obtain ⟨t1, p1, q1⟩ := ho.ex
  obtain ⟨t2, p2, q2⟩ := hi.ex
  refine ⟨_, pg_sub p1 p2 set_list ha, fun ka G H s E v t Q R d h => q1 ka G H s E _ R ?_⟩
  unfold gSb M.bd at h
  cases hm : mo E with
  | st => rw [hm] at h; exact h.elim
  | ex c fs e1 => rw [hm] at h; exact h.elim
  | ok ra E1 =>
    rw [hm] at h
    dsimp only at h
    intro x G1 ka1 H1 R1 S1 D1
    have S1' : Stp ka G H (Own s E.r) ka1 G1 H1 (Own s E1.r) := S1.less fun a x => .inl x
    refine q2 ka1 G1 H1 s E1 _ R1 ?_
    cases hm2 : mi E1 with
    | st => rw [hm2] at h; exact h.elim
    | ex c fs e1 => rw [hm2] at h; exact h.elim
    | ok rb E2 =>
      rw [hm2] at h
      dsimp only at h
      intro y G2 ka2 H2 R2 S2 D2
      have D1' := (D1.stp (e' := E2) (S2.less fun a x => .inl x) fun _ x => x).1
      have S12 : Stp ka G H (Own s E.r) ka2 G2 H2 (Own s E2.r) := S1'.trans (S2.less fun a x => .inl x)
      have d2 : Den X.K X.mg ka2 G2 v t := d.mono (S1'.trans (S2.less (O'' := Own s E2.r) fun a x => .inl x)).g S12.k
      cases hp : plOf E2 ra with
      | none => rw [hp] at h; exact h.elim
      | some pt =>
        obtain ⟨pl, u⟩ := pt
        rw [hp] at h
        cases rb with
        | va k =>
          dsimp only at h
          cases hs : sbT k t u with
          | none => rw [hs] at h; exact h.elim
          | some u' =>
            rw [hs] at h
            dsimp only at h
            obtain ⟨a, rfl, du, go⟩ := R2.place D1' hp
            cases u with
            | lst ts =>
              cases k with
              | int k =>
                unfold sbT at hs
                dsimp only at hs
                cases hx : ixN ts.length k with
                | none => rw [hx] at hs; cases hs
                | some j =>
                  rw [hx] at hs
                  cases hs
                  obtain ⟨vs, hv, dv⟩ := du
                  cases D2
                  refine ⟨a, vs, k, j, rfl, rfl, hv, by rw [dv.length]; exact hx, ?_⟩
                  obtain ⟨R3, S3⟩ := go (.lst (vs.set j v)) (.lst (ts.set j t)) ⟨_, upd_same, dv.set d2 j⟩
                  exact h s G2 ka2 _ R3 (S12.trans S3) (fun _ _ => rfl) rfl
              | _ => cases hs
            | _ => cases hs
        | ow _ => exact h.elim
        | br _ => exact h.elim
end

/-! ### targets that take a value as it is -/
def OkPo (X : Cx) (ka : List Addr) (G H : Hp) (O : Addr → Prop) (r : Res Unit) (Q : L2.St → Hp → Prop) : Prop := match r with
  | .ok _ E1 => NPo X ka G H O E1 Q
  | _ => False
structure JH (X : Cx) (tg : Expr) (f : RV → M Unit) : Prop where
  ex : ∃ g : TG, PG X tg g ∧ ∀ ka G H s E v q (Q : L2.St → Hp → Prop), Rel X.K X.mg ka G H s E → DV X.K X.mg ka G H s E.r v q → OkPo X ka G H (OwV s E.r v q) (f q E) Q → g v s H Q
def hFz (f : T → M Unit) (q : RV) : M Unit := fun e => match fz e q with
  | some (t, e1) => f t e1
  | none => .st
def hNm (i : Nat) (q : RV) : M Unit := fun e => match stv i e q with
  | some e1 => .ok () e1
  | none => .st
def hNmC (i : Nat) (q : RV) : M Unit := fun e => match stc i e q with
  | some e1 => .ok () e1
  | none => .st
section
variable {X : Cx} {W : WX} {pos : Pos} {tg : Expr} {f : T → M Unit} {vs : List Nat}
theorem jh_of (h : JG X W tg vs f) : JH X tg (hFz f) := by
  obtain ⟨g, p, q⟩ := h.ex
  refine ⟨g, p, fun ka G H s E v r Q R d h => ?_⟩
  unfold hFz at h
  cases hf : fz E r with
  | none => rw [hf] at h; exact h.elim
  | some p =>
    obtain ⟨t, E1⟩ := p
    rw [hf] at h
    dsimp only at h
    obtain ⟨G1, R1, d1, S1, _⟩ := R.fz d hf
    refine q ka G1 H s E1 v t Q R1 d1 ?_
    cases hm : f t E1 with
    | st => rw [hm] at h; exact h.elim
    | ex c fs e1 => rw [hm] at h; exact h.elim
    | ok _ E2 =>
      rw [hm] at h
      exact fun s2 G2 ka2 H2 R2 S2 _ _ => h s2 G2 ka2 H2 R2 (S1.trans S2)
theorem jh_nm {i : Nat} {x : Str} (hN : X.N.Nodup) (hi : X.N[i]? = some x) (hx : Loc X.env.scope x) (hf : X.fn x = true ∨ X.env.scope.names.lookup x = some .local := by first | exact .inl rfl | exact .inr rfl | assumption) : JH X (.Name x pos) (hNm i) :=
  ⟨gName i, pg_name hN hi hx hf, fun ka G H s E v q Q R d h => by
    unfold hNm at h
    cases hs : stv i E q with
    | none => rw [hs] at h; exact h.elim
    | some E1 =>
      rw [hs] at h
      obtain ⟨R2, o2⟩ := R.stv d hs
      exact h _ G ka H R2 (Stp.refl.less o2)⟩
theorem jh_nmC {i : Nat} {x : Str} (hN : X.N.Nodup) (hi : X.N[i]? = some x) (hx : Loc X.env.scope x) (hf : X.fn x = true ∨ X.env.scope.names.lookup x = some .local := by first | exact .inl rfl | exact .inr rfl | assumption) : JH X (.Name x pos) (hNmC i) :=
  ⟨gName i, pg_name hN hi hx hf, fun ka G H s E v q Q R d h => by
    unfold hNmC at h
    cases hs : stc i E q with
    | none => rw [hs] at h; exact h.elim
    | some E1 =>
      rw [hs] at h
      obtain ⟨k2, R2, S2⟩ := R.stc d hs
      exact h _ G k2 H R2 S2⟩
end
/-- target = value -/
def mAsg (m : M RV) (f : RV → M Unit) : M Fl := m.bd fun q e => match f q e with
  | .ok _ e1 => .ok .nx e1
  | _ => .st
section
variable {X : Cx} {W : WX} {pos : Pos} {tg e : Expr} {m : M RV} {f : RV → M Unit}
theorem js_asg (he : JE X W e m) (hg : JH X tg f) (hs : swapsWithSole [tg] e pos.line X.env = pure false := by rfl) (hw : swappedStores [tg] e X.env = pure none := by rfl)
    (h1 : (assignEach [tg] X.env).map (·.2) = [assign tg X.env] := by rfl) : JS X W (.Assign [tg] e pos) (mAsg m f) := by
  obtain ⟨t1, p1, q1⟩ := he.ex
  obtain ⟨t2, p2, q2⟩ := hg.ex
  refine ⟨_, ps_asg p1 p2 hs hw h1, fun ka G H s E D R h => q1 ka G H s E _ R ?_⟩
  unfold mAsg M.bd at h
  cases hm : m E with
  | st => rw [hm] at h; exact h.elim
  | ex c fs e1 => rw [hm] at h; exact h
  | ok r E1 =>
    rw [hm] at h
    dsimp only at h
    intro v G1 ka1 H1 R1 S1 D1
    refine q2 ka1 G1 H1 s E1 v r _ R1 D1 ?_
    cases hf : f r E1 with
    | st => rw [hf] at h; exact h.elim
    | ex c fs e1 => rw [hf] at h; exact h.elim
    | ok _ E2 =>
      rw [hf] at h
      exact NPo.later S1 h
end
end PL
-- PL13
/-! The pure layer 13: a tuple of targets takes a tuple display; loops. -/
namespace PL
open PySem PySem.Spec PyProof.Rows L2 PySem.SeqAt PySem.W

/-! ### values out of their slots -/
def nbr : RV → Prop
  | .br _ => False
  | _ => True
def tk (e : Ev) : RV → Option (RV × Ev)
  | .br j => match e.r[j]? with
    | some (.va t) => some (.va t, e)
    | some (.ow t) => some (.ow t, ⟨e.r.set j .un, e.c⟩)
    | _ => none
  | q => some (q, e)
def tks (e : Ev) : List RV → Option (List RV × Ev)
  | [] => some ([], e)
  | q :: qs => match tk e q with
    | none => none
    | some (p, e1) => match tks e1 qs with
      | none => none
      | some (ps, e2) => some (p :: ps, e2)
def nbrs : List RV → Prop
  | [] => True
  | q :: qs => nbr q ∧ nbrs qs
section
variable {K : PySem.W.Frag} {mg : Str → Option Value} {ka ka' : List Addr} {G H G' H' : Hp} {s s' : L2.St} {E E' : Ev} {v : V} {q p : RV}
theorem DV.fewer {e2 : Ev} (d : DV K mg ka G H s E.r v q) (ho : ∀ b, Own s e2.r b → Own s E.r b) : DV K mg ka G H s e2.r v q := by
  cases q with
  | va t => exact d
  | br i => exact d
  | ow t =>
    obtain ⟨a, rfl, d, h1, h2, h3⟩ := d
    exact ⟨a, rfl, d, h1, h2, fun x => h3 (ho a x)⟩
theorem DVs.fewer {e2 : Ev} (ho : ∀ b, Own s e2.r b → Own s E.r b) : ∀ {vs : List V} {qs : List RV}, DVs K mg ka G H s E.r vs qs → DVs K mg ka G H s e2.r vs qs
  | _, _, .nil => .nil
  | _, _, .cons d ds n => .cons (d.fewer ho) (DVs.fewer ho ds) n
theorem Rel.tk (R : Rel K mg ka G H s E) (d : DV K mg ka G H s E.r v q) (h : tk E q = some (p, E')) : Rel K mg ka G H s E' ∧ DV K mg ka G H s E'.r v p ∧ nbr p ∧ (∀ a, Own s E'.r a → Own s E.r a) ∧ ∀ a, OwT v p a → OwV s E.r v q a := by
  cases q with
  | va t =>
    cases h
    exact ⟨R, d, trivial, fun _ x => x, fun a x => .inr x⟩
  | ow t =>
    cases h
    exact ⟨R, d, trivial, fun _ x => x, fun a x => .inr x⟩
  | br j =>
    have hs : s[j]? = some (some v) := d
    unfold PL.tk at h
    dsimp only at h
    cases q : E.r[j]? with
    | none => rw [q] at h; cases h
    | some l =>
      rw [q] at h
      cases l with
      | un => cases h
      | xc c fs => cases h
      | va t =>
        cases h
        obtain ⟨v', ev, dv⟩ := R.va j t q
        rw [hs] at ev; cases ev
        exact ⟨R, dv, trivial, fun _ x => x, fun a ⟨_, z, _⟩ => by cases z⟩
      | ow t =>
        cases h
        obtain ⟨a, ea, db, hg, hk⟩ := R.ow j t q
        rw [hs] at ea; cases ea
        have R1 : Rel K mg ka G H s ⟨E.r.set j .un, E.c⟩ := R.lose (fun _ z => by cases z) fun _ z => by cases z
        have no1 : ¬ Own s (E.r.set j .un) a := fun hb => (own_set (fun _ z => by cases z) hb).2 a hs (fun k t u h1 h2 h3 => R.inj j k t u a h1 h2 hs h3) ⟨t, q⟩ rfl
        exact ⟨R1, ⟨a, rfl, db, hg, hk, no1⟩, trivial, fun b x => (own_set (fun _ z => by cases z) x).1, fun b ⟨_, _, z⟩ => by cases z; exact .inl ⟨j, t, q, hs⟩⟩
theorem Rel.tks : ∀ {vs : List V} {qs ps : List RV} {E E' : Ev}, Rel K mg ka G H s E → DVs K mg ka G H s E.r vs qs → tks E qs = some (ps, E') →
    Rel K mg ka G H s E' ∧ DVs K mg ka G H s E'.r vs ps ∧ nbrs ps ∧ (∀ a, Own s E'.r a → Own s E.r a) ∧ ∀ a, OwTs vs ps a → Own s E.r a ∨ OwTs vs qs a
  | _, _, ps, E, E', R, .nil, h => by
    cases h
    exact ⟨R, .nil, trivial, fun _ x => x, fun _ x => x.elim⟩
  | _, _, ps, E, E', R, .cons (v := v) (q := q) (vs := vs) (qs := qs) d ds n, h => by
    unfold PL.tks at h
    cases h1 : PL.tk E q with
    | none => rw [h1] at h; cases h
    | some z =>
      obtain ⟨p, E1⟩ := z
      rw [h1] at h
      dsimp only at h
      cases h2 : PL.tks E1 qs with
      | none => rw [h2] at h; cases h
      | some z =>
        obtain ⟨ps', E2⟩ := z
        rw [h2] at h
        cases h
        obtain ⟨R1, d1, b1, o1, w1⟩ := R.tk d h1
        obtain ⟨R2, d2, b2, o2, w2⟩ := Rel.tks R1 (ds.fewer o1) h2
        refine ⟨R2, .cons (d1.fewer o2) d2 fun a x y => ?_, ⟨b1, b2⟩, fun a x => o1 a (o2 a x), fun a x => ?_⟩
        · -- what the head owns, the rest doesn't
          obtain ⟨t, rfl, rfl⟩ := x
          obtain ⟨b, eb, _, _, _, no⟩ := d1
          cases eb
          rcases w2 a y with y | y
          · exact no y
          · rcases w1 a ⟨t, rfl, rfl⟩ with z | z
            · -- owned by a slot, and by a value of the rest
              have : ∀ {ws : List V} {rs : List RV}, DVs K mg ka G H s E.r ws rs → OwTs ws rs a → False := by
                intro ws rs h
                induction h with
                | nil => exact fun x => x
                | cons d _ _ ih =>
                  intro x
                  rcases x with ⟨t, rfl, z⟩ | x
                  · obtain ⟨c, ec, _, _, _, nc⟩ := d
                    rw [z] at ec; cases ec
                    exact nc (by assumption)
                  · exact ih x
              exact this ds y
            · exact n a z y
        · rcases x with x | x
          · rcases w1 a x with z | z
            · exact .inl z
            · exact .inr (.inl z)
          · rcases w2 a x with z | z
            · exact .inl (o1 a z)
            · exact .inr (.inr z)
/-- values that aren't slots stay values through what takes another value -/
theorem DVs.pass {v0 : V} {q0 : RV} (S : Stp ka G H (OwV s E.r v0 q0) ka' G' H' (Own s' E'.r)) : ∀ {vs : List V} {qs : List RV}, DVs K mg ka G H s E.r vs qs → nbrs qs → (∀ a, OwT v0 q0 a → ¬ OwTs vs qs a) → DVs K mg ka' G' H' s' E'.r vs qs
  | _, _, .nil, _, _ => .nil
  | _, _, .cons (v := v) (q := q) d ds n, b, nt => by
    refine .cons ?_ (DVs.pass S ds b.2 fun a x z => nt a x (.inr z)) n
    cases q with
    | br i => exact b.1.elim
    | va t => exact Den.mono S.g S.k d
    | ow t =>
      obtain ⟨a, rfl, d, hg, hk, ho⟩ := d
      obtain ⟨o, eo⟩ := d.there
      have nO : ¬ OwV s E.r v0 q0 a := fun x => by
        rcases x with x | x
        · exact ho x
        · exact nt a x (.inl ⟨t, rfl, rfl⟩)
      refine ⟨a, rfl, (d.at fun o h => S.keep a o h hk nO).mono S.g S.k, ?_, fun h => ?_, fun h => ?_⟩
      · cases q : G' a with
        | none => rfl
        | some u =>
          rcases S.gn a u q with ⟨o', h⟩ | h | h
          · rw [hg] at h; cases h
          · rw [h] at eo; cases eo
          · exact absurd h nO
      · rcases S.kn a h with h | h | h
        · exact hk h
        · exact nO h
        · rw [h] at eo; cases eo
      · rcases S.on a h with h | h
        · exact nO h
        · rw [h] at eo; cases eo
end

/-! ### several targets, several values -/
structure JHs (X : Cx) (tgs : List Expr) (f : List RV → M Unit) : Prop where
  ex : ∃ g : TGs, PGs X tgs g ∧ ∀ ka G H s E vs qs (Q : L2.St → Hp → Prop), Rel X.K X.mg ka G H s E → DVs X.K X.mg ka G H s E.r vs qs → nbrs qs → OkPo X ka G H (fun a => Own s E.r a ∨ OwTs vs qs a) (f qs E) Q → g vs s H Q
/-- names alone -/
def gNms : List Nat → TGs
  | [] => gNil
  | i :: is => gCons (gName i) (gNms is)
structure JNs (X : Cx) (is : List Nat) (f : List RV → M Unit) : Prop where
  ex : ∀ ka G H s E vs qs (Q : L2.St → Hp → Prop), Rel X.K X.mg ka G H s E → DVs X.K X.mg ka G H s E.r vs qs → nbrs qs → OkPo X ka G H (fun a => Own s E.r a ∨ OwTs vs qs a) (f qs E) Q → gNms is vs s H Q
def hsN : List RV → M Unit
  | [] => fun e => .ok () e
  | _ => fun _ => .st
def hsC (f : RV → M Unit) (g : List RV → M Unit) : List RV → M Unit
  | q :: qs => (f q).bd fun _ => g qs
  | [] => fun _ => .st
section
variable {X : Cx} {W : WX} {pos : Pos}
theorem hs_go {g1 : TG} {g2 : TGs} {f : RV → M Unit} {g : List RV → M Unit} (q1 : ∀ ka G H s E v q (Q : L2.St → Hp → Prop), Rel X.K X.mg ka G H s E → DV X.K X.mg ka G H s E.r v q → OkPo X ka G H (OwV s E.r v q) (f q E) Q → g1 v s H Q)
    (q2 : ∀ ka G H s E vs qs (Q : L2.St → Hp → Prop), Rel X.K X.mg ka G H s E → DVs X.K X.mg ka G H s E.r vs qs → nbrs qs → OkPo X ka G H (fun a => Own s E.r a ∨ OwTs vs qs a) (g qs E) Q → g2 vs s H Q) :
    ∀ ka G H s E vs qs (Q : L2.St → Hp → Prop), Rel X.K X.mg ka G H s E → DVs X.K X.mg ka G H s E.r vs qs → nbrs qs → OkPo X ka G H (fun a => Own s E.r a ∨ OwTs vs qs a) (hsC f g qs E) Q → gCons g1 g2 vs s H Q := by
  intro ka G H s E vs qs Q R d b h
  cases d with
  | nil => exact h.elim
  | @cons v q vs qs d ds n =>
    refine ⟨_, _, rfl, q1 ka G H s E v q _ R d ?_⟩
    unfold hsC M.bd at h
    dsimp only at h
    cases hm : f q E with
    | st => rw [hm] at h; exact h.elim
    | ex c fs e1 => rw [hm] at h; exact h.elim
    | ok u E1 =>
      rw [hm] at h
      dsimp only at h
      intro s1 G1 ka1 H1 R1 S1
      refine q2 ka1 G1 H1 s1 E1 vs qs _ R1 (DVs.pass S1 ds b.2 n) b.2 ?_
      cases hm2 : g qs E1 with
      | st => rw [hm2] at h; exact h.elim
      | ex c fs e1 => rw [hm2] at h; exact h.elim
      | ok u E2 =>
        rw [hm2] at h
        intro s2 G2 ka2 H2 R2 S2
        have S1' : Stp ka G H (fun a => Own s E.r a ∨ OwTs (v :: vs) (q :: qs) a) ka1 G1 H1 (fun a => Own s1 E1.r a ∨ OwTs vs qs a) := by
          have z := S1.frame (OwTs vs qs)
          have sh : ∀ a, (OwV s E.r v q a ∨ OwTs vs qs a) → (Own s E.r a ∨ OwTs (v :: vs) (q :: qs) a) := fun a x => by
            rcases x with (x | x) | x
            · exact .inl x
            · exact .inr (.inl x)
            · exact .inr (.inr x)
          exact ⟨z.g, z.k, fun a o e nk no => z.keep a o e nk fun x => no (sh a x), fun a o e => (z.gn a o e).imp_right (·.imp_right (sh a)), fun a x => (z.on a x).imp_left (sh a), fun a x => (z.kn a x).imp_right (·.imp_left (sh a)), z.dom⟩
        exact h s2 G2 ka2 H2 R2 (S1'.trans S2)
theorem jhs_nil : JHs X [] hsN := ⟨gNil, pgs_nil, fun ka G H s E vs qs Q R d b h => by
  cases d with
  | nil => exact ⟨rfl, h s G ka H R (Stp.refl.less fun a x => .inl x)⟩
  | cons d ds n => exact h.elim⟩
theorem jhs_cons {tg : Expr} {tgs : List Expr} {f : RV → M Unit} {g : List RV → M Unit} (h1 : JH X tg f) (h2 : JHs X tgs g) (hs : (assignEach (tg :: tgs) X.env).map (·.2) = assign tg X.env :: (assignEach tgs X.env).map (·.2) := by rfl) : JHs X (tg :: tgs) (hsC f g) := by
  obtain ⟨t1, p1, q1⟩ := h1.ex
  obtain ⟨t2, p2, q2⟩ := h2.ex
  exact ⟨_, pgs_cons p1 p2 hs, hs_go q1 q2⟩
theorem jns_nil : JNs X [] hsN := ⟨fun ka G H s E vs qs Q R d b h => by
  cases d with
  | nil => exact ⟨rfl, h s G ka H R (Stp.refl.less fun a x => .inl x)⟩
  | cons d ds n => exact h.elim⟩
theorem jns_nm {i : Nat} {is : List Nat} {g : List RV → M Unit} (h2 : JNs X is g) : JNs X (i :: is) (hsC (hNm i) g) := ⟨hs_go (g1 := gName i) (fun ka G H s E v q Q R d h => by
    unfold hNm at h
    cases hs : stv i E q with
    | none => rw [hs] at h; exact h.elim
    | some E1 =>
      rw [hs] at h
      obtain ⟨R2, o2⟩ := R.stv d hs
      exact h _ G ka H R2 (Stp.refl.less o2)) h2.ex⟩
theorem jns_nmC {i : Nat} {is : List Nat} {g : List RV → M Unit} (h2 : JNs X is g) : JNs X (i :: is) (hsC (hNmC i) g) := ⟨hs_go (g1 := gName i) (fun ka G H s E v q Q R d h => by
    unfold hNmC at h
    cases hs : stc i E q with
    | none => rw [hs] at h; exact h.elim
    | some E1 =>
      rw [hs] at h
      obtain ⟨k2, R2, S2⟩ := R.stc d hs
      exact h _ G k2 H R2 S2) h2.ex⟩
/-- the values of a tuple display go to their targets: the tuple itself is not tracked -/
def mTpd (n : Nat) (ms : M (List RV)) (f : List RV → M Unit) : M Fl := ms.bd fun qs e => if qs.length = n then (match tks e qs with
  | some (ps, e1) => match f ps e1 with
    | .ok _ e2 => .ok .nx e2
    | _ => .st
  | none => .st) else .st
theorem DVs.length {K : PySem.W.Frag} {mg : Str → Option Value} {ka : List Addr} {G H : Hp} {s : L2.St} {r : List Sl} : ∀ {vs : List V} {qs : List RV}, DVs K mg ka G H s r vs qs → vs.length = qs.length
  | _, _, .nil => rfl
  | _, _, .cons _ ds _ => by simp [DVs.length ds]
theorem tpd_go {n : Nat} {ms : M (List RV)} {f : List RV → M Unit} {ta : TA} {g : TGs} (qa : ∀ ka G H s E Q, Rel X.K X.mg ka G H s E → APo X W ka G H s (Own s E.r) (ms E) Q → ta s H Q)
    (qg : ∀ ka G H s E vs qs (Q : L2.St → Hp → Prop), Rel X.K X.mg ka G H s E → DVs X.K X.mg ka G H s E.r vs qs → nbrs qs → OkPo X ka G H (fun a => Own s E.r a ∨ OwTs vs qs a) (f qs E) Q → g vs s H Q)
    {ka : List Addr} {G H : Hp} {s : L2.St} {E : Ev} {D : Ends} (R : Rel X.K X.mg ka G H s E) (h : SPo X W ka G H (Own s E.r) (mTpd n ms f E) D) : ta s H fun vs H1 => vs.length = n ∧ g vs s H1 D.nx := by
  refine qa ka G H s E _ R ?_
  unfold mTpd M.bd at h
  cases hm : ms E with
  | st => rw [hm] at h; exact h.elim
  | ex c fs e1 => rw [hm] at h; exact h
  | ok qs E1 =>
    rw [hm] at h
    dsimp only at h
    intro vs G1 ka1 H1 R1 S1 D1
    by_cases hl : qs.length = n
    · rw [if_pos hl] at h
      refine ⟨D1.length.trans hl, ?_⟩
      cases ht : tks E1 qs with
      | none => rw [ht] at h; exact h.elim
      | some z =>
        obtain ⟨ps, E2⟩ := z
        rw [ht] at h
        dsimp only at h
        obtain ⟨R2, d2, b2, o2, w2⟩ := Rel.tks R1 D1 ht
        refine qg ka1 G1 H1 s E2 vs ps _ R2 d2 b2 ?_
        cases hf : f ps E2 with
        | st => rw [hf] at h; exact h.elim
        | ex c fs e1 => rw [hf] at h; exact h.elim
        | ok u E3 =>
          rw [hf] at h
          intro s3 G3 ka3 H3 R3 S3
          refine h s3 G3 ka3 H3 R3 (Stp.trans (S1.less (O'' := fun a => Own s E2.r a ∨ OwTs vs ps a) fun a x => ?_) S3)
          rcases x with x | x
          · exact .inl (o2 a x)
          · exact w2 a x
    · rw [if_neg hl] at h; exact h.elim
theorem ps_tpd {tgs es : List Expr} {k k2 : Nat} {tpos vpos : Pos} {ta : TA} {g : TGs} {n : Nat} (hc : X.calm = true) (hn8 : n ≤ 1000) (ha : PA X es ta) (h : PGs X tgs g) (hw : swappedStores [.Tuple tgs k tpos] (.Tuple es k2 vpos) X.env = pure none)
    (hs : swapsWithSole [.Tuple tgs k tpos] (.Tuple es k2 vpos) pos.line X.env = pure false) (hn : (assignEach tgs X.env).length = n) (hst : (assignEach tgs X.env).findIdx? (·.1) = none) :
    PS X (.Assign [.Tuple tgs k tpos] (.Tuple es k2 vpos) pos) (fun D σ H => ta σ H fun vs H1 => vs.length = n ∧ g vs σ H1 D.nx) := by
  refine ⟨fun pins s σ H D I hq => ?_⟩
  rw [exec_Assign_arm]
  refine wpAny_bind (wpAny_standAt ?_)
  rw [hs]
  refine wpAny_bind (wpAny_pure ?_)
  rw [if_neg (by decide)]
  refine wpAny_bind (Tuple_ (thn (ha.run _ pins s σ H _ I hq) fun us s1 ⟨vs, H1, I1, r1, hl, q1⟩ => ?_))
  have hul : us.length = n := by rw [← r1.length]; exact hl
  refine wpAny_newObj_type ?_ (by show us.toArray.size ≤ sizeLine; rw [List.size_toArray, hul, sizeLine_eq]; omega)
  have I2 : Inv X pins σ H1 { s1 with heap := s1.heap.push { cls := .type "tuple", data := .seq us.toArray } } := I1.kept (t' := s1.toks) fun b o e => Heap.get?_push_of_some _ e
  rw [hw]
  refine wpAny_bind (wpAny_pure ?_)
  show wpAny (model X.prog X.w) X.A (do assignAll (.ref s1.heap.objs.size) [assign (.Tuple tgs k tpos) X.env]; pure Flow.next) _ _ _
  refine wpAny_bind ?_
  have go : wpAny (model X.prog X.w) X.A (assign (.Tuple tgs k tpos) X.env (.ref s1.heap.objs.size)) (fun _ s' => wpAny (model X.prog X.w) X.A (pure Flow.next) (SP X pins D) X.xe s') X.xe { s1 with heap := s1.heap.push { cls := .type "tuple", data := .seq us.toArray } } := by
    refine assign_Tuple_tuple (I1.ok.hd hc) (IsTup.new s1.heap us.toArray) (by simp [hn, hul]) hst fun h' hx => ?_
    have I3 : Inv X pins σ H1 { s1 with heap := h' } := I2.kept (h' := h') (t' := s1.toks) fun b o e => hx b o (Nat.ne_of_lt (Heap.lt_size e)) e
    exact thn (h.run pins _ σ H1 vs _ _ I3 (by simpa using r1) q1) fun _ s4 ⟨σ4, H4, I4, q4⟩ => wpAny_pure ⟨σ4, H4, I4, q4⟩
  exact go
theorem js_tpd {tgs es : List Expr} {k k2 : Nat} {tpos vpos : Pos} {ms : M (List RV)} {f : List RV → M Unit} {n : Nat} (hc : X.calm = true) (hn8 : n ≤ 1000) (ha : JA X W es ms) (h : JHs X tgs f) (hw : swappedStores [.Tuple tgs k tpos] (.Tuple es k2 vpos) X.env = pure none := by rfl)
    (hs : swapsWithSole [.Tuple tgs k tpos] (.Tuple es k2 vpos) pos.line X.env = pure false := by rfl) (hn : (assignEach tgs X.env).length = n := by rfl) (hst : (assignEach tgs X.env).findIdx? (·.1) = none := by rfl) :
    JS X W (.Assign [.Tuple tgs k tpos] (.Tuple es k2 vpos) pos) (mTpd n ms f) := by
  obtain ⟨t1, p1, q1⟩ := ha.ex
  obtain ⟨t2, p2, q2⟩ := h.ex
  exact ⟨_, ps_tpd hc hn8 p1 p2 hw hs hn hst, fun ka G H s E D R h => tpd_go q1 q2 R h⟩
theorem js_par2 {i j : Nat} {x y : Str} {a b : Expr} {px py pt : Pos} {kt k2 pt2} {ms : M (List RV)} {f : List RV → M Unit} (hc : X.calm = true) (hN : X.N.Nodup) (hi : X.N[i]? = some x) (hj : X.N[j]? = some y) (hij : i ≠ j)
    (hx : X.env.scope.names.lookup x = some .local) (hy : X.env.scope.names.lookup y = some .local) (ha : JA X W [a, b] ms) (hf : JNs X [i, j] f)
    (hw : swappedStores [.Tuple [.Name x px, .Name y py] kt pt] (.Tuple [a, b] k2 pt2) X.env = pure (some [x, y]) := by rfl)
    (hs : swapsWithSole [.Tuple [.Name x px, .Name y py] kt pt] (.Tuple [a, b] k2 pt2) pos.line X.env = pure false := by rfl) :
    JS X W (.Assign [.Tuple [.Name x px, .Name y py] kt pt] (.Tuple [a, b] k2 pt2) pos) (mTpd 2 ms f) := by
  obtain ⟨t1, p1, q1⟩ := ha.ex
  refine ⟨_, ps_par hc hN hi hj hij hx hy p1 hw hs, fun ka G H s E D R h => ?_⟩
  -- the reading in order gives the reading of the pair
  show t1 s H _
  refine q1 ka G H s E _ R ?_
  unfold mTpd M.bd at h
  cases hm : ms E with
  | st => rw [hm] at h; exact h.elim
  | ex c fs e1 => rw [hm] at h; exact h
  | ok qs E1 =>
    rw [hm] at h
    dsimp only at h
    intro vs G1 ka1 H1 R1 S1 D1
    by_cases hl : qs.length = 2
    · rw [if_pos hl] at h
      cases ht : tks E1 qs with
      | none => rw [ht] at h; exact h.elim
      | some z =>
        obtain ⟨ps, E2⟩ := z
        rw [ht] at h
        dsimp only at h
        obtain ⟨R2, d2, b2, o2, w2⟩ := Rel.tks R1 D1 ht
        have g := hf.ex ka1 G1 H1 s E2 vs ps D.nx R2 d2 b2 (by
          cases hf : f ps E2 with
          | st => rw [hf] at h; exact h.elim
          | ex c fs e1 => rw [hf] at h; exact h.elim
          | ok u E3 =>
            rw [hf] at h
            intro s3 G3 ka3 H3 R3 S3
            refine h s3 G3 ka3 H3 R3 (Stp.trans (S1.less (O'' := fun a => Own s E2.r a ∨ OwTs vs ps a) fun a x => ?_) S3)
            rcases x with x | x
            · exact .inl (o2 a x)
            · exact w2 a x)
        obtain ⟨v, r, rfl, v', r', rfl, rfl, q⟩ := g
        exact ⟨v, v', rfl, q⟩
    · rw [if_neg hl] at h; exact h.elim
theorem js_par3 {i j l : Nat} {x y z : Str} {a b c : Expr} {px py pz pt : Pos} {kt k2 pt2} {ms : M (List RV)} {f : List RV → M Unit} (hc : X.calm = true) (hN : X.N.Nodup) (hi : X.N[i]? = some x) (hj : X.N[j]? = some y) (hl : X.N[l]? = some z) (hij : i ≠ j) (hil : i ≠ l) (hjl : j ≠ l)
    (hx : X.env.scope.names.lookup x = some .local) (hy : X.env.scope.names.lookup y = some .local) (hz : X.env.scope.names.lookup z = some .local) (ha : JA X W [a, b, c] ms) (hf : JNs X [i, j, l] f)
    (hw : swappedStores [.Tuple [.Name x px, .Name y py, .Name z pz] kt pt] (.Tuple [a, b, c] k2 pt2) X.env = pure (some [x, y, z]) := by rfl)
    (hs : swapsWithSole [.Tuple [.Name x px, .Name y py, .Name z pz] kt pt] (.Tuple [a, b, c] k2 pt2) pos.line X.env = pure false := by rfl) :
    JS X W (.Assign [.Tuple [.Name x px, .Name y py, .Name z pz] kt pt] (.Tuple [a, b, c] k2 pt2) pos) (mTpd 3 ms f) := by
  obtain ⟨t1, p1, q1⟩ := ha.ex
  refine ⟨_, ps_par3 hc hN hi hj hl hij hil hjl hx hy hz p1 hw hs, fun ka G H s E D R h => ?_⟩
  show t1 s H _
  refine q1 ka G H s E _ R ?_
  unfold mTpd M.bd at h
  cases hm : ms E with
  | st => rw [hm] at h; exact h.elim
  | ex c fs e1 => rw [hm] at h; exact h
  | ok qs E1 =>
    rw [hm] at h
    dsimp only at h
    intro vs G1 ka1 H1 R1 S1 D1
    by_cases hl : qs.length = 3
    · rw [if_pos hl] at h
      cases ht : tks E1 qs with
      | none => rw [ht] at h; exact h.elim
      | some z =>
        obtain ⟨ps, E2⟩ := z
        rw [ht] at h
        dsimp only at h
        obtain ⟨R2, d2, b2, o2, w2⟩ := Rel.tks R1 D1 ht
        have g := hf.ex ka1 G1 H1 s E2 vs ps D.nx R2 d2 b2 (by
          cases hf : f ps E2 with
          | st => rw [hf] at h; exact h.elim
          | ex c fs e1 => rw [hf] at h; exact h.elim
          | ok u E3 =>
            rw [hf] at h
            intro s3 G3 ka3 H3 R3 S3
            refine h s3 G3 ka3 H3 R3 (Stp.trans (S1.less (O'' := fun a => Own s E2.r a ∨ OwTs vs ps a) fun a x => ?_) S3)
            rcases x with x | x
            · exact .inl (o2 a x)
            · exact w2 a x)
        obtain ⟨v, r, rfl, v', r', rfl, v'', r'', rfl, rfl, q⟩ := g
        exact ⟨v, v', v'', rfl, q⟩
    · rw [if_neg hl] at h; exact h.elim
end
end PL
-- PL14
/-! The pure layer 14: loops, methods of lists. -/
namespace PL
open PySem PySem.Spec PyProof.Rows L2 PySem.SeqAt PySem.W

/-! ### for -/
noncomputable def forGo (w : Option (Nat × T)) (f : T → M Unit) (m : M Fl) : List T → M Fl
  | [] => fun e => if wOk w e then .ok .nx e else .st
  | t :: ts => fun e => if wOk w e then (match f t e with
    | .ok _ e1 => match m e1 with
      | .ok .nx e2 => forGo w f m ts e2
      | .ok .ct e2 => forGo w f m ts e2
      | .ok .br e2 => .ok .nx e2
      | .ok (.rt q) e2 => .ok (.rt q) e2
      | .ex c fs e2 => .ex c fs e2
      | .st => .st
    | _ => .st) else .st
noncomputable def mFor (mi : M Wk) (f : T → M Unit) (m : M Fl) : M Fl := mi.bd fun wk => forGo wk.w f m wk.ts
section
variable {X : Cx} {W : WX} {pos : Pos} {tg iter c : Expr} {body : List Stmt} {mi : M Wk} {f : T → M Unit} {m : M Fl} {vs : List Nat} {mc : M Bool}
theorem js_for (hp : PassesOwn (model X.prog X.w) X.A X.env X.xe) (hc : X.calm = true) (hi : JI X W tg iter mi) (hg : JG X W tg vs f) (hb : JSs X W body m)
    (hs : ∀ x, foldedSetIterable iter X.env x = pure x := by intro _; rfl) : JS X W (.For tg iter body [] pos) (mFor mi f m) := by
  obtain ⟨wi, pi, qi⟩ := hi.ex
  obtain ⟨g, pg, qg⟩ := hg.ex
  obtain ⟨t, pb, qb⟩ := hb.ex
  refine ⟨_, ps_for hp hc pi pg pb hs, fun ka G H s E D R h => qi ka G H s E _ R ?_⟩
  unfold mFor M.bd at h
  cases hm : mi E with
  | st => rw [hm] at h; exact h.elim
  | ex c fs e1 => rw [hm] at h; exact h
  | ok wk E1 =>
    obtain ⟨w, ts⟩ := wk
    rw [hm] at h
    dsimp only at h ⊢
    intro J G1 ka1 H1 R1 S1 it
    refine ⟨fun i m' σ H2 => m' = ts.length - i ∧ i ≤ ts.length ∧ ∃ (ka2 : List Addr) (G2 : Hp) (E2 : Ev), Rel X.K X.mg ka2 G2 H2 σ E2 ∧ Stp ka1 G1 H1 (Own s E1.r) ka2 G2 H2 (Own σ E2.r) ∧ SPo X W ka2 G2 H2 (Own σ E2.r) (forGo w f m (ts.drop i) E2) D,
      ⟨ts.length, rfl, Nat.zero_le _, ka1, G1, E1, R1, Stp.refl, by rw [List.drop_zero]; exact SPo.later S1 h⟩, ?_⟩
    rintro i m' σ H2 ⟨rfl, hi, ka2, G2, E2, R2, S2, hgo⟩
    have hw : wOk w E2 = true := by
      cases hq : ts.drop i with
      | nil =>
        rw [hq, forGo] at hgo
        dsimp only at hgo
        by_cases z : wOk w E2 = true
        · exact z
        · rw [if_neg z] at hgo; exact hgo.elim
      | cons _ _ =>
        rw [hq, forGo] at hgo
        dsimp only at hgo
        by_cases z : wOk w E2 = true
        · exact z
        · rw [if_neg z] at hgo; exact hgo.elim
    obtain ⟨go, stop⟩ := it ka2 G2 H2 S2.g S2.k R2.sub (wOk_of R2 hw) i
    by_cases hlt : i < ts.length
    · have hd : ts.drop i = ts[i] :: ts.drop (i + 1) := List.drop_eq_getElem_cons hlt
      rw [hd] at hgo
      obtain ⟨g1, y1⟩ := go ts[i] (List.getElem?_eq_getElem hlt)
      refine .inr ⟨g1, fun σ' H' => ∃ (ka2 : List Addr) (G2 : Hp) (E2 : Ev), Rel X.K X.mg ka2 G2 H' σ' E2 ∧ Stp ka1 G1 H1 (Own s E1.r) ka2 G2 H' (Own σ' E2.r) ∧ SPo X W ka2 G2 H' (Own σ' E2.r) (forGo w f m (ts.drop (i + 1)) E2) D,
        fun σ' H' q => ⟨ts.length - (i + 1), by omega, rfl, hlt, q⟩, fun x H' yl => ?_⟩
      obtain ⟨G3, R3, S3, d3⟩ : ∃ G3, Rel X.K X.mg ka2 G3 H' σ E2 ∧ Stp ka2 G2 H2 (Own σ E2.r) ka2 G3 H' (Own σ E2.r) ∧ Den X.K X.mg ka2 G3 x ts[i] := by
        rcases y1 x H' yl with ⟨rfl, d⟩ | ⟨p, pv, pu, rfl, hp, rfl, et, d⟩
        · exact ⟨G2, R2, Stp.refl, d⟩
        · refine ⟨upd G2 p (.tup pv), R2.newG hp, Stp.newG R2.sub hp, ?_⟩
          rw [et]
          exact .tup (SqT.of upd_same) (d.mono (GLe.newG (R2.gfresh hp)) KLe.refl)
      rw [forGo] at hgo
      dsimp only at hgo
      rw [if_pos hw] at hgo
      refine qg ka2 G3 H' σ E2 x ts[i] _ R3 d3 ?_
      cases hf : f ts[i] E2 with
      | st => rw [hf] at hgo; exact hgo.elim
      | ex c fs e1 => rw [hf] at hgo; exact hgo.elim
      | ok u E4 =>
        rw [hf] at hgo
        dsimp only at hgo ⊢
        intro s4 G4 ka4 H4 R4 S4 k4 l4
        have S24 : Stp ka2 G2 H2 (Own σ E2.r) ka4 G4 H4 (Own s4 E4.r) := S3.trans S4
        refine qb ka4 G4 H4 s4 E4 _ R4 ?_
        have S14 := S2.trans S24
        rcases hm2 : m E4 with _ | ⟨fl, e5⟩ | ⟨c, fs, e5⟩
        · rw [hm2] at hgo; exact hgo.elim
        · rw [hm2] at hgo
          cases fl with
          | nx => exact fun s5 G5 ka5 H5 R5 S5 => ⟨ka5, G5, e5, R5, S14.trans S5, SPo.later (S24.trans S5) hgo⟩
          | ct => exact fun s5 G5 ka5 H5 R5 S5 => ⟨ka5, G5, e5, R5, S14.trans S5, SPo.later (S24.trans S5) hgo⟩
          | br => exact fun s5 G5 ka5 H5 R5 S5 => hgo s5 G5 ka5 H5 R5 (S24.trans S5)
          | rt q => exact fun v s5 G5 ka5 H5 R5 S5 D5 => hgo v s5 G5 ka5 H5 R5 (S24.trans S5) D5
        · rw [hm2] at hgo; exact XPo.later S24 hgo
    · have hi' : i = ts.length := by omega
      subst hi'
      rw [List.drop_length, forGo] at hgo
      dsimp only at hgo
      rw [if_pos hw] at hgo
      exact .inl ⟨stop (Nat.le_refl _), hgo σ G2 ka2 H2 R2 Stp.refl⟩
end

/-! ### while -/
def whGo (c : M Bool) (m : M Fl) : Nat → M Fl
  | 0 => fun _ => .st
  | n + 1 => fun e => match c e with
    | .st => .st
    | .ex c fs e1 => .ex c fs e1
    | .ok false e1 => .ok .nx e1
    | .ok true e1 => match m e1 with
      | .ok .nx e2 => whGo c m n e2
      | .ok .ct e2 => whGo c m n e2
      | .ok .br e2 => .ok .nx e2
      | .ok (.rt q) e2 => .ok (.rt q) e2
      | .ex c fs e2 => .ex c fs e2
      | .st => .st
theorem whGo_more {c : M Bool} {m : M Fl} : ∀ {n : Nat} {e : Ev}, whGo c m n e ≠ .st → whGo c m (n + 1) e = whGo c m n e
  | 0, e, h => absurd rfl h
  | n + 1, e, h => by
    rw [whGo] at h ⊢
    rw [whGo]
    dsimp only at h ⊢
    cases hc : c e with
    | st => rfl
    | ex c fs e1 => rfl
    | ok b e1 =>
      rw [hc] at h
      cases b with
      | false => rfl
      | true =>
        dsimp only at h ⊢
        rcases hm : m e1 with _ | ⟨fl, e2⟩ | ⟨c, fs, e2⟩
        · rfl
        · rw [hm] at h
          cases fl with
          | nx => exact whGo_more h
          | ct => exact whGo_more h
          | br => rfl
          | rt q => rfl
        · rfl
theorem whGo_le {c : M Bool} {m : M Fl} {n : Nat} {e : Ev} (h : whGo c m n e ≠ .st) : ∀ k, whGo c m (n + k) e = whGo c m n e
  | 0 => rfl
  | k + 1 => by
    rw [← Nat.add_assoc, whGo_more, whGo_le h k]
    rw [whGo_le h k]; exact h
open Classical in
noncomputable def mWh (c : M Bool) (m : M Fl) : M Fl := fun e => if h : ∃ n, whGo c m n e ≠ .st then whGo c m (Classical.choose h) e else .st
theorem mWh_of {c : M Bool} {m : M Fl} {n : Nat} {e : Ev} {r : Res Fl} (h : whGo c m n e = r) (hr : r ≠ .st) : mWh c m e = r := by
  have hx : ∃ n, whGo c m n e ≠ .st := ⟨n, h ▸ hr⟩
  unfold mWh
  rw [dif_pos hx]
  have hs := Classical.choose_spec hx
  rcases Nat.le_total n (Classical.choose hx) with z | z
  · obtain ⟨k, hk⟩ := Nat.le.dest z
    rw [← hk, whGo_le (h ▸ hr), h]
  · obtain ⟨k, hk⟩ := Nat.le.dest z
    rw [← h, ← hk, whGo_le hs]
section
variable {X : Cx} {W : WX} {pos : Pos} {c : Expr} {body : List Stmt} {m : M Fl} {mc : M Bool}
theorem js_while (hp : PassesOwn (model X.prog X.w) X.A X.env X.xe) (hc : JT X W c mc) (hb : JSs X W body m) : JS X W (.While c body [] pos) (mWh mc m) := by
  obtain ⟨tc, pc, qc⟩ := hc.ex
  obtain ⟨tb, pb, qb⟩ := hb.ex
  refine ⟨_, ps_while hp pc pb, fun ka G H s E D R h => ?_⟩
  unfold mWh at h
  by_cases hx : ∃ n, whGo mc m n E ≠ .st
  · rw [dif_pos hx] at h
    generalize Classical.choose hx = n0 at h
    refine ⟨fun n σ H2 => ∃ (ka2 : List Addr) (G2 : Hp) (E2 : Ev), Rel X.K X.mg ka2 G2 H2 σ E2 ∧ SPo X W ka2 G2 H2 (Own σ E2.r) (whGo mc m n E2) D, ⟨n0, ka, G, E, R, h⟩, ?_⟩
    rintro n σ H2 ⟨ka2, G2, E2, R2, hgo⟩
    cases n with
    | zero => exact hgo.elim
    | succ n =>
      rw [whGo] at hgo
      dsimp only at hgo
      refine qc ka2 G2 H2 σ E2 _ R2 ?_
      cases hq : mc E2 with
      | st => rw [hq] at hgo; exact hgo.elim
      | ex c fs e1 => rw [hq] at hgo; exact hgo
      | ok b E3 =>
        rw [hq] at hgo
        intro G3 ka3 H3 R3 S3
        cases b with
        | false =>
          rw [if_neg Bool.false_ne_true]
          exact hgo σ G3 ka3 H3 R3 S3
        | true =>
          rw [if_pos rfl]
          dsimp only at hgo
          refine ⟨fun σ' H' => ∃ (ka2 : List Addr) (G2 : Hp) (E2 : Ev), Rel X.K X.mg ka2 G2 H' σ' E2 ∧ SPo X W ka2 G2 H' (Own σ' E2.r) (whGo mc m n E2) D, fun σ' H' q => ⟨n, Nat.lt_succ_self _, q⟩, qb ka3 G3 H3 σ E3 _ R3 ?_⟩
          rcases hm2 : m E3 with _ | ⟨fl, e5⟩ | ⟨c, fs, e5⟩
          · rw [hm2] at hgo; exact hgo.elim
          · rw [hm2] at hgo
            cases fl with
            | nx => exact fun s5 G5 ka5 H5 R5 S5 => ⟨ka5, G5, e5, R5, SPo.later (S3.trans S5) hgo⟩
            | ct => exact fun s5 G5 ka5 H5 R5 S5 => ⟨ka5, G5, e5, R5, SPo.later (S3.trans S5) hgo⟩
            | br => exact fun s5 G5 ka5 H5 R5 S5 => hgo s5 G5 ka5 H5 R5 (S3.trans S5)
            | rt q => exact fun v s5 G5 ka5 H5 R5 S5 D5 => hgo v s5 G5 ka5 H5 R5 (S3.trans S5) D5
          · rw [hm2] at hgo; exact XPo.later S3 hgo
  · rw [dif_neg hx] at h; exact h.elim
end

/-! ### methods that write a list -/
/-- the list behind, and the answer -/
def mMt (f : T → List T → Option (T × T)) (mo : M RV) (ms : M (List RV)) : M RV := mo.bd fun q e0 => match pk e0 q with
  | some (.lst _) => (ms.bd fun ps e => match fzs e ps with
    | some (ts, e1) => match plOf e1 q with
      | some (pl, t) => match f t ts with
        | some (u, a) => .ok (.va a) (putP e1 pl u)
        | none => .st
      | none => .st
    | none => .st) e0
  | _ => .st
/-- a method's rule by its pure function -/
def MPo (X : Cx) (r : V → List V → Hp → VK → Prop) (f : T → List T → Option (T × T)) : Prop := ∀ (ka : List Addr) (G H : Hp) (a : Addr) (t : T) (vs : List V) (ts : List T) (u w : T) (Q : VK), DenB X.K X.mg ka G H a t → Dens X.K X.mg ka G vs ts → f t ts = some (u, w) →
  (∀ o v, DenB X.K X.mg ka G (upd H a o) a u → Den X.K X.mg ka G v w → Q v (upd H a o)) → r (.ref a) vs H Q
def appF : T → List T → Option (T × T)
  | .lst xs, [t] => if xs.length < sz then some (.lst (xs ++ [t]), .non) else none
  | _, _ => none
def extF : T → List T → Option (T × T)
  | .lst xs, [.lst ys] => if xs.length + ys.length ≤ sz then some (.lst (xs ++ ys), .non) else none
  | _, _ => none
def popF : T → List T → Option (T × T)
  | .lst xs, [] => match xs[xs.length - 1]? with
    | some t => some (.lst xs.dropLast, t)
    | none => none
  | _, _ => none
noncomputable def popAtF : T → List T → Option (T × T)
  | .lst xs, [.int i] => @ite _ (-(2 ^ 63) ≤ i ∧ i < 2 ^ 63) (Classical.propDecidable _) (match seqIndex? i xs.length with
    | some k => match xs[k]? with
      | some t => some (.lst (xs.eraseIdx k), t)
      | none => none
    | none => none) none
  | _, _ => none
def clrF : T → List T → Option (T × T)
  | .lst _, [] => some (.lst [], .non)
  | _, _ => none
section
variable {X : Cx} {W : WX} {pos : Pos} {e o : Expr} {es : List Expr} {mo : M RV} {ms : M (List RV)} {f : T → List T → Option (T × T)} {r : V → List V → Hp → VK → Prop} {id : String} {name : Str} {apos cpos : Pos}
theorem mpo_append : MPo X rAppend appF := by
  intro ka G H a t vs ts u w Q d ds hf h
  unfold appF at hf
  split at hf
  · rename_i xs t
    by_cases hl : xs.length < sz
    · rw [if_pos hl] at hf
      cases hf
      obtain ⟨ws, hw, dw⟩ := d
      cases ds with
      | @cons v _ _ _ dv dn =>
        cases dn
        exact ⟨a, ws, v, rfl, rfl, hw, by rw [dw.length]; exact (by rw [sizeLine_eq]; exact hl), h _ _ ⟨_, upd_same, dw.append (.cons dv .nil)⟩ .non⟩
    · rw [if_neg hl] at hf; cases hf
  · cases hf
theorem mpo_pop : MPo X rPop popF := by
  intro ka G H a t vs ts u w Q d ds hf h
  unfold popF at hf
  split at hf
  · rename_i xs
    cases hx : xs[xs.length - 1]? with
    | none => rw [hx] at hf; cases hf
    | some y =>
      rw [hx] at hf
      cases hf
      obtain ⟨ws, hw, dw⟩ := d
      cases ds
      obtain ⟨v, hv, dv⟩ := dw.get hx
      exact ⟨a, ws, v, rfl, rfl, hw, by rw [dw.length]; exact hv, h _ _ ⟨_, upd_same, dw.dropLast⟩ dv⟩
  · cases hf
theorem mpo_popAt : MPo X rPopAt popAtF := by
  intro ka G H a t vs ts u w Q d ds hf h
  unfold popAtF at hf
  split at hf
  · rename_i xs i
    by_cases hi : -(2 ^ 63) ≤ i ∧ i < 2 ^ 63
    · rw [if_pos hi] at hf
      cases hk : seqIndex? i xs.length with
      | none => rw [hk] at hf; cases hf
      | some k =>
        rw [hk] at hf
        dsimp only at hf
        cases hx : xs[k]? with
        | none => rw [hx] at hf; cases hf
        | some y =>
          rw [hx] at hf
          cases hf
          obtain ⟨ws, hw, dw⟩ := d
          cases ds with
          | cons dv dn =>
            cases dn
            cases dv
            obtain ⟨v, hv, dv⟩ := dw.get hx
            exact ⟨a, ws, i, k, v, rfl, rfl, hw, hi.1, hi.2, by rw [dw.length]; exact hk, hv, h _ _ ⟨_, upd_same, dw.erase k⟩ dv⟩
    · rw [if_neg hi] at hf; cases hf
  · cases hf
theorem mpo_clear : MPo X rClear clrF := by
  intro ka G H a t vs ts u w Q d ds hf h
  unfold clrF at hf
  split at hf
  · cases hf
    obtain ⟨ws, hw, dw⟩ := d
    cases ds
    exact ⟨a, ws, rfl, rfl, hw, h _ _ ⟨_, upd_same, .nil⟩ .non⟩
  · cases hf
theorem PDen.tyL {ka : List Addr} {G H : Hp} (hg : GLe G H) {v : V} {ts : List T} (d : PDen X.K X.mg ka G H v (.lst ts)) : tyV X.K "list" v H := by
  obtain ⟨p, vs, rfl, q, d⟩ := d.seqL hg
  exact .inl ⟨rfl, vs, SqL.of q⟩
theorem mt_go (hf : MPo X r f) {to : TE} {ta : TA} (qo : ∀ ka G H s E Q, Rel X.K X.mg ka G H s E → EPo X W ka G H s (Own s E.r) (mo E) Q → to s H Q) (qa : ∀ ka G H s E Q, Rel X.K X.mg ka G H s E → APo X W ka G H s (Own s E.r) (ms E) Q → ta s H Q)
    {ka : List Addr} {G H : Hp} {s : L2.St} {E : Ev} {Q : VK} (R : Rel X.K X.mg ka G H s E) (h : EPo X W ka G H s (Own s E.r) (mMt f mo ms E) Q) : to s H fun x H1 => tyV X.K "list" x H1 ∧ ta s H1 fun xs H2 => r x xs H2 Q := by
  refine qo ka G H s E _ R ?_
  unfold mMt M.bd at h
  cases hm : mo E with
  | st => rw [hm] at h; exact h.elim
  | ex c fs e1 => rw [hm] at h; exact h
  | ok q E1 =>
    rw [hm] at h
    dsimp only at h
    intro x G1 ka1 H1 R1 S1 D1
    cases hp : pk E1 q with
    | none => rw [hp] at h; exact h.elim
    | some t0 =>
      rw [hp] at h
      cases t0 with
      | lst ts0 =>
        dsimp only at h
        refine ⟨(R1.pk D1 hp).tyL R1.sub, qa ka1 G1 H1 s E1 _ R1 ?_⟩
        have S1' : Stp ka G H (Own s E.r) ka1 G1 H1 (Own s E1.r) := S1.less fun a x => .inl x
        cases hm2 : ms E1 with
        | st => rw [hm2] at h; exact h.elim
        | ex c fs e1 => rw [hm2] at h; exact XPo.later S1' h
        | ok ps E2 =>
          rw [hm2] at h
          dsimp only at h
          intro vs G2 ka2 H2 R2 S2 D2
          have D1' := (D1.stp (e' := E2) (S2.less (O'' := Own s E2.r) fun a x => .inl x) fun _ x => x).1
          cases hz : fzs E2 ps with
          | none => rw [hz] at h; exact h.elim
          | some z =>
            obtain ⟨ts, E3⟩ := z
            rw [hz] at h
            dsimp only at h
            obtain ⟨G3, R3, d3, S3, c3⟩ := Rel.fzs R2 D2 hz
            have S13 : Stp ka1 G1 H1 (Own s E1.r) ka2 G3 H2 (Own s E3.r) := S2.trans S3
            have D1'' := (D1.stp (e' := E3) S13 fun _ x => x).1
            cases hpl : plOf E3 q with
            | none => rw [hpl] at h; exact h.elim
            | some z =>
              obtain ⟨pl, t⟩ := z
              rw [hpl] at h
              dsimp only at h
              cases hff : f t ts with
              | none => rw [hff] at h; exact h.elim
              | some z =>
                obtain ⟨u, w⟩ := z
                rw [hff] at h
                dsimp only at h
                obtain ⟨a, rfl, da, go⟩ := R3.place D1'' hpl
                refine hf ka2 G3 H2 a t vs ts u w Q da d3 hff fun o v du dw => ?_
                obtain ⟨R4, S4⟩ := go o u du
                exact h v G3 ka2 _ R4 (((S1'.trans S13).trans S4).less fun a x => x.elim id fun ⟨_, z, _⟩ => by cases z) dw
      | _ => exact h.elim
theorem je_mt (slot : Slot "list" name id) (hty : typeOf (.builtin id) = pure (.type "method_descriptor")) (hm : MtM X id r) (hf : MPo X r f) (ho : JE X W o mo) (ha : JA X W (e :: es) ms)
    (hbase : attributeBase o name X.env (eval o X.env) = eval o X.env := by rfl)
    (hfew : ((backTo cpos (starEach (e :: es) X.env)).all (fun x => !x.1) && (backToKw cpos (keywordEach [] X.env)).all (fun x => x.1.isSome)
      && decide ((e :: es).length + ([] : List Keyword).length + (if ([] : List Keyword).isEmpty then 0 else 1) < 30)) = true := by rfl)
    (hline : (apos.endLine == cpos.line) = true := by rfl) (hs : starEach (e :: es) X.env = (false, eval e X.env) :: starEach es X.env := by rfl) (hplain : (backTo cpos (starEach es X.env)).any (·.1) = false := by rfl) :
    JE X W (.Call (.Attribute o name apos) (e :: es) [] cpos) (mMt f mo ms) := by
  obtain ⟨to, po, qo⟩ := ho.ex
  obtain ⟨ta, pa, qa⟩ := ha.ex
  exact ⟨_, pe_bm F.plainAttrs_list slot hty hm po pa hbase hfew hline hs hplain, fun ka G H s E Q R h => mt_go hf qo qa R h⟩
theorem je_mt0 (slot : Slot "list" name id) (hty : typeOf (.builtin id) = pure (.type "method_descriptor")) (hm : MtM X id r) (hf : MPo X r f) (ho : JE X W o mo)
    (hbase : attributeBase o name X.env (eval o X.env) = eval o X.env := by rfl) (hline : (apos.endLine == cpos.line) = true := by rfl) : JE X W (.Call (.Attribute o name apos) [] [] cpos) (mMt f mo mNil) := by
  obtain ⟨to, po, qo⟩ := ho.ex
  exact ⟨_, pe_bm0 F.plainAttrs_list slot hty hm po hbase hline, fun ka G H s E Q R h => mt_go (ms := mNil) (ta := tNil) hf qo (fun ka G H s E Q R h => h [] G ka H R (Stp.refl.less fun a x => x.elim (fun y => y) False.elim) .nil) R h⟩
theorem je_append (ho : JE X W o mo) (ha : JA X W [e] ms) (hbase : attributeBase o "append" X.env (eval o X.env) = eval o X.env := by rfl)
    (hfew : ((backTo cpos (starEach [e] X.env)).all (fun x => !x.1) && (backToKw cpos (keywordEach [] X.env)).all (fun x => x.1.isSome)
      && decide ([e].length + ([] : List Keyword).length + (if ([] : List Keyword).isEmpty then 0 else 1) < 30)) = true := by rfl)
    (hline : (apos.endLine == cpos.line) = true := by rfl) (hs : starEach [e] X.env = (false, eval e X.env) :: starEach [] X.env := by rfl) (hplain : (backTo cpos (starEach [] X.env)).any (·.1) = false := by rfl) :
    JE X W (.Call (.Attribute o "append" apos) [e] [] cpos) (mMt appF mo ms) := je_mt F.slot_list_append F.type_list_append mt_append mpo_append ho ha hbase hfew hline hs hplain
theorem je_pop0 (ho : JE X W o mo) (hbase : attributeBase o "pop" X.env (eval o X.env) = eval o X.env := by rfl) (hline : (apos.endLine == cpos.line) = true := by rfl) :
    JE X W (.Call (.Attribute o "pop" apos) [] [] cpos) (mMt popF mo mNil) := je_mt0 F.slot_list_pop F.type_list_pop mt_pop mpo_pop ho hbase hline
theorem je_pop1 (ho : JE X W o mo) (ha : JA X W [e] ms) (hbase : attributeBase o "pop" X.env (eval o X.env) = eval o X.env := by rfl)
    (hfew : ((backTo cpos (starEach [e] X.env)).all (fun x => !x.1) && (backToKw cpos (keywordEach [] X.env)).all (fun x => x.1.isSome)
      && decide ([e].length + ([] : List Keyword).length + (if ([] : List Keyword).isEmpty then 0 else 1) < 30)) = true := by rfl)
    (hline : (apos.endLine == cpos.line) = true := by rfl) (hs : starEach [e] X.env = (false, eval e X.env) :: starEach [] X.env := by rfl) (hplain : (backTo cpos (starEach [] X.env)).any (·.1) = false := by rfl) :
    JE X W (.Call (.Attribute o "pop" apos) [e] [] cpos) (mMt popAtF mo ms) := je_mt F.slot_list_pop F.type_list_pop mt_popAt mpo_popAt ho ha hbase hfew hline hs hplain
end
end PL
-- PL15
/-! The pure layer 15: enumerate over a list or a tuple. -/
namespace PL
open PySem PySem.Spec PyProof.Rows L2 PySem.SeqAt PySem.W

section
variable {prog : Program} {w : World} {A : Around} {E : Value → Shared → Prop} {s : Shared}
theorem meets_enum_tup (l : Addr) (items : Array Value) (n : Nat) (dct : Option Addr) (sl : Array (Option Value)) :
    Meets (Builtin.«enumerate.__new__» ⟨[.type "enumerate", .ref l], []⟩) (fun _ R s => s.heap.get? l = some { cls := .type "tuple", dict := dct, data := .seq items n, slots := sl } ∧
      R (.ok (.ret (.ref (s.heap.push { cls := .type "tuple_iterator", data := .fields #[.ref l, .int 0 0] }).objs.size)))
        { s with heap := (s.heap.push { cls := .type "tuple_iterator", data := .fields #[.ref l, .int 0 0] }).push { cls := .type "enumerate", data := .fields #[.none, .bool false, .ref s.heap.objs.size, rawInt 0, .none, .none] } }) :=
  .of_wp fun prog w A R s h => by
    obtain ⟨hp, g, d, tk, os⟩ := s; obtain ⟨hl, h⟩ := h
    have hsub := sub_enumerate
    have hL : Heap.IsTuple (Shared.heap ⟨hp, g, d, tk, os⟩) l items := ⟨_, hl, rfl, n, rfl⟩
    wp_walk using AutoSeq1.wpAny_loadPart' hl
    refine wpAny_stack_any fun st => wpAny_pure ?_
    split
    · rename_i c _ _ _ _ _
      cases (c == Value.type "enumerate")
      · wp_walk using AutoSeq1.wpAny_loadPart' hl, wpAny_pyIter_tuple hL
        exact ⟨_, rfl, h⟩
      · wp_walk using AutoSeq1.wpAny_loadPart' hl, wpAny_pyIter_tuple hL
        exact ⟨_, rfl, h⟩
    · wp_walk using AutoSeq1.wpAny_loadPart' hl, wpAny_pyIter_tuple hL
      exact ⟨_, rfl, h⟩
theorem call_enum_tup {l : Addr} {items : Array Value} {Q : Value → Shared → Prop} (hL : s.heap.IsTuple l items)
    (h : ∀ h', IsEnum h' (s.heap.objs.size + 1) s.heap.objs.size 0 .none → h'.IsTupleIter s.heap.objs.size l 0 → h'.objs.size = s.heap.objs.size + 2 →
      (∀ b o, s.heap.get? b = some o → h'.get? b = some o) → Q (.ref (s.heap.objs.size + 1)) { s with heap := h' }) :
    wpAny (model prog w) A (call (.type "enumerate") [.ref l]) Q E s := by
  obtain ⟨⟨c, dct, dt, sl⟩, hl, hc, n, hd⟩ := hL
  replace hc : c = .type "tuple" := hc
  replace hd : dt = .seq items n := hd
  subst hc hd
  refine callType_new F.called_enumerate (by decide) (F.typeCall_enumerate_1 _) (F.newCall_enumerate_1 _) (fun obj => F.args_object_init_2 obj _) F.entry_enumerate_new
    (meets_enum_tup l items n dct sl) ⟨hl, ?_⟩
  have hz : (s.heap.push { cls := .type "tuple_iterator", data := .fields #[.ref l, .int 0 0] }).objs.size = s.heap.objs.size + 1 := Heap.size_push ..
  show _ ∧ _
  rw [hz]
  have he : IsEnum ((s.heap.push { cls := .type "tuple_iterator", data := .fields #[.ref l, .int 0 0] }).push
      { cls := .type "enumerate", data := .fields #[.none, .bool false, .ref s.heap.objs.size, rawInt 0, .none, .none] }) (s.heap.objs.size + 1) s.heap.objs.size 0 .none := by
    have := Heap.get?_push_size (s.heap.push { cls := .type "tuple_iterator", data := .fields #[.ref l, .int 0 0] })
      (o := { cls := .type "enumerate", data := .fields #[.none, .bool false, .ref s.heap.objs.size, rawInt 0, .none, .none] }) rfl
    rw [hz] at this; exact this
  refine ⟨⟨_, he, rfl⟩, h _ he ⟨_, Heap.get?_push_of_some _ (Heap.get?_push_size _ rfl), rfl, rfl⟩ (by rw [Heap.size_push, hz]) fun b o x => Heap.get?_push_of_some _ (Heap.get?_push_of_some _ x)⟩
end

def Itet (K : PySem.W.Frag) (a : Addr) : It :=
  ⟨fun i H => ∃ (xs : List V) (x : V), SqT K H a xs ∧ xs[i]? = some x, fun i H v H' => ∃ T x, v = .ref T ∧ H T = none ∧ H' = upd H T (.tup [.int (i : Nat), x]) ∧ ∀ xs, SqT K H a xs → xs[i]? = some x, fun i H => ∃ xs : List V, SqT K H a xs ∧ xs.length ≤ i⟩
theorem turn_enumT {P : Program} {w : World} {K : PySem.W.Frag} {elts : List Expr} {kk : Nat} {tpos : Pos} (a e it : Addr) :
    Turn P w K (.Tuple elts kk tpos) (Itet K a) [e, it] e (fun i h => (∃ old, IsEnum h e it ((i : Nat) : Int) old) ∧ h.IsTupleIter it a i ∧ e ≠ it) where
  mem := by simp
  obj := fun i h st b hb => by
    obtain ⟨⟨old, he⟩, ⟨o, ho, hc, hd⟩, _⟩ := st
    have e' : b = e ∨ b = it := by simpa using hb
    rcases e' with z | z
    · rw [z]; exact ⟨_, he, fun v q => nomatch q⟩
    · rw [z]; exact ⟨o, ho, fun v q => by rw [hd] at q; cases q⟩
  keep := fun i h h' st k => let ⟨⟨old, he⟩, hi, hne⟩ := st; ⟨⟨old, k e (by simp) _ he⟩, hi.at fun o q => k it (by simp) o q, hne⟩
  item := by
    intro X hP hw hK hc i pins s σ H E I hf st hg
    subst hP hw hK
    obtain ⟨⟨old, he⟩, hit, hne⟩ := st
    obtain ⟨xs, x, hq, hx⟩ := hg
    obtain ⟨its, rv, p, hz⟩ := I.tuple hq
    obtain ⟨u, hu, ru⟩ := rv.get hx
    have ht : s.heap.IsTuple a its.toArray := p
    have hel : e < s.heap.objs.size := Heap.lt_size he
    have hil : it < s.heap.objs.size := by obtain ⟨_, q, _⟩ := hit; exact Heap.lt_size q
    have nat : a ≠ it := fun z => by
      obtain ⟨o, ho, hco, _⟩ := ht
      obtain ⟨o2, ho2, hc2, _⟩ := hit
      rw [z, ho2] at ho; cases ho
      rw [hc2] at hco; simp at hco
    have nea : e ≠ a := fun z => by
      obtain ⟨o, ho, hco, _⟩ := ht
      have he' : s.heap.get? e = some _ := he
      rw [z, ho] at he'; cases he'
      simp at hco
    have hl : i < its.toArray.size := by
      have := (List.getElem?_eq_some_iff.mp hu).1
      simpa using this
    refine wpAny_pyNext_enum_itemC (Draws.tuple (A := X.A.in1) (I.ok.hd hc) it a nat its.toArray) he ⟨hit, ht⟩ hl hne (by simp [hne, nea]) fun u' h' tk hu' ho st' hT hsz hk => ?_
    have eu : u' = u := by
      have z : its.toArray[i]? = some u := by simpa using hu
      rw [z] at hu'; exact (Option.some.inj hu').symm
    subst eu
    obtain ⟨hit', _⟩ := st'
    refine ⟨_, rfl, wpAny_letOwnedTupleGo_enum (s := { s with heap := h', toks := tk + 1 }) ho fun h'' he' sb => ?_⟩
    have hT2 : h''.get? s.heap.objs.size = some { cls := .type "tuple", data := .seq #[.int i tk, u'] } := (sb.2 _ (Nat.ne_of_gt hel)).trans hT
    have new : ObjOk X.prog X.w (upd H s.heap.objs.size (.tup [.int (i : Nat), x])) h'' s.heap.objs.size (.tup [.int (i : Nat), x]) :=
      ⟨by show 2 ≤ sizeLine; decide, [.int i tk, u'], .cons ⟨_, rfl⟩ (.cons ru .nil), ⟨_, hT2, rfl, _, rfl⟩⟩
    have I1 : Inv X pins σ (upd H s.heap.objs.size (.tup [.int (i : Nat), x])) { s with heap := h'', toks := tk + 1 } :=
      I.turnedNew (ch := [e, it]) (fun b ob hb q => (sb.2 b (fun z => hb (by simp [z]))).trans (hk b ob (fun z => hb (by simp [z])) (fun z => hb (by simp [z])) q)) hf (Nat.le_refl _) new
    refine ⟨.ref s.heap.objs.size, _, I1, rfl, ⟨_, x, rfl, I.hok.fresh (Nat.le_refl _), rfl, fun ys hy => by rw [I.tuple_inj hy hq]; exact hx⟩, ⟨⟨u', ?_⟩, hit'.at fun o q => (sb.2 it (Ne.symm hne)).trans q, hne⟩, fun b hb => ?_⟩
    · have e1 : ((i + 1 : Nat) : Int) = (i : Int) + 1 := by omega
      rw [e1]; exact he'
    · have hb' : b < s.heap.objs.size := by
        have e' : b = e ∨ b = it := by simpa using hb
        rcases e' with z | z
        · rw [z]; exact hel
        · rw [z]; exact hil
      rw [upd_ne (Nat.ne_of_lt hb')]
      exact (hf b hb).1
  done := by
    intro X hP hw hK hc i pins s σ H E I hf st hg
    subst hP hw hK
    obtain ⟨⟨old, he⟩, hit, hne⟩ := st
    obtain ⟨xs, hq, hx⟩ := hg
    obtain ⟨its, rv, p, hz⟩ := I.tuple hq
    obtain ⟨f0, f1, f2, f3, f4, f5⟩ := hf it (by simp)
    have hl := rv.length
    have ht : s.heap.IsTuple a its.toArray := p
    have D : Draws X.prog X.w X.A.in1 it [it, a] i (fun j v => its.toArray[j]? = some v) (fun j h => (h.IsTupleIter it a j ∧ h.IsTuple a its.toArray) ∧ j = i) :=
      ⟨fun _ _ st => let ⟨o, ho, _⟩ := st.1.1; ⟨o, ho⟩, fun _ _ _ st hk => ⟨⟨st.1.1.at fun o e => hk it (by simp) o e, st.1.2.at fun o e => hk a (by simp) o e⟩, st.2⟩, fun j s2 Q E hj st hQ => absurd st.2 (Nat.ne_of_lt hj),
        fun s2 Q E st hE => wpAny_nextOf_tuple_end (I.ok.hd hc) st.1.1 st.1.2 (by simp; omega) hE⟩
    exact wpAny_pyNext_enum_endD D he ⟨⟨hit, ht⟩, rfl⟩ fun h' eb => ⟨rfl, I.turned (t' := s.toks) (fun b o hb q => eb b o hb q) f0 f1 f3 f4 f5⟩
  self := fun A i s Q E st h => let ⟨⟨_, he⟩, _⟩ := st; wpAny_pyIter_enum he h
def iEnA (K : PySem.W.Frag) (ta : TA) : TI := fun σ H R => ta σ H fun vs H1 => ∃ a, vs = [.ref a] ∧ (((∃ xs, SqL K H1 a xs) ∧ R (Ite K a) H1) ∨ ((∃ xs, SqT K H1 a xs) ∧ R (Itet K a) H1))
theorem pi_enumA {X : Cx} {e : Expr} {ta : TA} {p pos tpos : Pos} {elts : List Expr} {kk : Nat} (hg : Gl X "enumerate") (hm : X.mg "enumerate" = none) (ha : PA X [e] ta) (hs : starEach [e] X.env = [(false, eval e X.env)] := by rfl) :
    PI X (.Tuple elts kk tpos) (.Call (.Name "enumerate" p) [e] [] pos) (iEnA X.K ta) := by
  refine ⟨fun pins s σ H R I h => ?_⟩
  refine Call_ (ld_blt I hg hm boot_enumerate (PyProof.Rows.callWith_type1 (thn (ha.run pos pins s σ H _ I h) fun us s1 ⟨vs, H1, I1, r1, q1⟩ => ?_) hs rfl))
  obtain ⟨a, ex, q⟩ := q1
  subst ex
  cases r1 with
  | cons r rr =>
    cases rr
    cases r
    have fresh : ∀ b ∈ [s1.heap.objs.size + 1, s1.heap.objs.size], FpOk X pins H1 b := fun b hb => by
      have e' : b = s1.heap.objs.size + 1 ∨ b = s1.heap.objs.size := by simpa using hb
      have hle : s1.heap.objs.size ≤ b := by
        rcases e' with z | z
        · rw [z]; exact Nat.le_add_right _ _
        · rw [z]; exact Nat.le_refl _
      exact I1.fpOk hle (I1.hok.fresh hle)
    rcases q with ⟨⟨xs, hq⟩, q⟩ | ⟨⟨xs, hq⟩, q⟩
    · obtain ⟨its, rv, p', hz⟩ := I1.list hq
      refine call_enumerate_list p'.isList fun h' he hit hsz hk => wpAny_pyIter_enum he ?_
      have I2 : Inv X pins σ H1 { s1 with heap := h' } := I1.kept (t' := s1.toks) hk
      exact ⟨s1.heap.objs.size + 1, [s1.heap.objs.size + 1, s1.heap.objs.size], _, _, H1, rfl, I2, turn_enum a (s1.heap.objs.size + 1) s1.heap.objs.size, ⟨⟨.none, he⟩, hit, Nat.succ_ne_self _⟩, fresh, q⟩
    · obtain ⟨its, rv, p', hz⟩ := I1.tuple hq
      refine call_enum_tup (items := its.toArray) p' fun h' he hit hsz hk => wpAny_pyIter_enum he ?_
      have I2 : Inv X pins σ H1 { s1 with heap := h' } := I1.kept (t' := s1.toks) hk
      exact ⟨s1.heap.objs.size + 1, [s1.heap.objs.size + 1, s1.heap.objs.size], _, _, H1, rfl, I2, turn_enumT a (s1.heap.objs.size + 1) s1.heap.objs.size, ⟨⟨.none, he⟩, hit, Nat.succ_ne_self _⟩, fresh, q⟩

def enF : Nat → List T → List T
  | _, [] => []
  | i, t :: ts => .tup [.int (i : Nat), t] :: enF (i + 1) ts
theorem enF_len : ∀ (k : Nat) (ts : List T), (enF k ts).length = ts.length
  | _, [] => rfl
  | k, t :: ts => by rw [enF, List.length_cons, enF_len, List.length_cons]
theorem enF_get : ∀ (k : Nat) (ts : List T) (i : Nat), (enF k ts)[i]? = (ts[i]?).map fun t => T.tup [.int ((k + i : Nat) : Int), t]
  | _, [], _ => by simp [enF]
  | k, t :: ts, 0 => by simp [enF]
  | k, t :: ts, i + 1 => by
    rw [enF, List.getElem?_cons_succ, List.getElem?_cons_succ, enF_get, Nat.add_assoc, Nat.add_comm 1 i]
section
variable {K : PySem.W.Frag} {mg : Str → Option Value} {ka : List Addr} {G : Hp} {p : Addr} {ts : List T} {w : Option (Nat × T)}
theorem itok_en {J : It} (hgo : ∀ ka1 G1 H1, GLe G G1 → KLe ka ka1 → GLe G1 H1 → WtOk K mg ka1 G1 H1 w → ∃ vs, Dens K mg ka1 G1 vs ts ∧ (∀ i x, vs[i]? = some x → J.go i H1) ∧ (∀ i x H', J.yld i H1 x H' → ∃ T y, x = .ref T ∧ H1 T = none ∧ H' = upd H1 T (.tup [.int (i : Nat), y]) ∧ vs[i]? = some y) ∧ ∀ i, vs.length ≤ i → J.stop i H1) :
    ItOk K mg ka G J w (enF 0 ts) := by
  intro ka1 G1 H1 hg hk hs hw i
  obtain ⟨vs, d, g, y, st⟩ := hgo ka1 G1 H1 hg hk hs hw
  refine ⟨fun t ht => ?_, fun hi => st i (by rw [d.length, ← enF_len 0 ts]; exact hi)⟩
  rw [enF_get] at ht
  cases hx : ts[i]? with
  | none => rw [hx] at ht; cases ht
  | some u =>
    rw [hx] at ht
    cases ht
    obtain ⟨v, hv, dv⟩ := d.get hx
    refine ⟨g i v hv, fun x H' yl => ?_⟩
    obtain ⟨T', z, rfl, hT, rfl, hz⟩ := y i x H' yl
    rw [hv] at hz; cases hz
    refine .inr ⟨T', [.int (i : Nat), v], [.int (i : Nat), u], rfl, hT, rfl, ?_, .cons (.int _) (.cons dv .nil)⟩
    rw [Nat.zero_add]
/-- the list, the tuple at p holds ts whenever the walk goes on -/
def LsOk (K : PySem.W.Frag) (mg : Str → Option Value) (ka : List Addr) (G : Hp) (w : Option (Nat × T)) (p : Addr) (ts : List T) : Prop :=
  ∀ ka1 G1 H1, GLe G G1 → KLe ka ka1 → GLe G1 H1 → WtOk K mg ka1 G1 H1 w → ∃ vs, SqL K H1 p vs ∧ Dens K mg ka1 G1 vs ts
def TsOk (K : PySem.W.Frag) (mg : Str → Option Value) (ka : List Addr) (G : Hp) (p : Addr) (ts : List T) : Prop :=
  ∀ ka1 G1 H1, GLe G G1 → KLe ka ka1 → GLe G1 H1 → ∃ vs, SqT K H1 p vs ∧ Dens K mg ka1 G1 vs ts
theorem LsOk.later {ka' : List Addr} {G' : Hp} (h : LsOk K mg ka G w p ts) (hg : GLe G G') (hk : KLe ka ka') : LsOk K mg ka' G' w p ts := fun ka1 G1 H1 g k s q => h ka1 G1 H1 (hg.trans g) (hk.trans k) s q
theorem TsOk.later {ka' : List Addr} {G' : Hp} (h : TsOk K mg ka G p ts) (hg : GLe G G') (hk : KLe ka ka') : TsOk K mg ka' G' p ts := fun ka1 G1 H1 g k s => h ka1 G1 H1 (hg.trans g) (hk.trans k) s
end
section
variable {X : Cx} {W : WX} {pos : Pos} {e : Expr} {m : M RV}
theorem itSq_ls {ka : List Addr} {G H : Hp} {s : L2.St} {E E2 : Ev} {x : V} {q : RV} {wk : Wk} (R : Rel X.K X.mg ka G H s E) (D : DV X.K X.mg ka G H s E.r x q) (h : itSq E q = some (wk, E2)) :
    ∃ G2, Rel X.K X.mg ka G2 H s E2 ∧ Stp ka G H (OwV s E.r x q) ka G2 H (Own s E2.r) ∧ ∃ p, x = .ref p ∧ (((∃ xs, SqL X.K H p xs) ∧ LsOk X.K X.mg ka G2 wk.w p wk.ts) ∨ ((∃ xs, SqT X.K H p xs) ∧ wk.w = none ∧ TsOk X.K X.mg ka G2 p wk.ts)) := by
  have lst : ∀ {G2 : Hp} {p : Addr} {vs : List V} {ts : List T}, SqL X.K G2 p vs → Dens X.K X.mg ka G2 vs ts → LsOk X.K X.mg ka G2 none p ts := fun q d ka1 G1 H1 hg hk hs _ => ⟨_, sqL_mono (hg.trans hs) q, d.mono hg hk⟩
  have tup : ∀ {G2 : Hp} {p : Addr} {vs : List V} {ts : List T}, SqT X.K G2 p vs → Dens X.K X.mg ka G2 vs ts → TsOk X.K X.mg ka G2 p ts := fun q d ka1 G1 H1 hg hk hs => ⟨_, sqT_mono (hg.trans hs) q, d.mono hg hk⟩
  have frozen : ∀ {q : RV}, DV X.K X.mg ka G H s E.r x q → (match fz E q with
    | some (.lst ts, e') => some (⟨none, ts⟩, e')
    | some (.tup ts, e') => some (⟨none, ts⟩, e')
    | some (.scr ts, e') => some (⟨none, ts⟩, e')
    | _ => none) = some (wk, E2) → ∃ G2, Rel X.K X.mg ka G2 H s E2 ∧ Stp ka G H (OwV s E.r x q) ka G2 H (Own s E2.r) ∧ ∃ p, x = .ref p ∧ (((∃ xs, SqL X.K H p xs) ∧ LsOk X.K X.mg ka G2 wk.w p wk.ts) ∨ ((∃ xs, SqT X.K H p xs) ∧ wk.w = none ∧ TsOk X.K X.mg ka G2 p wk.ts)) := by
    intro q D h
    cases hf : fz E q with
    | none => rw [hf] at h; cases h
    | some p =>
      obtain ⟨t, E3⟩ := p
      rw [hf] at h
      obtain ⟨G2, R2, d2, S2, _⟩ := R.fz D hf
      cases t with
      | lst ts =>
        cases h
        cases d2 with
        | lst q d => exact ⟨G2, R2, S2, _, rfl, .inl ⟨⟨_, SqL.of (R2.sub _ _ q)⟩, lst (SqL.of q) d⟩⟩
      | scr ts =>
        cases h
        cases d2 with
        | scr q d => exact ⟨G2, R2, S2, _, rfl, .inl ⟨⟨_, sqL_mono R2.sub q⟩, lst q d⟩⟩
      | tup ts =>
        cases h
        cases d2 with
        | tup q d => exact ⟨G2, R2, S2, _, rfl, .inr ⟨⟨_, sqT_mono R2.sub q⟩, rfl, tup q d⟩⟩
      | _ => cases h
  unfold PL.itSq at h
  split at h
  · rename_i k
    cases hc : E.c[k]? with
    | none => rw [hc] at h; cases h
    | some u =>
      rw [hc] at h
      cases u with
      | lst ts =>
        cases h
        cases D with
        | @cel p _ ek =>
          obtain ⟨a, ea, vs, hv, d⟩ := R.cel k _ hc
          rw [ek] at ea
          cases ea
          refine ⟨G, R, Stp.refl.less fun a z => .inl z, p, rfl, .inl ⟨⟨vs, SqL.of hv⟩, fun ka1 G1 H1 hg hk hs hw => ?_⟩⟩
          obtain ⟨a, ea, vs, hv, d⟩ := hw k _ rfl
          have z := hk.get ek
          rw [z] at ea
          cases ea
          exact ⟨vs, SqL.of hv, d⟩
      | _ => cases h
  · exact frozen D h
/-- the items of what q is, each with its place -/
def mEn (m : M RV) : M Wk := m.bd fun q e => match itSq e q with
  | some (w, e') => .ok ⟨w.w, enF 0 w.ts⟩ e'
  | none => .st
theorem ji_en {elts : List Expr} {kk : Nat} {tpos p : Pos} (hg : Gl X "enumerate") (hm : X.mg "enumerate" = none) (h : JE X W e m) (hs : starEach [e] X.env = [(false, eval e X.env)] := by rfl) : JI X W (.Tuple elts kk tpos) (.Call (.Name "enumerate" p) [e] [] pos) (mEn m) := by
  obtain ⟨t, pa, q⟩ := h.ex
  refine ⟨_, pi_enumA hg hm (pa_cons pa pa_nil hs) hs, fun ka G H s E Q R h => q ka G H s E _ R ?_⟩
  unfold mEn M.bd at h
  cases hm : m E with
  | st => rw [hm] at h; exact h.elim
  | ex c fs e1 => rw [hm] at h; exact h
  | ok r E1 =>
    rw [hm] at h
    dsimp only at h
    intro x G1 ka1 H1 R1 S1 D1
    cases hf : itSq E1 r with
    | none => rw [hf] at h; exact h.elim
    | some p =>
      obtain ⟨wk, E2⟩ := p
      rw [hf] at h
      obtain ⟨G2, R2, S2, p, rfl, q⟩ := itSq_ls R1 D1 hf
      refine ⟨p, rfl, ?_⟩
      rcases q with ⟨a, b⟩ | ⟨a, b0, b⟩
      · refine .inl ⟨a, h _ G2 ka1 H1 R2 (S1.trans S2) (itok_en fun ka2 G3 H2 hg hk hs hw => ?_)⟩
        obtain ⟨vs, q, d⟩ := b ka2 G3 H2 hg hk hs hw
        refine ⟨vs, d, fun i x hx => ⟨vs, x, q, hx⟩, fun i x H' ⟨T', y, h1, h2, h3, h4⟩ => ⟨T', y, h1, h2, h3, h4 vs q⟩, fun i hi => ⟨vs, q, hi⟩⟩
      · refine .inr ⟨a, h _ G2 ka1 H1 R2 (S1.trans S2) (itok_en fun ka2 G3 H2 hg hk hs hw => ?_)⟩
        obtain ⟨vs, q, d⟩ := b ka2 G3 H2 hg hk hs
        refine ⟨vs, d, fun i x hx => ⟨vs, x, q, hx⟩, fun i x H' ⟨T', y, h1, h2, h3, h4⟩ => ⟨T', y, h1, h2, h3, h4 vs q⟩, fun i hi => ⟨vs, q, hi⟩⟩
end
end PL
-- PL16
/-! The pure layer 16: what a def promises, its call. -/
namespace PL
open PySem PySem.Spec PyProof.Rows L2 PySem.SeqAt PySem.W

inductive FR where
  | st | ok (q : RV) (c : List T) | ex (x : Str) (fs : List (Str × T)) (c : List T)
abbrev Fn := List T → List T → FR
abbrev noO : Addr → Prop := fun _ => False
def FPo (K : PySem.W.Frag) (mg : Str → Option Value) (ka : List Addr) (G H : Hp) (r : FR) (Q : VK) (E : XK) : Prop := match r with
  | .st => False
  | .ok q c => ∀ v G' ka' H', Rel K mg ka' G' H' [] ⟨[], c⟩ → Stp ka G H noO ka' G' H' (OwT v q) → DV K mg ka' G' H' [] [] v q → nbr q → Q v H'
  | .ex x fs c => ∀ cls d G' ka' H', Rel K mg ka' G' H' [] ⟨[], c⟩ → Stp ka G H noO ka' G' H' noO → DX K mg ka' G' cls d x fs → E cls d H'
/-- the promise of a def: its values by a pure function -/
def spOf (K : PySem.W.Frag) (mg : Str → Option Value) (n : Nat) (F : Fn) : Sp := fun vs H Q E => vs.length = n ∧ ∃ ka G cs ts, Rel K mg ka G H [] ⟨[], cs⟩ ∧ Dens K mg ka G vs ts ∧ FPo K mg ka G H (F ts cs) Q E

/-! ### the body -/
/-- out of the frame -/
def outR (e : Ev) : RV → Option RV
  | .br i => match e.r[i]? with
    | some (.va t) => some (.va t)
    | some (.ow t) => some (.ow t)
    | _ => none
  | q => some q
def fnM (N : Nat) (m : M Fl) : Fn := fun ts cs => match m ⟨ts.map Sl.va ++ List.replicate (N - ts.length) .un, cs⟩ with
  | .st => .st
  | .ok (.rt q) e => match outR e q with
    | some p => .ok p e.c
    | none => .st
  | .ok .nx e => .ok (.va .non) e.c
  | .ok .br _ => .st
  | .ok .ct _ => .st
  | .ex x fs e => .ex x fs e.c
section
variable {K : PySem.W.Frag} {mg : Str → Option Value} {ka ka' : List Addr} {G H G' H' : Hp} {s : L2.St} {E : Ev} {cs : List T} {v : V} {q p : RV}
theorem Rel.bare (R : Rel K mg ka G H s E) : Rel K mg ka G H [] ⟨[], E.c⟩ :=
  ⟨R.sub, rfl, fun i t h => by simp at h, fun i t h => by simp at h, fun i j t u a h => by simp at h, R.cl, R.cel, R.cg, R.nd⟩
theorem own_none {a : Addr} {s : L2.St} (h : Own s [] a) : False := by
  obtain ⟨i, t, h, _⟩ := h
  simp at h
theorem Rel.out (R : Rel K mg ka G H s E) (d : DV K mg ka G H s E.r v q) (h : outR E q = some p) : DV K mg ka G H [] [] v p ∧ nbr p ∧ ∀ a, OwT v p a → OwV s E.r v q a := by
  have ow : ∀ {t}, DV K mg ka G H s E.r v (.ow t) → DV K mg ka G H [] [] v (.ow t) := fun ⟨a, e, d, h1, h2, _⟩ => ⟨a, e, d, h1, h2, own_none⟩
  cases q with
  | va t => cases h; exact ⟨d, trivial, fun a x => .inr x⟩
  | ow t => cases h; exact ⟨ow d, trivial, fun a x => .inr x⟩
  | br i =>
    have hs : s[i]? = some (some v) := d
    unfold outR at h
    dsimp only at h
    cases q : E.r[i]? with
    | none => rw [q] at h; cases h
    | some l =>
      rw [q] at h
      cases l with
      | un => cases h
      | xc c fs => cases h
      | va t =>
        cases h
        obtain ⟨v', ev, dv⟩ := R.va i t q
        rw [hs] at ev; cases ev
        exact ⟨dv, trivial, fun a ⟨_, z, _⟩ => by cases z⟩
      | ow t =>
        cases h
        obtain ⟨a, ea, db, hg, hk⟩ := R.ow i t q
        rw [hs] at ea; cases ea
        exact ⟨⟨a, rfl, db, hg, hk, own_none⟩, trivial, fun b ⟨_, _, z⟩ => by cases z; exact .inl ⟨i, t, q, hs⟩⟩
theorem start_get {N : List Str} {vs : List V} {i : Nat} {v : V} (h : vs[i]? = some v) : (L2.start N vs)[i]? = some (some v) := by
  unfold L2.start
  have hi := (List.getElem?_eq_some_iff.mp h).1
  rw [List.getElem?_append_left (by simpa using hi), List.getElem?_map, h]
  rfl
theorem Rel.start {N : List Str} {vs : List V} {ts : List T} (R : Rel K mg ka G H [] ⟨[], cs⟩) (d : Dens K mg ka G vs ts) (hN : vs.length ≤ N.length) : Rel K mg ka G H (L2.start N vs) ⟨ts.map Sl.va ++ List.replicate (N.length - ts.length) .un, cs⟩ ∧ ∀ a, ¬ Own (L2.start N vs) (ts.map Sl.va ++ List.replicate (N.length - ts.length) .un) a := by
  have at_ : ∀ {i : Nat} {l : Sl}, (ts.map Sl.va ++ List.replicate (N.length - ts.length) Sl.un)[i]? = some l → l = .un ∨ ∃ t, ts[i]? = some t ∧ l = .va t := fun {i l} h => by
    by_cases z : i < ts.length
    · rw [List.getElem?_append_left (by simpa using z), List.getElem?_map] at h
      obtain ⟨t, h1, h2⟩ := Option.map_eq_some_iff.mp h
      exact .inr ⟨t, h1, h2.symm⟩
    · rw [List.getElem?_append_right (by simpa using z), List.getElem?_replicate] at h
      split at h
      · exact .inl (Option.some.inj h).symm
      · cases h
  refine ⟨⟨R.sub, ?_, fun i t h => ?_, fun i t h => ?_, fun i j t u a h1 _ _ _ => ?_, R.cl, R.cel, R.cg, R.nd⟩, fun a ⟨i, t, h, _⟩ => ?_⟩
  · unfold L2.start
    simp [d.length]
  · rcases at_ h with z | ⟨u, h1, h2⟩
    · cases z
    · cases h2
      obtain ⟨v, h3, h4⟩ := d.get h1
      exact ⟨v, start_get h3, h4⟩
  · rcases at_ h with z | ⟨u, h1, h2⟩
    · cases z
    · cases h2
  · rcases at_ h1 with z | ⟨u, h1, h2⟩
    · cases z
    · cases h2
  · rcases at_ h with z | ⟨u, h1, h2⟩
    · cases z
    · cases h2
/-- behind a call: the slots stand as they stood -/
theorem Rel.after {c : List T} {O' : Addr → Prop} (R : Rel K mg ka G H s E) (R' : Rel K mg ka' G' H' [] ⟨[], c⟩) (S : Stp ka G H noO ka' G' H' O') : Rel K mg ka' G' H' s ⟨E.r, c⟩ where
  sub := R'.sub
  len := R.len
  va := fun i t h => by
    obtain ⟨v, h1, h2⟩ := R.va i t h
    exact ⟨v, h1, h2.mono S.g S.k⟩
  ow := fun i t h => by
    obtain ⟨a, h1, h2, h3, h4⟩ := R.ow i t h
    obtain ⟨o, eo⟩ := h2.there
    refine ⟨a, h1, (h2.at fun o e => S.keep a o e h4 id).mono S.g S.k, ?_, fun hm => ?_⟩
    · cases q : G' a with
      | none => rfl
      | some u =>
        rcases S.gn a u q with ⟨o', h⟩ | h | h
        · rw [h3] at h; cases h
        · rw [h] at eo; cases eo
        · exact h.elim
    · rcases S.kn a hm with h | h | h
      · exact h4 h
      · exact h
      · rw [h] at eo; cases eo
  inj := R.inj
  cl := R'.cl
  cel := R'.cel
  cg := R'.cg
  nd := R'.nd
theorem Stp.call {O O' : Addr → Prop} (S : Stp ka G H noO ka' G' H' O') : Stp ka G H O ka' G' H' (fun a => O a ∨ O' a) := by
  have z := S.frame O
  refine ⟨z.g, z.k, fun a o e nk no => S.keep a o e nk id, fun a o e => (S.gn a o e).imp_right (·.imp_right False.elim), fun a x => ?_, fun a x => (S.kn a x).imp_right (·.imp_left False.elim), z.dom⟩
  rcases x with x | x
  · exact .inl x
  · exact (S.on a x).elim False.elim .inr
end

section
variable {P : Program} {w : World} {K : PySem.W.Frag} {mg : Str → Option Value} {base : Heap} {k : Nat} {f : Addr} {name qual : Str} {params : Arguments} {body : List Stmt} {scope : Scope} {dV kV doc pm cdv ct oc : Value} {an od : Option Addr}
    {osl : Array (Option Value)} {N ps : List Str} {m : M Fl}
/-- what is wished of an exception that leaves a def -/
abbrev WF (E : XK) : WX := fun cls d _ H => E cls d H
/-- a def of the text, by its body -/
theorem fn_ok (lk : K.lookup f = some ⟨oc, od, .func (PySem.W.fnOf name qual params body scope dV kV doc pm an cdv ct), osl⟩) (hcd : PySem.W.codeIn K cdv qual = true) (S : FnScope N ps scope)
    (hbody : ∀ (A : Around) (outer : List Env) (s : Shared) (H : Hp) (E : XK), Room k (A.deeper (envOfC qual scope s.heap.objs.size f cdv)) → JSs (cxOf (L2.CX P w) P w K mg base N qual scope f cdv A outer s H E) (WF E) body m) :
    FnOk P w K mg base (L2.CX P w) (k + 1) f (PySem.W.fnOf name qual params body scope dV kV doc pm an cdv ct) ps (spOf K mg ps.length (fnM N.length m)) := by
  refine fn_of lk hcd S (fun vs H Q E h => h.1) fun A outer s H vs Q E hr h => ?_
  obtain ⟨hl, ka, G, cs, ts, R, d, h⟩ := h
  obtain ⟨t, p, q⟩ := (hbody A outer s H E hr).ex
  refine ⟨t, p, ?_⟩
  have hpl : ps.length ≤ N.length := by have := congrArg List.length S.pre; rw [List.length_take] at this; omega
  obtain ⟨R0, no⟩ := R.start (N := N) d (by omega)
  refine q ka G H (L2.start N vs) _ _ R0 ?_
  have S0 : ∀ {ka' G' H' O'}, Stp ka G H (Own (L2.start N vs) (ts.map Sl.va ++ List.replicate (N.length - ts.length) Sl.un)) ka' G' H' O' → Stp ka G H noO ka' G' H' O' := fun {ka' G' H' O'} z =>
    ⟨z.g, z.k, fun a o e nk _ => z.keep a o e nk (no a), fun a o e => (z.gn a o e).imp_right (·.imp_right fun x => no a x), fun a x => (z.on a x).imp_left fun x => no a x, fun a x => (z.kn a x).imp_right (·.imp_left fun x => no a x), z.dom⟩
  unfold fnM at h
  rcases hm : m ⟨ts.map Sl.va ++ List.replicate (N.length - ts.length) .un, cs⟩ with _ | ⟨fl, e⟩ | ⟨x, fs, e⟩
  · rw [hm] at h; exact h.elim
  · rw [hm] at h
    rw [hm]
    cases fl with
    | nx => exact fun s1 G1 ka1 H1 R1 S1 => h .non G1 ka1 H1 R1.bare ((S0 S1).less fun a ⟨_, z, _⟩ => by cases z) .non trivial
    | br => exact h.elim
    | ct => exact h.elim
    | rt q =>
      dsimp only at h
      intro v s1 G1 ka1 H1 R1 S1 D1
      cases ho : outR e q with
      | none => rw [ho] at h; exact h.elim
      | some p =>
        rw [ho] at h
        obtain ⟨d1, b1, o1⟩ := R1.out D1 ho
        exact h v G1 ka1 H1 R1.bare ((S0 S1).less o1) d1 b1
  · rw [hm] at h
    rw [hm]
    exact fun cls d' G1 ka1 H1 s1 R1 S1 D1 => h cls d' G1 ka1 H1 R1.bare ((S0 S1).less fun _ x => x.elim) D1
end

/-! ### the call -/
def mFn (n : Nat) (F : Fn) (ms : M (List RV)) : M RV := ms.bd fun qs e => if qs.length = n then (match fzs e qs with
  | some (ts, e1) => match F ts e1.c with
    | .st => .st
    | .ok q c => .ok q ⟨e1.r, c⟩
    | .ex x fs c => .ex x fs ⟨e1.r, c⟩
  | none => .st) else .st
section
variable {X : Cx} {W : WX} {k n : Nat} {f : Addr} {fd : FuncData} {ps : List Str} {F : Fn} {x : Str} {p pos : Pos} {e : Expr} {es : List Expr} {ms : M (List RV)}
theorem fn_go {ta : TA} (qa : ∀ ka G H s E Q, Rel X.K X.mg ka G H s E → APo X W ka G H s (Own s E.r) (ms E) Q → ta s H Q) {ka : List Addr} {G H : Hp} {s : L2.St} {E : Ev} {Q : VK} (R : Rel X.K X.mg ka G H s E)
    (h : EPo X W ka G H s (Own s E.r) (mFn n F ms E) Q) : ta s H fun vs H2 => spOf X.K X.mg n F vs H2 Q (WE W s) := by
  refine qa ka G H s E _ R ?_
  unfold mFn M.bd at h
  cases hm : ms E with
  | st => rw [hm] at h; exact h.elim
  | ex c fs e1 => rw [hm] at h; exact h
  | ok qs E1 =>
    rw [hm] at h
    dsimp only at h
    intro vs G1 ka1 H1 R1 S1 D1
    by_cases hl : qs.length = n
    case neg => rw [if_neg hl] at h; exact h.elim
    rw [if_pos hl] at h
    refine ⟨D1.length.trans hl, ?_⟩
    cases hz : fzs E1 qs with
    | none => rw [hz] at h; exact h.elim
    | some z =>
      obtain ⟨ts, E2⟩ := z
      rw [hz] at h
      dsimp only at h
      obtain ⟨G2, R2, d2, S2, c2⟩ := Rel.fzs R1 D1 hz
      have S12 : Stp ka G H (Own s E.r) ka1 G2 H1 (Own s E2.r) := S1.trans S2
      refine ⟨ka1, G2, E2.c, ts, R2.bare, d2, ?_⟩
      cases hf : F ts E2.c with
      | st => rw [hf] at h; exact h.elim
      | ok q c =>
        rw [hf] at h
        dsimp only at h
        intro v G3 ka3 H3 R3 S3 D3 b3
        have R4 := R2.after R3 S3
        refine h v G3 ka3 H3 R4 ((S12.trans S3.call).less fun a z => z) ?_
        cases q with
        | br i => exact b3.elim
        | va t => exact D3
        | ow t =>
          obtain ⟨a, rfl, db, hg, hk, _⟩ := D3
          refine ⟨a, rfl, db, hg, hk, fun hx => ?_⟩
          rcases S3.on a ⟨t, rfl, rfl⟩ with z | z
          · exact z
          · exact R2.ofresh z hx
      | ex x fs c =>
        rw [hf] at h
        dsimp only at h
        intro cls d G3 ka3 H3 R3 S3 D3
        have R4 := R2.after R3 S3
        exact h cls d G3 ka3 H3 s R4 ((S12.trans S3.call).less fun a z => .inl z) D3
theorem je_call (Fo : FnOk X.prog X.w X.K X.mg X.base (L2.CX X.prog X.w) k f fd ps (spOf X.K X.mg n F)) (hr : Room k X.A) (hg : Gl X x) (hm : X.mg x = some (.ref f)) (hk : PySem.W.keepIn X.K (.ref f) = true) (hb : Binds X.K fd ps []) (tk : Takes X W)
    (ha : JA X W (e :: es) ms) (hdb : (x == ("__debug__" : Str)) = false := by decide) (he : starEach (e :: es) X.env = (false, eval e X.env) :: starEach es X.env := by rfl) (hpl : (backTo pos (starEach es X.env)).any (·.1) = false := by rfl) :
    JE X W (.Call (.Name x p) (e :: es) [] pos) (mFn n F ms) := by
  obtain ⟨ta, pa, qa⟩ := ha.ex
  refine ⟨_, pe_callS (E := WE W) Fo hr hg hm hk hb (passAt tk) pa hdb he hpl, fun ka G H s E Q R h => fn_go qa R h⟩
end
end PL
-- PL17
/-! The pure layer 17: calls by keyword, raise, except clauses. -/
namespace PL
open PySem PySem.Spec PyProof.Rows L2 PySem.SeqAt PySem.W

/-! ### f(k = e, ..) -/
structure JK (X : Cx) (W : WX) (kws : List Keyword) (m : M (List RV)) : Prop where
  ex : ∃ t : TA, PK X kws t ∧ ∀ ka G H s E Q, Rel X.K X.mg ka G H s E → APo X W ka G H s (Own s E.r) (m E) Q → t s H Q
section
variable {X : Cx} {W : WX} {e : Expr} {kws : List Keyword} {m : M RV} {ms : M (List RV)} {nm : Option Str} {kpos : Pos}
theorem jk_nil : JK X W [] mNil := ⟨tNil, pk_nil, fun ka G H s E Q R h => h [] G ka H R (Stp.refl.less fun a x => x.elim id False.elim) .nil⟩
theorem jk_cons (ha : JE X W e m) (hr : JK X W kws ms) : JK X W (⟨nm, e, kpos⟩ :: kws) (mCons m ms) := by
  obtain ⟨t1, p1, q1⟩ := ha.ex
  obtain ⟨t2, p2, q2⟩ := hr.ex
  refine ⟨tCons t1 t2, pk_cons p1 p2, fun ka G H s E Q R h => q1 ka G H s E _ R ?_⟩
  unfold mCons M.bd at h
  cases hm : m E with
  | st => rw [hm] at h; exact h.elim
  | ex c fs e1 => rw [hm] at h; exact h
  | ok r E1 =>
    rw [hm] at h
    dsimp only at h
    intro v G1 ka1 H1 R1 S1 D1
    refine q2 ka1 G1 H1 s E1 _ R1 ?_
    have S1' : Stp ka G H (Own s E.r) ka1 G1 H1 (Own s E1.r) := S1.less fun a x => .inl x
    cases hm2 : ms E1 with
    | st => rw [hm2] at h; exact h.elim
    | ex c fs e1 => rw [hm2] at h; exact XPo.later S1' h
    | ok rs E2 =>
      rw [hm2] at h
      intro vs G2 ka2 H2 R2 S2 D2
      obtain ⟨d, n, S⟩ := behind S1 D1 S2
      exact h (v :: vs) G2 ka2 H2 R2 S (.cons d D2 n)
end
/-- the values in the parameters' order -/
def gK {α : Type} (b : Nat) (pm : List Nat) (_us ws : List α) : List α := if _us.length = 0 ∧ ws.length = b then pm.filterMap fun i => ws[i]? else []
theorem kbinds {K : PySem.W.Frag} {fd : FuncData} {ps ks : List Str} {b : Nat} {pm : List Nat} (h : ∀ ws : List Value, ws.length = b → bindArgs fd ⟨[], ks.zip ws⟩ = pure (ps.zip (pm.filterMap fun i => ws[i]?))) (hp : ps.length ≠ 0) : KBinds K fd ps ks (gK b pm) (gK b pm) where
  to := fun s us ws _ hl => by
    unfold gK at hl ⊢
    by_cases hc : us.length = 0 ∧ ws.length = b
    · rw [if_pos hc]
      obtain ⟨h1, h2⟩ := hc
      rw [List.length_eq_zero_iff.mp h1]
      exact .of_eq (h ws h2)
    · rw [if_neg hc] at hl
      exact absurd hl.symm hp
  rel := fun {vs us zs ws} r1 r2 => by
    unfold gK
    rw [← r1.length, ← r2.length]
    by_cases hc : vs.length = 0 ∧ zs.length = b
    · rw [if_pos hc, if_pos hc]
      clear hc h
      induction pm with
      | nil => exact .nil
      | cons i pm ih =>
        rw [List.filterMap_cons, List.filterMap_cons]
        cases hz : zs[i]? with
        | none =>
          rw [r2.none_of hz]
          exact ih
        | some z =>
          obtain ⟨u, hu, ru⟩ := r2.get hz
          rw [hu]
          exact .cons ru ih
    · rw [if_neg hc, if_neg hc]; exact .nil
section
variable {X : Cx} {W : WX} {k n b : Nat} {f : Addr} {fd : FuncData} {ps ks : List Str} {F : Fn} {x : Str} {p pos : Pos} {kws : List Keyword} {ms : M (List RV)} {pm : List Nat} {CX : CXT} {sp : Sp} {E : L2.St → XK}
    {g : List Value → List Value → List Value} {gV : List V → List V → List V}
theorem run_fnkS {pins : List (Addr × Obj)} {σ : L2.St} {H : Hp} {s : Shared} {Q : VK} {us ws : List Value} {vs zs : List V} (F : FnOk X.prog X.w X.K X.mg X.base CX k f fd ps sp) (hr : Room k X.A) (hb : KBinds X.K fd ps ks g gV) (hx : PassesAt CX X σ (E σ))
    (I : Inv X pins σ H s) (r : Vals vs us) (rz : Vals zs ws) (h : sp (gV vs zs) H Q (E σ)) : wpAny (model X.prog X.w) X.A (call (.ref f) us (ks.zip ws)) (EP X pins σ Q) X.xe s := by
  have r2 := hb.rel r rz
  have hl : (g us ws).length = ps.length := by rw [← r2.length]; exact F.len _ _ _ _ h
  refine wpAny_call (codeAny_mono (F.run X.A X.stack s H ⟨us, ks.zip ws⟩ (g us ws) (gV vs zs) Q (E σ) hr I.env0 (hb.to s us ws I.kIn hl) r2 h) fun r s' hq => ?_)
  cases r with
  | error e => exact hx pins H s e s' I hq
  | ok fl =>
    cases fl with
    | ret u => exact I.after hq
    | next => exact False.elim hq
    | brk => exact False.elim hq
    | cont => exact False.elim hq
def tCallKS (sp : Sp) (gV : List V → List V → List V) (E : L2.St → XK) (tk : TA) : TE := fun σ H Q => tk σ H fun zs H2 => sp (gV [] zs) H2 Q (E σ)
theorem pe_callKS (F : FnOk X.prog X.w X.K X.mg X.base CX k f fd ps sp) (hr : Room k X.A) (hg : Gl X x) (hm : X.mg x = some (.ref f)) (hk : PySem.W.keepIn X.K (.ref f) = true) (hb : KBinds X.K fd ps ks g gV) (hx : ∀ σ, PassesAt CX X σ (E σ)) {tk : TA}
    (hkw : PK X kws tk) (hall : (backToKw pos (keywordEach kws X.env)).all (·.1.isSome) = true := by rfl) (hks : (backToKw pos (keywordEach kws X.env)).filterMap (·.1) = ks := by rfl)
    (hdb : (x == ("__debug__" : Str)) = false := by decide) (hpl : ((backTo pos (starEach [] X.env)).any (·.1) || (backToKw pos (keywordEach kws X.env)).any (·.1.isNone)) = false := by rfl) :
    PE X (.Call (.Name x p) [] kws pos) (tCallKS sp gV E tk) := by
  refine ⟨fun pins s σ H Q I h => ?_⟩
  refine wpAny_Call_Name_kw (ld_glob I hg hm ?_ hdb)
  refine PySem.W.callWith_KW0 (h₀ := X.base) I.ok.mod.kin hk hall (thn (hkw.run pos pins s σ H _ I h) fun ws s2 ⟨zs, H2, I2, rz, q2⟩ => ⟨I2.kIn, ?_⟩) hpl
  rw [hks]
  exact run_fnkS (us := []) (vs := []) F hr hb (hx σ) I2 .nil rz q2
/-- the arguments by their names -/
def mFnK (b : Nat) (pm : List Nat) (n : Nat) (F : Fn) (ms : M (List RV)) : M RV := ms.bd fun qs e => if qs.length = b ∧ pm.length = n ∧ pm.all (fun i => decide (i < b)) = true then (match fzs e qs with
  | some (ts, e1) => match F (pm.filterMap fun i => ts[i]?) e1.c with
    | .st => .st
    | .ok q c => .ok q ⟨e1.r, c⟩
    | .ex x fs c => .ex x fs ⟨e1.r, c⟩
  | none => .st) else .st
theorem Dens.pick {K : PySem.W.Frag} {mg : Str → Option Value} {ka : List Addr} {G : Hp} {vs : List V} {ts : List T} (d : Dens K mg ka G vs ts) : ∀ pm : List Nat, Dens K mg ka G (pm.filterMap fun i => vs[i]?) (pm.filterMap fun i => ts[i]?)
  | [] => .nil
  | i :: pm => by
    rw [List.filterMap_cons, List.filterMap_cons]
    cases hz : ts[i]? with
    | none =>
      have : vs[i]? = none := by
        have := List.getElem?_eq_none_iff.mp hz
        exact List.getElem?_eq_none (by rw [d.length]; exact this)
      rw [this]
      exact d.pick pm
    | some t =>
      obtain ⟨v, hv, dv⟩ := d.get hz
      rw [hv]
      exact .cons dv (d.pick pm)
theorem pick_len {α : Type} {l : List α} : ∀ {pm : List Nat}, pm.all (fun i => decide (i < l.length)) = true → (pm.filterMap fun i => l[i]?).length = pm.length
  | [], _ => rfl
  | i :: pm, h => by
    rw [List.all_cons, Bool.and_eq_true, decide_eq_true_eq] at h
    rw [List.filterMap_cons, List.getElem?_eq_getElem h.1, List.length_cons, List.length_cons, pick_len h.2]
theorem je_callK (Fo : FnOk X.prog X.w X.K X.mg X.base (L2.CX X.prog X.w) k f fd ps (spOf X.K X.mg n F)) (hr : Room k X.A) (hg : Gl X x) (hm : X.mg x = some (.ref f)) (hk : PySem.W.keepIn X.K (.ref f) = true) (hb : KBinds X.K fd ps ks (gK b pm) (gK b pm)) (tk : Takes X W)
    (ha : JK X W kws ms) (hall : (backToKw pos (keywordEach kws X.env)).all (·.1.isSome) = true := by rfl) (hks : (backToKw pos (keywordEach kws X.env)).filterMap (·.1) = ks := by rfl)
    (hdb : (x == ("__debug__" : Str)) = false := by decide) (hpl : ((backTo pos (starEach [] X.env)).any (·.1) || (backToKw pos (keywordEach kws X.env)).any (·.1.isNone)) = false := by rfl) :
    JE X W (.Call (.Name x p) [] kws pos) (mFnK b pm n F ms) := by
  obtain ⟨ta, pa, qa⟩ := ha.ex
  refine ⟨_, pe_callKS (E := WE W) Fo hr hg hm hk hb (passAt tk) pa hall hks hdb hpl, fun ka G H s E Q R h => ?_⟩
  refine qa ka G H s E _ R ?_
  unfold mFnK M.bd at h
  cases hm : ms E with
  | st => rw [hm] at h; exact h.elim
  | ex c fs e1 => rw [hm] at h; exact h
  | ok qs E1 =>
    rw [hm] at h
    dsimp only at h
    intro vs G1 ka1 H1 R1 S1 D1
    by_cases hl : qs.length = b ∧ pm.length = n ∧ pm.all (fun i => decide (i < b)) = true
    case neg => rw [if_neg hl] at h; exact h.elim
    rw [if_pos hl] at h
    have hvl : vs.length = b := D1.length.trans hl.1
    have eg : gK b pm ([] : List V) vs = pm.filterMap fun i => vs[i]? := if_pos ⟨rfl, hvl⟩
    refine ⟨by rw [eg, pick_len (by rw [hvl]; exact hl.2.2)]; exact hl.2.1, ?_⟩
    rw [eg]
    cases hz : fzs E1 qs with
    | none => rw [hz] at h; exact h.elim
    | some z =>
      obtain ⟨ts, E2⟩ := z
      rw [hz] at h
      dsimp only at h
      obtain ⟨G2, R2, d2, S2, c2⟩ := Rel.fzs R1 D1 hz
      have S12 : Stp ka G H (Own s E.r) ka1 G2 H1 (Own s E2.r) := S1.trans S2
      refine ⟨ka1, G2, E2.c, _, R2.bare, d2.pick pm, ?_⟩
      cases hf : F (pm.filterMap fun i => ts[i]?) E2.c with
      | st => rw [hf] at h; exact h.elim
      | ok q c =>
        rw [hf] at h
        dsimp only at h
        intro v G3 ka3 H3 R3 S3 D3 b3
        have R4 := R2.after R3 S3
        refine h v G3 ka3 H3 R4 ((S12.trans S3.call).less fun a z => z) ?_
        cases q with
        | br i => exact b3.elim
        | va t => exact D3
        | ow t =>
          obtain ⟨a, rfl, db, hg, hk, _⟩ := D3
          refine ⟨a, rfl, db, hg, hk, fun hx => ?_⟩
          rcases S3.on a ⟨t, rfl, rfl⟩ with z | z
          · exact z
          · exact R2.ofresh z hx
      | ex x fs c =>
        rw [hf] at h
        dsimp only at h
        intro cls d G3 ka3 H3 R3 S3 D3
        have R4 := R2.after R3 S3
        exact h cls d G3 ka3 H3 s R4 ((S12.trans S3.call).less fun a z => .inl z) D3
end

/-! ### raise C(e, ..) -/
/-- what an own __init__(self, ..): self.f = .. does -/
def initSp (C : Addr) (ns : List Str) : Sp := fun vs H Q _ => vs.length = ns.length + 1 ∧ ∃ a ws, vs = .ref a :: ws ∧ H a = some (exo a C none) ∧ ∀ d, H d = none → d ≠ a → Q .non (upd (upd H d (exd d (ns.zip ws).reverse)) a (exo a C (some d)))
def mRaise (x : Str) (ns : List Str) (ms : M (List RV)) : M Fl := ms.bd fun qs e => match fzs e qs with
  | some (ts, e1) => if ts.length = ns.length then .ex x (ns.zip ts).reverse e1 else .st
  | none => .st
section
variable {X : Cx} {W : WX} {k : Nat} {C fI : Addr} {fd : FuncData} {ps : List Str} {x : Str} {ns : List Str} {p pos rpos : Pos} {e : Expr} {es : List Expr} {ms : M (List RV)}
theorem map_zip_fst {α β : Type} : ∀ {as : List α} {bs : List β}, as.length = bs.length → (as.zip bs).map (·.1) = as
  | [], [], _ => rfl
  | a :: as, b :: bs, h => by simp [map_zip_fst (as := as) (bs := bs) (by simpa using h)]
theorem map_zip_snd {α β : Type} : ∀ {as : List α} {bs : List β}, as.length = bs.length → (as.zip bs).map (·.2) = bs
  | [], [], _ => rfl
  | a :: as, b :: bs, h => by simp [map_zip_snd (as := as) (bs := bs) (by simpa using h)]
theorem js_raise (T : OexC X.K C) (iC : PySem.W.findIn X.K (.ref C) "__init__" = some (some (.ref fI))) (tI : PySem.W.typeIn X.K (.ref fI) = some (.type "function"))
    (F1 : FnOk X.prog X.w X.K X.mg X.base (L2.CX X.prog X.w) k fI fd ps (initSp C ns)) (hc : X.calm = true) (hr : Room (k + 1) X.A) (hb : Binds X.K fd ps []) (hg : Gl X x) (hm : X.mg x = some (.ref C)) (tk : Takes X W) (hns : ns.length ≤ 900) (ha : JA X W (e :: es) ms)
    (hdb : (x == ("__debug__" : Str)) = false := by decide) (he : starEach (e :: es) X.env = (false, eval e X.env) :: starEach es X.env := by rfl) (hpl : (backTo pos (starEach es X.env)).any (·.1) = false := by rfl) :
    JS X W (.Raise (some (.Call (.Name x p) (e :: es) [] pos)) none rpos) (mRaise x ns ms) := by
  obtain ⟨ta, pa, qa⟩ := ha.ex
  refine ⟨_, ps_raise hc tk (pmk_oex T iC tI F1 hr hb .nil passL hg hm pa hdb he hpl), fun ka G H s E D R h => ?_⟩
  refine qa ka G H s E _ R ?_
  unfold mRaise M.bd at h
  cases hm2 : ms E with
  | st => rw [hm2] at h; exact h.elim
  | ex c fs e1 => rw [hm2] at h; exact h
  | ok qs E1 =>
    rw [hm2] at h
    dsimp only at h
    intro vs G1 ka1 H1 R1 S1 D1
    cases hz : fzs E1 qs with
    | none => rw [hz] at h; exact h.elim
    | some z =>
      obtain ⟨ts, E2⟩ := z
      rw [hz] at h
      dsimp only at h
      obtain ⟨G2, R2, d2, S2, c2⟩ := Rel.fzs R1 D1 hz
      by_cases hl : ts.length = ns.length
      case neg => rw [if_neg hl] at h; exact h.elim
      rw [if_pos hl] at h
      have hvl : vs.length = ns.length := d2.length.trans hl
      refine ⟨by omega, fun a hna => ⟨by simp [hvl], a, vs, by simp, upd_same, fun d hd hda => ⟨rfl, d, (ns.zip vs).reverse, upd_same, ?_, ?_, ?_⟩⟩⟩
      · rw [upd_ne hda, upd_same]
      · rw [upd_ne hda] at hd; exact hd
      · have hd1 : H1 d = none := by rw [upd_ne hda] at hd; exact hd
        have eH : upd (del (upd (upd (upd H1 a (exo a C none)) d (exd d (ns.zip vs).reverse)) a (exo a C (some d))) a) d (HO.xd (ns.zip vs).reverse) = upd H1 d (HO.xd (ns.zip vs).reverse) := by
          funext b
          by_cases z : b = d
          · subst z; rw [upd_same, upd_same]
          · rw [upd_ne z, upd_ne z]
            by_cases y : b = a
            · subst y; rw [del_same, hna]
            · rw [del_ne y, upd_ne y, upd_ne z, upd_ne y]
        rw [eH]
        have R3 := R2.newG (o := HO.xd (ns.zip vs).reverse) hd1
        refine h (.ref C) (some d) _ ka1 _ s R3 ((S1.trans S2).trans (Stp.newG R2.sub hd1)) ⟨C, rfl, hm, .inr ⟨d, _, rfl, upd_same, ?_, ?_⟩⟩
        · rw [List.map_reverse, List.map_reverse, map_zip_fst hvl.symm, map_zip_fst hl.symm]
        · rw [List.map_reverse, List.map_reverse, map_zip_snd hvl.symm, map_zip_snd hl.symm]
          exact (d2.mono (GLe.newG (R2.gfresh hd1)) KLe.refl).reverse
end
end PL
-- PL18
/-! The pure layer 18: try with its clauses. -/
namespace PL
open PySem PySem.Spec PyProof.Rows L2 PySem.SeqAt PySem.W

/-! ### clauses, with and without a name -/
abbrev HdR := Value × Option Nat × (Addr → Value → Option Addr → TS)
abbrev outD (i : Nat) (D : Ends) : Ends := { nx := fun σ' H' => D.nx (σ'.set i none) H', rt := D.rt, bk := fun σ' H' => D.bk (σ'.set i none) H', ct := fun σ' H' => D.ct (σ'.set i none) H' }
def wAll (K : PySem.W.Frag) (Wout : WX) (D : Ends) : List HdR → WX
  | [] => Wout
  | (c, none, ts) :: r => fun cls d σ H => ∃ b, PySem.W.exmOne K cls c = some b ∧ (b = true → ∀ a, H a = none → ts a cls d D σ H) ∧ (b = false → wAll K Wout D r cls d σ H)
  | (c, some i, ts) :: r => fun cls d σ H => ∃ b, PySem.W.exmOne K cls c = some b ∧ (b = true → ∀ a, H a = none → ts a cls d (outD i D) (σ.set i (some (.ref a))) H) ∧ (b = false → wAll K Wout D r cls d σ H)
inductive HdsA (X : Cx) : List ExceptHandler → List HdR → Prop
  | nil : HdsA X [] []
  | bare {x : Str} {c : Value} {ts : Addr → Value → Option Addr → TS} {b₀ : Stmt} {suite : List Stmt} {np pos' : Pos} {hds : List ExceptHandler} {l : List HdR} (hc : Names X x c)
      (hsu : ∀ (a : Addr) (oe : Obj) (cls : Value) (d : Option Addr) (pn : List (Addr × Obj)), Zc cls d oe → (∃ vs, oe.data = .fields vs) → PSs (X.suite a ((a, oe) :: pn)) (b₀ :: suite) (ts a cls d)) (r : HdsA X hds l) :
      HdsA X (.ExceptHandler (some (.Name x np)) none (b₀ :: suite) pos' :: hds) ((c, none, ts) :: l)
  | named {x n : Str} {i : Nat} {c : Value} {ts : Addr → Value → Option Addr → TS} {b₀ : Stmt} {suite : List Stmt} {np pos' : Pos} {hds : List ExceptHandler} {l : List HdR} (hc : Names X x c) (hi : X.N[i]? = some n) (hln : X.env.kindOf n = some .local)
      (hsu : ∀ (a : Addr) (oe : Obj) (cls : Value) (d : Option Addr) (pn : List (Addr × Obj)), Zc cls d oe → (∃ vs, oe.data = .fields vs) → PSs (X.suite a ((a, oe) :: pn)) (b₀ :: suite) (ts a cls d)) (r : HdsA X hds l) :
      HdsA X (.ExceptHandler (some (.Name x np)) (some n) (b₀ :: suite) pos' :: hds) ((c, some i, ts) :: l)
section
variable {X : Cx} {body : List Stmt} {h₀ : ExceptHandler} {hds : List ExceptHandler} {l : List HdR} {pos : Pos} {tb : WX → TS} {Wout : WX}
theorem ps_try_all (hs : X.stack = X.env :: X.outer) (hf : X.env.frame = some X.env.locals) (hN : X.N.Nodup) (tk : Takes X Wout)
    (hb : ∀ (W : WX) (pn : List (Addr × Obj)) (xe : Value → Shared → Prop), Takes (X.tr pn xe) W → PassesOwn (model X.prog X.w) X.A X.env xe → PSs (X.tr pn xe) body (tb W))
    (hh : HdsA X (h₀ :: hds) l) : PS X (.Try body (h₀ :: hds) [] [] pos) (fun D σ H => tb (wAll X.K Wout D l) D σ H) := by
  refine ⟨fun pins s σ H D I h => ?_⟩
  have ok := I.ok
  have hfr : X.A.frames = some (X.env :: X.outer) := by rw [ok.frames, hs]
  refine wpAny_Try_except ?_
  refine wpAny_mono ((hb (wAll X.K Wout D l) (X.pn ++ pins) (fun e s₁ => wpAny (model X.prog X.w) X.A (noteFrame e X.env) (fun _ s₂ => wpAny (model X.prog X.w) X.A (setFlight e none) (fun _ s₃ =>
    wpAny (model X.prog X.w) X.A (handleBy e X.env (h₀ :: hds)) (SP X pins D) X.xe s₃) X.xe s₂) X.xe s₁) (fun u s' xx => ?_) PassesOwn.looking).run [] s σ H D (I.toTry _) h) (fun f s1 hsp => ?_) (fun e s1 he => he)
  · obtain ⟨a, B, sI, pins', σ', H', cls, d, rfl, J', nb, up, sky, na, os, ag, w⟩ := xx
    have J : Inv X pins σ' H' sI := J'.ofTry ok
    have sky' : Sky B (X.env :: X.outer) a (Zc cls d) X.env.locals s'.heap := by rw [← hs]; exact sky
    show wpAny (model X.prog X.w) X.A (noteFrame (.ref a) X.env) _ _ _
    refine Sky.land Zc.steady hfr hf sky' fun h3 fl3 up3 => ?_
    have J3 : Inv X pins σ' H' { s' with heap := h3 } := J.landed nb fl3.1 (up.trans up3) os ag
    obtain ⟨oe3, vs3, he3, hz3, hd3⟩ := fl3.there
    have notFr : ∀ {h : Heap} {o : Obj} {vs : Array Value}, h.FunFrames B (X.env :: X.outer) → h.get? a = some o → o.data = .fields vs → a ∉ frs (X.env :: X.outer) := fun {h o vs} ff e dd hm => by
      obtain ⟨_, o', e', hnf⟩ := ff.mem hm
      rw [e] at e'; cases e'
      exact hnf _ dd
    have nfr := notFr fl3.2.2.1 he3 hd3
    have nL : a ≠ X.env.locals := fun z => nfr (List.mem_filterMap.mpr ⟨X.env, List.mem_cons_self, by rw [hf, z]⟩)
    have nF : a ∉ X.fs := fun hm => by
      obtain ⟨e, he, q⟩ := List.mem_filterMap.mp hm
      exact nfr (List.mem_filterMap.mpr ⟨e, List.mem_cons_of_mem _ he, q⟩)
    have S3 := J3.suite he3 hd3 na nL nF
    have go : ∀ {hds' : List ExceptHandler} {l' : List HdR}, HdsA X hds' l' → wAll X.K Wout D l' cls d σ' H' →
        wpAny (model X.prog X.w) X.A (handleBy (.ref a) X.env hds') (SP X pins D) X.xe { s' with heap := h3 } := by
      intro hds' l' hk
      have test : ∀ {x : Str} {c : Value} {np : Pos} {Q : Value → Shared → Prop} {E : Value → Shared → Prop}, Names X x c → Q c { s' with heap := h3 } → wpAny (model X.prog X.w) (X.A.mark (some (.ref a))) (eval (.Name x np) X.env) Q E { s' with heap := h3 } := fun {x c np Q E} hc q => by
        obtain ⟨hg, hdbg, hm | ⟨hm, hv, hnn⟩⟩ := hc
        · exact ld_glob (X := X.suite a ((a, oe3) :: (X.pn ++ pins))) S3 hg hm q hdbg
        · exact ld_blt (X := X.suite a ((a, oe3) :: (X.pn ++ pins))) S3 hg hm hv q hnn hdbg
      induction hk with
      | nil =>
        intro w
        refine wpAny_handleBy_nil ?_
        obtain ⟨k1, k2, k3, oe, vs, T, oT, ts', he, hz, hd, h1, hr⟩ := id fl3
        unfold PySem.passOn
        refine wpAny_bind (wpAny_field he hd h1 ?_)
        rw [if_neg (show ¬ ((Value.ref T == Value.none) = true) from by simp)]
        have fin : wpAny (model X.prog X.w) X.A (setFlight (.ref a) X.env.frame) (fun _ s4 => wpAny (model X.prog X.w) X.A (throw (.ref a) : Sem Flow) (SP X pins D) X.xe s4) X.xe { s' with heap := h3 } := by
          rw [hf]
          refine HandSPX.setFlight_upZ fl3 fun h4 hh4 up4 => wpAny_throw (tk _ _ ?_)
          exact ⟨a, B, sI, pins, σ', H', cls, d, rfl, J, nb, (up.trans up3).trans up4, .inr (.inr (by rw [hs]; exact hh4)), na, os, ag, w⟩
        first
          | exact wpAny_bind (wpAny_pure (wpAny_bind fin))
          | exact wpAny_bind fin
      | @bare x c ts b₀ suite np pos' hds2 l2 hc hsu r ih =>
        intro w
        obtain ⟨b, hb1, hyes, hno⟩ := w
        refine wpAny_handleBy_cons (codeAny_handlers_test ?_) (by intro q; cases q)
        have LT : PySem.W.Looks (model X.prog X.w) h3 (typeOf (.ref a)) cls := fun A Q E s k q => wpAny_typeOf_ref (k _ _ he3) (by rw [hz3.1]; exact q)
        have LM := PySem.W.exm_one (M := model X.prog X.w) (J3.kIn) LT hb1
        refine test hc (LM.here ?_)
        cases b with
        | true =>
          refine codeAny_handlers_suite ?_
          refine HandSPX.lands_againZ fl3 fun h4 fl4 up4 => ?_
          have J4 : Inv X pins σ' H' { s' with heap := h4 } := J.landed nb fl4.1 ((up.trans up3).trans up4) os ag
          obtain ⟨oe4, vs4, he4, hz4, hd4⟩ := fl4.there
          have S4 := J4.suite he4 hd4 na nL nF
          refine wpAny_mono ((hsu a oe4 cls d (X.pn ++ pins) hz4 ⟨_, hd4⟩).run [] _ _ H' _ S4 (hyes rfl a na)) (fun f s6 hsp => ?_) (fun _ _ z => False.elim z)
          cases f with
          | next =>
            obtain ⟨σ6, H6, S6, q6⟩ := hsp
            exact ⟨_, _, S6.unsuite ok, q6⟩
          | brk =>
            obtain ⟨σ6, H6, S6, q6⟩ := hsp
            exact ⟨_, _, S6.unsuite ok, q6⟩
          | cont =>
            obtain ⟨σ6, H6, S6, q6⟩ := hsp
            exact ⟨_, _, S6.unsuite ok, q6⟩
          | ret u =>
            obtain ⟨v6, σ6, H6, S6, r6, q6⟩ := hsp
            exact ⟨_, _, _, S6.unsuite ok, r6, q6⟩
        | false =>
          show wpAny _ X.A (handleBy (.ref a) X.env hds2) _ _ _
          exact ih (hno rfl)
      | @named x n i c ts b₀ suite np pos' hds2 l2 hc hi hln hsu r ih =>
        intro w
        obtain ⟨b, hb1, hyes, hno⟩ := w
        have hloc : Loc X.env.scope n := .inl hln
        refine wpAny_handleBy_cons (codeAny_handlers_test ?_) (by intro q; cases q)
        have LT : PySem.W.Looks (model X.prog X.w) h3 (typeOf (.ref a)) cls := fun A Q E s k q => wpAny_typeOf_ref (k _ _ he3) (by rw [hz3.1]; exact q)
        have LM := PySem.W.exm_one (M := model X.prog X.w) (J3.kIn) LT hb1
        refine test hc (LM.here ?_)
        cases b with
        | true =>
          refine codeAny_handlers_suite_as ?_
          refine HandSPX.lands_againZ fl3 fun h4 fl4 up4 => ?_
          have J4 : Inv X pins σ' H' { s' with heap := h4 } := J.landed nb fl4.1 ((up.trans up3).trans up4) os ag
          obtain ⟨oe4, vs4, he4, hz4, hd4⟩ := fl4.there
          have S4 := J4.suite he4 hd4 na nL nF
          refine store_ok (X := X.suite a ((a, oe4) :: (X.pn ++ pins))) (v := .ref a) S4 hN hi hloc rfl (fun s5 S5 => ?_) (.inr hln)
          refine wpAny_mono ((hsu a oe4 cls d (X.pn ++ pins) hz4 ⟨_, hd4⟩).run [] s5 _ H' _ S5 (hyes rfl a na)) (fun f s6 hsp => ?_) (fun _ _ z => False.elim z)
          have end_ : ∀ {σ6 : L2.St} {H6 : Hp} {Q : Shared → Prop}, Inv (X.suite a ((a, oe4) :: (X.pn ++ pins))) [] σ6 H6 s6 → (∀ s7, Inv X pins (σ6.set i none) H6 s7 → Q s7) →
              wpAny (model X.prog X.w) X.A (do bindName X.env n .none; unbindBehindTheSuite X.env n pos') (fun _ s7 => Q s7) X.xe s6 := fun {σ6 H6 Q} S6 hq => gone_ok (S6.unsuite ok) hN hi hln hq
          cases f with
          | next =>
            obtain ⟨σ6, H6, S6, q6⟩ := hsp
            exact end_ S6 fun s7 J7 => ⟨_, _, J7, q6⟩
          | brk =>
            obtain ⟨σ6, H6, S6, q6⟩ := hsp
            exact end_ S6 fun s7 J7 => ⟨_, _, J7, q6⟩
          | cont =>
            obtain ⟨σ6, H6, S6, q6⟩ := hsp
            exact end_ S6 fun s7 J7 => ⟨_, _, J7, q6⟩
          | ret u =>
            obtain ⟨v6, σ6, H6, S6, r6, q6⟩ := hsp
            exact end_ S6 fun s7 J7 => ⟨_, _, _, J7, r6, q6⟩
        | false =>
          show wpAny _ X.A (handleBy (.ref a) X.env hds2) _ _ _
          exact ih (hno rfl)
    exact go hh w
  · cases f with
    | next =>
      obtain ⟨σ', H', J', q⟩ := hsp
      exact wpAny_execs_nil ⟨σ', H', J'.ofTry ok, q⟩
    | brk =>
      obtain ⟨σ', H', J', q⟩ := hsp
      exact ⟨σ', H', J'.ofTry ok, q⟩
    | cont =>
      obtain ⟨σ', H', J', q⟩ := hsp
      exact ⟨σ', H', J'.ofTry ok, q⟩
    | ret u =>
      obtain ⟨v, σ', H', J', r, q⟩ := hsp
      exact ⟨v, σ', H', J'.ofTry ok, r, q⟩
end
/-! ### its pure function -/
/-- a statement's reading by the pure function alone -/
def tSs (X : Cx) (W : WX) (m : M Fl) : TS := fun D s H => ∃ ka G E, Rel X.K X.mg ka G H s E ∧ SPo X W ka G H (Own s E.r) (m E) D
theorem JSs.ps {X : Cx} {W : WX} {sts : List Stmt} {m : M Fl} (h : JSs X W sts m) : PSs X sts (tSs X W m) := by
  obtain ⟨t, p, q⟩ := h.ex
  exact ⟨fun pins s σ H D I ⟨ka, G, E, R, h⟩ => p.run pins s σ H D I (q ka G H σ E D R h)⟩
/-- one clause: does it take the class, the slot of its name, its suite by the exception's place and its dict's -/
structure HdM where
  sub : Str → Option Bool
  sl : Option Nat
  ms : Addr → Addr → Str → M Fl
/-- the name of the clause goes -/
def endX (i : Nat) : Res Fl → Res Fl
  | .ok .nx e => .ok .nx ⟨e.r.set i .un, e.c⟩
  | .ok .br e => .ok .br ⟨e.r.set i .un, e.c⟩
  | .ok .ct e => .ok .ct ⟨e.r.set i .un, e.c⟩
  | .ok (.rt q) e => match tk e q with
    | some (p, e1) => .ok (.rt p) ⟨e1.r.set i .un, e1.c⟩
    | none => .st
  | .ex _ _ _ => .st
  | .st => .st
/-- the same whatever the places are -/
noncomputable def anyA (f : Addr → Addr → Res Fl) : Res Fl := @ite _ (∀ a d, f a d = f 0 0) (Classical.propDecidable _) (f 0 0) .st
theorem anyA_of {f : Addr → Addr → Res Fl} {r : Res Fl} (h : ∀ a d, f a d = r) : anyA f = r := by
  unfold anyA
  rw [if_pos fun a d => (h a d).trans (h 0 0).symm]
  exact h 0 0
noncomputable def hGo : List HdM → Str → List (Str × T) → M Fl
  | [], c, fs => fun e => .ex c fs e
  | h :: hs, c, fs => fun e => match h.sub c with
    | none => .st
    | some false => hGo hs c fs e
    | some true => match h.sl with
      | none => match h.ms 0 0 c e with
        | .ex _ _ _ => .st
        | r => r
      | some i => match fs with
        | [] => .st
        | f :: fs => anyA fun a d => endX i (h.ms a d c ⟨e.r.set i (.va (.xcv a d c ((f :: fs).map (·.1)) ((f :: fs).map (·.2)))), e.c⟩)
noncomputable def mTry (m : M Fl) (hs : List HdM) : M Fl := fun e => match m e with
  | .ex c fs e1 => hGo hs c fs e1
  | r => r
/-- a clause of the text, by its pure form -/
structure JHd (X : Cx) (h : ExceptHandler) (c : Value) (m : HdM) : Prop where
  sub : ∀ x b, m.sub x = some b → ∀ C, X.mg x = some (.ref C) → PySem.W.exmOne X.K (.ref C) c = some b
  form : ∃ x np b₀ suite pos', Names X x c ∧ ((m.sl = none ∧ h = .ExceptHandler (some (.Name x np)) none (b₀ :: suite) pos' ∧ (∀ a d y, m.ms a d y = m.ms 0 0 y)) ∨ ∃ i n, m.sl = some i ∧ X.N[i]? = some n ∧ X.env.kindOf n = some .local ∧ h = .ExceptHandler (some (.Name x np)) (some n) (b₀ :: suite) pos') ∧
    ∀ (a : Addr) (oe : Obj) (y : Str) (C : Addr) (d : Option Addr) (dd : Addr) (pn : List (Addr × Obj)), m.sub y = some true → X.mg y = some (.ref C) → (m.sl ≠ none → d = some dd) → Zc (.ref C) d oe → (∃ vs, oe.data = .fields vs) → JSs (X.suite a ((a, oe) :: pn)) W0 (b₀ :: suite) (m.ms a dd y)
inductive JHds (X : Cx) : List ExceptHandler → List HdM → Prop
  | nil : JHds X [] []
  | cons {h : ExceptHandler} {c : Value} {m : HdM} {hs : List ExceptHandler} {ms : List HdM} : JHd X h c m → JHds X hs ms → JHds X (h :: hs) (m :: ms)
section
variable {X : Cx} {W : WX} {ka ka' : List Addr} {G G' H H' : Hp} {O O' : Addr → Prop} {D : Ends} {i : Nat} {r : Res Fl}
/-- no exception: the wish about exceptions plays no part -/
theorem spo_w0 (h : SPo X W ka G H O (match r with
    | .ex _ _ _ => .st
    | r => r) D) : SPo X W0 ka G H O r D := by
  rcases r with _ | ⟨f, e⟩ | ⟨c, fs, e⟩
  · exact h
  · cases f <;> exact h
  · exact h.elim
theorem spo_endX (h : SPo X W ka G H O (endX i r) D) : SPo X W0 ka G H O r (outD i D) := by
  have one : ∀ {e : Ev} {N : L2.St → Hp → Prop}, NPo X ka G H O ⟨e.r.set i .un, e.c⟩ N → NPo X ka G H O e (fun σ' H' => N (σ'.set i none) H') := fun {e N} h s2 G2 ka2 H2 R2 S2 =>
    h (s2.set i none) G2 ka2 H2 (R2.unset (i := i) (w := none)) (S2.less fun a x => own_unset x)
  rcases r with _ | ⟨f, e⟩ | ⟨c, fs, e⟩
  · exact h
  · cases f with
    | nx => exact one h
    | br => exact one h
    | ct => exact one h
    | rt q =>
      intro v s2 G2 ka2 H2 R2 S2 D2
      unfold endX at h
      dsimp only at h
      cases ht : tk e q with
      | none => rw [ht] at h; exact h.elim
      | some z =>
        obtain ⟨p, e1⟩ := z
        rw [ht] at h
        dsimp only at h
        obtain ⟨R3, d3, b3, o3, w3⟩ := R2.tk D2 ht
        refine h v (s2.set i none) G2 ka2 H2 (R3.unset (i := i) (w := none)) (S2.less fun a x => ?_) ?_
        · rcases x with x | x
          · exact .inl (o3 a (own_unset x))
          · exact w3 a x
        · cases p with
          | br j => exact b3.elim
          | va t => exact d3
          | ow t =>
            obtain ⟨a, rfl, d, h1, h2, h3⟩ := d3
            exact ⟨a, rfl, d, h1, h2, fun x => h3 (own_unset x)⟩
  · exact h.elim
theorem hds_of {hds : List ExceptHandler} {ms : List HdM} (h : JHds X hds ms) : ∃ l, HdsA X hds l ∧ ∀ W ka G H O c fs e1 D, SPo X W ka G H O (hGo ms c fs e1) D → XPo X (wAll X.K W D l) ka G H O c fs e1 := by
  induction h with
  | nil =>
    refine ⟨[], .nil, fun W ka G H O c fs e1 D h => ?_⟩
    rw [hGo] at h
    exact h
  | @cons h c m hs ms jh _ ih =>
    obtain ⟨l, hl, ihw⟩ := ih
    obtain ⟨x, np, b₀, suite, pos', hnm, hform, hjs⟩ := jh.form
    let ts : Addr → Value → Option Addr → TS := fun a cls d D s H => ∃ y C dd, cls = .ref C ∧ m.sub y = some true ∧ X.mg y = some (.ref C) ∧ (m.sl ≠ none → d = some dd) ∧ tSs X W0 (m.ms a dd y) D s H
    have hts : ∀ (a : Addr) (oe : Obj) (cls : Value) (d : Option Addr) (pn : List (Addr × Obj)), Zc cls d oe → (∃ vs, oe.data = .fields vs) → PSs (X.suite a ((a, oe) :: pn)) (b₀ :: suite) (ts a cls d) := fun a oe cls d pn hz hv =>
      ⟨fun pins s σ H D I ⟨y, C, dd, hc, hsy, hy, hd, q⟩ => by
        subst hc
        exact (hjs a oe y C d dd pn hsy hy hd hz hv).ps.run pins s σ H D I q⟩
    have sub := jh.sub
    rcases hform with ⟨hsl, rfl, hsame⟩ | ⟨i, n, hsl, hi, hln, rfl⟩
    · refine ⟨(c, none, ts) :: l, .bare hnm hts hl, fun W ka G H O y fs e1 D h cls d G' ka' H' s' R S dx => ?_⟩
      rw [hGo] at h
      dsimp only at h
      obtain ⟨C, rfl, hy, _⟩ := id dx
      cases hq : m.sub y with
      | none => rw [hq] at h; exact h.elim
      | some b =>
        rw [hq] at h
        refine ⟨b, sub y b hq C hy, fun z a na => ?_, fun z => ?_⟩
        · subst z
          dsimp only at h
          rw [hsl] at h
          dsimp only at h
          refine ⟨y, C, 0, rfl, hq, hy, fun z => absurd hsl z, ka', G', e1, R, ?_⟩
          rw [hsame a 0 y]
          exact spo_w0 (SPo.later S h)
        · subst z
          exact ihw W ka G H O y fs e1 D h _ d G' ka' H' s' R S dx
    · refine ⟨(c, some i, ts) :: l, .named hnm hi hln hts hl, fun W ka G H O y fs e1 D h cls d G' ka' H' s' R S dx => ?_⟩
      rw [hGo] at h
      dsimp only at h
      obtain ⟨C, rfl, hy, hfs⟩ := id dx
      cases hq : m.sub y with
      | none => rw [hq] at h; exact h.elim
      | some b =>
        rw [hq] at h
        refine ⟨b, sub y b hq C hy, fun z a na => ?_, fun z => ?_⟩
        · subst z
          dsimp only at h
          rw [hsl] at h
          dsimp only at h
          cases fs with
          | nil => exact h.elim
          | cons f fs =>
            rcases hfs with z | ⟨dd, xs, rfl, hG, hx1, hx2⟩
            · cases z
            · dsimp only at h
              unfold anyA at h
              split at h
              · rename_i hall
                rw [← hall a dd] at h
                have de : Den X.K X.mg ka' G' (.ref a) (.xcv a dd y ((f :: fs).map (·.1)) ((f :: fs).map (·.2))) := by
                  rw [← hx1]
                  exact .xcv hG hx2
                refine ⟨y, C, dd, rfl, hq, hy, fun _ => rfl, ka', G', _, R.setV (i := i) de, ?_⟩
                exact spo_endX (SPo.later (S.less fun b x => own_setV x) h)
              · exact h.elim
        · subst z
          exact ihw W ka G H O y fs e1 D h _ d G' ka' H' s' R S dx
theorem js_try {body : List Stmt} {h₀ : ExceptHandler} {hds : List ExceptHandler} {m : M Fl} {ms : List HdM} {pos : Pos} (hs : X.stack = X.env :: X.outer) (hf : X.env.frame = some X.env.locals) (hN : X.N.Nodup) (tk : Takes X W)
    (hb : ∀ (W : WX) (pn : List (Addr × Obj)) (xe : Value → Shared → Prop), Takes (X.tr pn xe) W → PassesOwn (model X.prog X.w) X.A X.env xe → JSs (X.tr pn xe) W body m)
    (hh : JHds X (h₀ :: hds) ms) : JS X W (.Try body (h₀ :: hds) [] [] pos) (mTry m ms) := by
  obtain ⟨l, hl, hw⟩ := hds_of hh
  refine ⟨_, ps_try_all (tb := fun W => tSs X W m) (Wout := W) hs hf hN tk (fun W pn xe tk pa => (hb W pn xe tk pa).ps) hl, fun ka G H s E D R h => ⟨ka, G, E, R, ?_⟩⟩
  unfold mTry at h
  rcases hm : m E with _ | ⟨f, e⟩ | ⟨c, fs, e⟩
  · rw [hm] at h; exact h
  · rw [hm] at h
    cases f <;> exact h
  · rw [hm] at h
    exact hw W ka G H _ c fs e D h
end

/-! ### the fields of what a clause has caught -/
def mXf (a0 dd0 : Addr) (c0 : Str) (i : Nat) (n : Str) : M RV := fun e => match e.r[i]? with
  | some (.va (.xcv a dd c ns ts)) => if a = a0 ∧ dd = dd0 ∧ c = c0 then (match (ns.zip ts).lookup n with
    | some t => .ok (.va t) e
    | none => .st) else .st
  | _ => .st
theorem lookup_dens {K : PySem.W.Frag} {mg : Str → Option Value} {ka : List Addr} {G : Hp} {n : Str} : ∀ {xs : List (Str × V)} {ts : List T} {t : T}, Dens K mg ka G (xs.map (·.2)) ts → ((xs.map (·.1)).zip ts).lookup n = some t → ∃ v, xs.lookup n = some v ∧ Den K mg ka G v t
  | [], ts, t, d, h => by cases h
  | (m, v) :: xs, [], t, d, h => by cases d
  | (m, v) :: xs, u :: ts, t, d, h => by
    cases d with
    | cons d ds =>
      rw [List.map_cons, List.zip_cons_cons, List.lookup_cons] at h
      rw [List.lookup_cons]
      dsimp only at h ⊢
      cases hq : (n == m) with
      | true =>
        rw [hq] at h
        cases h
        exact ⟨v, rfl, d⟩
      | false =>
        rw [hq] at h
        exact lookup_dens ds h
theorem je_xf {X : Cx} {W : WX} {a C dd : Addr} {oe : Obj} {pn : List (Addr × Obj)} {i : Nat} {x n y : Str} {pos p : Pos} (T : XfC X.K C) (hno : PySem.W.findIn X.K (.ref C) n = some none) (hz : Zc (.ref C) (some dd) oe) (hf : ∃ vs, oe.data = .fields vs)
    (hN : X.N[i]? = some x) (hv : Vis X.env.scope x) (hd : (x == ("__debug__" : Str)) = false := by decide) (hcd : (x == ("__classdict__" : Str)) = false := by decide) :
    JE (X.suite a ((a, oe) :: pn)) W (.Attribute (.Name x p) n pos) (mXf a dd y i n) := by
  have hb : attributeBase (.Name x p) n (X.suite a ((a, oe) :: pn)).env (eval (.Name x p) (X.suite a ((a, oe) :: pn)).env) = eval (.Name x p) (X.suite a ((a, oe) :: pn)).env := by rfl
  refine ⟨_, pe_xf T hno hz hf (pe_var (X := X.suite a ((a, oe) :: pn)) (i := i) hN hv hd hcd) hb, fun ka G H s E Q R h => ?_⟩
  unfold mXf at h
  cases q : E.r[i]? with
  | none => rw [q] at h; exact h.elim
  | some l =>
    rw [q] at h
    cases l with
    | va t =>
      cases t with
      | xcv a' dd' c' ns ts =>
        dsimp only at h
        by_cases hc : a' = a ∧ dd' = dd ∧ c' = y
        · rw [if_pos hc] at h
          obtain ⟨rfl, rfl, rfl⟩ := hc
          cases hl : (ns.zip ts).lookup n with
          | none => rw [hl] at h; exact h.elim
          | some t =>
            rw [hl] at h
            obtain ⟨v, ev, d⟩ := R.va i _ q
            cases d with
            | xcv hG hd =>
              obtain ⟨w, hw, dw⟩ := lookup_dens hd hl
              exact ⟨_, ev, rfl, rfl, _, _, w, rfl, R.sub _ _ hG, hw, h w G ka H R (Stp.refl.less fun a x => x.elim id fun ⟨_, z, _⟩ => by cases z) dw⟩
        · rw [if_neg hc] at h; exact h.elim
      | _ => exact h.elim
    | _ => exact h.elim
end PL
-- PL19
/-! The pure layer 19: an own exception's __init__. -/
namespace PL
open PySem PySem.Spec PyProof.Rows L2 PySem.SeqAt PySem.W

/-- self.f = x, x the parameter at i -/
structure IA where
  f : Str
  x : Str
  i : Nat
  q0 : Pos
  q1 : Pos
  q2 : Pos
  q3 : Pos
def IA.st (q : IA) : Stmt := .Assign [.Attribute (.Name "self" q.q0) q.f q.q1] (.Name q.x q.q2) q.q3
def IA.ok (N : List Str) (q : IA) : Bool := decide (N[q.i]? = some q.x) && !(q.x == ("__debug__" : Str)) && !(q.x == ("__classdict__" : Str)) && decide (q.i ≠ 0)
def hst (H : Hp) (a C d : Addr) (acc : List (Str × V)) : Hp := upd (upd H d (exd d acc)) a (exo a C (some d))
theorem hst_put {H : Hp} {a C d : Addr} {acc : List (Str × V)} {p : Str × V} (h : d ≠ a) : upd (hst H a C d acc) d (exd d (p :: acc)) = hst H a C d (p :: acc) := by
  funext b
  unfold hst
  by_cases z : b = d
  · subst z
    rw [upd_same, upd_ne h, upd_same]
  · rw [upd_ne z]
    by_cases y : b = a
    · subst y; rw [upd_same, upd_same]
    · rw [upd_ne y, upd_ne y, upd_ne z, upd_ne z]
inductive At (σ : L2.St) : List IA → List V → Prop
  | nil : At σ [] []
  | cons {q : IA} {w : V} {l : List IA} {ws : List V} : σ[q.i]? = some (some w) → At σ l ws → At σ (q :: l) (w :: ws)
section
variable {X : Cx} {C : Addr}
theorem ps_ia (q : IA) (h : q.ok X.N = true) (h0 : X.N[0]? = some (Str.ofString "self")) (hv : Vis X.env.scope q.x) (hs : Vis X.env.scope "self") : PS X q.st (tOst X.K q.f (tVar 0) (tVar q.i)) := by
  unfold IA.ok at h
  simp only [Bool.and_eq_true, decide_eq_true_eq, Bool.not_eq_true'] at h
  obtain ⟨⟨⟨h1, h2⟩, h3⟩, _⟩ := h
  exact ps_ost (pe_var h0 hs (by decide) (by decide)) (pe_var h1 hv h2 h3)
theorem ia_rest (T : OexC X.K C) (h0 : X.N[0]? = some (Str.ofString "self")) (hs : Vis X.env.scope "self") : ∀ l : List IA, (∀ q ∈ l, q.ok X.N = true ∧ Vis X.env.scope q.x ∧ PySem.W.findIn X.K (.ref C) q.f = some none) →
    ∃ t, PSs X (l.map IA.st) t ∧ ∀ (D : Ends) σ H a d acc ws, d ≠ a → σ[0]? = some (some (.ref a)) → At σ l ws → acc.length + l.length ≤ 900 → D.nx σ (hst H a C d (((l.map IA.f).zip ws).reverse ++ acc)) → t D σ (hst H a C d acc)
  | [], _ => ⟨_, pss_nil, fun D σ H a d acc ws hd h1 h2 h3 h4 => by
      cases h2
      exact h4⟩
  | q :: l, hl => by
    obtain ⟨t, p, r⟩ := ia_rest T h0 hs l fun q hq => hl q (List.mem_cons_of_mem _ hq)
    obtain ⟨g1, g2, g3⟩ := hl q List.mem_cons_self
    refine ⟨_, pss_cons (ps_ia q g1 h0 g2 hs) p, fun D σ H a d acc ws hd h1 h2 h3 h4 => ?_⟩
    cases h2 with
    | @cons _ w _ ws hw hr =>
      rw [List.length_cons] at h3
      refine ⟨w, hw, _, h1, a, C, rfl, T, g3, .inr ⟨d, acc, upd_same, ?_, by omega, ?_⟩⟩
      · unfold hst
        rw [upd_ne hd, upd_same]
      · rw [hst_put hd]
        refine r D σ H a d ((q.f, w) :: acc) ws hd h1 hr (by rw [List.length_cons]; omega) ?_
        rw [List.map_cons, List.zip_cons_cons, List.reverse_cons, List.append_assoc] at h4
        exact h4
end
section
variable {P : Program} {w : World} {K : PySem.W.Frag} {mg : Str → Option Value} {base : Heap} {k : Nat} {f C : Addr} {name qual : Str} {params : Arguments} {scope : Scope} {dV kV doc pm cdv ct oc : Value} {an od : Option Addr}
    {osl : Array (Option Value)} {ps : List Str}
theorem at_params {σ : L2.St} : ∀ {l : List IA} {ws : List V} {j : Nat}, (∀ (m : Nat) q, l[m]? = some q → q.i = j + m) → (∀ (m : Nat) w, ws[m]? = some w → σ[j + m]? = some (some w)) → l.length = ws.length → At σ l ws
  | [], [], j, _, _, _ => .nil
  | q :: l, w :: ws, j, h1, h2, h3 => by
    refine .cons ?_ (at_params (j := j + 1) (fun m q hq => ?_) (fun m w hw => ?_) (by simpa using h3))
    · rw [h1 0 q rfl]
      exact h2 0 w rfl
    · have := h1 (m + 1) q (by simpa using hq)
      omega
    · have := h2 (m + 1) w (by simpa using hw)
      rw [show j + 1 + m = j + (m + 1) from by omega]
      exact this
/-- the promise of an own __init__ -/
theorem fn_init (q : IA) (l : List IA) {body : List Stmt} (lk : K.lookup f = some ⟨oc, od, .func (PySem.W.fnOf name qual params body scope dV kV doc pm an cdv ct), osl⟩) (hcd : PySem.W.codeIn K cdv qual = true) (S : FnScope ps ps scope) (T : OexC K C)
    (hbody : body = (q :: l).map IA.st) (h0 : ps[0]? = some (Str.ofString "self")) (hl : (q :: l).all (fun q => q.ok ps && decide (q.x ∈ ps) && decide (PySem.W.findIn K (.ref C) q.f = some none)) = true) (hi : (q :: l).map IA.i = (List.range (q :: l).length).map (· + 1)) (hn : ps.length = (q :: l).length + 1) (hm : ps.length ≤ 900) :
    FnOk P w K mg base (L2.CX P w) (k + 1) f (PySem.W.fnOf name qual params body scope dV kV doc pm an cdv ct) ps (initSp C ((q :: l).map IA.f)) := by
  subst hbody
  refine fn_of lk hcd S (fun vs H Q E h => by rw [h.1, List.length_map, hn]) fun A outer s H vs Q E hr h => ?_
  obtain ⟨hvl, a, ws, rfl, ha, hQ⟩ := h
  simp only [List.length_cons, List.length_map] at hvl
  have hvis : ∀ x ∈ ps, Vis (cxOf (L2.CX P w) P w K mg base ps qual scope f cdv A outer s H E).env.scope x := fun x hx => (S.par x hx).imp_right .inl
  have hself : Str.ofString "self" ∈ ps := List.mem_of_getElem? h0
  have hall : ∀ p ∈ q :: l, p.ok ps = true ∧ Vis (cxOf (L2.CX P w) P w K mg base ps qual scope f cdv A outer s H E).env.scope p.x ∧ PySem.W.findIn K (.ref C) p.f = some none := fun p hp => by
    have z := List.all_eq_true.mp hl p hp
    simp only [Bool.and_eq_true, decide_eq_true_eq] at z
    exact ⟨z.1.1, hvis _ z.1.2, z.2⟩
  obtain ⟨t, p, r⟩ := ia_rest (X := cxOf (L2.CX P w) P w K mg base ps qual scope f cdv A outer s H E) T h0 (hvis _ hself) l fun p hp => hall p (List.mem_cons_of_mem _ hp)
  obtain ⟨g1, g2, g3⟩ := hall q List.mem_cons_self
  refine ⟨_, pss_cons (ps_ia (X := cxOf (L2.CX P w) P w K mg base ps qual scope f cdv A outer s H E) q g1 h0 g2 (hvis _ hself)) p, ?_⟩
  have st : L2.start ps (.ref a :: ws) = (V.ref a :: ws).map some := by
    unfold L2.start
    have : ps.length - (V.ref a :: ws).length = 0 := by rw [hn, List.length_cons, List.length_cons]; omega
    rw [this]
    simp
  rw [st]
  have hat : At ((V.ref a :: ws).map some) (q :: l) ws := at_params (j := 1) (fun m p hp => by
      have h1 : ((q :: l).map IA.i)[m]? = some p.i := by rw [List.getElem?_map, hp]; rfl
      rw [hi, List.getElem?_map] at h1
      obtain ⟨x, h2, h3⟩ := Option.map_eq_some_iff.mp h1
      have h4 := (List.getElem?_eq_some_iff.mp h2).2
      rw [List.getElem_range] at h4
      omega) (fun m w hw => by
      rw [Nat.add_comm, List.map_cons, List.getElem?_cons_succ, List.getElem?_map, hw]; rfl) (by rw [List.length_cons]; omega)
  cases hat with
  | @cons _ w0 _ ws' hw hr =>
    refine ⟨w0, hw, _, rfl, a, C, rfl, T, g3, .inl ⟨ha, fun d hd hda => ?_⟩⟩
    have e1 : upd (upd H d (exd d [(q.f, w0)])) a (exo a C (some d)) = hst H a C d [(q.f, w0)] := rfl
    rw [e1]
    refine r _ _ H a d _ ws' hda rfl hr ?_ ?_
    · rw [List.length_cons, List.length_nil]
      rw [hn, List.length_cons] at hm
      omega
    · have z := hQ d hd hda
      rw [List.map_cons, List.zip_cons_cons, List.reverse_cons] at z
      exact z
end
end PL
-- PL20
/-! The pure layer 20: the head's facts, a def of the text, the law's end. -/
namespace PL
open PySem PySem.Spec PyProof.Rows L2 PySem.SeqAt PySem.W

/-! ### own exception classes -/
def oexB (K : PySem.W.Frag) (C : Addr) : Bool := (match K.lookup C with
  | some ⟨.type t, _, .cls cd, sl⟩ => decide (t = "type") && cd.hasDict && !cd.hasDel && (match cd.mro with
    | .ref C' :: bm => decide (C' = C) && PySem.HandSPX.refsVE bm
    | _ => false) && (match sl.toList with
    | [_, _, _, _, some (.builtin n), _] => decide (n = "ValueError.__new__")
    | _ => false)
  | _ => false)
structure EI where
  x : Str
  ns : List Str
def exB (K : PySem.W.Frag) (fields : List Str) (q : EI) : Bool := decide (PySem.W.findIn K (.ref (He.ga K q.x)) "__setattr__" = some (some (.builtin "object.__setattr__"))) && decide (PySem.W.subIn K (.ref (He.ga K q.x)) (.type "BaseException") = some true) &&
  decide (PySem.W.typeIn K (.ref (He.ga K q.x)) = some (.type "type")) && PySem.W.keepIn K (.ref (He.ga K q.x)) && xfB K (He.ga K q.x) && oexB K (He.ga K q.x) && (q.ns.isEmpty || (decide (PySem.W.findIn K (.ref (He.ga K q.x)) "__init__" = some (some (.ref (He.ma K (He.ga K q.x) "__init__")))) &&
  decide (PySem.W.typeIn K (.ref (He.ma K (He.ga K q.x) "__init__")) = some (.type "function")))) && fields.all fun f => decide (PySem.W.findIn K (.ref (He.ga K q.x)) f = some none)
section
variable {K : PySem.W.Frag} {C : Addr}
theorem oexB_ok (h : oexB K C = true) : ∃ nm q N bs bm sn sub ab col dd k0 k1 k2 k3 k5, K.lookup C = some (excClassObj nm q C N bs bm true sn sub ab col dd k0 k1 k2 k3 k5 "ValueError.__new__") ∧ PySem.HandSPX.refsVE bm = true := by
  unfold oexB at h
  cases hl : K.lookup C with
  | none => rw [hl] at h; cases h
  | some o =>
    obtain ⟨oc, od, dt, osl⟩ := o
    rw [hl] at h
    cases oc with
    | type t =>
      cases dt with
      | cls cd =>
        obtain ⟨nm, bs, mro, ns, qn, hd, sn, sb, ab, col, del⟩ := cd
        simp only [Bool.and_eq_true, decide_eq_true_eq, Bool.not_eq_true'] at h
        obtain ⟨⟨⟨⟨h1, h2⟩, h3⟩, h4⟩, h5⟩ := h
        subst h1 h2 h3
        cases mro with
        | nil => cases h4
        | cons c bm =>
          cases c with
          | ref C' =>
            simp only [Bool.and_eq_true, decide_eq_true_eq] at h4
            obtain ⟨h4, h6⟩ := h4
            subst h4
            obtain ⟨sl⟩ := osl
            simp only at h5
            split at h5
            · rename_i k0 k1 k2 k3 n k5
              cases (of_decide_eq_true h5 : n = "ValueError.__new__")
              exact ⟨nm, qn, ns, bs, bm, sn, sb, ab, col, od, k0, k1, k2, k3, k5, rfl, h6⟩
            · cases h5
          | _ => cases h4
      | _ => cases h
    | _ => cases h
/-- what the head tells of an own exception class -/
structure ExI (K : PySem.W.Frag) (fields : List Str) (q : EI) : Prop where
  oex : OexC K (He.ga K q.x)
  xf : XfC K (He.ga K q.x)
  init : q.ns ≠ [] → PySem.W.findIn K (.ref (He.ga K q.x)) "__init__" = some (some (.ref (He.ma K (He.ga K q.x) "__init__"))) ∧ PySem.W.typeIn K (.ref (He.ma K (He.ga K q.x) "__init__")) = some (.type "function")
  no : ∀ f ∈ fields, PySem.W.findIn K (.ref (He.ga K q.x)) f = some none
theorem exB_ok {fields : List Str} {q : EI} (h : exB K fields q = true) : ExI K fields q := by
  unfold exB at h
  simp only [Bool.and_eq_true, decide_eq_true_eq, Bool.or_eq_true] at h
  obtain ⟨⟨⟨⟨⟨⟨⟨h1, h2⟩, h3⟩, h4⟩, h5⟩, h6⟩, h7⟩, h8⟩ := h
  refine ⟨⟨oexB_ok h6, h1, h2, h3, h4⟩, xfB_ok h5, fun hn => ?_, fun f hf => ?_⟩
  · rcases h7 with h7 | h7
    · exact absurd (List.isEmpty_iff.mp h7) hn
    · exact h7
  · exact of_decide_eq_true (List.all_eq_true.mp h8 f hf)
end
/-! ### the Hook: facts by names, defs, and a test of one's own -/
abbrev AlP : Type := He.AlD × Bool
def obsPG (n : Nat) (fa : List He.Fa) (fn : List He.DefD) (b : PySem.W.Frag → Bool) (g : Addr → Option Obj) : AlP := (He.obsD fa fn (He.frG g (He.asD g n)), b (He.frG g (He.asD g n)))
def SaysP (fa : List He.Fa) (fn : List He.DefD) (b : PySem.W.Frag → Bool) (K : PySem.W.Frag) : Prop := He.SaysD fa fn K ∧ b K = true
def hookP (n : Nat) (fa : List He.Fa) (fn : List He.DefD) (b : PySem.W.Frag → Bool) : PySem.W.Hook where
  α := AlP
  obs := fun s => obsPG n fa fn b s.heap.get?
  val := fun _ => (He.valD fn, true)
  says := fun _ h => ∃ K : PySem.W.Frag, K.In h ∧ SaysP fa fn b K
  of := fun _ _ e => ⟨_, He.frG_in, congrArg (fun z : AlP => z.1) e, congrArg (fun z : AlP => z.2) e⟩
  keeps := fun _ _ _ ⟨K, hK, c⟩ k => ⟨K, PySem.W.Frag.In.keeps hK k, c⟩
theorem obsPG_eq {n : Nat} {fa : List He.Fa} {fn : List He.DefD} {b : PySem.W.Frag → Bool} {g : Addr → Option Obj} {s : Shared} (h : ∀ a, g a = s.heap.get? a) : obsPG n fa fn b g = (hookP n fa fn b).obs s := by
  have e : g = s.heap.get? := funext h
  rw [e] <;> rfl

/-! ### a def -/
section
variable {P : Program} {w : World} {K : PySem.W.Frag} {mg : Str → Option Value} {base : Heap} {x qual : Str} {params : Arguments} {body : List Stmt} {scope : Scope} {dvs : List V} {kws : List (Str × V)} {f : Addr} {fd : FuncData} {N ps : List Str} {k : Nat} {m : M Fl}
theorem okP (F : FunD K x qual params body scope dvs kws f fd) (S : FnScope N ps scope)
    (hbody : ∀ (cdv : Value) (A : Around) (outer : List Env) (s : Shared) (H : Hp) (E : XK), Room k (A.deeper (envOfC qual scope s.heap.objs.size f cdv)) → JSs (cxOf (L2.CX P w) P w K mg base N qual scope f cdv A outer s H E) (WF E) body m) :
    FnOk P w K mg base (L2.CX P w) (k + 1) f fd ps (spOf K mg ps.length (fnM N.length m)) := by
  obtain ⟨oc, od, dV, kV, doc, pm, an, cdv, ct, osl, rfl, lk, hcd, _, _⟩ := F.ex
  exact fn_ok lk hcd S fun A outer s H E hr => hbody cdv A outer s H E hr
theorem okI {C : Addr} {ps : List Str} (q : IA) (l : List IA) (F : FunD K x qual params body scope dvs kws f fd) (S : FnScope ps ps scope) (T : OexC K C)
    (hbody : body = (q :: l).map IA.st) (h0 : ps[0]? = some (Str.ofString "self")) (hl1 : (q :: l).all (fun q => q.ok ps && decide (q.x ∈ ps)) = true) (hl2 : ∀ f ∈ (q :: l).map IA.f, PySem.W.findIn K (.ref C) f = some none) (hi : (q :: l).map IA.i = (List.range (q :: l).length).map (· + 1)) (hn : ps.length = (q :: l).length + 1) (hm : ps.length ≤ 900) :
    FnOk P w K mg base (L2.CX P w) (k + 1) f fd ps (initSp C ((q :: l).map IA.f)) := by
  obtain ⟨oc, od, dV, kV, doc, pm, an, cdv, ct, osl, rfl, lk, hcd, _, _⟩ := F.ex
  refine fn_init q l lk hcd S T hbody h0 (List.all_eq_true.mpr fun p hp => ?_) hi hn hm
  have z := List.all_eq_true.mp hl1 p hp
  simp only [Bool.and_eq_true, decide_eq_true_eq] at z ⊢
  exact ⟨z, hl2 _ (List.mem_map_of_mem hp)⟩
theorem kbP {ps ks : List Str} {b : Nat} {pm : List Nat} (F : FunD K x qual params body scope [] kws f fd) (hp : ps.length ≠ 0)
    (h : ∀ (kV doc pmv : Value) (an : Option Addr) (cdv ct : Value) (ws : List Value), ws.length = b → bindArgs (PySem.W.fnOf x qual params body scope .none kV doc pmv an cdv ct) ⟨[], ks.zip ws⟩ = pure (ps.zip (pm.filterMap fun i => ws[i]?))) : KBinds K fd ps ks (gK b pm) (gK b pm) := by
  obtain ⟨oc, od, dV, kV, doc, pmv, an, cdv, ct, osl, rfl, lk, hcd, hD, hK⟩ := F.ex
  rcases hD with ⟨_, rfl⟩ | ⟨e, _⟩
  · exact kbinds (h kV doc pmv an cdv ct) hp
  · exact absurd rfl e
/-- the exceptions that a body lets out -/
theorem takesF {qual : Str} {scope : Scope} {cdv : Value} {A : Around} {outer : List Env} {s : Shared} {H : Hp} {E : XK} : Takes (cxOf (L2.CX P w) P w K mg base N qual scope f cdv A outer s H E) (WF E) := takes_of rfl rfl rfl rfl
theorem passF {qual : Str} {scope : Scope} {cdv : Value} {A : Around} {outer : List Env} {s : Shared} {H : Hp} {E : XK} : PassesOwn (model P w) (cxOf (L2.CX P w) P w K mg base N qual scope f cdv A outer s H E).A (cxOf (L2.CX P w) P w K mg base N qual scope f cdv A outer s H E).env (cxOf (L2.CX P w) P w K mg base N qual scope f cdv A outer s H E).xe :=
  passes_of (X := cxOf (L2.CX P w) P w K mg base N qual scope f cdv A outer s H E) rfl
end
/-! ### the law -/
def lawOk (F : Fn) (n : Nat) : Prop := ∀ ns : List Int, ns.length ≤ n → ∃ cs, F [.scr (ns.map T.int)] [] = .ok (.va (.bl true)) cs
theorem dens_ints {K : PySem.W.Frag} {mg : Str → Option Value} {ka : List Addr} {G : Hp} : ∀ ns : List Int, Dens K mg ka G (ns.map V.int) (ns.map T.int)
  | [] => .nil
  | n :: ns => .cons (.int n) (dens_ints ns)
theorem law_sp {K : PySem.W.Frag} {mg : Str → Option Value} {F : Fn} {n : Nat} (h : lawOk F n) {H : Hp} {a : Addr} {ns : List Int} (hl : ns.length ≤ n) (hS : SqL K H a (ns.map V.int)) : spOf K mg 1 F [.ref a] H (fun v _ => v = .bl true) fun _ _ _ => False := by
  obtain ⟨cs, hc⟩ := h ns hl
  refine ⟨rfl, [], H, [], [.scr (ns.map T.int)], ⟨GLe.refl, rfl, fun i t h => by simp at h, fun i t h => by simp at h, fun i j t u a h => by simp at h, rfl, fun k t h => by simp at h, fun a h => by simp at h, .nil⟩, .cons (.scr hS (dens_ints ns)) .nil, ?_⟩
  rw [hc]
  intro v G' ka' H' R S D _
  cases D
  rfl
theorem cx_none {P : Program} {w : World} (H : Hp) (s : Shared) (e : Value) (s' : Shared) (h : L2.CX P w [] H s (fun _ _ _ => False) e s') : False := by
  obtain ⟨_, _, _, _, _, _, _, _, _, _, _, _, h⟩ := h
  exact h
end PL
-- PL21
/-! The pure layer 21: short words for a text's derivations. -/
namespace PL
open PySem PySem.Spec PyProof.Rows L2 PySem.SeqAt PySem.W

/-- a def y of the text that keeps the promise of its pure function -/
structure Ce (P : Program) (w : World) (K : PySem.W.Frag) (mg : Str → Option Value) (base : Heap) (y : Str) (st : Stmt) (k : Nat) (ps : List Str) (F : Fn) : Prop where
  ex : ∃ f fd, FunD K y y (defArgs st) (defBody st) (defScope st) [] [] f fd ∧ FnOk P w K mg base (L2.CX P w) k f fd ps (spOf K mg ps.length F) ∧ mg y = some (.ref f) ∧ Binds K fd ps []
/-- an own exception class with its __init__ -/
structure Ex (P : Program) (w : World) (K : PySem.W.Frag) (mg : Str → Option Value) (base : Heap) (x : Str) (ns : List Str) : Prop where
  ex : ∃ C fI fd ps, mg x = some (.ref C) ∧ OexC K C ∧ PySem.W.findIn K (.ref C) "__init__" = some (some (.ref fI)) ∧ PySem.W.typeIn K (.ref fI) = some (.type "function") ∧ FnOk P w K mg base (L2.CX P w) 1 fI fd ps (initSp C ns) ∧ Binds K fd ps [] ∧ ns.length ≤ 900
section
variable {X : Cx} {W : WX} {k kb n : Nat} {st : Stmt} {ps ks : List Str} {F : Fn} {x : Str} {p pos rpos : Pos} {e : Expr} {es : List Expr} {ms : M (List RV)} {kws : List Keyword} {b : Nat} {pm : List Nat} {ns : List Str}
theorem je_cl (C : Ce X.prog X.w X.K X.mg X.base x st k ps F) (hk : k ≤ kb) (hr : Room kb X.A) (tk : Takes X W) (hg : Gl X x) (ha : JA X W (e :: es) ms) (hn : ps.length = n)
    (hdb : (x == ("__debug__" : Str)) = false := by decide) (he : starEach (e :: es) X.env = (false, eval e X.env) :: starEach es X.env := by rfl) (hpl : (backTo pos (starEach es X.env)).any (·.1) = false := by rfl) :
    JE X W (.Call (.Name x p) (e :: es) [] pos) (mFn n F ms) := by
  subst hn
  obtain ⟨f, fd, FD, G, hm, hb⟩ := C.ex
  exact je_call G (hr.mono hk) hg hm FD.kp hb tk ha hdb he hpl
theorem je_ck (C : Ce X.prog X.w X.K X.mg X.base x st k ps F) (hk : k ≤ kb) (hr : Room kb X.A) (tk : Takes X W) (hg : Gl X x) (ha : JK X W kws ms) (hn : ps.length = n) (hp : ps.length ≠ 0)
    (h : ∀ (kV doc pmv : Value) (an : Option Addr) (cdv ct : Value) (ws : List Value), ws.length = b → bindArgs (PySem.W.fnOf x x (defArgs st) (defBody st) (defScope st) .none kV doc pmv an cdv ct) ⟨[], ks.zip ws⟩ = pure (ps.zip (pm.filterMap fun i => ws[i]?)))
    (hall : (backToKw pos (keywordEach kws X.env)).all (·.1.isSome) = true := by rfl) (hks : (backToKw pos (keywordEach kws X.env)).filterMap (·.1) = ks := by rfl)
    (hdb : (x == ("__debug__" : Str)) = false := by decide) (hpl : ((backTo pos (starEach [] X.env)).any (·.1) || (backToKw pos (keywordEach kws X.env)).any (·.1.isNone)) = false := by rfl) :
    JE X W (.Call (.Name x p) [] kws pos) (mFnK b pm n F ms) := by
  subst hn
  obtain ⟨f, fd, FD, G, hm, hb⟩ := C.ex
  exact je_callK G (hr.mono hk) hg hm FD.kp (kbP FD hp h) tk ha hall hks hdb hpl
theorem js_rs (C : Ex X.prog X.w X.K X.mg X.base x ns) (hc : X.calm = true) (hk : 2 ≤ kb) (hr : Room kb X.A) (tk : Takes X W) (hg : Gl X x) (ha : JA X W (e :: es) ms)
    (hdb : (x == ("__debug__" : Str)) = false := by decide) (he : starEach (e :: es) X.env = (false, eval e X.env) :: starEach es X.env := by rfl) (hpl : (backTo pos (starEach es X.env)).any (·.1) = false := by rfl) :
    JS X W (.Raise (some (.Call (.Name x p) (e :: es) [] pos)) none rpos) (mRaise x ns ms) := by
  obtain ⟨C, fI, fd, ps, hm, T, iC, tI, F1, hb, hns⟩ := C.ex
  exact js_raise T iC tI F1 hc (hr.mono hk) hb hg hm tk hns ha hdb he hpl
/-- x = [.. for ..] -/
theorem je_lcE {elt tg iter : Expr} {ifs : List Expr} {scope : Scope} (own : List (Str × Nat)) {vs : List Nat} {pos : Pos} {mi : M Wk} {f : T → M Unit} {mt : M Bool} {me : M RV} (hv : own.map (·.2) = vs) (hc : X.calm = true) (hN : X.N.Nodup) (hi : JI X W tg iter mi) (ok : BlkOk X.N X.env.scope scope own)
    (hg : ∀ (s : Shared) (H : Hp) (C : Addr) (cl : List (Str × Addr)) (fp : List Addr), JG (X.blk s H scope (compEnvC scope cl C X.env) fp) W0 tg vs f) (ht : ∀ (s : Shared) (H : Hp) (C : Addr) (cl : List (Str × Addr)) (fp : List Addr), JTs (X.blk s H scope (compEnvC scope cl C X.env) fp) W0 ifs mt)
    (he : ∀ (s : Shared) (H : Hp) (C : Addr) (cl : List (Str × Addr)) (fp : List Addr), JE (X.blk s H scope (compEnvC scope cl C X.env) fp) W0 elt me) (hs : ∀ x, foldedSetIterable iter X.env x = pure x := by intro _; rfl) :
    JE X W (.ListComp elt [⟨tg, iter, ifs, 0⟩] scope pos) (mLc mi vs f mt me) := by
  subst hv
  exact (je_lc hc hN hi ok hg ht he hs).1
theorem js_lcE {elt tg iter : Expr} {ifs : List Expr} {scope : Scope} (own : List (Str × Nat)) {vs : List Nat} {pos : Pos} {mi : M Wk} {f : T → M Unit} {mt : M Bool} {me : M RV} {i : Nat} {y : Str} {py spos : Pos} (hv : own.map (·.2) = vs) (hc : X.calm = true) (hN : X.N.Nodup) (hi : JI X W tg iter mi) (ok : BlkOk X.N X.env.scope scope own)
    (hg : ∀ (s : Shared) (H : Hp) (C : Addr) (cl : List (Str × Addr)) (fp : List Addr), JG (X.blk s H scope (compEnvC scope cl C X.env) fp) W0 tg vs f) (ht : ∀ (s : Shared) (H : Hp) (C : Addr) (cl : List (Str × Addr)) (fp : List Addr), JTs (X.blk s H scope (compEnvC scope cl C X.env) fp) W0 ifs mt)
    (he : ∀ (s : Shared) (H : Hp) (C : Addr) (cl : List (Str × Addr)) (fp : List Addr), JE (X.blk s H scope (compEnvC scope cl C X.env) fp) W0 elt me)
    (hy : X.N[i]? = some y) (hyl : X.env.scope.names.lookup y = some .local) (hsw : swapsWith (.ListComp elt [⟨tg, iter, ifs, 0⟩] scope pos) (some (.Name y py)) spos.line X.env = pure true) (hs : ∀ x, foldedSetIterable iter X.env x = pure x := by intro _; rfl) :
    JS X W (.Assign [.Name y py] (.ListComp elt [⟨tg, iter, ifs, 0⟩] scope pos) spos) (mSet i (mLc mi vs f mt me)) := by
  subst hv
  obtain ⟨t, p, q⟩ := (je_lc (W := W) hc hN hi ok hg ht he hs).2 hy hyl hsw
  exact ⟨_, p, fun ka G H s E D R h => set_go (fun Q => q ka G H s E Q R) h⟩
theorem js_lcCE {elt tg iter : Expr} {ifs : List Expr} {scope : Scope} (own : List (Str × Nat)) {vs : List Nat} {pos : Pos} {mi : M Wk} {f : T → M Unit} {mt : M Bool} {me : M RV} {i : Nat} {y : Str} {py spos : Pos} (hv : own.map (·.2) = vs) (hc : X.calm = true) (hN : X.N.Nodup) (hi : JI X W tg iter mi) (ok : BlkOk X.N X.env.scope scope own)
    (hg : ∀ (s : Shared) (H : Hp) (C : Addr) (cl : List (Str × Addr)) (fp : List Addr), JG (X.blk s H scope (compEnvC scope cl C X.env) fp) W0 tg vs f) (ht : ∀ (s : Shared) (H : Hp) (C : Addr) (cl : List (Str × Addr)) (fp : List Addr), JTs (X.blk s H scope (compEnvC scope cl C X.env) fp) W0 ifs mt)
    (he : ∀ (s : Shared) (H : Hp) (C : Addr) (cl : List (Str × Addr)) (fp : List Addr), JE (X.blk s H scope (compEnvC scope cl C X.env) fp) W0 elt me)
    (hy : X.N[i]? = some y) (hyl : X.env.scope.names.lookup y = some .local) (hsw : swapsWith (.ListComp elt [⟨tg, iter, ifs, 0⟩] scope pos) (some (.Name y py)) spos.line X.env = pure true) (hs : ∀ x, foldedSetIterable iter X.env x = pure x := by intro _; rfl) :
    JS X W (.Assign [.Name y py] (.ListComp elt [⟨tg, iter, ifs, 0⟩] scope pos) spos) (mSetC i (mLc mi vs f mt me)) := by
  subst hv
  obtain ⟨t, p, q⟩ := (je_lc (W := W) hc hN hi ok hg ht he hs).2 hy hyl hsw
  exact ⟨_, p, fun ka G H s E D R h => setC_go (fun Q => q ka G H s E Q R) h⟩
/-! ### clauses -/
def subOf (l : List (Str × Bool)) : Str → Option Bool := fun x => l.lookup x
theorem sub_mem {l : List (Str × Bool)} {y : Str} {b : Bool} (h : subOf l y = some b) : (y, b) ∈ l := by
  unfold subOf at h
  induction l with
  | nil => cases h
  | cons p l ih =>
    obtain ⟨z, c⟩ := p
    rw [List.lookup_cons] at h
    cases hq : (y == z) with
    | true =>
      rw [hq] at h
      cases h
      rw [eq_of_beq hq]
      exact List.mem_cons_self
    | false =>
      rw [hq] at h
      exact List.mem_cons_of_mem _ (ih h)
theorem sub_in {l : List (Str × Bool)} {y : Str} {b : Bool} {E : List Str} (h : subOf l y = some b) (hE : (l.all fun p => decide (p.1 ∈ E)) = true) : y ∈ E := of_decide_eq_true (List.all_eq_true.mp hE _ (sub_mem h))
theorem exm_of {l : List (Str × Bool)} {x : Str} {D : Addr} {exms : List (Str × Str × Bool)} (exm : ∀ q ∈ exms, ∀ C D, X.mg q.1 = some (.ref C) → X.mg q.2.1 = some (.ref D) → PySem.W.exmOne X.K (.ref C) (.ref D) = some q.2.2) (hD : X.mg x = some (.ref D))
    (hin : (l.all fun p => decide ((p.1, x, p.2) ∈ exms)) = true) : ∀ y b, subOf l y = some b → ∀ C, X.mg y = some (.ref C) → PySem.W.exmOne X.K (.ref C) (.ref D) = some b := fun y b h C hC =>
  exm (y, x, b) (of_decide_eq_true (List.all_eq_true.mp hin _ (sub_mem h))) C D hC hD
theorem jhd_as {l : List (Str × Bool)} {x n : Str} {D : Addr} {exms : List (Str × Str × Bool)} {np pos' : Pos} {b₀ : Stmt} {suite : List Stmt} {i : Nat} {ms : Addr → Addr → Str → M Fl} (exm : ∀ q ∈ exms, ∀ C D, X.mg q.1 = some (.ref C) → X.mg q.2.1 = some (.ref D) → PySem.W.exmOne X.K (.ref C) (.ref D) = some q.2.2)
    (hD : X.mg x = some (.ref D)) (hin : (l.all fun p => decide ((p.1, x, p.2) ∈ exms)) = true) (hg : Gl X x) (hN : X.N[i]? = some n) (hk : X.env.kindOf n = some .local)
    (hjs : ∀ (a : Addr) (oe : Obj) (y : Str) (C : Addr) (dd : Addr) (pn : List (Addr × Obj)), subOf l y = some true → X.mg y = some (.ref C) → Zc (.ref C) (some dd) oe → (∃ vs, oe.data = .fields vs) → JSs (X.suite a ((a, oe) :: pn)) W0 (b₀ :: suite) (ms a dd y))
    (hdb : (x == ("__debug__" : Str)) = false := by decide) : JHd X (.ExceptHandler (some (.Name x np)) (some n) (b₀ :: suite) pos') (.ref D) ⟨subOf l, some i, ms⟩ where
  sub := exm_of exm hD hin
  form := ⟨x, np, b₀, suite, pos', ⟨hg, hdb, .inl hD⟩, .inr ⟨i, n, rfl, hN, hk, rfl⟩, fun a oe y C d dd pn hs hy hd hz hv => by
    cases hd (by simp)
    exact hjs a oe y C dd pn hs hy hz hv⟩
theorem jhd_no {l : List (Str × Bool)} {x : Str} {D : Addr} {exms : List (Str × Str × Bool)} {np pos' : Pos} {b₀ : Stmt} {suite : List Stmt} {m : M Fl} (exm : ∀ q ∈ exms, ∀ C D, X.mg q.1 = some (.ref C) → X.mg q.2.1 = some (.ref D) → PySem.W.exmOne X.K (.ref C) (.ref D) = some q.2.2)
    (hD : X.mg x = some (.ref D)) (hin : (l.all fun p => decide ((p.1, x, p.2) ∈ exms)) = true) (hg : Gl X x)
    (hjs : ∀ (a : Addr) (oe : Obj) (pn : List (Addr × Obj)), JSs (X.suite a ((a, oe) :: pn)) W0 (b₀ :: suite) m)
    (hdb : (x == ("__debug__" : Str)) = false := by decide) : JHd X (.ExceptHandler (some (.Name x np)) none (b₀ :: suite) pos') (.ref D) ⟨subOf l, none, fun _ _ _ => m⟩ where
  sub := exm_of exm hD hin
  form := ⟨x, np, b₀, suite, pos', ⟨hg, hdb, .inl hD⟩, .inl ⟨rfl, rfl, fun _ _ _ => rfl⟩, fun a oe y C d dd pn _ _ _ _ _ => hjs a oe pn⟩
theorem roomU (hr : Room kb X.A) : X.A.units + 200 < cLine := by have := hr.un; omega
end
section
variable {P : Program} {w : World} {K : PySem.W.Frag} {mg : Str → Option Value} {base : Heap} {CX : CXT} {k n : Nat} {f : Addr} {fd fd2 : FuncData} {ps : List Str} {F : Fn}
/-- a promise that is never kept -/
theorem fnOk_no (h : ∀ ts cs, F ts cs = .st) : FnOk P w K mg base CX k f fd ps (spOf K mg ps.length F) := ⟨fun vs H Q E h => h.1, fun A outer s H args us vs Q E _ _ _ _ ⟨_, ka, G, cs, ts, _, _, z⟩ => by
  rw [h] at z
  exact z.elim⟩
theorem fd_same {x y qual qual2 : Str} {params params2 : Arguments} {body body2 : List Stmt} {scope scope2 : Scope} {dvs dvs2 : List V} {kws kws2 : List (Str × V)} (F1 : FunD K x qual params body scope dvs kws f fd) (F2 : FunD K y qual2 params2 body2 scope2 dvs2 kws2 f fd2) : fd = fd2 := by
  obtain ⟨_, _, _, _, _, _, _, _, _, _, _, l1, _⟩ := F1.ex
  obtain ⟨_, _, _, _, _, _, _, _, _, _, _, l2, _⟩ := F2.ex
  rw [l1] at l2
  injection l2 with l2
  injection l2 with _ _ l2
  injection l2
end
/-- a law over a head by facts, what its def does told by a pure function -/
theorem walk_pl {l : PySem.W.OpenLaw} {n k : Nat} {q : Program} {loose : List Str} {XP : (Str → Option Value) → Heap → Prop} {YP : World → Heap → Prop} {d : DefRec} {x : Str} {Fl0 : Fn}
    (hn : l.most = some n) (hn2 : n ≤ sizeLine) (hdf : d.params.defaults = []) (hr : Room k callerA) (law : lawOk Fl0 n)
    (F : ∀ (w : World) (mg : Str → Option Value) (fa : Addr) (h : Heap), YP w h → h.Ns mainGlobals mg → mg d.name = some (.ref fa) →
      ∃ (K : PySem.W.Frag) (fd : FuncData), K.In h ∧ (∀ (s : Shared) (u : Value), BindsTo s fd ⟨[u], []⟩ [(x, u)]) ∧
        ∀ base : Heap, K.In base → base.Ns mainGlobals mg → FnOk l.prog w K mg base (L2.CX l.prog w) k fa fd [x] (spOf K mg 1 Fl0)) :
    PySem.W.WalkO q loose XP YP l.row.toRowW d [] (fun f vs => PySem.call f vs) := by
  refine Att.attach_call hn hdf fun w s₀ s₁ mg mb fa o pm cd doc a vs ns G Y ho hd hcd hmg hobj hints hlen hg => ?_
  obtain ⟨K, fd, KX, hb, hF⟩ := F w mg fa _ Y G.T.g hmg
  exact law_call KX G.T.g G.T.b G.T.builtins G.T.nolimit hg hobj hints (Nat.le_trans hlen hn2) hr hF hb (fun H hO hS => law_sp law hlen hS) fun H e s' h => cx_none H s₁ e s' h
end PL
-- PL22
/-! The pure layer 22: what the pure functions give, for simp. -/
namespace PL
open PySem PySem.Spec PyProof.Rows L2 PySem.SeqAt PySem.W

theorem isD_int {i : Int} {n : Nat} : (T.int i).isD n = true := rfl
theorem isD_bl {i : Bool} {n : Nat} : (T.bl i).isD n = true := rfl
theorem isD_str {i : Str} {n : Nat} : (T.str i).isD n = true := rfl
theorem isD_non {n : Nat} : T.non.isD n = true := rfl
theorem eqT_int {i j : Int} : eqT (.int i) (.int j) = decide (i = j) := by simp only [eqT, T.toD, PyData.eqv]; exact Bool.eq_iff_iff.mpr (by simp)
theorem opEq_int {i j : Int} : opEq (.int i) (.int j) = some (.sm (.bl (decide (i = j)))) := by simp [opEq, isD_int, eqT_int]
theorem opNe_int {i j : Int} : opNe (.int i) (.int j) = some (.sm (.bl (decide (i ≠ j)))) := by simp [opNe, isD_int, eqT_int]
theorem ltT_int {i j : Int} : ltT (.int i) (.int j) = decide (i < j) := by
  simp only [ltT, T.toD]; exact dataLt_int i j
theorem dec_not_lt {i j : Int} : (!decide (j < i)) = decide (i ≤ j) := Bool.eq_iff_iff.mpr (by simp)
theorem opLt_int {i j : Int} : opLt (.int i) (.int j) = some (.sm (.bl (decide (i < j)))) := by simp [opLt, likeT, isD_int, ltT_int, T.toD, alike]
theorem opLe_int {i j : Int} : opLe (.int i) (.int j) = some (.sm (.bl (decide (i ≤ j)))) := by
  simp only [opLe, likeT, isD_int, ltT_int, T.toD, alike, dec_not_lt, Bool.and_self, if_true]
theorem opGt_int {i j : Int} : opGt (.int i) (.int j) = some (.sm (.bl (decide (i > j)))) := by simp [opGt, likeT, isD_int, ltT_int, T.toD, alike]
theorem opGe_int {i j : Int} : opGe (.int i) (.int j) = some (.sm (.bl (decide (i ≥ j)))) := by
  simp only [opGe, likeT, isD_int, ltT_int, T.toD, alike, dec_not_lt, Bool.and_self, if_true, ge_iff_le]
theorem eqT_str {i j : Str} : eqT (.str i) (.str j) = decide (i = j) := by simp only [eqT, T.toD, PyData.eqv]; exact Bool.eq_iff_iff.mpr (by simp)
theorem eqT_bl {i j : Bool} : eqT (.bl i) (.bl j) = decide (i = j) := by simp only [eqT, T.toD, PyData.eqv]; exact Bool.eq_iff_iff.mpr (by simp)
theorem opEq_str {i j : Str} : opEq (.str i) (.str j) = some (.sm (.bl (decide (i = j)))) := by simp [opEq, isD_str, eqT_str]
theorem opNe_str {i j : Str} : opNe (.str i) (.str j) = some (.sm (.bl (decide (i ≠ j)))) := by simp [opNe, isD_str, eqT_str]
theorem opEq_bl {i j : Bool} : opEq (.bl i) (.bl j) = some (.sm (.bl (decide (i = j)))) := by simp [opEq, isD_bl, eqT_bl]
theorem opNe_bl {i j : Bool} : opNe (.bl i) (.bl j) = some (.sm (.bl (decide (i ≠ j)))) := by simp [opNe, isD_bl, eqT_bl]
theorem eqT_nil {ts : List T} : eqT (.lst ts) (.lst []) = decide (ts = []) := by
  cases ts <;> simp [eqT, T.toD, toDs, PyData.eqv, PyData.eqvAll]
theorem opEq_nil {ts : List T} (h : isDs ts 59 = true) : opEq (.lst ts) (.lst []) = some (.sm (.bl (decide (ts = [])))) := by
  simp [opEq, T.isD, isDs, h, eqT_nil]
theorem opNe_nil {ts : List T} (h : isDs ts 59 = true) : opNe (.lst ts) (.lst []) = some (.sm (.bl (decide (ts ≠ [])))) := by
  simp [opNe, T.isD, isDs, h, eqT_nil]
theorem isDs_nil {n : Nat} : isDs [] n = true := by rw [isDs]
theorem isDs_cons {t : T} {ts : List T} {n : Nat} : isDs (t :: ts) n = (t.isD n && isDs ts n) := by rw [isDs]
@[simp] theorem opEq_nil0 : opEq (.lst []) (.lst []) = some (.sm (.bl true)) := by rw [opEq_nil isDs_nil]; rfl
@[simp] theorem opNe_nil0 : opNe (.lst []) (.lst []) = some (.sm (.bl false)) := by rw [opNe_nil isDs_nil]; rfl
theorem rg1_len {n : Nat} (h : n ≤ sz) : rg1 [.va (.int (n : Int))] = some (n : Int) := by
  unfold rg1
  dsimp only
  refine if_pos ⟨Int.le_trans (by decide) (Int.natCast_nonneg n), Int.lt_of_le_of_lt (Int.ofNat_le.mpr h) (by decide)⟩
/-! ### the combinators, one step each -/
section
variable {α β : Type} {m n : M Fl} {e : Ev} {ma mb mc : M RV} {mt mu : M Bool} {ms : M (List RV)} {i j N : Nat} {t : T} {q : RV} {qs : List RV}
@[simp] theorem bd_eq {m : M α} {f : α → M β} : M.bd m f e = match m e with
    | .st => .st
    | .ok a e' => f a e'
    | .ex c fs e' => .ex c fs e' := rfl
@[simp] theorem mSeq_eq : mSeq m n e = match m e with
    | .ok .nx e1 => n e1
    | r => r := rfl
@[simp] theorem mNx_eq : mNx e = .ok .nx e := rfl
@[simp] theorem mBr_eq : mBr e = .ok .br e := rfl
@[simp] theorem mCt_eq : mCt e = .ok .ct e := rfl
@[simp] theorem mRet_eq : mRet ma e = match ma e with
    | .st => .st
    | .ok q e' => .ok (.rt q) e'
    | .ex c fs e' => .ex c fs e' := by
  unfold mRet M.bd
  rcases ma e with _ | ⟨q, e1⟩ | ⟨c, fs, e1⟩ <;> rfl
@[simp] theorem mRetN_eq : mRetN e = .ok (.rt (.va .non)) e := rfl
@[simp] theorem mDrop_eq : mDrop ma e = match ma e with
    | .st => .st
    | .ok _ e' => .ok .nx e'
    | .ex c fs e' => .ex c fs e' := by
  unfold mDrop M.bd
  rcases ma e with _ | ⟨q, e1⟩ | ⟨c, fs, e1⟩ <;> rfl
@[simp] theorem mIfS_eq : mIfS mt m n e = match mt e with
    | .st => .st
    | .ok b e' => if b then m e' else n e'
    | .ex c fs e' => .ex c fs e' := by
  unfold mIfS M.bd
  cases mt e with
  | ok b e' => cases b <;> rfl
  | _ => rfl
@[simp] theorem mVar_eq : mVar i e = match e.r[i]? with
    | some (.va t) => .ok (.va t) e
    | some (.ow _) => .ok (.br i) e
    | _ => .st := rfl
@[simp] theorem mC_eq : mC t e = .ok (.va t) e := rfl
@[simp] theorem mNil_eq : mNil e = .ok [] e := rfl
@[simp] theorem mCons_eq : mCons ma ms e = match ma e with
    | .st => .st
    | .ok q e1 => match ms e1 with
      | .st => .st
      | .ok qs e2 => .ok (q :: qs) e2
      | .ex c fs e2 => .ex c fs e2
    | .ex c fs e1 => .ex c fs e1 := by
  unfold mCons M.bd
  rcases ma e with _ | ⟨q, e1⟩ | ⟨c, fs, e1⟩
  · rfl
  · dsimp only
    rcases ms e1 with _ | ⟨q, e1⟩ | ⟨c, fs, e1⟩ <;> rfl
  · rfl
@[simp] theorem pk_va' {t : T} (h : ∀ k, t ≠ .cel k) : pk e (.va t) = some t := by
  cases t with
  | cel k => exact absurd rfl (h k)
  | _ => rfl
@[simp] theorem pk_cel {k : Nat} : pk e (.va (.cel k)) = e.c[k]? := rfl
@[simp] theorem pk_ow : pk e (.ow t) = some t := rfl
@[simp] theorem pk_br : pk e (.br i) = match e.r[i]? with
    | some (.va (.cel k)) => e.c[k]?
    | some (.va t) => some t
    | some (.ow t) => some t
    | _ => none := rfl
@[simp] theorem fz_va : fz e (.va t) = some (t, e) := rfl
@[simp] theorem fz_ow : fz e (.ow t) = some (t, e) := rfl
@[simp] theorem fz_br : fz e (.br i) = match e.r[i]? with
    | some (.va t) => some (t, e)
    | some (.ow t) => some (t, ⟨e.r.set i (.va t), e.c⟩)
    | _ => none := rfl
@[simp] theorem fzs_nil : fzs e [] = some ([], e) := rfl
@[simp] theorem fzs_cons : fzs e (q :: qs) = match fz e q with
    | none => none
    | some (t, e1) => match fzs e1 qs with
      | none => none
      | some (ts, e2) => some (t :: ts, e2) := rfl
@[simp] theorem pks_nil : pks e [] = some [] := rfl
@[simp] theorem outR_va : outR e (.va t) = some (.va t) := rfl
@[simp] theorem outR_ow : outR e (.ow t) = some (.ow t) := rfl
@[simp] theorem outR_br : outR e (.br i) = match e.r[i]? with
    | some (.va t) => some (.va t)
    | some (.ow t) => some (.ow t)
    | _ => none := rfl
@[simp] theorem mFn_eq {F : Fn} : mFn N F ms e = match ms e with
    | .st => .st
    | .ok qs e0 => if qs.length = N then (match fzs e0 qs with
      | some (ts, e1) => match F ts e1.c with
        | .st => .st
        | .ok q c => .ok q ⟨e1.r, c⟩
        | .ex x fs c => .ex x fs ⟨e1.r, c⟩
      | none => .st) else .st
    | .ex c fs e' => .ex c fs e' := by
  unfold mFn M.bd
  rcases ms e with _ | ⟨q, e1⟩ | ⟨c, fs, e1⟩ <;> rfl
@[simp] theorem mOp_eq {f : T → T → Option OR} : mOp f ma mb e = match ma e with
    | .st => .st
    | .ok ra e1 => match mb e1 with
      | .st => .st
      | .ok rb e2 => (match pk e2 ra, pk e2 rb with
        | some a, some b => ofOR (f a b) e2
        | _, _ => .st)
      | .ex c fs e2 => .ex c fs e2
    | .ex c fs e1 => .ex c fs e1 := by
  unfold mOp M.bd
  rcases ma e with _ | ⟨q, e1⟩ | ⟨c, fs, e1⟩
  · rfl
  · dsimp only
    rcases mb e1 with _ | ⟨q, e1⟩ | ⟨c, fs, e1⟩ <;> rfl
  · rfl
@[simp] theorem ofOR_none : ofOR none e = .st := rfl
@[simp] theorem ofOR_sm : ofOR (some (.sm t)) e = .ok (.va t) e := rfl
@[simp] theorem ofOR_tp {ts : List T} : ofOR (some (.tp ts)) e = .ok (.va (.tup ts)) e := rfl
@[simp] theorem ofOR_ls {ts : List T} : ofOR (some (.ls ts)) e = .ok (.ow (.lst ts)) e := rfl
@[simp] theorem mB_eq : mB ma e = match ma e with
    | .st => .st
    | .ok (.va (.bl b)) e' => .ok b e'
    | .ok _ _ => .st
    | .ex c fs e' => .ex c fs e' := by
  unfold mB M.bd
  rcases ma e with _ | ⟨q, e'⟩ | ⟨c, fs, e'⟩
  · rfl
  · cases q with
    | va t => cases t <;> rfl
    | _ => rfl
  · rfl
@[simp] theorem mTr_eq : mTr ma e = match ma e with
    | .st => .st
    | .ok q e' => (match pk e' q with
      | some t => match tru t with
        | some k => .ok k e'
        | none => .st
      | none => .st)
    | .ex c fs e' => .ex c fs e' := by
  unfold mTr M.bd
  rcases ma e with _ | ⟨q, e1⟩ | ⟨c, fs, e1⟩ <;> rfl
@[simp] theorem mNot_eq : mNot mt e = match mt e with
    | .st => .st
    | .ok k e' => .ok (!k) e'
    | .ex c fs e' => .ex c fs e' := by
  unfold mNot M.bd
  rcases mt e with _ | ⟨q, e1⟩ | ⟨c, fs, e1⟩ <;> rfl
@[simp] theorem mNotV_eq : mNotV ma e = match mTr ma e with
    | .st => .st
    | .ok k e' => .ok (.va (.bl (!k))) e'
    | .ex c fs e' => .ex c fs e' := by
  unfold mNotV M.bd
  rcases mTr ma e with _ | ⟨q, e1⟩ | ⟨c, fs, e1⟩ <;> rfl
@[simp] theorem mAnd_eq : mAnd mt mu e = match mt e with
    | .st => .st
    | .ok k e' => if k then mu e' else .ok false e'
    | .ex c fs e' => .ex c fs e' := by
  unfold mAnd M.bd
  cases mt e with
  | ok b e' => cases b <;> rfl
  | _ => rfl
@[simp] theorem mOr_eq : mOr mt mu e = match mt e with
    | .st => .st
    | .ok k e' => if k then .ok true e' else mu e'
    | .ex c fs e' => .ex c fs e' := by
  unfold mOr M.bd
  cases mt e with
  | ok b e' => cases b <;> rfl
  | _ => rfl
@[simp] theorem mIf_eq : mIf mt ma mb e = match mt e with
    | .st => .st
    | .ok k e' => if k then ma e' else mb e'
    | .ex c fs e' => .ex c fs e' := by
  unfold mIf M.bd
  cases mt e with
  | ok b e' => cases b <;> rfl
  | _ => rfl
@[simp] theorem mSet_eq : mSet i ma e = match ma e with
    | .st => .st
    | .ok q e1 => (match stv i e1 q with
      | some e' => .ok .nx e'
      | none => .st)
    | .ex c fs e' => .ex c fs e' := by
  unfold mSet M.bd
  rcases ma e with _ | ⟨q, e1⟩ | ⟨c, fs, e1⟩ <;> rfl
@[simp] theorem mSetC_eq : mSetC i ma e = match ma e with
    | .st => .st
    | .ok q e1 => (match stc i e1 q with
      | some e' => .ok .nx e'
      | none => .st)
    | .ex c fs e' => .ex c fs e' := by
  unfold mSetC M.bd
  rcases ma e with _ | ⟨q, e1⟩ | ⟨c, fs, e1⟩ <;> rfl
@[simp] theorem stv_va : stv i e (.va t) = some ⟨e.r.set i (.va t), e.c⟩ := rfl
@[simp] theorem stv_ow : stv i e (.ow t) = some ⟨e.r.set i (.ow t), e.c⟩ := rfl
@[simp] theorem stc_ow : stc i e (.ow t) = some ⟨e.r.set i (.va (.cel e.c.length)), e.c ++ [t]⟩ := rfl
@[simp] theorem stc_va : stc i e (.va t) = some ⟨e.r.set i (.va t), e.c⟩ := rfl
@[simp] theorem stc_br : stc i e (.br j) = stv i e (.br j) := rfl
@[simp] theorem stv_br : stv i e (.br j) = match e.r[j]? with
    | some (.va t) => some ⟨e.r.set i (.va t), e.c⟩
    | some (.ow t) => if j = i then some e else some ⟨(e.r.set j .un).set i (.ow t), e.c⟩
    | _ => none := rfl
@[simp] theorem mTup_eq : mTup ms e = match ms e with
    | .st => .st
    | .ok rs e1 => (match fzs e1 rs with
      | some (ts, e2) => if ts.length ≤ sz then .ok (.va (.tup ts)) e2 else .st
      | none => .st)
    | .ex c fs e' => .ex c fs e' := by
  unfold mTup M.bd
  rcases ms e with _ | ⟨q, e1⟩ | ⟨c, fs, e1⟩ <;> rfl
@[simp] theorem mLst_eq : mLst ms e = match ms e with
    | .st => .st
    | .ok rs e1 => (match fzs e1 rs with
      | some (ts, e2) => if ts.length ≤ sz then .ok (.ow (.lst ts)) e2 else .st
      | none => .st)
    | .ex c fs e' => .ex c fs e' := by
  unfold mLst M.bd
  rcases ms e with _ | ⟨q, e1⟩ | ⟨c, fs, e1⟩ <;> rfl
@[simp] theorem mDcz0_eq : mDcz0 e = .ok (.va (.dcz [] [])) e := rfl
@[simp] theorem mDcz1_eq {k : Key} : mDcz1 k t e = .ok (.va (.dcz [k] [t])) e := rfl
@[simp] theorem mCall_eq {F : List T → Option OR} : mCall F ms e = match ms e with
    | .st => .st
    | .ok rs e1 => (match pks e1 rs with
      | some ts => ofOR (F ts) e1
      | none => .st)
    | .ex c fs e' => .ex c fs e' := by
  unfold mCall M.bd
  rcases ms e with _ | ⟨q, e1⟩ | ⟨c, fs, e1⟩ <;> rfl
@[simp] theorem mIsi_eq {cs : List Ky} : mIsi cs ma e = match ma e with
    | .st => .st
    | .ok q e1 => (match pk e1 q with
      | some t => match kyT t with
        | some k => .ok (.va (.bl (cs.any fun c => kyI c k))) e1
        | none => .st
      | none => .st)
    | .ex c fs e' => .ex c fs e' := by
  unfold mIsi M.bd
  rcases ma e with _ | ⟨q, e1⟩ | ⟨c, fs, e1⟩ <;> rfl
@[simp] theorem mAsg_eq {f : RV → M Unit} : mAsg ma f e = match ma e with
    | .st => .st
    | .ok q e1 => (match f q e1 with
      | .ok _ e2 => .ok .nx e2
      | _ => .st)
    | .ex c fs e' => .ex c fs e' := by
  unfold mAsg M.bd
  rcases ma e with _ | ⟨q, e1⟩ | ⟨c, fs, e1⟩ <;> rfl
@[simp] theorem mUn_eq {f : Int → Int} : mUn f ma e = match ma e with
    | .st => .st
    | .ok (.va (.int i)) e' => .ok (.va (.int (f i))) e'
    | .ok _ _ => .st
    | .ex c fs e' => .ex c fs e' := by
  unfold mUn M.bd
  rcases ma e with _ | ⟨q, e'⟩ | ⟨c, fs, e'⟩
  · rfl
  · cases q with
    | va t => cases t <;> rfl
    | _ => rfl
  · rfl
@[simp] theorem pks_cons : pks e (q :: qs) = match pk e q with
    | none => none
    | some t => match pks e qs with
      | none => none
      | some ts => some (t :: ts) := rfl
@[simp] theorem mAndV_eq : mAndV ma mb e = match ma e with
    | .st => .st
    | .ok q e1 => (match pk e1 q with
      | some t => match tru t with
        | some true => mb e1
        | some false => .ok q e1
        | none => .st
      | none => .st)
    | .ex c fs e1 => .ex c fs e1 := by
  unfold mAndV M.bd
  rcases ma e with _ | ⟨q, e1⟩ | ⟨c, fs, e1⟩ <;> rfl
@[simp] theorem mOrV_eq : mOrV ma mb e = match ma e with
    | .st => .st
    | .ok q e1 => (match pk e1 q with
      | some t => match tru t with
        | some false => mb e1
        | some true => .ok q e1
        | none => .st
      | none => .st)
    | .ex c fs e1 => .ex c fs e1 := by
  unfold mOrV M.bd
  rcases ma e with _ | ⟨q, e1⟩ | ⟨c, fs, e1⟩ <;> rfl
@[simp] theorem mCh_eq {f g : T → T → Option OR} : mCh f g ma mb mc e = match ma e with
    | .st => .st
    | .ok ra e1 => (match mb e1 with
      | .st => .st
      | .ok rb e2 => (match pk e2 ra, pk e2 rb with
        | some a, some b => match f a b with
          | some (.sm (.bl true)) => (match mc e2 with
            | .st => .st
            | .ok rc e3 => (match pk e3 rb, pk e3 rc with
              | some b, some c => ofOR (g b c) e3
              | _, _ => .st)
            | .ex c fs e3 => .ex c fs e3)
          | some (.sm (.bl false)) => .ok (.va (.bl false)) e2
          | _ => .st
        | _, _ => .st)
      | .ex c fs e2 => .ex c fs e2)
    | .ex c fs e1 => .ex c fs e1 := by
  unfold mCh M.bd
  rcases ma e with _ | ⟨ra, e1⟩ | ⟨c, fs, e1⟩
  · rfl
  · dsimp only
    rcases mb e1 with _ | ⟨rb, e2⟩ | ⟨c, fs, e2⟩
    · rfl
    · dsimp only
      cases h1 : pk e2 ra with
      | none => rfl
      | some a =>
        cases h2 : pk e2 rb with
        | none => rfl
        | some b =>
          dsimp only
          cases h3 : f a b with
          | none => rfl
          | some o =>
            cases o with
            | sm t =>
              cases t with
              | bl k =>
                cases k with
                | false => rfl
                | true =>
                  dsimp only
                  rcases mc e2 with _ | ⟨rc, e3⟩ | ⟨c, fs, e3⟩ <;> rfl
              | _ => rfl
            | _ => rfl
    · rfl
  · rfl
@[simp] theorem mNoP_eq : mNoP e = .ok none e := rfl
@[simp] theorem mPart_eq : mPart ma e = match ma e with
    | .st => .st
    | .ok (.va (.int i)) e' => .ok (some i) e'
    | .ok _ _ => .st
    | .ex c fs e' => .ex c fs e' := by
  unfold mPart M.bd
  rcases ma e with _ | ⟨q, e'⟩ | ⟨c, fs, e'⟩
  · rfl
  · cases q with
    | va t => cases t <;> rfl
    | _ => rfl
  · rfl
@[simp] theorem mSl_eq {ml mh : M (Option Int)} : mSl ma ml mh e = match ma e with
    | .st => .st
    | .ok q e1 => (match ml e1 with
      | .st => .st
      | .ok lo e2 => (match mh e2 with
        | .st => .st
        | .ok hi e3 => (match pk e3 q with
          | some t => ofOR (slT lo hi t) e3
          | none => .st)
        | .ex c fs e3 => .ex c fs e3)
      | .ex c fs e2 => .ex c fs e2)
    | .ex c fs e1 => .ex c fs e1 := by
  unfold mSl M.bd
  rcases ma e with _ | ⟨q, e1⟩ | ⟨c, fs, e1⟩
  · rfl
  · dsimp only
    rcases ml e1 with _ | ⟨q, e1⟩ | ⟨c, fs, e1⟩
    · rfl
    · dsimp only
      rcases mh e1 with _ | ⟨q, e1⟩ | ⟨c, fs, e1⟩ <;> rfl
    · rfl
  · rfl
end
end PL
-- M_k25
section
set_option maxHeartbeats 0
namespace LAW
open PySem PySem.Spec PyProof.Rows L2 PySem.SeqAt PySem.W PL
abbrev P0 : Program := PySem.Challenge.pw_arrowbench_k25_differences
def top (i : Nat) : Stmt := P0.main.body.getD i (.Pass ⟨0, 0, 0, 0⟩)
abbrev DEP : Nat := 10
abbrev s__law_same : Stmt := top 28
abbrev s_once_eased : Stmt := top 11
abbrev s_eased : Stmt := top 12
abbrev s_round_back : Stmt := top 21
abbrev s_clash_of : Stmt := top 20
abbrev s_is_integer : Stmt := top 7
abbrev s_is_between : Stmt := top 8
abbrev s_is_ask : Stmt := top 17
abbrev s_is_list : Stmt := top 9
abbrev s_check_asks : Stmt := top 18
abbrev s_surely_at_most : Stmt := top 23
abbrev s_clash : Stmt := top 22
abbrev s_settled : Stmt := top 19
abbrev s__law_asked : Stmt := top 35
abbrev s__law_blamed : Stmt := top 31
abbrev s__law_copy : Stmt := top 30
abbrev s__law_take : Stmt := top 27
abbrev s__law_refused_right : Stmt := top 37
abbrev s__law_row : Stmt := top 32
abbrev s__law_whole : Stmt := top 29
abbrev s__law_is_clash : Stmt := top 33
abbrev s__law_right : Stmt := top 36
abbrev s__law_asks : Stmt := top 34
abbrev s__law_box : Stmt := top 26
abbrev s__law_cell : Stmt := top 25
abbrev s_law : Stmt := top 38
def blt : List Str := [Str.ofString "bool", Str.ofString "isinstance", Str.ofString "int", Str.ofString "list", Str.ofString "tuple", Str.ofString "len", Str.ofString "all", Str.ofString "range", Str.ofString "enumerate", Str.ofString "sum", Str.ofString "abs", Str.ofString "dict", Str.ofString "str", Str.ofString "min", Str.ofString "max"]
def flds : List Str := [Str.ofString "asks", Str.ofString "given"]
def exns : List Str := [Str.ofString "ArrowError", Str.ofString "InvalidAsks", Str.ofString "InvalidIndex", Str.ofString "Clash"]
def exms : List (Str × Str × Bool) := [(Str.ofString "ArrowError", Str.ofString "ArrowError", true), (Str.ofString "InvalidAsks", Str.ofString "ArrowError", true), (Str.ofString "InvalidIndex", Str.ofString "ArrowError", true), (Str.ofString "Clash", Str.ofString "ArrowError", true), (Str.ofString "ArrowError", Str.ofString "Clash", false), (Str.ofString "InvalidAsks", Str.ofString "Clash", false), (Str.ofString "InvalidIndex", Str.ofString "Clash", false), (Str.ofString "Clash", Str.ofString "Clash", true), (Str.ofString "ArrowError", Str.ofString "InvalidAsks", false), (Str.ofString "InvalidAsks", Str.ofString "InvalidAsks", true), (Str.ofString "InvalidIndex", Str.ofString "InvalidAsks", false), (Str.ofString "Clash", Str.ofString "InvalidAsks", false), (Str.ofString "ArrowError", Str.ofString "InvalidIndex", false), (Str.ofString "InvalidAsks", Str.ofString "InvalidIndex", false), (Str.ofString "InvalidIndex", Str.ofString "InvalidIndex", true), (Str.ofString "Clash", Str.ofString "InvalidIndex", false)]
structure Fc (K : PySem.W.Frag) (mg : Str → Option Value) : Prop where
  n : ∀ x ∈ blt, mg x = none
  i_MANY : ∃ t, mg (Str.ofString "MANY") = some (.int 9 t)
  i_MOST_ASKS : ∃ t, mg (Str.ofString "MOST_ASKS") = some (.int 40 t)
  i_MOST_NUMBER : ∃ t, mg (Str.ofString "MOST_NUMBER") = some (.int 1000 t)
  g_ArrowError : mg (Str.ofString "ArrowError") = some (.ref (He.ga K (Str.ofString "ArrowError")))
  g_InvalidAsks : mg (Str.ofString "InvalidAsks") = some (.ref (He.ga K (Str.ofString "InvalidAsks")))
  g_InvalidIndex : mg (Str.ofString "InvalidIndex") = some (.ref (He.ga K (Str.ofString "InvalidIndex")))
  g_Clash : mg (Str.ofString "Clash") = some (.ref (He.ga K (Str.ofString "Clash")))
  exm : ∀ q ∈ exms, ∀ C D, mg q.1 = some (.ref C) → mg q.2.1 = some (.ref D) → PySem.W.exmOne K (.ref C) (.ref D) = some q.2.2
  xf : ∀ y ∈ exns, ∀ C, mg y = some (.ref C) → XfC K C ∧ ∀ f ∈ flds, PySem.W.findIn K (.ref C) f = some none
abbrev N__law_same : List Str := [Str.ofString "told", Str.ofString "due", Str.ofString "k", Str.ofString "key"]
abbrev P__law_same : List Str := [Str.ofString "told", Str.ofString "due"]
noncomputable def lc__law_same_0 (Fr : Fn) : M RV :=
    mLc (mRg1 (mCons (mCall lenF (mCons (mVar 1) mNil)) mNil)) [2] (gNm 2) (mNot (mTr (mFn 2 Fr (mCons (mOp ixT (mVar 0) (mVar 2)) (mCons (mOp ixT (mVar 1) (mVar 2)) mNil))))) (mVar 2)
noncomputable def lc__law_same_1 (Fr : Fn) : M RV :=
    mLc (mIt (mVar 1)) [3] (gNm 3) (mOr (mB (mOp opNin (mVar 3) (mVar 0))) (mNot (mTr (mFn 2 Fr (mCons (mOp ixT (mVar 0) (mVar 3)) (mCons (mOp ixT (mVar 1) (mVar 3)) mNil)))))) (mVar 3)
noncomputable def lc__law_same_2 (Fr : Fn) : M RV :=
    mLc (mRg1 (mCons (mCall lenF (mCons (mVar 1) mNil)) mNil)) [2] (gNm 2) (mB (mOp opNe (mSl (mVar 0) (mPart (mVar 2)) (mPart (mOp opAdd (mVar 2) (mC (.int 1))))) (mOp ixT (mVar 1) (mVar 2)))) (mVar 2)
noncomputable def m__law_same (Fr : Fn) : M Fl :=
    (mSeq (mIfS (mB (mOp opIs (mVar 1) (mC .non)))
    (mSeq (mRet (mOp opIs (mVar 0) (mC .non)))
    mNx)
    mNx)
    (mSeq (mIfS (mTr (mIsi [.bl] (mVar 1)))
    (mSeq (mRet (mAndV (mIsi [.bl] (mVar 0)) (mOp opEq (mOp opIs (mVar 0) (mC (.bl true))) (mOp opIs (mVar 1) (mC (.bl true))))))
    mNx)
    mNx)
    (mSeq (mIfS (mTr (mIsi [.int] (mVar 1)))
    (mSeq (mRet (mAndV (mIsi [.int] (mVar 0)) (mAndV (mNotV (mIsi [.bl] (mVar 0))) (mOp opEq (mOp opSub (mCall intF (mCons (mVar 0) mNil)) (mVar 1)) (mC (.int 0))))))
    mNx)
    mNx)
    (mSeq (mIfS (mTr (mIsi [.str] (mVar 1)))
    (mSeq (mRet (mAndV (mIsi [.str] (mVar 0)) (mAndV (mOp opEq (mCall lenF (mCons (mVar 0) mNil)) (mCall lenF (mCons (mVar 1) mNil))) (mOp opEq (lc__law_same_2 Fr) (mLst mNil)))))
    mNx)
    mNx)
    (mSeq (mIfS (mTr (mIsi [.dct] (mVar 1)))
    (mSeq (mRet (mAndV (mIsi [.dct] (mVar 0)) (mAndV (mOp opEq (mCall lenF (mCons (mVar 0) mNil)) (mCall lenF (mCons (mVar 1) mNil))) (mOp opEq (lc__law_same_1 Fr) (mLst mNil)))))
    mNx)
    mNx)
    (mSeq (mIfS (mOr (mNot (mTr (mIsi [.lst, .tup] (mVar 1)))) (mNot (mTr (mIsi [.lst, .tup] (mVar 0)))))
    (mSeq (mRet (mC (.bl false)))
    mNx)
    mNx)
    (mSeq (mIfS (mOr (mB (mOp opNe (mIsi [.lst] (mVar 0)) (mIsi [.lst] (mVar 1)))) (mB (mOp opNe (mCall lenF (mCons (mVar 0) mNil)) (mCall lenF (mCons (mVar 1) mNil)))))
    (mSeq (mRet (mC (.bl false)))
    mNx)
    mNx)
    (mSeq (mRet (mOp opEq (lc__law_same_0 Fr) (mLst mNil)))
    mNx))))))))
noncomputable def F__law_same : Nat → Fn
  | 0 => fun _ _ => .st
  | d + 1 => fnM 4 (m__law_same (F__law_same d))
theorem sc__law_same : FnScope N__law_same P__law_same (defScope s__law_same) := ⟨rfl, rfl, rfl, by decide +kernel, rfl, by decide +kernel, by decide +kernel⟩
abbrev N_once_eased : List Str := [Str.ofString "arcs", Str.ofString "numbers", Str.ofString "found", Str.ofString "tail", Str.ofString "head", Str.ofString "weight"]
abbrev P_once_eased : List Str := [Str.ofString "arcs", Str.ofString "numbers"]
noncomputable def fb_once_eased_0 : M Fl :=
    (mSeq (mIfS (mAnd (mB (mOp opIsN (mOp ixT (mVar 2) (mVar 3)) (mC .non))) (mOr (mB (mOp opIs (mOp ixT (mVar 2) (mVar 4)) (mC .non))) (mB (mOp opLt (mOp opAdd (mOp ixT (mVar 2) (mVar 3)) (mVar 5)) (mOp ixT (mVar 2) (mVar 4))))))
    (mSeq (mAsg (mOp opAdd (mOp ixT (mVar 2) (mVar 3)) (mVar 5)) (hFz (gSb (mVar 2) (mVar 4))))
    mNx)
    mNx)
    mNx)
noncomputable def fo_once_eased_0 : M Fl :=
    mFor (mIt (mVar 0)) (gTp 3 (gsC (gNm 3) (gsC (gNm 4) (gsC (gNm 5) gsN)))) fb_once_eased_0
noncomputable def m_once_eased : M Fl :=
    (mSeq (mSet 2 (mCall listF (mCons (mVar 1) mNil)))
    (mSeq fo_once_eased_0
    (mSeq (mRet (mVar 2))
    mNx)))
noncomputable def F_once_eased : Fn := fnM 6 m_once_eased
theorem sc_once_eased : FnScope N_once_eased P_once_eased (defScope s_once_eased) := ⟨rfl, rfl, rfl, by decide +kernel, rfl, by decide +kernel, by decide +kernel⟩
abbrev N_eased : List Str := [Str.ofString "arcs", Str.ofString "numbers", Str.ofString "found", Str.ofString "_"]
abbrev P_eased : List Str := [Str.ofString "arcs", Str.ofString "numbers"]
noncomputable def fb_eased_0 : M Fl :=
    (mSeq (mSet 2 (mFn 2 F_once_eased (mCons (mVar 0) (mCons (mVar 2) mNil))))
    mNx)
noncomputable def fo_eased_0 : M Fl :=
    mFor (mIt (mVar 1)) (gNm 3) fb_eased_0
noncomputable def m_eased : M Fl :=
    (mSeq (mSet 2 (mCall listF (mCons (mVar 1) mNil)))
    (mSeq fo_eased_0
    (mSeq (mRet (mIf (mB (mOp opEq (mFn 2 F_once_eased (mCons (mVar 0) (mCons (mVar 2) mNil))) (mVar 2))) (mVar 2) (mC .non)))
    mNx)))
noncomputable def F_eased : Fn := fnM 4 m_eased
theorem sc_eased : FnScope N_eased P_eased (defScope s_eased) := ⟨rfl, rfl, rfl, by decide +kernel, rfl, by decide +kernel, by decide +kernel⟩
abbrev N_round_back : List Str := [Str.ofString "asks", Str.ofString "by", Str.ofString "index", Str.ofString "_", Str.ofString "places", Str.ofString "at"]
abbrev P_round_back : List Str := [Str.ofString "asks", Str.ofString "by", Str.ofString "index"]
noncomputable def wb_round_back_0 : M Fl :=
    (mSeq (mDrop (mMt appF (mVar 4) (mCons (mOp ixT (mVar 1) (mVar 5)) mNil)))
    (mSeq (mSet 5 (mOp ixT (mOp ixT (mVar 0) (mOp ixT (mVar 1) (mVar 5))) (mC (.int 0))))
    mNx))
noncomputable def wt_round_back_0 : M Bool :=
    (mB (mOp opNe (mVar 5) (mVar 2)))
noncomputable def wh_round_back_0 : M Fl :=
    mWh wt_round_back_0 wb_round_back_0
noncomputable def fb_round_back_0 : M Fl :=
    (mSeq (mSet 2 (mOp ixT (mOp ixT (mVar 0) (mOp ixT (mVar 1) (mVar 2))) (mC (.int 0))))
    mNx)
noncomputable def fo_round_back_0 : M Fl :=
    mFor (mRg1 (mCons (mC (.int 9)) mNil)) (gNm 3) fb_round_back_0
noncomputable def m_round_back : M Fl :=
    (mSeq fo_round_back_0
    (mSeq (mTpd 2 (mCons (mLst (mCons (mOp ixT (mVar 1) (mVar 2)) mNil)) (mCons (mOp ixT (mOp ixT (mVar 0) (mOp ixT (mVar 1) (mVar 2))) (mC (.int 0))) mNil)) (hsC (hNm 4) (hsC (hNm 5) hsN)))
    (mSeq wh_round_back_0
    (mSeq (mRet (mCall tupleF (mCons (mRev (mVar 4)) mNil)))
    mNx))))
noncomputable def F_round_back : Fn := fnM 6 m_round_back
theorem sc_round_back : FnScope N_round_back P_round_back (defScope s_round_back) := ⟨rfl, rfl, rfl, by decide +kernel, rfl, by decide +kernel, by decide +kernel⟩
abbrev N_clash_of : List Str := [Str.ofString "asks", Str.ofString "_", Str.ofString "numbers", Str.ofString "by", Str.ofString "changed", Str.ofString "place", Str.ofString "one", Str.ofString "other", Str.ofString "number"]
abbrev P_clash_of : List Str := [Str.ofString "asks"]
noncomputable def fb_clash_of_0 : M Fl :=
    (mSeq (mIfS (mB (mOp opLt (mOp opAdd (mOp ixT (mVar 2) (mVar 6)) (mVar 8)) (mOp ixT (mVar 2) (mVar 7))))
    (mSeq (mTpd 2 (mCons (mOp opAdd (mOp ixT (mVar 2) (mVar 6)) (mVar 8)) (mCons (mVar 5) mNil)) (hsC (hFz (gSb (mVar 2) (mVar 7))) (hsC (hFz (gSb (mVar 3) (mVar 7))) hsN)))
    (mSeq (mDrop (mMt appF (mVar 4) (mCons (mVar 7) mNil)))
    mNx))
    mNx)
    mNx)
noncomputable def fo_clash_of_0 : M Fl :=
    mFor (mEn (mVar 0)) (gTp 2 (gsC (gNm 5) (gsC (gTp 3 (gsC (gNm 6) (gsC (gNm 7) (gsC (gNm 8) gsN)))) gsN))) fb_clash_of_0
noncomputable def fb_clash_of_1 : M Fl :=
    (mSeq (mSet 4 (mLst mNil))
    (mSeq fo_clash_of_0
    (mSeq (mIfS (mB (mOp opEq (mVar 4) (mLst mNil)))
    (mSeq (mRet (mC .non))
    mNx)
    mNx)
    mNx)))
noncomputable def fo_clash_of_1 : M Fl :=
    mFor (mRg1 (mCons (mC (.int 9)) mNil)) (gNm 1) fb_clash_of_1
noncomputable def m_clash_of : M Fl :=
    (mSeq (mTpd 2 (mCons (mOp opMul (mLst (mCons (mC (.int 0)) mNil)) (mC (.int 9))) (mCons (mOp opMul (mLst (mCons (mC .non) mNil)) (mC (.int 9))) mNil)) (hsC (hNm 2) (hsC (hNm 3) hsN)))
    (mSeq fo_clash_of_1
    (mSeq (mRet (mFn 3 F_round_back (mCons (mVar 0) (mCons (mVar 3) (mCons (mOp ixT (mVar 4) (mC (.int 0))) mNil)))))
    mNx)))
noncomputable def F_clash_of : Fn := fnM 9 m_clash_of
theorem sc_clash_of : FnScope N_clash_of P_clash_of (defScope s_clash_of) := ⟨rfl, rfl, rfl, by decide +kernel, rfl, by decide +kernel, by decide +kernel⟩
abbrev N_is_integer : List Str := [Str.ofString "value"]
abbrev P_is_integer : List Str := [Str.ofString "value"]
noncomputable def m_is_integer : M Fl :=
    (mSeq (mRet (mAndV (mIsi [.int] (mVar 0)) (mNotV (mIsi [.bl] (mVar 0)))))
    mNx)
noncomputable def F_is_integer : Fn := fnM 1 m_is_integer
theorem sc_is_integer : FnScope N_is_integer P_is_integer (defScope s_is_integer) := ⟨rfl, rfl, rfl, by decide +kernel, rfl, by decide +kernel, by decide +kernel⟩
abbrev N_is_between : List Str := [Str.ofString "value", Str.ofString "least", Str.ofString "most"]
abbrev P_is_between : List Str := [Str.ofString "value", Str.ofString "least", Str.ofString "most"]
noncomputable def m_is_between : M Fl :=
    (mSeq (mRet (mAndV (mFn 1 F_is_integer (mCons (mVar 0) mNil)) (mCh opLe opLe (mVar 1) (mVar 0) (mVar 2))))
    mNx)
noncomputable def F_is_between : Fn := fnM 3 m_is_between
theorem sc_is_between : FnScope N_is_between P_is_between (defScope s_is_between) := ⟨rfl, rfl, rfl, by decide +kernel, rfl, by decide +kernel, by decide +kernel⟩
abbrev N_is_ask : List Str := [Str.ofString "value"]
abbrev P_is_ask : List Str := [Str.ofString "value"]
noncomputable def m_is_ask : M Fl :=
    (mSeq (mIfS (mOr (mNot (mTr (mIsi [.tup] (mVar 0)))) (mOr (mB (mOp opNe (mCall lenF (mCons (mVar 0) mNil)) (mC (.int 3)))) (mNot (mTr (mFn 3 F_is_between (mCons (mOp ixT (mVar 0) (mC (.int 2))) (mCons (mUn (fun i => -i) (mC (.int 1000))) (mCons (mC (.int 1000)) mNil))))))))
    (mSeq (mRet (mC (.bl false)))
    mNx)
    mNx)
    (mSeq (mRet (mAndV (mFn 3 F_is_between (mCons (mOp ixT (mVar 0) (mC (.int 0))) (mCons (mC (.int 0)) (mCons (mOp opSub (mC (.int 9)) (mC (.int 1))) mNil)))) (mFn 3 F_is_between (mCons (mOp ixT (mVar 0) (mC (.int 1))) (mCons (mC (.int 0)) (mCons (mOp opSub (mC (.int 9)) (mC (.int 1))) mNil))))))
    mNx))
noncomputable def F_is_ask : Fn := fnM 1 m_is_ask
theorem sc_is_ask : FnScope N_is_ask P_is_ask (defScope s_is_ask) := ⟨rfl, rfl, rfl, by decide +kernel, rfl, by decide +kernel, by decide +kernel⟩
abbrev N_is_list : List Str := [Str.ofString "value"]
abbrev P_is_list : List Str := [Str.ofString "value"]
noncomputable def m_is_list : M Fl :=
    (mSeq (mRet (mIsi [.lst, .tup] (mVar 0)))
    mNx)
noncomputable def F_is_list : Fn := fnM 1 m_is_list
theorem sc_is_list : FnScope N_is_list P_is_list (defScope s_is_list) := ⟨rfl, rfl, rfl, by decide +kernel, rfl, by decide +kernel, by decide +kernel⟩
abbrev N_check_asks : List Str := [Str.ofString "asks", Str.ofString "item"]
abbrev P_check_asks : List Str := [Str.ofString "asks"]
noncomputable def lc_check_asks_0 : M RV :=
    mLc (mIt (mVar 0)) [1] (gNm 1) mYes (mFn 1 F_is_ask (mCons (mVar 1) mNil))
noncomputable def m_check_asks : M Fl :=
    (mSeq (mIfS (mOr (mNot (mTr (mFn 1 F_is_list (mCons (mVar 0) mNil)))) (mOr (mB (mOp opGt (mCall lenF (mCons (mVar 0) mNil)) (mC (.int 40)))) (mNot (mTr (mCall allF (mCons lc_check_asks_0 mNil))))))
    (mSeq (mRaise (Str.ofString "InvalidAsks") [Str.ofString "given"] (mCons (mVar 0) mNil))
    mNx)
    mNx)
    mNx)
noncomputable def F_check_asks : Fn := fnM 2 m_check_asks
theorem sc_check_asks : FnScope N_check_asks P_check_asks (defScope s_check_asks) := ⟨rfl, rfl, rfl, by decide +kernel, rfl, by decide +kernel, by decide +kernel⟩
abbrev N_surely_at_most : List Str := [Str.ofString "asks", Str.ofString "one", Str.ofString "other", Str.ofString "index", Str.ofString "places", Str.ofString "place"]
abbrev P_surely_at_most : List Str := [Str.ofString "asks", Str.ofString "one", Str.ofString "other"]
noncomputable def lc_surely_at_most_0 : M RV :=
    mLc (mRg1 (mCons (mC (.int 9)) mNil)) [5] (gNm 5) mYes (mIf (mB (mOp opEq (mVar 5) (mVar 1))) (mC (.int 0)) (mC .non))
noncomputable def fb_surely_at_most_0 : M Fl :=
    (mSeq (mIfS (mNot (mTr (mFn 3 F_is_between (mCons (mVar 3) (mCons (mC (.int 0)) (mCons (mOp opSub (mC (.int 9)) (mC (.int 1))) mNil))))))
    (mSeq (mRaise (Str.ofString "InvalidIndex") [Str.ofString "given"] (mCons (mVar 3) mNil))
    mNx)
    mNx)
    mNx)
noncomputable def fo_surely_at_most_0 : M Fl :=
    mFor (mIt (mTup (mCons (mVar 1) (mCons (mVar 2) mNil)))) (gNm 3) fb_surely_at_most_0
noncomputable def m_surely_at_most : M Fl :=
    (mSeq (mDrop (mFn 1 F_check_asks (mCons (mVar 0) mNil)))
    (mSeq fo_surely_at_most_0
    (mSeq (mSet 4 (mFn 1 F_clash_of (mCons (mVar 0) mNil)))
    (mSeq (mIfS (mB (mOp opIsN (mVar 4) (mC .non)))
    (mSeq (mRaise (Str.ofString "Clash") [Str.ofString "asks"] (mCons (mVar 4) mNil))
    mNx)
    mNx)
    (mSeq (mRet (mOp ixT (mFn 2 F_eased (mCons (mVar 0) (mCons lc_surely_at_most_0 mNil))) (mVar 2)))
    mNx)))))
noncomputable def F_surely_at_most : Fn := fnM 6 m_surely_at_most
theorem sc_surely_at_most : FnScope N_surely_at_most P_surely_at_most (defScope s_surely_at_most) := ⟨rfl, rfl, rfl, by decide +kernel, rfl, by decide +kernel, by decide +kernel⟩
abbrev N_clash : List Str := [Str.ofString "asks"]
abbrev P_clash : List Str := [Str.ofString "asks"]
noncomputable def m_clash : M Fl :=
    (mSeq (mDrop (mFn 1 F_check_asks (mCons (mVar 0) mNil)))
    (mSeq (mRet (mFn 1 F_clash_of (mCons (mVar 0) mNil)))
    mNx))
noncomputable def F_clash : Fn := fnM 1 m_clash
theorem sc_clash : FnScope N_clash P_clash (defScope s_clash) := ⟨rfl, rfl, rfl, by decide +kernel, rfl, by decide +kernel, by decide +kernel⟩
abbrev N_settled : List Str := [Str.ofString "asks", Str.ofString "found"]
abbrev P_settled : List Str := [Str.ofString "asks"]
noncomputable def m_settled : M Fl :=
    (mSeq (mDrop (mFn 1 F_check_asks (mCons (mVar 0) mNil)))
    (mSeq (mSet 1 (mFn 2 F_eased (mCons (mVar 0) (mCons (mOp opMul (mLst (mCons (mC (.int 0)) mNil)) (mC (.int 9))) mNil))))
    (mSeq (mRet (mIf (mB (mOp opIs (mVar 1) (mC .non))) (mC .non) (mCall tupleF (mCons (mVar 1) mNil))))
    mNx)))
noncomputable def F_settled : Fn := fnM 2 m_settled
theorem sc_settled : FnScope N_settled P_settled (defScope s_settled) := ⟨rfl, rfl, rfl, by decide +kernel, rfl, by decide +kernel, by decide +kernel⟩
abbrev N__law_asked : List Str := [Str.ofString "way", Str.ofString "by_name", Str.ofString "asks", Str.ofString "one", Str.ofString "other", Str.ofString "e"]
abbrev P__law_asked : List Str := [Str.ofString "way", Str.ofString "by_name", Str.ofString "asks", Str.ofString "one", Str.ofString "other"]
noncomputable def m__law_asked : M Fl :=
    (mSeq (mTry (mSeq (mIfS (mB (mOp opEq (mVar 0) (mC (.int 0))))
    (mSeq (mRet (mLst (mCons (mC (.str (Str.ofString "told"))) (mCons (mIf (mTr (mVar 1)) (mFnK 1 [0] 1 F_settled (mCons (mVar 2) mNil)) (mFn 1 F_settled (mCons (mVar 2) mNil))) mNil))))
    mNx)
    mNx)
    (mSeq (mIfS (mB (mOp opEq (mVar 0) (mC (.int 1))))
    (mSeq (mRet (mLst (mCons (mC (.str (Str.ofString "told"))) (mCons (mIf (mTr (mVar 1)) (mFnK 1 [0] 1 F_clash (mCons (mVar 2) mNil)) (mFn 1 F_clash (mCons (mVar 2) mNil))) mNil))))
    mNx)
    mNx)
    (mSeq (mRet (mLst (mCons (mC (.str (Str.ofString "told"))) (mCons (mIf (mTr (mVar 1)) (mFnK 3 [2, 1, 0] 3 F_surely_at_most (mCons (mVar 4) (mCons (mVar 3) (mCons (mVar 2) mNil)))) (mFn 3 F_surely_at_most (mCons (mVar 2) (mCons (mVar 3) (mCons (mVar 4) mNil))))) mNil))))
    mNx)))
    [⟨(subOf [(Str.ofString "ArrowError", false), (Str.ofString "InvalidAsks", true), (Str.ofString "InvalidIndex", false), (Str.ofString "Clash", false)]), (some 5), fun a dd y => (mSeq (mRet (mLst (mCons (mC (.str (Str.ofString "asks"))) (mCons (mXf a dd y 5 (Str.ofString "given")) mNil))))
    mNx)⟩,
     ⟨(subOf [(Str.ofString "ArrowError", false), (Str.ofString "InvalidAsks", false), (Str.ofString "InvalidIndex", true), (Str.ofString "Clash", false)]), (some 5), fun a dd y => (mSeq (mRet (mLst (mCons (mC (.str (Str.ofString "index"))) (mCons (mXf a dd y 5 (Str.ofString "given")) mNil))))
    mNx)⟩,
     ⟨(subOf [(Str.ofString "ArrowError", false), (Str.ofString "InvalidAsks", false), (Str.ofString "InvalidIndex", false), (Str.ofString "Clash", true)]), (some 5), fun a dd y => (mSeq (mRet (mLst (mCons (mC (.str (Str.ofString "clash"))) (mCons (mXf a dd y 5 (Str.ofString "asks")) mNil))))
    mNx)⟩,
     ⟨(subOf [(Str.ofString "ArrowError", true), (Str.ofString "InvalidAsks", true), (Str.ofString "InvalidIndex", true), (Str.ofString "Clash", true)]), none, fun a dd y => (mSeq (mRet (mLst (mCons (mC (.str (Str.ofString "other"))) (mCons (mC .non) mNil))))
    mNx)⟩])
    mNx)
noncomputable def F__law_asked : Fn := fnM 6 m__law_asked
theorem sc__law_asked : FnScope N__law_asked P__law_asked (defScope s__law_asked) := ⟨rfl, rfl, rfl, by decide +kernel, rfl, by decide +kernel, by decide +kernel⟩
abbrev N__law_blamed : List Str := [Str.ofString "given", Str.ofString "value"]
abbrev P__law_blamed : List Str := [Str.ofString "given", Str.ofString "value"]
noncomputable def m__law_blamed : M Fl :=
    (mSeq (mIfS (mNot (mTr (mFn 2 (F__law_same DEP) (mCons (mVar 0) (mCons (mVar 1) mNil)))))
    (mSeq (mRet (mC (.bl false)))
    mNx)
    mNx)
    (mSeq (mIfS (mTr (mIsi [.lst] (mVar 1)))
    (mSeq (mDrop (mMt appF (mVar 1) (mCons (mC (.int 7)) mNil)))
    mNx)
    mNx)
    (mSeq (mRet (mFn 2 (F__law_same DEP) (mCons (mVar 0) (mCons (mVar 1) mNil))))
    mNx)))
noncomputable def F__law_blamed : Fn := fnM 2 m__law_blamed
theorem sc__law_blamed : FnScope N__law_blamed P__law_blamed (defScope s__law_blamed) := ⟨rfl, rfl, rfl, by decide +kernel, rfl, by decide +kernel, by decide +kernel⟩
abbrev N__law_copy : List Str := [Str.ofString "value"]
abbrev P__law_copy : List Str := [Str.ofString "value"]
noncomputable def m__law_copy : M Fl :=
    (mSeq (mRet (mIf (mTr (mIsi [.lst] (mVar 0))) (mCall listF (mCons (mVar 0) mNil)) (mVar 0)))
    mNx)
noncomputable def F__law_copy : Fn := fnM 1 m__law_copy
theorem sc__law_copy : FnScope N__law_copy P__law_copy (defScope s__law_copy) := ⟨rfl, rfl, rfl, by decide +kernel, rfl, by decide +kernel, by decide +kernel⟩
abbrev N__law_take : List Str := [Str.ofString "box", Str.ofString "many", Str.ofString "mixed", Str.ofString "digit"]
abbrev P__law_take : List Str := [Str.ofString "box", Str.ofString "many"]
noncomputable def m__law_take : M Fl :=
    (mSeq (mIfS (mAnd (mTr (mOp ixT (mVar 0) (mC (.int 1)))) (mB (mOp opGt (mOp ixT (mVar 0) (mC (.int 0))) (mC (.int 0)))))
    (mSeq (mSet 3 (mOp opMod (mCall intF (mCons (mOp ixT (mVar 0) (mC (.int 0))) mNil)) (mVar 1)))
    (mSeq (mAsg (mOp opFdiv (mOp ixT (mVar 0) (mC (.int 0))) (mVar 1)) (hFz (gSb (mVar 0) (mC (.int 0)))))
    (mSeq (mRet (mVar 3))
    mNx)))
    mNx)
    (mSeq (mAsg (mOp opAdd (mOp ixT (mVar 0) (mC (.int 3))) (mC (.int 1))) (hFz (gSb (mVar 0) (mC (.int 3)))))
    (mSeq (mSet 2 (mOp opMod (mCall intF (mCons (mOp opPow (mOp opAdd (mOp opAdd (mOp ixT (mVar 0) (mC (.int 2))) (mOp opMul (mC (.int 15485867)) (mOp ixT (mVar 0) (mC (.int 3))))) (mC (.int 179424691))) (mC (.int 5))) mNil)) (mC (.int 2147483647))))
    (mSeq (mRet (mOp opMod (mCall intF (mCons (mOp opFdiv (mOp opMod (mCall intF (mCons (mOp opPow (mOp opAdd (mOp opMul (mVar 2) (mC (.int 48271))) (mOp opMul (mC (.int 104743)) (mOp ixT (mVar 0) (mC (.int 3))))) (mC (.int 3))) mNil)) (mC (.int 2147483587))) (mC (.int 64))) mNil)) (mVar 1)))
    mNx))))
noncomputable def F__law_take : Fn := fnM 4 m__law_take
theorem sc__law_take : FnScope N__law_take P__law_take (defScope s__law_take) := ⟨rfl, rfl, rfl, by decide +kernel, rfl, by decide +kernel, by decide +kernel⟩
abbrev N__law_refused_right : List Str := [Str.ofString "box", Str.ofString "asks", Str.ofString "at", Str.ofString "bad", Str.ofString "rows", Str.ofString "way", Str.ofString "plain", Str.ofString "index", Str.ofString "odd", Str.ofString "found", Str.ofString "told"]
abbrev P__law_refused_right : List Str := [Str.ofString "box", Str.ofString "asks"]
noncomputable def fb__law_refused_right_0 : M Fl :=
    (mSeq (mSet 10 (mLst (mCons (mFn 5 F__law_asked (mCons (mC (.int 2)) (mCons (mC (.bl true)) (mCons (mVar 6) (mCons (mVar 7) (mCons (mVar 7) mNil)))))) (mCons (mFn 5 F__law_asked (mCons (mC (.int 2)) (mCons (mC (.bl false)) (mCons (mVar 6) (mCons (mC (.int 0)) (mCons (mVar 7) mNil)))))) mNil))))
    (mSeq (mIfS (mNot (mTr (mFn 2 (F__law_same DEP) (mCons (mVar 10) (mCons (mLst (mCons (mLst (mCons (mC (.str (Str.ofString "index"))) (mCons (mVar 7) mNil))) (mCons (mLst (mCons (mC (.str (Str.ofString "index"))) (mCons (mVar 7) mNil))) mNil))) mNil)))))
    (mSeq (mRet (mC (.bl false)))
    mNx)
    mNx)
    mNx))
noncomputable def fo__law_refused_right_0 : M Fl :=
    mFor (mIt (mLst (mCons (mC .non) (mCons (mC (.bl true)) (mCons (mUn (fun i => -i) (mC (.int 1))) (mCons (mC (.int 9)) (mCons (mC (.str (Str.ofString "0"))) (mCons (mTup (mCons (mC (.int 0)) mNil)) (mCons mDcz0 mNil))))))))) (gNm 7) fb__law_refused_right_0
noncomputable def fb__law_refused_right_1 : M Fl :=
    (mSeq (mSetC 8 (mFn 1 F__law_copy (mCons (mOp ixT (mVar 4) (mFn 2 F__law_take (mCons (mVar 0) (mCons (mC (.int 8)) mNil)))) mNil)))
    (mSeq (mSet 9 (mFn 5 F__law_asked (mCons (mVar 5) (mCons (mOp opEq (mVar 5) (mC (.int 1))) (mCons (mVar 8) (mCons (mC .non) (mCons (mC .non) mNil)))))))
    (mSeq (mIfS (mOr (mB (mOp opNe (mOp ixT (mVar 9) (mC (.int 0))) (mC (.str (Str.ofString "asks"))))) (mNot (mTr (mFn 2 F__law_blamed (mCons (mOp ixT (mVar 9) (mC (.int 1))) (mCons (mVar 8) mNil))))))
    (mSeq (mRet (mC (.bl false)))
    mNx)
    mNx)
    mNx)))
noncomputable def fo__law_refused_right_1 : M Fl :=
    mFor (mRg1 (mCons (mC (.int 3)) mNil)) (gNm 5) fb__law_refused_right_1
noncomputable def m__law_refused_right : M Fl :=
    (mSeq (mSet 2 (mFn 2 F__law_take (mCons (mVar 0) (mCons (mOp opAdd (mCall lenF (mCons (mVar 1) mNil)) (mC (.int 1))) mNil))))
    (mSeq (mSet 3 (mOp ixT (mLst (mCons (mC .non) (mCons (mTup (mCons (mC (.int 0)) (mCons (mC (.int 1)) mNil))) (mCons (mTup (mCons (mC (.int 0)) (mCons (mC (.int 1)) (mCons (mC (.int 2)) (mCons (mC (.int 3)) mNil))))) (mCons (mLst (mCons (mC (.int 0)) (mCons (mC (.int 1)) (mCons (mC (.int 2)) mNil)))) (mCons (mTup (mCons (mC (.int 9)) (mCons (mC (.int 0)) (mCons (mC (.int 1)) mNil)))) (mCons (mTup (mCons (mC (.int 0)) (mCons (mUn (fun i => -i) (mC (.int 1))) (mCons (mC (.int 1)) mNil)))) (mCons (mTup (mCons (mC (.int 0)) (mCons (mC (.int 1)) (mCons (mC (.int 1001)) mNil)))) (mCons (mTup (mCons (mC (.int 0)) (mCons (mC (.int 1)) (mCons (mUn (fun i => -i) (mC (.int 1001))) mNil)))) (mCons (mTup (mCons (mC (.int 0)) (mCons (mC (.int 1)) (mCons (mC .non) mNil)))) (mCons (mTup (mCons (mC (.bl true)) (mCons (mC (.int 1)) (mCons (mC (.int 0)) mNil)))) (mCons (mTup (mCons (mC (.int 0)) (mCons (mC (.int 1)) (mCons (mC (.bl true)) mNil)))) (mCons (mTup (mCons (mC (.str (Str.ofString "0"))) (mCons (mC (.int 1)) (mCons (mC (.int 0)) mNil)))) (mCons (mC (.int 5)) mNil)))))))))))))) (mFn 2 F__law_take (mCons (mVar 0) (mCons (mC (.int 13)) mNil)))))
    (mSeq (mSet 4 (mLst (mCons (mOp opAdd (mOp opAdd (mCall listF (mCons (mSl (mVar 1) mNoP (mPart (mVar 2))) mNil)) (mLst (mCons (mVar 3) mNil))) (mCall listF (mCons (mSl (mVar 1) (mPart (mVar 2)) mNoP) mNil))) (mCons (mC .non) (mCons (mC (.int 5)) (mCons (mC (.str (Str.ofString "asks"))) (mCons mDcz0 (mCons (mOp opMul (mLst (mCons (mTup (mCons (mC (.int 0)) (mCons (mC (.int 1)) (mCons (mC (.int 0)) mNil)))) mNil)) (mC (.int 41))) (mCons (mDcz1 (.inr (Str.ofString "a")) (.int 1)) (mCons (mTup (mCons (mVar 3) mNil)) mNil))))))))))
    (mSeq fo__law_refused_right_1
    (mSeq (mSet 6 (mLst (mCons (mTup (mCons (mC (.int 0)) (mCons (mC (.int 1)) (mCons (mC (.int 3)) mNil)))) (mCons (mTup (mCons (mC (.int 1)) (mCons (mC (.int 2)) (mCons (mUn (fun i => -i) (mC (.int 1))) mNil)))) mNil))))
    (mSeq fo__law_refused_right_0
    (mSeq (mRet (mAndV (mFn 2 (F__law_same DEP) (mCons (mFn 5 F__law_asked (mCons (mC (.int 2)) (mCons (mC (.bl false)) (mCons (mVar 6) (mCons (mC (.int 0)) (mCons (mC (.int 2)) mNil)))))) (mCons (mLst (mCons (mC (.str (Str.ofString "told"))) (mCons (mC (.int 2)) mNil))) mNil))) (mFn 2 (F__law_same DEP) (mCons (mFn 5 F__law_asked (mCons (mC (.int 2)) (mCons (mC (.bl true)) (mCons (mVar 6) (mCons (mC (.int 2)) (mCons (mC (.int 0)) mNil)))))) (mCons (mLst (mCons (mC (.str (Str.ofString "told"))) (mCons (mC .non) mNil))) mNil)))))
    mNx)))))))
noncomputable def F__law_refused_right : Fn := fnM 11 m__law_refused_right
theorem sc__law_refused_right : FnScope N__law_refused_right P__law_refused_right (defScope s__law_refused_right) := ⟨rfl, rfl, rfl, by decide +kernel, rfl, by decide +kernel, by decide +kernel⟩
abbrev N__law_row : List Str := [Str.ofString "asks", Str.ofString "starts", Str.ofString "turn", Str.ofString "row", Str.ofString "less", Str.ofString "x", Str.ofString "y", Str.ofString "number", Str.ofString "at"]
abbrev P__law_row : List Str := [Str.ofString "asks", Str.ofString "starts"]
noncomputable def fb__law_row_0 : M Fl :=
    (mSeq (mIfS (mAnd (mB (mOp opIsN (mOp ixT (mVar 3) (mVar 5)) (mC .non))) (mOr (mB (mOp opIs (mOp ixT (mVar 3) (mVar 6)) (mC .non))) (mB (mOp opLt (mOp opAdd (mOp ixT (mVar 3) (mVar 5)) (mVar 7)) (mOp ixT (mVar 3) (mVar 6))))))
    (mSeq (mTpd 2 (mCons (mOp opAdd (mOp ixT (mVar 3) (mVar 5)) (mVar 7)) (mCons (mC (.bl true)) mNil)) (hsC (hFz (gSb (mVar 3) (mVar 6))) (hsC (hNm 4) hsN)))
    mNx)
    mNx)
    mNx)
noncomputable def fo__law_row_0 : M Fl :=
    mFor (mIt (mVar 0)) (gTp 3 (gsC (gNm 5) (gsC (gNm 6) (gsC (gNm 7) gsN)))) fb__law_row_0
noncomputable def fb__law_row_1 : M Fl :=
    (mSeq (mSet 4 (mC (.bl false)))
    (mSeq fo__law_row_0
    mNx))
noncomputable def fo__law_row_1 : M Fl :=
    mFor (mRg1 (mCons (mC (.int 10)) mNil)) (gNm 2) fb__law_row_1
noncomputable def lc__law_row_0 : M RV :=
    mLc (mRg1 (mCons (mC (.int 9)) mNil)) [8] (gNm 8) mYes (mIf (mB (mOp opIn (mVar 8) (mVar 1))) (mC (.int 0)) (mC .non))
noncomputable def m__law_row : M Fl :=
    (mSeq (mTpd 2 (mCons lc__law_row_0 (mCons (mC (.bl false)) mNil)) (hsC (hNm 3) (hsC (hNm 4) hsN)))
    (mSeq fo__law_row_1
    (mSeq (mRet (mLst (mCons (mVar 3) (mCons (mVar 4) mNil))))
    mNx)))
noncomputable def F__law_row : Fn := fnM 9 m__law_row
theorem sc__law_row : FnScope N__law_row P__law_row (defScope s__law_row) := ⟨rfl, rfl, rfl, by decide +kernel, rfl, by decide +kernel, by decide +kernel⟩
abbrev N__law_whole : List Str := [Str.ofString "value"]
abbrev P__law_whole : List Str := [Str.ofString "value"]
noncomputable def m__law_whole : M Fl :=
    (mSeq (mRet (mAndV (mIsi [.int] (mVar 0)) (mNotV (mIsi [.bl] (mVar 0)))))
    mNx)
noncomputable def F__law_whole : Fn := fnM 1 m__law_whole
theorem sc__law_whole : FnScope N__law_whole P__law_whole (defScope s__law_whole) := ⟨rfl, rfl, rfl, by decide +kernel, rfl, by decide +kernel, by decide +kernel⟩
abbrev N__law_is_clash : List Str := [Str.ofString "asks", Str.ofString "value", Str.ofString "k", Str.ofString "at"]
abbrev P__law_is_clash : List Str := [Str.ofString "asks", Str.ofString "value"]
noncomputable def lc__law_is_clash_0 : M RV :=
    mLc (mIt (mVar 1)) [3] (gNm 3) mYes (mOp ixT (mOp ixT (mVar 0) (mVar 3)) (mC (.int 2)))
noncomputable def fb__law_is_clash_0 : M Fl :=
    (mSeq (mIfS (mB (mOp opNe (mOp ixT (mOp ixT (mVar 0) (mOp ixT (mVar 1) (mOp opSub (mVar 2) (mC (.int 1))))) (mC (.int 1))) (mOp ixT (mOp ixT (mVar 0) (mOp ixT (mVar 1) (mVar 2))) (mC (.int 0)))))
    (mSeq (mRet (mC (.bl false)))
    mNx)
    mNx)
    mNx)
noncomputable def fo__law_is_clash_0 : M Fl :=
    mFor (mRg1 (mCons (mCall lenF (mCons (mVar 1) mNil)) mNil)) (gNm 2) fb__law_is_clash_0
noncomputable def lc__law_is_clash_1 : M RV :=
    mLc (mIt (mVar 1)) [3] (gNm 3) (mOr (mNot (mTr (mFn 1 F__law_whole (mCons (mVar 3) mNil)))) (mNot (mB (mCh opLe opLt (mC (.int 0)) (mVar 3) (mCall lenF (mCons (mVar 0) mNil)))))) (mVar 3)
noncomputable def m__law_is_clash : M Fl :=
    (mSeq (mIfS (mOr (mNot (mTr (mIsi [.tup] (mVar 1)))) (mOr (mB (mOp opEq (mCall lenF (mCons (mVar 1) mNil)) (mC (.int 0)))) (mB (mOp opNe lc__law_is_clash_1 (mLst mNil)))))
    (mSeq (mRet (mC (.bl false)))
    mNx)
    mNx)
    (mSeq fo__law_is_clash_0
    (mSeq (mRet (mOp opLt (mCall sumF (mCons lc__law_is_clash_0 mNil)) (mC (.int 0))))
    mNx)))
noncomputable def F__law_is_clash : Fn := fnM 4 m__law_is_clash
theorem sc__law_is_clash : FnScope N__law_is_clash P__law_is_clash (defScope s__law_is_clash) := ⟨rfl, rfl, rfl, by decide +kernel, rfl, by decide +kernel, by decide +kernel⟩
abbrev N__law_right : List Str := [Str.ofString "box", Str.ofString "asks", Str.ofString "by_name", Str.ofString "turn", Str.ofString "again", Str.ofString "row", Str.ofString "less", Str.ofString "given", Str.ofString "told", Str.ofString "found", Str.ofString "one", Str.ofString "other"]
abbrev P__law_right : List Str := [Str.ofString "box", Str.ofString "asks", Str.ofString "by_name"]
noncomputable def fb__law_right_0 : M Fl :=
    (mSeq (mTpd 2 (mCons (mFn 2 F__law_take (mCons (mVar 0) (mCons (mC (.int 9)) mNil))) (mCons (mFn 2 F__law_take (mCons (mVar 0) (mCons (mC (.int 9)) mNil))) mNil)) (hsC (hNm 10) (hsC (hNm 11) hsN)))
    (mSeq (mSet 9 (mFn 5 F__law_asked (mCons (mC (.int 2)) (mCons (mOp opGt (mVar 3) (mC (.int 2))) (mCons (mCall listF (mCons (mVar 1) mNil)) (mCons (mVar 10) (mCons (mVar 11) mNil)))))))
    (mSeq (mIfS (mAnd (mTr (mVar 6)) (mOr (mB (mOp opNe (mOp ixT (mVar 9) (mC (.int 0))) (mC (.str (Str.ofString "clash"))))) (mNot (mTr (mFn 2 F__law_is_clash (mCons (mVar 1) (mCons (mOp ixT (mVar 9) (mC (.int 1))) mNil)))))))
    (mSeq (mRet (mC (.bl false)))
    mNx)
    mNx)
    (mSeq (mIfS (mAnd (mNot (mTr (mVar 6))) (mNot (mTr (mFn 2 (F__law_same DEP) (mCons (mVar 9) (mCons (mLst (mCons (mC (.str (Str.ofString "told"))) (mCons (mOp ixT (mOp ixT (mFn 2 F__law_row (mCons (mVar 1) (mCons (mLst (mCons (mVar 10) mNil)) mNil))) (mC (.int 0))) (mVar 11)) mNil))) mNil))))))
    (mSeq (mRet (mC (.bl false)))
    mNx)
    mNx)
    mNx))))
noncomputable def fo__law_right_0 : M Fl :=
    mFor (mRg1 (mCons (mC (.int 5)) mNil)) (gNm 3) fb__law_right_0
noncomputable def fb__law_right_1 : M Fl :=
    (mSeq (mSet 7 (mIf (mB (mOp opEq (mVar 3) (mC (.int 0)))) (mCall listF (mCons (mVar 1) mNil)) (mCall tupleF (mCons (mVar 1) mNil))))
    (mSeq (mSet 8 (mLst (mCons (mFn 5 F__law_asked (mCons (mC (.int 0)) (mCons (mVar 2) (mCons (mVar 7) (mCons (mC .non) (mCons (mC .non) mNil)))))) (mCons (mFn 5 F__law_asked (mCons (mC (.int 1)) (mCons (mNotV (mVar 2)) (mCons (mVar 7) (mCons (mC .non) (mCons (mC .non) mNil)))))) mNil))))
    (mSeq (mIfS (mOr (mNot (mTr (mFn 2 (F__law_same DEP) (mCons (mOp ixT (mVar 8) (mC (.int 0))) (mCons (mLst (mCons (mC (.str (Str.ofString "told"))) (mCons (mIf (mTr (mVar 6)) (mC .non) (mCall tupleF (mCons (mVar 5) mNil))) mNil))) mNil))))) (mOr (mB (mOp opNe (mOp ixT (mOp ixT (mVar 8) (mC (.int 1))) (mC (.int 0))) (mC (.str (Str.ofString "told"))))) (mB (mOp opEq (mOp opIs (mOp ixT (mOp ixT (mVar 8) (mC (.int 1))) (mC (.int 1))) (mC .non)) (mVar 6)))))
    (mSeq (mRet (mC (.bl false)))
    mNx)
    mNx)
    (mSeq (mIfS (mAnd (mTr (mVar 6)) (mNot (mTr (mFn 2 F__law_is_clash (mCons (mVar 1) (mCons (mOp ixT (mOp ixT (mVar 8) (mC (.int 1))) (mC (.int 1))) mNil))))))
    (mSeq (mRet (mC (.bl false)))
    mNx)
    mNx)
    mNx))))
noncomputable def fo__law_right_1 : M Fl :=
    mFor (mRg1 (mCons (mC (.int 2)) mNil)) (gNm 3) fb__law_right_1
noncomputable def m__law_right : M Fl :=
    (mSeq (mAsg (mFn 2 F__law_row (mCons (mVar 1) (mCons (mLr1 (mC (.int 9))) mNil))) (hFz (gTp 2 (gsC (gNm 5) (gsC (gNm 6) gsN)))))
    (mSeq fo__law_right_1
    (mSeq fo__law_right_0
    (mSeq (mSet 4 (mFn 5 F__law_asked (mCons (mC (.int 1)) (mCons (mVar 2) (mCons (mCall listF (mCons (mVar 1) mNil)) (mCons (mC .non) (mCons (mC .non) mNil)))))))
    (mSeq (mRet (mOrV (mAndV (mOp opIs (mOp ixT (mOp ixT (mVar 8) (mC (.int 1))) (mC (.int 1))) (mC .non)) (mOp opIs (mOp ixT (mVar 4) (mC (.int 1))) (mC .non))) (mAndV (mIsi [.tup] (mOp ixT (mVar 4) (mC (.int 1)))) (mFn 2 (F__law_same DEP) (mCons (mOp ixT (mVar 4) (mC (.int 1))) (mCons (mOp ixT (mOp ixT (mVar 8) (mC (.int 1))) (mC (.int 1))) mNil))))))
    mNx)))))
noncomputable def F__law_right : Fn := fnM 12 m__law_right
theorem sc__law_right : FnScope N__law_right P__law_right (defScope s__law_right) := ⟨rfl, rfl, rfl, by decide +kernel, rfl, by decide +kernel, by decide +kernel⟩
abbrev N__law_asks : List Str := [Str.ofString "box", Str.ofString "few", Str.ofString "turn", Str.ofString "tops", Str.ofString "way", Str.ofString "found", Str.ofString "x", Str.ofString "y", Str.ofString "number", Str.ofString "at"]
abbrev P__law_asks : List Str := [Str.ofString "box"]
noncomputable def fb__law_asks_0 : M Fl :=
    (mSeq (mTpd 2 (mCons (mFn 2 F__law_take (mCons (mVar 0) (mCons (mVar 1) mNil))) (mCons (mFn 2 F__law_take (mCons (mVar 0) (mCons (mVar 1) mNil))) mNil)) (hsC (hNm 6) (hsC (hNm 7) hsN)))
    (mSeq (mDrop (mMt appF (mVar 5) (mCons (mTup (mCons (mVar 6) (mCons (mVar 7) (mCons (mIf (mB (mOp opLt (mVar 4) (mC (.int 3)))) (mOp opAdd (mOp opSub (mOp ixT (mVar 3) (mVar 7)) (mOp ixT (mVar 3) (mVar 6))) (mFn 2 F__law_take (mCons (mVar 0) (mCons (mC (.int 4)) mNil)))) (mOp opSub (mFn 2 F__law_take (mCons (mVar 0) (mCons (mC (.int 9)) mNil))) (mC (.int 3)))) mNil)))) mNil)))
    mNx))
noncomputable def fo__law_asks_0 : M Fl :=
    mFor (mRg1 (mCons (mIf (mB (mOp opEq (mFn 2 F__law_take (mCons (mVar 0) (mCons (mC (.int 8)) mNil))) (mC (.int 0)))) (mC (.int 40)) (mFn 2 F__law_take (mCons (mVar 0) (mCons (mC (.int 10)) mNil)))) mNil)) (gNm 2) fb__law_asks_0
noncomputable def lc__law_asks_0 : M RV :=
    mLc (mRg1 (mCons (mC (.int 9)) mNil)) [9] (gNm 9) mYes (mOp opSub (mFn 2 F__law_take (mCons (mVar 0) (mCons (mC (.int 41)) mNil))) (mC (.int 20)))
noncomputable def m__law_asks : M Fl :=
    (mSeq (mTpd 3 (mCons lc__law_asks_0 (mCons (mFn 2 F__law_take (mCons (mVar 0) (mCons (mC (.int 4)) mNil))) (mCons (mLst mNil) mNil))) (hsC (hNm 3) (hsC (hNm 4) (hsC (hNm 5) hsN))))
    (mSeq (mSet 1 (mOp opAdd (mC (.int 2)) (mFn 2 F__law_take (mCons (mVar 0) (mCons (mC (.int 8)) mNil)))))
    (mSeq fo__law_asks_0
    (mSeq (mIfS (mAnd (mB (mOp opEq (mVar 4) (mC (.int 1)))) (mB (mOp opNe (mVar 5) (mLst mNil))))
    (mSeq (mAsg (mOp ixT (mVar 5) (mFn 2 F__law_take (mCons (mVar 0) (mCons (mCall lenF (mCons (mVar 5) mNil)) mNil)))) (hFz (gTp 3 (gsC (gNm 6) (gsC (gNm 7) (gsC (gNm 8) gsN))))))
    (mSeq (mAsg (mTup (mCons (mVar 7) (mCons (mVar 6) (mCons (mOp opSub (mUn (fun i => -i) (mVar 8)) (mFn 2 F__law_take (mCons (mVar 0) (mCons (mC (.int 3)) mNil)))) mNil)))) (hFz (gSb (mVar 5) (mFn 2 F__law_take (mCons (mVar 0) (mCons (mCall lenF (mCons (mVar 5) mNil)) mNil))))))
    mNx))
    mNx)
    (mSeq (mRet (mVar 5))
    mNx)))))
noncomputable def F__law_asks : Fn := fnM 10 m__law_asks
theorem sc__law_asks : FnScope N__law_asks P__law_asks (defScope s__law_asks) := ⟨rfl, rfl, rfl, by decide +kernel, rfl, by decide +kernel, by decide +kernel⟩
abbrev N__law_box : List Str := [Str.ofString "great"]
abbrev P__law_box : List Str := [Str.ofString "great"]
noncomputable def m__law_box : M Fl :=
    (mSeq (mRet (mLst (mCons (mCall absF (mCons (mVar 0) mNil)) (mCons (mOp opGe (mCall absF (mCons (mVar 0) mNil)) (mOp opPow (mC (.int 10)) (mC (.int 18)))) (mCons (mOp opMod (mCall intF (mCons (mCall absF (mCons (mVar 0) mNil)) mNil)) (mC (.int 2147483629))) (mCons (mC (.int 0)) mNil))))))
    mNx)
noncomputable def F__law_box : Fn := fnM 1 m__law_box
theorem sc__law_box : FnScope N__law_box P__law_box (defScope s__law_box) := ⟨rfl, rfl, rfl, by decide +kernel, rfl, by decide +kernel, by decide +kernel⟩
abbrev N__law_cell : List Str := [Str.ofString "script", Str.ofString "k"]
abbrev P__law_cell : List Str := [Str.ofString "script", Str.ofString "k"]
noncomputable def m__law_cell : M Fl :=
    (mSeq (mRet (mIf (mB (mOp opLt (mVar 1) (mCall lenF (mCons (mVar 0) mNil)))) (mOp ixT (mVar 0) (mVar 1)) (mOp opAdd (mOp opMul (mC (.int 7547)) (mVar 1)) (mOp opMod (mCall intF (mCons (mCall sumF (mCons (mSl (mVar 0) mNoP (mPart (mC (.int 1)))) mNil)) mNil)) (mC (.int 1000003))))))
    mNx)
noncomputable def F__law_cell : Fn := fnM 2 m__law_cell
theorem sc__law_cell : FnScope N__law_cell P__law_cell (defScope s__law_cell) := ⟨rfl, rfl, rfl, by decide +kernel, rfl, by decide +kernel, by decide +kernel⟩
abbrev N_law : List Str := [Str.ofString "script", Str.ofString "k", Str.ofString "box", Str.ofString "asks"]
abbrev P_law : List Str := [Str.ofString "script"]
noncomputable def fb_law_0 : M Fl :=
    (mSeq (mSetC 2 (mFn 1 F__law_box (mCons (mFn 2 F__law_cell (mCons (mVar 0) (mCons (mVar 1) mNil))) mNil)))
    (mSeq (mSet 3 (mFn 1 F__law_asks (mCons (mVar 2) mNil)))
    (mSeq (mIfS (mOr (mNot (mTr (mFn 3 F__law_right (mCons (mVar 2) (mCons (mVar 3) (mCons (mOp opEq (mFn 2 F__law_take (mCons (mVar 2) (mCons (mC (.int 2)) mNil))) (mC (.int 0))) mNil)))))) (mNot (mTr (mFn 2 F__law_refused_right (mCons (mVar 2) (mCons (mVar 3) mNil))))))
    (mSeq (mRet (mC (.bl false)))
    mNx)
    mNx)
    mNx)))
noncomputable def fo_law_0 : M Fl :=
    mFor (mRg1 (mCons (mCall max2F (mCons (mC (.int 2)) (mCons (mCall min2F (mCons (mC (.int 5)) (mCons (mCall lenF (mCons (mVar 0) mNil)) mNil))) mNil))) mNil)) (gNm 1) fb_law_0
noncomputable def m_law : M Fl :=
    (mSeq fo_law_0
    (mSeq (mRet (mC (.bl true)))
    mNx))
noncomputable def F_law : Fn := fnM 4 m_law
theorem sc_law : FnScope N_law P_law (defScope s_law) := ⟨rfl, rfl, rfl, by decide +kernel, rfl, by decide +kernel, by decide +kernel⟩
end LAW
end
-- W_k25
section
set_option maxHeartbeats 0
namespace LAW
open PySem PySem.Spec PyProof.Rows L2 PySem.SeqAt PySem.W PL
theorem ok__law_same {P : Program} {w : World} {K : PySem.W.Frag} {mg : Str → Option Value} {base : Heap} {f : Addr} {fd : FuncData} (fc : Fc K mg) (FD : FunD K (Str.ofString "_law_same") (Str.ofString "_law_same") (defArgs s__law_same) (defBody s__law_same) (defScope s__law_same) [] [] f fd) (hm : mg (Str.ofString "_law_same") = some (.ref f)) : ∀ d, Ce P w K mg base (Str.ofString "_law_same") s__law_same (1 + d) P__law_same (F__law_same d)
  | 0 => ⟨f, fd, FD, fnOk_no fun _ _ => rfl, hm, (FD.bindsN fun _ _ _ _ _ _ us hl => match us, hl with | [_, _], _ => rfl)⟩
  | d + 1 => by
    have nd := (sc__law_same).nd
    have Cr := ok__law_same (P := P) (w := w) (base := base) fc FD hm  d
    refine ⟨f, fd, FD, okP (k := 1 + d) FD sc__law_same fun cdv A outer s H E hr => ?_, hm, (FD.bindsN fun _ _ _ _ _ _ us hl => match us, hl with | [_, _], _ => rfl)⟩
    unfold m__law_same
    exact (jss_cons (js_if (jt_cmp o_is (je_var (i := 1) rfl (by first | exact .inl rfl | exact .inr (.inl rfl) | exact .inr (.inr rfl))) je_non (nomark _))
    (jss_cons (js_ret (je_cmp o_is (je_var (i := 0) rfl (by first | exact .inl rfl | exact .inr (.inl rfl) | exact .inr (.inr rfl))) je_non (nomark _)))
    jss_nil)
    jss_nil)
    (jss_cons (js_if (jt_tr (je_isi (c := .bl) (by decide) rfl (fc.n _ (by decide : (Str.ofString "isinstance") ∈ blt)) (je_var (i := 1) rfl (by first | exact .inl rfl | exact .inr (.inl rfl) | exact .inr (.inr rfl))) (pe_ty (c := .bl) rfl (fc.n _ (by decide : (Str.ofString "bool") ∈ blt)) (by decide +kernel))))
    (jss_cons (js_ret (je_and (je_isi (c := .bl) (by decide) rfl (fc.n _ (by decide : (Str.ofString "isinstance") ∈ blt)) (je_var (i := 0) rfl (by first | exact .inl rfl | exact .inr (.inl rfl) | exact .inr (.inr rfl))) (pe_ty (c := .bl) rfl (fc.n _ (by decide : (Str.ofString "bool") ∈ blt)) (by decide +kernel))) (je_one (je_cmp (o_eq (roomU hr)) (je_cmp o_is (je_var (i := 0) rfl (by first | exact .inl rfl | exact .inr (.inl rfl) | exact .inr (.inr rfl))) je_bl (nomark _)) (je_cmp o_is (je_var (i := 1) rfl (by first | exact .inl rfl | exact .inr (.inl rfl) | exact .inr (.inr rfl))) je_bl (nomark _)) (nomark _)))))
    jss_nil)
    jss_nil)
    (jss_cons (js_if (jt_tr (je_isi (c := .int) (by decide) rfl (fc.n _ (by decide : (Str.ofString "isinstance") ∈ blt)) (je_var (i := 1) rfl (by first | exact .inl rfl | exact .inr (.inl rfl) | exact .inr (.inr rfl))) (pe_ty (c := .int) rfl (fc.n _ (by decide : (Str.ofString "int") ∈ blt)) (by decide +kernel))))
    (jss_cons (js_ret (je_and (je_isi (c := .int) (by decide) rfl (fc.n _ (by decide : (Str.ofString "isinstance") ∈ blt)) (je_var (i := 0) rfl (by first | exact .inl rfl | exact .inr (.inl rfl) | exact .inr (.inr rfl))) (pe_ty (c := .int) rfl (fc.n _ (by decide : (Str.ofString "int") ∈ blt)) (by decide +kernel))) (je_and (je_not (je_isi (c := .bl) (by decide) rfl (fc.n _ (by decide : (Str.ofString "isinstance") ∈ blt)) (je_var (i := 0) rfl (by first | exact .inl rfl | exact .inr (.inl rfl) | exact .inr (.inr rfl))) (pe_ty (c := .bl) rfl (fc.n _ (by decide : (Str.ofString "bool") ∈ blt)) (by decide +kernel)))) (je_one (je_cmp (o_eq (roomU hr)) (je_op o_sub (je_callTy c_int rfl (fc.n _ (by decide : (Str.ofString "int") ∈ blt)) (by decide +kernel) (ja_cons (je_var (i := 0) rfl (by first | exact .inl rfl | exact .inr (.inl rfl) | exact .inr (.inr rfl))) ja_nil)) (je_var (i := 1) rfl (by first | exact .inl rfl | exact .inr (.inl rfl) | exact .inr (.inr rfl)))) je_int (nomark _))))))
    jss_nil)
    jss_nil)
    (jss_cons (js_if (jt_tr (je_isi (c := .str) (by decide) rfl (fc.n _ (by decide : (Str.ofString "isinstance") ∈ blt)) (je_var (i := 1) rfl (by first | exact .inl rfl | exact .inr (.inl rfl) | exact .inr (.inr rfl))) (pe_ty (c := .str) rfl (fc.n _ (by decide : (Str.ofString "str") ∈ blt)) (by decide +kernel))))
    (jss_cons (js_ret (je_and (je_isi (c := .str) (by decide) rfl (fc.n _ (by decide : (Str.ofString "isinstance") ∈ blt)) (je_var (i := 0) rfl (by first | exact .inl rfl | exact .inr (.inl rfl) | exact .inr (.inr rfl))) (pe_ty (c := .str) rfl (fc.n _ (by decide : (Str.ofString "str") ∈ blt)) (by decide +kernel))) (je_and (je_cmp (o_eq (roomU hr)) (je_callB c_len rfl (fc.n _ (by decide : (Str.ofString "len") ∈ blt)) (by decide +kernel) (ja_cons (je_var (i := 0) rfl (by first | exact .inl rfl | exact .inr (.inl rfl) | exact .inr (.inr rfl))) ja_nil)) (je_callB c_len rfl (fc.n _ (by decide : (Str.ofString "len") ∈ blt)) (by decide +kernel) (ja_cons (je_var (i := 1) rfl (by first | exact .inl rfl | exact .inr (.inl rfl) | exact .inr (.inr rfl))) ja_nil)) (nomark _)) (je_one (je_cmp (o_eq (roomU hr)) (je_lcE [((Str.ofString "k"), 2)] rfl rfl nd (ji_rng1 rfl (fc.n _ (by decide : (Str.ofString "range") ∈ blt)) (ja_cons (je_callB c_len rfl (fc.n _ (by decide : (Str.ofString "len") ∈ blt)) (by decide +kernel) (ja_cons (je_var (i := 1) rfl (by first | exact .inl rfl | exact .inr (.inl rfl) | exact .inr (.inr rfl))) ja_nil)) ja_nil)) (blkOk_by (show blkC N__law_same (defScope s__law_same) _ _ = true by decide +kernel)) (fun _ _ _ _ _ => (jg_nm (i := 2) nd rfl (by first | exact .inl rfl | exact .inr rfl))) (fun _ _ _ _ _ => (jts_one (jt_cmp (o_ne (roomU hr)) (je_sl (je_var (i := 0) rfl (by first | exact .inl rfl | exact .inr (.inl rfl) | exact .inr (.inr rfl))) (jo_some (je_var (i := 2) rfl (by first | exact .inl rfl | exact .inr (.inl rfl) | exact .inr (.inr rfl)))) (jo_some (je_op o_add (je_var (i := 2) rfl (by first | exact .inl rfl | exact .inr (.inl rfl) | exact .inr (.inr rfl))) je_int))) (je_ix (roomU hr) (je_var (i := 1) rfl (by first | exact .inl rfl | exact .inr (.inl rfl) | exact .inr (.inr rfl))) (je_var (i := 2) rfl (by first | exact .inl rfl | exact .inr (.inl rfl) | exact .inr (.inr rfl)))) (nomark _)))) (fun _ _ _ _ _ => (je_var (i := 2) rfl (by first | exact .inl rfl | exact .inr (.inl rfl) | exact .inr (.inr rfl))))) (je_lst ja_nil) (nomark _))))))
    jss_nil)
    jss_nil)
    (jss_cons (js_if (jt_tr (je_isi (c := .dct) (by decide) rfl (fc.n _ (by decide : (Str.ofString "isinstance") ∈ blt)) (je_var (i := 1) rfl (by first | exact .inl rfl | exact .inr (.inl rfl) | exact .inr (.inr rfl))) (pe_ty (c := .dct) rfl (fc.n _ (by decide : (Str.ofString "dict") ∈ blt)) (by decide +kernel))))
    (jss_cons (js_ret (je_and (je_isi (c := .dct) (by decide) rfl (fc.n _ (by decide : (Str.ofString "isinstance") ∈ blt)) (je_var (i := 0) rfl (by first | exact .inl rfl | exact .inr (.inl rfl) | exact .inr (.inr rfl))) (pe_ty (c := .dct) rfl (fc.n _ (by decide : (Str.ofString "dict") ∈ blt)) (by decide +kernel))) (je_and (je_cmp (o_eq (roomU hr)) (je_callB c_len rfl (fc.n _ (by decide : (Str.ofString "len") ∈ blt)) (by decide +kernel) (ja_cons (je_var (i := 0) rfl (by first | exact .inl rfl | exact .inr (.inl rfl) | exact .inr (.inr rfl))) ja_nil)) (je_callB c_len rfl (fc.n _ (by decide : (Str.ofString "len") ∈ blt)) (by decide +kernel) (ja_cons (je_var (i := 1) rfl (by first | exact .inl rfl | exact .inr (.inl rfl) | exact .inr (.inr rfl))) ja_nil)) (nomark _)) (je_one (je_cmp (o_eq (roomU hr)) (je_lcE [((Str.ofString "key"), 3)] rfl rfl nd (ji_any (je_var (i := 1) rfl (by first | exact .inl rfl | exact .inr (.inl rfl) | exact .inr (.inr rfl)))) (blkOk_by (show blkC N__law_same (defScope s__law_same) _ _ = true by decide +kernel)) (fun _ _ _ _ _ => (jg_nm (i := 3) nd rfl (by first | exact .inl rfl | exact .inr rfl))) (fun _ _ _ _ _ => (jts_one (JW.jt (jw_or (jt_cmp (o_nin (roomU hr)) (je_var (i := 3) rfl (by first | exact .inl rfl | exact .inr (.inl rfl) | exact .inr (.inr rfl))) (je_var (i := 0) rfl (by first | exact .inl rfl | exact .inr (.inl rfl) | exact .inr (.inr rfl))) (by rfl)) (jw_or1 (jt_not (jt_tr (je_cl Cr (by omega) hr takes0 rfl (ja_cons (je_ix (roomU hr) (je_var (i := 0) rfl (by first | exact .inl rfl | exact .inr (.inl rfl) | exact .inr (.inr rfl))) (je_var (i := 3) rfl (by first | exact .inl rfl | exact .inr (.inl rfl) | exact .inr (.inr rfl)))) (ja_cons (je_ix (roomU hr) (je_var (i := 1) rfl (by first | exact .inl rfl | exact .inr (.inl rfl) | exact .inr (.inr rfl))) (je_var (i := 3) rfl (by first | exact .inl rfl | exact .inr (.inl rfl) | exact .inr (.inr rfl)))) ja_nil)) rfl)))))))) (fun _ _ _ _ _ => (je_var (i := 3) rfl (by first | exact .inl rfl | exact .inr (.inl rfl) | exact .inr (.inr rfl))))) (je_lst ja_nil) (nomark _))))))
    jss_nil)
    jss_nil)
    (jss_cons (js_if (JW.jt (jw_or (jt_not (jt_tr (je_isi2 (c := .lst) (c' := .tup) (by decide) (by decide) rfl (fc.n _ (by decide : (Str.ofString "isinstance") ∈ blt)) (je_var (i := 1) rfl (by first | exact .inl rfl | exact .inr (.inl rfl) | exact .inr (.inr rfl))) (pe_ty (c := .lst) rfl (fc.n _ (by decide : (Str.ofString "list") ∈ blt)) (by decide +kernel)) (pe_ty (c := .tup) rfl (fc.n _ (by decide : (Str.ofString "tuple") ∈ blt)) (by decide +kernel))))) (jw_or1 (jt_not (jt_tr (je_isi2 (c := .lst) (c' := .tup) (by decide) (by decide) rfl (fc.n _ (by decide : (Str.ofString "isinstance") ∈ blt)) (je_var (i := 0) rfl (by first | exact .inl rfl | exact .inr (.inl rfl) | exact .inr (.inr rfl))) (pe_ty (c := .lst) rfl (fc.n _ (by decide : (Str.ofString "list") ∈ blt)) (by decide +kernel)) (pe_ty (c := .tup) rfl (fc.n _ (by decide : (Str.ofString "tuple") ∈ blt)) (by decide +kernel))))))))
    (jss_cons (js_ret je_bl)
    jss_nil)
    jss_nil)
    (jss_cons (js_if (JW.jt (jw_or (jt_cmp (o_ne (roomU hr)) (je_isi (c := .lst) (by decide) rfl (fc.n _ (by decide : (Str.ofString "isinstance") ∈ blt)) (je_var (i := 0) rfl (by first | exact .inl rfl | exact .inr (.inl rfl) | exact .inr (.inr rfl))) (pe_ty (c := .lst) rfl (fc.n _ (by decide : (Str.ofString "list") ∈ blt)) (by decide +kernel))) (je_isi (c := .lst) (by decide) rfl (fc.n _ (by decide : (Str.ofString "isinstance") ∈ blt)) (je_var (i := 1) rfl (by first | exact .inl rfl | exact .inr (.inl rfl) | exact .inr (.inr rfl))) (pe_ty (c := .lst) rfl (fc.n _ (by decide : (Str.ofString "list") ∈ blt)) (by decide +kernel))) (nomark _)) (jw_or1 (jt_cmp (o_ne (roomU hr)) (je_callB c_len rfl (fc.n _ (by decide : (Str.ofString "len") ∈ blt)) (by decide +kernel) (ja_cons (je_var (i := 0) rfl (by first | exact .inl rfl | exact .inr (.inl rfl) | exact .inr (.inr rfl))) ja_nil)) (je_callB c_len rfl (fc.n _ (by decide : (Str.ofString "len") ∈ blt)) (by decide +kernel) (ja_cons (je_var (i := 1) rfl (by first | exact .inl rfl | exact .inr (.inl rfl) | exact .inr (.inr rfl))) ja_nil)) (nomark _)))))
    (jss_cons (js_ret je_bl)
    jss_nil)
    jss_nil)
    (jss_cons (js_ret (je_cmp (o_eq (roomU hr)) (je_lcE [((Str.ofString "k"), 2)] rfl rfl nd (ji_rng1 rfl (fc.n _ (by decide : (Str.ofString "range") ∈ blt)) (ja_cons (je_callB c_len rfl (fc.n _ (by decide : (Str.ofString "len") ∈ blt)) (by decide +kernel) (ja_cons (je_var (i := 1) rfl (by first | exact .inl rfl | exact .inr (.inl rfl) | exact .inr (.inr rfl))) ja_nil)) ja_nil)) (blkOk_by (show blkC N__law_same (defScope s__law_same) _ _ = true by decide +kernel)) (fun _ _ _ _ _ => (jg_nm (i := 2) nd rfl (by first | exact .inl rfl | exact .inr rfl))) (fun _ _ _ _ _ => (jts_one (jt_not (jt_tr (je_cl Cr (by omega) hr takes0 rfl (ja_cons (je_ix (roomU hr) (je_var (i := 0) rfl (by first | exact .inl rfl | exact .inr (.inl rfl) | exact .inr (.inr rfl))) (je_var (i := 2) rfl (by first | exact .inl rfl | exact .inr (.inl rfl) | exact .inr (.inr rfl)))) (ja_cons (je_ix (roomU hr) (je_var (i := 1) rfl (by first | exact .inl rfl | exact .inr (.inl rfl) | exact .inr (.inr rfl))) (je_var (i := 2) rfl (by first | exact .inl rfl | exact .inr (.inl rfl) | exact .inr (.inr rfl)))) ja_nil)) rfl))))) (fun _ _ _ _ _ => (je_var (i := 2) rfl (by first | exact .inl rfl | exact .inr (.inl rfl) | exact .inr (.inr rfl))))) (je_lst ja_nil) (nomark _)))
    jss_nil))))))))
theorem ok_once_eased {P : Program} {w : World} {K : PySem.W.Frag} {mg : Str → Option Value} {base : Heap} {f : Addr} {fd : FuncData} (fc : Fc K mg) (FD : FunD K (Str.ofString "once_eased") (Str.ofString "once_eased") (defArgs s_once_eased) (defBody s_once_eased) (defScope s_once_eased) [] [] f fd) (hm : mg (Str.ofString "once_eased") = some (.ref f)) : Ce P w K mg base (Str.ofString "once_eased") s_once_eased 1 P_once_eased F_once_eased := by
  have nd := (sc_once_eased).nd
  refine ⟨f, fd, FD, okP (k := 0) FD sc_once_eased fun cdv A outer s H E hr => ?_, hm, (FD.bindsN fun _ _ _ _ _ _ us hl => match us, hl with | [_, _], _ => rfl)⟩
  unfold m_once_eased
  exact (jss_cons (js_set (i := 2) nd rfl (by first | exact .inl rfl | exact .inr rfl) (je_callTy c_list rfl (fc.n _ (by decide : (Str.ofString "list") ∈ blt)) (by decide +kernel) (ja_cons (je_var (i := 1) rfl (by first | exact .inl rfl | exact .inr (.inl rfl) | exact .inr (.inr rfl))) ja_nil)))
    (jss_cons (js_for passF rfl (ji_any (je_var (i := 0) rfl (by first | exact .inl rfl | exact .inr (.inl rfl) | exact .inr (.inr rfl)))) (jg_tup rfl (jgs_cons (jg_nm (i := 3) nd rfl (by first | exact .inl rfl | exact .inr rfl)) (jgs_cons (jg_nm (i := 4) nd rfl (by first | exact .inl rfl | exact .inr rfl)) (jgs_cons (jg_nm (i := 5) nd rfl (by first | exact .inl rfl | exact .inr rfl)) jgs_nil))))
    (jss_cons (js_if (JW.jt (jw_and (jt_cmp o_isN (je_ix (roomU hr) (je_var (i := 2) rfl (by first | exact .inl rfl | exact .inr (.inl rfl) | exact .inr (.inr rfl))) (je_var (i := 3) rfl (by first | exact .inl rfl | exact .inr (.inl rfl) | exact .inr (.inr rfl)))) je_non (nomark _)) (jw_and1 (JW.jt (jw_or (jt_cmp o_is (je_ix (roomU hr) (je_var (i := 2) rfl (by first | exact .inl rfl | exact .inr (.inl rfl) | exact .inr (.inr rfl))) (je_var (i := 4) rfl (by first | exact .inl rfl | exact .inr (.inl rfl) | exact .inr (.inr rfl)))) je_non (nomark _)) (jw_or1 (jt_cmp (o_lt (roomU hr)) (je_op o_add (je_ix (roomU hr) (je_var (i := 2) rfl (by first | exact .inl rfl | exact .inr (.inl rfl) | exact .inr (.inr rfl))) (je_var (i := 3) rfl (by first | exact .inl rfl | exact .inr (.inl rfl) | exact .inr (.inr rfl)))) (je_var (i := 5) rfl (by first | exact .inl rfl | exact .inr (.inl rfl) | exact .inr (.inr rfl)))) (je_ix (roomU hr) (je_var (i := 2) rfl (by first | exact .inl rfl | exact .inr (.inl rfl) | exact .inr (.inr rfl))) (je_var (i := 4) rfl (by first | exact .inl rfl | exact .inr (.inl rfl) | exact .inr (.inr rfl)))) (nomark _))))))))
    (jss_cons (js_asg (je_op o_add (je_ix (roomU hr) (je_var (i := 2) rfl (by first | exact .inl rfl | exact .inr (.inl rfl) | exact .inr (.inr rfl))) (je_var (i := 3) rfl (by first | exact .inl rfl | exact .inr (.inl rfl) | exact .inr (.inr rfl)))) (je_var (i := 5) rfl (by first | exact .inl rfl | exact .inr (.inl rfl) | exact .inr (.inr rfl)))) (jh_of (W := W0) (jg_sub (je_var (i := 2) rfl (by first | exact .inl rfl | exact .inr (.inl rfl) | exact .inr (.inr rfl))) (je_var (i := 4) rfl (by first | exact .inl rfl | exact .inr (.inl rfl) | exact .inr (.inr rfl))))))
    jss_nil)
    jss_nil)
    jss_nil))
    (jss_cons (js_ret (je_var (i := 2) rfl (by first | exact .inl rfl | exact .inr (.inl rfl) | exact .inr (.inr rfl))))
    jss_nil)))
theorem ok_eased {P : Program} {w : World} {K : PySem.W.Frag} {mg : Str → Option Value} {base : Heap} {f : Addr} {fd : FuncData} (fc : Fc K mg) (FD : FunD K (Str.ofString "eased") (Str.ofString "eased") (defArgs s_eased) (defBody s_eased) (defScope s_eased) [] [] f fd) (hm : mg (Str.ofString "eased") = some (.ref f)) (C_once_eased : Ce P w K mg base (Str.ofString "once_eased") s_once_eased 1 P_once_eased F_once_eased) : Ce P w K mg base (Str.ofString "eased") s_eased 2 P_eased F_eased := by
  have nd := (sc_eased).nd
  refine ⟨f, fd, FD, okP (k := 1) FD sc_eased fun cdv A outer s H E hr => ?_, hm, (FD.bindsN fun _ _ _ _ _ _ us hl => match us, hl with | [_, _], _ => rfl)⟩
  unfold m_eased
  exact (jss_cons (js_set (i := 2) nd rfl (by first | exact .inl rfl | exact .inr rfl) (je_callTy c_list rfl (fc.n _ (by decide : (Str.ofString "list") ∈ blt)) (by decide +kernel) (ja_cons (je_var (i := 1) rfl (by first | exact .inl rfl | exact .inr (.inl rfl) | exact .inr (.inr rfl))) ja_nil)))
    (jss_cons (js_for passF rfl (ji_any (je_var (i := 1) rfl (by first | exact .inl rfl | exact .inr (.inl rfl) | exact .inr (.inr rfl)))) (jg_nm (i := 3) nd rfl (by first | exact .inl rfl | exact .inr rfl))
    (jss_cons (js_set (i := 2) nd rfl (by first | exact .inl rfl | exact .inr rfl) (je_cl C_once_eased (by decide) hr takesF rfl (ja_cons (je_var (i := 0) rfl (by first | exact .inl rfl | exact .inr (.inl rfl) | exact .inr (.inr rfl))) (ja_cons (je_var (i := 2) rfl (by first | exact .inl rfl | exact .inr (.inl rfl) | exact .inr (.inr rfl))) ja_nil)) rfl))
    jss_nil))
    (jss_cons (js_ret (je_if (jt_cmp (o_eq (roomU hr)) (je_cl C_once_eased (by decide) hr takesF rfl (ja_cons (je_var (i := 0) rfl (by first | exact .inl rfl | exact .inr (.inl rfl) | exact .inr (.inr rfl))) (ja_cons (je_var (i := 2) rfl (by first | exact .inl rfl | exact .inr (.inl rfl) | exact .inr (.inr rfl))) ja_nil)) rfl) (je_var (i := 2) rfl (by first | exact .inl rfl | exact .inr (.inl rfl) | exact .inr (.inr rfl))) (nomark _)) (je_var (i := 2) rfl (by first | exact .inl rfl | exact .inr (.inl rfl) | exact .inr (.inr rfl))) je_non))
    jss_nil)))
theorem ok_round_back {P : Program} {w : World} {K : PySem.W.Frag} {mg : Str → Option Value} {base : Heap} {f : Addr} {fd : FuncData} (fc : Fc K mg) (FD : FunD K (Str.ofString "round_back") (Str.ofString "round_back") (defArgs s_round_back) (defBody s_round_back) (defScope s_round_back) [] [] f fd) (hm : mg (Str.ofString "round_back") = some (.ref f)) : Ce P w K mg base (Str.ofString "round_back") s_round_back 1 P_round_back F_round_back := by
  have nd := (sc_round_back).nd
  refine ⟨f, fd, FD, okP (k := 0) FD sc_round_back fun cdv A outer s H E hr => ?_, hm, (FD.bindsN fun _ _ _ _ _ _ us hl => match us, hl with | [_, _, _], _ => rfl)⟩
  unfold m_round_back
  exact (jss_cons (js_for passF rfl (ji_rng1 rfl (fc.n _ (by decide : (Str.ofString "range") ∈ blt)) (ja_cons (je_gint rfl fc.i_MANY) ja_nil)) (jg_nm (i := 3) nd rfl (by first | exact .inl rfl | exact .inr rfl))
    (jss_cons (js_set (i := 2) nd rfl (by first | exact .inl rfl | exact .inr rfl) (je_ix (roomU hr) (je_ix (roomU hr) (je_var (i := 0) rfl (by first | exact .inl rfl | exact .inr (.inl rfl) | exact .inr (.inr rfl))) (je_ix (roomU hr) (je_var (i := 1) rfl (by first | exact .inl rfl | exact .inr (.inl rfl) | exact .inr (.inr rfl))) (je_var (i := 2) rfl (by first | exact .inl rfl | exact .inr (.inl rfl) | exact .inr (.inr rfl))))) je_int))
    jss_nil))
    (jss_cons (js_par2 (i := 4) (j := 5) rfl nd rfl rfl (by decide) rfl rfl (ja_cons (je_lst (ja_cons (je_ix (roomU hr) (je_var (i := 1) rfl (by first | exact .inl rfl | exact .inr (.inl rfl) | exact .inr (.inr rfl))) (je_var (i := 2) rfl (by first | exact .inl rfl | exact .inr (.inl rfl) | exact .inr (.inr rfl)))) ja_nil)) (ja_cons (je_ix (roomU hr) (je_ix (roomU hr) (je_var (i := 0) rfl (by first | exact .inl rfl | exact .inr (.inl rfl) | exact .inr (.inr rfl))) (je_ix (roomU hr) (je_var (i := 1) rfl (by first | exact .inl rfl | exact .inr (.inl rfl) | exact .inr (.inr rfl))) (je_var (i := 2) rfl (by first | exact .inl rfl | exact .inr (.inl rfl) | exact .inr (.inr rfl))))) je_int) ja_nil)) (jns_nm (jns_nm jns_nil)))
    (jss_cons (js_while passF (jt_cmp (o_ne (roomU hr)) (je_var (i := 5) rfl (by first | exact .inl rfl | exact .inr (.inl rfl) | exact .inr (.inr rfl))) (je_var (i := 2) rfl (by first | exact .inl rfl | exact .inr (.inl rfl) | exact .inr (.inr rfl))) (nomark _))
    (jss_cons (js_expr (je_append (je_var (i := 4) rfl (by first | exact .inl rfl | exact .inr (.inl rfl) | exact .inr (.inr rfl))) (ja_cons (je_ix (roomU hr) (je_var (i := 1) rfl (by first | exact .inl rfl | exact .inr (.inl rfl) | exact .inr (.inr rfl))) (je_var (i := 5) rfl (by first | exact .inl rfl | exact .inr (.inl rfl) | exact .inr (.inr rfl)))) ja_nil)))
    (jss_cons (js_set (i := 5) nd rfl (by first | exact .inl rfl | exact .inr rfl) (je_ix (roomU hr) (je_ix (roomU hr) (je_var (i := 0) rfl (by first | exact .inl rfl | exact .inr (.inl rfl) | exact .inr (.inr rfl))) (je_ix (roomU hr) (je_var (i := 1) rfl (by first | exact .inl rfl | exact .inr (.inl rfl) | exact .inr (.inr rfl))) (je_var (i := 5) rfl (by first | exact .inl rfl | exact .inr (.inl rfl) | exact .inr (.inr rfl))))) je_int))
    jss_nil)))
    (jss_cons (js_ret (je_callTy c_tuple rfl (fc.n _ (by decide : (Str.ofString "tuple") ∈ blt)) (by decide +kernel) (ja_cons (je_rev (je_var (i := 4) rfl (by first | exact .inl rfl | exact .inr (.inl rfl) | exact .inr (.inr rfl)))) ja_nil)))
    jss_nil))))
theorem ok_clash_of {P : Program} {w : World} {K : PySem.W.Frag} {mg : Str → Option Value} {base : Heap} {f : Addr} {fd : FuncData} (fc : Fc K mg) (FD : FunD K (Str.ofString "clash_of") (Str.ofString "clash_of") (defArgs s_clash_of) (defBody s_clash_of) (defScope s_clash_of) [] [] f fd) (hm : mg (Str.ofString "clash_of") = some (.ref f)) (C_round_back : Ce P w K mg base (Str.ofString "round_back") s_round_back 1 P_round_back F_round_back) : Ce P w K mg base (Str.ofString "clash_of") s_clash_of 2 P_clash_of F_clash_of := by
  have nd := (sc_clash_of).nd
  refine ⟨f, fd, FD, okP (k := 1) FD sc_clash_of fun cdv A outer s H E hr => ?_, hm, (FD.bindsN fun _ _ _ _ _ _ us hl => match us, hl with | [_], _ => rfl)⟩
  unfold m_clash_of
  exact (jss_cons (js_par2 (i := 2) (j := 3) rfl nd rfl rfl (by decide) rfl rfl (ja_cons (je_op o_mul (je_lst (ja_cons je_int ja_nil)) (je_gint rfl fc.i_MANY)) (ja_cons (je_op o_mul (je_lst (ja_cons je_non ja_nil)) (je_gint rfl fc.i_MANY)) ja_nil)) (jns_nm (jns_nm jns_nil)))
    (jss_cons (js_for passF rfl (ji_rng1 rfl (fc.n _ (by decide : (Str.ofString "range") ∈ blt)) (ja_cons (je_gint rfl fc.i_MANY) ja_nil)) (jg_nm (i := 1) nd rfl (by first | exact .inl rfl | exact .inr rfl))
    (jss_cons (js_set (i := 4) nd rfl (by first | exact .inl rfl | exact .inr rfl) (je_lst ja_nil))
    (jss_cons (js_for passF rfl (ji_en rfl (fc.n _ (by decide : (Str.ofString "enumerate") ∈ blt)) (je_var (i := 0) rfl (by first | exact .inl rfl | exact .inr (.inl rfl) | exact .inr (.inr rfl)))) (jg_tup rfl (jgs_cons (jg_nm (i := 5) nd rfl (by first | exact .inl rfl | exact .inr rfl)) (jgs_cons (jg_tup rfl (jgs_cons (jg_nm (i := 6) nd rfl (by first | exact .inl rfl | exact .inr rfl)) (jgs_cons (jg_nm (i := 7) nd rfl (by first | exact .inl rfl | exact .inr rfl)) (jgs_cons (jg_nm (i := 8) nd rfl (by first | exact .inl rfl | exact .inr rfl)) jgs_nil)))) jgs_nil)))
    (jss_cons (js_if (jt_cmp (o_lt (roomU hr)) (je_op o_add (je_ix (roomU hr) (je_var (i := 2) rfl (by first | exact .inl rfl | exact .inr (.inl rfl) | exact .inr (.inr rfl))) (je_var (i := 6) rfl (by first | exact .inl rfl | exact .inr (.inl rfl) | exact .inr (.inr rfl)))) (je_var (i := 8) rfl (by first | exact .inl rfl | exact .inr (.inl rfl) | exact .inr (.inr rfl)))) (je_ix (roomU hr) (je_var (i := 2) rfl (by first | exact .inl rfl | exact .inr (.inl rfl) | exact .inr (.inr rfl))) (je_var (i := 7) rfl (by first | exact .inl rfl | exact .inr (.inl rfl) | exact .inr (.inr rfl)))) (nomark _))
    (jss_cons (js_tpd rfl (by decide) (ja_cons (je_op o_add (je_ix (roomU hr) (je_var (i := 2) rfl (by first | exact .inl rfl | exact .inr (.inl rfl) | exact .inr (.inr rfl))) (je_var (i := 6) rfl (by first | exact .inl rfl | exact .inr (.inl rfl) | exact .inr (.inr rfl)))) (je_var (i := 8) rfl (by first | exact .inl rfl | exact .inr (.inl rfl) | exact .inr (.inr rfl)))) (ja_cons (je_var (i := 5) rfl (by first | exact .inl rfl | exact .inr (.inl rfl) | exact .inr (.inr rfl))) ja_nil)) (jhs_cons (jh_of (W := W0) (jg_sub (je_var (i := 2) rfl (by first | exact .inl rfl | exact .inr (.inl rfl) | exact .inr (.inr rfl))) (je_var (i := 7) rfl (by first | exact .inl rfl | exact .inr (.inl rfl) | exact .inr (.inr rfl))))) (jhs_cons (jh_of (W := W0) (jg_sub (je_var (i := 3) rfl (by first | exact .inl rfl | exact .inr (.inl rfl) | exact .inr (.inr rfl))) (je_var (i := 7) rfl (by first | exact .inl rfl | exact .inr (.inl rfl) | exact .inr (.inr rfl))))) jhs_nil)))
    (jss_cons (js_expr (je_append (je_var (i := 4) rfl (by first | exact .inl rfl | exact .inr (.inl rfl) | exact .inr (.inr rfl))) (ja_cons (je_var (i := 7) rfl (by first | exact .inl rfl | exact .inr (.inl rfl) | exact .inr (.inr rfl))) ja_nil)))
    jss_nil))
    jss_nil)
    jss_nil))
    (jss_cons (js_if (jt_cmp (o_eq (roomU hr)) (je_var (i := 4) rfl (by first | exact .inl rfl | exact .inr (.inl rfl) | exact .inr (.inr rfl))) (je_lst ja_nil) (nomark _))
    (jss_cons (js_ret je_non)
    jss_nil)
    jss_nil)
    jss_nil))))
    (jss_cons (js_ret (je_cl C_round_back (by decide) hr takesF rfl (ja_cons (je_var (i := 0) rfl (by first | exact .inl rfl | exact .inr (.inl rfl) | exact .inr (.inr rfl))) (ja_cons (je_var (i := 3) rfl (by first | exact .inl rfl | exact .inr (.inl rfl) | exact .inr (.inr rfl))) (ja_cons (je_ix (roomU hr) (je_var (i := 4) rfl (by first | exact .inl rfl | exact .inr (.inl rfl) | exact .inr (.inr rfl))) je_int) ja_nil))) rfl))
    jss_nil)))
theorem ok_is_integer {P : Program} {w : World} {K : PySem.W.Frag} {mg : Str → Option Value} {base : Heap} {f : Addr} {fd : FuncData} (fc : Fc K mg) (FD : FunD K (Str.ofString "is_integer") (Str.ofString "is_integer") (defArgs s_is_integer) (defBody s_is_integer) (defScope s_is_integer) [] [] f fd) (hm : mg (Str.ofString "is_integer") = some (.ref f)) : Ce P w K mg base (Str.ofString "is_integer") s_is_integer 1 P_is_integer F_is_integer := by
  have nd := (sc_is_integer).nd
  refine ⟨f, fd, FD, okP (k := 0) FD sc_is_integer fun cdv A outer s H E hr => ?_, hm, (FD.bindsN fun _ _ _ _ _ _ us hl => match us, hl with | [_], _ => rfl)⟩
  unfold m_is_integer
  exact (jss_cons (js_ret (je_and (je_isi (c := .int) (by decide) rfl (fc.n _ (by decide : (Str.ofString "isinstance") ∈ blt)) (je_var (i := 0) rfl (by first | exact .inl rfl | exact .inr (.inl rfl) | exact .inr (.inr rfl))) (pe_ty (c := .int) rfl (fc.n _ (by decide : (Str.ofString "int") ∈ blt)) (by decide +kernel))) (je_one (je_not (je_isi (c := .bl) (by decide) rfl (fc.n _ (by decide : (Str.ofString "isinstance") ∈ blt)) (je_var (i := 0) rfl (by first | exact .inl rfl | exact .inr (.inl rfl) | exact .inr (.inr rfl))) (pe_ty (c := .bl) rfl (fc.n _ (by decide : (Str.ofString "bool") ∈ blt)) (by decide +kernel)))))))
    jss_nil)
theorem ok_is_between {P : Program} {w : World} {K : PySem.W.Frag} {mg : Str → Option Value} {base : Heap} {f : Addr} {fd : FuncData} (fc : Fc K mg) (FD : FunD K (Str.ofString "is_between") (Str.ofString "is_between") (defArgs s_is_between) (defBody s_is_between) (defScope s_is_between) [] [] f fd) (hm : mg (Str.ofString "is_between") = some (.ref f)) (C_is_integer : Ce P w K mg base (Str.ofString "is_integer") s_is_integer 1 P_is_integer F_is_integer) : Ce P w K mg base (Str.ofString "is_between") s_is_between 2 P_is_between F_is_between := by
  have nd := (sc_is_between).nd
  refine ⟨f, fd, FD, okP (k := 1) FD sc_is_between fun cdv A outer s H E hr => ?_, hm, (FD.bindsN fun _ _ _ _ _ _ us hl => match us, hl with | [_, _, _], _ => rfl)⟩
  unfold m_is_between
  exact (jss_cons (js_ret (je_and (je_cl C_is_integer (by decide) hr takesF rfl (ja_cons (je_var (i := 0) rfl (by first | exact .inl rfl | exact .inr (.inl rfl) | exact .inr (.inr rfl))) ja_nil) rfl) (je_one (je_chain (o_le (roomU hr)) (o_le (roomU hr)) (je_var (i := 1) rfl (by first | exact .inl rfl | exact .inr (.inl rfl) | exact .inr (.inr rfl))) (je_var (i := 0) rfl (by first | exact .inl rfl | exact .inr (.inl rfl) | exact .inr (.inr rfl))) (je_var (i := 2) rfl (by first | exact .inl rfl | exact .inr (.inl rfl) | exact .inr (.inr rfl)))))))
    jss_nil)
theorem ok_is_ask {P : Program} {w : World} {K : PySem.W.Frag} {mg : Str → Option Value} {base : Heap} {f : Addr} {fd : FuncData} (fc : Fc K mg) (FD : FunD K (Str.ofString "is_ask") (Str.ofString "is_ask") (defArgs s_is_ask) (defBody s_is_ask) (defScope s_is_ask) [] [] f fd) (hm : mg (Str.ofString "is_ask") = some (.ref f)) (C_is_between : Ce P w K mg base (Str.ofString "is_between") s_is_between 2 P_is_between F_is_between) : Ce P w K mg base (Str.ofString "is_ask") s_is_ask 3 P_is_ask F_is_ask := by
  have nd := (sc_is_ask).nd
  refine ⟨f, fd, FD, okP (k := 2) FD sc_is_ask fun cdv A outer s H E hr => ?_, hm, (FD.bindsN fun _ _ _ _ _ _ us hl => match us, hl with | [_], _ => rfl)⟩
  unfold m_is_ask
  exact (jss_cons (js_if (JW.jt (jw_or (jt_not (jt_tr (je_isi (c := .tup) (by decide) rfl (fc.n _ (by decide : (Str.ofString "isinstance") ∈ blt)) (je_var (i := 0) rfl (by first | exact .inl rfl | exact .inr (.inl rfl) | exact .inr (.inr rfl))) (pe_ty (c := .tup) rfl (fc.n _ (by decide : (Str.ofString "tuple") ∈ blt)) (by decide +kernel))))) (jw_or (jt_cmp (o_ne (roomU hr)) (je_callB c_len rfl (fc.n _ (by decide : (Str.ofString "len") ∈ blt)) (by decide +kernel) (ja_cons (je_var (i := 0) rfl (by first | exact .inl rfl | exact .inr (.inl rfl) | exact .inr (.inr rfl))) ja_nil)) je_int (nomark _)) (jw_or1 (jt_not (jt_tr (je_cl C_is_between (by decide) hr takesF rfl (ja_cons (je_ix (roomU hr) (je_var (i := 0) rfl (by first | exact .inl rfl | exact .inr (.inl rfl) | exact .inr (.inr rfl))) je_int) (ja_cons (je_un un_neg (je_gint rfl fc.i_MOST_NUMBER)) (ja_cons (je_gint rfl fc.i_MOST_NUMBER) ja_nil))) rfl)))))))
    (jss_cons (js_ret je_bl)
    jss_nil)
    jss_nil)
    (jss_cons (js_ret (je_and (je_cl C_is_between (by decide) hr takesF rfl (ja_cons (je_ix (roomU hr) (je_var (i := 0) rfl (by first | exact .inl rfl | exact .inr (.inl rfl) | exact .inr (.inr rfl))) je_int) (ja_cons je_int (ja_cons (je_op o_sub (je_gint rfl fc.i_MANY) je_int) ja_nil))) rfl) (je_one (je_cl C_is_between (by decide) hr takesF rfl (ja_cons (je_ix (roomU hr) (je_var (i := 0) rfl (by first | exact .inl rfl | exact .inr (.inl rfl) | exact .inr (.inr rfl))) je_int) (ja_cons je_int (ja_cons (je_op o_sub (je_gint rfl fc.i_MANY) je_int) ja_nil))) rfl))))
    jss_nil))
theorem ok_is_list {P : Program} {w : World} {K : PySem.W.Frag} {mg : Str → Option Value} {base : Heap} {f : Addr} {fd : FuncData} (fc : Fc K mg) (FD : FunD K (Str.ofString "is_list") (Str.ofString "is_list") (defArgs s_is_list) (defBody s_is_list) (defScope s_is_list) [] [] f fd) (hm : mg (Str.ofString "is_list") = some (.ref f)) : Ce P w K mg base (Str.ofString "is_list") s_is_list 1 P_is_list F_is_list := by
  have nd := (sc_is_list).nd
  refine ⟨f, fd, FD, okP (k := 0) FD sc_is_list fun cdv A outer s H E hr => ?_, hm, (FD.bindsN fun _ _ _ _ _ _ us hl => match us, hl with | [_], _ => rfl)⟩
  unfold m_is_list
  exact (jss_cons (js_ret (je_isi2 (c := .lst) (c' := .tup) (by decide) (by decide) rfl (fc.n _ (by decide : (Str.ofString "isinstance") ∈ blt)) (je_var (i := 0) rfl (by first | exact .inl rfl | exact .inr (.inl rfl) | exact .inr (.inr rfl))) (pe_ty (c := .lst) rfl (fc.n _ (by decide : (Str.ofString "list") ∈ blt)) (by decide +kernel)) (pe_ty (c := .tup) rfl (fc.n _ (by decide : (Str.ofString "tuple") ∈ blt)) (by decide +kernel))))
    jss_nil)
theorem ok_check_asks {P : Program} {w : World} {K : PySem.W.Frag} {mg : Str → Option Value} {base : Heap} {f : Addr} {fd : FuncData} (fc : Fc K mg) (FD : FunD K (Str.ofString "check_asks") (Str.ofString "check_asks") (defArgs s_check_asks) (defBody s_check_asks) (defScope s_check_asks) [] [] f fd) (hm : mg (Str.ofString "check_asks") = some (.ref f)) (C_is_ask : Ce P w K mg base (Str.ofString "is_ask") s_is_ask 3 P_is_ask F_is_ask) (C_is_list : Ce P w K mg base (Str.ofString "is_list") s_is_list 1 P_is_list F_is_list) (X_InvalidAsks : Ex P w K mg base (Str.ofString "InvalidAsks") [Str.ofString "given"]) : Ce P w K mg base (Str.ofString "check_asks") s_check_asks 4 P_check_asks F_check_asks := by
  have nd := (sc_check_asks).nd
  refine ⟨f, fd, FD, okP (k := 3) FD sc_check_asks fun cdv A outer s H E hr => ?_, hm, (FD.bindsN fun _ _ _ _ _ _ us hl => match us, hl with | [_], _ => rfl)⟩
  unfold m_check_asks
  exact (jss_cons (js_if (JW.jt (jw_or (jt_not (jt_tr (je_cl C_is_list (by decide) hr takesF rfl (ja_cons (je_var (i := 0) rfl (by first | exact .inl rfl | exact .inr (.inl rfl) | exact .inr (.inr rfl))) ja_nil) rfl))) (jw_or (jt_cmp (o_gt (roomU hr)) (je_callB c_len rfl (fc.n _ (by decide : (Str.ofString "len") ∈ blt)) (by decide +kernel) (ja_cons (je_var (i := 0) rfl (by first | exact .inl rfl | exact .inr (.inl rfl) | exact .inr (.inr rfl))) ja_nil)) (je_gint rfl fc.i_MOST_ASKS) (nomark _)) (jw_or1 (jt_not (jt_tr (je_callB (c_all rfl) rfl (fc.n _ (by decide : (Str.ofString "all") ∈ blt)) (by decide +kernel) (ja_cons (je_lcE [((Str.ofString "item"), 1)] rfl rfl nd (ji_any (je_var (i := 0) rfl (by first | exact .inl rfl | exact .inr (.inl rfl) | exact .inr (.inr rfl)))) (blkOk_by (show blkC N_check_asks (defScope s_check_asks) _ _ = true by decide +kernel)) (fun _ _ _ _ _ => (jg_nm (i := 1) nd rfl (by first | exact .inl rfl | exact .inr rfl))) (fun _ _ _ _ _ => jts_nil) (fun _ _ _ _ _ => (je_cl C_is_ask (by decide) hr takes0 rfl (ja_cons (je_var (i := 1) rfl (by first | exact .inl rfl | exact .inr (.inl rfl) | exact .inr (.inr rfl))) ja_nil) rfl))) ja_nil))))))))
    (jss_cons (js_rs X_InvalidAsks rfl (by decide) hr takesF rfl (ja_cons (je_var (i := 0) rfl (by first | exact .inl rfl | exact .inr (.inl rfl) | exact .inr (.inr rfl))) ja_nil))
    jss_nil)
    jss_nil)
    jss_nil)
theorem ok_surely_at_most {P : Program} {w : World} {K : PySem.W.Frag} {mg : Str → Option Value} {base : Heap} {f : Addr} {fd : FuncData} (fc : Fc K mg) (FD : FunD K (Str.ofString "surely_at_most") (Str.ofString "surely_at_most") (defArgs s_surely_at_most) (defBody s_surely_at_most) (defScope s_surely_at_most) [] [] f fd) (hm : mg (Str.ofString "surely_at_most") = some (.ref f)) (C_eased : Ce P w K mg base (Str.ofString "eased") s_eased 2 P_eased F_eased) (C_clash_of : Ce P w K mg base (Str.ofString "clash_of") s_clash_of 2 P_clash_of F_clash_of) (C_is_between : Ce P w K mg base (Str.ofString "is_between") s_is_between 2 P_is_between F_is_between) (C_check_asks : Ce P w K mg base (Str.ofString "check_asks") s_check_asks 4 P_check_asks F_check_asks) (X_Clash : Ex P w K mg base (Str.ofString "Clash") [Str.ofString "asks"]) (X_InvalidIndex : Ex P w K mg base (Str.ofString "InvalidIndex") [Str.ofString "given"]) : Ce P w K mg base (Str.ofString "surely_at_most") s_surely_at_most 5 P_surely_at_most F_surely_at_most := by
  have nd := (sc_surely_at_most).nd
  refine ⟨f, fd, FD, okP (k := 4) FD sc_surely_at_most fun cdv A outer s H E hr => ?_, hm, (FD.bindsN fun _ _ _ _ _ _ us hl => match us, hl with | [_, _, _], _ => rfl)⟩
  unfold m_surely_at_most
  exact (jss_cons (js_expr (je_cl C_check_asks (by decide) hr takesF rfl (ja_cons (je_var (i := 0) rfl (by first | exact .inl rfl | exact .inr (.inl rfl) | exact .inr (.inr rfl))) ja_nil) rfl))
    (jss_cons (js_for passF rfl (ji_any (je_tup (ja_cons (je_var (i := 1) rfl (by first | exact .inl rfl | exact .inr (.inl rfl) | exact .inr (.inr rfl))) (ja_cons (je_var (i := 2) rfl (by first | exact .inl rfl | exact .inr (.inl rfl) | exact .inr (.inr rfl))) ja_nil)))) (jg_nm (i := 3) nd rfl (by first | exact .inl rfl | exact .inr rfl))
    (jss_cons (js_if (jt_not (jt_tr (je_cl C_is_between (by decide) hr takesF rfl (ja_cons (je_var (i := 3) rfl (by first | exact .inl rfl | exact .inr (.inl rfl) | exact .inr (.inr rfl))) (ja_cons je_int (ja_cons (je_op o_sub (je_gint rfl fc.i_MANY) je_int) ja_nil))) rfl)))
    (jss_cons (js_rs X_InvalidIndex rfl (by decide) hr takesF rfl (ja_cons (je_var (i := 3) rfl (by first | exact .inl rfl | exact .inr (.inl rfl) | exact .inr (.inr rfl))) ja_nil))
    jss_nil)
    jss_nil)
    jss_nil))
    (jss_cons (js_set (i := 4) nd rfl (by first | exact .inl rfl | exact .inr rfl) (je_cl C_clash_of (by decide) hr takesF rfl (ja_cons (je_var (i := 0) rfl (by first | exact .inl rfl | exact .inr (.inl rfl) | exact .inr (.inr rfl))) ja_nil) rfl))
    (jss_cons (js_if (jt_cmp o_isN (je_var (i := 4) rfl (by first | exact .inl rfl | exact .inr (.inl rfl) | exact .inr (.inr rfl))) je_non (nomark _))
    (jss_cons (js_rs X_Clash rfl (by decide) hr takesF rfl (ja_cons (je_var (i := 4) rfl (by first | exact .inl rfl | exact .inr (.inl rfl) | exact .inr (.inr rfl))) ja_nil))
    jss_nil)
    jss_nil)
    (jss_cons (js_ret (je_ix (roomU hr) (je_cl C_eased (by decide) hr takesF rfl (ja_cons (je_var (i := 0) rfl (by first | exact .inl rfl | exact .inr (.inl rfl) | exact .inr (.inr rfl))) (ja_cons (je_lcE [((Str.ofString "place"), 5)] rfl rfl nd (ji_rng1 rfl (fc.n _ (by decide : (Str.ofString "range") ∈ blt)) (ja_cons (je_gint rfl fc.i_MANY) ja_nil)) (blkOk_by (show blkC N_surely_at_most (defScope s_surely_at_most) _ _ = true by decide +kernel)) (fun _ _ _ _ _ => (jg_nm (i := 5) nd rfl (by first | exact .inl rfl | exact .inr rfl))) (fun _ _ _ _ _ => jts_nil) (fun _ _ _ _ _ => (je_if (jt_cmp (o_eq (roomU hr)) (je_var (i := 5) rfl (by first | exact .inl rfl | exact .inr (.inl rfl) | exact .inr (.inr rfl))) (je_var (i := 1) rfl (by first | exact .inl rfl | exact .inr (.inl rfl) | exact .inr (.inr rfl))) (nomark _)) je_int je_non))) ja_nil)) rfl) (je_var (i := 2) rfl (by first | exact .inl rfl | exact .inr (.inl rfl) | exact .inr (.inr rfl)))))
    jss_nil)))))
theorem ok_clash {P : Program} {w : World} {K : PySem.W.Frag} {mg : Str → Option Value} {base : Heap} {f : Addr} {fd : FuncData} (fc : Fc K mg) (FD : FunD K (Str.ofString "clash") (Str.ofString "clash") (defArgs s_clash) (defBody s_clash) (defScope s_clash) [] [] f fd) (hm : mg (Str.ofString "clash") = some (.ref f)) (C_clash_of : Ce P w K mg base (Str.ofString "clash_of") s_clash_of 2 P_clash_of F_clash_of) (C_check_asks : Ce P w K mg base (Str.ofString "check_asks") s_check_asks 4 P_check_asks F_check_asks) : Ce P w K mg base (Str.ofString "clash") s_clash 5 P_clash F_clash := by
  have nd := (sc_clash).nd
  refine ⟨f, fd, FD, okP (k := 4) FD sc_clash fun cdv A outer s H E hr => ?_, hm, (FD.bindsN fun _ _ _ _ _ _ us hl => match us, hl with | [_], _ => rfl)⟩
  unfold m_clash
  exact (jss_cons (js_expr (je_cl C_check_asks (by decide) hr takesF rfl (ja_cons (je_var (i := 0) rfl (by first | exact .inl rfl | exact .inr (.inl rfl) | exact .inr (.inr rfl))) ja_nil) rfl))
    (jss_cons (js_ret (je_cl C_clash_of (by decide) hr takesF rfl (ja_cons (je_var (i := 0) rfl (by first | exact .inl rfl | exact .inr (.inl rfl) | exact .inr (.inr rfl))) ja_nil) rfl))
    jss_nil))
theorem ok_settled {P : Program} {w : World} {K : PySem.W.Frag} {mg : Str → Option Value} {base : Heap} {f : Addr} {fd : FuncData} (fc : Fc K mg) (FD : FunD K (Str.ofString "settled") (Str.ofString "settled") (defArgs s_settled) (defBody s_settled) (defScope s_settled) [] [] f fd) (hm : mg (Str.ofString "settled") = some (.ref f)) (C_eased : Ce P w K mg base (Str.ofString "eased") s_eased 2 P_eased F_eased) (C_check_asks : Ce P w K mg base (Str.ofString "check_asks") s_check_asks 4 P_check_asks F_check_asks) : Ce P w K mg base (Str.ofString "settled") s_settled 5 P_settled F_settled := by
  have nd := (sc_settled).nd
  refine ⟨f, fd, FD, okP (k := 4) FD sc_settled fun cdv A outer s H E hr => ?_, hm, (FD.bindsN fun _ _ _ _ _ _ us hl => match us, hl with | [_], _ => rfl)⟩
  unfold m_settled
  exact (jss_cons (js_expr (je_cl C_check_asks (by decide) hr takesF rfl (ja_cons (je_var (i := 0) rfl (by first | exact .inl rfl | exact .inr (.inl rfl) | exact .inr (.inr rfl))) ja_nil) rfl))
    (jss_cons (js_set (i := 1) nd rfl (by first | exact .inl rfl | exact .inr rfl) (je_cl C_eased (by decide) hr takesF rfl (ja_cons (je_var (i := 0) rfl (by first | exact .inl rfl | exact .inr (.inl rfl) | exact .inr (.inr rfl))) (ja_cons (je_op o_mul (je_lst (ja_cons je_int ja_nil)) (je_gint rfl fc.i_MANY)) ja_nil)) rfl))
    (jss_cons (js_ret (je_if (jt_cmp o_is (je_var (i := 1) rfl (by first | exact .inl rfl | exact .inr (.inl rfl) | exact .inr (.inr rfl))) je_non (nomark _)) je_non (je_callTy c_tuple rfl (fc.n _ (by decide : (Str.ofString "tuple") ∈ blt)) (by decide +kernel) (ja_cons (je_var (i := 1) rfl (by first | exact .inl rfl | exact .inr (.inl rfl) | exact .inr (.inr rfl))) ja_nil))))
    jss_nil)))
theorem ok__law_asked {P : Program} {w : World} {K : PySem.W.Frag} {mg : Str → Option Value} {base : Heap} {f : Addr} {fd : FuncData} (fc : Fc K mg) (FD : FunD K (Str.ofString "_law_asked") (Str.ofString "_law_asked") (defArgs s__law_asked) (defBody s__law_asked) (defScope s__law_asked) [] [] f fd) (hm : mg (Str.ofString "_law_asked") = some (.ref f)) (C_surely_at_most : Ce P w K mg base (Str.ofString "surely_at_most") s_surely_at_most 5 P_surely_at_most F_surely_at_most) (C_clash : Ce P w K mg base (Str.ofString "clash") s_clash 5 P_clash F_clash) (C_settled : Ce P w K mg base (Str.ofString "settled") s_settled 5 P_settled F_settled) : Ce P w K mg base (Str.ofString "_law_asked") s__law_asked 6 P__law_asked F__law_asked := by
  have nd := (sc__law_asked).nd
  refine ⟨f, fd, FD, okP (k := 5) FD sc__law_asked fun cdv A outer s H E hr => ?_, hm, (FD.bindsN fun _ _ _ _ _ _ us hl => match us, hl with | [_, _, _, _, _], _ => rfl)⟩
  unfold m__law_asked
  exact (jss_cons (js_try rfl rfl nd takesF (fun W pn xe tk pa => (jss_cons (js_if (jt_cmp (o_eq (roomU hr)) (je_var (i := 0) rfl (by first | exact .inl rfl | exact .inr (.inl rfl) | exact .inr (.inr rfl))) je_int (nomark _))
    (jss_cons (js_ret (je_lst (ja_cons je_str (ja_cons (je_if (jt_tr (je_var (i := 1) rfl (by first | exact .inl rfl | exact .inr (.inl rfl) | exact .inr (.inr rfl)))) (je_ck C_settled (by decide) hr tk rfl (jk_cons (je_var (i := 2) rfl (by first | exact .inl rfl | exact .inr (.inl rfl) | exact .inr (.inr rfl))) jk_nil) rfl (by decide) (fun _ _ _ _ _ _ ws hl => match ws, hl with | [_], _ => rfl)) (je_cl C_settled (by decide) hr tk rfl (ja_cons (je_var (i := 2) rfl (by first | exact .inl rfl | exact .inr (.inl rfl) | exact .inr (.inr rfl))) ja_nil) rfl)) ja_nil))))
    jss_nil)
    jss_nil)
    (jss_cons (js_if (jt_cmp (o_eq (roomU hr)) (je_var (i := 0) rfl (by first | exact .inl rfl | exact .inr (.inl rfl) | exact .inr (.inr rfl))) je_int (nomark _))
    (jss_cons (js_ret (je_lst (ja_cons je_str (ja_cons (je_if (jt_tr (je_var (i := 1) rfl (by first | exact .inl rfl | exact .inr (.inl rfl) | exact .inr (.inr rfl)))) (je_ck C_clash (by decide) hr tk rfl (jk_cons (je_var (i := 2) rfl (by first | exact .inl rfl | exact .inr (.inl rfl) | exact .inr (.inr rfl))) jk_nil) rfl (by decide) (fun _ _ _ _ _ _ ws hl => match ws, hl with | [_], _ => rfl)) (je_cl C_clash (by decide) hr tk rfl (ja_cons (je_var (i := 2) rfl (by first | exact .inl rfl | exact .inr (.inl rfl) | exact .inr (.inr rfl))) ja_nil) rfl)) ja_nil))))
    jss_nil)
    jss_nil)
    (jss_cons (js_ret (je_lst (ja_cons je_str (ja_cons (je_if (jt_tr (je_var (i := 1) rfl (by first | exact .inl rfl | exact .inr (.inl rfl) | exact .inr (.inr rfl)))) (je_ck C_surely_at_most (by decide) hr tk rfl (jk_cons (je_var (i := 4) rfl (by first | exact .inl rfl | exact .inr (.inl rfl) | exact .inr (.inr rfl))) (jk_cons (je_var (i := 3) rfl (by first | exact .inl rfl | exact .inr (.inl rfl) | exact .inr (.inr rfl))) (jk_cons (je_var (i := 2) rfl (by first | exact .inl rfl | exact .inr (.inl rfl) | exact .inr (.inr rfl))) jk_nil))) rfl (by decide) (fun _ _ _ _ _ _ ws hl => match ws, hl with | [_, _, _], _ => rfl)) (je_cl C_surely_at_most (by decide) hr tk rfl (ja_cons (je_var (i := 2) rfl (by first | exact .inl rfl | exact .inr (.inl rfl) | exact .inr (.inr rfl))) (ja_cons (je_var (i := 3) rfl (by first | exact .inl rfl | exact .inr (.inl rfl) | exact .inr (.inr rfl))) (ja_cons (je_var (i := 4) rfl (by first | exact .inl rfl | exact .inr (.inl rfl) | exact .inr (.inr rfl))) ja_nil))) rfl)) ja_nil))))
    jss_nil))))
    (.cons (jhd_as (x := Str.ofString "InvalidAsks") (n := Str.ofString "e") (i := 5) fc.exm fc.g_InvalidAsks (by decide +kernel) rfl rfl rfl fun a oe y C dd pn hs hm hz hv => by
      have xf := fc.xf y (sub_in hs (by decide +kernel)) C hm
      exact (jss_cons (js_ret (je_lst (ja_cons je_str (ja_cons (je_xf (y := y) (i := 5) xf.1 (xf.2 (Str.ofString "given") (by decide)) hz hv rfl (by first | exact .inl rfl | exact .inr (.inl rfl) | exact .inr (.inr rfl))) ja_nil))))
    jss_nil))
    (.cons (jhd_as (x := Str.ofString "InvalidIndex") (n := Str.ofString "e") (i := 5) fc.exm fc.g_InvalidIndex (by decide +kernel) rfl rfl rfl fun a oe y C dd pn hs hm hz hv => by
      have xf := fc.xf y (sub_in hs (by decide +kernel)) C hm
      exact (jss_cons (js_ret (je_lst (ja_cons je_str (ja_cons (je_xf (y := y) (i := 5) xf.1 (xf.2 (Str.ofString "given") (by decide)) hz hv rfl (by first | exact .inl rfl | exact .inr (.inl rfl) | exact .inr (.inr rfl))) ja_nil))))
    jss_nil))
    (.cons (jhd_as (x := Str.ofString "Clash") (n := Str.ofString "e") (i := 5) fc.exm fc.g_Clash (by decide +kernel) rfl rfl rfl fun a oe y C dd pn hs hm hz hv => by
      have xf := fc.xf y (sub_in hs (by decide +kernel)) C hm
      exact (jss_cons (js_ret (je_lst (ja_cons je_str (ja_cons (je_xf (y := y) (i := 5) xf.1 (xf.2 (Str.ofString "asks") (by decide)) hz hv rfl (by first | exact .inl rfl | exact .inr (.inl rfl) | exact .inr (.inr rfl))) ja_nil))))
    jss_nil))
    (.cons (jhd_no (x := Str.ofString "ArrowError") fc.exm fc.g_ArrowError (by decide +kernel) rfl fun a oe pn =>
      (jss_cons (js_ret (je_lst (ja_cons je_str (ja_cons je_non ja_nil))))
    jss_nil))
    .nil)))))
    jss_nil)
theorem ok__law_blamed {P : Program} {w : World} {K : PySem.W.Frag} {mg : Str → Option Value} {base : Heap} {f : Addr} {fd : FuncData} (fc : Fc K mg) (FD : FunD K (Str.ofString "_law_blamed") (Str.ofString "_law_blamed") (defArgs s__law_blamed) (defBody s__law_blamed) (defScope s__law_blamed) [] [] f fd) (hm : mg (Str.ofString "_law_blamed") = some (.ref f)) (C__law_same : Ce P w K mg base (Str.ofString "_law_same") s__law_same 11 P__law_same (F__law_same DEP)) : Ce P w K mg base (Str.ofString "_law_blamed") s__law_blamed 12 P__law_blamed F__law_blamed := by
  have nd := (sc__law_blamed).nd
  refine ⟨f, fd, FD, okP (k := 11) FD sc__law_blamed fun cdv A outer s H E hr => ?_, hm, (FD.bindsN fun _ _ _ _ _ _ us hl => match us, hl with | [_, _], _ => rfl)⟩
  unfold m__law_blamed
  exact (jss_cons (js_if (jt_not (jt_tr (je_cl C__law_same (by decide) hr takesF rfl (ja_cons (je_var (i := 0) rfl (by first | exact .inl rfl | exact .inr (.inl rfl) | exact .inr (.inr rfl))) (ja_cons (je_var (i := 1) rfl (by first | exact .inl rfl | exact .inr (.inl rfl) | exact .inr (.inr rfl))) ja_nil)) rfl)))
    (jss_cons (js_ret je_bl)
    jss_nil)
    jss_nil)
    (jss_cons (js_if (jt_tr (je_isi (c := .lst) (by decide) rfl (fc.n _ (by decide : (Str.ofString "isinstance") ∈ blt)) (je_var (i := 1) rfl (by first | exact .inl rfl | exact .inr (.inl rfl) | exact .inr (.inr rfl))) (pe_ty (c := .lst) rfl (fc.n _ (by decide : (Str.ofString "list") ∈ blt)) (by decide +kernel))))
    (jss_cons (js_expr (je_append (je_var (i := 1) rfl (by first | exact .inl rfl | exact .inr (.inl rfl) | exact .inr (.inr rfl))) (ja_cons je_int ja_nil)))
    jss_nil)
    jss_nil)
    (jss_cons (js_ret (je_cl C__law_same (by decide) hr takesF rfl (ja_cons (je_var (i := 0) rfl (by first | exact .inl rfl | exact .inr (.inl rfl) | exact .inr (.inr rfl))) (ja_cons (je_var (i := 1) rfl (by first | exact .inl rfl | exact .inr (.inl rfl) | exact .inr (.inr rfl))) ja_nil)) rfl))
    jss_nil)))
theorem ok__law_copy {P : Program} {w : World} {K : PySem.W.Frag} {mg : Str → Option Value} {base : Heap} {f : Addr} {fd : FuncData} (fc : Fc K mg) (FD : FunD K (Str.ofString "_law_copy") (Str.ofString "_law_copy") (defArgs s__law_copy) (defBody s__law_copy) (defScope s__law_copy) [] [] f fd) (hm : mg (Str.ofString "_law_copy") = some (.ref f)) : Ce P w K mg base (Str.ofString "_law_copy") s__law_copy 1 P__law_copy F__law_copy := by
  have nd := (sc__law_copy).nd
  refine ⟨f, fd, FD, okP (k := 0) FD sc__law_copy fun cdv A outer s H E hr => ?_, hm, (FD.bindsN fun _ _ _ _ _ _ us hl => match us, hl with | [_], _ => rfl)⟩
  unfold m__law_copy
  exact (jss_cons (js_ret (je_if (jt_tr (je_isi (c := .lst) (by decide) rfl (fc.n _ (by decide : (Str.ofString "isinstance") ∈ blt)) (je_var (i := 0) rfl (by first | exact .inl rfl | exact .inr (.inl rfl) | exact .inr (.inr rfl))) (pe_ty (c := .lst) rfl (fc.n _ (by decide : (Str.ofString "list") ∈ blt)) (by decide +kernel)))) (je_callTy c_list rfl (fc.n _ (by decide : (Str.ofString "list") ∈ blt)) (by decide +kernel) (ja_cons (je_var (i := 0) rfl (by first | exact .inl rfl | exact .inr (.inl rfl) | exact .inr (.inr rfl))) ja_nil)) (je_var (i := 0) rfl (by first | exact .inl rfl | exact .inr (.inl rfl) | exact .inr (.inr rfl)))))
    jss_nil)
theorem ok__law_take {P : Program} {w : World} {K : PySem.W.Frag} {mg : Str → Option Value} {base : Heap} {f : Addr} {fd : FuncData} (fc : Fc K mg) (FD : FunD K (Str.ofString "_law_take") (Str.ofString "_law_take") (defArgs s__law_take) (defBody s__law_take) (defScope s__law_take) [] [] f fd) (hm : mg (Str.ofString "_law_take") = some (.ref f)) : Ce P w K mg base (Str.ofString "_law_take") s__law_take 1 P__law_take F__law_take := by
  have nd := (sc__law_take).nd
  refine ⟨f, fd, FD, okP (k := 0) FD sc__law_take fun cdv A outer s H E hr => ?_, hm, (FD.bindsN fun _ _ _ _ _ _ us hl => match us, hl with | [_, _], _ => rfl)⟩
  unfold m__law_take
  exact (jss_cons (js_if (JW.jt (jw_and (jt_tr (je_ix (roomU hr) (je_var (i := 0) rfl (by first | exact .inl rfl | exact .inr (.inl rfl) | exact .inr (.inr rfl))) je_int)) (jw_and1 (jt_cmp (o_gt (roomU hr)) (je_ix (roomU hr) (je_var (i := 0) rfl (by first | exact .inl rfl | exact .inr (.inl rfl) | exact .inr (.inr rfl))) je_int) je_int (nomark _)))))
    (jss_cons (js_set (i := 3) nd rfl (by first | exact .inl rfl | exact .inr rfl) (je_op o_mod (je_callTy c_int rfl (fc.n _ (by decide : (Str.ofString "int") ∈ blt)) (by decide +kernel) (ja_cons (je_ix (roomU hr) (je_var (i := 0) rfl (by first | exact .inl rfl | exact .inr (.inl rfl) | exact .inr (.inr rfl))) je_int) ja_nil)) (je_var (i := 1) rfl (by first | exact .inl rfl | exact .inr (.inl rfl) | exact .inr (.inr rfl)))))
    (jss_cons (js_asg (je_op o_fdiv (je_ix (roomU hr) (je_var (i := 0) rfl (by first | exact .inl rfl | exact .inr (.inl rfl) | exact .inr (.inr rfl))) je_int) (je_var (i := 1) rfl (by first | exact .inl rfl | exact .inr (.inl rfl) | exact .inr (.inr rfl)))) (jh_of (W := W0) (jg_sub (je_var (i := 0) rfl (by first | exact .inl rfl | exact .inr (.inl rfl) | exact .inr (.inr rfl))) je_int)))
    (jss_cons (js_ret (je_var (i := 3) rfl (by first | exact .inl rfl | exact .inr (.inl rfl) | exact .inr (.inr rfl))))
    jss_nil)))
    jss_nil)
    (jss_cons (js_asg (je_op o_add (je_ix (roomU hr) (je_var (i := 0) rfl (by first | exact .inl rfl | exact .inr (.inl rfl) | exact .inr (.inr rfl))) je_int) je_int) (jh_of (W := W0) (jg_sub (je_var (i := 0) rfl (by first | exact .inl rfl | exact .inr (.inl rfl) | exact .inr (.inr rfl))) je_int)))
    (jss_cons (js_set (i := 2) nd rfl (by first | exact .inl rfl | exact .inr rfl) (je_op o_mod (je_callTy c_int rfl (fc.n _ (by decide : (Str.ofString "int") ∈ blt)) (by decide +kernel) (ja_cons (je_op o_pow (je_op o_add (je_op o_add (je_ix (roomU hr) (je_var (i := 0) rfl (by first | exact .inl rfl | exact .inr (.inl rfl) | exact .inr (.inr rfl))) je_int) (je_op o_mul je_int (je_ix (roomU hr) (je_var (i := 0) rfl (by first | exact .inl rfl | exact .inr (.inl rfl) | exact .inr (.inr rfl))) je_int))) je_int) je_int) ja_nil)) je_int))
    (jss_cons (js_ret (je_op o_mod (je_callTy c_int rfl (fc.n _ (by decide : (Str.ofString "int") ∈ blt)) (by decide +kernel) (ja_cons (je_op o_fdiv (je_op o_mod (je_callTy c_int rfl (fc.n _ (by decide : (Str.ofString "int") ∈ blt)) (by decide +kernel) (ja_cons (je_op o_pow (je_op o_add (je_op o_mul (je_var (i := 2) rfl (by first | exact .inl rfl | exact .inr (.inl rfl) | exact .inr (.inr rfl))) je_int) (je_op o_mul je_int (je_ix (roomU hr) (je_var (i := 0) rfl (by first | exact .inl rfl | exact .inr (.inl rfl) | exact .inr (.inr rfl))) je_int))) je_int) ja_nil)) je_int) je_int) ja_nil)) (je_var (i := 1) rfl (by first | exact .inl rfl | exact .inr (.inl rfl) | exact .inr (.inr rfl)))))
    jss_nil))))
theorem ok__law_refused_right {P : Program} {w : World} {K : PySem.W.Frag} {mg : Str → Option Value} {base : Heap} {f : Addr} {fd : FuncData} (fc : Fc K mg) (FD : FunD K (Str.ofString "_law_refused_right") (Str.ofString "_law_refused_right") (defArgs s__law_refused_right) (defBody s__law_refused_right) (defScope s__law_refused_right) [] [] f fd) (hm : mg (Str.ofString "_law_refused_right") = some (.ref f)) (C__law_same : Ce P w K mg base (Str.ofString "_law_same") s__law_same 11 P__law_same (F__law_same DEP)) (C__law_asked : Ce P w K mg base (Str.ofString "_law_asked") s__law_asked 6 P__law_asked F__law_asked) (C__law_blamed : Ce P w K mg base (Str.ofString "_law_blamed") s__law_blamed 12 P__law_blamed F__law_blamed) (C__law_copy : Ce P w K mg base (Str.ofString "_law_copy") s__law_copy 1 P__law_copy F__law_copy) (C__law_take : Ce P w K mg base (Str.ofString "_law_take") s__law_take 1 P__law_take F__law_take) : Ce P w K mg base (Str.ofString "_law_refused_right") s__law_refused_right 13 P__law_refused_right F__law_refused_right := by
  have nd := (sc__law_refused_right).nd
  refine ⟨f, fd, FD, okP (k := 12) FD sc__law_refused_right fun cdv A outer s H E hr => ?_, hm, (FD.bindsN fun _ _ _ _ _ _ us hl => match us, hl with | [_, _], _ => rfl)⟩
  unfold m__law_refused_right
  exact (jss_cons (js_set (i := 2) nd rfl (by first | exact .inl rfl | exact .inr rfl) (je_cl C__law_take (by decide) hr takesF rfl (ja_cons (je_var (i := 0) rfl (by first | exact .inl rfl | exact .inr (.inl rfl) | exact .inr (.inr rfl))) (ja_cons (je_op o_add (je_callB c_len rfl (fc.n _ (by decide : (Str.ofString "len") ∈ blt)) (by decide +kernel) (ja_cons (je_var (i := 1) rfl (by first | exact .inl rfl | exact .inr (.inl rfl) | exact .inr (.inr rfl))) ja_nil)) je_int) ja_nil)) rfl))
    (jss_cons (js_set (i := 3) nd rfl (by first | exact .inl rfl | exact .inr rfl) (je_ix (roomU hr) (je_lst (ja_cons je_non (ja_cons (je_tup (ja_cons je_int (ja_cons je_int ja_nil))) (ja_cons (je_tup (ja_cons je_int (ja_cons je_int (ja_cons je_int (ja_cons je_int ja_nil))))) (ja_cons (je_lst (ja_cons je_int (ja_cons je_int (ja_cons je_int ja_nil)))) (ja_cons (je_tup (ja_cons je_int (ja_cons je_int (ja_cons je_int ja_nil)))) (ja_cons (je_tup (ja_cons je_int (ja_cons (je_un un_neg je_int) (ja_cons je_int ja_nil)))) (ja_cons (je_tup (ja_cons je_int (ja_cons je_int (ja_cons je_int ja_nil)))) (ja_cons (je_tup (ja_cons je_int (ja_cons je_int (ja_cons (je_un un_neg je_int) ja_nil)))) (ja_cons (je_tup (ja_cons je_int (ja_cons je_int (ja_cons je_non ja_nil)))) (ja_cons (je_tup (ja_cons je_bl (ja_cons je_int (ja_cons je_int ja_nil)))) (ja_cons (je_tup (ja_cons je_int (ja_cons je_int (ja_cons je_bl ja_nil)))) (ja_cons (je_tup (ja_cons je_str (ja_cons je_int (ja_cons je_int ja_nil)))) (ja_cons je_int ja_nil)))))))))))))) (je_cl C__law_take (by decide) hr takesF rfl (ja_cons (je_var (i := 0) rfl (by first | exact .inl rfl | exact .inr (.inl rfl) | exact .inr (.inr rfl))) (ja_cons je_int ja_nil)) rfl)))
    (jss_cons (js_set (i := 4) nd rfl (by first | exact .inl rfl | exact .inr rfl) (je_lst (ja_cons (je_op o_add (je_op o_add (je_callTy c_list rfl (fc.n _ (by decide : (Str.ofString "list") ∈ blt)) (by decide +kernel) (ja_cons (je_sl (je_var (i := 1) rfl (by first | exact .inl rfl | exact .inr (.inl rfl) | exact .inr (.inr rfl))) jo_none (jo_some (je_var (i := 2) rfl (by first | exact .inl rfl | exact .inr (.inl rfl) | exact .inr (.inr rfl))))) ja_nil)) (je_lst (ja_cons (je_var (i := 3) rfl (by first | exact .inl rfl | exact .inr (.inl rfl) | exact .inr (.inr rfl))) ja_nil))) (je_callTy c_list rfl (fc.n _ (by decide : (Str.ofString "list") ∈ blt)) (by decide +kernel) (ja_cons (je_sl (je_var (i := 1) rfl (by first | exact .inl rfl | exact .inr (.inl rfl) | exact .inr (.inr rfl))) (jo_some (je_var (i := 2) rfl (by first | exact .inl rfl | exact .inr (.inl rfl) | exact .inr (.inr rfl)))) jo_none) ja_nil))) (ja_cons je_non (ja_cons je_int (ja_cons je_str (ja_cons je_dcz0 (ja_cons (je_op o_mul (je_lst (ja_cons (je_tup (ja_cons je_int (ja_cons je_int (ja_cons je_int ja_nil)))) ja_nil)) je_int) (ja_cons (je_dcz1 (kk := (.inr (Str.ofString "a"))) pe_str pe_int fun _ _ => (.int _)) (ja_cons (je_tup (ja_cons (je_var (i := 3) rfl (by first | exact .inl rfl | exact .inr (.inl rfl) | exact .inr (.inr rfl))) ja_nil)) ja_nil))))))))))
    (jss_cons (js_for passF rfl (ji_rng1 rfl (fc.n _ (by decide : (Str.ofString "range") ∈ blt)) (ja_cons je_int ja_nil)) (jg_nm (i := 5) nd rfl (by first | exact .inl rfl | exact .inr rfl))
    (jss_cons (js_setC (i := 8) nd rfl (by first | exact .inl rfl | exact .inr rfl) (je_cl C__law_copy (by decide) hr takesF rfl (ja_cons (je_ix (roomU hr) (je_var (i := 4) rfl (by first | exact .inl rfl | exact .inr (.inl rfl) | exact .inr (.inr rfl))) (je_cl C__law_take (by decide) hr takesF rfl (ja_cons (je_var (i := 0) rfl (by first | exact .inl rfl | exact .inr (.inl rfl) | exact .inr (.inr rfl))) (ja_cons je_int ja_nil)) rfl)) ja_nil) rfl))
    (jss_cons (js_set (i := 9) nd rfl (by first | exact .inl rfl | exact .inr rfl) (je_cl C__law_asked (by decide) hr takesF rfl (ja_cons (je_var (i := 5) rfl (by first | exact .inl rfl | exact .inr (.inl rfl) | exact .inr (.inr rfl))) (ja_cons (je_cmp (o_eq (roomU hr)) (je_var (i := 5) rfl (by first | exact .inl rfl | exact .inr (.inl rfl) | exact .inr (.inr rfl))) je_int (nomark _)) (ja_cons (je_var (i := 8) rfl (by first | exact .inl rfl | exact .inr (.inl rfl) | exact .inr (.inr rfl))) (ja_cons je_non (ja_cons je_non ja_nil))))) rfl))
    (jss_cons (js_if (JW.jt (jw_or (jt_cmp (o_ne (roomU hr)) (je_ix (roomU hr) (je_var (i := 9) rfl (by first | exact .inl rfl | exact .inr (.inl rfl) | exact .inr (.inr rfl))) je_int) je_str (nomark _)) (jw_or1 (jt_not (jt_tr (je_cl C__law_blamed (by decide) hr takesF rfl (ja_cons (je_ix (roomU hr) (je_var (i := 9) rfl (by first | exact .inl rfl | exact .inr (.inl rfl) | exact .inr (.inr rfl))) je_int) (ja_cons (je_var (i := 8) rfl (by first | exact .inl rfl | exact .inr (.inl rfl) | exact .inr (.inr rfl))) ja_nil)) rfl))))))
    (jss_cons (js_ret je_bl)
    jss_nil)
    jss_nil)
    jss_nil))))
    (jss_cons (js_set (i := 6) nd rfl (by first | exact .inl rfl | exact .inr rfl) (je_lst (ja_cons (je_tup (ja_cons je_int (ja_cons je_int (ja_cons je_int ja_nil)))) (ja_cons (je_tup (ja_cons je_int (ja_cons je_int (ja_cons (je_un un_neg je_int) ja_nil)))) ja_nil))))
    (jss_cons (js_for passF rfl (ji_any (je_lst (ja_cons je_non (ja_cons je_bl (ja_cons (je_un un_neg je_int) (ja_cons je_int (ja_cons je_str (ja_cons (je_tup (ja_cons je_int ja_nil)) (ja_cons je_dcz0 ja_nil))))))))) (jg_nm (i := 7) nd rfl (by first | exact .inl rfl | exact .inr rfl))
    (jss_cons (js_set (i := 10) nd rfl (by first | exact .inl rfl | exact .inr rfl) (je_lst (ja_cons (je_cl C__law_asked (by decide) hr takesF rfl (ja_cons je_int (ja_cons je_bl (ja_cons (je_var (i := 6) rfl (by first | exact .inl rfl | exact .inr (.inl rfl) | exact .inr (.inr rfl))) (ja_cons (je_var (i := 7) rfl (by first | exact .inl rfl | exact .inr (.inl rfl) | exact .inr (.inr rfl))) (ja_cons (je_var (i := 7) rfl (by first | exact .inl rfl | exact .inr (.inl rfl) | exact .inr (.inr rfl))) ja_nil))))) rfl) (ja_cons (je_cl C__law_asked (by decide) hr takesF rfl (ja_cons je_int (ja_cons je_bl (ja_cons (je_var (i := 6) rfl (by first | exact .inl rfl | exact .inr (.inl rfl) | exact .inr (.inr rfl))) (ja_cons je_int (ja_cons (je_var (i := 7) rfl (by first | exact .inl rfl | exact .inr (.inl rfl) | exact .inr (.inr rfl))) ja_nil))))) rfl) ja_nil))))
    (jss_cons (js_if (jt_not (jt_tr (je_cl C__law_same (by decide) hr takesF rfl (ja_cons (je_var (i := 10) rfl (by first | exact .inl rfl | exact .inr (.inl rfl) | exact .inr (.inr rfl))) (ja_cons (je_lst (ja_cons (je_lst (ja_cons je_str (ja_cons (je_var (i := 7) rfl (by first | exact .inl rfl | exact .inr (.inl rfl) | exact .inr (.inr rfl))) ja_nil))) (ja_cons (je_lst (ja_cons je_str (ja_cons (je_var (i := 7) rfl (by first | exact .inl rfl | exact .inr (.inl rfl) | exact .inr (.inr rfl))) ja_nil))) ja_nil))) ja_nil)) rfl)))
    (jss_cons (js_ret je_bl)
    jss_nil)
    jss_nil)
    jss_nil)))
    (jss_cons (js_ret (je_and (je_cl C__law_same (by decide) hr takesF rfl (ja_cons (je_cl C__law_asked (by decide) hr takesF rfl (ja_cons je_int (ja_cons je_bl (ja_cons (je_var (i := 6) rfl (by first | exact .inl rfl | exact .inr (.inl rfl) | exact .inr (.inr rfl))) (ja_cons je_int (ja_cons je_int ja_nil))))) rfl) (ja_cons (je_lst (ja_cons je_str (ja_cons je_int ja_nil))) ja_nil)) rfl) (je_one (je_cl C__law_same (by decide) hr takesF rfl (ja_cons (je_cl C__law_asked (by decide) hr takesF rfl (ja_cons je_int (ja_cons je_bl (ja_cons (je_var (i := 6) rfl (by first | exact .inl rfl | exact .inr (.inl rfl) | exact .inr (.inr rfl))) (ja_cons je_int (ja_cons je_int ja_nil))))) rfl) (ja_cons (je_lst (ja_cons je_str (ja_cons je_non ja_nil))) ja_nil)) rfl))))
    jss_nil)))))))
theorem ok__law_row {P : Program} {w : World} {K : PySem.W.Frag} {mg : Str → Option Value} {base : Heap} {f : Addr} {fd : FuncData} (fc : Fc K mg) (FD : FunD K (Str.ofString "_law_row") (Str.ofString "_law_row") (defArgs s__law_row) (defBody s__law_row) (defScope s__law_row) [] [] f fd) (hm : mg (Str.ofString "_law_row") = some (.ref f)) : Ce P w K mg base (Str.ofString "_law_row") s__law_row 1 P__law_row F__law_row := by
  have nd := (sc__law_row).nd
  refine ⟨f, fd, FD, okP (k := 0) FD sc__law_row fun cdv A outer s H E hr => ?_, hm, (FD.bindsN fun _ _ _ _ _ _ us hl => match us, hl with | [_, _], _ => rfl)⟩
  unfold m__law_row
  exact (jss_cons (js_par2 (i := 3) (j := 4) rfl nd rfl rfl (by decide) rfl rfl (ja_cons (je_lcE [((Str.ofString "at"), 8)] rfl rfl nd (ji_rng1 rfl (fc.n _ (by decide : (Str.ofString "range") ∈ blt)) (ja_cons je_int ja_nil)) (blkOk_by (show blkC N__law_row (defScope s__law_row) _ _ = true by decide +kernel)) (fun _ _ _ _ _ => (jg_nm (i := 8) nd rfl (by first | exact .inl rfl | exact .inr rfl))) (fun _ _ _ _ _ => jts_nil) (fun _ _ _ _ _ => (je_if (jt_cmp (o_in (roomU hr)) (je_var (i := 8) rfl (by first | exact .inl rfl | exact .inr (.inl rfl) | exact .inr (.inr rfl))) (je_var (i := 1) rfl (by first | exact .inl rfl | exact .inr (.inl rfl) | exact .inr (.inr rfl))) (by rfl)) je_int je_non))) (ja_cons je_bl ja_nil)) (jns_nm (jns_nm jns_nil)))
    (jss_cons (js_for passF rfl (ji_rng1 rfl (fc.n _ (by decide : (Str.ofString "range") ∈ blt)) (ja_cons je_int ja_nil)) (jg_nm (i := 2) nd rfl (by first | exact .inl rfl | exact .inr rfl))
    (jss_cons (js_set (i := 4) nd rfl (by first | exact .inl rfl | exact .inr rfl) je_bl)
    (jss_cons (js_for passF rfl (ji_any (je_var (i := 0) rfl (by first | exact .inl rfl | exact .inr (.inl rfl) | exact .inr (.inr rfl)))) (jg_tup rfl (jgs_cons (jg_nm (i := 5) nd rfl (by first | exact .inl rfl | exact .inr rfl)) (jgs_cons (jg_nm (i := 6) nd rfl (by first | exact .inl rfl | exact .inr rfl)) (jgs_cons (jg_nm (i := 7) nd rfl (by first | exact .inl rfl | exact .inr rfl)) jgs_nil))))
    (jss_cons (js_if (JW.jt (jw_and (jt_cmp o_isN (je_ix (roomU hr) (je_var (i := 3) rfl (by first | exact .inl rfl | exact .inr (.inl rfl) | exact .inr (.inr rfl))) (je_var (i := 5) rfl (by first | exact .inl rfl | exact .inr (.inl rfl) | exact .inr (.inr rfl)))) je_non (nomark _)) (jw_and1 (JW.jt (jw_or (jt_cmp o_is (je_ix (roomU hr) (je_var (i := 3) rfl (by first | exact .inl rfl | exact .inr (.inl rfl) | exact .inr (.inr rfl))) (je_var (i := 6) rfl (by first | exact .inl rfl | exact .inr (.inl rfl) | exact .inr (.inr rfl)))) je_non (nomark _)) (jw_or1 (jt_cmp (o_lt (roomU hr)) (je_op o_add (je_ix (roomU hr) (je_var (i := 3) rfl (by first | exact .inl rfl | exact .inr (.inl rfl) | exact .inr (.inr rfl))) (je_var (i := 5) rfl (by first | exact .inl rfl | exact .inr (.inl rfl) | exact .inr (.inr rfl)))) (je_var (i := 7) rfl (by first | exact .inl rfl | exact .inr (.inl rfl) | exact .inr (.inr rfl)))) (je_ix (roomU hr) (je_var (i := 3) rfl (by first | exact .inl rfl | exact .inr (.inl rfl) | exact .inr (.inr rfl))) (je_var (i := 6) rfl (by first | exact .inl rfl | exact .inr (.inl rfl) | exact .inr (.inr rfl)))) (nomark _))))))))
    (jss_cons (js_tpd rfl (by decide) (ja_cons (je_op o_add (je_ix (roomU hr) (je_var (i := 3) rfl (by first | exact .inl rfl | exact .inr (.inl rfl) | exact .inr (.inr rfl))) (je_var (i := 5) rfl (by first | exact .inl rfl | exact .inr (.inl rfl) | exact .inr (.inr rfl)))) (je_var (i := 7) rfl (by first | exact .inl rfl | exact .inr (.inl rfl) | exact .inr (.inr rfl)))) (ja_cons je_bl ja_nil)) (jhs_cons (jh_of (W := W0) (jg_sub (je_var (i := 3) rfl (by first | exact .inl rfl | exact .inr (.inl rfl) | exact .inr (.inr rfl))) (je_var (i := 6) rfl (by first | exact .inl rfl | exact .inr (.inl rfl) | exact .inr (.inr rfl))))) (jhs_cons (jh_nm (i := 4) nd rfl (by first | exact .inl rfl | exact .inr rfl)) jhs_nil)))
    jss_nil)
    jss_nil)
    jss_nil))
    jss_nil)))
    (jss_cons (js_ret (je_lst (ja_cons (je_var (i := 3) rfl (by first | exact .inl rfl | exact .inr (.inl rfl) | exact .inr (.inr rfl))) (ja_cons (je_var (i := 4) rfl (by first | exact .inl rfl | exact .inr (.inl rfl) | exact .inr (.inr rfl))) ja_nil))))
    jss_nil)))
theorem ok__law_whole {P : Program} {w : World} {K : PySem.W.Frag} {mg : Str → Option Value} {base : Heap} {f : Addr} {fd : FuncData} (fc : Fc K mg) (FD : FunD K (Str.ofString "_law_whole") (Str.ofString "_law_whole") (defArgs s__law_whole) (defBody s__law_whole) (defScope s__law_whole) [] [] f fd) (hm : mg (Str.ofString "_law_whole") = some (.ref f)) : Ce P w K mg base (Str.ofString "_law_whole") s__law_whole 1 P__law_whole F__law_whole := by
  have nd := (sc__law_whole).nd
  refine ⟨f, fd, FD, okP (k := 0) FD sc__law_whole fun cdv A outer s H E hr => ?_, hm, (FD.bindsN fun _ _ _ _ _ _ us hl => match us, hl with | [_], _ => rfl)⟩
  unfold m__law_whole
  exact (jss_cons (js_ret (je_and (je_isi (c := .int) (by decide) rfl (fc.n _ (by decide : (Str.ofString "isinstance") ∈ blt)) (je_var (i := 0) rfl (by first | exact .inl rfl | exact .inr (.inl rfl) | exact .inr (.inr rfl))) (pe_ty (c := .int) rfl (fc.n _ (by decide : (Str.ofString "int") ∈ blt)) (by decide +kernel))) (je_one (je_not (je_isi (c := .bl) (by decide) rfl (fc.n _ (by decide : (Str.ofString "isinstance") ∈ blt)) (je_var (i := 0) rfl (by first | exact .inl rfl | exact .inr (.inl rfl) | exact .inr (.inr rfl))) (pe_ty (c := .bl) rfl (fc.n _ (by decide : (Str.ofString "bool") ∈ blt)) (by decide +kernel)))))))
    jss_nil)
theorem ok__law_is_clash {P : Program} {w : World} {K : PySem.W.Frag} {mg : Str → Option Value} {base : Heap} {f : Addr} {fd : FuncData} (fc : Fc K mg) (FD : FunD K (Str.ofString "_law_is_clash") (Str.ofString "_law_is_clash") (defArgs s__law_is_clash) (defBody s__law_is_clash) (defScope s__law_is_clash) [] [] f fd) (hm : mg (Str.ofString "_law_is_clash") = some (.ref f)) (C__law_whole : Ce P w K mg base (Str.ofString "_law_whole") s__law_whole 1 P__law_whole F__law_whole) : Ce P w K mg base (Str.ofString "_law_is_clash") s__law_is_clash 2 P__law_is_clash F__law_is_clash := by
  have nd := (sc__law_is_clash).nd
  refine ⟨f, fd, FD, okP (k := 1) FD sc__law_is_clash fun cdv A outer s H E hr => ?_, hm, (FD.bindsN fun _ _ _ _ _ _ us hl => match us, hl with | [_, _], _ => rfl)⟩
  unfold m__law_is_clash
  exact (jss_cons (js_if (JW.jt (jw_or (jt_not (jt_tr (je_isi (c := .tup) (by decide) rfl (fc.n _ (by decide : (Str.ofString "isinstance") ∈ blt)) (je_var (i := 1) rfl (by first | exact .inl rfl | exact .inr (.inl rfl) | exact .inr (.inr rfl))) (pe_ty (c := .tup) rfl (fc.n _ (by decide : (Str.ofString "tuple") ∈ blt)) (by decide +kernel))))) (jw_or (jt_cmp (o_eq (roomU hr)) (je_callB c_len rfl (fc.n _ (by decide : (Str.ofString "len") ∈ blt)) (by decide +kernel) (ja_cons (je_var (i := 1) rfl (by first | exact .inl rfl | exact .inr (.inl rfl) | exact .inr (.inr rfl))) ja_nil)) je_int (nomark _)) (jw_or1 (jt_cmp (o_ne (roomU hr)) (je_lcE [((Str.ofString "at"), 3)] rfl rfl nd (ji_any (je_var (i := 1) rfl (by first | exact .inl rfl | exact .inr (.inl rfl) | exact .inr (.inr rfl)))) (blkOk_by (show blkC N__law_is_clash (defScope s__law_is_clash) _ _ = true by decide +kernel)) (fun _ _ _ _ _ => (jg_nm (i := 3) nd rfl (by first | exact .inl rfl | exact .inr rfl))) (fun _ _ _ _ _ => (jts_one (JW.jt (jw_or (jt_not (jt_tr (je_cl C__law_whole (by decide) hr takes0 rfl (ja_cons (je_var (i := 3) rfl (by first | exact .inl rfl | exact .inr (.inl rfl) | exact .inr (.inr rfl))) ja_nil) rfl))) (jw_or1 (jt_not (jt_chain (o_le (roomU hr)) (o_lt (roomU hr)) je_int (je_var (i := 3) rfl (by first | exact .inl rfl | exact .inr (.inl rfl) | exact .inr (.inr rfl))) (je_callB c_len rfl (fc.n _ (by decide : (Str.ofString "len") ∈ blt)) (by decide +kernel) (ja_cons (je_var (i := 0) rfl (by first | exact .inl rfl | exact .inr (.inl rfl) | exact .inr (.inr rfl))) ja_nil))))))))) (fun _ _ _ _ _ => (je_var (i := 3) rfl (by first | exact .inl rfl | exact .inr (.inl rfl) | exact .inr (.inr rfl))))) (je_lst ja_nil) (nomark _))))))
    (jss_cons (js_ret je_bl)
    jss_nil)
    jss_nil)
    (jss_cons (js_for passF rfl (ji_rng1 rfl (fc.n _ (by decide : (Str.ofString "range") ∈ blt)) (ja_cons (je_callB c_len rfl (fc.n _ (by decide : (Str.ofString "len") ∈ blt)) (by decide +kernel) (ja_cons (je_var (i := 1) rfl (by first | exact .inl rfl | exact .inr (.inl rfl) | exact .inr (.inr rfl))) ja_nil)) ja_nil)) (jg_nm (i := 2) nd rfl (by first | exact .inl rfl | exact .inr rfl))
    (jss_cons (js_if (jt_cmp (o_ne (roomU hr)) (je_ix (roomU hr) (je_ix (roomU hr) (je_var (i := 0) rfl (by first | exact .inl rfl | exact .inr (.inl rfl) | exact .inr (.inr rfl))) (je_ix (roomU hr) (je_var (i := 1) rfl (by first | exact .inl rfl | exact .inr (.inl rfl) | exact .inr (.inr rfl))) (je_op o_sub (je_var (i := 2) rfl (by first | exact .inl rfl | exact .inr (.inl rfl) | exact .inr (.inr rfl))) je_int))) je_int) (je_ix (roomU hr) (je_ix (roomU hr) (je_var (i := 0) rfl (by first | exact .inl rfl | exact .inr (.inl rfl) | exact .inr (.inr rfl))) (je_ix (roomU hr) (je_var (i := 1) rfl (by first | exact .inl rfl | exact .inr (.inl rfl) | exact .inr (.inr rfl))) (je_var (i := 2) rfl (by first | exact .inl rfl | exact .inr (.inl rfl) | exact .inr (.inr rfl))))) je_int) (nomark _))
    (jss_cons (js_ret je_bl)
    jss_nil)
    jss_nil)
    jss_nil))
    (jss_cons (js_ret (je_cmp (o_lt (roomU hr)) (je_callB (c_sum rfl) rfl (fc.n _ (by decide : (Str.ofString "sum") ∈ blt)) (by decide +kernel) (ja_cons (je_lcE [((Str.ofString "at"), 3)] rfl rfl nd (ji_any (je_var (i := 1) rfl (by first | exact .inl rfl | exact .inr (.inl rfl) | exact .inr (.inr rfl)))) (blkOk_by (show blkC N__law_is_clash (defScope s__law_is_clash) _ _ = true by decide +kernel)) (fun _ _ _ _ _ => (jg_nm (i := 3) nd rfl (by first | exact .inl rfl | exact .inr rfl))) (fun _ _ _ _ _ => jts_nil) (fun _ _ _ _ _ => (je_ix (roomU hr) (je_ix (roomU hr) (je_var (i := 0) rfl (by first | exact .inl rfl | exact .inr (.inl rfl) | exact .inr (.inr rfl))) (je_var (i := 3) rfl (by first | exact .inl rfl | exact .inr (.inl rfl) | exact .inr (.inr rfl)))) je_int))) ja_nil)) je_int (nomark _)))
    jss_nil)))
theorem ok__law_right {P : Program} {w : World} {K : PySem.W.Frag} {mg : Str → Option Value} {base : Heap} {f : Addr} {fd : FuncData} (fc : Fc K mg) (FD : FunD K (Str.ofString "_law_right") (Str.ofString "_law_right") (defArgs s__law_right) (defBody s__law_right) (defScope s__law_right) [] [] f fd) (hm : mg (Str.ofString "_law_right") = some (.ref f)) (C__law_same : Ce P w K mg base (Str.ofString "_law_same") s__law_same 11 P__law_same (F__law_same DEP)) (C__law_asked : Ce P w K mg base (Str.ofString "_law_asked") s__law_asked 6 P__law_asked F__law_asked) (C__law_row : Ce P w K mg base (Str.ofString "_law_row") s__law_row 1 P__law_row F__law_row) (C__law_is_clash : Ce P w K mg base (Str.ofString "_law_is_clash") s__law_is_clash 2 P__law_is_clash F__law_is_clash) (C__law_take : Ce P w K mg base (Str.ofString "_law_take") s__law_take 1 P__law_take F__law_take) : Ce P w K mg base (Str.ofString "_law_right") s__law_right 12 P__law_right F__law_right := by
  have nd := (sc__law_right).nd
  refine ⟨f, fd, FD, okP (k := 11) FD sc__law_right fun cdv A outer s H E hr => ?_, hm, (FD.bindsN fun _ _ _ _ _ _ us hl => match us, hl with | [_, _, _], _ => rfl)⟩
  unfold m__law_right
  exact (jss_cons (js_asg (je_cl C__law_row (by decide) hr takesF rfl (ja_cons (je_var (i := 1) rfl (by first | exact .inl rfl | exact .inr (.inl rfl) | exact .inr (.inr rfl))) (ja_cons (je_lr1 rfl rfl (fc.n _ (by decide : (Str.ofString "list") ∈ blt)) rfl (fc.n _ (by decide : (Str.ofString "range") ∈ blt)) je_int) ja_nil)) rfl) (jh_of (W := W0) (jg_tup rfl (jgs_cons (jg_nm (i := 5) nd rfl (by first | exact .inl rfl | exact .inr rfl)) (jgs_cons (jg_nm (i := 6) nd rfl (by first | exact .inl rfl | exact .inr rfl)) jgs_nil)))))
    (jss_cons (js_for passF rfl (ji_rng1 rfl (fc.n _ (by decide : (Str.ofString "range") ∈ blt)) (ja_cons je_int ja_nil)) (jg_nm (i := 3) nd rfl (by first | exact .inl rfl | exact .inr rfl))
    (jss_cons (js_set (i := 7) nd rfl (by first | exact .inl rfl | exact .inr rfl) (je_if (jt_cmp (o_eq (roomU hr)) (je_var (i := 3) rfl (by first | exact .inl rfl | exact .inr (.inl rfl) | exact .inr (.inr rfl))) je_int (nomark _)) (je_callTy c_list rfl (fc.n _ (by decide : (Str.ofString "list") ∈ blt)) (by decide +kernel) (ja_cons (je_var (i := 1) rfl (by first | exact .inl rfl | exact .inr (.inl rfl) | exact .inr (.inr rfl))) ja_nil)) (je_callTy c_tuple rfl (fc.n _ (by decide : (Str.ofString "tuple") ∈ blt)) (by decide +kernel) (ja_cons (je_var (i := 1) rfl (by first | exact .inl rfl | exact .inr (.inl rfl) | exact .inr (.inr rfl))) ja_nil))))
    (jss_cons (js_set (i := 8) nd rfl (by first | exact .inl rfl | exact .inr rfl) (je_lst (ja_cons (je_cl C__law_asked (by decide) hr takesF rfl (ja_cons je_int (ja_cons (je_var (i := 2) rfl (by first | exact .inl rfl | exact .inr (.inl rfl) | exact .inr (.inr rfl))) (ja_cons (je_var (i := 7) rfl (by first | exact .inl rfl | exact .inr (.inl rfl) | exact .inr (.inr rfl))) (ja_cons je_non (ja_cons je_non ja_nil))))) rfl) (ja_cons (je_cl C__law_asked (by decide) hr takesF rfl (ja_cons je_int (ja_cons (je_not (je_var (i := 2) rfl (by first | exact .inl rfl | exact .inr (.inl rfl) | exact .inr (.inr rfl)))) (ja_cons (je_var (i := 7) rfl (by first | exact .inl rfl | exact .inr (.inl rfl) | exact .inr (.inr rfl))) (ja_cons je_non (ja_cons je_non ja_nil))))) rfl) ja_nil))))
    (jss_cons (js_if (JW.jt (jw_or (jt_not (jt_tr (je_cl C__law_same (by decide) hr takesF rfl (ja_cons (je_ix (roomU hr) (je_var (i := 8) rfl (by first | exact .inl rfl | exact .inr (.inl rfl) | exact .inr (.inr rfl))) je_int) (ja_cons (je_lst (ja_cons je_str (ja_cons (je_if (jt_tr (je_var (i := 6) rfl (by first | exact .inl rfl | exact .inr (.inl rfl) | exact .inr (.inr rfl)))) je_non (je_callTy c_tuple rfl (fc.n _ (by decide : (Str.ofString "tuple") ∈ blt)) (by decide +kernel) (ja_cons (je_var (i := 5) rfl (by first | exact .inl rfl | exact .inr (.inl rfl) | exact .inr (.inr rfl))) ja_nil))) ja_nil))) ja_nil)) rfl))) (jw_or (jt_cmp (o_ne (roomU hr)) (je_ix (roomU hr) (je_ix (roomU hr) (je_var (i := 8) rfl (by first | exact .inl rfl | exact .inr (.inl rfl) | exact .inr (.inr rfl))) je_int) je_int) je_str (nomark _)) (jw_or1 (jt_cmp (o_eq (roomU hr)) (je_cmp o_is (je_ix (roomU hr) (je_ix (roomU hr) (je_var (i := 8) rfl (by first | exact .inl rfl | exact .inr (.inl rfl) | exact .inr (.inr rfl))) je_int) je_int) je_non (nomark _)) (je_var (i := 6) rfl (by first | exact .inl rfl | exact .inr (.inl rfl) | exact .inr (.inr rfl))) (nomark _))))))
    (jss_cons (js_ret je_bl)
    jss_nil)
    jss_nil)
    (jss_cons (js_if (JW.jt (jw_and (jt_tr (je_var (i := 6) rfl (by first | exact .inl rfl | exact .inr (.inl rfl) | exact .inr (.inr rfl)))) (jw_and1 (jt_not (jt_tr (je_cl C__law_is_clash (by decide) hr takesF rfl (ja_cons (je_var (i := 1) rfl (by first | exact .inl rfl | exact .inr (.inl rfl) | exact .inr (.inr rfl))) (ja_cons (je_ix (roomU hr) (je_ix (roomU hr) (je_var (i := 8) rfl (by first | exact .inl rfl | exact .inr (.inl rfl) | exact .inr (.inr rfl))) je_int) je_int) ja_nil)) rfl))))))
    (jss_cons (js_ret je_bl)
    jss_nil)
    jss_nil)
    jss_nil)))))
    (jss_cons (js_for passF rfl (ji_rng1 rfl (fc.n _ (by decide : (Str.ofString "range") ∈ blt)) (ja_cons je_int ja_nil)) (jg_nm (i := 3) nd rfl (by first | exact .inl rfl | exact .inr rfl))
    (jss_cons (js_par2 (i := 10) (j := 11) rfl nd rfl rfl (by decide) rfl rfl (ja_cons (je_cl C__law_take (by decide) hr takesF rfl (ja_cons (je_var (i := 0) rfl (by first | exact .inl rfl | exact .inr (.inl rfl) | exact .inr (.inr rfl))) (ja_cons je_int ja_nil)) rfl) (ja_cons (je_cl C__law_take (by decide) hr takesF rfl (ja_cons (je_var (i := 0) rfl (by first | exact .inl rfl | exact .inr (.inl rfl) | exact .inr (.inr rfl))) (ja_cons je_int ja_nil)) rfl) ja_nil)) (jns_nm (jns_nm jns_nil)))
    (jss_cons (js_set (i := 9) nd rfl (by first | exact .inl rfl | exact .inr rfl) (je_cl C__law_asked (by decide) hr takesF rfl (ja_cons je_int (ja_cons (je_cmp (o_gt (roomU hr)) (je_var (i := 3) rfl (by first | exact .inl rfl | exact .inr (.inl rfl) | exact .inr (.inr rfl))) je_int (nomark _)) (ja_cons (je_callTy c_list rfl (fc.n _ (by decide : (Str.ofString "list") ∈ blt)) (by decide +kernel) (ja_cons (je_var (i := 1) rfl (by first | exact .inl rfl | exact .inr (.inl rfl) | exact .inr (.inr rfl))) ja_nil)) (ja_cons (je_var (i := 10) rfl (by first | exact .inl rfl | exact .inr (.inl rfl) | exact .inr (.inr rfl))) (ja_cons (je_var (i := 11) rfl (by first | exact .inl rfl | exact .inr (.inl rfl) | exact .inr (.inr rfl))) ja_nil))))) rfl))
    (jss_cons (js_if (JW.jt (jw_and (jt_tr (je_var (i := 6) rfl (by first | exact .inl rfl | exact .inr (.inl rfl) | exact .inr (.inr rfl)))) (jw_and1 (JW.jt (jw_or (jt_cmp (o_ne (roomU hr)) (je_ix (roomU hr) (je_var (i := 9) rfl (by first | exact .inl rfl | exact .inr (.inl rfl) | exact .inr (.inr rfl))) je_int) je_str (nomark _)) (jw_or1 (jt_not (jt_tr (je_cl C__law_is_clash (by decide) hr takesF rfl (ja_cons (je_var (i := 1) rfl (by first | exact .inl rfl | exact .inr (.inl rfl) | exact .inr (.inr rfl))) (ja_cons (je_ix (roomU hr) (je_var (i := 9) rfl (by first | exact .inl rfl | exact .inr (.inl rfl) | exact .inr (.inr rfl))) je_int) ja_nil)) rfl)))))))))
    (jss_cons (js_ret je_bl)
    jss_nil)
    jss_nil)
    (jss_cons (js_if (JW.jt (jw_and (jt_not (jt_tr (je_var (i := 6) rfl (by first | exact .inl rfl | exact .inr (.inl rfl) | exact .inr (.inr rfl))))) (jw_and1 (jt_not (jt_tr (je_cl C__law_same (by decide) hr takesF rfl (ja_cons (je_var (i := 9) rfl (by first | exact .inl rfl | exact .inr (.inl rfl) | exact .inr (.inr rfl))) (ja_cons (je_lst (ja_cons je_str (ja_cons (je_ix (roomU hr) (je_ix (roomU hr) (je_cl C__law_row (by decide) hr takesF rfl (ja_cons (je_var (i := 1) rfl (by first | exact .inl rfl | exact .inr (.inl rfl) | exact .inr (.inr rfl))) (ja_cons (je_lst (ja_cons (je_var (i := 10) rfl (by first | exact .inl rfl | exact .inr (.inl rfl) | exact .inr (.inr rfl))) ja_nil)) ja_nil)) rfl) je_int) (je_var (i := 11) rfl (by first | exact .inl rfl | exact .inr (.inl rfl) | exact .inr (.inr rfl)))) ja_nil))) ja_nil)) rfl))))))
    (jss_cons (js_ret je_bl)
    jss_nil)
    jss_nil)
    jss_nil)))))
    (jss_cons (js_set (i := 4) nd rfl (by first | exact .inl rfl | exact .inr rfl) (je_cl C__law_asked (by decide) hr takesF rfl (ja_cons je_int (ja_cons (je_var (i := 2) rfl (by first | exact .inl rfl | exact .inr (.inl rfl) | exact .inr (.inr rfl))) (ja_cons (je_callTy c_list rfl (fc.n _ (by decide : (Str.ofString "list") ∈ blt)) (by decide +kernel) (ja_cons (je_var (i := 1) rfl (by first | exact .inl rfl | exact .inr (.inl rfl) | exact .inr (.inr rfl))) ja_nil)) (ja_cons je_non (ja_cons je_non ja_nil))))) rfl))
    (jss_cons (js_ret (je_or (je_and (je_cmp o_is (je_ix (roomU hr) (je_ix (roomU hr) (je_var (i := 8) rfl (by first | exact .inl rfl | exact .inr (.inl rfl) | exact .inr (.inr rfl))) je_int) je_int) je_non (nomark _)) (je_one (je_cmp o_is (je_ix (roomU hr) (je_var (i := 4) rfl (by first | exact .inl rfl | exact .inr (.inl rfl) | exact .inr (.inr rfl))) je_int) je_non (nomark _)))) (je_one (je_and (je_isi (c := .tup) (by decide) rfl (fc.n _ (by decide : (Str.ofString "isinstance") ∈ blt)) (je_ix (roomU hr) (je_var (i := 4) rfl (by first | exact .inl rfl | exact .inr (.inl rfl) | exact .inr (.inr rfl))) je_int) (pe_ty (c := .tup) rfl (fc.n _ (by decide : (Str.ofString "tuple") ∈ blt)) (by decide +kernel))) (je_one (je_cl C__law_same (by decide) hr takesF rfl (ja_cons (je_ix (roomU hr) (je_var (i := 4) rfl (by first | exact .inl rfl | exact .inr (.inl rfl) | exact .inr (.inr rfl))) je_int) (ja_cons (je_ix (roomU hr) (je_ix (roomU hr) (je_var (i := 8) rfl (by first | exact .inl rfl | exact .inr (.inl rfl) | exact .inr (.inr rfl))) je_int) je_int) ja_nil)) rfl))))))
    jss_nil)))))
theorem ok__law_asks {P : Program} {w : World} {K : PySem.W.Frag} {mg : Str → Option Value} {base : Heap} {f : Addr} {fd : FuncData} (fc : Fc K mg) (FD : FunD K (Str.ofString "_law_asks") (Str.ofString "_law_asks") (defArgs s__law_asks) (defBody s__law_asks) (defScope s__law_asks) [] [] f fd) (hm : mg (Str.ofString "_law_asks") = some (.ref f)) (C__law_take : Ce P w K mg base (Str.ofString "_law_take") s__law_take 1 P__law_take F__law_take) : Ce P w K mg base (Str.ofString "_law_asks") s__law_asks 2 P__law_asks F__law_asks := by
  have nd := (sc__law_asks).nd
  refine ⟨f, fd, FD, okP (k := 1) FD sc__law_asks fun cdv A outer s H E hr => ?_, hm, (FD.bindsN fun _ _ _ _ _ _ us hl => match us, hl with | [_], _ => rfl)⟩
  unfold m__law_asks
  exact (jss_cons (js_par3 (i := 3) (j := 4) (l := 5) rfl nd rfl rfl rfl (by decide) (by decide) (by decide) rfl rfl rfl (ja_cons (je_lcE [((Str.ofString "at"), 9)] rfl rfl nd (ji_rng1 rfl (fc.n _ (by decide : (Str.ofString "range") ∈ blt)) (ja_cons je_int ja_nil)) (blkOk_by (show blkC N__law_asks (defScope s__law_asks) _ _ = true by decide +kernel)) (fun _ _ _ _ _ => (jg_nm (i := 9) nd rfl (by first | exact .inl rfl | exact .inr rfl))) (fun _ _ _ _ _ => jts_nil) (fun _ _ _ _ _ => (je_op o_sub (je_cl C__law_take (by decide) hr takes0 rfl (ja_cons (je_var (i := 0) rfl (by first | exact .inl rfl | exact .inr (.inl rfl) | exact .inr (.inr rfl))) (ja_cons je_int ja_nil)) rfl) je_int))) (ja_cons (je_cl C__law_take (by decide) hr takesF rfl (ja_cons (je_var (i := 0) rfl (by first | exact .inl rfl | exact .inr (.inl rfl) | exact .inr (.inr rfl))) (ja_cons je_int ja_nil)) rfl) (ja_cons (je_lst ja_nil) ja_nil))) (jns_nm (jns_nm (jns_nm jns_nil))))
    (jss_cons (js_set (i := 1) nd rfl (by first | exact .inl rfl | exact .inr rfl) (je_op o_add je_int (je_cl C__law_take (by decide) hr takesF rfl (ja_cons (je_var (i := 0) rfl (by first | exact .inl rfl | exact .inr (.inl rfl) | exact .inr (.inr rfl))) (ja_cons je_int ja_nil)) rfl)))
    (jss_cons (js_for passF rfl (ji_rng1 rfl (fc.n _ (by decide : (Str.ofString "range") ∈ blt)) (ja_cons (je_if (jt_cmp (o_eq (roomU hr)) (je_cl C__law_take (by decide) hr takesF rfl (ja_cons (je_var (i := 0) rfl (by first | exact .inl rfl | exact .inr (.inl rfl) | exact .inr (.inr rfl))) (ja_cons je_int ja_nil)) rfl) je_int (nomark _)) je_int (je_cl C__law_take (by decide) hr takesF rfl (ja_cons (je_var (i := 0) rfl (by first | exact .inl rfl | exact .inr (.inl rfl) | exact .inr (.inr rfl))) (ja_cons je_int ja_nil)) rfl)) ja_nil)) (jg_nm (i := 2) nd rfl (by first | exact .inl rfl | exact .inr rfl))
    (jss_cons (js_par2 (i := 6) (j := 7) rfl nd rfl rfl (by decide) rfl rfl (ja_cons (je_cl C__law_take (by decide) hr takesF rfl (ja_cons (je_var (i := 0) rfl (by first | exact .inl rfl | exact .inr (.inl rfl) | exact .inr (.inr rfl))) (ja_cons (je_var (i := 1) rfl (by first | exact .inl rfl | exact .inr (.inl rfl) | exact .inr (.inr rfl))) ja_nil)) rfl) (ja_cons (je_cl C__law_take (by decide) hr takesF rfl (ja_cons (je_var (i := 0) rfl (by first | exact .inl rfl | exact .inr (.inl rfl) | exact .inr (.inr rfl))) (ja_cons (je_var (i := 1) rfl (by first | exact .inl rfl | exact .inr (.inl rfl) | exact .inr (.inr rfl))) ja_nil)) rfl) ja_nil)) (jns_nm (jns_nm jns_nil)))
    (jss_cons (js_expr (je_append (je_var (i := 5) rfl (by first | exact .inl rfl | exact .inr (.inl rfl) | exact .inr (.inr rfl))) (ja_cons (je_tup (ja_cons (je_var (i := 6) rfl (by first | exact .inl rfl | exact .inr (.inl rfl) | exact .inr (.inr rfl))) (ja_cons (je_var (i := 7) rfl (by first | exact .inl rfl | exact .inr (.inl rfl) | exact .inr (.inr rfl))) (ja_cons (je_if (jt_cmp (o_lt (roomU hr)) (je_var (i := 4) rfl (by first | exact .inl rfl | exact .inr (.inl rfl) | exact .inr (.inr rfl))) je_int (nomark _)) (je_op o_add (je_op o_sub (je_ix (roomU hr) (je_var (i := 3) rfl (by first | exact .inl rfl | exact .inr (.inl rfl) | exact .inr (.inr rfl))) (je_var (i := 7) rfl (by first | exact .inl rfl | exact .inr (.inl rfl) | exact .inr (.inr rfl)))) (je_ix (roomU hr) (je_var (i := 3) rfl (by first | exact .inl rfl | exact .inr (.inl rfl) | exact .inr (.inr rfl))) (je_var (i := 6) rfl (by first | exact .inl rfl | exact .inr (.inl rfl) | exact .inr (.inr rfl))))) (je_cl C__law_take (by decide) hr takesF rfl (ja_cons (je_var (i := 0) rfl (by first | exact .inl rfl | exact .inr (.inl rfl) | exact .inr (.inr rfl))) (ja_cons je_int ja_nil)) rfl)) (je_op o_sub (je_cl C__law_take (by decide) hr takesF rfl (ja_cons (je_var (i := 0) rfl (by first | exact .inl rfl | exact .inr (.inl rfl) | exact .inr (.inr rfl))) (ja_cons je_int ja_nil)) rfl) je_int)) ja_nil)))) ja_nil)))
    jss_nil)))
    (jss_cons (js_if (JW.jt (jw_and (jt_cmp (o_eq (roomU hr)) (je_var (i := 4) rfl (by first | exact .inl rfl | exact .inr (.inl rfl) | exact .inr (.inr rfl))) je_int (nomark _)) (jw_and1 (jt_cmp (o_ne (roomU hr)) (je_var (i := 5) rfl (by first | exact .inl rfl | exact .inr (.inl rfl) | exact .inr (.inr rfl))) (je_lst ja_nil) (nomark _)))))
    (jss_cons (js_asg (je_ix (roomU hr) (je_var (i := 5) rfl (by first | exact .inl rfl | exact .inr (.inl rfl) | exact .inr (.inr rfl))) (je_cl C__law_take (by decide) hr takesF rfl (ja_cons (je_var (i := 0) rfl (by first | exact .inl rfl | exact .inr (.inl rfl) | exact .inr (.inr rfl))) (ja_cons (je_callB c_len rfl (fc.n _ (by decide : (Str.ofString "len") ∈ blt)) (by decide +kernel) (ja_cons (je_var (i := 5) rfl (by first | exact .inl rfl | exact .inr (.inl rfl) | exact .inr (.inr rfl))) ja_nil)) ja_nil)) rfl)) (jh_of (W := W0) (jg_tup rfl (jgs_cons (jg_nm (i := 6) nd rfl (by first | exact .inl rfl | exact .inr rfl)) (jgs_cons (jg_nm (i := 7) nd rfl (by first | exact .inl rfl | exact .inr rfl)) (jgs_cons (jg_nm (i := 8) nd rfl (by first | exact .inl rfl | exact .inr rfl)) jgs_nil))))))
    (jss_cons (js_asg (je_tup (ja_cons (je_var (i := 7) rfl (by first | exact .inl rfl | exact .inr (.inl rfl) | exact .inr (.inr rfl))) (ja_cons (je_var (i := 6) rfl (by first | exact .inl rfl | exact .inr (.inl rfl) | exact .inr (.inr rfl))) (ja_cons (je_op o_sub (je_un un_neg (je_var (i := 8) rfl (by first | exact .inl rfl | exact .inr (.inl rfl) | exact .inr (.inr rfl)))) (je_cl C__law_take (by decide) hr takesF rfl (ja_cons (je_var (i := 0) rfl (by first | exact .inl rfl | exact .inr (.inl rfl) | exact .inr (.inr rfl))) (ja_cons je_int ja_nil)) rfl)) ja_nil)))) (jh_of (W := W0) (jg_sub (je_var (i := 5) rfl (by first | exact .inl rfl | exact .inr (.inl rfl) | exact .inr (.inr rfl))) (je_cl C__law_take (by decide) hr takes0 rfl (ja_cons (je_var (i := 0) rfl (by first | exact .inl rfl | exact .inr (.inl rfl) | exact .inr (.inr rfl))) (ja_cons (je_callB c_len rfl (fc.n _ (by decide : (Str.ofString "len") ∈ blt)) (by decide +kernel) (ja_cons (je_var (i := 5) rfl (by first | exact .inl rfl | exact .inr (.inl rfl) | exact .inr (.inr rfl))) ja_nil)) ja_nil)) rfl))))
    jss_nil))
    jss_nil)
    (jss_cons (js_ret (je_var (i := 5) rfl (by first | exact .inl rfl | exact .inr (.inl rfl) | exact .inr (.inr rfl))))
    jss_nil)))))
theorem ok__law_box {P : Program} {w : World} {K : PySem.W.Frag} {mg : Str → Option Value} {base : Heap} {f : Addr} {fd : FuncData} (fc : Fc K mg) (FD : FunD K (Str.ofString "_law_box") (Str.ofString "_law_box") (defArgs s__law_box) (defBody s__law_box) (defScope s__law_box) [] [] f fd) (hm : mg (Str.ofString "_law_box") = some (.ref f)) : Ce P w K mg base (Str.ofString "_law_box") s__law_box 1 P__law_box F__law_box := by
  have nd := (sc__law_box).nd
  refine ⟨f, fd, FD, okP (k := 0) FD sc__law_box fun cdv A outer s H E hr => ?_, hm, (FD.bindsN fun _ _ _ _ _ _ us hl => match us, hl with | [_], _ => rfl)⟩
  unfold m__law_box
  exact (jss_cons (js_ret (je_lst (ja_cons (je_callB c_abs rfl (fc.n _ (by decide : (Str.ofString "abs") ∈ blt)) (by decide +kernel) (ja_cons (je_var (i := 0) rfl (by first | exact .inl rfl | exact .inr (.inl rfl) | exact .inr (.inr rfl))) ja_nil)) (ja_cons (je_cmp (o_ge (roomU hr)) (je_callB c_abs rfl (fc.n _ (by decide : (Str.ofString "abs") ∈ blt)) (by decide +kernel) (ja_cons (je_var (i := 0) rfl (by first | exact .inl rfl | exact .inr (.inl rfl) | exact .inr (.inr rfl))) ja_nil)) (je_op o_pow je_int je_int) (nomark _)) (ja_cons (je_op o_mod (je_callTy c_int rfl (fc.n _ (by decide : (Str.ofString "int") ∈ blt)) (by decide +kernel) (ja_cons (je_callB c_abs rfl (fc.n _ (by decide : (Str.ofString "abs") ∈ blt)) (by decide +kernel) (ja_cons (je_var (i := 0) rfl (by first | exact .inl rfl | exact .inr (.inl rfl) | exact .inr (.inr rfl))) ja_nil)) ja_nil)) je_int) (ja_cons je_int ja_nil))))))
    jss_nil)
theorem ok__law_cell {P : Program} {w : World} {K : PySem.W.Frag} {mg : Str → Option Value} {base : Heap} {f : Addr} {fd : FuncData} (fc : Fc K mg) (FD : FunD K (Str.ofString "_law_cell") (Str.ofString "_law_cell") (defArgs s__law_cell) (defBody s__law_cell) (defScope s__law_cell) [] [] f fd) (hm : mg (Str.ofString "_law_cell") = some (.ref f)) : Ce P w K mg base (Str.ofString "_law_cell") s__law_cell 1 P__law_cell F__law_cell := by
  have nd := (sc__law_cell).nd
  refine ⟨f, fd, FD, okP (k := 0) FD sc__law_cell fun cdv A outer s H E hr => ?_, hm, (FD.bindsN fun _ _ _ _ _ _ us hl => match us, hl with | [_, _], _ => rfl)⟩
  unfold m__law_cell
  exact (jss_cons (js_ret (je_if (jt_cmp (o_lt (roomU hr)) (je_var (i := 1) rfl (by first | exact .inl rfl | exact .inr (.inl rfl) | exact .inr (.inr rfl))) (je_callB c_len rfl (fc.n _ (by decide : (Str.ofString "len") ∈ blt)) (by decide +kernel) (ja_cons (je_var (i := 0) rfl (by first | exact .inl rfl | exact .inr (.inl rfl) | exact .inr (.inr rfl))) ja_nil)) (nomark _)) (je_ix (roomU hr) (je_var (i := 0) rfl (by first | exact .inl rfl | exact .inr (.inl rfl) | exact .inr (.inr rfl))) (je_var (i := 1) rfl (by first | exact .inl rfl | exact .inr (.inl rfl) | exact .inr (.inr rfl)))) (je_op o_add (je_op o_mul je_int (je_var (i := 1) rfl (by first | exact .inl rfl | exact .inr (.inl rfl) | exact .inr (.inr rfl)))) (je_op o_mod (je_callTy c_int rfl (fc.n _ (by decide : (Str.ofString "int") ∈ blt)) (by decide +kernel) (ja_cons (je_callB (c_sum rfl) rfl (fc.n _ (by decide : (Str.ofString "sum") ∈ blt)) (by decide +kernel) (ja_cons (je_sl (je_var (i := 0) rfl (by first | exact .inl rfl | exact .inr (.inl rfl) | exact .inr (.inr rfl))) jo_none (jo_some je_int)) ja_nil)) ja_nil)) je_int))))
    jss_nil)
theorem ok_law {P : Program} {w : World} {K : PySem.W.Frag} {mg : Str → Option Value} {base : Heap} {f : Addr} {fd : FuncData} (fc : Fc K mg) (FD : FunD K (Str.ofString "law") (Str.ofString "law") (defArgs s_law) (defBody s_law) (defScope s_law) [] [] f fd) (hm : mg (Str.ofString "law") = some (.ref f)) (C__law_refused_right : Ce P w K mg base (Str.ofString "_law_refused_right") s__law_refused_right 13 P__law_refused_right F__law_refused_right) (C__law_right : Ce P w K mg base (Str.ofString "_law_right") s__law_right 12 P__law_right F__law_right) (C__law_take : Ce P w K mg base (Str.ofString "_law_take") s__law_take 1 P__law_take F__law_take) (C__law_asks : Ce P w K mg base (Str.ofString "_law_asks") s__law_asks 2 P__law_asks F__law_asks) (C__law_box : Ce P w K mg base (Str.ofString "_law_box") s__law_box 1 P__law_box F__law_box) (C__law_cell : Ce P w K mg base (Str.ofString "_law_cell") s__law_cell 1 P__law_cell F__law_cell) : Ce P w K mg base (Str.ofString "law") s_law 14 P_law F_law := by
  have nd := (sc_law).nd
  refine ⟨f, fd, FD, okP (k := 13) FD sc_law fun cdv A outer s H E hr => ?_, hm, (FD.bindsN fun _ _ _ _ _ _ us hl => match us, hl with | [_], _ => rfl)⟩
  unfold m_law
  exact (jss_cons (js_for passF rfl (ji_rng1 rfl (fc.n _ (by decide : (Str.ofString "range") ∈ blt)) (ja_cons (je_callB (c_max2 rfl) rfl (fc.n _ (by decide : (Str.ofString "max") ∈ blt)) (by decide +kernel) (ja_cons je_int (ja_cons (je_callB (c_min2 rfl) rfl (fc.n _ (by decide : (Str.ofString "min") ∈ blt)) (by decide +kernel) (ja_cons je_int (ja_cons (je_callB c_len rfl (fc.n _ (by decide : (Str.ofString "len") ∈ blt)) (by decide +kernel) (ja_cons (je_var (i := 0) rfl (by first | exact .inl rfl | exact .inr (.inl rfl) | exact .inr (.inr rfl))) ja_nil)) ja_nil))) ja_nil))) ja_nil)) (jg_nm (i := 1) nd rfl (by first | exact .inl rfl | exact .inr rfl))
    (jss_cons (js_setC (i := 2) nd rfl (by first | exact .inl rfl | exact .inr rfl) (je_cl C__law_box (by decide) hr takesF rfl (ja_cons (je_cl C__law_cell (by decide) hr takesF rfl (ja_cons (je_var (i := 0) rfl (by first | exact .inl rfl | exact .inr (.inl rfl) | exact .inr (.inr rfl))) (ja_cons (je_var (i := 1) rfl (by first | exact .inl rfl | exact .inr (.inl rfl) | exact .inr (.inr rfl))) ja_nil)) rfl) ja_nil) rfl))
    (jss_cons (js_set (i := 3) nd rfl (by first | exact .inl rfl | exact .inr rfl) (je_cl C__law_asks (by decide) hr takesF rfl (ja_cons (je_var (i := 2) rfl (by first | exact .inl rfl | exact .inr (.inl rfl) | exact .inr (.inr rfl))) ja_nil) rfl))
    (jss_cons (js_if (JW.jt (jw_or (jt_not (jt_tr (je_cl C__law_right (by decide) hr takesF rfl (ja_cons (je_var (i := 2) rfl (by first | exact .inl rfl | exact .inr (.inl rfl) | exact .inr (.inr rfl))) (ja_cons (je_var (i := 3) rfl (by first | exact .inl rfl | exact .inr (.inl rfl) | exact .inr (.inr rfl))) (ja_cons (je_cmp (o_eq (roomU hr)) (je_cl C__law_take (by decide) hr takesF rfl (ja_cons (je_var (i := 2) rfl (by first | exact .inl rfl | exact .inr (.inl rfl) | exact .inr (.inr rfl))) (ja_cons je_int ja_nil)) rfl) je_int (nomark _)) ja_nil))) rfl))) (jw_or1 (jt_not (jt_tr (je_cl C__law_refused_right (by decide) hr takesF rfl (ja_cons (je_var (i := 2) rfl (by first | exact .inl rfl | exact .inr (.inl rfl) | exact .inr (.inr rfl))) (ja_cons (je_var (i := 3) rfl (by first | exact .inl rfl | exact .inr (.inl rfl) | exact .inr (.inr rfl))) ja_nil)) rfl))))))
    (jss_cons (js_ret je_bl)
    jss_nil)
    jss_nil)
    jss_nil))))
    (jss_cons (js_ret je_bl)
    jss_nil))
end LAW
end
-- H_k25
section
set_option maxHeartbeats 0
namespace LAW
open PySem PySem.Spec PyProof.Rows L2 PySem.SeqAt PySem.W PL
def d__law_same : He.DefD := ⟨(Str.ofString "_law_same", none), Str.ofString "_law_same", Str.ofString "_law_same", defArgs s__law_same, defBody s__law_same, defScope s__law_same, [], []⟩
def d_once_eased : He.DefD := ⟨(Str.ofString "once_eased", none), Str.ofString "once_eased", Str.ofString "once_eased", defArgs s_once_eased, defBody s_once_eased, defScope s_once_eased, [], []⟩
def d_eased : He.DefD := ⟨(Str.ofString "eased", none), Str.ofString "eased", Str.ofString "eased", defArgs s_eased, defBody s_eased, defScope s_eased, [], []⟩
def d_round_back : He.DefD := ⟨(Str.ofString "round_back", none), Str.ofString "round_back", Str.ofString "round_back", defArgs s_round_back, defBody s_round_back, defScope s_round_back, [], []⟩
def d_clash_of : He.DefD := ⟨(Str.ofString "clash_of", none), Str.ofString "clash_of", Str.ofString "clash_of", defArgs s_clash_of, defBody s_clash_of, defScope s_clash_of, [], []⟩
def d_is_integer : He.DefD := ⟨(Str.ofString "is_integer", none), Str.ofString "is_integer", Str.ofString "is_integer", defArgs s_is_integer, defBody s_is_integer, defScope s_is_integer, [], []⟩
def d_is_between : He.DefD := ⟨(Str.ofString "is_between", none), Str.ofString "is_between", Str.ofString "is_between", defArgs s_is_between, defBody s_is_between, defScope s_is_between, [], []⟩
def d_is_ask : He.DefD := ⟨(Str.ofString "is_ask", none), Str.ofString "is_ask", Str.ofString "is_ask", defArgs s_is_ask, defBody s_is_ask, defScope s_is_ask, [], []⟩
def d_is_list : He.DefD := ⟨(Str.ofString "is_list", none), Str.ofString "is_list", Str.ofString "is_list", defArgs s_is_list, defBody s_is_list, defScope s_is_list, [], []⟩
def d_check_asks : He.DefD := ⟨(Str.ofString "check_asks", none), Str.ofString "check_asks", Str.ofString "check_asks", defArgs s_check_asks, defBody s_check_asks, defScope s_check_asks, [], []⟩
def d_surely_at_most : He.DefD := ⟨(Str.ofString "surely_at_most", none), Str.ofString "surely_at_most", Str.ofString "surely_at_most", defArgs s_surely_at_most, defBody s_surely_at_most, defScope s_surely_at_most, [], []⟩
def d_clash : He.DefD := ⟨(Str.ofString "clash", none), Str.ofString "clash", Str.ofString "clash", defArgs s_clash, defBody s_clash, defScope s_clash, [], []⟩
def d_settled : He.DefD := ⟨(Str.ofString "settled", none), Str.ofString "settled", Str.ofString "settled", defArgs s_settled, defBody s_settled, defScope s_settled, [], []⟩
def d__law_asked : He.DefD := ⟨(Str.ofString "_law_asked", none), Str.ofString "_law_asked", Str.ofString "_law_asked", defArgs s__law_asked, defBody s__law_asked, defScope s__law_asked, [], []⟩
def d__law_blamed : He.DefD := ⟨(Str.ofString "_law_blamed", none), Str.ofString "_law_blamed", Str.ofString "_law_blamed", defArgs s__law_blamed, defBody s__law_blamed, defScope s__law_blamed, [], []⟩
def d__law_copy : He.DefD := ⟨(Str.ofString "_law_copy", none), Str.ofString "_law_copy", Str.ofString "_law_copy", defArgs s__law_copy, defBody s__law_copy, defScope s__law_copy, [], []⟩
def d__law_take : He.DefD := ⟨(Str.ofString "_law_take", none), Str.ofString "_law_take", Str.ofString "_law_take", defArgs s__law_take, defBody s__law_take, defScope s__law_take, [], []⟩
def d__law_refused_right : He.DefD := ⟨(Str.ofString "_law_refused_right", none), Str.ofString "_law_refused_right", Str.ofString "_law_refused_right", defArgs s__law_refused_right, defBody s__law_refused_right, defScope s__law_refused_right, [], []⟩
def d__law_row : He.DefD := ⟨(Str.ofString "_law_row", none), Str.ofString "_law_row", Str.ofString "_law_row", defArgs s__law_row, defBody s__law_row, defScope s__law_row, [], []⟩
def d__law_whole : He.DefD := ⟨(Str.ofString "_law_whole", none), Str.ofString "_law_whole", Str.ofString "_law_whole", defArgs s__law_whole, defBody s__law_whole, defScope s__law_whole, [], []⟩
def d__law_is_clash : He.DefD := ⟨(Str.ofString "_law_is_clash", none), Str.ofString "_law_is_clash", Str.ofString "_law_is_clash", defArgs s__law_is_clash, defBody s__law_is_clash, defScope s__law_is_clash, [], []⟩
def d__law_right : He.DefD := ⟨(Str.ofString "_law_right", none), Str.ofString "_law_right", Str.ofString "_law_right", defArgs s__law_right, defBody s__law_right, defScope s__law_right, [], []⟩
def d__law_asks : He.DefD := ⟨(Str.ofString "_law_asks", none), Str.ofString "_law_asks", Str.ofString "_law_asks", defArgs s__law_asks, defBody s__law_asks, defScope s__law_asks, [], []⟩
def d__law_box : He.DefD := ⟨(Str.ofString "_law_box", none), Str.ofString "_law_box", Str.ofString "_law_box", defArgs s__law_box, defBody s__law_box, defScope s__law_box, [], []⟩
def d__law_cell : He.DefD := ⟨(Str.ofString "_law_cell", none), Str.ofString "_law_cell", Str.ofString "_law_cell", defArgs s__law_cell, defBody s__law_cell, defScope s__law_cell, [], []⟩
def d_law : He.DefD := ⟨(Str.ofString "law", none), Str.ofString "law", Str.ofString "law", defArgs s_law, defBody s_law, defScope s_law, [], []⟩
abbrev si_InvalidAsks : Stmt := inClass (top 2) 0
abbrev si_InvalidIndex : Stmt := inClass (top 3) 0
abbrev si_Clash : Stmt := inClass (top 5) 0
def di_InvalidAsks : He.DefD := ⟨(Str.ofString "InvalidAsks", some "__init__"), "__init__", Str.ofString "InvalidAsks.__init__", defArgs si_InvalidAsks, defBody si_InvalidAsks, defScope si_InvalidAsks, [], []⟩
def di_InvalidIndex : He.DefD := ⟨(Str.ofString "InvalidIndex", some "__init__"), "__init__", Str.ofString "InvalidIndex.__init__", defArgs si_InvalidIndex, defBody si_InvalidIndex, defScope si_InvalidIndex, [], []⟩
def di_Clash : He.DefD := ⟨(Str.ofString "Clash", some "__init__"), "__init__", Str.ofString "Clash.__init__", defArgs si_Clash, defBody si_Clash, defScope si_Clash, [], []⟩
def fn : List He.DefD := [d__law_same, d_once_eased, d_eased, d_round_back, d_clash_of, d_is_integer, d_is_between, d_is_ask, d_is_list, d_check_asks, d_surely_at_most, d_clash, d_settled, d__law_asked, d__law_blamed, d__law_copy, d__law_take, d__law_refused_right, d__law_row, d__law_whole, d__law_is_clash, d__law_right, d__law_asks, d__law_box, d__law_cell, d_law, di_InvalidAsks, di_InvalidIndex, di_Clash]
def fa : List He.Fa := [.glo (Str.ofString "_law_same"), .glo (Str.ofString "once_eased"), .glo (Str.ofString "eased"), .glo (Str.ofString "round_back"), .glo (Str.ofString "clash_of"), .glo (Str.ofString "is_integer"), .glo (Str.ofString "is_between"), .glo (Str.ofString "is_ask"), .glo (Str.ofString "is_list"), .glo (Str.ofString "check_asks"), .glo (Str.ofString "surely_at_most"), .glo (Str.ofString "clash"), .glo (Str.ofString "settled"), .glo (Str.ofString "_law_asked"), .glo (Str.ofString "_law_blamed"), .glo (Str.ofString "_law_copy"), .glo (Str.ofString "_law_take"), .glo (Str.ofString "_law_refused_right"), .glo (Str.ofString "_law_row"), .glo (Str.ofString "_law_whole"), .glo (Str.ofString "_law_is_clash"), .glo (Str.ofString "_law_right"), .glo (Str.ofString "_law_asks"), .glo (Str.ofString "_law_box"), .glo (Str.ofString "_law_cell"), .glo (Str.ofString "law"), .free (Str.ofString "bool"), .free (Str.ofString "isinstance"), .free (Str.ofString "int"), .free (Str.ofString "list"), .free (Str.ofString "tuple"), .free (Str.ofString "len"), .free (Str.ofString "all"), .free (Str.ofString "range"), .free (Str.ofString "enumerate"), .free (Str.ofString "sum"), .free (Str.ofString "abs"), .free (Str.ofString "dict"), .free (Str.ofString "str"), .free (Str.ofString "min"), .free (Str.ofString "max"), .int (Str.ofString "MANY") 9, .int (Str.ofString "MOST_ASKS") 40, .int (Str.ofString "MOST_NUMBER") 1000, .glo (Str.ofString "ArrowError"), .glo (Str.ofString "InvalidAsks"), .glo (Str.ofString "InvalidIndex"), .glo (Str.ofString "Clash"), .exm (Str.ofString "ArrowError") (Str.ofString "ArrowError") true, .exm (Str.ofString "InvalidAsks") (Str.ofString "ArrowError") true, .exm (Str.ofString "InvalidIndex") (Str.ofString "ArrowError") true, .exm (Str.ofString "Clash") (Str.ofString "ArrowError") true, .exm (Str.ofString "ArrowError") (Str.ofString "Clash") false, .exm (Str.ofString "InvalidAsks") (Str.ofString "Clash") false, .exm (Str.ofString "InvalidIndex") (Str.ofString "Clash") false, .exm (Str.ofString "Clash") (Str.ofString "Clash") true, .exm (Str.ofString "ArrowError") (Str.ofString "InvalidAsks") false, .exm (Str.ofString "InvalidAsks") (Str.ofString "InvalidAsks") true, .exm (Str.ofString "InvalidIndex") (Str.ofString "InvalidAsks") false, .exm (Str.ofString "Clash") (Str.ofString "InvalidAsks") false, .exm (Str.ofString "ArrowError") (Str.ofString "InvalidIndex") false, .exm (Str.ofString "InvalidAsks") (Str.ofString "InvalidIndex") false, .exm (Str.ofString "InvalidIndex") (Str.ofString "InvalidIndex") true, .exm (Str.ofString "Clash") (Str.ofString "InvalidIndex") false]
def eis : List EI := [⟨Str.ofString "ArrowError", []⟩, ⟨Str.ofString "InvalidAsks", [Str.ofString "given"]⟩, ⟨Str.ofString "InvalidIndex", [Str.ofString "given"]⟩, ⟨Str.ofString "Clash", [Str.ofString "asks"]⟩]
def tst (K : PySem.W.Frag) : Bool := eis.all fun q => exB K flds q
abbrev R0 : PySem.W.OpenRow := PySem.W.OpenLaw.row PySem.Challenge.rw_arrowbench_k25_differences
abbrev hk0 : PySem.W.Hook := hookP 5 fa fn tst
def ob0 (s : PySem.W.SharedT) : AlP := obsPG 5 fa fn tst (HandSHeadRun.getT s)
theorem ob0_eq (s : PySem.W.SharedT) : ob0 s = hk0.obs s.abs := obsPG_eq (HandSHeadRun.getT_eq s)
def lo0 : List Str := [Str.ofString "ArrowError", Str.ofString "InvalidAsks", Str.ofString "InvalidIndex", Str.ofString "Clash", Str.ofString "is_integer", Str.ofString "is_between", Str.ofString "is_list", Str.ofString "once_eased", Str.ofString "eased", Str.ofString "MANY", Str.ofString "MOST_ASKS", Str.ofString "MOST_NUMBER", Str.ofString "is_ask", Str.ofString "check_asks", Str.ofString "settled", Str.ofString "clash_of", Str.ofString "round_back", Str.ofString "clash", Str.ofString "surely_at_most", Str.ofString "_law_cell", Str.ofString "_law_box", Str.ofString "_law_take", Str.ofString "_law_same", Str.ofString "_law_whole", Str.ofString "_law_copy", Str.ofString "_law_blamed", Str.ofString "_law_row", Str.ofString "_law_is_clash", Str.ofString "_law_asks", Str.ofString "_law_asked"]
def lo1 : List Str := [Str.ofString "_law_right", Str.ofString "_law_refused_right"]
def loose : List Str := lo0 ++ lo1
theorem run0 (w : World) : HandSHeadRun.RunEq R0 (PySem.W.view R0.prog [38]) hk0 ob0 6000 loose w := by
  intro os
  kernel_rfl
theorem facts {P : Program} {w : World} {K : PySem.W.Frag} {h : Heap} {mg : Str → Option Value} {f : Addr} (X : K.In h) (G : h.Ns mainGlobals mg) (hfa : mg (Str.ofString "law") = some (.ref f)) (cc : SaysP fa fn tst K) :
    ∃ fd : FuncData, (∀ (s : Shared) (v : Value), BindsTo s fd ⟨[v], []⟩ [(Str.ofString "script", v)]) ∧ ∀ base : Heap, K.In base → base.Ns mainGlobals mg → FnOk P w K mg base (L2.CX P w) 14 f fd [Str.ofString "script"] (spOf K mg 1 F_law) := by
  obtain ⟨c, ct⟩ := cc
  have ex : ∀ q ∈ eis, ExI K flds q := fun q hq => exB_ok (List.all_eq_true.mp ct q hq)
  obtain ⟨fd__law_same, FD__law_same⟩ := c.def_ 0 (d := d__law_same) rfl
  obtain ⟨fd_once_eased, FD_once_eased⟩ := c.def_ 1 (d := d_once_eased) rfl
  obtain ⟨fd_eased, FD_eased⟩ := c.def_ 2 (d := d_eased) rfl
  obtain ⟨fd_round_back, FD_round_back⟩ := c.def_ 3 (d := d_round_back) rfl
  obtain ⟨fd_clash_of, FD_clash_of⟩ := c.def_ 4 (d := d_clash_of) rfl
  obtain ⟨fd_is_integer, FD_is_integer⟩ := c.def_ 5 (d := d_is_integer) rfl
  obtain ⟨fd_is_between, FD_is_between⟩ := c.def_ 6 (d := d_is_between) rfl
  obtain ⟨fd_is_ask, FD_is_ask⟩ := c.def_ 7 (d := d_is_ask) rfl
  obtain ⟨fd_is_list, FD_is_list⟩ := c.def_ 8 (d := d_is_list) rfl
  obtain ⟨fd_check_asks, FD_check_asks⟩ := c.def_ 9 (d := d_check_asks) rfl
  obtain ⟨fd_surely_at_most, FD_surely_at_most⟩ := c.def_ 10 (d := d_surely_at_most) rfl
  obtain ⟨fd_clash, FD_clash⟩ := c.def_ 11 (d := d_clash) rfl
  obtain ⟨fd_settled, FD_settled⟩ := c.def_ 12 (d := d_settled) rfl
  obtain ⟨fd__law_asked, FD__law_asked⟩ := c.def_ 13 (d := d__law_asked) rfl
  obtain ⟨fd__law_blamed, FD__law_blamed⟩ := c.def_ 14 (d := d__law_blamed) rfl
  obtain ⟨fd__law_copy, FD__law_copy⟩ := c.def_ 15 (d := d__law_copy) rfl
  obtain ⟨fd__law_take, FD__law_take⟩ := c.def_ 16 (d := d__law_take) rfl
  obtain ⟨fd__law_refused_right, FD__law_refused_right⟩ := c.def_ 17 (d := d__law_refused_right) rfl
  obtain ⟨fd__law_row, FD__law_row⟩ := c.def_ 18 (d := d__law_row) rfl
  obtain ⟨fd__law_whole, FD__law_whole⟩ := c.def_ 19 (d := d__law_whole) rfl
  obtain ⟨fd__law_is_clash, FD__law_is_clash⟩ := c.def_ 20 (d := d__law_is_clash) rfl
  obtain ⟨fd__law_right, FD__law_right⟩ := c.def_ 21 (d := d__law_right) rfl
  obtain ⟨fd__law_asks, FD__law_asks⟩ := c.def_ 22 (d := d__law_asks) rfl
  obtain ⟨fd__law_box, FD__law_box⟩ := c.def_ 23 (d := d__law_box) rfl
  obtain ⟨fd__law_cell, FD__law_cell⟩ := c.def_ 24 (d := d__law_cell) rfl
  obtain ⟨fd_law, FD_law⟩ := c.def_ 25 (d := d_law) rfl
  obtain ⟨fdi_InvalidAsks, FDi_InvalidAsks⟩ := c.def_ 26 (d := di_InvalidAsks) rfl
  obtain ⟨fdi_InvalidIndex, FDi_InvalidIndex⟩ := c.def_ 27 (d := di_InvalidIndex) rfl
  obtain ⟨fdi_Clash, FDi_Clash⟩ := c.def_ 28 (d := di_Clash) rfl
  have g__law_same := He.glo_ok X G (c.fact 0 (f := .glo (Str.ofString "_law_same")) rfl)
  have g_once_eased := He.glo_ok X G (c.fact 1 (f := .glo (Str.ofString "once_eased")) rfl)
  have g_eased := He.glo_ok X G (c.fact 2 (f := .glo (Str.ofString "eased")) rfl)
  have g_round_back := He.glo_ok X G (c.fact 3 (f := .glo (Str.ofString "round_back")) rfl)
  have g_clash_of := He.glo_ok X G (c.fact 4 (f := .glo (Str.ofString "clash_of")) rfl)
  have g_is_integer := He.glo_ok X G (c.fact 5 (f := .glo (Str.ofString "is_integer")) rfl)
  have g_is_between := He.glo_ok X G (c.fact 6 (f := .glo (Str.ofString "is_between")) rfl)
  have g_is_ask := He.glo_ok X G (c.fact 7 (f := .glo (Str.ofString "is_ask")) rfl)
  have g_is_list := He.glo_ok X G (c.fact 8 (f := .glo (Str.ofString "is_list")) rfl)
  have g_check_asks := He.glo_ok X G (c.fact 9 (f := .glo (Str.ofString "check_asks")) rfl)
  have g_surely_at_most := He.glo_ok X G (c.fact 10 (f := .glo (Str.ofString "surely_at_most")) rfl)
  have g_clash := He.glo_ok X G (c.fact 11 (f := .glo (Str.ofString "clash")) rfl)
  have g_settled := He.glo_ok X G (c.fact 12 (f := .glo (Str.ofString "settled")) rfl)
  have g__law_asked := He.glo_ok X G (c.fact 13 (f := .glo (Str.ofString "_law_asked")) rfl)
  have g__law_blamed := He.glo_ok X G (c.fact 14 (f := .glo (Str.ofString "_law_blamed")) rfl)
  have g__law_copy := He.glo_ok X G (c.fact 15 (f := .glo (Str.ofString "_law_copy")) rfl)
  have g__law_take := He.glo_ok X G (c.fact 16 (f := .glo (Str.ofString "_law_take")) rfl)
  have g__law_refused_right := He.glo_ok X G (c.fact 17 (f := .glo (Str.ofString "_law_refused_right")) rfl)
  have g__law_row := He.glo_ok X G (c.fact 18 (f := .glo (Str.ofString "_law_row")) rfl)
  have g__law_whole := He.glo_ok X G (c.fact 19 (f := .glo (Str.ofString "_law_whole")) rfl)
  have g__law_is_clash := He.glo_ok X G (c.fact 20 (f := .glo (Str.ofString "_law_is_clash")) rfl)
  have g__law_right := He.glo_ok X G (c.fact 21 (f := .glo (Str.ofString "_law_right")) rfl)
  have g__law_asks := He.glo_ok X G (c.fact 22 (f := .glo (Str.ofString "_law_asks")) rfl)
  have g__law_box := He.glo_ok X G (c.fact 23 (f := .glo (Str.ofString "_law_box")) rfl)
  have g__law_cell := He.glo_ok X G (c.fact 24 (f := .glo (Str.ofString "_law_cell")) rfl)
  have g_law := He.glo_ok X G (c.fact 25 (f := .glo (Str.ofString "law")) rfl)
  have h_ArrowError := He.glo_ok X G (c.fact 44 (f := .glo (Str.ofString "ArrowError")) rfl)
  have h_InvalidAsks := He.glo_ok X G (c.fact 45 (f := .glo (Str.ofString "InvalidAsks")) rfl)
  have h_InvalidIndex := He.glo_ok X G (c.fact 46 (f := .glo (Str.ofString "InvalidIndex")) rfl)
  have h_Clash := He.glo_ok X G (c.fact 47 (f := .glo (Str.ofString "Clash")) rfl)
  have fc : Fc K mg := by
    refine ⟨fun x hx => ?_, He.int_ok X G (c.fact 41 (f := .int (Str.ofString "MANY") 9) rfl), He.int_ok X G (c.fact 42 (f := .int (Str.ofString "MOST_ASKS") 40) rfl), He.int_ok X G (c.fact 43 (f := .int (Str.ofString "MOST_NUMBER") 1000) rfl), h_ArrowError, h_InvalidAsks, h_InvalidIndex, h_Clash, ?_, fun y hy C hC => ?_⟩
    · unfold blt at hx
      simp only [List.mem_cons, List.not_mem_nil, or_false] at hx
      rcases hx with rfl | rfl | rfl | rfl | rfl | rfl | rfl | rfl | rfl | rfl | rfl | rfl | rfl | rfl | rfl
      · exact He.free_ok X G (c.fact 26 (f := .free (Str.ofString "bool")) rfl)
      · exact He.free_ok X G (c.fact 27 (f := .free (Str.ofString "isinstance")) rfl)
      · exact He.free_ok X G (c.fact 28 (f := .free (Str.ofString "int")) rfl)
      · exact He.free_ok X G (c.fact 29 (f := .free (Str.ofString "list")) rfl)
      · exact He.free_ok X G (c.fact 30 (f := .free (Str.ofString "tuple")) rfl)
      · exact He.free_ok X G (c.fact 31 (f := .free (Str.ofString "len")) rfl)
      · exact He.free_ok X G (c.fact 32 (f := .free (Str.ofString "all")) rfl)
      · exact He.free_ok X G (c.fact 33 (f := .free (Str.ofString "range")) rfl)
      · exact He.free_ok X G (c.fact 34 (f := .free (Str.ofString "enumerate")) rfl)
      · exact He.free_ok X G (c.fact 35 (f := .free (Str.ofString "sum")) rfl)
      · exact He.free_ok X G (c.fact 36 (f := .free (Str.ofString "abs")) rfl)
      · exact He.free_ok X G (c.fact 37 (f := .free (Str.ofString "dict")) rfl)
      · exact He.free_ok X G (c.fact 38 (f := .free (Str.ofString "str")) rfl)
      · exact He.free_ok X G (c.fact 39 (f := .free (Str.ofString "min")) rfl)
      · exact He.free_ok X G (c.fact 40 (f := .free (Str.ofString "max")) rfl)
    · intro z hz C D hC hD
      unfold exms at hz
      simp only [List.mem_cons, List.not_mem_nil, or_false] at hz
      rcases hz with rfl | rfl | rfl | rfl | rfl | rfl | rfl | rfl | rfl | rfl | rfl | rfl | rfl | rfl | rfl | rfl
      · cases (h_ArrowError.symm.trans hC); cases (h_ArrowError.symm.trans hD); exact He.exm_ok (c.fact 48 (f := .exm (Str.ofString "ArrowError") (Str.ofString "ArrowError") true) rfl)
      · cases (h_InvalidAsks.symm.trans hC); cases (h_ArrowError.symm.trans hD); exact He.exm_ok (c.fact 49 (f := .exm (Str.ofString "InvalidAsks") (Str.ofString "ArrowError") true) rfl)
      · cases (h_InvalidIndex.symm.trans hC); cases (h_ArrowError.symm.trans hD); exact He.exm_ok (c.fact 50 (f := .exm (Str.ofString "InvalidIndex") (Str.ofString "ArrowError") true) rfl)
      · cases (h_Clash.symm.trans hC); cases (h_ArrowError.symm.trans hD); exact He.exm_ok (c.fact 51 (f := .exm (Str.ofString "Clash") (Str.ofString "ArrowError") true) rfl)
      · cases (h_ArrowError.symm.trans hC); cases (h_Clash.symm.trans hD); exact He.exm_ok (c.fact 52 (f := .exm (Str.ofString "ArrowError") (Str.ofString "Clash") false) rfl)
      · cases (h_InvalidAsks.symm.trans hC); cases (h_Clash.symm.trans hD); exact He.exm_ok (c.fact 53 (f := .exm (Str.ofString "InvalidAsks") (Str.ofString "Clash") false) rfl)
      · cases (h_InvalidIndex.symm.trans hC); cases (h_Clash.symm.trans hD); exact He.exm_ok (c.fact 54 (f := .exm (Str.ofString "InvalidIndex") (Str.ofString "Clash") false) rfl)
      · cases (h_Clash.symm.trans hC); cases (h_Clash.symm.trans hD); exact He.exm_ok (c.fact 55 (f := .exm (Str.ofString "Clash") (Str.ofString "Clash") true) rfl)
      · cases (h_ArrowError.symm.trans hC); cases (h_InvalidAsks.symm.trans hD); exact He.exm_ok (c.fact 56 (f := .exm (Str.ofString "ArrowError") (Str.ofString "InvalidAsks") false) rfl)
      · cases (h_InvalidAsks.symm.trans hC); cases (h_InvalidAsks.symm.trans hD); exact He.exm_ok (c.fact 57 (f := .exm (Str.ofString "InvalidAsks") (Str.ofString "InvalidAsks") true) rfl)
      · cases (h_InvalidIndex.symm.trans hC); cases (h_InvalidAsks.symm.trans hD); exact He.exm_ok (c.fact 58 (f := .exm (Str.ofString "InvalidIndex") (Str.ofString "InvalidAsks") false) rfl)
      · cases (h_Clash.symm.trans hC); cases (h_InvalidAsks.symm.trans hD); exact He.exm_ok (c.fact 59 (f := .exm (Str.ofString "Clash") (Str.ofString "InvalidAsks") false) rfl)
      · cases (h_ArrowError.symm.trans hC); cases (h_InvalidIndex.symm.trans hD); exact He.exm_ok (c.fact 60 (f := .exm (Str.ofString "ArrowError") (Str.ofString "InvalidIndex") false) rfl)
      · cases (h_InvalidAsks.symm.trans hC); cases (h_InvalidIndex.symm.trans hD); exact He.exm_ok (c.fact 61 (f := .exm (Str.ofString "InvalidAsks") (Str.ofString "InvalidIndex") false) rfl)
      · cases (h_InvalidIndex.symm.trans hC); cases (h_InvalidIndex.symm.trans hD); exact He.exm_ok (c.fact 62 (f := .exm (Str.ofString "InvalidIndex") (Str.ofString "InvalidIndex") true) rfl)
      · cases (h_Clash.symm.trans hC); cases (h_InvalidIndex.symm.trans hD); exact He.exm_ok (c.fact 63 (f := .exm (Str.ofString "Clash") (Str.ofString "InvalidIndex") false) rfl)
    · unfold exns at hy
      simp only [List.mem_cons, List.not_mem_nil, or_false] at hy
      rcases hy with rfl | rfl | rfl | rfl
      · cases (h_ArrowError.symm.trans hC); exact ⟨(ex (eis[0]) (by simp [eis])).xf, (ex (eis[0]) (by simp [eis])).no⟩
      · cases (h_InvalidAsks.symm.trans hC); exact ⟨(ex (eis[1]) (by simp [eis])).xf, (ex (eis[1]) (by simp [eis])).no⟩
      · cases (h_InvalidIndex.symm.trans hC); exact ⟨(ex (eis[2]) (by simp [eis])).xf, (ex (eis[2]) (by simp [eis])).no⟩
      · cases (h_Clash.symm.trans hC); exact ⟨(ex (eis[3]) (by simp [eis])).xf, (ex (eis[3]) (by simp [eis])).no⟩
  cases (hfa.symm.trans g_law)
  refine ⟨fd_law, fun s v => (FunD.bindsA (ps := [Str.ofString "script"]) FD_law fun _ _ _ _ _ _ us hl => match us, hl with | [_], _ => rfl) s [v] rfl, fun base _ _ => ?_⟩
  have X_InvalidAsks : Ex P w K mg base (Str.ofString "InvalidAsks") [Str.ofString "given"] := by
    have z := ex (eis[1]) (by simp [eis])
    obtain ⟨z1, z2⟩ := z.init (by simp [eis])
    have zn := z.no
    exact ⟨_, _, fdi_InvalidAsks, [Str.ofString "self", Str.ofString "given"], h_InvalidAsks, z.oex, z1, z2, okI (k := 0) (ps := [Str.ofString "self", Str.ofString "given"]) ⟨Str.ofString "given", Str.ofString "given", 1, _, _, _, _⟩ [] FDi_InvalidAsks ⟨rfl, rfl, rfl, by decide +kernel, rfl, by decide +kernel, by decide +kernel⟩ z.oex rfl rfl (by decide +kernel) (fun f hf => z.no f ((by decide +kernel : ∀ f ∈ [Str.ofString "given"], f ∈ flds) f hf)) (by decide) rfl (by decide), FDi_InvalidAsks.bindsN fun _ _ _ _ _ _ us hl => match us, hl with | [_, _], _ => rfl, by decide⟩
  have X_InvalidIndex : Ex P w K mg base (Str.ofString "InvalidIndex") [Str.ofString "given"] := by
    have z := ex (eis[2]) (by simp [eis])
    obtain ⟨z1, z2⟩ := z.init (by simp [eis])
    have zn := z.no
    exact ⟨_, _, fdi_InvalidIndex, [Str.ofString "self", Str.ofString "given"], h_InvalidIndex, z.oex, z1, z2, okI (k := 0) (ps := [Str.ofString "self", Str.ofString "given"]) ⟨Str.ofString "given", Str.ofString "given", 1, _, _, _, _⟩ [] FDi_InvalidIndex ⟨rfl, rfl, rfl, by decide +kernel, rfl, by decide +kernel, by decide +kernel⟩ z.oex rfl rfl (by decide +kernel) (fun f hf => z.no f ((by decide +kernel : ∀ f ∈ [Str.ofString "given"], f ∈ flds) f hf)) (by decide) rfl (by decide), FDi_InvalidIndex.bindsN fun _ _ _ _ _ _ us hl => match us, hl with | [_, _], _ => rfl, by decide⟩
  have X_Clash : Ex P w K mg base (Str.ofString "Clash") [Str.ofString "asks"] := by
    have z := ex (eis[3]) (by simp [eis])
    obtain ⟨z1, z2⟩ := z.init (by simp [eis])
    have zn := z.no
    exact ⟨_, _, fdi_Clash, [Str.ofString "self", Str.ofString "asks"], h_Clash, z.oex, z1, z2, okI (k := 0) (ps := [Str.ofString "self", Str.ofString "asks"]) ⟨Str.ofString "asks", Str.ofString "asks", 1, _, _, _, _⟩ [] FDi_Clash ⟨rfl, rfl, rfl, by decide +kernel, rfl, by decide +kernel, by decide +kernel⟩ z.oex rfl rfl (by decide +kernel) (fun f hf => z.no f ((by decide +kernel : ∀ f ∈ [Str.ofString "asks"], f ∈ flds) f hf)) (by decide) rfl (by decide), FDi_Clash.bindsN fun _ _ _ _ _ _ us hl => match us, hl with | [_, _], _ => rfl, by decide⟩
  have C__law_same := ok__law_same (P := P) (w := w) (base := base) fc FD__law_same g__law_same  DEP
  have C_once_eased := ok_once_eased (P := P) (w := w) (base := base) fc FD_once_eased g_once_eased 
  have C_eased := ok_eased (P := P) (w := w) (base := base) fc FD_eased g_eased C_once_eased
  have C_round_back := ok_round_back (P := P) (w := w) (base := base) fc FD_round_back g_round_back 
  have C_clash_of := ok_clash_of (P := P) (w := w) (base := base) fc FD_clash_of g_clash_of C_round_back
  have C_is_integer := ok_is_integer (P := P) (w := w) (base := base) fc FD_is_integer g_is_integer 
  have C_is_between := ok_is_between (P := P) (w := w) (base := base) fc FD_is_between g_is_between C_is_integer
  have C_is_ask := ok_is_ask (P := P) (w := w) (base := base) fc FD_is_ask g_is_ask C_is_between
  have C_is_list := ok_is_list (P := P) (w := w) (base := base) fc FD_is_list g_is_list 
  have C_check_asks := ok_check_asks (P := P) (w := w) (base := base) fc FD_check_asks g_check_asks C_is_ask C_is_list X_InvalidAsks
  have C_surely_at_most := ok_surely_at_most (P := P) (w := w) (base := base) fc FD_surely_at_most g_surely_at_most C_eased C_clash_of C_is_between C_check_asks X_Clash X_InvalidIndex
  have C_clash := ok_clash (P := P) (w := w) (base := base) fc FD_clash g_clash C_clash_of C_check_asks
  have C_settled := ok_settled (P := P) (w := w) (base := base) fc FD_settled g_settled C_eased C_check_asks
  have C__law_asked := ok__law_asked (P := P) (w := w) (base := base) fc FD__law_asked g__law_asked C_surely_at_most C_clash C_settled
  have C__law_blamed := ok__law_blamed (P := P) (w := w) (base := base) fc FD__law_blamed g__law_blamed C__law_same
  have C__law_copy := ok__law_copy (P := P) (w := w) (base := base) fc FD__law_copy g__law_copy 
  have C__law_take := ok__law_take (P := P) (w := w) (base := base) fc FD__law_take g__law_take 
  have C__law_refused_right := ok__law_refused_right (P := P) (w := w) (base := base) fc FD__law_refused_right g__law_refused_right C__law_same C__law_asked C__law_blamed C__law_copy C__law_take
  have C__law_row := ok__law_row (P := P) (w := w) (base := base) fc FD__law_row g__law_row 
  have C__law_whole := ok__law_whole (P := P) (w := w) (base := base) fc FD__law_whole g__law_whole 
  have C__law_is_clash := ok__law_is_clash (P := P) (w := w) (base := base) fc FD__law_is_clash g__law_is_clash C__law_whole
  have C__law_right := ok__law_right (P := P) (w := w) (base := base) fc FD__law_right g__law_right C__law_same C__law_asked C__law_row C__law_is_clash C__law_take
  have C__law_asks := ok__law_asks (P := P) (w := w) (base := base) fc FD__law_asks g__law_asks C__law_take
  have C__law_box := ok__law_box (P := P) (w := w) (base := base) fc FD__law_box g__law_box 
  have C__law_cell := ok__law_cell (P := P) (w := w) (base := base) fc FD__law_cell g__law_cell 
  have C_law := ok_law (P := P) (w := w) (base := base) fc FD_law g_law C__law_refused_right C__law_right C__law_take C__law_asks C__law_box C__law_cell
  obtain ⟨f2, fd2, FD2, G2, hm2, _⟩ := C_law
  cases (g_law.symm.trans hm2)
  have e2 : fd_law = fd2 := fd_same FD_law FD2
  subst e2
  exact G2
end LAW
end
-- B2
namespace LAW
open PySem PL
def Box (cs : List T) (j n : Nat) : Prop := ∃ (g : Int) (b : Bool) (r c : Int), cs[j]? = some (.lst [.int g, .bl b, .int r, .int c]) ∧ 0 ≤ g ∧ 0 ≤ r ∧ r < 2147483629 ∧ 0 ≤ c ∧ c ≤ n
theorem take_ok {cs : List T} {j n : Nat} {m : Int} (hb : Box cs j n) (hn : n ≤ 1000000) (h1 : 1 ≤ m) (h2 : m < 1073741824) :
    ∃ v t, F__law_take [.cel j, .int m] cs = .ok (.va (.int v)) (cs.set j t) ∧ 0 ≤ v ∧ v < m ∧ Box (cs.set j t) j (n + 1) := by
  obtain ⟨g, b, r, c, hc, hg, hr, hr2, hc0, hcn⟩ := hb
  have hj : j < cs.length := (List.getElem?_eq_some_iff.mp hc).1
  have hc2 : cs[j] = .lst [.int g, .bl b, .int r, .int c] := (List.getElem?_eq_some_iff.mp hc).2
  have m0 : m ≠ 0 := by omega
  have mA : m.natAbs < 1073741824 := by omega
  by_cases hh : b = true ∧ g > 0
  · obtain ⟨rfl, hg1⟩ := hh
    refine ⟨g.fmod m, .lst [.int (g.fdiv m), .bl true, .int r, .int c], ?_, ?_, ?_, ?_⟩
    · simp [F__law_take, m__law_take, fnM, hc, ixT, L2.atI, L2.ixN, tru, opGt_int, hg1, intF, opMod, opFdiv, m0, mA, hFz, gSb, plOf, sbT, putP]
    · rw [Int.fmod_eq_emod_of_nonneg _ (by omega)]; exact Int.emod_nonneg _ m0
    · rw [Int.fmod_eq_emod_of_nonneg _ (by omega)]; exact Int.emod_lt_of_pos _ (by omega)
    · refine ⟨_, _, _, _, List.getElem?_set_self hj, ?_, hr, hr2, hc0, by omega⟩
      rw [Int.fdiv_eq_ediv_of_nonneg _ (by omega)]
      exact Int.ediv_nonneg hg (by omega)
  · generalize hB : r + 15485867 * (c + 1) + 179424691 = B
    have B0 : 0 ≤ B := by omega
    have B1 : B.natAbs < 18446744073709551616 := by omega
    generalize hM : (B ^ 5).fmod 2147483647 = M
    have M0 : 0 ≤ M := by
      rw [← hM, Int.fmod_eq_emod_of_nonneg _ (by omega)]; exact Int.emod_nonneg _ (by omega)
    have M1 : M < 2147483647 := by
      rw [← hM, Int.fmod_eq_emod_of_nonneg _ (by omega)]; exact Int.emod_lt_of_pos _ (by omega)
    generalize hC : M * 48271 + 104743 * (c + 1) = C
    have C1 : C.natAbs < 18446744073709551616 := by omega
    refine ⟨((((C ^ 3).fmod 2147483587).fdiv 64)).fmod m, .lst [.int g, .bl b, .int r, .int (c + 1)], ?_, ?_, ?_, ?_⟩
    · have go : ∀ (k : Bool), k = (b && decide (g > 0)) → k = false := by
        intro k hk
        rw [hk]
        cases b with
        | false => rfl
        | true => simp at hh ⊢; omega
      cases b with
      | false => simp [F__law_take, m__law_take, fnM, hc2, hj, ixT, L2.atI, L2.ixN, tru, opGt_int, intF, opMod, opFdiv, m0, mA, hFz, gSb, plOf, sbT, putP, opAdd, opMul, opPow, hB, B1, hM, hC, C1]
      | true =>
        have hg2 : ¬ (g > 0) := by simp at hh; omega
        simp [F__law_take, m__law_take, fnM, hc2, hj, hg2, ixT, L2.atI, L2.ixN, tru, opGt_int, intF, opMod, opFdiv, m0, mA, hFz, gSb, plOf, sbT, putP, opAdd, opMul, opPow, hB, B1, hM, hC, C1]
    · rw [Int.fmod_eq_emod_of_nonneg _ (by omega)]; exact Int.emod_nonneg _ m0
    · rw [Int.fmod_eq_emod_of_nonneg _ (by omega)]; exact Int.emod_lt_of_pos _ (by omega)
    · exact ⟨_, _, _, _, List.getElem?_set_self hj, hg, hr, hr2, by omega, by omega⟩
end LAW
-- B3
namespace LAW
open PySem PL
/-- a comprehension that keeps nothing and changes nothing -/
theorem lcGo_none {vs : List Nat} {f : T → M Unit} {tt : M Bool} {te : M RV} {e : Ev} {acc : List T} : ∀ {ts : List T}, (∀ t ∈ ts, ∃ e1 e2, f t e = .ok () e1 ∧ tt e1 = .ok false e2 ∧ (⟨wipS e2.r vs, e2.c⟩ : Ev) = e) → lcGo none vs f tt te ts acc e = .ok acc e
  | [], _ => by rw [lcGo]; rfl
  | t :: ts, h => by
    obtain ⟨e1, e2, h1, h2, h3⟩ := h t List.mem_cons_self
    rw [lcGo]
    dsimp only
    rw [if_pos wOk_none, h1]
    dsimp only
    rw [h2]
    dsimp only
    rw [h3]
    exact lcGo_none fun t ht => h t (List.mem_cons_of_mem _ ht)
def okS : Nat → T → Prop
  | _, .non => True
  | _, .bl _ => True
  | _, .int _ => True
  | _, .str x => x.length ≤ sz
  | d + 1, .lst ts => ts.length ≤ sz ∧ ∀ t ∈ ts, okS d t
  | d + 1, .tup ts => ts.length ≤ sz ∧ ∀ t ∈ ts, okS d t
  | d + 1, .dcz ks ts => ks.length = ts.length ∧ ks.Nodup ∧ ∀ t ∈ ts, okS d t
  | _, _ => False
theorem cutS_one {x : Str} {k : Nat} (h : k < x.cps.size) : L2.cutS x (some (k : Int)) (some ((k : Int) + 1)) = ⟨#[x.cps[k]]⟩ := by
  have e : ((k : Int) + 1) = ((k + 1 : Nat) : Int) := by omega
  unfold L2.cutS
  have hl : x.length = x.cps.size := rfl
  rw [e, HT.sIx_nat, HT.sIx_nat, hl, Nat.min_eq_left (by omega), Nat.min_eq_left (by omega), Nat.add_sub_cancel_left]
  have : List.take 1 (x.cps.toList.drop k) = [x.cps[k]] := by
    rw [List.drop_eq_getElem_cons (by simpa using h)]
    simp
  rw [this]
theorem same_non {d : Nat} {cs : List T} : F__law_same (d + 1) [.non, .non] cs = .ok (.va (.bl true)) cs := by
  simp [F__law_same, m__law_same, fnM, opIs, isNonT]
theorem same_bl {d : Nat} {cs : List T} {b : Bool} : F__law_same (d + 1) [.bl b, .bl b] cs = .ok (.va (.bl true)) cs := by
  cases b <;> simp [F__law_same, m__law_same, fnM, opIs, isNonT, kyT, kyI, tru, opEq_bl]
theorem same_int {d : Nat} {cs : List T} {i : Int} : F__law_same (d + 1) [.int i, .int i] cs = .ok (.va (.bl true)) cs := by
  simp [F__law_same, m__law_same, fnM, opIs, isNonT, kyT, kyI, tru, opSub, intF, opEq_int]
/-- a comprehension, its walk known -/
theorem mLc_of {mi : M Wk} {vs : List Nat} {f : T → M Unit} {tt : M Bool} {te : M RV} {e e1 e2 : Ev} {w : Option (Nat × T)} {ts us : List T} (h1 : mi e = .ok ⟨w, ts⟩ e1) (h2 : lcGo w vs f tt te ts [] ⟨wipS e1.r vs, e1.c⟩ = .ok us e2) :
    mLc mi vs f tt te e = .ok (.ow (.lst us)) ⟨backS e1.r e2.r vs, e2.c⟩ := by
  unfold mLc M.bd
  rw [h1]
  dsimp only
  rw [h2]
theorem mem_rgT {lo : Int} {n : Nat} {t : T} (h : t ∈ rgT lo n) : ∃ i : Nat, i < n ∧ t = .int (lo + i) := by
  unfold rgT at h
  obtain ⟨i, h1, rfl⟩ := List.mem_map.mp h
  exact ⟨i, List.mem_range.mp h1, rfl⟩
theorem same_str {d : Nat} {cs : List T} {x : Str} (h : x.length ≤ sz) : F__law_same (d + 1) [.str x, .str x] cs = .ok (.va (.bl true)) cs := by
  have hL : lc__law_same_2 (F__law_same d) ⟨[.va (.str x), .va (.str x), .un, .un], cs⟩ = .ok (.ow (.lst [])) ⟨[.va (.str x), .va (.str x), .un, .un], cs⟩ := by
    unfold lc__law_same_2
    refine mLc_of (w := none) (ts := rgT 0 x.length) (e1 := ⟨[.va (.str x), .va (.str x), .un, .un], cs⟩) (e2 := ⟨[.va (.str x), .va (.str x), .un, .un], cs⟩) ?_ ?_
    · simp [mRg1, lenF, h, rg1_len h]
    · refine lcGo_none fun t ht => ?_
      obtain ⟨i, hi, rfl⟩ := mem_rgT ht
      have hc : i < x.cps.size := hi
      refine ⟨⟨[.va (.str x), .va (.str x), .va (.int ((0 : Int) + (i : Nat))), .un], cs⟩, ⟨[.va (.str x), .va (.str x), .va (.int ((0 : Int) + (i : Nat))), .un], cs⟩, rfl, ?_, rfl⟩
      simp [slT, h, opAdd, cutS_one hc, ixT, L2.atI, L2.ixN, hc, opNe_str]
  simp [F__law_same, m__law_same, fnM, opIs, isNonT, kyT, kyI, tru, lenF, h, opEq_int, hL, opEq_nil, isDs]
theorem ixT_nat {ts : List T} {i : Nat} (h : i < ts.length) : ixT (.lst ts) (.int i) = some (.sm ts[i]) ∧ ixT (.tup ts) (.int i) = some (.sm ts[i]) := by
  simp [ixT, L2.atI, L2.ixN, h]
theorem same_lst {d : Nat} {cs : List T} {ts : List T} (h : ts.length ≤ sz) (hr : ∀ t ∈ ts, F__law_same d [t, t] cs = .ok (.va (.bl true)) cs) : F__law_same (d + 1) [.lst ts, .lst ts] cs = .ok (.va (.bl true)) cs := by
  have hL : lc__law_same_0 (F__law_same d) ⟨[.va (.lst ts), .va (.lst ts), .un, .un], cs⟩ = .ok (.ow (.lst [])) ⟨[.va (.lst ts), .va (.lst ts), .un, .un], cs⟩ := by
    unfold lc__law_same_0
    refine mLc_of (w := none) (ts := rgT 0 ts.length) (e1 := ⟨[.va (.lst ts), .va (.lst ts), .un, .un], cs⟩) (e2 := ⟨[.va (.lst ts), .va (.lst ts), .un, .un], cs⟩) ?_ ?_
    · simp [mRg1, lenF, rg1_len h]
    · refine lcGo_none fun t ht => ?_
      obtain ⟨i, hi, rfl⟩ := mem_rgT ht
      refine ⟨⟨[.va (.lst ts), .va (.lst ts), .va (.int ((0 : Int) + (i : Nat))), .un], cs⟩, ⟨[.va (.lst ts), .va (.lst ts), .va (.int ((0 : Int) + (i : Nat))), .un], cs⟩, rfl, ?_, rfl⟩
      simp [ixT_nat hi, hr _ (List.getElem_mem hi), tru]
  simp [F__law_same, m__law_same, fnM, opIs, isNonT, kyT, kyI, tru, lenF, opNe_bl, opNe_int, hL, opEq_nil, isDs]
theorem same_tup {d : Nat} {cs : List T} {ts : List T} (h : ts.length ≤ sz) (hr : ∀ t ∈ ts, F__law_same d [t, t] cs = .ok (.va (.bl true)) cs) : F__law_same (d + 1) [.tup ts, .tup ts] cs = .ok (.va (.bl true)) cs := by
  have hL : lc__law_same_0 (F__law_same d) ⟨[.va (.tup ts), .va (.tup ts), .un, .un], cs⟩ = .ok (.ow (.lst [])) ⟨[.va (.tup ts), .va (.tup ts), .un, .un], cs⟩ := by
    unfold lc__law_same_0
    refine mLc_of (w := none) (ts := rgT 0 ts.length) (e1 := ⟨[.va (.tup ts), .va (.tup ts), .un, .un], cs⟩) (e2 := ⟨[.va (.tup ts), .va (.tup ts), .un, .un], cs⟩) ?_ ?_
    · simp [mRg1, lenF, rg1_len h]
    · refine lcGo_none fun t ht => ?_
      obtain ⟨i, hi, rfl⟩ := mem_rgT ht
      refine ⟨⟨[.va (.tup ts), .va (.tup ts), .va (.int ((0 : Int) + (i : Nat))), .un], cs⟩, ⟨[.va (.tup ts), .va (.tup ts), .va (.int ((0 : Int) + (i : Nat))), .un], cs⟩, rfl, ?_, rfl⟩
      simp [ixT_nat hi, hr _ (List.getElem_mem hi), tru]
  simp [F__law_same, m__law_same, fnM, opIs, isNonT, kyT, kyI, tru, lenF, opNe_bl, opNe_int, hL, opEq_nil, isDs]
/-- a shared list -/
theorem same_cel {d k : Nat} {cs : List T} {ts : List T} (hk : cs[k]? = some (.lst ts)) (h : ts.length ≤ sz) (hr : ∀ t ∈ ts, F__law_same d [t, t] cs = .ok (.va (.bl true)) cs) : F__law_same (d + 1) [.cel k, .cel k] cs = .ok (.va (.bl true)) cs := by
  have hlt : k < cs.length := (List.getElem?_eq_some_iff.mp hk).1
  have hk2 : cs[k] = .lst ts := (List.getElem?_eq_some_iff.mp hk).2
  have hL : lc__law_same_0 (F__law_same d) ⟨[.va (.cel k), .va (.cel k), .un, .un], cs⟩ = .ok (.ow (.lst [])) ⟨[.va (.cel k), .va (.cel k), .un, .un], cs⟩ := by
    unfold lc__law_same_0
    refine mLc_of (w := none) (ts := rgT 0 ts.length) (e1 := ⟨[.va (.cel k), .va (.cel k), .un, .un], cs⟩) (e2 := ⟨[.va (.cel k), .va (.cel k), .un, .un], cs⟩) ?_ ?_
    · simp [mRg1, lenF, rg1_len h, hlt, hk2]
    · refine lcGo_none fun t ht => ?_
      obtain ⟨i, hi, rfl⟩ := mem_rgT ht
      refine ⟨⟨[.va (.cel k), .va (.cel k), .va (.int ((0 : Int) + (i : Nat))), .un], cs⟩, ⟨[.va (.cel k), .va (.cel k), .va (.int ((0 : Int) + (i : Nat))), .un], cs⟩, rfl, ?_, rfl⟩
      simp [hlt, hk2, ixT_nat hi, hr _ (List.getElem_mem hi), tru]
  simp [F__law_same, m__law_same, fnM, opIs, isNonT, kyT, kyI, tru, lenF, opNe_bl, opNe_int, hL, opEq_nil, isDs, hlt, hk2]
end LAW
-- B4
namespace LAW
open PySem PL
theorem find_key {k : L2.Key} : ∀ {ks : List L2.Key} {ts : List T}, ks.length = ts.length → k ∈ ks → ∃ p, (ks.zip ts).find? (fun p => decide (p.1 = k)) = some p ∧ p.2 ∈ ts
  | [], _, _, h => by cases h
  | a :: ks, [], h, _ => by cases h
  | a :: ks, t :: ts, h, hk => by
    rw [List.zip_cons_cons, List.find?_cons]
    by_cases e : a = k
    · rw [decide_eq_true (by exact e)]
      exact ⟨(a, t), rfl, List.mem_cons_self⟩
    · rw [decide_eq_false (by exact e)]
      obtain ⟨p, h1, h2⟩ := find_key (ks := ks) (ts := ts) (by simpa using h) ((List.mem_cons.mp hk).resolve_left fun z => e z.symm)
      exact ⟨p, h1, List.mem_cons_of_mem _ h2⟩
theorem ixT_key {k : L2.Key} {ks : List L2.Key} {ts : List T} (h : ks.length = ts.length) (hk : k ∈ ks) : ∃ t ∈ ts, ixT (.dcz ks ts) (keyT k) = some (.sm t) := by
  obtain ⟨p, h1, h2⟩ := find_key h hk
  refine ⟨p.2, h2, ?_⟩
  cases k <;> simp [keyT, ixT, h1]
theorem opNin_key {k : L2.Key} {ks : List L2.Key} {ts : List T} (hk : k ∈ ks) : opNin (keyT k) (.dcz ks ts) = some (.sm (.bl false)) := by
  have : (ks.any fun j => decide (j = k)) = true := List.any_eq_true.mpr ⟨k, hk, by simp⟩
  cases k <;> simp [keyT, opNin, inT] <;> exact hk
theorem same_dcz {d : Nat} {cs : List T} {ks : List L2.Key} {ts : List T} (h : ks.length = ts.length) (hr : ∀ t ∈ ts, F__law_same d [t, t] cs = .ok (.va (.bl true)) cs) : F__law_same (d + 1) [.dcz ks ts, .dcz ks ts] cs = .ok (.va (.bl true)) cs := by
  have hL : lc__law_same_1 (F__law_same d) ⟨[.va (.dcz ks ts), .va (.dcz ks ts), .un, .un], cs⟩ = .ok (.ow (.lst [])) ⟨[.va (.dcz ks ts), .va (.dcz ks ts), .un, .un], cs⟩ := by
    unfold lc__law_same_1
    refine mLc_of (w := none) (ts := ks.map keyT) (e1 := ⟨[.va (.dcz ks ts), .va (.dcz ks ts), .un, .un], cs⟩) (e2 := ⟨[.va (.dcz ks ts), .va (.dcz ks ts), .un, .un], cs⟩) ?_ ?_
    · simp [mIt, itOf, itSq]
    · refine lcGo_none fun t ht => ?_
      obtain ⟨k, hk, rfl⟩ := List.mem_map.mp ht
      obtain ⟨u, hu, eu⟩ := ixT_key h hk
      have pk1 : ∀ e, pk e (.va (keyT k)) = some (keyT k) := fun e => by cases k <;> rfl
      refine ⟨⟨[.va (.dcz ks ts), .va (.dcz ks ts), .un, .va (keyT k)], cs⟩, ⟨[.va (.dcz ks ts), .va (.dcz ks ts), .un, .va (keyT k)], cs⟩, rfl, ?_, rfl⟩
      simp [pk1, opNin_key hk, eu, hr u hu, tru]
  simp [F__law_same, m__law_same, fnM, opIs, isNonT, kyT, kyI, tru, lenF, opEq_int, hL]
theorem same_refl : ∀ (d : Nat) (t : T), okS d t → ∀ cs, F__law_same (d + 1) [t, t] cs = .ok (.va (.bl true)) cs
  | _, .non, _, cs => same_non
  | _, .bl b, _, cs => same_bl
  | _, .int i, _, cs => same_int
  | _, .str x, h, cs => same_str (by simpa [okS] using h)
  | d + 1, .lst ts, h, cs => by
    obtain ⟨h1, h2⟩ : ts.length ≤ sz ∧ ∀ t ∈ ts, okS d t := by simpa [okS] using h
    exact same_lst h1 fun t ht => same_refl d t (h2 t ht) cs
  | d + 1, .tup ts, h, cs => by
    obtain ⟨h1, h2⟩ : ts.length ≤ sz ∧ ∀ t ∈ ts, okS d t := by simpa [okS] using h
    exact same_tup h1 fun t ht => same_refl d t (h2 t ht) cs
  | d + 1, .dcz ks ts, h, cs => by
    obtain ⟨h1, _, h2⟩ : ks.length = ts.length ∧ ks.Nodup ∧ ∀ t ∈ ts, okS d t := by simpa [okS] using h
    exact same_dcz h1 fun t ht => same_refl d t (h2 t ht) cs
  | 0, .lst _, h, _ => by simp [okS] at h
  | 0, .tup _, h, _ => by simp [okS] at h
  | 0, .dcz _ _, h, _ => by simp [okS] at h
  | _, .scr _, h, _ => by simp [okS] at h
  | _, .dct _ _, h, _ => by simp [okS] at h
  | _, .cel _, h, _ => by simp [okS] at h
  | _, .fn _, h, _ => by simp [okS] at h
  | _, .xcv _ _ _ _ _, h, _ => by simp [okS] at h
end LAW
-- B5
namespace LAW
open PySem PL
theorem forGo_two {f : T → M Unit} {m : M Fl} (R : RV → Ev → Prop) : ∀ {ts : List T} (P : Nat → Ev → Prop) {e : Ev}, P 0 e → (∀ i t e, ts[i]? = some t → P i e → ∃ e1, f t e = .ok () e1 ∧ ((∃ e2, m e1 = .ok .nx e2 ∧ P (i + 1) e2) ∨ ∃ q e2, m e1 = .ok (.rt q) e2 ∧ R q e2)) →
    (∃ e', forGo none f m ts e = .ok .nx e' ∧ P ts.length e') ∨ ∃ q e', forGo none f m ts e = .ok (.rt q) e' ∧ R q e'
  | [], P, e, h, _ => .inl ⟨e, by rw [forGo]; rfl, h⟩
  | t :: ts, P, e, h, hs => by
    obtain ⟨e1, h1, h2⟩ := hs 0 t e rfl h
    rw [forGo]
    dsimp only
    rw [if_pos wOk_none, h1]
    dsimp only
    rcases h2 with ⟨e2, h2, h3⟩ | ⟨q, e2, h2, h3⟩
    · rw [h2]
      dsimp only
      exact forGo_two R (fun i => P (i + 1)) h3 fun i t e ht hp => hs (i + 1) t e (by simpa using ht) hp
    · rw [h2]
      exact .inr ⟨q, e2, rfl, h3⟩
theorem forGo_ind {f : T → M Unit} {m : M Fl} {ts : List T} (P : Nat → Ev → Prop) {e : Ev} (h0 : P 0 e) (hs : ∀ i t e, ts[i]? = some t → P i e → ∃ e1 e2, f t e = .ok () e1 ∧ m e1 = .ok .nx e2 ∧ P (i + 1) e2) : ∃ e', forGo none f m ts e = .ok .nx e' ∧ P ts.length e' := by
  rcases forGo_two (fun _ _ => False) (ts := ts) P h0 fun i t e ht hp => let ⟨e1, e2, h1, h2, h3⟩ := hs i t e ht hp; ⟨e1, h1, .inl ⟨e2, h2, h3⟩⟩ with h | ⟨_, _, _, h⟩
  · exact h
  · exact h.elim
/-! ### rounds -/
abbrev Arc := Nat × Nat × Int
def aT (a : Arc) : T := .tup [.int a.1, .int a.2.1, .int a.2.2]
def oT : Option Int → T
  | none => .non
  | some i => .int i
def rl (L : List (Option Int)) (a : Arc) : List (Option Int) := match L[a.1]?, L[a.2.1]? with
  | some (some p), some none => L.set a.2.1 (some (p + a.2.2))
  | some (some p), some (some q) => if p + a.2.2 < q then L.set a.2.1 (some (p + a.2.2)) else L
  | _, _ => L
def Arcs (A : List Arc) : Prop := ∀ a ∈ A, a.1 < 9 ∧ a.2.1 < 9
theorem rl_len (L : List (Option Int)) (a : Arc) : (rl L a).length = L.length := by
  unfold rl
  split
  · simp
  · split <;> simp
  · rfl
theorem fold_len (A : List Arc) : ∀ L : List (Option Int), (A.foldl rl L).length = L.length := by
  induction A with
  | nil => intro L; rfl
  | cons a A ih => intro L; rw [List.foldl_cons, ih, rl_len]
theorem ixT_at {ts : List T} {i : Nat} {t : T} (h : ts[i]? = some t) : ixT (.lst ts) (.int i) = some (.sm t) ∧ ixT (.tup ts) (.int i) = some (.sm t) := by
  obtain ⟨h1, h2⟩ := List.getElem?_eq_some_iff.mp h
  rw [← h2]
  exact ixT_nat h1
theorem opIsN_oT (o : Option Int) : opIsN (oT o) .non = some (.sm (.bl o.isSome)) := by cases o <;> rfl
theorem opIs_oT (o : Option Int) : opIs (oT o) .non = some (.sm (.bl o.isNone)) := by cases o <;> rfl
theorem sbT_at {ts : List T} {i : Nat} {t : T} (h : i < ts.length) : sbT (.int i) t (.lst ts) = some (.lst (ts.set i t)) := by
  simp [sbT, L2.ixN, h]
theorem once_body {L : List (Option Int)} {x y : Nat} {w : Int} {s0 s1 : Sl} {c : List T} (hL : L.length = 9) (hx : x < 9) (hy : y < 9) :
    fb_once_eased_0 ⟨[s0, s1, .ow (.lst (L.map oT)), .va (.int x), .va (.int y), .va (.int w)], c⟩ = .ok .nx ⟨[s0, s1, .ow (.lst ((rl L (x, y, w)).map oT)), .va (.int x), .va (.int y), .va (.int w)], c⟩ := by
  have hx' : x < L.length := by omega
  have hy' : y < L.length := by omega
  have ex : (L.map oT)[x]? = some (oT L[x]) := by simp [hx']
  have ey : (L.map oT)[y]? = some (oT L[y]) := by simp [hy']
  have hs : y < (L.map oT).length := by simpa using hy'
  unfold fb_once_eased_0 rl
  rw [List.getElem?_eq_getElem hx', List.getElem?_eq_getElem hy']
  cases h1 : L[x] with
  | none => simp [ixT_at ex, h1, oT, opIsN, isNonT]
  | some p =>
    cases h2 : L[y] with
    | none => simp [ixT_at ex, ixT_at ey, h1, h2, oT, opIsN, opIs, isNonT, opAdd, hFz, gSb, plOf, sbT_at hs, putP, List.map_set]
    | some q =>
      by_cases hc : p + w < q <;>
      simp [ixT_at ex, ixT_at ey, h1, h2, oT, opIsN, opIs, isNonT, opAdd, opLt_int, hc, hFz, gSb, plOf, sbT_at hs, putP, List.map_set]
end LAW
-- B6
namespace LAW
open PySem PL
def IsSq (S : T) (ts : List T) : Prop := S = .lst ts ∨ S = .tup ts
theorem itOf_sq {S : T} {ts : List T} (h : IsSq S ts) (e : Ev) : itOf e (.va S) = some (⟨none, ts⟩, e) ∧ itSq e (.va S) = some (⟨none, ts⟩, e) := by
  rcases h with rfl | rfl <;> exact ⟨rfl, rfl⟩
theorem mFor_of {mi : M Wk} {f : T → M Unit} {m : M Fl} {e e1 : Ev} {w : Wk} (h : mi e = .ok w e1) : mFor mi f m e = forGo w.w f m w.ts e1 := by
  unfold mFor M.bd
  rw [h]
theorem map_at {A : List Arc} {i : Nat} {t : T} (h : (A.map aT)[i]? = some t) : ∃ a, A[i]? = some a ∧ t = aT a := by
  rw [List.getElem?_map] at h
  obtain ⟨a, h1, h2⟩ := Option.map_eq_some_iff.mp h
  exact ⟨a, h1, h2.symm⟩
theorem take_succ_fold {α β : Type} {f : β → α → β} {b : β} {A : List α} {i : Nat} {a : α} (h : A[i]? = some a) : (A.take (i + 1)).foldl f b = f ((A.take i).foldl f b) a := by
  rw [List.take_succ, h]
  simp
def rnd (A : List Arc) (L : List (Option Int)) : List (Option Int) := A.foldl rl L
theorem rnd_len {A : List Arc} {L : List (Option Int)} : (rnd A L).length = L.length := fold_len A L
theorem once_ok {A : List Arc} {L : List (Option Int)} {S : T} {cs : List T} (hS : IsSq S (A.map aT)) (hA : Arcs A) (hL : L.length = 9) : F_once_eased [S, .lst (L.map oT)] cs = .ok (.ow (.lst ((rnd A L).map oT))) cs := by
  have hf : ∃ e', fo_once_eased_0 ⟨[.va S, .va (.lst (L.map oT)), .ow (.lst (L.map oT)), .un, .un, .un], cs⟩ = .ok .nx e' ∧ ∃ s3 s4 s5, e' = ⟨[.va S, .va (.lst (L.map oT)), .ow (.lst ((rnd A L).map oT)), s3, s4, s5], cs⟩ := by
    unfold fo_once_eased_0
    rw [mFor_of (w := ⟨none, A.map aT⟩) (e1 := ⟨[.va S, .va (.lst (L.map oT)), .ow (.lst (L.map oT)), .un, .un, .un], cs⟩) (by simp [mIt, itOf_sq hS])]
    obtain ⟨e', h1, h2⟩ := forGo_ind (f := gTp 3 (gsC (gNm 3) (gsC (gNm 4) (gsC (gNm 5) gsN)))) (m := fb_once_eased_0) (ts := A.map aT) (P := fun i e => ∃ s3 s4 s5, e = ⟨[.va S, .va (.lst (L.map oT)), .ow (.lst (((A.take i).foldl rl L).map oT)), s3, s4, s5], cs⟩)
      (e := ⟨[.va S, .va (.lst (L.map oT)), .ow (.lst (L.map oT)), .un, .un, .un], cs⟩) ⟨.un, .un, .un, rfl⟩ fun i t e ht ⟨s3, s4, s5, he⟩ => by
        obtain ⟨a, ha, rfl⟩ := map_at ht
        obtain ⟨x, y, w⟩ := a
        subst he
        have hm := hA _ (List.mem_of_getElem? ha)
        refine ⟨_, _, rfl, once_body (by rw [fold_len]; exact hL) hm.1 hm.2, .va (.int x), .va (.int y), .va (.int w), ?_⟩
        rw [take_succ_fold ha]
    refine ⟨e', h1, ?_⟩
    rw [List.length_map, List.take_length] at h2
    exact h2
  obtain ⟨e', h1, s3, s4, s5, rfl⟩ := hf
  simp [F_once_eased, m_once_eased, fnM, listF, h1]
theorem isDs_oT : ∀ (L : List (Option Int)) (n : Nat), isDs (L.map oT) n = true
  | [], n => isDs_nil
  | none :: L, n => by rw [List.map_cons, isDs_cons, isDs_oT L n]; rfl
  | some i :: L, n => by rw [List.map_cons, isDs_cons, isDs_oT L n]; rfl
theorem eqv_oT : ∀ (L L' : List (Option Int)), L.length = L'.length → PyData.eqvAll (toDs (L.map oT)) (toDs (L'.map oT)) = decide (L = L')
  | [], [], _ => by simp [toDs, PyData.eqvAll]
  | a :: L, b :: L', h => by
    have ih := eqv_oT L L' (by simpa using h)
    rw [List.map_cons, List.map_cons, toDs, toDs, PyData.eqvAll, ih]
    have e : PyData.eqv (oT a).toD (oT b).toD = decide (a = b) := by
      cases a <;> cases b <;> simp [oT, T.toD, PyData.eqv]
      rename_i x y
      exact Bool.eq_iff_iff.mpr (by simp)
    rw [e, ← Bool.decide_and]
    congr 1
    simp
theorem opEq_oT {L L' : List (Option Int)} (h : L.length = L'.length) : opEq (.lst (L.map oT)) (.lst (L'.map oT)) = some (.sm (.bl (decide (L = L')))) := by
  have d : ∀ L : List (Option Int), (T.lst (L.map oT)).isD 60 = true := fun L => by simp [T.isD, isDs_oT]
  unfold opEq
  rw [d, d]
  simp [eqT, T.toD, PyData.eqv, eqv_oT L L' h]
def rnds (A : List Arc) : Nat → List (Option Int) → List (Option Int)
  | 0, L => L
  | n + 1, L => rnds A n (rnd A L)
theorem rnds_len {A : List Arc} : ∀ {n : Nat} {L : List (Option Int)}, (rnds A n L).length = L.length
  | 0, L => rfl
  | n + 1, L => by rw [rnds, rnds_len, rnd_len]
theorem rnds_succ {A : List Arc} : ∀ {n : Nat} {L : List (Option Int)}, rnds A (n + 1) L = rnd A (rnds A n L)
  | 0, L => rfl
  | n + 1, L => by rw [rnds, rnds_succ]; rfl
theorem eased_ok {A : List Arc} {L : List (Option Int)} {S : T} {cs : List T} (hS : IsSq S (A.map aT)) (hA : Arcs A) (hL : L.length = 9) :
    F_eased [S, .lst (L.map oT)] cs = .ok (.va (if rnds A 10 L = rnds A 9 L then .lst ((rnds A 9 L).map oT) else .non)) cs := by
  have hf : ∃ e', fo_eased_0 ⟨[.va S, .va (.lst (L.map oT)), .ow (.lst (L.map oT)), .un], cs⟩ = .ok .nx e' ∧ ∃ s3, e' = ⟨[.va S, .va (.lst (L.map oT)), .ow (.lst ((rnds A 9 L).map oT)), s3], cs⟩ := by
    unfold fo_eased_0
    rw [mFor_of (w := ⟨none, L.map oT⟩) (e1 := ⟨[.va S, .va (.lst (L.map oT)), .ow (.lst (L.map oT)), .un], cs⟩) (by simp [mIt, itOf, itSq])]
    obtain ⟨e', h1, h2⟩ := forGo_ind (f := gNm 3) (m := fb_eased_0) (ts := L.map oT) (P := fun i e => ∃ s3, e = ⟨[.va S, .va (.lst (L.map oT)), .ow (.lst ((rnds A i L).map oT)), s3], cs⟩)
      (e := ⟨[.va S, .va (.lst (L.map oT)), .ow (.lst (L.map oT)), .un], cs⟩) ⟨.un, rfl⟩ fun i t e ht ⟨s3, he⟩ => by
        subst he
        refine ⟨_, _, rfl, ?_, .va t, rfl⟩
        simp [fb_eased_0, once_ok hS hA (L := rnds A i L) (by rw [rnds_len]; exact hL), rnds_succ]
    refine ⟨e', h1, ?_⟩
    rw [List.length_map, hL] at h2
    exact h2
  obtain ⟨e', h1, s3, rfl⟩ := hf
  have ho : F_once_eased [S, .lst ((rnds A 9 L).map oT)] cs = .ok (.ow (.lst ((rnds A 10 L).map oT))) cs := by
    have z := once_ok (cs := cs) hS hA (L := rnds A 9 L) (by rw [rnds_len]; exact hL)
    rw [← rnds_succ] at z
    exact z
  have he := opEq_oT (L := rnds A 10 L) (L' := rnds A 9 L) (by rw [rnds_len, rnds_len])
  by_cases hc : rnds A 10 L = rnds A 9 L
  · rw [hc] at he ho
    simp only [decide_true] at he
    simp [F_eased, m_eased, fnM, listF, h1, ho, he, hc]
  · simp [F_eased, m_eased, fnM, listF, h1, ho, he, hc]
end LAW
-- BF
/-! Rounds of relaxing over nine places: they settle in eight rounds, if ever. -/
namespace BF
abbrev Arc := Nat × Nat × Int
abbrev S9 := Nat → Option Int
def oLe : Option Int → Option Int → Prop
  | _, none => True
  | none, some _ => False
  | some a, some b => a ≤ b
theorem oLe.refl : ∀ a : Option Int, oLe a a
  | none => trivial
  | some a => Int.le_refl a
theorem oLe.trans : ∀ {a b c : Option Int}, oLe a b → oLe b c → oLe a c
  | _, _, none, _, _ => by simp [oLe]
  | some a, some b, some c, h, h' => Int.le_trans h h'
  | none, some b, some c, h, _ => h.elim
  | _, none, some c, _, h => h.elim
theorem oLe.anti : ∀ {a b : Option Int}, oLe a b → oLe b a → a = b
  | none, none, _, _ => rfl
  | some a, some b, h, h' => congrArg some (Int.le_antisymm h h')
  | none, some b, h, _ => h.elim
  | some a, none, _, h => h.elim
def rv : Option Int → Option Int → Int → Option Int
  | some p, none, w => some (p + w)
  | some p, some q, w => if p + w < q then some (p + w) else some q
  | none, q, _ => q
def rx (s : S9) (a : Arc) : S9 := fun i => if i = a.2.1 then rv (s a.1) (s a.2.1) a.2.2 else s i
def rd (A : List Arc) (s : S9) : S9 := A.foldl rx s
def rds (A : List Arc) : Nat → S9 → S9
  | 0, s => s
  | n + 1, s => rd A (rds A n s)
theorem rv_le (p q : Option Int) (w : Int) : oLe (rv p q w) q := by
  cases p with
  | none => exact oLe.refl q
  | some p =>
    cases q with
    | none => trivial
    | some q =>
      simp only [rv]
      split
      · exact Int.le_of_lt (by assumption)
      · exact oLe.refl _
theorem rx_le (s : S9) (a : Arc) (i : Nat) : oLe (rx s a i) (s i) := by
  unfold rx
  split
  · rename_i h; subst h; exact rv_le _ _ _
  · exact oLe.refl _
theorem rd_le (A : List Arc) : ∀ (s : S9) (i : Nat), oLe (rd A s i) (s i) := by
  induction A with
  | nil => exact fun s i => oLe.refl _
  | cons a A ih => exact fun s i => oLe.trans (ih (rx s a) i) (rx_le s a i)
theorem rv_mono {p p' q q' : Option Int} (w : Int) (hp : oLe p p') (hq : oLe q q') : oLe (rv p q w) (rv p' q' w) := by
  cases p' with
  | none => exact oLe.trans (rv_le _ _ _) (by cases q' <;> exact hq)
  | some p' =>
    cases p with
    | none => exact hp.elim
    | some p =>
      have hp : p ≤ p' := hp
      cases q' with
      | none =>
        cases q with
        | none => show p + w ≤ p' + w; omega
        | some q =>
          simp only [rv]
          split
          · show p + w ≤ p' + w; omega
          · show q ≤ p' + w; omega
      | some q' =>
        cases q with
        | none => exact hq.elim
        | some q =>
          have hq : q ≤ q' := hq
          simp only [rv]
          split <;> split
          · show p + w ≤ p' + w; omega
          · show p + w ≤ q'; omega
          · show q ≤ p' + w; omega
          · show q ≤ q'; omega
theorem rx_mono {s t : S9} (a : Arc) (h : ∀ i, oLe (s i) (t i)) (i : Nat) : oLe (rx s a i) (rx t a i) := by
  unfold rx
  split
  · exact rv_mono _ (h _) (h _)
  · exact h i
theorem fix_each {f : S9} : ∀ {A : List Arc}, rd A f = f → ∀ a ∈ A, rx f a = f
  | [], _, a, h => by cases h
  | b :: A, hf, a, h => by
    have e : rx f b = f := by
      funext i
      refine oLe.anti (rx_le f b i) ?_
      have z := rd_le A (rx f b) i
      have : rd A (rx f b) i = f i := congrFun hf i
      rw [this] at z
      exact z
    rcases List.mem_cons.mp h with rfl | h
    · exact e
    · refine fix_each (A := A) ?_ a h
      have : rd A (rx f b) = f := hf
      rw [e] at this
      exact this
theorem rd_fix {f : S9} : ∀ {A : List Arc}, (∀ a ∈ A, rx f a = f) → rd A f = f
  | [], _ => rfl
  | b :: A, h => by
    show rd A (rx f b) = f
    rw [h b List.mem_cons_self]
    exact rd_fix fun a ha => h a (List.mem_cons_of_mem _ ha)
section
variable {f : S9} {A : List Arc} (hfix : ∀ a ∈ A, rx f a = f)
include hfix
theorem ge_rx {s : S9} (h : ∀ i, oLe (f i) (s i)) {a : Arc} (ha : a ∈ A) (i : Nat) : oLe (f i) (rx s a i) := by
  have z := rx_mono a h i
  rw [hfix a ha] at z
  exact z
theorem fin_rx {s : S9} (h : ∀ i, oLe (f i) (s i)) {a : Arc} (ha : a ∈ A) {i : Nat} (e : s i = f i) : rx s a i = f i := by
  refine oLe.anti ?_ (ge_rx hfix h ha i)
  rw [← e]; exact rx_le s a i
theorem ge_fold {B : List Arc} (hB : ∀ a ∈ B, a ∈ A) : ∀ {s : S9}, (∀ i, oLe (f i) (s i)) → ∀ i, oLe (f i) (B.foldl rx s i) := by
  induction B with
  | nil => exact fun h => h
  | cons b B ih => exact fun h => ih (fun a ha => hB a (List.mem_cons_of_mem _ ha)) (ge_rx hfix h (hB b List.mem_cons_self))
theorem fin_fold {B : List Arc} (hB : ∀ a ∈ B, a ∈ A) : ∀ {s : S9}, (∀ i, oLe (f i) (s i)) → ∀ {i : Nat}, s i = f i → B.foldl rx s i = f i := by
  induction B with
  | nil => exact fun {_} _ {_} e => e
  | cons b B ih => exact fun {_} h {_} e => ih (fun a ha => hB a (List.mem_cons_of_mem _ ha)) (ge_rx hfix h (hB b List.mem_cons_self)) (fin_rx hfix h (hB b List.mem_cons_self) e)
/-- a place that comes to its last value does so by a place that has it -/
theorem newly {s : S9} (h : ∀ i, oLe (f i) (s i)) {a : Arc} (ha : a ∈ A) {i : Nat} (n : s i ≠ f i) (e : rx s a i = f i) : i = a.2.1 ∧ s a.1 = f a.1 ∧ ∃ p, f a.1 = some p ∧ f i = some (p + a.2.2) := by
  by_cases hi : i = a.2.1
  · refine ⟨hi, ?_⟩
    have e1 : rv (s a.1) (s a.2.1) a.2.2 = f i := by rw [← e]; unfold rx; rw [if_pos hi]
    subst hi
    have fx : rv (f a.1) (f a.2.1) a.2.2 = f a.2.1 := by
      have z := congrFun (hfix a ha) a.2.1
      unfold rx at z
      rw [if_pos rfl] at z
      exact z
    have hx := h a.1
    cases hs : s a.1 with
    | none =>
      rw [hs] at e1
      have : s a.2.1 = f a.2.1 := by cases q : s a.2.1 <;> (rw [q] at e1; exact e1)
      exact absurd this n
    | some p' =>
      rw [hs] at e1 hx
      have v : f a.2.1 = some (p' + a.2.2) := by
        cases q : s a.2.1 with
        | none => rw [q] at e1; exact e1.symm
        | some q' =>
          rw [q] at e1
          simp only [rv] at e1
          split at e1
          · exact e1.symm
          · exact absurd (q.trans e1) n
      cases hf : f a.1 with
      | none => rw [hf] at hx; exact hx.elim
      | some p =>
        rw [hf] at hx fx
        have hx : p ≤ p' := hx
        rw [v] at fx
        simp only [rv] at fx
        have : p = p' := by
          split at fx
          · have := Option.some.inj fx; omega
          · omega
        subst this
        exact ⟨rfl, p, rfl, v⟩
  · exfalso
    unfold rx at e
    rw [if_neg hi] at e
    exact n e
theorem reach {s : S9} (h : ∀ i, oLe (f i) (s i)) {a : Arc} (ha : a ∈ A) {p : Int} (e : s a.1 = f a.1) (hp : f a.1 = some p) (hy : f a.2.1 = some (p + a.2.2)) : rx s a a.2.1 = f a.2.1 := by
  unfold rx
  rw [if_pos rfl, e, hp]
  have hh := h a.2.1
  rw [hy] at hh ⊢
  cases q : s a.2.1 with
  | none => rfl
  | some q' =>
    rw [q] at hh
    have hh : p + a.2.2 ≤ q' := hh
    simp only [rv]
    split
    · rfl
    · have : q' = p + a.2.2 := by omega
      rw [this]
theorem reach_rd {s : S9} (h : ∀ i, oLe (f i) (s i)) {a : Arc} {p : Int} (e : s a.1 = f a.1) (hp : f a.1 = some p) (hy : f a.2.1 = some (p + a.2.2)) : ∀ {B : List Arc}, (∀ b ∈ B, b ∈ A) → a ∈ B → B.foldl rx s a.2.1 = f a.2.1 := by
  intro B
  induction B generalizing s with
  | nil => intro _ hb; cases hb
  | cons b B ih =>
    intro hB hb
    have hb0 := hB b List.mem_cons_self
    rcases List.mem_cons.mp hb with rfl | hb
    · exact fin_fold hfix (fun c hc => hB c (List.mem_cons_of_mem _ hc)) (ge_rx hfix h hb0) (reach hfix h hb0 e hp hy)
    · exact ih (ge_rx hfix h hb0) (fin_rx hfix h hb0 e) (fun c hc => hB c (List.mem_cons_of_mem _ hc)) hb
/-- a scan: what is newly at its last value leans on P -/
theorem scan {s : S9} {P : Nat → Prop} (h : ∀ i, oLe (f i) (s i)) (h0 : ∀ i, s i = f i → P i) (hstep : ∀ a ∈ A, ∀ p, P a.1 → f a.1 = some p → f a.2.1 = some (p + a.2.2) → P a.2.1) : ∀ {B : List Arc}, (∀ b ∈ B, b ∈ A) → ∀ i, B.foldl rx s i = f i → P i := by
  intro B
  induction B generalizing s with
  | nil => intro _ i e; exact h0 i e
  | cons b B ih =>
    intro hB i e
    have hb := hB b List.mem_cons_self
    refine ih (ge_rx hfix h hb) (fun j ej => ?_) (fun c hc => hB c (List.mem_cons_of_mem _ hc)) i e
    by_cases n : s j = f j
    · exact h0 j n
    · obtain ⟨rfl, e1, p, e2, e3⟩ := newly hfix h hb n ej
      exact hstep b hb p (h0 _ e1) e2 e3
theorem stays {s : S9} (h : ∀ i, oLe (f i) (s i)) (hS : ∀ i, rd A s i = f i → s i = f i) : ∀ i, rd A (rd A s) i = f i → rd A s i = f i :=
  scan hfix (s := rd A s) (P := fun i => rd A s i = f i) (ge_fold hfix (fun _ x => x) h) (fun i e => e) (fun a ha p e1 e2 e3 => reach_rd hfix h (hS _ e1) e2 e3 (fun _ x => x) ha) (fun _ x => x)
theorem ge_rds {s : S9} (h : ∀ i, oLe (f i) (s i)) : ∀ n i, oLe (f i) (rds A n s i)
  | 0, i => h i
  | n + 1, i => ge_fold hfix (fun _ x => x) (ge_rds h n) i
theorem stays_on {s : S9} (h : ∀ i, oLe (f i) (s i)) {k : Nat} (hS : ∀ i, rds A (k + 1) s i = f i → rds A k s i = f i) : ∀ n i, rds A (k + n) s i = f i → rds A k s i = f i := by
  have step : ∀ n, ∀ i, rds A (k + n + 1) s i = f i → rds A (k + n) s i = f i := by
    intro n
    induction n with
    | zero => exact hS
    | succ n ih => exact stays hfix (ge_rds hfix h (k + n)) ih
  intro n
  induction n with
  | zero => exact fun i e => e
  | succ n ih => exact fun i e => ih i (step n i e)
end
def cnt (f s : S9) : Nat := (List.range 9).countP fun i => decide (s i = f i)
theorem countP_lt {p q : Nat → Bool} : ∀ {l : List Nat}, (∀ i ∈ l, p i = true → q i = true) → (∃ i ∈ l, q i = true ∧ p i = false) → l.countP p < l.countP q
  | [], _, h => by obtain ⟨i, hi, _⟩ := h; cases hi
  | a :: l, h1, h2 => by
    have le : l.countP p ≤ l.countP q := List.countP_mono_left fun i hi => h1 i (List.mem_cons_of_mem _ hi)
    rw [List.countP_cons, List.countP_cons]
    obtain ⟨i, hi, hq, hp⟩ := h2
    rcases List.mem_cons.mp hi with rfl | hi
    · rw [hq, hp]; simp; omega
    · have ih := countP_lt (p := p) (q := q) (fun j hj => h1 j (List.mem_cons_of_mem _ hj)) ⟨i, hi, hq, hp⟩
      have ha := h1 a List.mem_cons_self
      cases hpa : p a with
      | true => rw [ha hpa]; simp; omega
      | false => simp; split <;> omega
/-- the places reach their last values within eight rounds -/
theorem settle {A : List Arc} {s f : S9} {K : Nat} (hK : ∀ i, rds A K s i = f i) (hfx : rd A f = f) (hout : ∀ i, 9 ≤ i → ∀ n, rds A n s i = f i) (hnone : ∀ i, 9 ≤ i → f i = none) : ∀ i, rds A 8 s i = f i := by
  have hfix := fix_each hfx
  have h : ∀ i, oLe (f i) (s i) := by
    have : ∀ n i, oLe (rds A n s i) (s i) := by
      intro n
      induction n with
      | zero => exact fun i => oLe.refl _
      | succ n ih => exact fun i => oLe.trans (rd_le A _ i) (ih i)
    exact fun i => hK i ▸ this K i
  have grow : ∀ k i, rds A k s i = f i → rds A (k + 1) s i = f i := fun k i e => fin_fold hfix (fun _ x => x) (ge_rds hfix h k) e
  have late : ∀ n i, rds A (K + n) s i = f i := by
    intro n
    induction n with
    | zero => exact hK
    | succ n ih => exact fun i => grow _ i (ih i)
  have all_of : ∀ k, (∀ i, rds A (k + 1) s i = f i → rds A k s i = f i) → ∀ i, rds A k s i = f i := by
    intro k hS i
    refine stays_on hfix h hS K i ?_
    rw [Nat.add_comm]
    exact late k i
  have more : ∀ k, (∀ i, rds A k s i = f i) ∨ cnt f (rds A k s) < cnt f (rds A (k + 1) s) := by
    intro k
    by_cases hS : ∀ i, rds A (k + 1) s i = f i → rds A k s i = f i
    · exact .inl (all_of k hS)
    · refine .inr ?_
      obtain ⟨i, hi⟩ := Classical.not_forall.mp hS
      obtain ⟨h1, h2⟩ := Classical.not_imp.mp hi
      have lt : i < 9 := Nat.lt_of_not_le fun z => h2 (hout i z k)
      exact countP_lt (fun j _ e => decide_eq_true (grow k j (of_decide_eq_true e))) ⟨i, List.mem_range.mpr lt, decide_eq_true h1, decide_eq_false h2⟩
  have one : (∀ i, rds A 0 s i = f i) ∨ 1 ≤ cnt f (rds A 0 s) := by
    by_cases hz : ∃ i, i < 9 ∧ s i = f i
    · obtain ⟨i, lt, e⟩ := hz
      refine .inr ?_
      show 0 < cnt f s
      exact List.countP_pos_iff.mpr ⟨i, List.mem_range.mpr lt, decide_eq_true e⟩
    · refine .inl (all_of 0 fun i e => ?_)
      have z := scan hfix (s := s) (P := fun i => 9 ≤ i) h (fun i e => Nat.le_of_not_lt fun lt => hz ⟨i, lt, e⟩) (fun a ha p h9 e2 e3 => by rw [hnone _ h9] at e2; cases e2) (fun _ x => x) i e
      exact hout i z 0
  have ge : ∀ k, (∀ i, rds A k s i = f i) ∨ k + 1 ≤ cnt f (rds A k s) := by
    intro k
    induction k with
    | zero => exact one
    | succ k ih =>
      rcases ih with ih | ih
      · exact .inl fun i => grow k i (ih i)
      · rcases more k with m | m
        · exact .inl fun i => grow k i (m i)
        · exact .inr (by omega)
  rcases ge 8 with g | g
  · exact g
  · intro i
    by_cases lt : i < 9
    · have le : cnt f (rds A 8 s) ≤ 9 := by
        have := List.countP_le_length (p := fun i => decide (rds A 8 s i = f i)) (l := List.range 9)
        rw [List.length_range] at this
        exact this
      have e9 : cnt f (rds A 8 s) = (List.range 9).length := by rw [List.length_range]; omega
      exact of_decide_eq_true (List.countP_eq_length.mp e9 i (List.mem_range.mpr lt))
    · exact hout i (by omega) 8
end BF
-- BF2
namespace BF
theorem ev_const {g : Nat → Option Int} {lb : Int} (mono : ∀ k, oLe (g (k + 1)) (g k)) (hb : ∀ k v, g k = some v → lb ≤ v) : ∃ K, ∀ n, g (K + n) = g K := by
  have mono2 : ∀ k n, oLe (g (k + n)) (g k) := by
    intro k n
    induction n with
    | zero => exact oLe.refl _
    | succ n ih => exact oLe.trans (mono (k + n)) ih
  by_cases hn : ∀ k, g k = none
  · exact ⟨0, fun n => by rw [hn, hn]⟩
  · obtain ⟨k0, hk⟩ := Classical.not_forall.mp hn
    have key : ∀ (d : Nat) (k : Nat) (v : Int), g k = some v → (v - lb).toNat = d → ∃ K, ∀ n, g (K + n) = g K := by
      intro d
      induction d using Nat.strongRecOn with
      | _ d ih =>
        intro k v hv hd
        by_cases hc : ∀ n, g (k + n) = g k
        · exact ⟨k, hc⟩
        · obtain ⟨n, hn⟩ := Classical.not_forall.mp hc
          have z := mono2 k n
          cases hg : g (k + n) with
          | none => rw [hg, hv] at z; exact z.elim
          | some u =>
            rw [hg, hv] at z
            have z : u ≤ v := z
            have ne : u ≠ v := fun e => hn (by rw [hg, hv, e])
            have h1 := hb _ _ hg
            have h2 := hb _ _ hv
            exact ih (u - lb).toNat (by omega) (k + n) u hg rfl
    cases hg : g k0 with
    | none => exact absurd hg hk
    | some v => exact key _ k0 v hg rfl
theorem all_const {A : List Arc} {s : S9} {lb : Nat → Int} (hb : ∀ n i v, rds A n s i = some v → lb i ≤ v) : ∀ m, ∃ K, ∀ i, i < m → ∀ n, rds A (K + n) s i = rds A K s i
  | 0 => ⟨0, fun i h => absurd h (Nat.not_lt_zero _)⟩
  | m + 1 => by
    obtain ⟨K, hK⟩ := all_const hb m
    obtain ⟨J, hJ⟩ := ev_const (g := fun k => rds A k s m) (lb := lb m) (fun k => rd_le A _ m) fun k v e => hb k m v e
    refine ⟨K + J, fun i hi n => ?_⟩
    by_cases h : i = m
    · subst h
      have h1 := hJ (K + n)
      have h2 := hJ K
      rw [show K + J + n = J + (K + n) from by omega, show K + J = J + K from by omega]
      exact h1.trans h2.symm
    · have h1 := hK i (by omega) (J + n)
      have h2 := hK i (by omega) J
      rw [Nat.add_assoc]
      exact h1.trans h2.symm
theorem low_rx {s : S9} {lb : Nat → Int} {a : Arc} (ha : lb a.2.1 ≤ lb a.1 + a.2.2) (h : ∀ i v, s i = some v → lb i ≤ v) : ∀ i v, rx s a i = some v → lb i ≤ v := by
  intro i v e
  unfold rx at e
  by_cases hi : i = a.2.1
  · rw [if_pos hi] at e
    subst hi
    cases hp : s a.1 with
    | none =>
      rw [hp] at e
      exact h _ _ (by cases q : s a.2.1 <;> (rw [q] at e; exact e))
    | some p =>
      have h1 := h _ _ hp
      rw [hp] at e
      cases hq : s a.2.1 with
      | none =>
        rw [hq] at e
        have := Option.some.inj e
        omega
      | some q =>
        rw [hq] at e
        have h2 := h _ _ hq
        simp only [rv] at e
        split at e
        · have := Option.some.inj e; omega
        · have := Option.some.inj e; omega
  · rw [if_neg hi] at e
    exact h i v e
theorem low_rds {A : List Arc} {s : S9} {lb : Nat → Int} (hA : ∀ a ∈ A, lb a.2.1 ≤ lb a.1 + a.2.2) (h : ∀ i v, s i = some v → lb i ≤ v) : ∀ n i v, rds A n s i = some v → lb i ≤ v
  | 0, i, v, e => h i v e
  | n + 1, i, v, e => by
    have fold : ∀ (B : List Arc) (t : S9), (∀ b ∈ B, b ∈ A) → (∀ i v, t i = some v → lb i ≤ v) → ∀ i v, B.foldl rx t i = some v → lb i ≤ v := by
      intro B
      induction B with
      | nil => exact fun t _ ht => ht
      | cons b B ih => exact fun t hB ht => ih (rx t b) (fun c hc => hB c (List.mem_cons_of_mem _ hc)) (low_rx (hA b (hB b List.mem_cons_self)) ht)
    exact fold A _ (fun _ x => x) (low_rds hA h n) i v e
theorem some_rx {s : S9} {a : Arc} {i : Nat} (h : s i ≠ none) : rx s a i ≠ none := by
  unfold rx
  split
  · rename_i hi
    subst hi
    intro e
    cases hp : s a.1 with
    | none => rw [hp] at e; cases q : s a.2.1 <;> (rw [q] at e h; first | exact h rfl | cases e)
    | some p =>
      rw [hp] at e
      cases q : s a.2.1 with
      | none => exact h q
      | some q' => rw [q] at e; simp only [rv] at e; split at e <;> cases e
  · exact h
theorem some_rds {A : List Arc} {s : S9} {i : Nat} (h : s i ≠ none) : ∀ n, rds A n s i ≠ none
  | 0 => h
  | n + 1 => by
    have fold : ∀ (B : List Arc) (t : S9), t i ≠ none → B.foldl rx t i ≠ none := by
      intro B
      induction B with
      | nil => exact fun _ ht => ht
      | cons b B ih => exact fun t ht => ih _ (some_rx ht)
    exact fold A _ (some_rds h n)
/-- from one place alone the rounds settle, where potentials are known -/
theorem settle_one {A : List Arc} {s F : S9} {o : Nat} (hF : rd A F = F) (hall : ∀ a ∈ A, F a.1 ≠ none ∧ F a.2.1 ≠ none) (hs : ∀ i v, s i = some v → i = o ∧ v = 0) (hout : ∀ i, 9 ≤ i → ∀ n, rds A n s i = none) : ∀ i, rds A 9 s i = rds A 8 s i := by
  have hA : ∀ a ∈ A, (F a.2.1).getD 0 - (F o).getD 0 ≤ ((F a.1).getD 0 - (F o).getD 0) + a.2.2 := by
    intro a ha
    have fx := congrFun (fix_each hF a ha) a.2.1
    unfold rx at fx
    rw [if_pos rfl] at fx
    obtain ⟨h1, h2⟩ := hall a ha
    cases hp : F a.1 with
    | none => exact absurd hp h1
    | some p =>
      cases hq : F a.2.1 with
      | none => exact absurd hq h2
      | some q =>
        rw [hp, hq] at fx
        simp only [rv] at fx
        simp only [Option.getD_some]
        split at fx
        · have := Option.some.inj fx; omega
        · omega
  have hb := low_rds (s := s) (lb := fun i => (F i).getD 0 - (F o).getD 0) hA fun i v e => by
    obtain ⟨rfl, rfl⟩ := hs i v e
    show (F i).getD 0 - (F i).getD 0 ≤ 0
    omega
  obtain ⟨K, hK⟩ := all_const hb 9
  have cst : ∀ i, rds A (K + 1) s i = rds A K s i := fun i => by
    by_cases h : i < 9
    · exact hK i h 1
    · rw [hout i (by omega), hout i (by omega)]
  have fx : rd A (rds A K s) = rds A K s := funext cst
  have z := settle (A := A) (s := s) (f := rds A K s) (K := K) (fun _ => rfl) fx (fun i hi n => by rw [hout i hi, hout i hi]) fun i hi => hout i hi K
  have e8 : rds A 8 s = rds A K s := funext z
  intro i
  show rd A (rds A 8 s) i = rds A 8 s i
  rw [e8, fx]
end BF
-- BF3
namespace BF
/-- numbers, by whose arc, when last (a count of steps; 0: never), the count of the next step -/
structure C9 where
  n : Nat → Int
  b : Nat → Option Nat
  u : Nat → Nat
  t : Nat
def cs1 (c : C9) (p : Nat) (a : Arc) : C9 := if c.n a.1 + a.2.2 < c.n a.2.1 then
    ⟨fun i => if i = a.2.1 then c.n a.1 + a.2.2 else c.n i, fun i => if i = a.2.1 then some p else c.b i, fun i => if i = a.2.1 then c.t else c.u i, c.t + 1⟩
  else ⟨c.n, c.b, c.u, c.t + 1⟩
/-- behind i steps of the round r (from 0) -/
structure Iv (A : List Arc) (r i : Nat) (c : C9) : Prop where
  tt : c.t = r * A.length + i + 1
  lt : ∀ v, c.u v < c.t
  non : ∀ v, c.b v = none → c.u v = 0
  inj : ∀ v w, c.u v = c.u w → 1 ≤ c.u v → v = w
  arc : ∀ v p, c.b v = some p → ∃ a, A[p]? = some a ∧ a.2.1 = v ∧ 1 ≤ c.u v ∧ c.n a.1 + a.2.2 ≤ c.n v ∧ ((c.u v < c.u a.1 ∨ a.1 = v) → c.n a.1 + a.2.2 < c.n v) ∧ c.u v ≤ c.u a.1 + A.length
  old : ∀ p a q, A[p]? = some a → q * A.length + p + 1 < c.t → c.t ≤ q * A.length + p + 1 + A.length → c.u a.1 < q * A.length + p + 1 → c.n a.2.1 ≤ c.n a.1 + a.2.2
theorem mul_add_inj {m q r p i : Nat} (hp : p < m) (hi : i < m) (h : q * m + p = r * m + i) : q = r ∧ p = i := by
  have e1 : (q * m + p) / m = q := by
    rw [Nat.mul_comm, Nat.mul_add_div (by omega), Nat.div_eq_of_lt hp, Nat.add_zero]
  have e2 : (r * m + i) / m = r := by
    rw [Nat.mul_comm, Nat.mul_add_div (by omega), Nat.div_eq_of_lt hi, Nat.add_zero]
  rw [h, e2] at e1
  subst e1
  exact ⟨rfl, by omega⟩
theorem Iv.step {A : List Arc} {r i : Nat} {c : C9} (h : Iv A r i c) {a : Arc} (ha : A[i]? = some a) : Iv A r (i + 1) (cs1 c i a) := by
  have him : i < A.length := (List.getElem?_eq_some_iff.mp ha).1
  have htt := h.tt
  unfold cs1
  by_cases hc : c.n a.1 + a.2.2 < c.n a.2.1
  · rw [if_pos hc]
    -- the place it comes from was written not long ago
    have near : c.t ≤ c.u a.1 + A.length := by
      by_cases hr : r = 0
      · subst hr; omega
      · refine Nat.le_of_not_lt fun z => ?_
        obtain ⟨r', rfl⟩ : ∃ r', r = r' + 1 := ⟨r - 1, by omega⟩
        rw [Nat.add_mul, Nat.one_mul] at htt
        have := h.old i a r' ha (by omega) (by omega) (by omega)
        omega
    refine ⟨by show c.t + 1 = _; omega, fun v => ?_, fun v hv => ?_, fun v w e h1 => ?_, fun v p hv => ?_, fun p a' q ha' h1 h2 h3 => ?_⟩
    · show (if v = a.2.1 then c.t else c.u v) < c.t + 1
      have := h.lt v
      split <;> omega
    · have hv : (if v = a.2.1 then some i else c.b v) = none := hv
      show (if v = a.2.1 then c.t else c.u v) = 0
      split
      · rename_i z; rw [if_pos z] at hv; cases hv
      · rename_i z; rw [if_neg z] at hv; exact h.non v hv
    · have e : (if v = a.2.1 then c.t else c.u v) = (if w = a.2.1 then c.t else c.u w) := e
      have h1 : 1 ≤ (if v = a.2.1 then c.t else c.u v) := h1
      have l1 := h.lt v
      have l2 := h.lt w
      by_cases z1 : v = a.2.1 <;> by_cases z2 : w = a.2.1
      · rw [z1, z2]
      · rw [if_pos z1, if_neg z2] at e; omega
      · rw [if_neg z1, if_pos z2] at e; omega
      · rw [if_neg z1, if_neg z2] at e
        rw [if_neg z1] at h1
        exact h.inj v w e h1
    · have hv : (if v = a.2.1 then some i else c.b v) = some p := hv
      by_cases z : v = a.2.1
      · rw [if_pos z] at hv
        cases hv
        have e1 : (if v = a.2.1 then c.n a.1 + a.2.2 else c.n v) = c.n a.1 + a.2.2 := if_pos z
        have e2 : (if v = a.2.1 then c.t else c.u v) = c.t := if_pos z
        have htp : 1 ≤ c.t := by omega
        refine ⟨a, ha, z.symm, by show 1 ≤ (if v = a.2.1 then c.t else c.u v); rw [e2]; exact htp, ?_, ?_, ?_⟩
        · show (if a.1 = a.2.1 then c.n a.1 + a.2.2 else c.n a.1) + a.2.2 ≤ (if v = a.2.1 then c.n a.1 + a.2.2 else c.n v)
          rw [e1]
          by_cases y : a.1 = a.2.1
          · rw [if_pos y]
            have : c.n a.1 = c.n a.2.1 := by rw [y]
            omega
          · rw [if_neg y]; exact Int.le_refl _
        · intro hh
          show (if a.1 = a.2.1 then c.n a.1 + a.2.2 else c.n a.1) + a.2.2 < (if v = a.2.1 then c.n a.1 + a.2.2 else c.n v)
          rw [e1]
          by_cases y : a.1 = a.2.1
          · rw [if_pos y]
            have : c.n a.1 = c.n a.2.1 := by rw [y]
            omega
          · exfalso
            have hh : (if v = a.2.1 then c.t else c.u v) < (if a.1 = a.2.1 then c.t else c.u a.1) ∨ a.1 = v := hh
            rw [e2, if_neg y] at hh
            have := h.lt a.1
            rcases hh with hh | hh
            · omega
            · exact y (hh.trans z)
        · show (if v = a.2.1 then c.t else c.u v) ≤ (if a.1 = a.2.1 then c.t else c.u a.1) + A.length
          rw [e2]
          split <;> omega
      · rw [if_neg z] at hv
        obtain ⟨a', h1, h2, h3, h4, h5, h6⟩ := h.arc v p hv
        have e1 : (if v = a.2.1 then c.n a.1 + a.2.2 else c.n v) = c.n v := if_neg z
        have e2 : (if v = a.2.1 then c.t else c.u v) = c.u v := if_neg z
        refine ⟨a', h1, h2, by show 1 ≤ (if v = a.2.1 then c.t else c.u v); rw [e2]; exact h3, ?_, ?_, ?_⟩
        · show (if a'.1 = a.2.1 then c.n a.1 + a.2.2 else c.n a'.1) + a'.2.2 ≤ (if v = a.2.1 then c.n a.1 + a.2.2 else c.n v)
          rw [e1]
          by_cases y : a'.1 = a.2.1
          · rw [if_pos y]; rw [y] at h4; omega
          · rw [if_neg y]; exact h4
        · intro hh
          show (if a'.1 = a.2.1 then c.n a.1 + a.2.2 else c.n a'.1) + a'.2.2 < (if v = a.2.1 then c.n a.1 + a.2.2 else c.n v)
          rw [e1]
          by_cases y : a'.1 = a.2.1
          · rw [if_pos y]; rw [y] at h4; omega
          · rw [if_neg y]
            have hh : (if v = a.2.1 then c.t else c.u v) < (if a'.1 = a.2.1 then c.t else c.u a'.1) ∨ a'.1 = v := hh
            rw [e2, if_neg y] at hh
            exact h5 hh
        · show (if v = a.2.1 then c.t else c.u v) ≤ (if a'.1 = a.2.1 then c.t else c.u a'.1) + A.length
          rw [e2]
          have := h.lt v
          split <;> omega
    · show (if a'.2.1 = a.2.1 then c.n a.1 + a.2.2 else c.n a'.2.1) ≤ (if a'.1 = a.2.1 then c.n a.1 + a.2.2 else c.n a'.1) + a'.2.2
      have h1 : q * A.length + p + 1 < c.t + 1 := h1
      have h2 : c.t + 1 ≤ q * A.length + p + 1 + A.length := h2
      have h3 : (if a'.1 = a.2.1 then c.t else c.u a'.1) < q * A.length + p + 1 := h3
      have hpm : p < A.length := (List.getElem?_eq_some_iff.mp ha').1
      have y : a'.1 ≠ a.2.1 := fun y => by rw [if_pos y] at h3; omega
      rw [if_neg y] at h3 ⊢
      by_cases hs : q * A.length + p + 1 = c.t
      · have := mul_add_inj hpm him (q := q) (r := r) (by omega)
        obtain ⟨_, rfl⟩ := this
        rw [ha] at ha'
        cases ha'
        rw [if_pos rfl]
        exact Int.le_refl _
      · have z := h.old p a' q ha' (by omega) (by omega) h3
        split
        · rename_i w; rw [w] at z; omega
        · exact z
  · rw [if_neg hc]
    refine ⟨by show c.t + 1 = _; omega, fun v => by have := h.lt v; show c.u v < c.t + 1; omega, h.non, h.inj, h.arc, fun p a' q ha' h1 h2 h3 => ?_⟩
    have h1 : q * A.length + p + 1 < c.t + 1 := h1
    have h2 : c.t + 1 ≤ q * A.length + p + 1 + A.length := h2
    have hpm : p < A.length := (List.getElem?_eq_some_iff.mp ha').1
    show c.n a'.2.1 ≤ c.n a'.1 + a'.2.2
    by_cases hs : q * A.length + p + 1 = c.t
    · have := mul_add_inj hpm him (q := q) (r := r) (by omega)
      obtain ⟨_, rfl⟩ := this
      rw [ha] at ha'
      cases ha'
      omega
    · exact h.old p a' q ha' (by omega) (by omega) h3
theorem Iv.next {A : List Arc} {r : Nat} {c : C9} (h : Iv A r A.length c) : Iv A (r + 1) 0 c := by
  refine ⟨?_, h.lt, h.non, h.inj, h.arc, h.old⟩
  rw [h.tt, Nat.add_mul, Nat.one_mul]
def c0 : C9 := ⟨fun _ => 0, fun _ => none, fun _ => 0, 1⟩
theorem Iv.start (A : List Arc) : Iv A 0 0 c0 := ⟨by simp [c0], fun v => by simp [c0], fun v _ => rfl, fun v w _ h => by simp [c0] at h, fun v p h => by simp [c0] at h, fun p a q _ h1 _ _ => by simp [c0] at h1⟩

/-! ### the way back -/
/-- the place that v was last written from -/
def pre (A : List Arc) (b : Nat → Option Nat) (v : Nat) : Nat := match b v with
  | some p => match A[p]? with
    | some a => a.1
    | none => 0
  | none => 0
def wt (A : List Arc) (b : Nat → Option Nat) (v : Nat) : Int := match b v with
  | some p => match A[p]? with
    | some a => a.2.2
    | none => 0
  | none => 0
def it (f : Nat → Nat) : Nat → Nat → Nat
  | 0, v => v
  | n + 1, v => it f n (f v)
theorem it_add (f : Nat → Nat) : ∀ (n m v : Nat), it f (n + m) v = it f m (it f n v)
  | 0, m, v => by rw [Nat.zero_add]; rfl
  | n + 1, m, v => by rw [Nat.add_right_comm]; exact it_add f n m (f v)
theorem it_succ (f : Nat → Nat) (n v : Nat) : it f (n + 1) v = f (it f n v) := it_add f n 1 v
section
variable {A : List Arc} {r i : Nat} {c : C9} (h : Iv A r i c) (hA : ∀ a ∈ A, a.1 < 9 ∧ a.2.1 < 9)
include h
theorem pre_of {v : Nat} (hv : 1 ≤ c.u v) : ∃ p a, c.b v = some p ∧ A[p]? = some a ∧ a.2.1 = v ∧ pre A c.b v = a.1 ∧ wt A c.b v = a.2.2 ∧ c.n a.1 + a.2.2 ≤ c.n v ∧ ((c.u v < c.u a.1 ∨ a.1 = v) → c.n a.1 + a.2.2 < c.n v) ∧ c.u v ≤ c.u a.1 + A.length := by
  cases hb : c.b v with
  | none => have := h.non v hb; omega
  | some p =>
    obtain ⟨a, h1, h2, h3, h4, h5, h6⟩ := h.arc v p hb
    refine ⟨p, a, rfl, h1, h2, ?_, ?_, h4, h5, h6⟩
    · unfold pre; rw [hb]; dsimp only; rw [h1]
    · unfold wt; rw [hb]; dsimp only; rw [h1]
theorem chain {v : Nat} (hv : 8 * A.length + 1 ≤ c.u v) : ∀ k, k ≤ 8 → (8 - k) * A.length + 1 ≤ c.u (it (pre A c.b) k v)
  | 0, _ => hv
  | k + 1, hk => by
    have ih := chain hv k (by omega)
    obtain ⟨p, a, h1, h2, h3, h4, _, _, _, h8⟩ := pre_of h (v := it (pre A c.b) k v) (by omega)
    rw [it_succ, h4]
    obtain ⟨j, hj⟩ : ∃ j, 8 - k = j + 1 := ⟨8 - k - 1, by omega⟩
    rw [hj, Nat.add_mul, Nat.one_mul] at ih
    have : 8 - (k + 1) = j := by omega
    rw [this]
    omega
include hA
theorem lt9 {v : Nat} (hv : 1 ≤ c.u v) : v < 9 ∧ pre A c.b v < 9 := by
  obtain ⟨p, a, h1, h2, h3, h4, _⟩ := pre_of h hv
  have := hA a (List.mem_of_getElem? h2)
  rw [h4, ← h3]
  exact ⟨this.2, this.1⟩
theorem lt9_at {v : Nat} (hv : 8 * A.length + 1 ≤ c.u v) : ∀ k, k ≤ 9 → it (pre A c.b) k v < 9
  | 0, _ => (lt9 h hA (v := v) (by omega)).1
  | k + 1, hk => by
    have z := chain h hv k (by omega)
    rw [it_succ]
    exact (lt9 h hA (v := it (pre A c.b) k v) (by omega)).2
end
/-- ten places among nine -/
theorem pigeon {g : Nat → Nat} (hg : ∀ k, k ≤ 9 → g k < 9) : ∃ i j, i < j ∧ j ≤ 9 ∧ g i = g j := by
  refine Classical.byContradiction fun hn => ?_
  have inj : ∀ i j, i ≤ 9 → j ≤ 9 → g i = g j → i = j := fun i j hi hj e => by
    rcases Nat.lt_trichotomy i j with z | z | z
    · exact absurd ⟨i, j, z, hj, e⟩ hn
    · exact z
    · exact absurd ⟨j, i, z, hi, e.symm⟩ hn
  have nd : ((List.range 10).map g).Nodup := by
    rw [List.nodup_iff_pairwise_ne, List.pairwise_map]
    refine List.Pairwise.imp_of_mem (fun {a b} ha hb hab => ?_) (List.nodup_iff_pairwise_ne.mp List.nodup_range)
    exact fun e => hab (inj a b (by have := List.mem_range.mp ha; omega) (by have := List.mem_range.mp hb; omega) e)
  have sub : ∀ x ∈ (List.range 10).map g, x ∈ List.range 9 := fun x hx => by
    obtain ⟨k, hk, rfl⟩ := List.mem_map.mp hx
    exact List.mem_range.mpr (hg k (by have := List.mem_range.mp hk; omega))
  have le := (List.nodup_iff_pairwise_ne.mp nd)
  have := List.Nodup.length_le_of_subset nd sub
  simp at this
end BF
-- BF4
namespace BF
/-- the least way round -/
theorem least {P : Nat → Prop} {n : Nat} (h : P n) : ∃ m, m ≤ n ∧ P m ∧ ∀ k, k < m → ¬ P k := by
  induction n using Nat.strongRecOn with
  | _ n ih =>
    by_cases hc : ∃ k, k < n ∧ P k
    · obtain ⟨k, hk, hp⟩ := hc
      obtain ⟨m, h1, h2, h3⟩ := ih k hk hp
      exact ⟨m, by omega, h2, h3⟩
    · exact ⟨n, Nat.le_refl _, h, fun k hk hp => hc ⟨k, hk, hp⟩⟩
def sumW (A : List Arc) (b : Nat → Option Nat) (v : Nat) : Nat → Int
  | 0 => 0
  | n + 1 => sumW A b v n + wt A b (it (pre A b) n v)
section
variable {A : List Arc} {r i : Nat} {c : C9} (h : Iv A r i c) (hA : ∀ a ∈ A, a.1 < 9 ∧ a.2.1 < 9)
include h hA
/-- nine steps back from a place that was written in the ninth round: a ring of pointers, its sum below 0 -/
theorem ring {v : Nat} (hv : 8 * A.length + 1 ≤ c.u v) : ∃ L, 1 ≤ L ∧ L ≤ 9 ∧ it (pre A c.b) L (it (pre A c.b) 9 v) = it (pre A c.b) 9 v ∧ (∀ k, 1 ≤ k → k < L → it (pre A c.b) k (it (pre A c.b) 9 v) ≠ it (pre A c.b) 9 v) ∧
    (∀ k, 1 ≤ c.u (it (pre A c.b) k (it (pre A c.b) 9 v))) ∧ sumW A c.b (it (pre A c.b) 9 v) L < 0 := by
  obtain ⟨i0, j0, hij, hj, e⟩ := pigeon (lt9_at h hA hv)
  generalize hf : pre A c.b = f at e ⊢
  have hup : ∀ k, k ≤ 8 → 1 ≤ c.u (it f k v) := fun k hk => by
    have := chain h hv k hk
    rw [hf] at this
    omega
  -- the ring
  have cyc : ∀ k, i0 ≤ k → it f (k + (j0 - i0)) v = it f k v := fun k hk => by
    have e1 : k + (j0 - i0) = j0 + (k - i0) := by omega
    have e2 : k = i0 + (k - i0) := by omega
    rw [e1, it_add, ← e, ← it_add, ← e2]
  have upAll : ∀ k, 1 ≤ c.u (it f k v) := by
    intro k
    induction k using Nat.strongRecOn with
    | _ k ih =>
      by_cases hk : k ≤ 8
      · exact hup k hk
      · have e1 : k = (k - (j0 - i0)) + (j0 - i0) := by omega
        rw [e1, cyc _ (by omega)]
        exact ih _ (by omega)
  have hP : 1 ≤ j0 - i0 ∧ it f (j0 - i0) (it f 9 v) = it f 9 v := ⟨by omega, by rw [← it_add]; exact cyc 9 (by omega)⟩
  obtain ⟨L, hL, ⟨hL1, hL2⟩, hmin⟩ := least (P := fun L => 1 ≤ L ∧ it f L (it f 9 v) = it f 9 v) hP
  have up9 : ∀ k, 1 ≤ c.u (it f k (it f 9 v)) := fun k => by rw [← it_add]; exact upAll _
  refine ⟨L, hL1, by omega, hL2, fun k h1 h2 e => hmin k h2 ⟨h1, e⟩, up9, ?_⟩
  generalize it f 9 v = z at hL2 up9 ⊢
  -- the sum
  have each : ∀ k, c.n (it f (k + 1) z) + wt A c.b (it f k z) ≤ c.n (it f k z) ∧ ((c.u (it f k z) < c.u (it f (k + 1) z) ∨ it f (k + 1) z = it f k z) → c.n (it f (k + 1) z) + wt A c.b (it f k z) < c.n (it f k z)) := fun k => by
    obtain ⟨p, a, _, _, _, h4, h5, h6, h7, _⟩ := pre_of h (up9 k)
    rw [hf] at h4
    rw [it_succ, h4, h5]
    exact ⟨h6, h7⟩
  have tele : ∀ k, sumW A c.b z k + c.n (it f k z) ≤ c.n z := by
    intro k
    induction k with
    | zero => show 0 + c.n z ≤ c.n z; omega
    | succ k ih =>
      show sumW A c.b z k + wt A c.b (it (pre A c.b) k z) + c.n (it f (k + 1) z) ≤ c.n z
      rw [hf]
      have := (each k).1
      omega
  have strict : ∀ k m, k < m → (c.u (it f k z) < c.u (it f (k + 1) z) ∨ it f (k + 1) z = it f k z) → sumW A c.b z m + c.n (it f m z) < c.n z := by
    intro k m hkm hs
    induction m with
    | zero => omega
    | succ m ih =>
      show sumW A c.b z m + wt A c.b (it (pre A c.b) m z) + c.n (it f (m + 1) z) < c.n z
      rw [hf]
      by_cases e : k = m
      · subst e
        have h1 := (each k).2 hs
        have h2 := tele k
        omega
      · have h1 := (each m).1
        have h2 := ih (by omega)
        omega
  by_cases hs : ∃ k, k < L ∧ (c.u (it f k z) < c.u (it f (k + 1) z) ∨ it f (k + 1) z = it f k z)
  · obtain ⟨k, hk, hs⟩ := hs
    have := strict k L hk hs
    rw [hL2] at this
    omega
  · exfalso
    have dec : ∀ k, k < L → c.u (it f (k + 1) z) < c.u (it f k z) := fun k hk => by
      refine Nat.lt_of_not_le fun q => hs ⟨k, hk, ?_⟩
      rcases Nat.lt_or_eq_of_le q with q | q
      · exact .inl q
      · exact .inr (h.inj _ _ q.symm (up9 _))
    have all : ∀ k, k ≤ L → c.u (it f k z) + k ≤ c.u z := by
      intro k
      induction k with
      | zero => intro _; exact Nat.le_refl _
      | succ k ih =>
        intro hk
        have h1 := dec k (by omega)
        have h2 := ih (by omega)
        omega
    have := all L (Nat.le_refl _)
    rw [hL2] at this
    omega
end
end BF
-- B7
namespace LAW
open PySem PL
/-! ### lists as functions -/
def at9 (L : List (Option Int)) : BF.S9 := fun i => (L[i]?).join
theorem at9_lt {L : List (Option Int)} {i : Nat} (h : i < L.length) : at9 L i = L[i] := by
  unfold at9
  rw [List.getElem?_eq_getElem h]
  rfl
theorem at9_out {L : List (Option Int)} (h : L.length = 9) {i : Nat} (hi : 9 ≤ i) : at9 L i = none := by
  unfold at9
  rw [List.getElem?_eq_none (by omega)]
  rfl
theorem at9_inj {L L' : List (Option Int)} (h : L.length = L'.length) (e : at9 L = at9 L') : L = L' := by
  apply List.ext_getElem h
  intro i h1 h2
  have z := congrFun e i
  rw [at9_lt h1, at9_lt h2] at z
  exact z
theorem at9_rl {L : List (Option Int)} {a : Arc} (hL : L.length = 9) (ha : a.1 < 9 ∧ a.2.1 < 9) : at9 (rl L a) = BF.rx (at9 L) a := by
  have hx : a.1 < L.length := by omega
  have hy : a.2.1 < L.length := by omega
  funext i
  unfold rl BF.rx
  rw [List.getElem?_eq_getElem hx, List.getElem?_eq_getElem hy, at9_lt hx, at9_lt hy]
  have set_ : ∀ v, at9 (L.set a.2.1 v) i = if i = a.2.1 then v else at9 L i := fun v => by
    unfold at9
    by_cases h : i = a.2.1
    · subst h; rw [List.getElem?_set_self hy, if_pos rfl]; rfl
    · rw [List.getElem?_set_ne (Ne.symm h), if_neg h]
  have same : ∀ v, L[a.2.1] = v → at9 L i = if i = a.2.1 then v else at9 L i := fun v hv => by
    by_cases h : i = a.2.1
    · subst h; rw [if_pos rfl, at9_lt hy, hv]
    · rw [if_neg h]
  cases h1 : L[a.1] with
  | none => exact same _ (by cases L[a.2.1] <;> rfl)
  | some p =>
    cases h2 : L[a.2.1] with
    | none => exact set_ _
    | some q =>
      simp only [BF.rv]
      by_cases hc : p + a.2.2 < q
      · rw [if_pos hc, if_pos hc]; exact set_ _
      · rw [if_neg hc, if_neg hc]; exact same _ h2
theorem at9_fold : ∀ {A : List Arc} {L : List (Option Int)}, L.length = 9 → Arcs A → at9 (A.foldl rl L) = A.foldl BF.rx (at9 L)
  | [], _, _, _ => rfl
  | a :: A, L, hL, hA => by
    rw [List.foldl_cons, List.foldl_cons, at9_fold (by rw [rl_len]; exact hL) fun b hb => hA b (List.mem_cons_of_mem _ hb), at9_rl hL (hA a List.mem_cons_self)]
theorem at9_rnds {A : List Arc} (hA : Arcs A) : ∀ {n : Nat} {L : List (Option Int)}, L.length = 9 → at9 (rnds A n L) = BF.rds A n (at9 L)
  | 0, L, _ => rfl
  | n + 1, L, hL => by
    rw [rnds_succ]
    exact (at9_fold (by rw [rnds_len]; exact hL) hA).trans (congrArg (fun s => A.foldl BF.rx s) (at9_rnds hA hL))
theorem out9 {A : List Arc} (hA : Arcs A) {L : List (Option Int)} (hL : L.length = 9) {i : Nat} (hi : 9 ≤ i) (n : Nat) : BF.rds A n (at9 L) i = none := by
  rw [← at9_rnds hA hL]
  exact at9_out (by rw [rnds_len]; exact hL) hi
/-- the tenth round changes nothing: nor does the ninth -/
theorem early {A : List Arc} (hA : Arcs A) {L : List (Option Int)} (hL : L.length = 9) (h : rnds A 10 L = rnds A 9 L) : rnds A 9 L = rnds A 8 L := by
  have fx : BF.rd A (BF.rds A 9 (at9 L)) = BF.rds A 9 (at9 L) := by
    have z := congrArg at9 h
    rw [at9_rnds hA hL, at9_rnds hA hL] at z
    exact z
  have z := BF.settle (A := A) (s := at9 L) (f := BF.rds A 9 (at9 L)) (K := 9) (fun _ => rfl) fx (fun i hi n => by rw [out9 hA hL hi, out9 hA hL hi]) fun i hi => out9 hA hL hi 9
  refine at9_inj (by rw [rnds_len, rnds_len]) ?_
  rw [at9_rnds hA hL, at9_rnds hA hL]
  exact (funext z).symm
def Z9 : List (Option Int) := List.replicate 9 (some 0)
def one9 (o : Nat) : List (Option Int) := (List.range 9).map fun i => if i = o then some 0 else none
theorem one9_len {o : Nat} : (one9 o).length = 9 := by simp [one9]
/-- .. and from one place alone the ninth round changes nothing -/
theorem early_one {A : List Arc} (hA : Arcs A) {o : Nat} (h : rnds A 10 Z9 = rnds A 9 Z9) : rnds A 10 (one9 o) = rnds A 9 (one9 o) := by
  have hZ : Z9.length = 9 := rfl
  have fx : BF.rd A (BF.rds A 9 (at9 Z9)) = BF.rds A 9 (at9 Z9) := by
    have z := congrArg at9 h
    rw [at9_rnds hA hZ, at9_rnds hA hZ] at z
    exact z
  have hz : ∀ i, i < 9 → at9 Z9 i ≠ none := fun i hi => by
    rw [at9_lt (by rw [hZ]; exact hi)]
    unfold Z9
    rw [List.getElem_replicate]
    exact fun h => by cases h
  have z := BF.settle_one (A := A) (s := at9 (one9 o)) (F := BF.rds A 9 (at9 Z9)) (o := o) fx (fun a ha => ⟨BF.some_rds (hz _ (hA a ha).1) 9, BF.some_rds (hz _ (hA a ha).2) 9⟩) (fun i v e => by
    by_cases hi : i < 9
    · rw [at9_lt (by rw [one9_len]; exact hi)] at e
      simp only [one9, List.getElem_map, List.getElem_range] at e
      split at e
      · exact ⟨by assumption, (Option.some.inj e).symm⟩
      · cases e
    · rw [at9_out one9_len (by omega)] at e; cases e) fun i hi n => out9 hA one9_len hi n
  have e98 : rnds A 9 (one9 o) = rnds A 8 (one9 o) := by
    refine at9_inj (by rw [rnds_len, rnds_len]) ?_
    rw [at9_rnds hA one9_len, at9_rnds hA one9_len]
    exact funext z
  rw [rnds_succ, e98, ← rnds_succ, e98]
end LAW
-- B8
namespace LAW
open PySem PL
/-- a comprehension that keeps all and changes nothing -/
theorem lcGo_map {vs : List Nat} {f : T → M Unit} {te : M RV} {e : Ev} {v : T → T} : ∀ {ts acc : List T}, acc.length + ts.length ≤ sz → (∀ t ∈ ts, ∃ e1 q e2 e3, f t e = .ok () e1 ∧ te e1 = .ok q e2 ∧ fz e2 q = some (v t, e3) ∧ (⟨wipS e3.r vs, e3.c⟩ : Ev) = e) → lcGo none vs f mYes te ts acc e = .ok (acc ++ ts.map v) e
  | [], acc, _, _ => by rw [lcGo]; simp; rfl
  | t :: ts, acc, hl, h => by
    obtain ⟨e1, q, e2, e3, h1, h2, h3, h4⟩ := h t List.mem_cons_self
    rw [List.length_cons] at hl
    rw [lcGo]
    dsimp only
    rw [if_pos wOk_none, h1]
    dsimp only [mYes]
    rw [h2]
    dsimp only
    rw [h3]
    dsimp only
    rw [if_pos (by omega), h4, lcGo_map (acc := acc ++ [v t]) (by simp; omega) fun t ht => h t (List.mem_cons_of_mem _ ht)]
    simp
/-! ### the law's row -/
theorem set_ne {L : List (Option Int)} {i : Nat} {v : Option Int} (h : i < L.length) (hv : L[i] ≠ v) : L.set i v ≠ L := fun e => by
  have z : (L.set i v)[i]? = L[i]? := by rw [e]
  rw [List.getElem?_set_self h, List.getElem?_eq_getElem h] at z
  exact hv (Option.some.inj z).symm
theorem row_body {L : List (Option Int)} {x y : Nat} {w : Int} {s0 s1 s2 s8 : Sl} {b : Bool} {c : List T} (hL : L.length = 9) (hx : x < 9) (hy : y < 9) :
    fb__law_row_0 ⟨[s0, s1, s2, .ow (.lst (L.map oT)), .va (.bl b), .va (.int x), .va (.int y), .va (.int w), s8], c⟩ = .ok .nx ⟨[s0, s1, s2, .ow (.lst ((rl L (x, y, w)).map oT)), .va (.bl (b || decide (rl L (x, y, w) ≠ L))), .va (.int x), .va (.int y), .va (.int w), s8], c⟩ := by
  have hx' : x < L.length := by omega
  have hy' : y < L.length := by omega
  have ex : (L.map oT)[x]? = some (oT L[x]) := by simp [hx']
  have ey : (L.map oT)[y]? = some (oT L[y]) := by simp [hy']
  have hs : y < (L.map oT).length := by simpa using hy'
  unfold fb__law_row_0 rl
  rw [List.getElem?_eq_getElem hx', List.getElem?_eq_getElem hy']
  cases h1 : L[x] with
  | none => simp [ixT_at ex, h1, oT, opIsN, isNonT]
  | some p =>
    cases h2 : L[y] with
    | none =>
      have z := set_ne (v := some (p + w)) hy' (by rw [h2]; exact fun e => by cases e)
      simp [mTpd, tks, tk, hsC, hNm, hsN, ixT_at ex, ixT_at ey, h1, h2, oT, opIsN, opIs, isNonT, opAdd, hFz, gSb, plOf, sbT_at hs, putP, List.map_set, z]
    | some q =>
      by_cases hc : p + w < q
      · have z := set_ne (v := some (p + w)) hy' (by rw [h2]; exact fun e => by have := Option.some.inj e; omega)
        simp [mTpd, tks, tk, hsC, hNm, hsN, ixT_at ex, ixT_at ey, h1, h2, oT, opIsN, opIs, isNonT, opAdd, opLt_int, hc, hFz, gSb, plOf, sbT_at hs, putP, List.map_set, z]
      · simp [ixT_at ex, ixT_at ey, h1, h2, oT, opIsN, opIs, isNonT, opAdd, opLt_int, hc, hFz, gSb, plOf, sbT_at hs, putP, List.map_set]
theorem fold_ne {A : List Arc} {L : List (Option Int)} {a : Arc} (hL : L.length = 9) (hA : Arcs A) (ha : a.1 < 9 ∧ a.2.1 < 9) :
    (decide (A.foldl rl L ≠ L) || decide (rl (A.foldl rl L) a ≠ A.foldl rl L)) = decide (rl (A.foldl rl L) a ≠ L) := by
  by_cases h : A.foldl rl L = L
  · simp [h]
  · have hl : (A.foldl rl L).length = 9 := by rw [fold_len]; exact hL
    have : rl (A.foldl rl L) a ≠ L := fun e => h (at9_inj (by rw [fold_len]) (funext fun i => by
      have l1 : BF.oLe (at9 (rl (A.foldl rl L) a) i) (at9 (A.foldl rl L) i) := by rw [at9_rl hl ha]; exact BF.rx_le _ _ i
      have l2 : BF.oLe (at9 (A.foldl rl L) i) (at9 L i) := by rw [at9_fold hL hA]; exact BF.rd_le A _ i
      rw [e] at l1
      exact BF.oLe.anti l2 l1))
    simp [h, this]
end LAW
-- B9
namespace LAW
open PySem PL
theorem row_round {A : List Arc} {L : List (Option Int)} {S : T} {s1 s2 s5 s6 s7 s8 : Sl} {cs : List T} (hS : IsSq S (A.map aT)) (hA : Arcs A) (hL : L.length = 9) :
    ∃ s5' s6' s7', fo__law_row_0 ⟨[.va S, s1, s2, .ow (.lst (L.map oT)), .va (.bl false), s5, s6, s7, s8], cs⟩ = .ok .nx ⟨[.va S, s1, s2, .ow (.lst ((rnd A L).map oT)), .va (.bl (decide (rnd A L ≠ L))), s5', s6', s7', s8], cs⟩ := by
  have hf : ∃ e', fo__law_row_0 ⟨[.va S, s1, s2, .ow (.lst (L.map oT)), .va (.bl false), s5, s6, s7, s8], cs⟩ = .ok .nx e' ∧ ∃ s5' s6' s7', e' = ⟨[.va S, s1, s2, .ow (.lst ((rnd A L).map oT)), .va (.bl (decide (rnd A L ≠ L))), s5', s6', s7', s8], cs⟩ := by
    unfold fo__law_row_0
    rw [mFor_of (w := ⟨none, A.map aT⟩) (e1 := ⟨[.va S, s1, s2, .ow (.lst (L.map oT)), .va (.bl false), s5, s6, s7, s8], cs⟩) (by simp [mIt, itOf_sq hS])]
    obtain ⟨e', h1, h2⟩ := forGo_ind (f := gTp 3 (gsC (gNm 5) (gsC (gNm 6) (gsC (gNm 7) gsN)))) (m := fb__law_row_0) (ts := A.map aT) (P := fun i e => ∃ s5 s6 s7, e = ⟨[.va S, s1, s2, .ow (.lst (((A.take i).foldl rl L).map oT)), .va (.bl (decide ((A.take i).foldl rl L ≠ L))), s5, s6, s7, s8], cs⟩)
      (e := ⟨[.va S, s1, s2, .ow (.lst (L.map oT)), .va (.bl false), s5, s6, s7, s8], cs⟩) ⟨s5, s6, s7, by simp⟩ fun i t e ht ⟨s5, s6, s7, he⟩ => by
        obtain ⟨a, ha, rfl⟩ := map_at ht
        obtain ⟨x, y, w⟩ := a
        subst he
        have hm := hA _ (List.mem_of_getElem? ha)
        refine ⟨_, _, rfl, row_body (by rw [fold_len]; exact hL) hm.1 hm.2, .va (.int x), .va (.int y), .va (.int w), ?_⟩
        rw [take_succ_fold ha, fold_ne hL (fun b hb => hA b (List.mem_of_mem_take hb)) hm]
    refine ⟨e', h1, ?_⟩
    rw [List.length_map, List.take_length] at h2
    exact h2
  obtain ⟨e', h1, a, b, c, rfl⟩ := hf
  exact ⟨a, b, c, h1⟩
theorem rgT_len {lo : Int} {n : Nat} : (rgT lo n).length = n := by simp [rgT]
theorem rg1_9 : rg1 [.va (.int 9)] = some 9 := rg1_len (n := 9) (by decide)
theorem rg1_10 : rg1 [.va (.int 10)] = some 10 := rg1_len (n := 10) (by decide)
def sel (p : Nat → Bool) : List (Option Int) := (List.range 9).map fun i => if p i then some 0 else none
theorem sel_len {p : Nat → Bool} : (sel p).length = 9 := by simp [sel]
theorem row_ok {A : List Arc} {S S0 : T} {p : Nat → Bool} {cs : List T} (hS : IsSq S (A.map aT)) (hA : Arcs A) (h0 : ∀ k, S0 ≠ .cel k) (hp : ∀ i : Nat, i < 9 → opIn (.int i) S0 = some (.sm (.bl (p i)))) :
    F__law_row [S, S0] cs = .ok (.ow (.lst [.lst ((rnds A 10 (sel p)).map oT), .bl (decide (rnds A 10 (sel p) ≠ rnds A 9 (sel p)))])) cs := by
  have hc : lc__law_row_0 ⟨[.va S, .va S0, .un, .un, .un, .un, .un, .un, .un], cs⟩ = .ok (.ow (.lst ((sel p).map oT))) ⟨[.va S, .va S0, .un, .un, .un, .un, .un, .un, .un], cs⟩ := by
    unfold lc__law_row_0
    have hm := lcGo_map (vs := [8]) (f := gNm 8) (te := mIf (mB (mOp opIn (mVar 8) (mVar 1))) (mC (.int 0)) (mC .non)) (e := ⟨[.va S, .va S0, .un, .un, .un, .un, .un, .un, .un], cs⟩) (v := fun t => match t with | .int i => oT (if p i.toNat then some 0 else none) | _ => .non) (ts := rgT 0 9) (acc := []) (by decide) fun t ht => by
      obtain ⟨i, hi, rfl⟩ := mem_rgT ht
      rw [Int.zero_add]
      cases hq : p i with
      | true => exact ⟨_, .va (.int 0), ⟨[.va S, .va S0, .un, .un, .un, .un, .un, .un, .va (.int i)], cs⟩, ⟨[.va S, .va S0, .un, .un, .un, .un, .un, .un, .va (.int i)], cs⟩, rfl, by simp [pk_va' h0, hp i hi, hq], by simp [hq, oT], rfl⟩
      | false => exact ⟨_, .va .non, ⟨[.va S, .va S0, .un, .un, .un, .un, .un, .un, .va (.int i)], cs⟩, ⟨[.va S, .va S0, .un, .un, .un, .un, .un, .un, .va (.int i)], cs⟩, rfl, by simp [pk_va' h0, hp i hi, hq], by simp [hq, oT], rfl⟩
    rw [mLc_of (w := none) (ts := rgT 0 9) (e1 := ⟨[.va S, .va S0, .un, .un, .un, .un, .un, .un, .un], cs⟩) (by simp [mRg1, rg1_9]) hm]
    have e : [] ++ (rgT 0 9).map (fun t => match t with | .int i => oT (if p i.toNat then some 0 else none) | _ => .non) = (sel p).map oT := by
      simp [rgT, sel]
    rw [e]
    rfl
  have hf : ∃ e', fo__law_row_1 ⟨[.va S, .va S0, .un, .ow (.lst ((sel p).map oT)), .va (.bl false), .un, .un, .un, .un], cs⟩ = .ok .nx e' ∧ ∃ b s2 s5 s6 s7, e' = ⟨[.va S, .va S0, s2, .ow (.lst ((rnds A 10 (sel p)).map oT)), .va (.bl b), s5, s6, s7, .un], cs⟩ ∧ ∀ k, 10 = k + 1 → b = decide (rnds A (k + 1) (sel p) ≠ rnds A k (sel p)) := by
    unfold fo__law_row_1
    rw [mFor_of (w := ⟨none, rgT 0 10⟩) (e1 := ⟨[.va S, .va S0, .un, .ow (.lst ((sel p).map oT)), .va (.bl false), .un, .un, .un, .un], cs⟩) (by simp [mRg1, rg1_10])]
    obtain ⟨e', h1, h2⟩ := forGo_ind (f := gNm 2) (m := fb__law_row_1) (ts := rgT 0 10) (P := fun i e => ∃ b s2 s5 s6 s7, e = ⟨[.va S, .va S0, s2, .ow (.lst ((rnds A i (sel p)).map oT)), .va (.bl b), s5, s6, s7, .un], cs⟩ ∧ ∀ k, i = k + 1 → b = decide (rnds A (k + 1) (sel p) ≠ rnds A k (sel p)))
      (e := ⟨[.va S, .va S0, .un, .ow (.lst ((sel p).map oT)), .va (.bl false), .un, .un, .un, .un], cs⟩) ⟨false, .un, .un, .un, .un, rfl, fun k h => by omega⟩ fun i t e ht ⟨b, s2, s5, s6, s7, he, _⟩ => by
        subst he
        obtain ⟨s5', s6', s7', hr⟩ := row_round (s1 := .va S0) (s2 := .va t) (s5 := s5) (s6 := s6) (s7 := s7) (s8 := .un) (cs := cs) hS hA (L := rnds A i (sel p)) (by rw [rnds_len, sel_len])
        rw [← rnds_succ] at hr
        refine ⟨_, _, rfl, ?_, _, .va t, s5', s6', s7', rfl, fun k hk => by cases hk; rfl⟩
        simp [fb__law_row_1, hr]
    refine ⟨e', h1, ?_⟩
    rw [rgT_len] at h2
    exact h2
  obtain ⟨e', h1, b, s2, s5, s6, s7, rfl, hb⟩ := hf
  rw [hb 9 rfl] at h1
  simp [F__law_row, m__law_row, fnM, mTpd, tks, tk, hsC, hNm, hsN, hc, h1, (by decide : 2 ≤ sz)]
end LAW
-- B10
namespace LAW
open PySem PL
/-! ### the run of clash_of -/
abbrev Q9 := BF.C9 × List Nat
def qs1 (q : Q9) (p : Nat) (a : Arc) : Q9 := (BF.cs1 q.1 p a, if q.1.n a.1 + a.2.2 < q.1.n a.2.1 then q.2 ++ [a.2.1] else q.2)
def qr (A : List Arc) : Nat → Q9 → Q9
  | 0, q => q
  | i + 1, q => match A[i]? with
    | some a => qs1 (qr A i q) i a
    | none => qr A i q
def qR (A : List Arc) : Nat → Q9
  | 0 => (BF.c0, [])
  | r + 1 => qr A A.length ((qR A r).1, [])
def ol (c : BF.C9) : List (Option Int) := (List.range 9).map fun i => some (c.n i)
def bT : Option Nat → T
  | none => .non
  | some p => .int p
def bl (c : BF.C9) : List T := (List.range 9).map fun i => bT (c.b i)
def iL (ch : List Nat) : List T := ch.map fun v => T.int (v : Nat)
theorem ol_len {c : BF.C9} : (ol c).length = 9 := by simp [ol]
theorem ol_get {c : BF.C9} {i : Nat} (h : i < 9) : (ol c)[i]? = some (some (c.n i)) := by simp [ol, h]
theorem bl_get {c : BF.C9} {i : Nat} (h : i < 9) : (bl c)[i]? = some (bT (c.b i)) := by simp [bl, h]
theorem nl_get {c : BF.C9} {i : Nat} (h : i < 9) : ((ol c).map oT)[i]? = some (.int (c.n i)) := by rw [List.getElem?_map, ol_get h]; rfl
theorem set_map9 {α : Type} {f : Nat → α} {y : Nat} {v : α} (hy : y < 9) : ((List.range 9).map f).set y v = (List.range 9).map fun i => if i = y then v else f i := by
  apply List.ext_getElem
  · simp
  · intro i h1 h2
    simp at h1 h2
    rw [List.getElem_set]
    by_cases h : y = i
    · subst h; simp
    · simp [h, Ne.symm h]
theorem ol_step {c : BF.C9} {p : Nat} {a : Arc} (ha : a.1 < 9 ∧ a.2.1 < 9) : ol (BF.cs1 c p a) = rl (ol c) a := by
  unfold rl BF.cs1
  rw [ol_get ha.1, ol_get ha.2]
  dsimp only
  by_cases h : c.n a.1 + a.2.2 < c.n a.2.1
  · rw [if_pos h, if_pos h]
    unfold ol
    rw [set_map9 ha.2]
    apply List.map_congr_left
    intro i _
    dsimp only
    split <;> rfl
  · rw [if_neg h, if_neg h]
    rfl
theorem qr_ol {A : List Arc} (hA : Arcs A) {q : Q9} : ∀ {i : Nat}, ol (qr A i q).1 = (A.take i).foldl rl (ol q.1)
  | 0 => rfl
  | i + 1 => by
    rw [qr]
    cases h : A[i]? with
    | none =>
      dsimp only
      rw [qr_ol hA, List.take_of_length_le (by have := List.getElem?_eq_none_iff.mp h; omega), List.take_of_length_le (by have := List.getElem?_eq_none_iff.mp h; omega)]
    | some a =>
      dsimp only [qs1]
      rw [ol_step (hA _ (List.mem_of_getElem? h)), qr_ol hA, take_succ_fold h]
theorem qR_ol {A : List Arc} (hA : Arcs A) : ∀ {r : Nat}, ol (qR A r).1 = rnds A r Z9
  | 0 => (by decide : ol BF.c0 = Z9)
  | r + 1 => by
    rw [qR, qr_ol hA, List.take_length, rnds_succ]
    dsimp only
    rw [qR_ol hA]
    rfl
theorem qr_ch {A : List Arc} (hA : Arcs A) {c : BF.C9} : ∀ {i : Nat}, ((qr A i (c, [])).2 = [] ↔ (A.take i).foldl rl (ol c) = ol c) ∧ (qr A i (c, [])).2.length ≤ i
  | 0 => ⟨⟨fun _ => rfl, fun _ => rfl⟩, Nat.le_refl _⟩
  | i + 1 => by
    obtain ⟨h1, h2⟩ := qr_ch hA (c := c) (i := i)
    rw [qr]
    cases h : A[i]? with
    | none =>
      dsimp only
      have := List.getElem?_eq_none_iff.mp h
      rw [List.take_of_length_le (by omega)] at h1 ⊢
      exact ⟨h1, by omega⟩
    | some a =>
      have ha := hA _ (List.mem_of_getElem? h)
      dsimp only [qs1]
      have z := fold_ne (A := A.take i) (a := a) (ol_len (c := c)) (fun b hb => hA b (List.mem_of_mem_take hb)) ha
      have g := qr_ol hA (q := (c, [])) (i := i)
      dsimp only at g
      have lq : ∀ L : List (Option Int), L = ol (qr A i (c, [])).1 → (rl L a ≠ L ↔ (qr A i (c, [])).1.n a.1 + a.2.2 < (qr A i (c, [])).1.n a.2.1) := fun L hL => by
        subst hL
        unfold rl
        rw [ol_get ha.1, ol_get ha.2]
        dsimp only
        by_cases hc : (qr A i (c, [])).1.n a.1 + a.2.2 < (qr A i (c, [])).1.n a.2.1
        · rw [if_pos hc]
          refine ⟨fun _ => hc, fun _ => set_ne (by rw [ol_len]; exact ha.2) fun e => ?_⟩
          have e2 := ol_get (c := (qr A i (c, [])).1) ha.2
          rw [List.getElem?_eq_getElem (by rw [ol_len]; exact ha.2), e] at e2
          have := Option.some.inj (Option.some.inj e2)
          omega
        · rw [if_neg hc]
          exact ⟨fun h => (h rfl).elim, fun h => (hc h).elim⟩
      have lq := lq _ g.symm
      rw [take_succ_fold h]
      by_cases hc : (qr A i (c, [])).1.n a.1 + a.2.2 < (qr A i (c, [])).1.n a.2.1
      · rw [if_pos hc]
        rw [decide_eq_true (lq.mpr hc), Bool.or_true] at z
        have z := of_decide_eq_true z.symm
        exact ⟨⟨fun e => by simp at e, fun e => (z e).elim⟩, by simp; omega⟩
      · rw [if_neg hc]
        have e1 : rl ((A.take i).foldl rl (ol c)) a = (A.take i).foldl rl (ol c) := Classical.byContradiction fun e => hc (lq.mp e)
        rw [e1]
        exact ⟨h1, by omega⟩
theorem qr_iv {A : List Arc} {r : Nat} {c : BF.C9} (hc : BF.Iv A r 0 c) : ∀ {i : Nat}, i ≤ A.length → BF.Iv A r i (qr A i (c, [])).1 ∧ ∀ v ∈ (qr A i (c, [])).2, r * A.length + 1 ≤ (qr A i (c, [])).1.u v
  | 0, _ => ⟨hc, fun v h => by cases h⟩
  | i + 1, hi => by
    obtain ⟨h1, h2⟩ := qr_iv hc (i := i) (by omega)
    have h : A[i]? = some A[i] := List.getElem?_eq_getElem (by omega)
    rw [qr, h]
    dsimp only [qs1]
    refine ⟨h1.step h, fun v hv => ?_⟩
    unfold BF.cs1
    have ht := h1.tt
    by_cases hq : (qr A i (c, [])).1.n A[i].1 + A[i].2.2 < (qr A i (c, [])).1.n A[i].2.1
    · rw [if_pos hq] at hv ⊢
      dsimp only
      split
      · omega
      · rename_i hne
        rcases List.mem_append.mp hv with hv | hv
        · exact h2 v hv
        · exact (hne (List.mem_singleton.mp hv)).elim
    · rw [if_neg hq] at hv ⊢
      exact h2 v hv
theorem qR_iv {A : List Arc} : ∀ {r : Nat}, BF.Iv A r 0 (qR A r).1
  | 0 => BF.Iv.start A
  | r + 1 => (qr_iv qR_iv (Nat.le_refl _)).1.next
theorem qr_lt {A : List Arc} (hA : Arcs A) {c : BF.C9} : ∀ {i : Nat}, ∀ v ∈ (qr A i (c, [])).2, v < 9
  | 0, v, h => by cases h
  | i + 1, v, hv => by
    rw [qr] at hv
    cases h : A[i]? with
    | none => rw [h] at hv; exact qr_lt hA v hv
    | some a =>
      rw [h] at hv
      dsimp only [qs1] at hv
      split at hv
      · rcases List.mem_append.mp hv with hv | hv
        · exact qr_lt hA v hv
        · rw [List.mem_singleton.mp hv]; exact (hA _ (List.mem_of_getElem? h)).2
      · exact qr_lt hA v hv
end LAW
-- B11
namespace LAW
open PySem PL
theorem clash_body {q : Q9} {p x y : Nat} {w : Int} {s0 s1 : Sl} {cs : List T} (hx : x < 9) (hy : y < 9) (hl : q.2.length < sz) :
    fb_clash_of_0 ⟨[s0, s1, .ow (.lst ((ol q.1).map oT)), .ow (.lst (bl q.1)), .ow (.lst (iL q.2)), .va (.int p), .va (.int x), .va (.int y), .va (.int w)], cs⟩ = .ok .nx ⟨[s0, s1, .ow (.lst ((ol (qs1 q p (x, y, w)).1).map oT)), .ow (.lst (bl (qs1 q p (x, y, w)).1)), .ow (.lst (iL (qs1 q p (x, y, w)).2)), .va (.int p), .va (.int x), .va (.int y), .va (.int w)], cs⟩ := by
  have e1 := nl_get (c := q.1) hx
  have e2 := nl_get (c := q.1) hy
  have l1 : y < ((ol q.1).map oT).length := by simp [ol_len, hy]
  have l2 : y < (bl q.1).length := by simp [bl, hy]
  have l3 : (iL q.2).length < sz := by simpa [iL] using hl
  unfold fb_clash_of_0
  by_cases hc : q.1.n x + w < q.1.n y
  · have o1 : ol (qs1 q p (x, y, w)).1 = (ol q.1).set y (some (q.1.n x + w)) := by
      simp only [qs1]
      rw [ol_step (a := (x, y, w)) ⟨hx, hy⟩, rl, ol_get hx, ol_get hy]
      dsimp only
      rw [if_pos hc]
    have o2 : bl (qs1 q p (x, y, w)).1 = (bl q.1).set y (.int p) := by
      unfold bl
      rw [set_map9 hy]
      simp only [qs1, BF.cs1]
      rw [if_pos hc]
      apply List.map_congr_left
      intro i _
      dsimp only
      split <;> rfl
    have o3 : iL (qs1 q p (x, y, w)).2 = iL q.2 ++ [.int y] := by
      simp [qs1, hc, iL]
    rw [o1, o2, o3, List.map_set]
    simp [ixT_at e1, ixT_at e2, opAdd, opLt_int, hc, mTpd, tks, tk, hsC, hsN, hFz, gSb, plOf, sbT_at l1, sbT_at l2, putP, mMt, appF, l3, oT]
  · have g : qs1 q p (x, y, w) = (⟨q.1.n, q.1.b, q.1.u, q.1.t + 1⟩, q.2) := by
      simp [qs1, BF.cs1, hc]
    have o1 : ol (qs1 q p (x, y, w)).1 = ol q.1 := by rw [g]; rfl
    have o2 : bl (qs1 q p (x, y, w)).1 = bl q.1 := by rw [g]; rfl
    have o3 : (qs1 q p (x, y, w)).2 = q.2 := by rw [g]
    rw [o1, o2, o3]
    simp [ixT_at e1, ixT_at e2, opAdd, opLt_int, hc]
theorem enF_get : ∀ {ts : List T} {k i : Nat} {t : T}, (enF k ts)[i]? = some t → ∃ u, ts[i]? = some u ∧ t = .tup [.int ((k + i : Nat) : Int), u]
  | [], k, i, t, h => by rw [enF] at h; simp at h
  | a :: ts, k, 0, t, h => by rw [enF] at h; exact ⟨a, rfl, (Option.some.inj (by simpa using h)).symm⟩
  | a :: ts, k, i + 1, t, h => by
    rw [enF] at h
    obtain ⟨u, h1, h2⟩ := enF_get (ts := ts) (k := k + 1) (i := i) (t := t) (by simpa using h)
    exact ⟨u, by simpa using h1, by rw [h2]; congr 4; omega⟩
theorem clash_round {A : List Arc} {S : T} {c : BF.C9} {s1 s5 s6 s7 s8 : Sl} {cs : List T} (hS : IsSq S (A.map aT)) (hA : Arcs A) (hm : A.length ≤ 40) :
    ∃ s5' s6' s7' s8', fo_clash_of_0 ⟨[.va S, s1, .ow (.lst ((ol c).map oT)), .ow (.lst (bl c)), .ow (.lst []), s5, s6, s7, s8], cs⟩ = .ok .nx ⟨[.va S, s1, .ow (.lst ((ol (qr A A.length (c, [])).1).map oT)), .ow (.lst (bl (qr A A.length (c, [])).1)), .ow (.lst (iL (qr A A.length (c, [])).2)), s5', s6', s7', s8'], cs⟩ := by
  have hf : ∃ e', fo_clash_of_0 ⟨[.va S, s1, .ow (.lst ((ol c).map oT)), .ow (.lst (bl c)), .ow (.lst []), s5, s6, s7, s8], cs⟩ = .ok .nx e' ∧ ∃ s5 s6 s7 s8, e' = ⟨[.va S, s1, .ow (.lst ((ol (qr A A.length (c, [])).1).map oT)), .ow (.lst (bl (qr A A.length (c, [])).1)), .ow (.lst (iL (qr A A.length (c, [])).2)), s5, s6, s7, s8], cs⟩ := by
    unfold fo_clash_of_0
    rw [mFor_of (w := ⟨none, enF 0 (A.map aT)⟩) (e1 := ⟨[.va S, s1, .ow (.lst ((ol c).map oT)), .ow (.lst (bl c)), .ow (.lst []), s5, s6, s7, s8], cs⟩) (by simp [mEn, itOf_sq hS])]
    obtain ⟨e', h1, h2⟩ := forGo_ind (f := gTp 2 (gsC (gNm 5) (gsC (gTp 3 (gsC (gNm 6) (gsC (gNm 7) (gsC (gNm 8) gsN)))) gsN))) (m := fb_clash_of_0) (ts := enF 0 (A.map aT)) (P := fun i e => ∃ s5 s6 s7 s8, e = ⟨[.va S, s1, .ow (.lst ((ol (qr A i (c, [])).1).map oT)), .ow (.lst (bl (qr A i (c, [])).1)), .ow (.lst (iL (qr A i (c, [])).2)), s5, s6, s7, s8], cs⟩)
      (e := ⟨[.va S, s1, .ow (.lst ((ol c).map oT)), .ow (.lst (bl c)), .ow (.lst []), s5, s6, s7, s8], cs⟩) ⟨s5, s6, s7, s8, rfl⟩ fun i t e ht ⟨s5, s6, s7, s8, he⟩ => by
        obtain ⟨u, hu, rfl⟩ := enF_get ht
        obtain ⟨a, ha, rfl⟩ := map_at hu
        obtain ⟨x, y, w⟩ := a
        subst he
        have hb := hA _ (List.mem_of_getElem? ha)
        have hi : i < A.length := (List.getElem?_eq_some_iff.mp ha).1
        have hl := (qr_ch hA (c := c) (i := i)).2
        rw [Nat.zero_add]
        refine ⟨_, _, rfl, clash_body hb.1 hb.2 (Nat.lt_of_le_of_lt hl (Nat.lt_of_lt_of_le (by omega : i < 40) (by decide))), .va (.int i), .va (.int x), .va (.int y), .va (.int w), ?_⟩
        rw [qr, ha]
    refine ⟨e', h1, ?_⟩
    rw [enF_len, List.length_map] at h2
    exact h2
  obtain ⟨e', h1, a, b, c', d, rfl⟩ := hf
  exact ⟨a, b, c', d, h1⟩
end LAW
-- B12
namespace LAW
open PySem PL
def bk (c : BF.C9) (v : Nat) : Nat := (c.b v).getD 0
theorem bk_of {A : List Arc} {r i : Nat} {c : BF.C9} (h : BF.Iv A r i c) (hA : Arcs A) {v : Nat} (hv : 1 ≤ c.u v) : v < 9 ∧ c.b v = some (bk c v) ∧ ∃ a, A[bk c v]? = some a ∧ a.2.1 = v ∧ BF.pre A c.b v = a.1 ∧ BF.wt A c.b v = a.2.2 := by
  obtain ⟨p, a, h1, h2, h3, h4, h5, _⟩ := BF.pre_of h hv
  have e : bk c v = p := by unfold bk; rw [h1]; rfl
  rw [e]
  exact ⟨(BF.lt9 h hA hv).1, h1, a, h2, h3, h4, h5⟩
theorem sq_ix {S : T} {A : List Arc} {p : Nat} {a : Arc} (hS : IsSq S (A.map aT)) (ha : A[p]? = some a) : ixT S (.int p) = some (.sm (aT a)) := by
  have e : (A.map aT)[p]? = some (aT a) := by rw [List.getElem?_map, ha]; rfl
  rcases hS with rfl | rfl
  · exact (ixT_at e).1
  · exact (ixT_at e).2
theorem sq_pk {S : T} {ts : List T} (hS : IsSq S ts) (k : Nat) : S ≠ .cel k := by
  rcases hS with rfl | rfl <;> exact fun h => by cases h
theorem pk_aT {e : Ev} {a : Arc} : pk e (.va (aT a)) = some (aT a) := rfl
theorem aT_0 {a : Arc} : ixT (aT a) (.int 0) = some (.sm (.int a.1)) := by simp [aT, ixT, L2.atI, L2.ixN]
theorem aT_1 {a : Arc} : ixT (aT a) (.int 1) = some (.sm (.int a.2.1)) := by simp [aT, ixT, L2.atI, L2.ixN]
theorem aT_2 {a : Arc} : ixT (aT a) (.int 2) = some (.sm (.int a.2.2)) := by simp [aT, ixT, L2.atI, L2.ixN]
/-- the ring's arcs, the last first -/
def rps (c : BF.C9) (f : Nat → Nat) (z n : Nat) : List Nat := (List.range n).map fun k => bk c (BF.it f k z)
theorem rps_len {c : BF.C9} {f : Nat → Nat} {z n : Nat} : (rps c f z n).length = n := by simp [rps]
theorem back_while {A : List Arc} {c : BF.C9} {S : T} {z L : Nat} {s3 : Sl} {cs : List T} (hS : IsSq S (A.map aT))
    (up : ∀ k, BF.it (BF.pre A c.b) k z < 9 ∧ c.b (BF.it (BF.pre A c.b) k z) = some (bk c (BF.it (BF.pre A c.b) k z)) ∧ ∃ a, A[bk c (BF.it (BF.pre A c.b) k z)]? = some a ∧ a.2.1 = BF.it (BF.pre A c.b) k z ∧ BF.pre A c.b (BF.it (BF.pre A c.b) k z) = a.1 ∧ BF.wt A c.b (BF.it (BF.pre A c.b) k z) = a.2.2)
    (h9 : L ≤ 9) (hz : BF.it (BF.pre A c.b) L z = z) (hmin : ∀ k, 1 ≤ k → k < L → BF.it (BF.pre A c.b) k z ≠ z) : ∀ m k, k + 1 + m = L →
    whGo wt_round_back_0 wb_round_back_0 (m + 1) ⟨[.va S, .va (.lst (bl c)), .va (.int z), s3, .ow (.lst (iL (rps c (BF.pre A c.b) z (k + 1)))), .va (.int (BF.it (BF.pre A c.b) (k + 1) z))], cs⟩ = .ok .nx ⟨[.va S, .va (.lst (bl c)), .va (.int z), s3, .ow (.lst (iL (rps c (BF.pre A c.b) z L))), .va (.int z)], cs⟩
  | 0, k, h => by
    have e : k + 1 = L := h
    rw [e, hz, whGo]
    have : wt_round_back_0 ⟨[.va S, .va (.lst (bl c)), .va (.int z), s3, .ow (.lst (iL (rps c (BF.pre A c.b) z L))), .va (.int z)], cs⟩ = .ok false ⟨[.va S, .va (.lst (bl c)), .va (.int z), s3, .ow (.lst (iL (rps c (BF.pre A c.b) z L))), .va (.int z)], cs⟩ := by
      simp [wt_round_back_0, opNe_int]
    dsimp only
    rw [this]
  | m + 1, k, h => by
    have hne := hmin (k + 1) (by omega) (by omega)
    obtain ⟨u1, u2, a, u3, u4, u5, u6⟩ := up (k + 1)
    have hb := bl_get (c := c) u1
    rw [u2] at hb
    have hn : BF.it (BF.pre A c.b) (k + 1 + 1) z = a.1 := by rw [BF.it_succ, u5]
    have hr : iL (rps c (BF.pre A c.b) z (k + 1 + 1)) = iL (rps c (BF.pre A c.b) z (k + 1)) ++ [.int (bk c (BF.it (BF.pre A c.b) (k + 1) z))] := by
      unfold iL rps
      rw [List.range_succ]
      simp
    have hl : (iL (rps c (BF.pre A c.b) z (k + 1))).length < sz := by
      rw [iL, List.length_map, rps_len]
      exact Nat.lt_of_lt_of_le (by omega : k + 1 < 10) (by decide)
    have ht : wt_round_back_0 ⟨[.va S, .va (.lst (bl c)), .va (.int z), s3, .ow (.lst (iL (rps c (BF.pre A c.b) z (k + 1)))), .va (.int (BF.it (BF.pre A c.b) (k + 1) z))], cs⟩ = .ok true ⟨[.va S, .va (.lst (bl c)), .va (.int z), s3, .ow (.lst (iL (rps c (BF.pre A c.b) z (k + 1)))), .va (.int (BF.it (BF.pre A c.b) (k + 1) z))], cs⟩ := by
      have : ((BF.it (BF.pre A c.b) (k + 1) z : Nat) : Int) ≠ (z : Nat) := by omega
      simp [wt_round_back_0, opNe_int]
      omega
    have hw : wb_round_back_0 ⟨[.va S, .va (.lst (bl c)), .va (.int z), s3, .ow (.lst (iL (rps c (BF.pre A c.b) z (k + 1)))), .va (.int (BF.it (BF.pre A c.b) (k + 1) z))], cs⟩ = .ok .nx ⟨[.va S, .va (.lst (bl c)), .va (.int z), s3, .ow (.lst (iL (rps c (BF.pre A c.b) z (k + 1 + 1)))), .va (.int (BF.it (BF.pre A c.b) (k + 1 + 1) z))], cs⟩ := by
      rw [hn, hr]
      simp [wb_round_back_0, mMt, appF, plOf, putP, ixT_at hb, bT, hl, sq_ix hS u3, aT_0, pk_aT, pk_va' (sq_pk hS)]
    rw [whGo]
    dsimp only
    rw [ht]
    dsimp only
    rw [hw]
    dsimp only
    exact back_while hS up h9 hz hmin m (k + 1) (by omega)
theorem back_ok {A : List Arc} {r i : Nat} {c : BF.C9} (h : BF.Iv A r i c) (hA : Arcs A) {v : Nat} (hv : 8 * A.length + 1 ≤ c.u v) : ∃ z L, 1 ≤ L ∧ L ≤ 9 ∧ BF.it (BF.pre A c.b) L z = z ∧ (∀ k, 1 ≤ c.u (BF.it (BF.pre A c.b) k z)) ∧ BF.sumW A c.b z L < 0 ∧
    ∀ S cs, IsSq S (A.map aT) → F_round_back [S, .lst (bl c), .int v] cs = .ok (.va (.tup (iL (rps c (BF.pre A c.b) z L)).reverse)) cs := by
  obtain ⟨L, hL1, hL9, hcy, hmin, hup, hsum⟩ := BF.ring h hA hv
  refine ⟨_, L, hL1, hL9, hcy, hup, hsum, fun S cs hS => ?_⟩
  have hf : ∃ e', fo_round_back_0 ⟨[.va S, .va (.lst (bl c)), .va (.int v), .un, .un, .un], cs⟩ = .ok .nx e' ∧ ∃ s3, e' = ⟨[.va S, .va (.lst (bl c)), .va (.int (BF.it (BF.pre A c.b) 9 v)), s3, .un, .un], cs⟩ := by
    unfold fo_round_back_0
    rw [mFor_of (w := ⟨none, rgT 0 9⟩) (e1 := ⟨[.va S, .va (.lst (bl c)), .va (.int v), .un, .un, .un], cs⟩) (by simp [mRg1, rg1_9])]
    obtain ⟨e', h1, h2⟩ := forGo_ind (f := gNm 3) (m := fb_round_back_0) (ts := rgT 0 9) (P := fun i e => ∃ s3, e = ⟨[.va S, .va (.lst (bl c)), .va (.int (BF.it (BF.pre A c.b) i v)), s3, .un, .un], cs⟩)
      (e := ⟨[.va S, .va (.lst (bl c)), .va (.int v), .un, .un, .un], cs⟩) ⟨.un, rfl⟩ fun i t e ht ⟨s3, he⟩ => by
        obtain ⟨hi, rfl⟩ := rgT_get ht
        subst he
        have hc := BF.chain h hv i (by omega)
        obtain ⟨u1, u2, a, u3, u4, u5, u6⟩ := bk_of h hA (v := BF.it (BF.pre A c.b) i v) (by omega)
        have hb := bl_get (c := c) u1
        rw [u2] at hb
        refine ⟨_, ⟨[.va S, .va (.lst (bl c)), .va (.int (BF.it (BF.pre A c.b) (i + 1) v)), .va (.int (0 + (i : Nat))), .un, .un], cs⟩, rfl, ?_, _, rfl⟩
        rw [BF.it_succ, u5]
        simp [fb_round_back_0, ixT_at hb, bT, sq_ix hS u3, aT_0, pk_aT, pk_va' (sq_pk hS)]
    refine ⟨e', h1, ?_⟩
    rw [rgT_len] at h2
    exact h2
  obtain ⟨e', h1, s3, rfl⟩ := hf
  have up := fun k => bk_of h hA (hup k)
  generalize hz : BF.it (BF.pre A c.b) 9 v = z at *
  obtain ⟨m, hm⟩ : ∃ m, 0 + 1 + m = L := ⟨L - 1, by omega⟩
  have hw := mWh_of (back_while (s3 := s3) (cs := cs) hS up hL9 hcy hmin m 0 hm) (by simp)
  obtain ⟨u1, u2, a, u3, u4, u5, u6⟩ := up 0
  rw [show BF.it (BF.pre A c.b) 0 z = z from rfl] at u1 u2 u3 u4 u5 u6
  have hb := bl_get (c := c) u1
  rw [u2] at hb
  have e1 : BF.it (BF.pre A c.b) (0 + 1) z = a.1 := by rw [BF.it_succ]; exact u5
  have e0 : iL (rps c (BF.pre A c.b) z (0 + 1)) = [.int (bk c z)] := rfl
  rw [e1, e0] at hw
  simp [F_round_back, m_round_back, fnM, h1, mTpd, tks, tk, hsC, hNm, hsN, ixT_at hb, bT, sq_ix hS u3, aT_0, pk_aT, pk_va' (sq_pk hS), wh_round_back_0, hw, mRev, tupleF, (by decide : 1 ≤ sz)]
end LAW
-- B13
namespace LAW
open PySem PL
theorem isDs_iL : ∀ (ch : List Nat) (n : Nat), isDs (iL ch) n = true
  | [], n => isDs_nil
  | v :: ch, n => by rw [iL, List.map_cons, isDs_cons, show isDs (List.map (fun v : Nat => T.int (v : Int)) ch) n = true from isDs_iL ch n]; rfl
theorem mul9 {t : T} : opMul (.lst [t]) (.int 9) = some (.ls [t, t, t, t, t, t, t, t, t]) := by
  unfold opMul
  dsimp only
  rw [if_pos ⟨by decide, by decide, (show 1 * Int.toNat 9 ≤ sz by decide)⟩]
  rfl
theorem clash_turn {A : List Arc} {S : T} {r : Nat} {s1 s4 s5 s6 s7 s8 : Sl} {cs : List T} (hS : IsSq S (A.map aT)) (hA : Arcs A) (hm : A.length ≤ 40) :
    ∃ s5' s6' s7' s8', fb_clash_of_1 ⟨[.va S, s1, .ow (.lst ((ol (qR A r).1).map oT)), .ow (.lst (bl (qR A r).1)), s4, s5, s6, s7, s8], cs⟩ =
      (if (qR A (r + 1)).2 = [] then .ok (.rt (.va .non)) ⟨[.va S, s1, .ow (.lst ((ol (qR A (r + 1)).1).map oT)), .ow (.lst (bl (qR A (r + 1)).1)), .ow (.lst (iL (qR A (r + 1)).2)), s5', s6', s7', s8'], cs⟩ else
        .ok .nx ⟨[.va S, s1, .ow (.lst ((ol (qR A (r + 1)).1).map oT)), .ow (.lst (bl (qR A (r + 1)).1)), .ow (.lst (iL (qR A (r + 1)).2)), s5', s6', s7', s8'], cs⟩) := by
  obtain ⟨a, b, c', d, h⟩ := clash_round (c := (qR A r).1) (s1 := s1) (s5 := s5) (s6 := s6) (s7 := s7) (s8 := s8) (cs := cs) hS hA hm
  rw [show qr A A.length ((qR A r).1, []) = qR A (r + 1) from rfl] at h
  refine ⟨a, b, c', d, ?_⟩
  have e := opEq_nil (isDs_iL (qR A (r + 1)).2 59)
  have z : iL (qR A (r + 1)).2 = [] ↔ (qR A (r + 1)).2 = [] := by simp [iL]
  by_cases hc : (qR A (r + 1)).2 = []
  · rw [if_pos hc]
    rw [decide_eq_true (z.mpr hc)] at e
    simp [fb_clash_of_1, h, e, (by decide : 0 ≤ sz)]
  · rw [if_neg hc]
    rw [decide_eq_false (fun y => hc (z.mp y))] at e
    simp [fb_clash_of_1, h, e, (by decide : 0 ≤ sz)]
theorem qR_ch {A : List Arc} (hA : Arcs A) {r : Nat} : (qR A (r + 1)).2 = [] ↔ rnds A (r + 1) Z9 = rnds A r Z9 := by
  have z := (qr_ch hA (c := (qR A r).1) (i := A.length)).1
  rw [List.take_length, qR_ol hA] at z
  rw [rnds_succ]
  exact z
theorem rnds_stay {A : List Arc} {L : List (Option Int)} {k : Nat} (h : rnds A (k + 1) L = rnds A k L) : ∀ d, rnds A (k + d) L = rnds A k L
  | 0 => rfl
  | d + 1 => by rw [← Nat.add_assoc, rnds_succ, rnds_stay h d, ← rnds_succ, h]
def CSt (A : List Arc) (S : T) (cs : List T) (i : Nat) (e : Ev) : Prop := ∃ s1 s4 s5 s6 s7 s8, e = ⟨[.va S, s1, .ow (.lst ((ol (qR A i).1).map oT)), .ow (.lst (bl (qR A i).1)), s4, s5, s6, s7, s8], cs⟩ ∧ (∀ k, i = k + 1 → s4 = .ow (.lst (iL (qR A i).2))) ∧ ∀ k, k < i → rnds A (k + 1) Z9 ≠ rnds A k Z9
theorem clash_for {A : List Arc} {S : T} {cs : List T} {e : Ev} (hS : IsSq S (A.map aT)) (hA : Arcs A) (hm : A.length ≤ 40) (h0 : CSt A S cs 0 e) :
    (∃ e', fo_clash_of_1 e = .ok .nx e' ∧ CSt A S cs 9 e') ∨ ∃ q e', fo_clash_of_1 e = .ok (.rt q) e' ∧ q = .va .non ∧ e'.c = cs ∧ ∃ k, k < 9 ∧ rnds A (k + 1) Z9 = rnds A k Z9 := by
  unfold fo_clash_of_1
  rw [mFor_of (w := ⟨none, rgT 0 9⟩) (e1 := e) (by simp [mRg1, rg1_9])]
  have z := forGo_two (f := gNm 1) (m := fb_clash_of_1) (ts := rgT 0 9) (R := fun q e' => q = .va .non ∧ e'.c = cs ∧ ∃ k, k < 9 ∧ rnds A (k + 1) Z9 = rnds A k Z9) (P := CSt A S cs) (e := e) h0 fun i t e ht ⟨s1, s4, s5, s6, s7, s8, he, h4, hk⟩ => by
    obtain ⟨hi, rfl⟩ := rgT_get ht
    subst he
    obtain ⟨a, b, c', d, h⟩ := clash_turn (r := i) (s1 := .va (.int (0 + (i : Nat)))) (s4 := s4) (s5 := s5) (s6 := s6) (s7 := s7) (s8 := s8) (cs := cs) hS hA hm
    refine ⟨_, rfl, ?_⟩
    by_cases hc : (qR A (i + 1)).2 = []
    · rw [if_pos hc] at h
      exact .inr ⟨_, _, h, rfl, rfl, i, hi, (qR_ch hA).mp hc⟩
    · rw [if_neg hc] at h
      refine .inl ⟨_, h, _, _, _, _, _, _, rfl, fun k hk => rfl, fun k h2 => ?_⟩
      by_cases hki : k = i
      · subst hki; exact fun e => hc ((qR_ch hA).mpr e)
      · exact hk k (by omega)
  rw [rgT_len] at z
  exact z
structure Ring (A : List Arc) (ps : List Nat) : Prop where
  pos : 1 ≤ ps.length
  few : ps.length ≤ 9
  at_ : ∀ p ∈ ps, p < A.length
  adj : ∀ k p q a b, ps[(k + ps.length - 1) % ps.length]? = some p → ps[k]? = some q → A[p]? = some a → A[q]? = some b → a.2.1 = b.1
  neg : (ps.map fun p => ((A[p]?).getD (0, 0, 0)).2.2).sum < 0
theorem sumW_eq {A : List Arc} {c : BF.C9} {z : Nat} (up : ∀ k, ∃ a, A[bk c (BF.it (BF.pre A c.b) k z)]? = some a ∧ BF.wt A c.b (BF.it (BF.pre A c.b) k z) = a.2.2) : ∀ n, ((rps c (BF.pre A c.b) z n).map fun p => ((A[p]?).getD (0, 0, 0)).2.2).sum = BF.sumW A c.b z n
  | 0 => rfl
  | n + 1 => by
    obtain ⟨a, h1, h2⟩ := up n
    have ih := sumW_eq up n
    rw [BF.sumW, ← ih, h2]
    unfold rps
    rw [List.range_succ]
    simp [h1]
theorem ring_of {A : List Arc} {r i : Nat} {c : BF.C9} (h : BF.Iv A r i c) (hA : Arcs A) {z L : Nat} (h1 : 1 ≤ L) (h9 : L ≤ 9) (hcy : BF.it (BF.pre A c.b) L z = z) (hup : ∀ k, 1 ≤ c.u (BF.it (BF.pre A c.b) k z)) (hs : BF.sumW A c.b z L < 0) : Ring A (rps c (BF.pre A c.b) z L).reverse := by
  have up := fun k => bk_of h hA (hup k)
  have get : ∀ k p, (rps c (BF.pre A c.b) z L).reverse[k]? = some p → k < L ∧ p = bk c (BF.it (BF.pre A c.b) (L - 1 - k) z) := fun k p hp => by
    obtain ⟨hk, e⟩ := List.getElem?_eq_some_iff.mp hp
    rw [List.length_reverse, rps_len] at hk
    refine ⟨hk, ?_⟩
    rw [← e, List.getElem_reverse]
    simp [rps]
  have ln : (rps c (BF.pre A c.b) z L).reverse.length = L := by rw [List.length_reverse, rps_len]
  refine ⟨by rw [ln]; exact h1, by rw [ln]; exact h9, fun p hp => ?_, fun k p q a b hp hq ha hb => ?_, ?_⟩
  · obtain ⟨k, hk⟩ := List.mem_iff_getElem?.mp hp
    obtain ⟨_, rfl⟩ := get k p hk
    obtain ⟨_, _, a, h3, _⟩ := up (L - 1 - k)
    exact (List.getElem?_eq_some_iff.mp h3).1
  · rw [ln] at hp
    obtain ⟨hk, rfl⟩ := get _ _ hq
    obtain ⟨_, rfl⟩ := get _ _ hp
    obtain ⟨_, _, b', h3, h4, h5, _⟩ := up (L - 1 - k)
    rw [hb] at h3
    cases h3
    rw [← h5, show BF.pre A c.b (BF.it (BF.pre A c.b) (L - 1 - k) z) = BF.it (BF.pre A c.b) (L - 1 - k + 1) z from (BF.it_succ _ _ _).symm]
    obtain ⟨_, _, a', g3, g4, _⟩ := up (L - 1 - (k + L - 1) % L)
    rw [ha] at g3
    cases g3
    rw [g4]
    by_cases h0 : k = 0
    · subst h0
      have e1 : (0 + L - 1) % L = L - 1 := by
        rw [Nat.zero_add]
        exact Nat.mod_eq_of_lt (show L - 1 < L by omega)
      have e2 : L - 1 - 0 + 1 = L := by omega
      rw [e1, e2, hcy, Nat.sub_self]
      rfl
    · have e1 : (k + L - 1) % L = k - 1 := by
        have : k + L - 1 = (k - 1) + L := by omega
        rw [this, Nat.add_mod_right]
        exact Nat.mod_eq_of_lt (show k - 1 < L by omega)
      have e2 : L - 1 - (k - 1) = L - 1 - k + 1 := by omega
      rw [e1, e2]
  · rw [List.map_reverse, List.sum_reverse]
    rw [sumW_eq (fun k => let ⟨_, _, a, h3, _, _, h6⟩ := up k; ⟨a, h3, h6⟩)]
    exact hs
theorem clash_ok {A : List Arc} (hA : Arcs A) (hm : A.length ≤ 40) : ∃ v, (∀ S cs, IsSq S (A.map aT) → F_clash_of [S] cs = .ok (.va v) cs) ∧ ((v = .non ∧ rnds A 10 Z9 = rnds A 9 Z9) ∨ ∃ ps, v = .tup (iL ps) ∧ Ring A ps ∧ rnds A 10 Z9 ≠ rnds A 9 Z9) := by
  have st : ∀ S cs, CSt A S cs 0 ⟨[.va S, .un, .ow (.lst [.int 0, .int 0, .int 0, .int 0, .int 0, .int 0, .int 0, .int 0, .int 0]), .ow (.lst [.non, .non, .non, .non, .non, .non, .non, .non, .non]), .un, .un, .un, .un, .un], cs⟩ := fun S cs => ⟨_, _, _, _, _, _, rfl, fun k h => by omega, fun k h => by omega⟩
  by_cases hall : ∃ k, k < 9 ∧ rnds A (k + 1) Z9 = rnds A k Z9
  · obtain ⟨k, hk, e⟩ := hall
    refine ⟨.non, fun S cs hS => ?_, .inl ⟨rfl, ?_⟩⟩
    · rcases clash_for hS hA hm (st S cs) with ⟨e', _, _, _, _, _, _, _, _, _, h⟩ | ⟨q, e', h1, rfl, hc, _⟩
      · exact (h k hk e).elim
      · simp [F_clash_of, m_clash_of, fnM, mTpd, tks, tk, hsC, hNm, hsN, mul9, h1, hc, (by decide : 1 ≤ sz)]
    · have z1 := rnds_stay e (9 - k)
      have z2 := rnds_stay e (10 - k)
      rw [show k + (9 - k) = 9 by omega] at z1
      rw [show k + (10 - k) = 10 by omega] at z2
      rw [z1, z2]
  · have hne : ∀ k, k < 9 → rnds A (k + 1) Z9 ≠ rnds A k Z9 := fun k hk e => hall ⟨k, hk, e⟩
    have h9 : (qR A 9).2 ≠ [] := fun e => hne 8 (by omega) ((qR_ch hA).mp e)
    obtain ⟨v, ch, hv⟩ : ∃ v ch, (qR A 9).2 = v :: ch := by
      cases h : (qR A 9).2 with
      | nil => exact (h9 h).elim
      | cons v ch => exact ⟨v, ch, rfl⟩
    have hu := (qr_iv (qR_iv (A := A) (r := 8)) (Nat.le_refl _)).2 v (show v ∈ (qR A 9).2 by rw [hv]; exact List.mem_cons_self)
    obtain ⟨z, L, hL1, hL9, hcy, hup, hsum, hF⟩ := back_ok (qR_iv (A := A) (r := 9)) hA hu
    refine ⟨.tup (iL (rps (qR A 9).1 (BF.pre A (qR A 9).1.b) z L).reverse), fun S cs hS => ?_, .inr ⟨_, rfl, ring_of (qR_iv (A := A) (r := 9)) hA hL1 hL9 hcy hup hsum, fun e => ?_⟩⟩
    · rcases clash_for hS hA hm (st S cs) with ⟨e', h1, s1, s4, s5, s6, s7, s8, rfl, h4, _⟩ | ⟨q, e', _, _, _, k, hk, e⟩
      · have h4 := h4 8 rfl
        subst h4
        have hix : (iL (qR A 9).2)[0]? = some (.int v) := by rw [hv]; rfl
        have hx : ixT (.lst (iL (qR A 9).2)) (.int 0) = some (.sm (.int v)) := (ixT_at hix).1
        have hF := hF S cs hS
        have er : (iL (rps (qR A 9).1 (BF.pre A (qR A 9).1.b) z L)).reverse = iL (rps (qR A 9).1 (BF.pre A (qR A 9).1.b) z L).reverse := by
          rw [iL, iL, List.map_reverse]
        rw [er] at hF
        simp [F_clash_of, m_clash_of, fnM, mTpd, tks, tk, hsC, hNm, hsN, mul9, h1, hF, (by decide : 1 ≤ sz), hx]
      · exact (hne k hk e).elim
    · exact hne 8 (by omega) (early hA rfl e)
end LAW
-- B14
namespace LAW
open PySem PL
theorem whole_int {i : Int} {cs : List T} : F__law_whole [.int i] cs = .ok (.va (.bl true)) cs := by
  simp [F__law_whole, m__law_whole, fnM, kyT, kyI, tru]
theorem len_sq {S : T} {ts : List T} (hS : IsSq S ts) : lenF [S] = some (.sm (.int ts.length)) := by
  rcases hS with rfl | rfl <;> rfl
theorem ixT_last {ts : List T} {t : T} (h : ts[ts.length - 1]? = some t) : ixT (.tup ts) (.int (-1)) = some (.sm t) := by
  obtain ⟨h1, h2⟩ := List.getElem?_eq_some_iff.mp h
  have e : L2.ixN ts.length (-1) = some (ts.length - 1) := by
    unfold L2.ixN
    rw [if_neg (by omega), if_pos (by omega)]
    congr 1
    omega
  simp [ixT, L2.atI, e, h]
theorem intsOf_map : ∀ (ns : List Int), intsOf (ns.map T.int) = some ns
  | [] => rfl
  | n :: ns => by rw [List.map_cons, intsOf, intsOf_map ns]; rfl
theorem is_clash_ok {A : List Arc} {S : T} {ps : List Nat} {cs : List T} (hS : IsSq S (A.map aT)) (h : Ring A ps) : F__law_is_clash [S, .tup (iL ps)] cs = .ok (.va (.bl true)) cs := by
  have hl : (iL ps).length = ps.length := by simp [iL]
  have hget : ∀ {k p : Nat}, ps[k]? = some p → (iL ps)[k]? = some (.int p) := fun hp => by rw [iL, List.getElem?_map, hp]; rfl
  have hne : (ps.length : Int) ≠ 0 := by have := h.pos; omega
  have hz : ∀ {p : Nat}, p ∈ ps → A[p]? = some ((A[p]?).getD (0, 0, 0)) := fun hp => by
    rw [List.getElem?_eq_getElem (h.at_ _ hp)]; rfl
  have h1 : lc__law_is_clash_1 ⟨[.va S, .va (.tup (iL ps)), .un, .un], cs⟩ = .ok (.ow (.lst [])) ⟨[.va S, .va (.tup (iL ps)), .un, .un], cs⟩ := by
    unfold lc__law_is_clash_1
    refine mLc_of (w := none) (ts := iL ps) (e1 := ⟨[.va S, .va (.tup (iL ps)), .un, .un], cs⟩) (e2 := ⟨[.va S, .va (.tup (iL ps)), .un, .un], cs⟩) (by simp [mIt, itOf, itSq]) (lcGo_none fun t ht => ?_)
    obtain ⟨p, hp, rfl⟩ := List.mem_map.mp ht
    have hb := h.at_ p hp
    refine ⟨⟨[.va S, .va (.tup (iL ps)), .un, .va (.int p)], cs⟩, ⟨[.va S, .va (.tup (iL ps)), .un, .va (.int p)], cs⟩, rfl, ?_, rfl⟩
    simp [whole_int, tru, opLe_int, opLt_int, len_sq hS, pk_va' (sq_pk hS), hb]
  have h2 : ∃ e', fo__law_is_clash_0 ⟨[.va S, .va (.tup (iL ps)), .un, .un], cs⟩ = .ok .nx e' ∧ ∃ s2, e' = ⟨[.va S, .va (.tup (iL ps)), s2, .un], cs⟩ := by
    unfold fo__law_is_clash_0
    rw [mFor_of (w := ⟨none, rgT 0 ps.length⟩) (e1 := ⟨[.va S, .va (.tup (iL ps)), .un, .un], cs⟩) (by simp [mRg1, lenF, hl, rg1_len (n := ps.length) (Nat.le_trans h.few (by decide))])]
    obtain ⟨e', g1, g2⟩ := forGo_ind (f := gNm 2) (m := fb__law_is_clash_0) (ts := rgT 0 ps.length) (P := fun i e => ∃ s2, e = ⟨[.va S, .va (.tup (iL ps)), s2, .un], cs⟩) (e := ⟨[.va S, .va (.tup (iL ps)), .un, .un], cs⟩) ⟨.un, rfl⟩ fun i t e ht ⟨s2, he⟩ => by
      obtain ⟨hi, rfl⟩ := rgT_get ht
      subst he
      refine ⟨_, _, rfl, ?_, .va (.int (0 + (i : Nat))), rfl⟩
      have hj : (i + ps.length - 1) % ps.length < ps.length := Nat.mod_lt _ (by omega)
      have gp := List.getElem?_eq_getElem hj
      have gq := List.getElem?_eq_getElem hi
      generalize hp : ps[(i + ps.length - 1) % ps.length] = p at gp
      generalize hq : ps[i] = q at gq
      have hA1 := hz (List.mem_of_getElem? gp)
      have hA2 := hz (List.mem_of_getElem? gq)
      generalize (A[p]?).getD (0, 0, 0) = a at hA1
      generalize (A[q]?).getD (0, 0, 0) = b at hA2
      have hadj := h.adj i p q a b gp gq hA1 hA2
      have i1 : ixT (.tup (iL ps)) (.int ((i : Nat) : Int)) = some (.sm (.int q)) := (ixT_at (hget gq)).2
      have i2 : ixT (.tup (iL ps)) (.int ((i : Nat) - 1 : Int)) = some (.sm (.int p)) := by
        by_cases h0 : i = 0
        · subst h0
          rw [Nat.zero_add, Nat.mod_eq_of_lt (show ps.length - 1 < ps.length by omega)] at gp
          exact ixT_last (by rw [hl]; exact hget gp)
        · have e1 : i + ps.length - 1 = (i - 1) + ps.length := by omega
          rw [e1, Nat.add_mod_right, Nat.mod_eq_of_lt (show i - 1 < ps.length by omega)] at gp
          have e2 : ((i : Nat) - 1 : Int) = ((i - 1 : Nat) : Int) := by omega
          rw [e2]
          exact (ixT_at (hget gp)).2
      simp [fb__law_is_clash_0, opSub, i1, i2, pk_va' (sq_pk hS), sq_ix hS hA1, sq_ix hS hA2, pk_aT, aT_0, aT_1, opNe_int, hadj]
    exact ⟨e', g1, g2⟩
  obtain ⟨e', h2, s2, rfl⟩ := h2
  have h3 : lc__law_is_clash_0 ⟨[.va S, .va (.tup (iL ps)), s2, .un], cs⟩ = .ok (.ow (.lst ((ps.map fun p => ((A[p]?).getD (0, 0, 0)).2.2).map T.int))) ⟨[.va S, .va (.tup (iL ps)), s2, .un], cs⟩ := by
    unfold lc__law_is_clash_0
    have hm := lcGo_map (vs := [3]) (f := gNm 3) (te := mOp ixT (mOp ixT (mVar 0) (mVar 3)) (mC (.int 2))) (e := ⟨[.va S, .va (.tup (iL ps)), s2, .un], cs⟩) (v := fun t => match t with | .int p => .int ((A[p.toNat]?).getD (0, 0, 0)).2.2 | _ => .non) (ts := iL ps) (acc := []) (by rw [hl]; exact Nat.le_trans (by simpa using h.few) (by decide : 9 ≤ sz)) fun t ht => by
      obtain ⟨p, hp, rfl⟩ := List.mem_map.mp ht
      have hA1 := hz hp
      refine ⟨_, .va (.int ((A[p]?).getD (0, 0, 0)).2.2), ⟨[.va S, .va (.tup (iL ps)), s2, .va (.int p)], cs⟩, ⟨[.va S, .va (.tup (iL ps)), s2, .va (.int p)], cs⟩, rfl, ?_, by simp, rfl⟩
      simp [pk_va' (sq_pk hS), sq_ix hS hA1, pk_aT, aT_2]
    rw [mLc_of (w := none) (ts := iL ps) (e1 := ⟨[.va S, .va (.tup (iL ps)), s2, .un], cs⟩) (by simp [mIt, itOf, itSq]) hm]
    have e : [] ++ (iL ps).map (fun t => match t with | .int p => T.int ((A[p.toNat]?).getD (0, 0, 0)).2.2 | _ => .non) = (ps.map fun p => ((A[p]?).getD (0, 0, 0)).2.2).map T.int := by
      simp [iL]
    rw [e]
    rfl
  have hsum : sumF [.lst ((ps.map fun p => ((A[p]?).getD (0, 0, 0)).2.2).map T.int)] = some (.sm (.int (ps.map fun p => ((A[p]?).getD (0, 0, 0)).2.2).sum)) := by
    rw [sumF, intsOf_map]; rfl
  have hneg := h.neg
  have hpe : ps ≠ [] := fun e => by rw [e] at hne; exact hne rfl
  generalize (ps.map fun p => ((A[p]?).getD (0, 0, 0)).2.2) = W at h3 hsum hneg
  simp [F__law_is_clash, m__law_is_clash, fnM, kyT, kyI, tru, lenF, hl, opEq_int, hpe, h1, h2, h3, hsum, opLt_int, hneg]
end LAW
-- B15
namespace LAW
open PySem PL
theorem wOk_some {k : Nat} {t : T} {e : Ev} (h : e.c[k]? = some t) : wOk (some (k, t)) e = true := by
  unfold wOk
  dsimp only
  exact @decide_eq_true _ (Classical.propDecidable _) h
/-- .. of any walk -/
theorem lcGo_mapW {w : Option (Nat × T)} {vs : List Nat} {f : T → M Unit} {te : M RV} {e : Ev} {v : T → T} (hw : wOk w e = true) : ∀ {ts acc : List T}, acc.length + ts.length ≤ sz → (∀ t ∈ ts, ∃ e1 q e2 e3, f t e = .ok () e1 ∧ te e1 = .ok q e2 ∧ fz e2 q = some (v t, e3) ∧ (⟨wipS e3.r vs, e3.c⟩ : Ev) = e) → lcGo w vs f mYes te ts acc e = .ok (acc ++ ts.map v) e
  | [], acc, _, _ => by rw [lcGo]; dsimp only; rw [if_pos hw]; simp
  | t :: ts, acc, hl, h => by
    obtain ⟨e1, q, e2, e3, h1, h2, h3, h4⟩ := h t List.mem_cons_self
    rw [List.length_cons] at hl
    rw [lcGo]
    dsimp only
    rw [if_pos hw, h1]
    dsimp only [mYes]
    rw [h2]
    dsimp only
    rw [h3]
    dsimp only
    rw [if_pos (by omega), h4, lcGo_mapW hw (acc := acc ++ [v t]) (by simp; omega) fun t ht => h t (List.mem_cons_of_mem _ ht)]
    simp
def Sq (cs : List T) (S : T) (ts : List T) : Prop := IsSq S ts ∨ ∃ k, S = .cel k ∧ cs[k]? = some (.lst ts)
def Pln : T → Prop
  | .cel _ => False
  | .fn _ => False
  | .xcv _ _ _ _ _ => False
  | _ => True
theorem integer_ok {t : T} {cs : List T} (h : Pln t) : F_is_integer [t] cs = .ok (.va (.bl (match t with | .int _ => true | _ => false))) cs := by
  cases t <;> first | exact h.elim | simp [F_is_integer, m_is_integer, fnM, kyT, kyI, tru]
theorem between_ok {t : T} {lo hi : Int} {cs : List T} (h : Pln t) : F_is_between [t, .int lo, .int hi] cs = .ok (.va (.bl (match t with | .int i => decide (lo ≤ i) && decide (i ≤ hi) | _ => false))) cs := by
  cases t with
  | int i =>
    by_cases h1 : lo ≤ i <;> simp [F_is_between, m_is_between, fnM, integer_ok h, tru, opLe_int, h1]
  | cel k => exact h.elim
  | fn k => exact h.elim
  | xcv _ _ _ _ _ => exact h.elim
  | _ => simp [F_is_between, m_is_between, fnM, integer_ok h, tru]
theorem between_int {i lo hi : Int} {cs : List T} : F_is_between [.int i, .int lo, .int hi] cs = .ok (.va (.bl (decide (lo ≤ i) && decide (i ≤ hi)))) cs := between_ok (t := .int i) trivial
theorem between_non {lo hi : Int} {cs : List T} : F_is_between [.non, .int lo, .int hi] cs = .ok (.va (.bl false)) cs := between_ok (t := .non) trivial
theorem between_bl {b : Bool} {lo hi : Int} {cs : List T} : F_is_between [.bl b, .int lo, .int hi] cs = .ok (.va (.bl false)) cs := between_ok (t := .bl b) trivial
theorem between_str {b : Str} {lo hi : Int} {cs : List T} : F_is_between [.str b, .int lo, .int hi] cs = .ok (.va (.bl false)) cs := between_ok (t := .str b) trivial
theorem ask_ok {a : Arc} {cs : List T} (ha : a.1 < 9 ∧ a.2.1 < 9) (hw : -1000 ≤ a.2.2 ∧ a.2.2 ≤ 1000) : F_is_ask [aT a] cs = .ok (.va (.bl true)) cs := by
  have h1 : (0 : Int) ≤ (a.1 : Int) ∧ (a.1 : Int) ≤ 8 := by omega
  have h2 : (0 : Int) ≤ (a.2.1 : Int) ∧ (a.2.1 : Int) ≤ 8 := by omega
  have hp : ∀ e : Ev, pk e (.va (aT a)) = some (aT a) := fun e => rfl
  have hk : kyT (aT a) = some .tup := rfl
  have hl : lenF [aT a] = some (.sm (.int 3)) := rfl
  simp [F_is_ask, m_is_ask, fnM, hp, hk, kyI, hl, tru, aT_0, aT_1, aT_2, between_int, between_non, between_bl, between_str, opNe_int, opSub, hw, h1, h2]
def nums : List T := [.non, .tup [.int 0, .int 1]]
def bads : List T := [.non, .tup [.int 0, .int 1], .tup [.int 0, .int 1, .int 2, .int 3], .lst [.int 0, .int 1, .int 2], .tup [.int 9, .int 0, .int 1], .tup [.int 0, .int (-1), .int 1], .tup [.int 0, .int 1, .int 1001], .tup [.int 0, .int 1, .int (-1001)], .tup [.int 0, .int 1, .non],
  .tup [.bl true, .int 1, .int 0], .tup [.int 0, .int 1, .bl true], .tup [.str (Str.ofString "0"), .int 1, .int 0], .int 5]
theorem bad_ok : ∀ t ∈ bads, ∀ cs, F_is_ask [t] cs = .ok (.va (.bl false)) cs := by
  intro t ht cs
  simp only [bads, List.mem_cons, List.not_mem_nil, or_false] at ht
  rcases ht with rfl | rfl | rfl | rfl | rfl | rfl | rfl | rfl | rfl | rfl | rfl | rfl | rfl
  all_goals simp [F_is_ask, m_is_ask, fnM, kyT, kyI, lenF, tru, ixT, L2.atI, L2.ixN, between_int, between_non, between_bl, between_str, opNe_int, opSub]
end LAW
-- B16
namespace LAW
open PySem PL
noncomputable def gAsk (cs : List T) (t : T) : Bool := match F_is_ask [t] cs with
  | .ok (.va (.bl b)) _ => b
  | _ => false
theorem gAsk_of {cs : List T} {t : T} {b : Bool} (h : F_is_ask [t] cs = .ok (.va (.bl b)) cs) : gAsk cs t = b := by
  unfold gAsk; rw [h]
theorem blsOf_map {g : T → Bool} : ∀ (ts : List T), blsOf (ts.map fun t => .bl (g t)) = some (ts.map g)
  | [] => rfl
  | t :: ts => by rw [List.map_cons, blsOf, blsOf_map ts]; rfl
theorem check_lc {S : T} {ts cs : List T} (hS : Sq cs S ts) (hl : ts.length ≤ sz) (ha : ∀ t ∈ ts, ∃ b, F_is_ask [t] cs = .ok (.va (.bl b)) cs) :
    lc_check_asks_0 ⟨[.va S, .un], cs⟩ = .ok (.ow (.lst (ts.map fun t => .bl (gAsk cs t)))) ⟨[.va S, .un], cs⟩ := by
  unfold lc_check_asks_0
  have hi : ∃ w, mIt (mVar 0) ⟨[.va S, .un], cs⟩ = .ok ⟨w, ts⟩ ⟨[.va S, .un], cs⟩ ∧ wOk w ⟨[.va S, .un], cs⟩ = true := by
    rcases hS with h | ⟨k, rfl, hk⟩
    · exact ⟨none, by simp [mIt, itOf_sq h], rfl⟩
    · exact ⟨some (k, .lst ts), by simp [mIt, itOf, itSq, hk], wOk_some hk⟩
  obtain ⟨w, hi, hw⟩ := hi
  have hm := lcGo_mapW (w := w) (vs := [1]) (f := gNm 1) (te := mFn 1 F_is_ask (mCons (mVar 1) mNil)) (e := ⟨[.va S, .un], cs⟩) (v := fun t => .bl (gAsk cs t)) hw (ts := ts) (acc := []) (by simpa using hl) fun t ht => by
    obtain ⟨b, hb⟩ := ha t ht
    refine ⟨_, .va (.bl (gAsk cs t)), ⟨[.va S, .va t], cs⟩, ⟨[.va S, .va t], cs⟩, rfl, ?_, rfl, rfl⟩
    simp [hb, gAsk_of hb]
  rw [mLc_of (w := w) (ts := ts) hi hm]
  rfl
theorem list_sq {S : T} {ts cs : List T} (hS : Sq cs S ts) : F_is_list [S] cs = .ok (.va (.bl true)) cs := by
  rcases hS with (rfl | rfl) | ⟨k, rfl, hk⟩
  · simp [F_is_list, m_is_list, fnM, kyT, kyI]
  · simp [F_is_list, m_is_list, fnM, kyT, kyI]
  · simp [F_is_list, m_is_list, fnM, hk, kyT, kyI]
open Classical in
theorem check_sq {S : T} {ts cs : List T} (hS : Sq cs S ts) (hl : ts.length ≤ sz) (ha : ∀ t ∈ ts, ∃ b, F_is_ask [t] cs = .ok (.va (.bl b)) cs) :
    F_check_asks [S] cs = if ts.length > 40 ∨ ∃ t ∈ ts, F_is_ask [t] cs = .ok (.va (.bl false)) cs then .ex (Str.ofString "InvalidAsks") [(Str.ofString "given", S)] cs else .ok (.va .non) cs := by
  have h1 := check_lc hS hl ha
  have h2 := list_sq hS
  have h3 : ∃ t, pk ⟨[.va S, .un], cs⟩ (.va S) = some t ∧ lenF [t] = some (.sm (.int ts.length)) := by
    rcases hS with (rfl | rfl) | ⟨k, rfl, hk⟩
    · exact ⟨_, rfl, rfl⟩
    · exact ⟨_, rfl, rfl⟩
    · exact ⟨_, hk, rfl⟩
  obtain ⟨t0, h3, h4⟩ := h3
  have h5 : allF [.lst (ts.map fun t => .bl (gAsk cs t))] = some (.sm (.bl ((ts.map (gAsk cs)).all id))) := by
    rw [allF, blsOf_map]; rfl
  by_cases hc : ts.length > 40
  · have hc' : (ts.length : Int) > 40 := by omega
    rw [if_pos (.inl hc)]
    simp [F_check_asks, m_check_asks, fnM, h2, tru, h3, h4, opGt_int, hc', mRaise]
  · have hc' : ¬ (ts.length : Int) > 40 := by omega
    by_cases hb : ∃ t ∈ ts, F_is_ask [t] cs = .ok (.va (.bl false)) cs
    · rw [if_pos (.inr hb)]
      have h6 : (ts.map (gAsk cs)).all id = false := by
        obtain ⟨t, ht, e⟩ := hb
        rw [List.all_eq_false]
        exact ⟨gAsk cs t, List.mem_map_of_mem ht, by rw [gAsk_of e]; decide⟩
      rw [h6] at h5
      simp [F_check_asks, m_check_asks, fnM, h2, tru, h3, h4, opGt_int, hc', h1, h5, mRaise]
    · rw [if_neg (fun h => h.elim hc hb)]
      have h6 : (ts.map (gAsk cs)).all id = true := by
        rw [List.all_eq_true]
        intro b hb'
        obtain ⟨t, ht, rfl⟩ := List.mem_map.mp hb'
        obtain ⟨b, e⟩ := ha t ht
        cases b with
        | false => exact (hb ⟨t, ht, e⟩).elim
        | true => exact gAsk_of e
      rw [h6] at h5
      simp [F_check_asks, m_check_asks, fnM, h2, tru, h3, h4, opGt_int, hc', h1, h5]
/-- no list, no tuple -/
theorem check_no {v : T} {cs : List T} (h : F_is_list [v] cs = .ok (.va (.bl false)) cs) : F_check_asks [v] cs = .ex (Str.ofString "InvalidAsks") [(Str.ofString "given", v)] cs := by
  simp [F_check_asks, m_check_asks, fnM, h, tru, mRaise]
structure Good (A : List Arc) : Prop where
  arcs : Arcs A
  few : A.length ≤ 40
  w : ∀ a ∈ A, -1000 ≤ a.2.2 ∧ a.2.2 ≤ 1000
theorem check_good {A : List Arc} (hA : Good A) {S : T} {cs : List T} (hS : IsSq S (A.map aT)) : F_check_asks [S] cs = .ok (.va .non) cs := by
  have all : ∀ t ∈ A.map aT, F_is_ask [t] cs = .ok (.va (.bl true)) cs := fun t ht => by
    obtain ⟨a, h, rfl⟩ := List.mem_map.mp ht
    exact ask_ok (hA.arcs a h) (hA.w a h)
  rw [check_sq (.inl hS) (by rw [List.length_map]; exact Nat.le_trans hA.few (by decide)) fun t ht => ⟨true, all t ht⟩, if_neg]
  rintro (h | ⟨t, ht, h⟩)
  · rw [List.length_map] at h; have := hA.few; omega
  · rw [all t ht] at h; cases h
end LAW
-- B17
namespace LAW
open PySem PL
theorem Z9_T : Z9.map oT = [.int 0, .int 0, .int 0, .int 0, .int 0, .int 0, .int 0, .int 0, .int 0] := rfl
def vSettled (A : List Arc) : T := if rnds A 10 Z9 = rnds A 9 Z9 then .tup ((rnds A 9 Z9).map oT) else .non
theorem settled_ok {A : List Arc} (hA : Good A) {S : T} {cs : List T} (hS : IsSq S (A.map aT)) : F_settled [S] cs = .ok (.va (vSettled A)) cs := by
  have h1 := check_good hA (cs := cs) hS
  have h2 := eased_ok (cs := cs) hS hA.arcs (L := Z9) rfl
  rw [Z9_T] at h2
  unfold vSettled
  by_cases hc : rnds A 10 Z9 = rnds A 9 Z9
  · rw [if_pos hc] at h2 ⊢
    simp [F_settled, m_settled, fnM, h1, mul9, h2, opIs, isNonT, tupleF, (by decide : 1 ≤ sz)]
  · rw [if_neg hc] at h2 ⊢
    simp [F_settled, m_settled, fnM, h1, mul9, h2, opIs, isNonT, (by decide : 1 ≤ sz)]
theorem settled_bad {S : T} {cs : List T} {fs : List (Str × T)} {x : Str} (h : F_check_asks [S] cs = .ex x fs cs) : F_settled [S] cs = .ex x fs cs ∧ F_clash [S] cs = .ex x fs cs ∧ ∀ a b, F_surely_at_most [S, a, b] cs = .ex x fs cs := by
  refine ⟨?_, ?_, fun a b => ?_⟩
  · simp [F_settled, m_settled, fnM, h]
  · simp [F_clash, m_clash, fnM, h]
  · simp [F_surely_at_most, m_surely_at_most, fnM, h]
theorem clash_fn {A : List Arc} (hA : Good A) {S v : T} {cs : List T} (hS : IsSq S (A.map aT)) (hv : F_clash_of [S] cs = .ok (.va v) cs) : F_clash [S] cs = .ok (.va v) cs := by
  have h1 := check_good hA (cs := cs) hS
  simp [F_clash, m_clash, fnM, h1, hv]
/-- a bad index -/
theorem index_bad {A : List Arc} (hA : Good A) {S i j : T} {cs : List T} (hS : IsSq S (A.map aT)) (h : (F_is_between [i, .int 0, .int 8] cs = .ok (.va (.bl false)) cs ∧ j = i) ∨ (i = .int 0 ∧ F_is_between [j, .int 0, .int 8] cs = .ok (.va (.bl false)) cs)) :
    F_surely_at_most [S, i, j] cs = .ex (Str.ofString "InvalidIndex") [(Str.ofString "given", j)] cs := by
  have h1 := check_good hA (cs := cs) hS
  have hf : fo_surely_at_most_0 ⟨[.va S, .va i, .va j, .un, .un, .un], cs⟩ = .ex (Str.ofString "InvalidIndex") [(Str.ofString "given", j)] ⟨[.va S, .va i, .va j, .va j, .un, .un], cs⟩ := by
    unfold fo_surely_at_most_0
    rw [mFor_of (w := ⟨none, [i, j]⟩) (e1 := ⟨[.va S, .va i, .va j, .un, .un, .un], cs⟩) (by simp [mIt, itOf, itSq, (by decide : 2 ≤ sz)])]
    rcases h with ⟨h, rfl⟩ | ⟨rfl, h⟩
    · rw [forGo]
      dsimp only
      rw [if_pos wOk_none]
      dsimp only [gNm]
      have : fb_surely_at_most_0 ⟨([.va S, .va j, .va j, .un, .un, .un] : List Sl).set 3 (.va j), cs⟩ = .ex (Str.ofString "InvalidIndex") [(Str.ofString "given", j)] ⟨[.va S, .va j, .va j, .va j, .un, .un], cs⟩ := by
        simp [fb_surely_at_most_0, opSub, h, tru, mRaise]
      rw [this]
    · have h0 : F_is_between [.int 0, .int 0, .int 8] cs = .ok (.va (.bl true)) cs := between_int
      rw [forGo]
      dsimp only
      rw [if_pos wOk_none]
      dsimp only [gNm]
      have : fb_surely_at_most_0 ⟨([.va S, .va (.int 0), .va j, .un, .un, .un] : List Sl).set 3 (.va (.int 0)), cs⟩ = .ok .nx ⟨[.va S, .va (.int 0), .va j, .va (.int 0), .un, .un], cs⟩ := by
        simp [fb_surely_at_most_0, opSub, h0, tru, mRaise]
      rw [this]
      dsimp only
      rw [forGo]
      dsimp only
      rw [if_pos wOk_none]
      dsimp only [gNm]
      have : fb_surely_at_most_0 ⟨([.va S, .va (.int 0), .va j, .va (.int 0), .un, .un] : List Sl).set 3 (.va j), cs⟩ = .ex (Str.ofString "InvalidIndex") [(Str.ofString "given", j)] ⟨[.va S, .va (.int 0), .va j, .va j, .un, .un], cs⟩ := by
        simp [fb_surely_at_most_0, opSub, h, tru, mRaise]
      rw [this]
  simp [F_surely_at_most, m_surely_at_most, fnM, h1, hf]
def vSure (A : List Arc) (o p : Nat) : T := oT ((rnds A 9 (one9 o))[p]?).join
open Classical in
theorem sure_ok {A : List Arc} (hA : Good A) {S v : T} {o p : Nat} {cs : List T} (ho : o < 9) (hp : p < 9) (hS : IsSq S (A.map aT)) (hv : F_clash_of [S] cs = .ok (.va v) cs) (hd : (v = .non ∧ rnds A 10 Z9 = rnds A 9 Z9) ∨ ∃ ps, v = .tup ps) :
    F_surely_at_most [S, .int o, .int p] cs = if v = .non then .ok (.va (vSure A o p)) cs else .ex (Str.ofString "Clash") [(Str.ofString "asks", v)] cs := by
  have h1 := check_good hA (cs := cs) hS
  have bo : F_is_between [.int o, .int 0, .int 8] cs = .ok (.va (.bl true)) cs := by
    rw [between_int]; simp; omega
  have bp : F_is_between [.int p, .int 0, .int 8] cs = .ok (.va (.bl true)) cs := by
    rw [between_int]; simp; omega
  have hf : fo_surely_at_most_0 ⟨[.va S, .va (.int o), .va (.int p), .un, .un, .un], cs⟩ = .ok .nx ⟨[.va S, .va (.int o), .va (.int p), .va (.int p), .un, .un], cs⟩ := by
    unfold fo_surely_at_most_0
    rw [mFor_of (w := ⟨none, [.int o, .int p]⟩) (e1 := ⟨[.va S, .va (.int o), .va (.int p), .un, .un, .un], cs⟩) (by simp [mIt, itOf, itSq, (by decide : 2 ≤ sz)])]
    have g1 : fb_surely_at_most_0 ⟨([.va S, .va (.int o), .va (.int p), .un, .un, .un] : List Sl).set 3 (.va (.int o)), cs⟩ = .ok .nx ⟨[.va S, .va (.int o), .va (.int p), .va (.int o), .un, .un], cs⟩ := by
      simp [fb_surely_at_most_0, opSub, bo, tru, mRaise]
    have g2 : fb_surely_at_most_0 ⟨([.va S, .va (.int o), .va (.int p), .va (.int o), .un, .un] : List Sl).set 3 (.va (.int p)), cs⟩ = .ok .nx ⟨[.va S, .va (.int o), .va (.int p), .va (.int p), .un, .un], cs⟩ := by
      simp [fb_surely_at_most_0, opSub, bp, tru, mRaise]
    rw [forGo]
    dsimp only
    rw [if_pos wOk_none]
    dsimp only [gNm]
    rw [g1]
    dsimp only
    rw [forGo]
    dsimp only
    rw [if_pos wOk_none]
    dsimp only [gNm]
    rw [g2]
    dsimp only
    rw [forGo]
    rfl
  rcases hd with ⟨rfl, hr⟩ | ⟨ps, rfl⟩
  · rw [if_pos rfl]
    have hr1 := early_one hA.arcs (o := o) hr
    have he := eased_ok (cs := cs) hS hA.arcs (L := one9 o) one9_len
    rw [if_pos hr1] at he
    have hc : lc_surely_at_most_0 ⟨[.va S, .va (.int o), .va (.int p), .va (.int p), .va .non, .un], cs⟩ = .ok (.ow (.lst ((one9 o).map oT))) ⟨[.va S, .va (.int o), .va (.int p), .va (.int p), .va .non, .un], cs⟩ := by
      unfold lc_surely_at_most_0
      have hm := lcGo_map (vs := [5]) (f := gNm 5) (te := mIf (mB (mOp opEq (mVar 5) (mVar 1))) (mC (.int 0)) (mC .non)) (e := ⟨[.va S, .va (.int o), .va (.int p), .va (.int p), .va .non, .un], cs⟩) (v := fun t => match t with | .int i => oT (if i.toNat = o then some 0 else none) | _ => .non) (ts := rgT 0 9) (acc := []) (by decide) fun t ht => by
        obtain ⟨i, hi, rfl⟩ := mem_rgT ht
        rw [Int.zero_add]
        by_cases hq : i = o
        · exact ⟨_, .va (.int 0), ⟨[.va S, .va (.int o), .va (.int p), .va (.int p), .va .non, .va (.int i)], cs⟩, ⟨[.va S, .va (.int o), .va (.int p), .va (.int p), .va .non, .va (.int i)], cs⟩, rfl, by simp [opEq_int, hq], by simp [hq, oT], rfl⟩
        · have hq' : ¬ (i : Int) = o := by omega
          exact ⟨_, .va .non, ⟨[.va S, .va (.int o), .va (.int p), .va (.int p), .va .non, .va (.int i)], cs⟩, ⟨[.va S, .va (.int o), .va (.int p), .va (.int p), .va .non, .va (.int i)], cs⟩, rfl, by simp [opEq_int, hq'], by simp [hq, oT], rfl⟩
      rw [mLc_of (w := none) (ts := rgT 0 9) (e1 := ⟨[.va S, .va (.int o), .va (.int p), .va (.int p), .va .non, .un], cs⟩) (by simp [mRg1, rg1_9]) hm]
      have e : [] ++ (rgT 0 9).map (fun t => match t with | .int i => oT (if i.toNat = o then some 0 else none) | _ => .non) = (one9 o).map oT := by
        simp [rgT, one9]
      rw [e]
      rfl
    have hpl : p < (rnds A 9 (one9 o)).length := by rw [rnds_len, one9_len]; exact hp
    have hx : ixT (.lst ((rnds A 9 (one9 o)).map oT)) (.int p) = some (.sm (vSure A o p)) := by
      refine (ixT_at ?_).1
      rw [List.getElem?_map, List.getElem?_eq_getElem hpl]
      unfold vSure
      rw [List.getElem?_eq_getElem hpl]
      rfl
    simp [F_surely_at_most, m_surely_at_most, fnM, h1, hf, hv, opIsN, isNonT, hc, he, hx]
  · rw [if_neg (fun h => by cases h)]
    simp [F_surely_at_most, m_surely_at_most, fnM, h1, hf, hv, opIsN, isNonT, mRaise]
end LAW
-- B18
namespace LAW
open PySem PL
abbrev sTold : Str := Str.ofString "told"
abbrev sAsks : Str := Str.ofString "asks"
abbrev sIndex : Str := Str.ofString "index"
abbrev sClash : Str := Str.ofString "clash"
abbrev sGiven : Str := Str.ofString "given"
@[simp] theorem mFnK_eq {b n : Nat} {pm : List Nat} {F : Fn} {ms : M (List RV)} {e : Ev} : mFnK b pm n F ms e = match ms e with
    | .st => .st
    | .ok qs e => if qs.length = b ∧ pm.length = n ∧ pm.all (fun i => decide (i < b)) = true then (match fzs e qs with
      | some (ts, e1) => match F (pm.filterMap fun i => ts[i]?) e1.c with
        | .st => .st
        | .ok q c => .ok q ⟨e1.r, c⟩
        | .ex x fs c => .ex x fs ⟨e1.r, c⟩
      | none => .st) else .st
    | .ex c fs e' => .ex c fs e' := by
  unfold mFnK M.bd
  rcases ms e with _ | ⟨q, e1⟩ | ⟨c, fs, e1⟩ <;> rfl
theorem asked0 {S x y v : T} {b : Bool} {cs : List T} (h : F_settled [S] cs = .ok (.va v) cs) : F__law_asked [.int 0, .bl b, S, x, y] cs = .ok (.ow (.lst [.str sTold, v])) cs := by
  cases b <;> simp [F__law_asked, m__law_asked, fnM, mTry, opEq_int, tru, h, (by decide : 2 ≤ sz)]
theorem asked1 {S x y v : T} {b : Bool} {cs : List T} (h : F_clash [S] cs = .ok (.va v) cs) : F__law_asked [.int 1, .bl b, S, x, y] cs = .ok (.ow (.lst [.str sTold, v])) cs := by
  cases b <;> simp [F__law_asked, m__law_asked, fnM, mTry, opEq_int, tru, h, (by decide : 2 ≤ sz)]
theorem asked2 {S x y v : T} {b : Bool} {cs : List T} (h : F_surely_at_most [S, x, y] cs = .ok (.va v) cs) : F__law_asked [.int 2, .bl b, S, x, y] cs = .ok (.ow (.lst [.str sTold, v])) cs := by
  cases b <;> simp [F__law_asked, m__law_asked, fnM, mTry, opEq_int, tru, h, (by decide : 2 ≤ sz)]
theorem sb_InvalidAsks_ArrowError : (Str.ofString "InvalidAsks" == Str.ofString "ArrowError") = false := by decide +kernel
theorem sb_InvalidAsks_InvalidIndex : (Str.ofString "InvalidAsks" == Str.ofString "InvalidIndex") = false := by decide +kernel
theorem sb_InvalidAsks_Clash : (Str.ofString "InvalidAsks" == Str.ofString "Clash") = false := by decide +kernel
theorem sb_InvalidIndex_ArrowError : (Str.ofString "InvalidIndex" == Str.ofString "ArrowError") = false := by decide +kernel
theorem sb_InvalidIndex_InvalidAsks : (Str.ofString "InvalidIndex" == Str.ofString "InvalidAsks") = false := by decide +kernel
theorem sb_InvalidIndex_Clash : (Str.ofString "InvalidIndex" == Str.ofString "Clash") = false := by decide +kernel
theorem sb_Clash_ArrowError : (Str.ofString "Clash" == Str.ofString "ArrowError") = false := by decide +kernel
theorem sb_Clash_InvalidAsks : (Str.ofString "Clash" == Str.ofString "InvalidAsks") = false := by decide +kernel
theorem sb_Clash_InvalidIndex : (Str.ofString "Clash" == Str.ofString "InvalidIndex") = false := by decide +kernel
theorem askedA {S x y v : T} {w : Int} {b : Bool} {cs : List T} (hw : w = 0 ∨ w = 1 ∨ w = 2) (h : F_check_asks [S] cs = .ex (Str.ofString "InvalidAsks") [(Str.ofString "given", v)] cs) : F__law_asked [.int w, .bl b, S, x, y] cs = .ok (.ow (.lst [.str sAsks, v])) cs := by
  obtain ⟨h1, h2, h3⟩ := settled_bad h
  rcases hw with rfl | rfl | rfl <;> cases b <;>
  simp [F__law_asked, m__law_asked, fnM, mTry, opEq_int, tru, h1, h2, h3, hGo, subOf, List.lookup, sb_InvalidAsks_ArrowError, sb_InvalidAsks_InvalidIndex, sb_InvalidAsks_Clash, sb_InvalidIndex_ArrowError, sb_InvalidIndex_InvalidAsks, sb_InvalidIndex_Clash, sb_Clash_ArrowError, sb_Clash_InvalidAsks, sb_Clash_InvalidIndex, anyA, endX, mXf, tk, (by decide : 2 ≤ sz)]
theorem askedI {S x y v : T} {b : Bool} {cs : List T} (h : F_surely_at_most [S, x, y] cs = .ex (Str.ofString "InvalidIndex") [(Str.ofString "given", v)] cs) : F__law_asked [.int 2, .bl b, S, x, y] cs = .ok (.ow (.lst [.str sIndex, v])) cs := by
  cases b <;>
  simp [F__law_asked, m__law_asked, fnM, mTry, opEq_int, tru, h, hGo, subOf, List.lookup, sb_InvalidAsks_ArrowError, sb_InvalidAsks_InvalidIndex, sb_InvalidAsks_Clash, sb_InvalidIndex_ArrowError, sb_InvalidIndex_InvalidAsks, sb_InvalidIndex_Clash, sb_Clash_ArrowError, sb_Clash_InvalidAsks, sb_Clash_InvalidIndex, anyA, endX, mXf, tk, (by decide : 2 ≤ sz)]
theorem askedC {S x y v : T} {b : Bool} {cs : List T} (h : F_surely_at_most [S, x, y] cs = .ex (Str.ofString "Clash") [(Str.ofString "asks", v)] cs) : F__law_asked [.int 2, .bl b, S, x, y] cs = .ok (.ow (.lst [.str sClash, v])) cs := by
  cases b <;>
  simp [F__law_asked, m__law_asked, fnM, mTry, opEq_int, tru, h, hGo, subOf, List.lookup, sb_InvalidAsks_ArrowError, sb_InvalidAsks_InvalidIndex, sb_InvalidAsks_Clash, sb_InvalidIndex_ArrowError, sb_InvalidIndex_InvalidAsks, sb_InvalidIndex_Clash, sb_Clash_ArrowError, sb_Clash_InvalidAsks, sb_Clash_InvalidIndex, anyA, endX, mXf, tk, (by decide : 2 ≤ sz)]
end LAW
-- B19
namespace LAW
open PySem PL
def Bx (cs0 : List T) (j n : Nat) (cs : List T) : Prop := (∃ t, cs = cs0.set j t) ∧ Box cs j n
theorem Box.more {cs : List T} {j n m : Nat} (h : Box cs j n) (hm : n ≤ m) : Box cs j m := by
  obtain ⟨g, b, r, c, h1, h2, h3, h4, h5, h6⟩ := h
  exact ⟨g, b, r, c, h1, h2, h3, h4, h5, by omega⟩
theorem Bx.more {cs0 cs : List T} {j n m : Nat} (h : Bx cs0 j n cs) (hm : n ≤ m) : Bx cs0 j m cs := ⟨h.1, h.2.more hm⟩
theorem take_bx {cs0 cs : List T} {j n : Nat} {m : Int} (h : Bx cs0 j n cs) (hn : n ≤ 1000000) (h1 : 1 ≤ m) (h2 : m < 1073741824) : ∃ v cs', F__law_take [.cel j, .int m] cs = .ok (.va (.int v)) cs' ∧ 0 ≤ v ∧ v < m ∧ Bx cs0 j (n + 1) cs' := by
  obtain ⟨⟨t, rfl⟩, hb⟩ := h
  obtain ⟨v, t', e, g1, g2, g3⟩ := take_ok hb hn h1 h2
  rw [List.set_set] at e g3
  exact ⟨v, _, e, g1, g2, ⟨t', rfl⟩, g3⟩
/-- a comprehension that keeps all, with a law of its own -/
theorem lcGo_ind {vs : List Nat} {f : T → M Unit} {te : M RV} (P : List T → Ev → Prop) (N : Nat) (hN : N ≤ sz) : ∀ {ts acc : List T} {e : Ev}, acc.length + ts.length = N → P acc e → (∀ t ∈ ts, ∀ acc e, acc.length < N → P acc e → ∃ e1 q e2 u e3, f t e = .ok () e1 ∧ te e1 = .ok q e2 ∧ fz e2 q = some (u, e3) ∧ P (acc ++ [u]) ⟨wipS e3.r vs, e3.c⟩) → ∃ us e', lcGo none vs f mYes te ts acc e = .ok us e' ∧ P us e' ∧ us.length = N
  | [], acc, e, hl, hp, _ => ⟨acc, e, by rw [lcGo]; rfl, hp, by simpa using hl⟩
  | t :: ts, acc, e, hl, hp, h => by
    rw [List.length_cons] at hl
    obtain ⟨e1, q, e2, u, e3, h1, h2, h3, h4⟩ := h t List.mem_cons_self acc e (by omega) hp
    obtain ⟨us, e', g1, g2, g3⟩ := lcGo_ind P N hN (ts := ts) (acc := acc ++ [u]) (e := ⟨wipS e3.r vs, e3.c⟩) (by simp; omega) h4 fun t ht => h t (List.mem_cons_of_mem _ ht)
    refine ⟨us, e', ?_, g2, g3⟩
    rw [lcGo]
    dsimp only
    rw [if_pos wOk_none, h1]
    dsimp only [mYes]
    rw [h2]
    dsimp only
    rw [h3]
    dsimp only
    rw [if_pos (by omega), g1]
def Small (A : List Arc) : Prop := Arcs A ∧ ∀ a ∈ A, -100 ≤ a.2.2 ∧ a.2.2 ≤ 100
def PT (cs0 : List T) (j n : Nat) (acc : List T) (e : Ev) : Prop := ∃ (ws : List Int) (cs' : List T), acc = ws.map T.int ∧ (∀ w ∈ ws, (-20 : Int) ≤ w ∧ w ≤ 20) ∧ e = ⟨[.va (.cel j), .un, .un, .un, .un, .un, .un, .un, .un, .un], cs'⟩ ∧ Bx cs0 j (n + acc.length) cs'
theorem tops_ok {cs0 cs : List T} {j n : Nat} (h : Bx cs0 j n cs) (hn : n ≤ 1000) : ∃ (ws : List Int) (cs' : List T), lc__law_asks_0 ⟨[.va (.cel j), .un, .un, .un, .un, .un, .un, .un, .un, .un], cs⟩ = .ok (.ow (.lst (ws.map T.int))) ⟨[.va (.cel j), .un, .un, .un, .un, .un, .un, .un, .un, .un], cs'⟩ ∧ ws.length = 9 ∧ (∀ w ∈ ws, (-20 : Int) ≤ w ∧ w ≤ 20) ∧ Bx cs0 j (n + 9) cs' := by
  unfold lc__law_asks_0
  have hm := lcGo_ind (vs := [9]) (f := gNm 9) (te := mOp opSub (mFn 2 F__law_take (mCons (mVar 0) (mCons (mC (.int 41)) mNil))) (mC (.int 20)))
    (PT cs0 j n) 9 (by decide) (ts := rgT 0 9) (acc := []) (e := ⟨[.va (.cel j), .un, .un, .un, .un, .un, .un, .un, .un, .un], cs⟩) (by simp [rgT_len]) ⟨[], cs, rfl, fun w h => (by cases h), rfl, h⟩ fun t ht acc e hl ⟨ws, cs1, ha, hw, he, hb⟩ => by
      subst he
      obtain ⟨v, cs2, hv, v0, v1, hb2⟩ := take_bx (m := 41) hb (by omega) (by omega) (by omega)
      refine ⟨_, .va (.int (v - 20)), ⟨[.va (.cel j), .un, .un, .un, .un, .un, .un, .un, .un, .va t], cs2⟩, .int (v - 20), ⟨[.va (.cel j), .un, .un, .un, .un, .un, .un, .un, .un, .va t], cs2⟩, rfl, ?_, rfl, ws ++ [v - 20], cs2, by rw [ha]; simp, fun w h => ?_, rfl, ?_⟩
      · simp [hv, opSub]
      · rcases List.mem_append.mp h with h | h
        · exact hw w h
        · rw [List.mem_singleton.mp h]; omega
      · rw [List.length_append]; exact hb2
  obtain ⟨us, e', h1, ⟨ws, cs', ha, hw, he, hb⟩, hl⟩ := hm
  subst he
  rw [hl] at hb
  refine ⟨ws, cs', ?_, by rw [← hl, ha]; simp, hw, hb⟩
  rw [mLc_of (w := none) (ts := rgT 0 9) (e1 := ⟨[.va (.cel j), .un, .un, .un, .un, .un, .un, .un, .un, .un], cs⟩) (by simp [mRg1, rg1_9]) h1, ha]
  rfl
end LAW
-- B20
namespace LAW
open PySem PL
theorem tops_get {ws : List Int} {i : Nat} (h9 : ws.length = 9) (hi : i < 9) (hw : ∀ w ∈ ws, (-20 : Int) ≤ w ∧ w ≤ 20) : ∃ w, ixT (.lst (ws.map T.int)) (.int i) = some (.sm (.int w)) ∧ -20 ≤ w ∧ w ≤ 20 := by
  have hl : i < ws.length := by omega
  refine ⟨ws[i], (ixT_at ?_).1, hw _ (List.getElem_mem hl)⟩
  rw [List.getElem?_map, List.getElem?_eq_getElem hl]
  rfl
theorem int_nat {v m : Int} (h0 : 0 ≤ v) (h1 : v < m) : ∃ i : Nat, v = i ∧ (i : Int) < m := ⟨v.toNat, by omega, by omega⟩
theorem asks_body {cs0 cs : List T} {j n : Nat} {few way : Int} {ws : List Int} {A : List Arc} {s2 s6 s7 s8 : Sl} (hb : Bx cs0 j n cs) (hn : n ≤ 1000) (hf : 2 ≤ few ∧ few ≤ 9) (h9 : ws.length = 9) (hw : ∀ w ∈ ws, (-20 : Int) ≤ w ∧ w ≤ 20) (hA : Small A) (hl : A.length < 40) :
    ∃ cs' A' s6' s7', fb__law_asks_0 ⟨[.va (.cel j), .va (.int few), s2, .ow (.lst (ws.map T.int)), .va (.int way), .ow (.lst (A.map aT)), s6, s7, s8, .un], cs⟩ = .ok .nx ⟨[.va (.cel j), .va (.int few), s2, .ow (.lst (ws.map T.int)), .va (.int way), .ow (.lst (A'.map aT)), s6', s7', s8, .un], cs'⟩ ∧ Small A' ∧ A'.length = A.length + 1 ∧ Bx cs0 j (n + 3) cs' := by
  obtain ⟨v1, cs1, h1, a1, b1, hb1⟩ := take_bx (m := few) hb (by omega) (by omega) (by omega)
  obtain ⟨v2, cs2, h2, a2, b2, hb2⟩ := take_bx (m := few) hb1 (by omega) (by omega) (by omega)
  obtain ⟨x, rfl, hx⟩ := int_nat a1 b1
  obtain ⟨y, rfl, hy⟩ := int_nat a2 b2
  have hlz : A.length < sz := Nat.lt_of_lt_of_le hl (by decide)
  have hx9 : x < 9 := by omega
  have hy9 : y < 9 := by omega
  obtain ⟨wx, ex, cx⟩ := tops_get h9 hx9 hw
  obtain ⟨wy, ey, cy⟩ := tops_get h9 hy9 hw
  have fin : ∀ (w : Int), -100 ≤ w ∧ w ≤ 100 → Small (A ++ [(x, y, w)]) := fun w hw' => ⟨fun a ha => (List.mem_append.mp ha).elim (fun h => hA.1 a h) fun h => by rw [List.mem_singleton.mp h]; exact ⟨hx9, hy9⟩, fun a ha => (List.mem_append.mp ha).elim (fun h => hA.2 a h) fun h => by rw [List.mem_singleton.mp h]; exact hw'⟩
  by_cases hc : way < 3
  · obtain ⟨v3, cs3, h3, a3, b3, hb3⟩ := take_bx (m := 4) hb2 (by omega) (by omega) (by omega)
    refine ⟨cs3, A ++ [(x, y, wy - wx + v3)], .va (.int x), .va (.int y), ?_, fin _ (by omega), by simp, hb3⟩
    simp [fb__law_asks_0, mTpd, tks, tk, hsC, hNm, hsN, h1, h2, mMt, appF, plOf, putP, opLt_int, hc, ex, ey, opSub, opAdd, h3, hlz, (by decide : 3 ≤ sz), aT]
  · obtain ⟨v3, cs3, h3, a3, b3, hb3⟩ := take_bx (m := 9) hb2 (by omega) (by omega) (by omega)
    refine ⟨cs3, A ++ [(x, y, v3 - 3)], .va (.int x), .va (.int y), ?_, fin _ (by omega), by simp, hb3⟩
    simp [fb__law_asks_0, mTpd, tks, tk, hsC, hNm, hsN, h1, h2, mMt, appF, plOf, putP, opLt_int, hc, opSub, h3, hlz, (by decide : 3 ≤ sz), aT]
def PA (cs0 : List T) (j n : Nat) (few way : Int) (ws : List Int) (i : Nat) (e : Ev) : Prop := ∃ s2 s6 s7 s8 A cs', e = ⟨[.va (.cel j), .va (.int few), s2, .ow (.lst (ws.map T.int)), .va (.int way), .ow (.lst (A.map aT)), s6, s7, s8, .un], cs'⟩ ∧ Small A ∧ A.length = i ∧ Bx cs0 j (n + 3 * i) cs'
theorem asks_loop {cs0 cs : List T} {j n m : Nat} {few way : Int} {ws : List Int} {e : Ev} (hn : n ≤ 100) (hf : 2 ≤ few ∧ few ≤ 9) (h9 : ws.length = 9) (hw : ∀ w ∈ ws, (-20 : Int) ≤ w ∧ w ≤ 20) (hm : m ≤ 40) (h0 : PA cs0 j n few way ws 0 e) :
    ∃ e', forGo none (gNm 2) fb__law_asks_0 (rgT 0 m) e = .ok .nx e' ∧ PA cs0 j n few way ws m e' := by
  obtain ⟨e', h1, h2⟩ := forGo_ind (f := gNm 2) (m := fb__law_asks_0) (ts := rgT 0 m) (P := PA cs0 j n few way ws) h0 fun i t e ht ⟨s2, s6, s7, s8, A, cs', he, hA, hl, hb⟩ => by
    obtain ⟨hi, rfl⟩ := rgT_get ht
    subst he
    obtain ⟨cs2, A', s6', s7', g1, g2, g3, g4⟩ := asks_body (s2 := .va (.int (0 + (i : Nat)))) (s6 := s6) (s7 := s7) (s8 := s8) (way := way) hb (by omega) hf h9 hw hA (by omega)
    exact ⟨_, _, rfl, g1, _, _, _, _, A', cs2, rfl, g2, by omega, g4.more (by omega)⟩
  rw [rgT_len] at h2
  exact ⟨e', h1, h2⟩
end LAW
-- B21
namespace LAW
open PySem PL
theorem isD_aT {a : Arc} {n : Nat} : (aT a).isD (n + 1) = true := by
  simp [aT, T.isD, isDs_cons, isDs_nil]
theorem isDs_aT : ∀ (A : List Arc) (n : Nat), isDs (A.map aT) (n + 1) = true
  | [], n => isDs_nil
  | a :: A, n => by rw [List.map_cons, isDs_cons, isDs_aT A n, isD_aT]; rfl
theorem Small.good {A : List Arc} (h : Small A) (hl : A.length ≤ 40) : Good A := ⟨h.1, hl, fun a ha => by have := h.2 a ha; omega⟩
theorem set_good {A : List Arc} {q : Nat} {a : Arc} (hA : Good A) (ha : (a.1 < 9 ∧ a.2.1 < 9) ∧ -1000 ≤ a.2.2 ∧ a.2.2 ≤ 1000) : Good (A.set q a) := by
  refine ⟨fun b hb => ?_, by rw [List.length_set]; exact hA.few, fun b hb => ?_⟩ <;> rcases List.mem_or_eq_of_mem_set hb with h | rfl
  · exact hA.arcs b h
  · exact ha.1
  · exact hA.w b h
  · exact ha.2
theorem asks_fix {cs0 cs : List T} {j n : Nat} {way : Int} {A : List Arc} {s1 s2 s3 s6 s7 s8 : Sl} (hb : Bx cs0 j n cs) (hn : n ≤ 1000) (hA : Small A) (hl : A.length ≤ 40) (hne : A ≠ []) :
    ∃ cs' A' s6' s7' s8', (mSeq (mAsg (mOp ixT (mVar 5) (mFn 2 F__law_take (mCons (mVar 0) (mCons (mCall lenF (mCons (mVar 5) mNil)) mNil)))) (hFz (gTp 3 (gsC (gNm 6) (gsC (gNm 7) (gsC (gNm 8) gsN))))))
    (mSeq (mAsg (mTup (mCons (mVar 7) (mCons (mVar 6) (mCons (mOp opSub (mUn (fun i => -i) (mVar 8)) (mFn 2 F__law_take (mCons (mVar 0) (mCons (mC (.int 3)) mNil)))) mNil)))) (hFz (gSb (mVar 5) (mFn 2 F__law_take (mCons (mVar 0) (mCons (mCall lenF (mCons (mVar 5) mNil)) mNil))))))
    mNx)) ⟨[.va (.cel j), s1, s2, s3, .va (.int way), .ow (.lst (A.map aT)), s6, s7, s8, .un], cs⟩ = .ok .nx ⟨[.va (.cel j), s1, s2, s3, .va (.int way), .ow (.lst (A'.map aT)), s6', s7', s8', .un], cs'⟩ ∧ Good A' ∧ Bx cs0 j (n + 3) cs' := by
  have hpos : 0 < A.length := List.length_pos_iff.mpr hne
  obtain ⟨v1, cs1, h1, a1, b1, hb1⟩ := take_bx (m := (A.length : Int)) hb (by omega) (by omega) (by omega)
  obtain ⟨v2, cs2, h2, a2, b2, hb2⟩ := take_bx (m := 3) hb1 (by omega) (by omega) (by omega)
  obtain ⟨v3, cs3, h3, a3, b3, hb3⟩ := take_bx (m := (A.length : Int)) hb2 (by omega) (by omega) (by omega)
  obtain ⟨p, rfl, hp⟩ := int_nat a1 b1
  obtain ⟨q, rfl, hq⟩ := int_nat a3 b3
  have hpl : p < A.length := by omega
  have hql : q < (A.map aT).length := by rw [List.length_map]; omega
  obtain ⟨⟨x, y, w⟩, hA'⟩ : ∃ a, A[p] = a := ⟨_, rfl⟩
  have hm : A[p] ∈ A := List.getElem_mem hpl
  have hx : ixT (.lst (A.map aT)) (.int p) = some (.sm (aT A[p])) := (ixT_at (by rw [List.getElem?_map, List.getElem?_eq_getElem hpl]; rfl)).1
  have m1 := hA.1 _ hm
  have m2 := hA.2 _ hm
  rw [hA'] at hx m1 m2
  refine ⟨cs3, A.set q (y, x, -w - v2), .va (.int x), .va (.int y), .va (.int w), ?_, set_good (hA.good hl) ⟨⟨m1.2, m1.1⟩, by simp only at m2 ⊢; omega⟩, hb3⟩
  have e : (A.set q (y, x, -w - v2)).map aT = (A.map aT).set q (.tup [.int y, .int x, .int (-w - v2)]) := by rw [List.map_set]; rfl
  rw [e]
  have hx' : ixT (.lst (A.map aT)) (.int p) = some (.sm (.tup [.int x, .int y, .int w])) := hx
  simp [lenF, h1, hx', hFz, gTp, gsC, gNm, gsN, h2, opSub, h3, gSb, plOf, sbT_at hql, putP, (by decide : 3 ≤ sz)]
end LAW
-- B22
namespace LAW
open PySem PL
theorem rg1_40 : rg1 [.va (.int 40)] = some 40 := rg1_len (n := 40) (by decide)
theorem asks_ok {cs0 cs : List T} {j n : Nat} (hb : Bx cs0 j n cs) (hn : n ≤ 50) : ∃ A cs', F__law_asks [.cel j] cs = .ok (.ow (.lst (A.map aT))) cs' ∧ Good A ∧ Bx cs0 j (n + 200) cs' := by
  obtain ⟨ws, cs1, h1, h9, hw, hb1⟩ := tops_ok hb (by omega)
  obtain ⟨way, cs2, h2, a2, b2, hb2⟩ := take_bx (m := 4) hb1 (by omega) (by omega) (by omega)
  obtain ⟨f8, cs3, h3, a3, b3, hb3⟩ := take_bx (m := 8) hb2 (by omega) (by omega) (by omega)
  obtain ⟨g8, cs4, h4, a4, b4, hb4⟩ := take_bx (m := 8) hb3 (by omega) (by omega) (by omega)
  -- the loop
  have hr : ∃ m cs5, mRg1 (mCons (mIf (mB (mOp opEq (mFn 2 F__law_take (mCons (mVar 0) (mCons (mC (.int 8)) mNil))) (mC (.int 0)))) (mC (.int 40)) (mFn 2 F__law_take (mCons (mVar 0) (mCons (mC (.int 10)) mNil)))) mNil) ⟨[.va (.cel j), .va (.int (2 + f8)), .un, .ow (.lst (ws.map T.int)), .va (.int way), .ow (.lst []), .un, .un, .un, .un], cs3⟩ = .ok ⟨none, rgT 0 m⟩ ⟨[.va (.cel j), .va (.int (2 + f8)), .un, .ow (.lst (ws.map T.int)), .va (.int way), .ow (.lst []), .un, .un, .un, .un], cs5⟩ ∧ m ≤ 40 ∧ Bx cs0 j (n + 13) cs5 := by
    by_cases hg : g8 = 0
    · refine ⟨40, cs4, ?_, by omega, hb4.more (by omega)⟩
      simp [mRg1, h4, hg, opEq_int, rg1_40]
    · obtain ⟨g10, cs5, h5, a5, b5, hb5⟩ := take_bx (m := 10) hb4 (by omega) (by omega) (by omega)
      obtain ⟨m, rfl, hm⟩ := int_nat a5 b5
      refine ⟨m, cs5, ?_, by omega, hb5.more (by omega)⟩
      simp [mRg1, h4, hg, h5, opEq_int, rg1_len (n := m) (Nat.le_trans (show m ≤ 10 by omega) (by decide))]
  obtain ⟨m, cs5, hr, hm, hb5⟩ := hr
  obtain ⟨e', h6, s2, s6, s7, s8, A, cs6, rfl, hA, hl, hb6⟩ := asks_loop (m := m) (n := n + 13) (few := 2 + f8) (way := way) (ws := ws) (cs := cs5) (e := ⟨[.va (.cel j), .va (.int (2 + f8)), .un, .ow (.lst (ws.map T.int)), .va (.int way), .ow (.lst []), .un, .un, .un, .un], cs5⟩) (by omega) (by omega) h9 hw hm ⟨_, _, _, _, [], cs5, rfl, ⟨fun a h => (nomatch h), fun a h => (nomatch h)⟩, rfl, hb5⟩
  have hfo : fo__law_asks_0 ⟨[.va (.cel j), .va (.int (2 + f8)), .un, .ow (.lst (ws.map T.int)), .va (.int way), .ow (.lst []), .un, .un, .un, .un], cs3⟩ = .ok .nx ⟨[.va (.cel j), .va (.int (2 + f8)), s2, .ow (.lst (ws.map T.int)), .va (.int way), .ow (.lst (A.map aT)), s6, s7, s8, .un], cs6⟩ := by
    unfold fo__law_asks_0
    rw [mFor_of hr]
    exact h6
  have hgood := hA.good (by omega)
  have hnil := opNe_nil (isDs_aT A 58)
  by_cases hc : way = 1 ∧ A ≠ []
  · obtain ⟨hw1, hne⟩ := hc
    obtain ⟨cs', A', s6', s7', s8', h7, hG, hb7⟩ := asks_fix (way := way) (s1 := .va (.int (2 + f8))) (s2 := s2) (s3 := .ow (.lst (ws.map T.int))) (s6 := s6) (s7 := s7) (s8 := s8) hb6 (by omega) hA (by omega) hne
    refine ⟨A', cs', ?_, hG, hb7.more (by omega)⟩
    have hne' : A.map aT ≠ [] := fun h => hne (List.map_eq_nil_iff.mp h)
    rw [decide_eq_true hne'] at hnil
    subst hw1
    generalize hM : (mSeq (mAsg (mOp ixT (mVar 5) (mFn 2 F__law_take (mCons (mVar 0) (mCons (mCall lenF (mCons (mVar 5) mNil)) mNil)))) (hFz (gTp 3 (gsC (gNm 6) (gsC (gNm 7) (gsC (gNm 8) gsN)))))) (mSeq (mAsg (mTup (mCons (mVar 7) (mCons (mVar 6) (mCons (mOp opSub (mUn (fun i => -i) (mVar 8)) (mFn 2 F__law_take (mCons (mVar 0) (mCons (mC (.int 3)) mNil)))) mNil)))) (hFz (gSb (mVar 5) (mFn 2 F__law_take (mCons (mVar 0) (mCons (mCall lenF (mCons (mVar 5) mNil)) mNil)))))) mNx)) = M at h7
    have hun : m__law_asks = (mSeq (mTpd 3 (mCons lc__law_asks_0 (mCons (mFn 2 F__law_take (mCons (mVar 0) (mCons (mC (.int 4)) mNil))) (mCons (mLst mNil) mNil))) (hsC (hNm 3) (hsC (hNm 4) (hsC (hNm 5) hsN)))) (mSeq (mSet 1 (mOp opAdd (mC (.int 2)) (mFn 2 F__law_take (mCons (mVar 0) (mCons (mC (.int 8)) mNil))))) (mSeq fo__law_asks_0 (mSeq (mIfS (mAnd (mB (mOp opEq (mVar 4) (mC (.int 1)))) (mB (mOp opNe (mVar 5) (mLst mNil)))) M mNx) (mSeq (mRet (mVar 5)) mNx))))) := by
      rw [← hM]; rfl
    simp [F__law_asks, hun, fnM, mTpd, tks, tk, hsC, hNm, hsN, h1, h2, h3, opAdd, hfo, opEq_int, hnil, h7, (by decide : 0 ≤ sz)]
  · refine ⟨A, cs6, ?_, hgood, hb6.more (by omega)⟩
    by_cases hw1 : way = 1
    · have hA0 : A = [] := Classical.byContradiction fun h => hc ⟨hw1, h⟩
      subst hA0
      subst hw1
      simp [F__law_asks, m__law_asks, fnM, mTpd, tks, tk, hsC, hNm, hsN, h1, h2, h3, opAdd, hfo, opEq_int, (by decide : 0 ≤ sz)]
    · simp [F__law_asks, m__law_asks, fnM, mTpd, tks, tk, hsC, hNm, hsN, h1, h2, h3, opAdd, hfo, opEq_int, hw1, (by decide : 0 ≤ sz)]
end LAW
-- B23
namespace LAW
open PySem PL
theorem copy_lst {ts cs : List T} : F__law_copy [.lst ts] cs = .ok (.ow (.lst ts)) cs := by
  simp [F__law_copy, m__law_copy, fnM, kyT, kyI, tru, listF]
/-- no list, and no cell -/
def NoL : T → Prop
  | .lst _ => False
  | .scr _ => False
  | t => Pln t
theorem copy_no {t : T} {cs : List T} (h : NoL t) : F__law_copy [t] cs = .ok (.va t) cs := by
  cases t <;> first | exact h.elim | simp [F__law_copy, m__law_copy, fnM, kyT, kyI, tru]
theorem blamed_no {t : T} {cs : List T} (h : NoL t) (hk : okS 9 t) : F__law_blamed [t, t] cs = .ok (.va (.bl true)) cs := by
  have hs := same_refl 9 t hk cs
  cases t <;> first | exact h.elim | simp [F__law_blamed, m__law_blamed, fnM, kyT, kyI, tru, hs]
theorem blamed_cel {k : Nat} {ts cs : List T} (hk : cs[k]? = some (.lst ts)) (hl : ts.length < sz) (ho : ∀ t ∈ ts, okS 8 t) : F__law_blamed [.cel k, .cel k] cs = .ok (.va (.bl true)) (cs.set k (.lst (ts ++ [.int 7]))) := by
  have hlt : k < cs.length := (List.getElem?_eq_some_iff.mp hk).1
  have h1 := same_cel (d := 9) hk (Nat.le_of_lt hl) fun t ht => same_refl 8 t (ho t ht) cs
  have hk2 : (cs.set k (.lst (ts ++ [.int 7])))[k]? = some (.lst (ts ++ [.int 7])) := List.getElem?_set_self hlt
  have h2 := same_cel (d := 9) hk2 (by simp; omega) fun t ht => same_refl 8 t ((List.mem_append.mp ht).elim (ho t) fun h => by rw [List.mem_singleton.mp h]; trivial) _
  have e2 : cs[k] = .lst ts := (List.getElem?_eq_some_iff.mp hk).2
  simp [F__law_blamed, m__law_blamed, fnM, kyT, kyI, tru, h1, h2, hlt, e2, mMt, appF, plOf, putP, hl]
end LAW
-- B24
namespace LAW
open PySem PL
theorem Box.lt {cs : List T} {j n : Nat} (h : Box cs j n) : j < cs.length := by
  obtain ⟨_, _, _, _, h, _⟩ := h
  exact (List.getElem?_eq_some_iff.mp h).1
theorem Box.of {cs cs' : List T} {j n : Nat} (h : Box cs j n) (e : cs'[j]? = cs[j]?) : Box cs' j n := by
  obtain ⟨g, b, r, c, h1, h2⟩ := h
  exact ⟨g, b, r, c, by rw [e]; exact h1, h2⟩
theorem Box.app {cs : List T} {j n : Nat} {t : T} (h : Box cs j n) : Box (cs ++ [t]) j n := h.of (by rw [List.getElem?_append_left h.lt])
def exA (v : T) (cs : List T) : FR := .ex (Str.ofString "InvalidAsks") [(Str.ofString "given", v)] cs
def RowOk (r : T) : Prop := (NoL r ∧ okS 9 r ∧ ∀ cs, F_check_asks [r] cs = exA r cs) ∨ ∃ ts, r = .lst ts ∧ ts.length < sz ∧ (∀ t ∈ ts, okS 8 t) ∧ ∀ (cs : List T) (k : Nat), cs[k]? = some (.lst ts) → F_check_asks [.cel k] cs = exA (.cel k) cs
theorem ix20 {a b : T} : ixT (.lst [a, b]) (.int 0) = some (.sm a) := by simp [ixT, L2.atI, L2.ixN]
theorem ix21 {a b : T} : ixT (.lst [a, b]) (.int 1) = some (.sm b) := by simp [ixT, L2.atI, L2.ixN]
theorem sa_ : opNe (.str sAsks) (.str sAsks) = some (.sm (.bl false)) := by rw [opNe_str]; simp
theorem NoL.ne {t : T} (h : NoL t) : ∀ k, t ≠ .cel k := fun k e => by subst e; exact h.elim
theorem ref_turn {cs : List T} {j n : Nat} {w : Int} {rows : List T} {s1 s2 s3 s6 s7 s8 s9 s10 : Sl} (hb : Box cs j n) (hn : n ≤ 1000) (hw : w = 0 ∨ w = 1 ∨ w = 2) (h8 : rows.length = 8) (hr : ∀ r ∈ rows, RowOk r) :
    ∃ cs' s8' s9', fb__law_refused_right_1 ⟨[.va (.cel j), s1, s2, s3, .ow (.lst rows), .va (.int w), s6, s7, s8, s9, s10], cs⟩ = .ok .nx ⟨[.va (.cel j), s1, s2, s3, .ow (.lst rows), .va (.int w), s6, s7, s8', s9', s10], cs'⟩ ∧ Box cs' j (n + 1) := by
  obtain ⟨v, t, h1, a1, b1, hb1⟩ := take_ok (m := 8) hb (by omega) (by omega) (by omega)
  obtain ⟨p, rfl, hp⟩ := int_nat a1 b1
  have hpl : p < rows.length := by omega
  have hx : ixT (.lst rows) (.int p) = some (.sm rows[p]) := (ixT_nat hpl).1
  generalize cs.set j t = cs1 at h1 hb1
  rcases hr _ (List.getElem_mem hpl) with ⟨g1, g2, g3⟩ | ⟨ts, e, g1, g2, g3⟩
  · generalize rows[p] = r at hx g1 g2 g3
    have ha := askedA (S := r) (x := .non) (y := .non) (v := r) (b := decide (w = 1)) (cs := cs1) hw (g3 cs1)
    have hc := copy_no (cs := cs1) g1
    have hl := blamed_no (cs := cs1) g1 g2
    refine ⟨cs1, .va r, .ow (.lst [.str sAsks, r]), ?_, hb1⟩
    simp [fb__law_refused_right_1, h1, hx, hc, opEq_int, ha, ix20, ix21, (by decide : 2 ≤ sz), sa_, hl, tru, pk_va' g1.ne]
  · rw [e] at hx
    have hk : (cs1 ++ [.lst ts])[cs1.length]? = some (.lst ts) := by simp
    have ha := askedA (S := .cel cs1.length) (x := .non) (y := .non) (v := .cel cs1.length) (b := decide (w = 1)) (cs := cs1 ++ [.lst ts]) hw (g3 _ _ hk)
    have hc := copy_lst (ts := ts) (cs := cs1)
    have hl := blamed_cel hk g1 g2
    refine ⟨_, .va (.cel cs1.length), .ow (.lst [.str sAsks, .cel cs1.length]), ?_, ((hb1.app (t := T.lst ts)).of (cs' := (cs1 ++ [T.lst ts]).set cs1.length (T.lst (ts ++ [T.int 7]))) ?_)⟩
    · simp [fb__law_refused_right_1, h1, hx, hc, opEq_int, ha, ix20, ix21, (by decide : 2 ≤ sz), sa_, hl, tru]
    · rw [List.getElem?_set_ne (by have := hb1.lt; omega)]
end LAW
-- B25
namespace LAW
open PySem PL
theorem cut_to {ts : List T} {p : Nat} (h : p ≤ ts.length) : slT none (some (p : Int)) (.lst ts) = some (.ls (ts.take p)) := by
  simp only [slT, cutL]
  rw [HT.sIx_nat, HT.sIx_none, Nat.min_eq_left h, Nat.sub_zero, List.drop_zero]
theorem cut_from {ts : List T} {p : Nat} (h : p ≤ ts.length) : slT (some (p : Int)) none (.lst ts) = some (.ls (ts.drop p)) := by
  simp only [slT, cutL]
  rw [HT.sIx_nat, HT.sIx_none, Nat.min_eq_left h, List.take_of_length_le (by simp)]
theorem okS_aT {a : Arc} {n : Nat} : okS (n + 1) (aT a) := by
  simp [aT, okS, (by decide : 3 ≤ sz)]
theorem okS_bad : ∀ t ∈ bads, ∀ n, okS (n + 1) t := by
  intro t ht n
  simp only [bads, List.mem_cons, List.not_mem_nil, or_false] at ht
  rcases ht with rfl | rfl | rfl | rfl | rfl | rfl | rfl | rfl | rfl | rfl | rfl | rfl | rfl
  all_goals simp [okS, (by decide : 2 ≤ sz), (by decide : 3 ≤ sz), (by decide : 4 ≤ sz), (by decide : (Str.ofString "0").length ≤ sz)]
/-- a list, or a tuple, with a bad item, or too long -/
theorem bad_sq {S : T} {ts cs : List T} (hS : Sq cs S ts) (hl : ts.length ≤ sz) (ha : ∀ t ∈ ts, ∃ b, F_is_ask [t] cs = .ok (.va (.bl b)) cs) (h : ts.length > 40 ∨ ∃ t ∈ ts, F_is_ask [t] cs = .ok (.va (.bl false)) cs) : F_check_asks [S] cs = exA S cs := by
  rw [check_sq hS hl ha, if_pos h]; rfl
theorem row_in {A : List Arc} {p : Nat} {bad : T} (hA : Good A) (hb : bad ∈ bads) : RowOk (.lst ((A.map aT).take p ++ [bad] ++ (A.map aT).drop p)) := by
  have hlen : ((A.map aT).take p ++ [bad] ++ (A.map aT).drop p).length = A.length + 1 := by
    simp; omega
  have hf := hA.few
  have mem : ∀ t ∈ (A.map aT).take p ++ [bad] ++ (A.map aT).drop p, t = bad ∨ ∃ a ∈ A, t = aT a := fun t ht => by
    rcases List.mem_append.mp ht with ht | ht
    · rcases List.mem_append.mp ht with ht | ht
      · obtain ⟨a, h, rfl⟩ := List.mem_map.mp (List.mem_of_mem_take ht)
        exact .inr ⟨a, h, rfl⟩
      · exact .inl (List.mem_singleton.mp ht)
    · obtain ⟨a, h, rfl⟩ := List.mem_map.mp (List.mem_of_mem_drop ht)
      exact .inr ⟨a, h, rfl⟩
  refine .inr ⟨_, rfl, ?_, fun t ht => ?_, fun cs k hk => bad_sq (.inr ⟨k, rfl, hk⟩) ?_ (fun t ht => ?_) (.inr ⟨bad, by simp, bad_ok bad hb cs⟩)⟩
  · rw [hlen]; exact Nat.lt_of_le_of_lt (by omega : A.length + 1 ≤ 41) (by decide)
  · rcases mem t ht with rfl | ⟨a, _, rfl⟩
    · exact okS_bad _ hb 7
    · exact okS_aT
  · rw [hlen]; exact Nat.le_trans (by omega : A.length + 1 ≤ 41) (by decide)
  · rcases mem t ht with rfl | ⟨a, h, rfl⟩
    · exact ⟨false, bad_ok _ hb cs⟩
    · exact ⟨true, ask_ok (hA.arcs a h) (hA.w a h)⟩
theorem row_no {r : T} (h : NoL r) (ho : okS 9 r) (hn : ∀ cs, F_is_list [r] cs = .ok (.va (.bl false)) cs) : RowOk r := .inl ⟨h, ho, fun cs => check_no (hn cs)⟩
theorem row_tup {bad : T} (hb : bad ∈ bads) : RowOk (.tup [bad]) := by
  refine .inl ⟨trivial, ?_, fun cs => bad_sq (.inl (.inr rfl)) (show 1 ≤ sz by decide) (fun t ht => ?_) (.inr ⟨bad, List.mem_singleton.mpr rfl, bad_ok bad hb cs⟩)⟩
  · have := okS_bad _ hb 7
    simp [okS, (by decide : 1 ≤ sz), this]
  · rw [List.mem_singleton.mp ht]; exact ⟨false, bad_ok bad hb cs⟩
theorem row_41 : RowOk (.lst (List.replicate 41 (.tup [.int 0, .int 1, .int 0]))) := by
  refine .inr ⟨_, rfl, by rw [List.length_replicate]; decide, fun t ht => ?_, fun cs k hk => bad_sq (.inr ⟨k, rfl, hk⟩) (by rw [List.length_replicate]; decide) (fun t ht => ?_) (.inl (by rw [List.length_replicate]; decide))⟩
  · rw [List.eq_of_mem_replicate ht]; exact okS_aT (a := (0, 1, 0))
  · rw [List.eq_of_mem_replicate ht]; exact ⟨true, ask_ok (a := (0, 1, 0)) (by decide) (by decide)⟩
theorem mul41 {t : T} : opMul (.lst [t]) (.int 41) = some (.ls (List.replicate 41 t)) := by
  unfold opMul
  dsimp only
  rw [if_pos ⟨by decide, by decide, (show 1 * Int.toNat 41 ≤ sz by decide)⟩]
  rfl
end LAW
-- B26
namespace LAW
open PySem PL
def plainA : List Arc := [(0, 1, 3), (1, 2, -1)]
theorem plain_good : Good plainA := ⟨by unfold Arcs; decide, by decide, by decide⟩
abbrev plainT : T := .lst [.tup [.int 0, .int 1, .int 3], .tup [.int 1, .int 2, .int (-1)]]
theorem plain_sq : IsSq plainT (plainA.map aT) := .inl rfl
def idxs : List T := [.non, .bl true, .int (-1), .int 9, .str (Str.ofString "0"), .tup [.int 0], .dcz [] []]
theorem idx_ok : ∀ t ∈ idxs, (∀ cs, F_is_between [t, .int 0, .int 8] cs = .ok (.va (.bl false)) cs) ∧ okS 7 t ∧ Pln t := by
  intro t ht
  simp only [idxs, List.mem_cons, List.not_mem_nil, or_false] at ht
  rcases ht with rfl | rfl | rfl | rfl | rfl | rfl | rfl
  · exact ⟨fun cs => between_ok (t := .non) trivial, trivial, trivial⟩
  · exact ⟨fun cs => between_ok (t := .bl true) trivial, trivial, trivial⟩
  · exact ⟨fun cs => by rw [between_int]; rfl, trivial, trivial⟩
  · exact ⟨fun cs => by rw [between_int]; rfl, trivial, trivial⟩
  · exact ⟨fun cs => between_ok (t := .str (Str.ofString "0")) trivial, by simp only [okS]; decide, trivial⟩
  · exact ⟨fun cs => between_ok (t := .tup [.int 0]) trivial, by simp [okS, (by decide : 1 ≤ sz)], trivial⟩
  · exact ⟨fun cs => between_ok (t := .dcz [] []) trivial, by simp [okS], trivial⟩
theorem idx_turn {t : T} (ht : t ∈ idxs) {s0 s1 s2 s3 s4 s5 s6 s8 s9 s10 : Sl} {cs : List T} (h6 : s6 = .va plainT ∨ s6 = .ow plainT) :
    ∃ s10', fb__law_refused_right_0 ⟨[s0, s1, s2, s3, s4, s5, s6, .va t, s8, s9, s10], cs⟩ = .ok .nx ⟨[s0, s1, s2, s3, s4, s5, .va plainT, .va t, s8, s9, s10'], cs⟩ := by
  obtain ⟨h1, h2, h3⟩ := idx_ok t ht
  have a1 := askedI (b := true) (index_bad plain_good (S := plainT) (i := t) (j := t) (cs := cs) plain_sq (.inl ⟨h1 cs, rfl⟩))
  have a2 := askedI (b := false) (index_bad plain_good (S := plainT) (i := .int 0) (j := t) (cs := cs) plain_sq (.inr ⟨rfl, h1 cs⟩))
  have hs := same_refl 9 (.lst [.lst [.str sIndex, t], .lst [.str sIndex, t]]) (by simp [okS, (by decide : 2 ≤ sz), h2, (by decide : sIndex.length ≤ sz)]) cs
  refine ⟨.va (.lst [.lst [.str sIndex, t], .lst [.str sIndex, t]]), ?_⟩
  rcases h6 with rfl | rfl <;> simp [fb__law_refused_right_0, a1, a2, (by decide : 2 ≤ sz), hs, tru]
end LAW
-- B27
namespace LAW
open PySem PL
theorem idx_for {s0 s1 s2 s3 s4 s5 s7 s8 s9 s10 : Sl} {cs : List T} : ∃ s7' s10', fo__law_refused_right_0 ⟨[s0, s1, s2, s3, s4, s5, .ow plainT, s7, s8, s9, s10], cs⟩ = .ok .nx ⟨[s0, s1, s2, s3, s4, s5, .va plainT, s7', s8, s9, s10'], cs⟩ := by
  have hf : ∃ e', fo__law_refused_right_0 ⟨[s0, s1, s2, s3, s4, s5, .ow plainT, s7, s8, s9, s10], cs⟩ = .ok .nx e' ∧ ∃ s6 s7 s10, e' = ⟨[s0, s1, s2, s3, s4, s5, s6, s7, s8, s9, s10], cs⟩ ∧ (s6 = .va plainT ∨ (s6 = .ow plainT ∧ 7 = 0)) := by
    unfold fo__law_refused_right_0
    rw [mFor_of (w := ⟨none, idxs⟩) (e1 := ⟨[s0, s1, s2, s3, s4, s5, .ow plainT, s7, s8, s9, s10], cs⟩) (by simp [mIt, itOf, itSq, idxs, (by decide : 7 ≤ sz), (by decide : 1 ≤ sz)])]
    exact forGo_ind (f := gNm 7) (m := fb__law_refused_right_0) (ts := idxs) (P := fun i e => ∃ s6 s7 s10, e = ⟨[s0, s1, s2, s3, s4, s5, s6, s7, s8, s9, s10], cs⟩ ∧ (s6 = .va plainT ∨ (s6 = .ow plainT ∧ i = 0))) ⟨_, _, _, rfl, .inr ⟨rfl, rfl⟩⟩ fun i t e ht ⟨s6, s7, s10, he, h6⟩ => by
      subst he
      obtain ⟨s10', h⟩ := idx_turn (List.mem_of_getElem? ht) (s0 := s0) (s1 := s1) (s2 := s2) (s3 := s3) (s4 := s4) (s5 := s5) (s8 := s8) (s9 := s9) (s10 := s10) (cs := cs) (h6.imp id And.left)
      exact ⟨_, _, rfl, h, _, _, _, rfl, .inl rfl⟩
  obtain ⟨e', h1, s6, s7', s10', rfl, rfl | ⟨_, h⟩⟩ := hf
  · exact ⟨_, _, h1⟩
  · omega
theorem way_for {cs : List T} {j n : Nat} {rows : List T} {s1 s2 s3 s5 s6 s7 s8 s9 s10 : Sl} (hb : Box cs j n) (hn : n ≤ 900) (h8 : rows.length = 8) (hr : ∀ r ∈ rows, RowOk r) :
    ∃ cs' s5' s8' s9', fo__law_refused_right_1 ⟨[.va (.cel j), s1, s2, s3, .ow (.lst rows), s5, s6, s7, s8, s9, s10], cs⟩ = .ok .nx ⟨[.va (.cel j), s1, s2, s3, .ow (.lst rows), s5', s6, s7, s8', s9', s10], cs'⟩ := by
  have hf : ∃ e', fo__law_refused_right_1 ⟨[.va (.cel j), s1, s2, s3, .ow (.lst rows), s5, s6, s7, s8, s9, s10], cs⟩ = .ok .nx e' ∧ ∃ cs' s5' s8' s9', e' = ⟨[.va (.cel j), s1, s2, s3, .ow (.lst rows), s5', s6, s7, s8', s9', s10], cs'⟩ ∧ Box cs' j (n + 3) := by
    unfold fo__law_refused_right_1
    rw [mFor_of (w := ⟨none, rgT 0 3⟩) (e1 := ⟨[.va (.cel j), s1, s2, s3, .ow (.lst rows), s5, s6, s7, s8, s9, s10], cs⟩) (by simp [mRg1, show rg1 [.va (.int 3)] = some 3 from rg1_len (n := 3) (by decide)])]
    obtain ⟨e', h1, h2⟩ := forGo_ind (f := gNm 5) (m := fb__law_refused_right_1) (ts := rgT 0 3) (P := fun i e => ∃ cs' s5' s8' s9', e = ⟨[.va (.cel j), s1, s2, s3, .ow (.lst rows), s5', s6, s7, s8', s9', s10], cs'⟩ ∧ Box cs' j (n + i)) (e := ⟨[.va (.cel j), s1, s2, s3, .ow (.lst rows), s5, s6, s7, s8, s9, s10], cs⟩) ⟨_, _, _, _, rfl, hb⟩ fun i t e ht ⟨cs1, s5, s8, s9, he, hb1⟩ => by
      obtain ⟨hi, rfl⟩ := rgT_get ht
      subst he
      rw [Int.zero_add]
      obtain ⟨cs2, s8', s9', g1, g2⟩ := ref_turn (w := (i : Int)) (s1 := s1) (s2 := s2) (s3 := s3) (s6 := s6) (s7 := s7) (s8 := s8) (s9 := s9) (s10 := s10) hb1 (by omega) (by omega) h8 hr
      exact ⟨_, _, rfl, g1, _, _, _, _, rfl, g2⟩
    rw [rgT_len] at h2
    exact ⟨e', h1, h2⟩
  obtain ⟨e', h1, a, b, c, d, rfl, _⟩ := hf
  exact ⟨a, b, c, d, h1⟩
end LAW
-- B28
namespace LAW
open PySem PL
theorem plain_asked {b : Bool} {o p : Nat} {v : T} {cs : List T} (ho : o < 9) (hp : p < 9) (hv : vSure plainA o p = v) : F__law_asked [.int 2, .bl b, plainT, .int o, .int p] cs = .ok (.ow (.lst [.str sTold, v])) cs := by
  obtain ⟨u, h1, h2⟩ := clash_ok plain_good.arcs plain_good.few
  have hr : rnds plainA 10 Z9 = rnds plainA 9 Z9 := by decide +kernel
  have hu : u = .non := by
    rcases h2 with ⟨h, _⟩ | ⟨_, _, _, h⟩
    · exact h
    · exact (h hr).elim
  subst hu
  have z := sure_ok plain_good (cs := cs) ho hp plain_sq (h1 plainT cs plain_sq) (.inl ⟨rfl, hr⟩)
  rw [if_pos rfl, hv] at z
  exact asked2 z
theorem refused_ok {A : List Arc} (hA : Good A) {cs : List T} {j n : Nat} (hb : Box cs j n) (hn : n ≤ 800) : ∃ cs', F__law_refused_right [.cel j, .lst (A.map aT)] cs = .ok (.va (.bl true)) cs' := by
  have hf := hA.few
  obtain ⟨v1, t1, h1, a1, b1, hb1⟩ := take_ok (m := (A.length : Int) + 1) hb (by omega) (by omega) (by omega)
  generalize cs.set j t1 = cs1 at h1 hb1
  obtain ⟨v2, t2, h2, a2, b2, hb2⟩ := take_ok (m := 13) hb1 (by omega) (by omega) (by omega)
  generalize cs1.set j t2 = cs2 at h2 hb2
  obtain ⟨p, rfl, hp⟩ := int_nat a1 b1
  obtain ⟨q, rfl, hq⟩ := int_nat a2 b2
  have hql : q < bads.length := by simp [bads]; omega
  have hx : ixT (.lst bads) (.int q) = some (.sm bads[q]) := (ixT_nat hql).1
  have hbad : bads[q] ∈ bads := List.getElem_mem hql
  generalize bads[q] = bad at hx hbad
  have hpl : p ≤ (A.map aT).length := by rw [List.length_map]; omega
  have c1 := cut_to hpl
  have c2 := cut_from hpl
  obtain ⟨W, hW⟩ : ∃ W, W = List.replicate 41 (T.tup [.int 0, .int 1, .int 0]) := ⟨_, rfl⟩
  have hmul : opMul (.lst [T.tup [.int 0, .int 1, .int 0]]) (.int 41) = some (.ls W) := by rw [hW]; exact mul41
  have hr41 : RowOk (.lst W) := by rw [hW]; exact row_41
  clear hW
  let R : List T := [.lst ((A.map aT).take p ++ [bad] ++ (A.map aT).drop p), .non, .int 5, .str sAsks, .dcz [] [], .lst W, .dcz [.inr (Str.ofString "a")] [.int 1], .tup [bad]]
  have hR : ∀ r ∈ R, RowOk r := by
    intro r hr
    simp only [R, List.mem_cons, List.not_mem_nil, or_false] at hr
    rcases hr with rfl | rfl | rfl | rfl | rfl | rfl | rfl | rfl
    · exact row_in hA hbad
    · exact row_no trivial trivial fun cs => by simp [F_is_list, m_is_list, fnM, kyT, kyI]
    · exact row_no trivial trivial fun cs => by simp [F_is_list, m_is_list, fnM, kyT, kyI]
    · exact row_no trivial (by simp only [okS]; decide) fun cs => by simp [F_is_list, m_is_list, fnM, kyT, kyI]
    · exact row_no trivial (by simp [okS]) fun cs => by simp [F_is_list, m_is_list, fnM, kyT, kyI]
    · exact hr41
    · exact row_no trivial (by simp [okS]) fun cs => by simp [F_is_list, m_is_list, fnM, kyT, kyI]
    · exact row_tup hbad
  obtain ⟨cs3, s5, s8, s9, hw⟩ := way_for (rows := R) (s1 := .va (.lst (A.map aT))) (s2 := .va (.int p)) (s3 := .va bad) (s5 := .un) (s6 := .un) (s7 := .un) (s8 := .un) (s9 := .un) (s10 := .un) hb2 (by omega) rfl hR
  obtain ⟨s7', s10', hi⟩ := idx_for (s0 := .va (.cel j)) (s1 := .va (.lst (A.map aT))) (s2 := .va (.int p)) (s3 := .va bad) (s4 := .ow (.lst R)) (s5 := s5) (s7 := .un) (s8 := s8) (s9 := s9) (s10 := .un) (cs := cs3)
  have z1 : F__law_asked [.int 2, .bl false, plainT, .int 0, .int 2] cs3 = .ok (.ow (.lst [.str sTold, .int 2])) cs3 := plain_asked (b := false) (o := 0) (p := 2) (v := .int 2) (cs := cs3) (by omega) (by omega) (congrArg oT (by decide +kernel : ((rnds plainA 9 (one9 0))[2]?).join = some 2))
  have z2 : F__law_asked [.int 2, .bl true, plainT, .int 2, .int 0] cs3 = .ok (.ow (.lst [.str sTold, .non])) cs3 := plain_asked (b := true) (o := 2) (p := 0) (v := .non) (cs := cs3) (by omega) (by omega) (congrArg oT (by decide +kernel : ((rnds plainA 9 (one9 2))[0]?).join = none))
  have y1 := same_refl 9 (.lst [.str sTold, .int 2]) (by simp [okS, (by decide : 2 ≤ sz), (by decide : sTold.length ≤ sz)]) cs3
  have y2 := same_refl 9 (.lst [.str sTold, .non]) (by simp [okS, (by decide : 2 ≤ sz), (by decide : sTold.length ≤ sz)]) cs3
  have hx : ixT (.lst bads) (.int q) = some (.sm bad) := hx
  unfold bads at hx
  have ad0 : opAdd (.int (A.length : Nat)) (.int 1) = some (.sm (.int ((A.length : Int) + 1))) := rfl
  have ad1 : opAdd (.lst ((A.map aT).take p)) (.lst [bad]) = some (.ls ((A.map aT).take p ++ [bad])) := if_pos (Nat.le_trans (by simp; omega : _ ≤ 41) (by decide))
  have ad2 : opAdd (.lst ((A.map aT).take p ++ [bad])) (.lst ((A.map aT).drop p)) = some (.ls ((A.map aT).take p ++ [bad] ++ (A.map aT).drop p)) := if_pos (Nat.le_trans (by simp; omega : _ ≤ 82) (by decide))
  simp only [R, List.append_assoc, List.cons_append, List.nil_append] at hw hi
  refine ⟨cs3, ?_⟩
  simp [F__law_refused_right, m__law_refused_right, fnM, lenF, ad0, ad1, ad2, h1, h2, hx, c1, c2, listF,  (by decide : 1 ≤ sz), (by decide : 2 ≤ sz), (by decide : 3 ≤ sz), (by decide : 4 ≤ sz), (by decide : 13 ≤ sz), (by decide : 8 ≤ sz), hmul, hw, hi, z1, z2, y1, y2, tru]
end LAW
-- B29
namespace LAW
open PySem PL
def less (A : List Arc) : Bool := decide (rnds A 10 Z9 ≠ rnds A 9 Z9)
def vRow (A : List Arc) : T := .lst ((rnds A 10 Z9).map oT)
theorem okS_oT : ∀ (L : List (Option Int)) (n : Nat), ∀ t ∈ L.map oT, okS n t := fun L n t ht => by
  obtain ⟨o, _, rfl⟩ := List.mem_map.mp ht
  cases o <;> cases n <;> trivial
theorem okS_iL : ∀ (L : List Nat) (n : Nat), ∀ t ∈ iL L, okS n t := fun L n t ht => by
  obtain ⟨o, _, rfl⟩ := List.mem_map.mp ht
  cases n <;> trivial
theorem sel_all : sel (fun _ => true) = Z9 := by decide
theorem isDs_rg : ∀ (n : Nat), isDs (rgT 0 9) (n + 1) = true := fun n => by simp [rgT, isDs_cons, isDs_nil, List.range, List.range.loop, T.isD]
theorem in_rg {i : Nat} (h : i < 9) : opIn (.int i) (.lst (rgT 0 9)) = some (.sm (.bl true)) := by
  have e : (rgT 0 9).any (fun t => eqT t (.int i)) = true := List.any_eq_true.mpr ⟨.int i, by
    unfold rgT
    exact List.mem_map.mpr ⟨i, List.mem_range.mpr h, by simp⟩, by rw [eqT_int]; simp⟩
  simp [opIn, inT, isD_int, isDs_rg 59, e]
theorem row_all {A : List Arc} {S : T} {cs : List T} (hS : IsSq S (A.map aT)) (hA : Arcs A) : F__law_row [S, .lst (rgT 0 9)] cs = .ok (.ow (.lst [vRow A, .bl (less A)])) cs := by
  have z := row_ok (cs := cs) (S0 := .lst (rgT 0 9)) (p := fun _ => true) hS hA (fun k h => by cases h) fun i hi => in_rg hi
  rw [sel_all] at z
  exact z
theorem sel_one {o : Nat} : sel (fun i => decide (i = o)) = one9 o := by
  unfold sel one9
  apply List.map_congr_left
  intro i _
  simp
theorem row_one {A : List Arc} {S : T} {o : Nat} {cs : List T} (hS : IsSq S (A.map aT)) (hA : Arcs A) : F__law_row [S, .lst [.int o]] cs = .ok (.ow (.lst [.lst ((rnds A 10 (one9 o)).map oT), .bl (decide (rnds A 10 (one9 o) ≠ rnds A 9 (one9 o)))])) cs := by
  have z := row_ok (cs := cs) (S0 := .lst [.int o]) (p := fun i => decide (i = o)) hS hA (fun k h => by cases h) fun i hi => by
    simp [opIn, inT, isD_int, isDs_cons, isDs_nil, eqT_int]
    omega
  rw [sel_one] at z
  exact z
end LAW
-- B30
namespace LAW
open PySem PL
structure Cl (A : List Arc) (v : T) : Prop where
  fn : ∀ S cs, IsSq S (A.map aT) → F_clash_of [S] cs = .ok (.va v) cs
  or_ : (v = .non ∧ less A = false) ∨ ∃ ps, v = .tup (iL ps) ∧ Ring A ps ∧ less A = true
theorem cl_ok {A : List Arc} (hA : Good A) : ∃ v, Cl A v := by
  obtain ⟨v, h1, h2⟩ := clash_ok hA.arcs hA.few
  refine ⟨v, h1, ?_⟩
  rcases h2 with ⟨h, e⟩ | ⟨ps, h, r, e⟩
  · exact .inl ⟨h, decide_eq_false (fun n => n e)⟩
  · exact .inr ⟨ps, h, r, decide_eq_true e⟩
theorem st_ : opNe (.str sTold) (.str sTold) = some (.sm (.bl false)) := by rw [opNe_str]; simp
def vDue (A : List Arc) : T := if less A then .non else .tup ((rnds A 10 Z9).map oT)
theorem due_settled {A : List Arc} : vSettled A = vDue A := by
  unfold vSettled vDue less
  by_cases h : rnds A 10 Z9 = rnds A 9 Z9
  · rw [if_pos h, decide_eq_false (fun n => n h), h]; rfl
  · rw [if_neg h, decide_eq_true h]; rfl
theorem okS_due {A : List Arc} {n : Nat} : okS (n + 1) (vDue A) := by
  unfold vDue
  split
  · trivial
  · simp only [okS]
    exact ⟨by rw [List.length_map, rnds_len]; decide, okS_oT _ n⟩
theorem same_told {v : T} {cs : List T} (h : okS 8 v) : F__law_same DEP [.lst [.str sTold, v], .lst [.str sTold, v]] cs = .ok (.va (.bl true)) cs := by
  refine same_refl 9 _ ?_ cs
  simp [okS, (by decide : 2 ≤ sz), h, (by decide : sTold.length ≤ sz)]
theorem right_turn {A : List Arc} {v : T} {b : Bool} {i : Int} {j : Nat} {s4 s7 s8 s9 s10 s11 : Sl} {cs : List T} (hA : Good A) (hc : Cl A v) :
    ∃ s7', fb__law_right_1 ⟨[.va (.cel j), .va (.lst (A.map aT)), .va (.bl b), .va (.int i), s4, .va (vRow A), .va (.bl (less A)), s7, s8, s9, s10, s11], cs⟩ =
      .ok .nx ⟨[.va (.cel j), .va (.lst (A.map aT)), .va (.bl b), .va (.int i), s4, .va (vRow A), .va (.bl (less A)), s7', .ow (.lst [.lst [.str sTold, vDue A], .lst [.str sTold, v]]), s9, s10, s11], cs⟩ := by
  have key : ∀ S, IsSq S (A.map aT) → (if i = 0 then S = .lst (A.map aT) else S = .tup (A.map aT)) → fb__law_right_1 ⟨[.va (.cel j), .va (.lst (A.map aT)), .va (.bl b), .va (.int i), s4, .va (vRow A), .va (.bl (less A)), s7, s8, s9, s10, s11], cs⟩ =
      .ok .nx ⟨[.va (.cel j), .va (.lst (A.map aT)), .va (.bl b), .va (.int i), s4, .va (vRow A), .va (.bl (less A)), .va S, .ow (.lst [.lst [.str sTold, vDue A], .lst [.str sTold, v]]), s9, s10, s11], cs⟩ := fun S hS hi => by
    have a0 := asked0 (b := b) (x := .non) (y := .non) (settled_ok hA (cs := cs) hS)
    have a1 := asked1 (b := !b) (x := .non) (y := .non) (clash_fn hA hS (hc.fn S cs hS))
    rw [due_settled] at a0
    have hs := same_told (v := vDue A) (cs := cs) okS_due
    rcases hc.or_ with ⟨rfl, hl⟩ | ⟨ps, rfl, hr, hl⟩
    · have hd : vDue A = .tup ((rnds A 10 Z9).map oT) := by unfold vDue; rw [hl]; rfl
      rw [hd] at a0 hs ⊢
      rw [hl]
      by_cases h0 : i = 0
      · rw [if_pos h0] at hi
        subst hi h0
        simp [fb__law_right_1, opEq_int, listF, a0, a1, tru, vRow, tupleF, hs, ix20, ix21, st_, opIs, isNonT, opEq_bl, (by decide : 2 ≤ sz)]
      · rw [if_neg h0] at hi
        subst hi
        simp [fb__law_right_1, opEq_int, h0, tupleF, a0, a1, tru, vRow, hs, ix20, ix21, st_, opIs, isNonT, opEq_bl, (by decide : 2 ≤ sz)]
    · have hd : vDue A = .non := by unfold vDue; rw [hl]; rfl
      have hk := is_clash_ok (cs := cs) (S := .lst (A.map aT)) (.inl rfl) hr
      rw [hd] at a0 hs ⊢
      rw [hl]
      by_cases h0 : i = 0
      · rw [if_pos h0] at hi
        subst hi h0
        simp [fb__law_right_1, opEq_int, listF, a0, a1, tru, vRow, hs, ix20, ix21, st_, opIs, isNonT, opEq_bl, hk, (by decide : 2 ≤ sz)]
      · rw [if_neg h0] at hi
        subst hi
        simp [fb__law_right_1, opEq_int, h0, tupleF, a0, a1, tru, vRow, hs, ix20, ix21, st_, opIs, isNonT, opEq_bl, hk, (by decide : 2 ≤ sz)]
  by_cases h0 : i = 0
  · exact ⟨_, key (.lst (A.map aT)) (.inl rfl) (by rw [if_pos h0])⟩
  · exact ⟨_, key (.tup (A.map aT)) (.inr rfl) (by rw [if_neg h0])⟩
end LAW
-- B31
namespace LAW
open PySem PL
theorem sc_ : opNe (.str sClash) (.str sClash) = some (.sm (.bl false)) := by rw [opNe_str]; simp
theorem sure_turn {A : List Arc} {v : T} {b : Bool} {i : Int} {j n : Nat} {s4 s5 s7 s8 s9 s10 s11 : Sl} {cs : List T} (hA : Good A) (hc : Cl A v) (hb : Box cs j n) (hn : n ≤ 1000) :
    ∃ s9' s10' s11' cs', fb__law_right_0 ⟨[.va (.cel j), .va (.lst (A.map aT)), .va (.bl b), .va (.int i), s4, s5, .va (.bl (less A)), s7, s8, s9, s10, s11], cs⟩ =
      .ok .nx ⟨[.va (.cel j), .va (.lst (A.map aT)), .va (.bl b), .va (.int i), s4, s5, .va (.bl (less A)), s7, s8, s9', s10', s11'], cs'⟩ ∧ Box cs' j (n + 2) := by
  obtain ⟨v1, t1, h1, a1, b1, hb1⟩ := take_ok (m := 9) hb (by omega) (by omega) (by omega)
  generalize cs.set j t1 = cs1 at h1 hb1
  obtain ⟨v2, t2, h2, a2, b2, hb2⟩ := take_ok (m := 9) hb1 (by omega) (by omega) (by omega)
  generalize cs1.set j t2 = cs2 at h2 hb2
  obtain ⟨o, rfl, ho⟩ := int_nat a1 b1
  obtain ⟨p, rfl, hp⟩ := int_nat a2 b2
  have hS : IsSq (.lst (A.map aT)) (A.map aT) := .inl rfl
  have hv := hc.fn _ cs2 hS
  rcases hc.or_ with ⟨rfl, hl⟩ | ⟨ps, rfl, hr, hl⟩
  · have he : rnds A 10 Z9 = rnds A 9 Z9 := Classical.byContradiction fun e => by
      rw [less, decide_eq_true e] at hl; cases hl
    have z := sure_ok hA (cs := cs2) (o := o) (p := p) (by omega) (by omega) hS hv (.inl ⟨rfl, he⟩)
    rw [if_pos rfl] at z
    have a0 := asked2 (b := decide (i > 2)) z
    have hs : F__law_same DEP _ cs2 = _ := same_told (v := vSure A o p) (cs := cs2) (by unfold vSure; cases ((rnds A 9 (one9 o))[p]?).join <;> trivial)
    have hrow := row_one (o := o) (cs := cs2) hS hA.arcs
    rw [early_one hA.arcs (o := o) he] at hrow
    have hpl : p < (rnds A 9 (one9 o)).length := by rw [rnds_len, one9_len]; omega
    have hx : ixT (.lst ((rnds A 9 (one9 o)).map oT)) (.int p) = some (.sm (vSure A o p)) := by
      refine (ixT_at ?_).1
      rw [List.getElem?_map, List.getElem?_eq_getElem hpl]
      unfold vSure
      rw [List.getElem?_eq_getElem hpl]
      rfl
    refine ⟨.va (.lst [.str sTold, vSure A o p]), .va (.int o), .va (.int p), cs2, ?_, hb2⟩
    rw [hl]
    simp [fb__law_right_0, mTpd, tks, tk, hsC, hNm, hsN, h1, h2, opGt_int, listF, a0, tru, hrow, ix20, hx, hs, (by decide : 1 ≤ sz), (by decide : 2 ≤ sz)]
  · have hk := is_clash_ok (cs := cs2) (S := .lst (A.map aT)) (.inl rfl) hr
    have z := sure_ok hA (cs := cs2) (o := o) (p := p) (by omega) (by omega) hS hv (.inr ⟨_, rfl⟩)
    rw [if_neg (fun h => by cases h)] at z
    have a0 := askedC (b := decide (i > 2)) z
    refine ⟨.ow (.lst [.str sClash, .tup (iL ps)]), .va (.int o), .va (.int p), cs2, ?_, hb2⟩
    rw [hl]
    simp [fb__law_right_0, mTpd, tks, tk, hsC, hNm, hsN, h1, h2, opGt_int, listF, a0, tru, ix20, ix21, sc_, hk]
end LAW
-- B32
namespace LAW
open PySem PL
theorem rg1_2 : rg1 [.va (.int 2)] = some 2 := rg1_len (n := 2) (by decide)
theorem rg1_5 : rg1 [.va (.int 5)] = some 5 := rg1_len (n := 5) (by decide)
theorem right1 {A : List Arc} {v : T} {b : Bool} {j : Nat} {s3 s4 s7 s8 s9 s10 s11 : Sl} {cs : List T} (hA : Good A) (hc : Cl A v) :
    ∃ s3' s7', fo__law_right_1 ⟨[.va (.cel j), .va (.lst (A.map aT)), .va (.bl b), s3, s4, .va (vRow A), .va (.bl (less A)), s7, s8, s9, s10, s11], cs⟩ =
      .ok .nx ⟨[.va (.cel j), .va (.lst (A.map aT)), .va (.bl b), s3', s4, .va (vRow A), .va (.bl (less A)), s7', .ow (.lst [.lst [.str sTold, vDue A], .lst [.str sTold, v]]), s9, s10, s11], cs⟩ := by
  unfold fo__law_right_1
  rw [mFor_of (w := ⟨none, rgT 0 2⟩) (e1 := ⟨[.va (.cel j), .va (.lst (A.map aT)), .va (.bl b), s3, s4, .va (vRow A), .va (.bl (less A)), s7, s8, s9, s10, s11], cs⟩) (by simp [mRg1, rg1_2])]
  obtain ⟨e', h1, h2⟩ := forGo_ind (f := gNm 3) (m := fb__law_right_1) (ts := rgT 0 2) (P := fun i e => ∃ s3 s7 s8, e = ⟨[.va (.cel j), .va (.lst (A.map aT)), .va (.bl b), s3, s4, .va (vRow A), .va (.bl (less A)), s7, s8, s9, s10, s11], cs⟩ ∧ (1 ≤ i → s8 = .ow (.lst [.lst [.str sTold, vDue A], .lst [.str sTold, v]]))) (e := ⟨[.va (.cel j), .va (.lst (A.map aT)), .va (.bl b), s3, s4, .va (vRow A), .va (.bl (less A)), s7, s8, s9, s10, s11], cs⟩) ⟨_, _, _, rfl, fun h => by omega⟩ fun i t e ht ⟨s3, s7, s8, he, _⟩ => by
    obtain ⟨hi, rfl⟩ := rgT_get ht
    subst he
    obtain ⟨s7', g⟩ := right_turn (b := b) (i := 0 + (i : Nat)) (j := j) (s4 := s4) (s7 := s7) (s8 := s8) (s9 := s9) (s10 := s10) (s11 := s11) (cs := cs) hA hc
    exact ⟨_, _, rfl, g, _, _, _, rfl, fun _ => rfl⟩
  rw [rgT_len] at h2
  obtain ⟨s3', s7', s8', rfl, h8⟩ := h2
  rw [h8 (by omega)] at h1
  exact ⟨_, _, h1⟩
theorem right0 {A : List Arc} {v : T} {b : Bool} {j n : Nat} {s3 s4 s5 s7 s8 s9 s10 s11 : Sl} {cs : List T} (hA : Good A) (hc : Cl A v) (hb : Box cs j n) (hn : n ≤ 900) :
    ∃ s3' s9' s10' s11' cs', fo__law_right_0 ⟨[.va (.cel j), .va (.lst (A.map aT)), .va (.bl b), s3, s4, s5, .va (.bl (less A)), s7, s8, s9, s10, s11], cs⟩ =
      .ok .nx ⟨[.va (.cel j), .va (.lst (A.map aT)), .va (.bl b), s3', s4, s5, .va (.bl (less A)), s7, s8, s9', s10', s11'], cs'⟩ ∧ Box cs' j (n + 10) := by
  unfold fo__law_right_0
  rw [mFor_of (w := ⟨none, rgT 0 5⟩) (e1 := ⟨[.va (.cel j), .va (.lst (A.map aT)), .va (.bl b), s3, s4, s5, .va (.bl (less A)), s7, s8, s9, s10, s11], cs⟩) (by simp [mRg1, rg1_5])]
  obtain ⟨e', h1, h2⟩ := forGo_ind (f := gNm 3) (m := fb__law_right_0) (ts := rgT 0 5) (P := fun i e => ∃ s3 s9 s10 s11 cs, e = ⟨[.va (.cel j), .va (.lst (A.map aT)), .va (.bl b), s3, s4, s5, .va (.bl (less A)), s7, s8, s9, s10, s11], cs⟩ ∧ Box cs j (n + 2 * i)) (e := ⟨[.va (.cel j), .va (.lst (A.map aT)), .va (.bl b), s3, s4, s5, .va (.bl (less A)), s7, s8, s9, s10, s11], cs⟩) ⟨_, _, _, _, _, rfl, hb⟩ fun i t e ht ⟨s3, s9, s10, s11, cs, he, hb⟩ => by
    obtain ⟨hi, rfl⟩ := rgT_get ht
    subst he
    obtain ⟨a, b', c, d, g, hb'⟩ := sure_turn (b := b) (i := 0 + (i : Nat)) (s4 := s4) (s5 := s5) (s7 := s7) (s8 := s8) (s9 := s9) (s10 := s10) (s11 := s11) hA hc hb (by omega)
    exact ⟨_, _, rfl, g, _, _, _, _, _, rfl, hb'.more (by omega)⟩
  rw [rgT_len] at h2
  obtain ⟨s3', s9', s10', s11', cs', rfl, hb'⟩ := h2
  exact ⟨_, _, _, _, _, h1, hb'⟩
end LAW
-- B33
namespace LAW
open PySem PL
theorem right_ok {A : List Arc} {b : Bool} {j n : Nat} {cs : List T} (hA : Good A) (hb : Box cs j n) (hn : n ≤ 900) : ∃ cs', F__law_right [.cel j, .lst (A.map aT), .bl b] cs = .ok (.va (.bl true)) cs' ∧ Box cs' j (n + 10) := by
  obtain ⟨v, hc⟩ := cl_ok hA
  have hS : IsSq (.lst (A.map aT)) (A.map aT) := .inl rfl
  have hrow := row_all (cs := cs) hS hA.arcs
  obtain ⟨s3, s7, h1⟩ := right1 (b := b) (j := j) (s3 := .un) (s4 := .un) (s7 := .un) (s8 := .un) (s9 := .un) (s10 := .un) (s11 := .un) (cs := cs) hA hc
  obtain ⟨s3', s9, s10, s11, cs', h2, hb'⟩ := right0 (b := b) (s3 := s3) (s4 := .un) (s5 := .va (vRow A)) (s7 := s7) (s8 := .ow (.lst [.lst [.str sTold, vDue A], .lst [.str sTold, v]])) (s9 := .un) (s10 := .un) (s11 := .un) hA hc hb hn
  have a1 := asked1 (b := b) (x := .non) (y := .non) (clash_fn hA hS (hc.fn _ cs' hS))
  have hlr : ∀ e : Ev, mLr1 (mC (.int 9)) e = .ok (.ow (.lst (rgT 0 9))) e := fun e => by
    simp [mLr1, rgT, (by decide : (9 : Int) ≤ sz)]
  refine ⟨cs', ?_, hb'⟩
  rcases hc.or_ with ⟨rfl, hl⟩ | ⟨ps, rfl, hr, hl⟩
  · simp [F__law_right, m__law_right, fnM, hlr, hrow, hFz, gTp, gsC, gNm, gsN, h1, h2, listF, a1, ix20, ix21, opIs, isNonT, tru]
  · have hs := same_refl 9 (.tup (iL ps)) (by simp only [okS]; exact ⟨by rw [iL, List.length_map]; exact Nat.le_trans hr.few (by decide), okS_iL _ 8⟩) cs'
    simp [F__law_right, m__law_right, fnM, hlr, hrow, hFz, gTp, gsC, gNm, gsN, h1, h2, listF, a1, ix20, ix21, opIs, isNonT, tru, kyT, kyI, hs]
end LAW
-- B34
namespace LAW
open PySem PL
theorem box_ok {g : Int} {cs : List T} : ∃ t, F__law_box [.int g] cs = .ok (.ow t) cs ∧ Box (cs ++ [t]) cs.length 0 := by
  have hp : opPow (.int 10) (.int 18) = some (.sm (.int (10 ^ 18))) := by
    unfold opPow
    dsimp only
    rw [if_pos ⟨by decide, by decide, by decide⟩]
    rfl
  refine ⟨.lst [.int (g.natAbs : Int), .bl (decide ((g.natAbs : Int) ≥ 10 ^ 18)), .int ((g.natAbs : Int).fmod 2147483629), .int 0], ?_, _, _, _, _, by simp; exact ⟨rfl, rfl, rfl, rfl⟩, by omega, ?_, ?_, by omega, by omega⟩
  · simp [F__law_box, m__law_box, fnM, absF, hp, opGe_int, intF, opMod, (by decide : 4 ≤ sz)]
    have hg : (if g < 0 then -g else g) = (g.natAbs : Int) := by split <;> omega
    rw [hg]
    exact ⟨rfl, Iff.rfl, rfl⟩
  · rw [Int.fmod_eq_emod_of_nonneg _ (by omega)]; exact Int.emod_nonneg _ (by omega)
  · rw [Int.fmod_eq_emod_of_nonneg _ (by omega)]; exact Int.emod_lt_of_pos _ (by omega)
theorem cutL_map {α β : Type} (f : α → β) (xs : List α) (lo hi : Option Int) : cutL (xs.map f) lo hi = (cutL xs lo hi).map f := by
  unfold cutL
  rw [List.length_map, List.map_take, List.map_drop]
theorem cell_ok {ns : List Int} {k : Nat} {cs : List T} (hk : k ≤ 5) (hl : ns.length ≤ 63) : ∃ g, F__law_cell [.scr (ns.map T.int), .int k] cs = .ok (.va (.int g)) cs := by
  have hlen : lenF [.scr (ns.map T.int)] = some (.sm (.int (ns.length : Nat))) := by
    simp [lenF]
  by_cases h : k < ns.length
  · have hx : ixT (.scr (ns.map T.int)) (.int k) = some (.sm (.int ns[k])) := by
      have z := (ixT_at (ts := ns.map T.int) (i := k) (t := .int ns[k]) (by rw [List.getElem?_map, List.getElem?_eq_getElem h]; rfl)).1
      exact z
    refine ⟨ns[k], ?_⟩
    simp [F__law_cell, m__law_cell, fnM, hlen, opLt_int, h, hx]
  · have hm : opMul (.int 7547) (.int k) = some (.sm (.int (7547 * k))) := by
      unfold opMul
      dsimp only
      rw [if_pos (.inl ⟨by decide, by decide⟩)]
    refine ⟨7547 * k + ((cutL ns none (some 1)).sum).fmod 1000003, ?_⟩
    have hs : slT none (some 1) (.scr (ns.map T.int)) = some (.ls ((cutL ns none (some 1)).map T.int)) := by
      rw [← cutL_map]; rfl
    have hsum : sumF [.lst ((cutL ns none (some 1)).map T.int)] = some (.sm (.int (cutL ns none (some 1)).sum)) := by
      simp only [sumF, intsOf_map]
      rfl
    simp [F__law_cell, m__law_cell, fnM, hlen, opLt_int, hs, hsum, intF, opMod, hm, opAdd, h]
end LAW
-- L_k25
namespace LAW
open PySem PL
theorem law_turn {ns : List Int} {k : Nat} {s2 s3 : Sl} {cs : List T} (hk : k < 5) (hl : ns.length ≤ 63) :
    ∃ s2' s3' cs', fb_law_0 ⟨[.va (.scr (ns.map T.int)), .va (.int k), s2, s3], cs⟩ = .ok .nx ⟨[.va (.scr (ns.map T.int)), .va (.int k), s2', s3'], cs'⟩ := by
  obtain ⟨g, h1⟩ := cell_ok (ns := ns) (k := k) (cs := cs) (by omega) hl
  obtain ⟨t, h2, hb⟩ := box_ok (g := g) (cs := cs)
  obtain ⟨A, cs3, h3, hA, hb3⟩ := asks_ok (cs0 := cs ++ [t]) ⟨⟨t, by simp⟩, hb⟩ (by omega)
  obtain ⟨_, hb3⟩ := hb3
  obtain ⟨v, t4, h4, a4, b4, hb4⟩ := take_ok (m := 2) hb3 (by omega) (by omega) (by omega)
  generalize cs3.set cs.length t4 = cs4 at h4 hb4
  obtain ⟨cs5, h5, hb5⟩ := right_ok (b := decide (v = 0)) hA hb4 (by omega)
  obtain ⟨cs6, h6⟩ := refused_ok hA hb5 (by omega)
  refine ⟨.va (.cel cs.length), .va (.lst (A.map aT)), cs6, ?_⟩
  simp [fb_law_0, h1, h2, h3, h4, h5, h6, opEq_int, tru]
theorem law_true : lawOk F_law 63 := fun ns hl => by
  have hn : ∀ e : Ev, e.r[0]? = some (.va (.scr (ns.map T.int))) → mRg1 (mCons (mCall max2F (mCons (mC (.int 2)) (mCons (mCall min2F (mCons (mC (.int 5)) (mCons (mCall lenF (mCons (mVar 0) mNil)) mNil))) mNil))) mNil) e = .ok ⟨none, rgT 0 (max 2 (min 5 ns.length))⟩ e := fun e he => by
    have hlen : lenF [.scr (ns.map T.int)] = some (.sm (.int (ns.length : Nat))) := by simp [lenF]
    have h2 : (if ((if (ns.length : Int) < 5 then (ns.length : Int) else 5) > 2) then (if (ns.length : Int) < 5 then (ns.length : Int) else 5) else 2) = ((max 2 (min 5 ns.length) : Nat) : Int) := by
      split <;> split <;> omega
    have hr := rg1_len (n := max 2 (min 5 ns.length)) (Nat.le_trans (by omega : _ ≤ 5) (by decide))
    simp [mRg1, he, hlen, min2F, max2F] at h2 ⊢
    rw [h2, hr]
    simp
  obtain ⟨e', h1, h2⟩ := forGo_ind (f := gNm 1) (m := fb_law_0) (ts := rgT 0 (max 2 (min 5 ns.length))) (P := fun i e => ∃ s1 s2 s3 cs, e = ⟨[.va (.scr (ns.map T.int)), s1, s2, s3], cs⟩) (e := ⟨[.va (.scr (ns.map T.int)), .un, .un, .un], []⟩) ⟨_, _, _, _, rfl⟩ fun i t e ht ⟨s1, s2, s3, cs, he⟩ => by
    obtain ⟨hi, rfl⟩ := rgT_get ht
    subst he
    obtain ⟨s2', s3', cs', h⟩ := law_turn (ns := ns) (k := i) (s2 := s2) (s3 := s3) (cs := cs) (by omega) hl
    rw [show (i : Int) = 0 + (i : Nat) from (Int.zero_add _).symm] at h
    exact ⟨_, _, rfl, h, _, s2', s3', cs', rfl⟩
  obtain ⟨s1, s2, s3, cs, rfl⟩ := h2
  refine ⟨cs, ?_⟩
  have hfo : fo_law_0 ⟨[.va (.scr (ns.map T.int)), .un, .un, .un], []⟩ = .ok .nx ⟨[.va (.scr (ns.map T.int)), s1, s2, s3], cs⟩ := by
    unfold fo_law_0
    rw [mFor_of (hn _ rfl)]
    exact h1
  simp [F_law, m_law, fnM, hfo]
end LAW
-- E_k25
set_option maxHeartbeats 0
open PySem PySem.W PySem.Calls PyProof.Rows
theorem PySem.Challenge.cw_arrowbench_k25_differences_holds : PySem.Challenge.rw_arrowbench_k25_differences.Holds := by
  w_on; o_law
  refine HandSHeadRun.head_any (r := OpenLaw.row PySem.Challenge.rw_arrowbench_k25_differences) (q := view (OpenLaw.row PySem.Challenge.rw_arrowbench_k25_differences).prog [38]) (H := LAW.hk0) (ob := LAW.ob0) (M := 6000) (loose := LAW.loose) (d := HandSHeadRun.topDef (OpenLaw.row PySem.Challenge.rw_arrowbench_k25_differences).prog 38) (kwd := []) LAW.ob0_eq
    (by kernel_rfl) (fun s => by kernel_rfl) LAW.run0 (by kernel_rfl) (by kernel_rfl) (by kernel_rfl) (by rfl) (by first | assumption | decide +kernel) (by decide +kernel) ⟨rfl, rfl, rfl, rfl, rfl, by decide +kernel⟩ ?hw ?hc
  case hw => w_witness2
  case hc =>
    refine PL.walk_pl (l := PySem.Challenge.rw_arrowbench_k25_differences) (n := 63) (k := 14) (x := PySem.Str.ofString "script") rfl (by decide) (by kernel_rfl) ⟨rfl, by decide, by decide⟩ LAW.law_true ?F
    intro w mg fa h Y G hmg0
    obtain ⟨K, KX, c⟩ := Y
    have hmg : mg (PySem.Str.ofString "law") = some (.ref fa) := by
      have e : (HandSHeadRun.topDef (OpenLaw.row PySem.Challenge.rw_arrowbench_k25_differences).prog 38).name = PySem.Str.ofString "law" := by kernel_rfl
      rw [← e]
      exact hmg0
    obtain ⟨fd, hb, hF⟩ := LAW.facts (P := (PySem.Challenge.rw_arrowbench_k25_differences).prog) (w := w) KX G hmg c
    exact ⟨K, fd, KX, hb, hF⟩
