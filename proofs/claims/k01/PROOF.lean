import PyProof.Rows.All
import Wide.All
import OpenK.AllK
import Wide.FinOn
import HandS.ForMost
import HandS.ForExc
import HandS.Deep
import HandS.IsInst
import HandS.Wide
import HandS.Text
import HandS.TupAny
import KE.GoesMore
import KE.GoesEnum
import PyProof.ReprRoads
import PyProof.CallStr
import HandS.TupMul
import HandS.Ends
import HandS.SetTxt0
import HandS.SetFor
import HandS.More
import HandS.Strs
import HandS.Dict
import PySem.Challenge.RW_backthen_k01_tales_checked
import HandS.WideBits
import PyProof.ReprLen
import PyProof.P3Eq
set_option Elab.async false
set_option linter.all false
set_option maxRecDepth 100000
set_option maxHeartbeats 4000000
/-! The value layer: data, slots, states. -/
namespace BT
open PySem L2

/-- data -/
inductive D where
  | non | bl (b : Bool) | int (i : Int) | str (x : Str)
  | tup (xs : List D) | lst (xs : List D)
  | dic (kvs : List (Key × D))
  | ins (C : Addr) (fs : List (Str × D))

mutual
inductive Dt (K : PySem.W.Frag) (H : Hp) : V → D → Prop
  | non : Dt K H .non .non
  | bl (b : Bool) : Dt K H (.bl b) (.bl b)
  | int (i : Int) : Dt K H (.int i) (.int i)
  | str (x : Str) : Dt K H (.str x) (.str x)
  | tup {a : Addr} {xs : List V} {ds : List D} : SqT K H a xs → DtL K H xs ds → Dt K H (.ref a) (.tup ds)
  | lst {a : Addr} {xs : List V} {ds : List D} : SqL K H a xs → DtL K H xs ds → Dt K H (.ref a) (.lst ds)
  | dic {a : Addr} {kvs : List (Key × V)} {ds : List (Key × D)} : Rd H a (.dK kvs) → DtK K H kvs ds → Dt K H (.ref a) (.dic ds)
  | ins {a C dx : Addr} {fs : List (Str × V)} {ds : List (Str × D)} : H a = some (.ins C dx fs) → H dx = some (.own a) → DtF K H fs ds → Dt K H (.ref a) (.ins C ds)
inductive DtL (K : PySem.W.Frag) (H : Hp) : List V → List D → Prop
  | nil : DtL K H [] []
  | cons {v : V} {vs : List V} {d : D} {ds : List D} : Dt K H v d → DtL K H vs ds → DtL K H (v :: vs) (d :: ds)
inductive DtK (K : PySem.W.Frag) (H : Hp) : List (Key × V) → List (Key × D) → Prop
  | nil : DtK K H [] []
  | cons {k : Key} {v : V} {vs : List (Key × V)} {d : D} {ds : List (Key × D)} : Dt K H v d → DtK K H vs ds → DtK K H ((k, v) :: vs) ((k, d) :: ds)
inductive DtF (K : PySem.W.Frag) (H : Hp) : List (Str × V) → List (Str × D) → Prop
  | nil : DtF K H [] []
  | cons {k : Str} {v : V} {vs : List (Str × V)} {d : D} {ds : List (Str × D)} : Dt K H v d → DtF K H vs ds → DtF K H ((k, v) :: vs) ((k, d) :: ds)
end

section
variable {K : PySem.W.Frag} {H H' : Hp}
theorem Same.rd {a : Addr} {o : HO} (k : Same H H') (h : Rd H a o) : Rd H' a o := by
  rcases h with h | ⟨u, h⟩
  · exact .inl (k _ _ h)
  · exact .inr ⟨u, k _ _ h⟩
theorem Same.sqT {a : Addr} {xs : List V} (e : Same H H') (h : SqT K H a xs) : SqT K H' a xs := by
  rcases h with h | h
  · exact .inl (Same.rd e h)
  · exact .inr h
mutual
theorem Dt.mono (k : Same H H') : ∀ {v : V} {d : D}, Dt K H v d → Dt K H' v d
  | _, _, .non => .non
  | _, _, .bl b => .bl b
  | _, _, .int i => .int i
  | _, _, .str x => .str x
  | _, _, .tup h hs => .tup (Same.sqT k h) (DtL.mono k hs)
  | _, _, .lst h hs => .lst (k.seq h) (DtL.mono k hs)
  | _, _, .dic h hs => .dic (Same.rd k h) (DtK.mono k hs)
  | _, _, .ins h h2 hs => .ins (k _ _ h) (k _ _ h2) (DtF.mono k hs)
theorem DtL.mono (k : Same H H') : ∀ {v : List V} {d : List D}, DtL K H v d → DtL K H' v d
  | _, _, .nil => .nil
  | _, _, .cons h hs => .cons (Dt.mono k h) (DtL.mono k hs)
theorem DtK.mono (k : Same H H') : ∀ {v : List (Key × V)} {d : List (Key × D)}, DtK K H v d → DtK K H' v d
  | _, _, .nil => .nil
  | _, _, .cons h hs => .cons (Dt.mono k h) (DtK.mono k hs)
theorem DtF.mono (k : Same H H') : ∀ {v : List (Str × V)} {d : List (Str × D)}, DtF K H v d → DtF K H' v d
  | _, _, .nil => .nil
  | _, _, .cons h hs => .cons (Dt.mono k h) (DtF.mono k hs)
end
theorem DtL.length : ∀ {v : List V} {d : List D}, DtL K H v d → v.length = d.length
  | _, _, .nil => rfl
  | _, _, .cons _ hs => by rw [List.length_cons, List.length_cons, DtL.length hs]
theorem DtL.get : ∀ {v : List V} {d : List D} {i : Nat} {x : V}, DtL K H v d → v[i]? = some x → ∃ y, d[i]? = some y ∧ Dt K H x y
  | _, _, _, _, .nil, e => by simp at e
  | _, _, 0, _, .cons h hs, e => by
    simp at e; subst e; exact ⟨_, rfl, h⟩
  | _, _, i + 1, _, .cons h hs, e => by
    simp at e; obtain ⟨y, h1, h2⟩ := DtL.get hs e; exact ⟨y, by simpa using h1, h2⟩
theorem DtL.getD : ∀ {v : List V} {d : List D} {i : Nat} {y : D}, DtL K H v d → d[i]? = some y → ∃ x, v[i]? = some x ∧ Dt K H x y
  | _, _, _, _, .nil, e => by simp at e
  | _, _, 0, _, .cons h hs, e => by
    simp at e; subst e; exact ⟨_, rfl, h⟩
  | _, _, i + 1, _, .cons h hs, e => by
    simp at e; obtain ⟨y, h1, h2⟩ := DtL.getD hs e; exact ⟨y, by simpa using h1, h2⟩
theorem DtL.append : ∀ {v w : List V} {d e : List D}, DtL K H v d → DtL K H w e → DtL K H (v ++ w) (d ++ e)
  | _, _, _, _, .nil, h => h
  | _, _, _, _, .cons h hs, g => .cons h (DtL.append hs g)
theorem DtL.drop : ∀ {v : List V} {d : List D} (n : Nat), DtL K H v d → DtL K H (v.drop n) (d.drop n)
  | _, _, 0, h => h
  | _, _, n + 1, .nil => .nil
  | _, _, n + 1, .cons _ hs => DtL.drop n hs
theorem DtL.take : ∀ {v : List V} {d : List D} (n : Nat), DtL K H v d → DtL K H (v.take n) (d.take n)
  | _, _, 0, _ => .nil
  | _, _, n + 1, .nil => .nil
  | _, _, n + 1, .cons h hs => .cons h (DtL.take n hs)
end
end BT

namespace BT
open PySem L2

inductive Sl where | un | dt (d : D) | ol (ds : List D)
abbrev Rho := List Sl
structure Ex where
  cls : Addr
  fs : List (Str × D)
inductive Rs (α : Type) where | val (a : α) (ρ : Rho) | exc (x : Ex) (ρ : Rho)
abbrev M (α : Type) := Rho → Option (Rs α)
@[simp] def bindM {α β : Type} (f : M α) (k : α → M β) : M β := fun ρ => match f ρ with
  | some (.val a ρ') => k a ρ'
  | some (.exc x ρ') => some (.exc x ρ')
  | none => none
@[simp] def Sl.frz : Sl → Option D | .un => none | .dt d => some d | .ol ds => some (.lst ds)
@[simp] def bindD {β : Type} (f : M Sl) (k : D → M β) : M β := fun ρ => (bindM f fun s => match s.frz with | some d => k d | none => fun _ => none) ρ
@[simp] def retM {α : Type} (a : α) : M α := fun ρ => some (.val a ρ)
@[simp] def retD (d : D) : M Sl := fun ρ => some (.val (.dt d) ρ)
@[simp] def optM {α : Type} (o : Option α) : M α := fun ρ => match o with | some a => some (.val a ρ) | none => none
@[simp] def optD (o : Option D) : M Sl := fun ρ => match o with | some a => some (.val (.dt a) ρ) | none => none
@[simp] def optL (o : Option (List D)) : M Sl := fun ρ => match o with | some a => some (.val (.ol a) ρ) | none => none

def OwnAt (σ : St) (ρ : Rho) (a : Addr) : Prop := ∃ (i : Nat) (ds : List D), ρ[i]? = some (.ol ds) ∧ σ[i]? = some (some (.ref a))

structure EnvOk (K : PySem.W.Frag) (pn : List (Nat × Addr)) (G H : Hp) (σ : St) (ρ : Rho) : Prop where
  sub : Same G H
  len : σ.length = ρ.length
  dt : ∀ (i : Nat) (d : D), ρ[i]? = some (.dt d) → ∃ v, σ[i]? = some (some v) ∧ Dt K G v d
  ol : ∀ (i : Nat) (ds : List D), ρ[i]? = some (.ol ds) → ∃ p vs, σ[i]? = some (some (.ref p)) ∧ H p = some (.lst vs) ∧ G p = none ∧ DtL K G vs ds
  inj : ∀ (i j : Nat) (ds es : List D) (p : Addr), ρ[i]? = some (.ol ds) → ρ[j]? = some (.ol es) → σ[i]? = some (some (.ref p)) → σ[j]? = some (some (.ref p)) → i = j
  pins : ∀ q ∈ pn, σ[q.1]? = some (some (.ref q.2))

structure Ext (G H : Hp) (O : Addr → Prop) (G' H' : Hp) (O' : Addr → Prop) : Prop where
  grow : Same G G'
  fresh : ∀ a, G' a ≠ none → G a ≠ none ∨ H a = none ∨ O a
  keep : ∀ a o, H a = some o → ¬ O a → H' a = some o
  own : ∀ a, O' a → O a ∨ H a = none

theorem Ext.refl {G H : Hp} {O : Addr → Prop} : Ext G H O G H O := ⟨Same.refl _, fun _ h => .inl h, fun _ _ h _ => h, fun _ h => .inl h⟩
theorem Ext.trans {G H G1 H1 G2 H2 : Hp} {O O1 O2 : Addr → Prop} (x : Ext G H O G1 H1 O1) (y : Ext G1 H1 O1 G2 H2 O2) : Ext G H O G2 H2 O2 := by
  have back : ∀ a, H1 a = none → H a = none ∨ O a := fun a h => by
    cases e : H a with
    | none => exact .inl rfl
    | some o =>
      by_cases c : O a
      · exact .inr c
      · rw [x.keep a o e c] at h; cases h
  refine ⟨x.grow.trans y.grow, fun a h => ?_, fun a o h c => ?_, fun a h => ?_⟩
  · rcases y.fresh a h with h | h | h
    · exact x.fresh a h
    · rcases back a h with h | h
      · exact .inr (.inl h)
      · exact .inr (.inr h)
    · rcases x.own a h with h | h
      · exact .inr (.inr h)
      · exact .inr (.inl h)
  · refine y.keep a o (x.keep a o h c) fun c' => ?_
    rcases x.own a c' with q | q
    · exact c q
    · rw [q] at h; cases h
  · rcases y.own a h with h | h
    · exact x.own a h
    · exact (back a h).symm

/-- how an exception lies -/
def XOk (K : PySem.W.Frag) (G H : Hp) (d : Option Addr) (x : Ex) : Prop := match x.fs with
  | [] => d = none
  | [(f, y)] => ∃ a v, d = some a ∧ H a = some (.xd [(f, v)]) ∧ Dt K G v y
  | _ => False

section
variable (K : PySem.W.Frag) (pn : List (Nat × Addr)) (E : XK) (σ : St)
def Post (G0 H0 : Hp) (O0 : Addr → Prop) (r : Option (Rs Sl)) (Q : VK) : Prop := match r with
  | some (.val s ρ') => ∀ v G' H', EnvOk K pn G' H' (σ ++ [some v]) (ρ' ++ [s]) → Ext G0 H0 O0 G' H' (OwnAt (σ ++ [some v]) (ρ' ++ [s])) → Q v H'
  | some (.exc x ρ') => ∀ d G' H', EnvOk K pn G' H' σ ρ' → Ext G0 H0 O0 G' H' (OwnAt σ ρ') → XOk K G' H' d x → E (.ref x.cls) d H'
  | none => False
def tE (f : M Sl) : TE := fun σ H Q => ∃ G ρ, EnvOk K pn G H σ ρ ∧ Post K pn E σ G H (OwnAt σ ρ) (f ρ) Q
end

section
variable {K : PySem.W.Frag} {pn : List (Nat × Addr)} {E : XK} {σ : St} {G H : Hp} {ρ : Rho} {O : Addr → Prop}
theorem Post.mono {G0 H0 : Hp} {O0 : Addr → Prop} {r : Option (Rs Sl)} {Q Q' : VK} (h : Post K pn E σ G0 H0 O0 r Q) (q : ∀ v H, Q v H → Q' v H) : Post K pn E σ G0 H0 O0 r Q' := by
  unfold Post at h ⊢
  split at h
  · exact fun v G' H' a b => q _ _ (h v G' H' a b)
  · exact h
  · exact h
theorem Post.at {G0 H0 : Hp} {O0 : Addr → Prop} {r : Option (Rs Sl)} {Q : VK} (h : Post K pn E σ G0 H0 O0 r Q) (x : Ext G0 H0 O0 G H O) : Post K pn E σ G H O r Q := by
  unfold Post at h ⊢
  split at h
  · exact fun v G' H' a b => h v G' H' a (x.trans b)
  · exact fun d G' H' a b => h d G' H' a (x.trans b)
  · exact h

theorem get_append_lt {α : Type} {l r : List α} {i : Nat} (h : i < l.length) : (l ++ r)[i]? = l[i]? := List.getElem?_append_left h
theorem get_append_eq {α : Type} {l : List α} {x : α} : (l ++ [x])[l.length]? = some x := by simp
theorem get_append1 {α : Type} {l : List α} {x y : α} {i : Nat} (h : (l ++ [x])[i]? = some y) : (i < l.length ∧ l[i]? = some y) ∨ (i = l.length ∧ x = y) := by
  by_cases c : i < l.length
  · exact .inl ⟨c, by rw [get_append_lt c] at h; exact h⟩
  · by_cases e : i = l.length
    · subst e; rw [get_append_eq] at h; exact .inr ⟨rfl, Option.some.inj h⟩
    · rw [List.getElem?_eq_none (by simp; omega)] at h; cases h
theorem lt_of_get {α : Type} {l : List α} {x : α} {i : Nat} (h : l[i]? = some x) : i < l.length := (List.getElem?_eq_some_iff.mp h).1

/-- the temp forgotten -/
theorem EnvOk.pop {v : Option V} {s : Sl} (ok : EnvOk K pn G H (σ ++ [v]) (ρ ++ [s])) (hp : ∀ q ∈ pn, q.1 < σ.length) : EnvOk K pn G H σ ρ := by
  have hl : σ.length = ρ.length := by have := ok.len; simpa using this
  have up : ∀ {i : Nat} {x : Sl}, ρ[i]? = some x → (ρ ++ [s])[i]? = some x := fun h => by rw [get_append_lt (lt_of_get h)]; exact h
  have dn : ∀ {i : Nat} {x : Sl} , ρ[i]? = some x → (σ ++ [v])[i]? = σ[i]? := fun h => get_append_lt (by rw [hl]; exact lt_of_get h)
  refine ⟨ok.sub, hl, fun i d h => ?_, fun i ds h => ?_, fun i j ds es p h1 h2 h3 h4 => ?_, fun q hq => ?_⟩
  · obtain ⟨w, a, b⟩ := ok.dt i d (up h); exact ⟨w, by rw [dn h] at a; exact a, b⟩
  · obtain ⟨p, vs, a, b⟩ := ok.ol i ds (up h); exact ⟨p, vs, by rw [dn h] at a; exact a, b⟩
  · exact ok.inj i j ds es p (up h1) (up h2) (by rw [dn h1]; exact h3) (by rw [dn h2]; exact h4)
  · have := ok.pins q hq; rw [get_append_lt (hp q hq)] at this; exact this
theorem own_up {v : Option V} {s : Sl} (hl : σ.length = ρ.length) {a : Addr} (h : OwnAt σ ρ a) : OwnAt (σ ++ [v]) (ρ ++ [s]) a := by
  obtain ⟨i, ds, h1, h2⟩ := h
  exact ⟨i, ds, by rw [get_append_lt (lt_of_get h1)]; exact h1, by rw [get_append_lt (lt_of_get h2)]; exact h2⟩
theorem own_dn {v : Option V} {s : Sl} (hl : σ.length = ρ.length) {a : Addr} (h : OwnAt (σ ++ [v]) (ρ ++ [s]) a) : OwnAt σ ρ a ∨ (v = some (.ref a) ∧ ∃ ds, s = .ol ds) := by
  obtain ⟨i, ds, h1, h2⟩ := h
  rcases get_append1 h1 with ⟨c, e⟩ | ⟨c, e⟩
  · rw [get_append_lt (by omega)] at h2; exact .inl ⟨i, ds, e, h2⟩
  · subst c; rw [← hl, get_append_eq] at h2; exact .inr ⟨Option.some.inj h2, ds, e⟩

theorem EnvOk.push_dt {v : V} {d : D} (ok : EnvOk K pn G H σ ρ) (h : Dt K G v d) : EnvOk K pn G H (σ ++ [some v]) (ρ ++ [.dt d]) := by
  have hl := ok.len
  refine ⟨ok.sub, by simp [hl], fun i d' h' => ?_, fun i ds h' => ?_, fun i j ds es p h1 h2 h3 h4 => ?_, fun q hq => ?_⟩
  · rcases get_append1 h' with ⟨c, e⟩ | ⟨c, e⟩
    · obtain ⟨w, a, b⟩ := ok.dt i d' e
      exact ⟨w, by rw [get_append_lt (by omega)]; exact a, b⟩
    · subst c; cases e
      exact ⟨v, by rw [← hl, get_append_eq], h⟩
  · rcases get_append1 h' with ⟨c, e⟩ | ⟨c, e⟩
    · obtain ⟨p, vs, a, b⟩ := ok.ol i ds e
      exact ⟨p, vs, by rw [get_append_lt (by omega)]; exact a, b⟩
    · cases e
  · rcases get_append1 h1 with ⟨c1, e1⟩ | ⟨c1, e1⟩
    · rcases get_append1 h2 with ⟨c2, e2⟩ | ⟨c2, e2⟩
      · rw [get_append_lt (by omega)] at h3 h4
        exact ok.inj i j ds es p e1 e2 h3 h4
      · cases e2
    · cases e1
  · have := ok.pins q hq
    rw [get_append_lt (lt_of_get this)]; exact this
theorem own_push_dt {v : V} {d : D} (hl : σ.length = ρ.length) {a : Addr} (h : OwnAt (σ ++ [some v]) (ρ ++ [.dt d]) a) : OwnAt σ ρ a := by
  rcases own_dn hl h with h | ⟨_, _, h⟩
  · exact h
  · cases h

/-- a heap that grows by a frozen object -/
theorem EnvOk.alloc {p : Addr} {o : HO} (ok : EnvOk K pn G H σ ρ) (hp : H p = none) : EnvOk K pn (upd G p o) (upd H p o) σ ρ := by
  have gp : G p = none := Same.free ok.sub hp
  have gs : Same G (upd G p o) := fun b u e => by rw [upd_ne (ne_of_none e gp)]; exact e
  refine ⟨fun b u e => ?_, ok.len, fun i d h => ?_, fun i ds h => ?_, ok.inj, ok.pins⟩
  · by_cases c : b = p
    · subst c; rw [upd_same] at e ⊢; exact e
    · rw [upd_ne c] at e ⊢; exact ok.sub b u e
  · obtain ⟨v, a, b⟩ := ok.dt i d h; exact ⟨v, a, b.mono gs⟩
  · obtain ⟨q, vs, a, b, c, e⟩ := ok.ol i ds h
    have n := ne_of_none b hp
    exact ⟨q, vs, a, by rw [upd_ne n]; exact b, by rw [upd_ne n]; exact c, e.mono gs⟩
theorem Ext.alloc {p : Addr} {o : HO} (hs : Same G H) (hp : H p = none) : Ext G H O (upd G p o) (upd H p o) O := by
  have gp : G p = none := Same.free hs hp
  refine ⟨fun b u e => by rw [upd_ne (ne_of_none e gp)]; exact e, fun a h => ?_, fun a u h _ => by rw [upd_ne (ne_of_none h hp)]; exact h, fun _ h => .inl h⟩
  by_cases c : a = p
  · subst c; exact .inr (.inl hp)
  · rw [upd_ne c] at h; exact .inl h
theorem same_alloc {p : Addr} {o : HO} (gp : G p = none) : Same G (upd G p o) := fun b u e => by rw [upd_ne (ne_of_none e gp)]; exact e

/-- a new list that is one's own, as a temp -/
theorem EnvOk.push_new {p : Addr} {vs : List V} {ds : List D} (ok : EnvOk K pn G H σ ρ) (hp : H p = none) (h : DtL K G vs ds) :
    EnvOk K pn G (upd H p (.lst vs)) (σ ++ [some (.ref p)]) (ρ ++ [.ol ds]) := by
  have hl := ok.len
  have gp : G p = none := Same.free ok.sub hp
  refine ⟨fun b u e => by rw [upd_ne (ne_of_none e gp)]; exact ok.sub b u e, by simp [hl], fun i d' h' => ?_, fun i ds' h' => ?_, fun i j ds1 es q h1 h2 h3 h4 => ?_, fun q hq => ?_⟩
  · rcases get_append1 h' with ⟨c, e⟩ | ⟨c, e⟩
    · obtain ⟨w, a, b⟩ := ok.dt i d' e
      exact ⟨w, by rw [get_append_lt (by omega)]; exact a, b⟩
    · cases e
  · rcases get_append1 h' with ⟨c, e⟩ | ⟨c, e⟩
    · obtain ⟨q, ws, a, b, b2, b3⟩ := ok.ol i ds' e
      exact ⟨q, ws, by rw [get_append_lt (by omega)]; exact a, by rw [upd_ne (ne_of_none b hp)]; exact b, b2, b3⟩
    · subst c; cases e
      exact ⟨p, vs, by rw [← hl, get_append_eq], upd_same, gp, h⟩
  · have side : ∀ {k : Nat} {xs : List D}, ρ[k]? = some (.ol xs) → σ[k]? = some (some (.ref p)) → False := fun a b => by
      obtain ⟨q', ws, a', b', _⟩ := ok.ol _ _ a
      rw [b] at a'; cases a'
      rw [hp] at b'; cases b'
    rcases get_append1 h1 with ⟨c1, e1⟩ | ⟨c1, e1⟩
    · rw [get_append_lt (by omega)] at h3
      rcases get_append1 h2 with ⟨c2, e2⟩ | ⟨c2, e2⟩
      · rw [get_append_lt (by omega)] at h4
        exact ok.inj i j ds1 es q e1 e2 h3 h4
      · subst c2; rw [← hl, get_append_eq] at h4; cases h4
        exact (side e1 h3).elim
    · subst c1; rw [← hl, get_append_eq] at h3; cases h3
      rcases get_append1 h2 with ⟨c2, e2⟩ | ⟨c2, e2⟩
      · rw [get_append_lt (by omega)] at h4
        exact (side e2 h4).elim
      · exact c2.symm
  · have := ok.pins q hq
    rw [get_append_lt (lt_of_get this)]; exact this
theorem Ext.push_new {p : Addr} {vs : List V} {ds : List D} (hl : σ.length = ρ.length) (hp : H p = none) :
    Ext G H (OwnAt σ ρ) G (upd H p (.lst vs)) (OwnAt (σ ++ [some (.ref p)]) (ρ ++ [.ol ds])) := by
  refine ⟨Same.refl _, fun _ h => .inl h, fun a u h _ => by rw [upd_ne (ne_of_none h hp)]; exact h, fun a h => ?_⟩
  rcases own_dn hl h with h | ⟨h, _⟩
  · exact .inl h
  · cases h; exact .inr hp
theorem Ext.push_dt {v : V} {d : D} {G' H' : Hp} {O' : Addr → Prop} (hl : σ.length = ρ.length) (x : Ext G H O G' H' (OwnAt σ ρ)) : Ext G H O G' H' (OwnAt (σ ++ [some v]) (ρ ++ [.dt d])) :=
  ⟨x.grow, x.fresh, x.keep, fun a h => x.own a (own_push_dt hl h)⟩

/-- the temp frozen -/
theorem EnvOk.freeze {v : V} {s : Sl} {d : D} (ok : EnvOk K pn G H (σ ++ [some v]) (ρ ++ [s])) (hp : ∀ q ∈ pn, q.1 < σ.length) (hs : s.frz = some d) :
    ∃ G2, EnvOk K pn G2 H σ ρ ∧ Dt K G2 v d ∧ Ext G H (OwnAt (σ ++ [some v]) (ρ ++ [s])) G2 H (OwnAt σ ρ) := by
  have hl : σ.length = ρ.length := by have := ok.len; simpa using this
  cases s with
  | un => cases hs
  | dt d' =>
    cases hs
    refine ⟨G, ok.pop hp, ?_, Same.refl _, fun _ h => .inl h, fun _ _ h _ => h, fun a h => .inl (own_up hl h)⟩
    obtain ⟨w, a, b⟩ := ok.dt ρ.length _ get_append_eq
    rw [← hl, get_append_eq] at a
    cases a; exact b
  | ol ds =>
    cases hs
    obtain ⟨p, vs, a, b, c, e⟩ := ok.ol ρ.length ds get_append_eq
    rw [← hl, get_append_eq] at a
    cases a
    have gs : Same G (upd G p (.lst vs)) := same_alloc c
    have ok' := ok.pop hp
    have nown : ∀ {i : Nat} {es : List D} {q : Addr}, ρ[i]? = some (.ol es) → σ[i]? = some (some (.ref q)) → q ≠ p := fun {i es q} h1 h2 z => by
      subst z
      have := ok.inj i ρ.length es ds q (by rw [get_append_lt (lt_of_get h1)]; exact h1) get_append_eq (by rw [get_append_lt (lt_of_get h2)]; exact h2) (by rw [← hl]; exact get_append_eq)
      have := lt_of_get h1
      omega
    refine ⟨upd G p (.lst vs), ⟨fun x u h => ?_, hl, fun i d h => ?_, fun i es h => ?_, ok'.inj, ok'.pins⟩, .lst (SqL.of upd_same) (e.mono gs), gs, fun x h => ?_, fun _ _ h _ => h, fun x h => .inl (own_up hl h)⟩
    · by_cases z : x = p
      · subst z; rw [upd_same] at h; cases h; exact b
      · rw [upd_ne z] at h; exact ok.sub x u h
    · obtain ⟨w, h1, h2⟩ := ok'.dt i d h; exact ⟨w, h1, h2.mono gs⟩
    · obtain ⟨q, ws, h1, h2, h3, h4⟩ := ok'.ol i es h
      exact ⟨q, ws, h1, h2, by rw [upd_ne (nown h h1)]; exact h3, h4.mono gs⟩
    · by_cases z : x = p
      · subst z
        exact .inr (.inr ⟨ρ.length, ds, get_append_eq, by rw [← hl]; exact get_append_eq⟩)
      · rw [upd_ne z] at h; exact .inl h

theorem EnvOk.pinLt (ok : EnvOk K pn G H σ ρ) : ∀ q ∈ pn, q.1 < σ.length := fun q hq => lt_of_get (ok.pins q hq)

/-- one operand, then the rest -/
theorem Post.bindD {f : M Sl} {k : D → M Sl} {Q : VK} (ok : EnvOk K pn G H σ ρ) (h : Post K pn E σ G H (OwnAt σ ρ) (bindD f k ρ) Q) :
    Post K pn E σ G H (OwnAt σ ρ) (f ρ) (fun v H1 => ∃ G1 ρ1 d, EnvOk K pn G1 H1 σ ρ1 ∧ Same G G1 ∧ Dt K G1 v d ∧ Post K pn E σ G1 H1 (OwnAt σ ρ1) (k d ρ1) Q) := by
  unfold BT.bindD BT.bindM at h
  cases e : f ρ with
  | none => rw [e] at h; exact h
  | some r =>
    rw [e] at h
    cases r with
    | exc x ρ' => exact h
    | val s ρ' =>
      intro v G' H' ok' x'
      cases es : s.frz with
      | none => simp only [es] at h; exact h.elim
      | some d =>
        simp only [es] at h
        obtain ⟨G2, ok2, dt2, x2⟩ := ok'.freeze ok.pinLt es
        have xx := x'.trans x2
        exact ⟨G2, ρ', d, ok2, xx.grow, dt2, h.at xx⟩

theorem Post.dt {v : V} {d : D} {Q : VK} (h : Post K pn E σ G H (OwnAt σ ρ) (some (.val (.dt d) ρ)) Q) (ok : EnvOk K pn G H σ ρ) (hd : Dt K G v d) : Q v H :=
  h v G H (ok.push_dt hd) (Ext.push_dt (O' := OwnAt σ ρ) ok.len Ext.refl)
theorem Post.lst {vs : List V} {ds : List D} {p : Addr} {Q : VK} (h : Post K pn E σ G H (OwnAt σ ρ) (some (.val (.ol ds) ρ)) Q) (ok : EnvOk K pn G H σ ρ) (hd : DtL K G vs ds) (hp : H p = none) : Q (.ref p) (upd H p (.lst vs)) :=
  h _ G _ (ok.push_new hp hd) (Ext.push_new ok.len hp)
theorem Post.tup {vs : List V} {ds : List D} {p : Addr} {Q : VK} (h : Post K pn E σ G H (OwnAt σ ρ) (some (.val (.dt (.tup ds)) ρ)) Q) (ok : EnvOk K pn G H σ ρ) (hd : DtL K G vs ds) (hp : H p = none) : Q (.ref p) (upd H p (.tup vs)) := by
  have gp : G p = none := Same.free ok.sub hp
  have ok' := ok.alloc (o := .tup vs) hp
  exact h _ _ _ (ok'.push_dt (.tup (SqT.of upd_same) (hd.mono (same_alloc gp)))) (Ext.push_dt (O' := OwnAt σ ρ) ok.len (Ext.alloc ok.sub hp))
end

section
variable {X : Cx} {pn : List (Nat × Addr)} {E : XK}
theorem _root_.L2.PE.imp {e : Expr} {t t' : TE} (h : PE X e t) (i : ∀ σ H Q, t' σ H Q → t σ H Q) : PE X e t' := ⟨fun pins s σ H Q I hw => h.run pins s σ H Q I (i σ H Q hw)⟩
theorem _root_.L2.PT.imp {e : Expr} {t t' : TT} (h : PT X e t) (i : ∀ σ H Q, t' σ H Q → t σ H Q) : PT X e t' := ⟨fun pins s σ H Q I hw => h.run pins s σ H Q I (i σ H Q hw)⟩
theorem _root_.L2.PW.imp {e : Expr} {t t' : TT} (h : PW X e t) (i : ∀ σ H Q, t' σ H Q → t σ H Q) : PW X e t' := ⟨fun w pins s σ H Q I hw => h.run w pins s σ H Q I (i σ H Q hw)⟩
theorem _root_.L2.PS.imp {e : Stmt} {t t' : TS} (h : PS X e t) (i : ∀ D σ H, t' D σ H → t D σ H) : PS X e t' := ⟨fun pins s σ H D I hw => h.run pins s σ H D I (i D σ H hw)⟩
theorem _root_.L2.PSs.imp {e : List Stmt} {t t' : TS} (h : PSs X e t) (i : ∀ D σ H, t' D σ H → t D σ H) : PSs X e t' := ⟨fun pins s σ H D I hw => h.run pins s σ H D I (i D σ H hw)⟩
theorem _root_.L2.PA.imp {e : List Expr} {t t' : TA} (h : PA X e t) (i : ∀ σ H Q, t' σ H Q → t σ H Q) : PA X e t' := ⟨fun pos pins s σ H Q I hw => h.run pos pins s σ H Q I (i σ H Q hw)⟩

/-! ### constants, names -/
@[simp] def mC (d : D) : M Sl := fun ρ => some (.val (.dt d) ρ)
theorem px_int {i j pos} : PE X (.Constant (.int i) j pos) (tE X.K pn E (mC (.int i))) := pe_int.imp fun σ H Q ⟨G, ρ, ok, h⟩ => h.dt ok (.int i)
theorem px_bl {b j pos} : PE X (.Constant (.bool b) j pos) (tE X.K pn E (mC (.bl b))) := pe_bl.imp fun σ H Q ⟨G, ρ, ok, h⟩ => h.dt ok (.bl b)
theorem px_non {j pos} : PE X (.Constant .none j pos) (tE X.K pn E (mC .non)) := pe_non.imp fun σ H Q ⟨G, ρ, ok, h⟩ => h.dt ok .non
theorem px_str {x j pos} : PE X (.Constant (.str x) j pos) (tE X.K pn E (mC (.str x))) := pe_str.imp fun σ H Q ⟨G, ρ, ok, h⟩ => h.dt ok (.str x)

/-- a slot read; one's own list is frozen by it -/
@[simp] def mVar (i : Nat) : M Sl := fun ρ => match ρ[i]? with
  | some (.dt d) => some (.val (.dt d) ρ)
  | some (.ol ds) => some (.val (.dt (.lst ds)) (ρ.set i (.dt (.lst ds))))
  | _ => none
theorem EnvOk.frzSlot {K : PySem.W.Frag} {G H : Hp} {σ : St} {ρ : Rho} {i : Nat} {ds : List D} (ok : EnvOk K pn G H σ ρ) (hi : ρ[i]? = some (.ol ds)) :
    ∃ G2 p, σ[i]? = some (some (.ref p)) ∧ EnvOk K pn G2 H σ (ρ.set i (.dt (.lst ds))) ∧ Dt K G2 (.ref p) (.lst ds) ∧ Ext G H (OwnAt σ ρ) G2 H (OwnAt σ (ρ.set i (.dt (.lst ds)))) := by
  obtain ⟨p, vs, a, b, c, e⟩ := ok.ol i ds hi
  have gs : Same G (upd G p (.lst vs)) := same_alloc c
  have hlt := lt_of_get hi
  have hd : Dt K (upd G p (.lst vs)) (.ref p) (.lst ds) := .lst (SqL.of upd_same) (e.mono gs)
  have sub : ∀ {j : Nat} {es : List D}, (ρ.set i (.dt (.lst ds)))[j]? = some (.ol es) → j ≠ i ∧ ρ[j]? = some (.ol es) := fun {j es} h => by
    by_cases z : i = j
    · subst z; rw [List.getElem?_set_self hlt] at h; cases h
    · rw [List.getElem?_set_ne z] at h; exact ⟨fun q => z q.symm, h⟩
  refine ⟨upd G p (.lst vs), p, a, ⟨fun x u h => ?_, by rw [List.length_set]; exact ok.len, fun j d h => ?_, fun j es h => ?_, fun j k es fs q h1 h2 => ?_, ok.pins⟩, hd, gs, fun x h => ?_, fun _ _ h _ => h, fun x ⟨j, es, h1, h2⟩ => .inl ⟨j, es, (sub h1).2, h2⟩⟩
  · by_cases z : x = p
    · subst z; rw [upd_same] at h; cases h; exact b
    · rw [upd_ne z] at h; exact ok.sub x u h
  · by_cases z : i = j
    · subst z; rw [List.getElem?_set_self hlt] at h; cases h
      exact ⟨_, a, hd⟩
    · rw [List.getElem?_set_ne z] at h
      obtain ⟨w, h1, h2⟩ := ok.dt j d h; exact ⟨w, h1, h2.mono gs⟩
  · obtain ⟨n, h⟩ := sub h
    obtain ⟨q, ws, h1, h2, h3, h4⟩ := ok.ol j es h
    have nq : q ≠ p := fun z => by subst z; exact n (ok.inj j i es ds q h hi h1 a)
    exact ⟨q, ws, h1, h2, by rw [upd_ne nq]; exact h3, h4.mono gs⟩
  · exact ok.inj j k es fs q (sub h1).2 (sub h2).2
  · by_cases z : x = p
    · subst z; exact .inr (.inr ⟨i, ds, hi, a⟩)
    · rw [upd_ne z] at h; exact .inl h
theorem px_var {i : Nat} {e : Expr} (h : PE X e (tVar i)) : PE X e (tE X.K pn E (mVar i)) := h.imp fun σ H Q ⟨G, ρ, ok, h⟩ => by
  unfold mVar at h
  split at h
  · rename_i d hi
    obtain ⟨v, a, b⟩ := ok.dt i d hi
    exact ⟨v, a, h.dt ok b⟩
  · rename_i ds hi
    obtain ⟨G2, p, a, ok2, hd, x⟩ := ok.frzSlot hi
    exact ⟨_, a, (h.at x).dt ok2 hd⟩
  · exact h.elim
end
end BT

namespace BT
open PySem L2

section
variable (K : PySem.W.Frag) (pn : List (Nat × Addr)) (E : XK) (σ : St)
/-- behind arguments -/
def PostA (G0 H0 : Hp) (O0 : Addr → Prop) (r : Option (Rs (List D))) (Q : List V → Hp → Prop) : Prop := match r with
  | some (.val ds ρ') => ∀ vs G' H', EnvOk K pn G' H' σ ρ' → Ext G0 H0 O0 G' H' (OwnAt σ ρ') → DtL K G' vs ds → Q vs H'
  | some (.exc x ρ') => ∀ d G' H', EnvOk K pn G' H' σ ρ' → Ext G0 H0 O0 G' H' (OwnAt σ ρ') → XOk K G' H' d x → E (.ref x.cls) d H'
  | none => False
def tA (f : M (List D)) : TA := fun σ H Q => ∃ G ρ, EnvOk K pn G H σ ρ ∧ PostA K pn E σ G H (OwnAt σ ρ) (f ρ) Q
/-- behind a test -/
def PostT (G0 H0 : Hp) (O0 : Addr → Prop) (r : Option (Rs Bool)) (Q : Bool → Hp → Prop) : Prop := match r with
  | some (.val b ρ') => ∀ G' H', EnvOk K pn G' H' σ ρ' → Ext G0 H0 O0 G' H' (OwnAt σ ρ') → Q b H'
  | some (.exc x ρ') => ∀ d G' H', EnvOk K pn G' H' σ ρ' → Ext G0 H0 O0 G' H' (OwnAt σ ρ') → XOk K G' H' d x → E (.ref x.cls) d H'
  | none => False
def tT (f : M Bool) : TT := fun σ H Q => ∃ G ρ, EnvOk K pn G H σ ρ ∧ PostT K pn E σ G H (OwnAt σ ρ) (f ρ) Q
end
@[simp] def nilA : M (List D) := fun ρ => some (.val [] ρ)
@[simp] def consA (f : M Sl) (g : M (List D)) : M (List D) := fun ρ => (bindD f fun d => bindM g fun ds => fun ρ => some (.val (d :: ds) ρ)) ρ
section
variable {K : PySem.W.Frag} {pn : List (Nat × Addr)} {E : XK} {σ : St} {G H : Hp} {ρ : Rho} {O : Addr → Prop}
theorem PostA.at {G0 H0 : Hp} {O0 : Addr → Prop} {r : Option (Rs (List D))} {Q : List V → Hp → Prop} (h : PostA K pn E σ G0 H0 O0 r Q) (x : Ext G0 H0 O0 G H O) : PostA K pn E σ G H O r Q := by
  unfold PostA at h ⊢
  split at h
  · exact fun v G' H' a b => h v G' H' a (x.trans b)
  · exact fun d G' H' a b => h d G' H' a (x.trans b)
  · exact h
theorem PostT.at {G0 H0 : Hp} {O0 : Addr → Prop} {r : Option (Rs Bool)} {Q : Bool → Hp → Prop} (h : PostT K pn E σ G0 H0 O0 r Q) (x : Ext G0 H0 O0 G H O) : PostT K pn E σ G H O r Q := by
  unfold PostT at h ⊢
  split at h
  · exact fun G' H' a b => h G' H' a (x.trans b)
  · exact fun d G' H' a b => h d G' H' a (x.trans b)
  · exact h
theorem PostA.bindD {f : M Sl} {k : D → M (List D)} {Q : List V → Hp → Prop} (ok : EnvOk K pn G H σ ρ) (h : PostA K pn E σ G H (OwnAt σ ρ) (bindD f k ρ) Q) :
    Post K pn E σ G H (OwnAt σ ρ) (f ρ) (fun v H1 => ∃ G1 ρ1 d, EnvOk K pn G1 H1 σ ρ1 ∧ Same G G1 ∧ Dt K G1 v d ∧ PostA K pn E σ G1 H1 (OwnAt σ ρ1) (k d ρ1) Q) := by
  unfold BT.bindD BT.bindM at h
  cases e : f ρ with
  | none => rw [e] at h; exact h
  | some r =>
    rw [e] at h
    cases r with
    | exc x ρ' => exact h
    | val s ρ' =>
      intro v G' H' ok' x'
      cases es : s.frz with
      | none => simp only [es] at h; exact h.elim
      | some d =>
        simp only [es] at h
        obtain ⟨G2, ok2, dt2, x2⟩ := ok'.freeze ok.pinLt es
        have xx := x'.trans x2
        exact ⟨G2, ρ', d, ok2, xx.grow, dt2, h.at xx⟩
theorem PostT.bindD {f : M Sl} {k : D → M Bool} {Q : Bool → Hp → Prop} (ok : EnvOk K pn G H σ ρ) (h : PostT K pn E σ G H (OwnAt σ ρ) (bindD f k ρ) Q) :
    Post K pn E σ G H (OwnAt σ ρ) (f ρ) (fun v H1 => ∃ G1 ρ1 d, EnvOk K pn G1 H1 σ ρ1 ∧ Same G G1 ∧ Dt K G1 v d ∧ PostT K pn E σ G1 H1 (OwnAt σ ρ1) (k d ρ1) Q) := by
  unfold BT.bindD BT.bindM at h
  cases e : f ρ with
  | none => rw [e] at h; exact h
  | some r =>
    rw [e] at h
    cases r with
    | exc x ρ' => exact h
    | val s ρ' =>
      intro v G' H' ok' x'
      cases es : s.frz with
      | none => simp only [es] at h; exact h.elim
      | some d =>
        simp only [es] at h
        obtain ⟨G2, ok2, dt2, x2⟩ := ok'.freeze ok.pinLt es
        have xx := x'.trans x2
        exact ⟨G2, ρ', d, ok2, xx.grow, dt2, h.at xx⟩
theorem PostA.bindA {f : M (List D)} {k : List D → M (List D)} {Q : List V → Hp → Prop} (ok : EnvOk K pn G H σ ρ) (h : PostA K pn E σ G H (OwnAt σ ρ) (bindM f k ρ) Q) :
    PostA K pn E σ G H (OwnAt σ ρ) (f ρ) (fun vs H1 => ∃ G1 ρ1 ds, EnvOk K pn G1 H1 σ ρ1 ∧ Same G G1 ∧ DtL K G1 vs ds ∧ Ext G H (OwnAt σ ρ) G1 H1 (OwnAt σ ρ1) ∧ PostA K pn E σ G1 H1 (OwnAt σ ρ1) (k ds ρ1) Q) := by
  unfold BT.bindM at h
  cases e : f ρ with
  | none => rw [e] at h; exact h
  | some r =>
    rw [e] at h
    cases r with
    | exc x ρ' => exact h
    | val s ρ' => exact fun v G' H' ok' x' d' => ⟨G', ρ', s, ok', x'.grow, d', x', h.at x'⟩
theorem Post.bindA {f : M (List D)} {k : List D → M Sl} {Q : VK} (ok : EnvOk K pn G H σ ρ) (h : Post K pn E σ G H (OwnAt σ ρ) (bindM f k ρ) Q) :
    PostA K pn E σ G H (OwnAt σ ρ) (f ρ) (fun vs H1 => ∃ G1 ρ1 ds, EnvOk K pn G1 H1 σ ρ1 ∧ Same G G1 ∧ DtL K G1 vs ds ∧ Post K pn E σ G1 H1 (OwnAt σ ρ1) (k ds ρ1) Q) := by
  unfold BT.bindM at h
  cases e : f ρ with
  | none => rw [e] at h; exact h
  | some r =>
    rw [e] at h
    cases r with
    | exc x ρ' => exact h
    | val s ρ' => exact fun v G' H' ok' x' d' => ⟨G', ρ', s, ok', x'.grow, d', h.at x'⟩
theorem Post.bindT {f : M Bool} {k : Bool → M Sl} {Q : VK} (ok : EnvOk K pn G H σ ρ) (h : Post K pn E σ G H (OwnAt σ ρ) (bindM f k ρ) Q) :
    PostT K pn E σ G H (OwnAt σ ρ) (f ρ) (fun b H1 => ∃ G1 ρ1, EnvOk K pn G1 H1 σ ρ1 ∧ Same G G1 ∧ Post K pn E σ G1 H1 (OwnAt σ ρ1) (k b ρ1) Q) := by
  unfold BT.bindM at h
  cases e : f ρ with
  | none => rw [e] at h; exact h
  | some r =>
    rw [e] at h
    cases r with
    | exc x ρ' => exact h
    | val s ρ' => exact fun G' H' ok' x' => ⟨G', ρ', ok', x'.grow, h.at x'⟩
theorem PostT.bindT {f : M Bool} {k : Bool → M Bool} {Q : Bool → Hp → Prop} (ok : EnvOk K pn G H σ ρ) (h : PostT K pn E σ G H (OwnAt σ ρ) (bindM f k ρ) Q) :
    PostT K pn E σ G H (OwnAt σ ρ) (f ρ) (fun b H1 => ∃ G1 ρ1, EnvOk K pn G1 H1 σ ρ1 ∧ Same G G1 ∧ PostT K pn E σ G1 H1 (OwnAt σ ρ1) (k b ρ1) Q) := by
  unfold BT.bindM at h
  cases e : f ρ with
  | none => rw [e] at h; exact h
  | some r =>
    rw [e] at h
    cases r with
    | exc x ρ' => exact h
    | val s ρ' => exact fun G' H' ok' x' => ⟨G', ρ', ok', x'.grow, h.at x'⟩
theorem PostT.now {b : Bool} {Q : Bool → Hp → Prop} (h : PostT K pn E σ G H (OwnAt σ ρ) (some (.val b ρ)) Q) (ok : EnvOk K pn G H σ ρ) : Q b H := h G H ok Ext.refl
end

section
variable {X : Cx} {pn : List (Nat × Addr)} {E : XK} {a b c : Expr} {f g f' : M Sl} {pos : Pos}

/-! ### two operands -/
@[simp] def bin2 (f g : M Sl) (k : D → D → M Sl) : M Sl := fun ρ => (bindD f fun d => bindD g fun e => k d e) ρ
def OpD (X : Cx) (pn : List (Nat × Addr)) (E : XK) (r : R2) (k : D → D → M Sl) : Prop := ∀ (σ : St) (G H : Hp) (ρ : Rho) (v u : V) (d e : D) (Q : VK), EnvOk X.K pn G H σ ρ → Dt X.K G v d → Dt X.K G u e →
  Post X.K pn E σ G H (OwnAt σ ρ) (k d e ρ) Q → r v u H Q
theorem tOp_of {r : R2} {k : D → D → M Sl} (h : OpD X pn E r k) (σ : St) (H : Hp) (Q : VK) (w : tE X.K pn E (bin2 f g k) σ H Q) : tOp r (tE X.K pn E f) (tE X.K pn E g) σ H Q := by
  obtain ⟨G, ρ, ok, p⟩ := w
  refine ⟨G, ρ, ok, (Post.bindD ok p).mono fun v H1 ⟨G1, ρ1, d, ok1, s1, d1, p1⟩ => ⟨G1, ρ1, ok1, (Post.bindD ok1 p1).mono fun u H2 ⟨G2, ρ2, e, ok2, s2, d2, p2⟩ => ?_⟩⟩
  exact h σ G2 H2 ρ2 v u d e Q ok2 (d1.mono s2) d2 p2
theorem px_op {op : Operator} {r : R2} {k : D → D → M Sl} (ho : OpR X (binaryOp op) r) (h : OpD X pn E r k) (ha : PE X a (tE X.K pn E f)) (hb : PE X b (tE X.K pn E g)) : PE X (.BinOp a op b pos) (tE X.K pn E (bin2 f g k)) :=
  (pe_op ho ha hb).imp (tOp_of h)
theorem px_cmp {op : CmpOp} {r : R2} {k : D → D → M Sl} (ho : OpR X (compareOp op) r) (h : OpD X pn E r k) (ha : PE X a (tE X.K pn E f)) (hb : PE X b (tE X.K pn E g)) (hm : behindInMarks op b = false) : PE X (.Compare a [op] [b] pos) (tE X.K pn E (bin2 f g k)) :=
  (pe_cmpR ho ha hb hm).imp (tOp_of h)
theorem px_ix {r : R2} {k : D → D → M Sl} (ho : IxR X r) (h : OpD X pn E r k) (ha : PE X a (tE X.K pn E f)) (hb : PE X b (tE X.K pn E g)) (hs : PlainIx b) : PE X (.Subscript a b pos) (tE X.K pn E (bin2 f g k)) :=
  (pe_ix ho ha hb hs).imp (tOp_of h)

/-! ### truth -/
@[simp] def toB (f : M Sl) : M Bool := fun ρ => (bindD f fun d => match d with | .bl b => fun ρ => some (.val b ρ) | _ => fun _ => none) ρ
theorem px_test {t : TE} (i : ∀ σ H Q, tE X.K pn E f σ H Q → t σ H Q) (σ : St) (H : Hp) (Q : Bool → Hp → Prop) (w : tT X.K pn E (toB f) σ H Q) : tB t σ H Q := by
  obtain ⟨G, ρ, ok, p⟩ := w
  refine i _ _ _ ⟨G, ρ, ok, (PostT.bindD ok p).mono fun v H1 ⟨G1, ρ1, d, ok1, s1, d1, p1⟩ => ?_⟩
  cases d1 with
  | bl b => exact ⟨b, rfl, p1.now ok1⟩
  | _ => exact p1.elim
/-- an expression that gives a bool, as a test -/
theorem pt_x (h : PE X a (tE X.K pn E f)) (he : ∀ whole, isTrue a X.env whole = (do let v ← whole; standAt a.pos; holding [v] (truthy v)) := by intro _; rfl) : PT X a (tT X.K pn E (toB f)) :=
  (pt_val h he).imp (px_test fun _ _ _ h => h)
theorem pt_c {op : CmpOp} {r : R2} {k : D → D → M Sl} (ho : OpR X (compareOp op) r) (h : OpD X pn E r k) (ha : PE X a (tE X.K pn E f)) (hb : PE X b (tE X.K pn E g)) (hm : behindInMarks op b = false) : PT X (.Compare a [op] [b] pos) (tT X.K pn E (toB (bin2 f g k))) :=
  (pt_cmpR ho ha hb hm).imp (px_test (tOp_of h))
@[simp] def notT (f : M Bool) : M Bool := fun ρ => (bindM f fun b => fun ρ => some (.val (!b) ρ)) ρ
theorem ptx_not {f : M Bool} (h : PT X a (tT X.K pn E f)) : PT X (.UnaryOp .Not a pos) (tT X.K pn E (notT f)) := (pt_not h).imp fun σ H Q ⟨G, ρ, ok, p⟩ =>
  ⟨G, ρ, ok, by
    have q := PostT.bindT ok p
    unfold PostT at q ⊢
    split
    · rename_i e; rw [e] at q
      intro G' H' a b
      obtain ⟨G1, ρ1, ok1, s1, p1⟩ := q G' H' a b
      exact p1 _ _ ok1 Ext.refl
    · rename_i e; rw [e] at q; exact q
    · rename_i e; rw [e] at q; exact q⟩
theorem PostT.mono {K : PySem.W.Frag} {σ : St} {G0 H0 : Hp} {O0 : Addr → Prop} {r : Option (Rs Bool)} {Q Q' : Bool → Hp → Prop} (h : PostT K pn E σ G0 H0 O0 r Q) (q : ∀ v H, Q v H → Q' v H) : PostT K pn E σ G0 H0 O0 r Q' := by
  unfold PostT at h ⊢
  split at h
  · exact fun G' H' a b => q _ _ (h G' H' a b)
  · exact h
  · exact h
theorem PostA.mono {K : PySem.W.Frag} {σ : St} {G0 H0 : Hp} {O0 : Addr → Prop} {r : Option (Rs (List D))} {Q Q' : List V → Hp → Prop} (h : PostA K pn E σ G0 H0 O0 r Q) (q : ∀ v H, Q v H → Q' v H) : PostA K pn E σ G0 H0 O0 r Q' := by
  unfold PostA at h ⊢
  split at h
  · exact fun v G' H' a b c => q _ _ (h v G' H' a b c)
  · exact h
  · exact h
@[simp] def andT (f g : M Bool) : M Bool := fun ρ => (bindM f fun b => if b = true then g else fun ρ => some (.val false ρ)) ρ
@[simp] def orT (f g : M Bool) : M Bool := fun ρ => (bindM f fun b => if b = true then fun ρ => some (.val true ρ) else g) ρ
variable {rest : List Expr}
theorem pw_x1 {op} {p q : M Bool} (hw : PW X (.BoolOp op [a] pos) (tT X.K pn E p)) : PW X (.BoolOp op [a] pos) (tT X.K pn E p) := hw
theorem pwx_and {p q : M Bool} (ha : PT X a (tT X.K pn E p)) (hb : PW X (.BoolOp .And (b :: rest) pos) (tT X.K pn E q)) : PW X (.BoolOp .And (a :: b :: rest) pos) (tT X.K pn E (andT p q)) :=
  (pw_and ha hb).imp fun σ H Q ⟨G, ρ, ok, h⟩ => ⟨G, ρ, ok, (PostT.bindT ok h).mono fun b H1 ⟨G1, ρ1, ok1, s1, p1⟩ => by
    cases b with
    | true => exact ⟨G1, ρ1, ok1, p1⟩
    | false => exact p1.now ok1⟩
theorem pwx_or {p q : M Bool} (ha : PT X a (tT X.K pn E p)) (hb : PW X (.BoolOp .Or (b :: rest) pos) (tT X.K pn E q)) : PW X (.BoolOp .Or (a :: b :: rest) pos) (tT X.K pn E (orT p q)) :=
  (pw_or ha hb).imp fun σ H Q ⟨G, ρ, ok, h⟩ => ⟨G, ρ, ok, (PostT.bindT ok h).mono fun b H1 ⟨G1, ρ1, ok1, s1, p1⟩ => by
    cases b with
    | true => exact p1.now ok1
    | false => exact ⟨G1, ρ1, ok1, p1⟩⟩
/-- as values -/
@[simp] def andV (f g : M Sl) : M Sl := fun ρ => (bindD f fun d => match d with | .bl b => (if b = true then g else retD (.bl false)) | _ => fun _ => none) ρ
@[simp] def orV (f g : M Sl) : M Sl := fun ρ => (bindD f fun d => match d with | .bl b => (if b = true then retD (.bl true) else g) | _ => fun _ => none) ρ
@[simp] def notV (f : M Sl) : M Sl := fun ρ => (bindD f fun d => match d with | .bl b => retD (.bl (!b)) | _ => fun _ => none) ρ
theorem px_and (ha : PE X a (tE X.K pn E f)) (hb : PE X (.BoolOp .And (b :: rest) pos) (tE X.K pn E g)) : PE X (.BoolOp .And (a :: b :: rest) pos) (tE X.K pn E (andV f g)) :=
  (pe_and ha hb).imp fun σ H Q ⟨G, ρ, ok, h⟩ => ⟨G, ρ, ok, (Post.bindD ok h).mono fun v H1 ⟨G1, ρ1, d, ok1, s1, d1, p1⟩ => by
    cases d1 with
    | bl b =>
      refine ⟨b, rfl, ?_⟩
      cases b with
      | true => exact ⟨G1, ρ1, ok1, p1⟩
      | false => exact p1.dt ok1 (.bl false)
    | _ => exact p1.elim⟩
theorem px_or (ha : PE X a (tE X.K pn E f)) (hb : PE X (.BoolOp .Or (b :: rest) pos) (tE X.K pn E g)) : PE X (.BoolOp .Or (a :: b :: rest) pos) (tE X.K pn E (orV f g)) :=
  (pe_or ha hb).imp fun σ H Q ⟨G, ρ, ok, h⟩ => ⟨G, ρ, ok, (Post.bindD ok h).mono fun v H1 ⟨G1, ρ1, d, ok1, s1, d1, p1⟩ => by
    cases d1 with
    | bl b =>
      refine ⟨b, rfl, ?_⟩
      cases b with
      | false => exact ⟨G1, ρ1, ok1, p1⟩
      | true => exact p1.dt ok1 (.bl true)
    | _ => exact p1.elim⟩
theorem px_not (ha : PE X a (tE X.K pn E f)) : PE X (.UnaryOp .Not a pos) (tE X.K pn E (notV f)) :=
  (pe_not ha).imp fun σ H Q ⟨G, ρ, ok, h⟩ => ⟨G, ρ, ok, (Post.bindD ok h).mono fun v H1 ⟨G1, ρ1, d, ok1, s1, d1, p1⟩ => by
    cases d1 with
    | bl b => exact ⟨b, rfl, p1.dt ok1 (.bl (!b))⟩
    | _ => exact p1.elim⟩
@[simp] def iteV (t : M Bool) (f g : M Sl) : M Sl := fun ρ => (bindM t fun b => if b = true then f else g) ρ
theorem px_ite {p : M Bool} (hc : PT X c (tT X.K pn E p)) (ha : PE X a (tE X.K pn E f)) (hb : PE X b (tE X.K pn E g)) : PE X (.IfExp c a b pos) (tE X.K pn E (iteV p f g)) :=
  (pe_ifExp hc ha hb).imp fun σ H Q ⟨G, ρ, ok, h⟩ => ⟨G, ρ, ok, (Post.bindT ok h).mono fun b H1 ⟨G1, ρ1, ok1, s1, p1⟩ => by
    cases b with
    | true => exact ⟨G1, ρ1, ok1, p1⟩
    | false => exact ⟨G1, ρ1, ok1, p1⟩⟩

/-! ### arguments, displays -/
theorem pax_nil : PA X [] (tA X.K pn E nilA) := pa_nil.imp fun σ H Q ⟨G, ρ, ok, h⟩ => h [] G H ok Ext.refl .nil
theorem pax_cons {e : Expr} {es : List Expr} {fs : M (List D)} (ha : PE X e (tE X.K pn E f)) (hr : PA X es (tA X.K pn E fs)) (hs : starEach (e :: es) X.env = (false, eval e X.env) :: starEach es X.env := by rfl) : PA X (e :: es) (tA X.K pn E (consA f fs)) :=
  (pa_cons ha hr hs).imp fun σ H Q ⟨G, ρ, ok, h⟩ => ⟨G, ρ, ok, (PostA.bindD ok h).mono fun v H1 ⟨G1, ρ1, d, ok1, s1, d1, p1⟩ =>
    ⟨G1, ρ1, ok1, (PostA.bindA ok1 p1).mono fun vs H2 ⟨G2, ρ2, ds, ok2, s2, d2, x2, p2⟩ => p2 _ G2 H2 ok2 Ext.refl (.cons (d1.mono s2) d2)⟩⟩
@[simp] def shortL (ds : List D) (k : M Sl) : M Sl := fun ρ => (if ds.length ≤ sizeLine then k else fun _ => none) ρ
@[simp] def mTup (fs : M (List D)) : M Sl := fun ρ => (bindM fs fun ds => shortL ds (retD (.tup ds))) ρ
@[simp] def mLst (fs : M (List D)) : M Sl := fun ρ => (bindM fs fun ds => shortL ds fun ρ => some (.val (.ol ds) ρ)) ρ
theorem px_tup {es : List Expr} {x1} {fs : M (List D)} (h : PA X es (tA X.K pn E fs)) : PE X (.Tuple es x1 pos) (tE X.K pn E (mTup fs)) :=
  (pe_tup h).imp fun σ H Q ⟨G, ρ, ok, h⟩ => ⟨G, ρ, ok, (Post.bindA ok h).mono fun vs H1 ⟨G1, ρ1, ds, ok1, s1, d1, p1⟩ => by
    unfold shortL at p1
    split at p1
    · rename_i hz
      exact ⟨by rw [d1.length]; exact hz, fun p hp => p1.tup ok1 d1 hp⟩
    · exact p1.elim⟩
theorem px_lst {es : List Expr} {fs : M (List D)} (h : PA X es (tA X.K pn E fs)) : PE X (.List es pos) (tE X.K pn E (mLst fs)) :=
  (pe_lst h).imp fun σ H Q ⟨G, ρ, ok, h⟩ => ⟨G, ρ, ok, (Post.bindA ok h).mono fun vs H1 ⟨G1, ρ1, ds, ok1, s1, d1, p1⟩ => by
    unfold shortL at p1
    split at p1
    · rename_i hz
      exact ⟨by rw [d1.length]; exact hz, fun p hp => p1.lst ok1 d1 hp⟩
    · exact p1.elim⟩

/-! ### calls of built-ins -/
def CallD (X : Cx) (pn : List (Nat × Addr)) (E : XK) (r : List V → Hp → VK → Prop) (k : List D → M Sl) : Prop := ∀ (σ : St) (G H : Hp) (ρ : Rho) (vs : List V) (ds : List D) (Q : VK), EnvOk X.K pn G H σ ρ → DtL X.K G vs ds →
  Post X.K pn E σ G H (OwnAt σ ρ) (k ds ρ) Q → r vs H Q
@[simp] def mCall (k : List D → M Sl) (fs : M (List D)) : M Sl := fun ρ => (bindM fs k) ρ
theorem px_callB {x : Str} {id : String} {r : List V → Hp → VK → Prop} {k : List D → M Sl} {p : Pos} {e : Expr} {es : List Expr} {fs : M (List D)} (hc : CallR X (.builtin id) r) (h : CallD X pn E r k) (hg : Gl X x) (hm : X.mg x = none) (hv : bootBuiltins x = some (.builtin id)) (ha : PA X (e :: es) (tA X.K pn E fs))
    (hn : x ≠ "__name__" := by decide) (hdb : (x == ("__debug__" : Str)) = false := by decide) (he : starEach (e :: es) X.env = (false, eval e X.env) :: starEach es X.env := by rfl) (hpl : (backTo pos (starEach es X.env)).any (·.1) = false := by rfl) :
    PE X (.Call (.Name x p) (e :: es) [] pos) (tE X.K pn E (mCall k fs)) :=
  (pe_callB hc hg hm hv ha hn hdb he hpl).imp fun σ H Q ⟨G, ρ, ok, w⟩ => ⟨G, ρ, ok, (Post.bindA ok w).mono fun vs H1 ⟨G1, ρ1, ds, ok1, s1, d1, p1⟩ => h σ G1 H1 ρ1 vs ds Q ok1 d1 p1⟩
theorem px_callTy {x : Str} {T : String} {r : List V → Hp → VK → Prop} {k : List D → M Sl} {p : Pos} {e : Expr} {es : List Expr} {fs : M (List D)} (hc : CallR X (.type T) r) (h : CallD X pn E r k) (hg : Gl X x) (hm : X.mg x = none) (hv : bootBuiltins x = some (.type T)) (ha : PA X (e :: es) (tA X.K pn E fs))
    (hn : x ≠ "__name__" := by decide) (hdb : (x == ("__debug__" : Str)) = false := by decide) (he : starEach (e :: es) X.env = (false, eval e X.env) :: starEach es X.env := by rfl) (hpl : (backTo pos (starEach es X.env)).any (·.1) = false := by rfl) :
    PE X (.Call (.Name x p) (e :: es) [] pos) (tE X.K pn E (mCall k fs)) :=
  (pe_callTy hc hg hm hv ha hn hdb he hpl).imp fun σ H Q ⟨G, ρ, ok, w⟩ => ⟨G, ρ, ok, (Post.bindA ok w).mono fun vs H1 ⟨G1, ρ1, ds, ok1, s1, d1, p1⟩ => h σ G1 H1 ρ1 vs ds Q ok1 d1 p1⟩
end
end BT

namespace BT
open PySem L2

inductive SRs where | nx (ρ : Rho) | rt (s : Sl) (ρ : Rho) | bk (ρ : Rho) | ct (ρ : Rho) | exc (x : Ex) (ρ : Rho)
abbrev MS := Rho → Option SRs
section
variable (K : PySem.W.Frag) (pn : List (Nat × Addr)) (E : XK)
def PostS (G0 H0 : Hp) (O0 : Addr → Prop) (r : Option SRs) (D : Ends) : Prop := match r with
  | some (.nx ρ') => ∀ σ' G' H', EnvOk K pn G' H' σ' ρ' → Ext G0 H0 O0 G' H' (OwnAt σ' ρ') → D.nx σ' H'
  | some (.bk ρ') => ∀ σ' G' H', EnvOk K pn G' H' σ' ρ' → Ext G0 H0 O0 G' H' (OwnAt σ' ρ') → D.bk σ' H'
  | some (.ct ρ') => ∀ σ' G' H', EnvOk K pn G' H' σ' ρ' → Ext G0 H0 O0 G' H' (OwnAt σ' ρ') → D.ct σ' H'
  | some (.rt s ρ') => ∀ v σ' G' H', EnvOk K pn G' H' (σ' ++ [some v]) (ρ' ++ [s]) → Ext G0 H0 O0 G' H' (OwnAt (σ' ++ [some v]) (ρ' ++ [s])) → D.rt v H'
  | some (.exc x ρ') => ∀ d σ' G' H', EnvOk K pn G' H' σ' ρ' → Ext G0 H0 O0 G' H' (OwnAt σ' ρ') → XOk K G' H' d x → E (.ref x.cls) d H'
  | none => False
def tS (f : MS) : TS := fun D σ H => ∃ G ρ, EnvOk K pn G H σ ρ ∧ PostS K pn E G H (OwnAt σ ρ) (f ρ) D
end
@[simp] def bindES {α : Type} (f : M α) (k : α → MS) : MS := fun ρ => match f ρ with
  | some (.val s ρ') => k s ρ'
  | some (.exc x ρ') => some (.exc x ρ')
  | none => none
@[simp] def seqS (f g : MS) : MS := fun ρ => match f ρ with
  | some (.nx ρ') => g ρ'
  | r => r
@[simp] def nxS : MS := fun ρ => some (.nx ρ)

section
variable {K : PySem.W.Frag} {pn : List (Nat × Addr)} {E : XK} {σ : St} {G H : Hp} {ρ : Rho} {O : Addr → Prop} {D : Ends}
theorem PostS.at {G0 H0 : Hp} {O0 : Addr → Prop} {r : Option SRs} (h : PostS K pn E G0 H0 O0 r D) (x : Ext G0 H0 O0 G H O) : PostS K pn E G H O r D := by
  unfold PostS at h ⊢
  split at h
  · exact fun s G' H' a b => h s G' H' a (x.trans b)
  · exact fun s G' H' a b => h s G' H' a (x.trans b)
  · exact fun s G' H' a b => h s G' H' a (x.trans b)
  · exact fun v s G' H' a b => h v s G' H' a (x.trans b)
  · exact fun d s G' H' a b => h d s G' H' a (x.trans b)
  · exact h
theorem PostS.bindE {f : M Sl} {k : Sl → MS} (ok : EnvOk K pn G H σ ρ) (h : PostS K pn E G H (OwnAt σ ρ) (bindES f k ρ) D) :
    Post K pn E σ G H (OwnAt σ ρ) (f ρ) (fun v H1 => ∃ G1 ρ1 s, EnvOk K pn G1 H1 (σ ++ [some v]) (ρ1 ++ [s]) ∧ PostS K pn E G1 H1 (OwnAt (σ ++ [some v]) (ρ1 ++ [s])) (k s ρ1) D) := by
  unfold bindES at h
  cases e : f ρ with
  | none => rw [e] at h; exact h
  | some r =>
    rw [e] at h
    cases r with
    | exc x ρ' => exact fun d G' H' a b c => h d σ G' H' a b c
    | val s ρ' => exact fun v G' H' a b => ⟨G', ρ', s, a, h.at b⟩
theorem PostS.bindT {f : M Bool} {k : Bool → MS} (ok : EnvOk K pn G H σ ρ) (h : PostS K pn E G H (OwnAt σ ρ) (bindES f k ρ) D) :
    PostT K pn E σ G H (OwnAt σ ρ) (f ρ) (fun b H1 => ∃ G1 ρ1, EnvOk K pn G1 H1 σ ρ1 ∧ PostS K pn E G1 H1 (OwnAt σ ρ1) (k b ρ1) D) := by
  unfold bindES at h
  cases e : f ρ with
  | none => rw [e] at h; exact h
  | some r =>
    rw [e] at h
    cases r with
    | exc x ρ' => exact fun d G' H' a b c => h d σ G' H' a b c
    | val s ρ' => exact fun G' H' a b => ⟨G', ρ', a, h.at b⟩

theorem EnvOk.setSlot {v : V} {s : Sl} {i : Nat} (ok : EnvOk K pn G H (σ ++ [some v]) (ρ ++ [s])) (hi : i < ρ.length) (hp : ∀ q ∈ pn, q.1 ≠ i ∧ q.1 < σ.length) :
    EnvOk K pn G H (σ.set i (some v)) (ρ.set i s) ∧ ∀ a, OwnAt (σ.set i (some v)) (ρ.set i s) a → OwnAt (σ ++ [some v]) (ρ ++ [s]) a := by
  have hl : σ.length = ρ.length := by have := ok.len; simpa using this
  -- where a slot of the new state stood
  have src : ∀ {j : Nat} {t : Sl}, (ρ.set i s)[j]? = some t → ∃ k, (ρ ++ [s])[k]? = some t ∧ (σ ++ [some v])[k]? = (σ.set i (some v))[j]? ∧ (k = if j = i then ρ.length else j) := fun {j t} h => by
    by_cases z : i = j
    · subst z
      rw [List.getElem?_set_self hi] at h; cases h
      exact ⟨ρ.length, get_append_eq, by rw [← hl, get_append_eq, List.getElem?_set_self (by omega)], by rw [if_pos rfl]⟩
    · rw [List.getElem?_set_ne z] at h
      have := lt_of_get h
      exact ⟨j, by rw [get_append_lt this]; exact h, by rw [get_append_lt (by omega), List.getElem?_set_ne z], by rw [if_neg (fun q => z q.symm)]⟩
  refine ⟨⟨ok.sub, by simp [hl], fun j d h => ?_, fun j ds h => ?_, fun j k ds es p h1 h2 h3 h4 => ?_, fun q hq => ?_⟩, fun a ⟨j, ds, h1, h2⟩ => ?_⟩
  · obtain ⟨k, e1, e2, _⟩ := src h
    obtain ⟨w, a, b⟩ := ok.dt k d e1
    exact ⟨w, by rw [← e2]; exact a, b⟩
  · obtain ⟨k, e1, e2, _⟩ := src h
    obtain ⟨p, vs, a, b⟩ := ok.ol k ds e1
    exact ⟨p, vs, by rw [← e2]; exact a, b⟩
  · obtain ⟨k1, a1, a2, a3⟩ := src h1
    obtain ⟨k2, b1, b2, b3⟩ := src h2
    have := ok.inj k1 k2 ds es p a1 b1 (by rw [a2]; exact h3) (by rw [b2]; exact h4)
    rw [a3, b3] at this
    have l1 := lt_of_get h1
    have l2 := lt_of_get h2
    rw [List.length_set] at l1 l2
    split at this <;> split at this <;> omega
  · obtain ⟨n, l⟩ := hp q hq
    have := ok.pins q hq
    rw [get_append_lt l] at this
    rw [List.getElem?_set_ne (fun z => n z.symm)]; exact this
  · obtain ⟨k, e1, e2, _⟩ := src h1
    exact ⟨k, ds, e1, by rw [e2]; exact h2⟩
theorem Ext.sub {G' H' : Hp} {O' O2 : Addr → Prop} (x : Ext G H O G' H' O') (h : ∀ a, O2 a → O' a) : Ext G H O G' H' O2 := ⟨x.grow, x.fresh, x.keep, fun a q => x.own a (h a q)⟩
end

section
variable {X : Cx} {pn : List (Nat × Addr)} {E : XK} {pos : Pos}
abbrev NoPin (pn : List (Nat × Addr)) (i : Nat) : Prop := ∀ q ∈ pn, q.1 ≠ i
theorem np {own : List Nat} {i : Nat} (h : ∀ q ∈ pn, q.1 ∈ own) (d : i ∉ own) : NoPin pn i := fun q hq e => d (e ▸ h q hq)

theorem psx_nil : PSs X [] (tS X.K pn E nxS) := pss_nil.imp fun D σ H ⟨G, ρ, ok, h⟩ => h σ G H ok Ext.refl
theorem psx_cons {st : Stmt} {rest : List Stmt} {f g : MS} (h1 : PS X st (tS X.K pn E f)) (h2 : PSs X rest (tS X.K pn E g)) : PSs X (st :: rest) (tS X.K pn E (seqS f g)) :=
  (pss_cons h1 h2).imp fun D σ H ⟨G, ρ, ok, h⟩ => by
    refine ⟨G, ρ, ok, ?_⟩
    unfold seqS at h
    cases e : f ρ with
    | none => rw [e] at h; exact h
    | some r =>
      rw [e] at h
      cases r with
      | nx ρ' => exact fun s G' H' a b => ⟨G', ρ', a, h.at b⟩
      | rt _ _ => exact h
      | bk _ => exact h
      | ct _ => exact h
      | exc _ _ => exact h
theorem psx_one {st : Stmt} {f : MS} (h1 : PS X st (tS X.K pn E f)) : PSs X [st] (tS X.K pn E f) := pss_one h1
theorem psx_pass : PS X (.Pass pos) (tS X.K pn E nxS) := ps_pass.imp fun D σ H ⟨G, ρ, ok, h⟩ => h σ G H ok Ext.refl
theorem psx_break : PS X (.Break pos) (tS X.K pn E fun ρ => some (.bk ρ)) := ps_break.imp fun D σ H ⟨G, ρ, ok, h⟩ => h σ G H ok Ext.refl
theorem psx_cont : PS X (.Continue pos) (tS X.K pn E fun ρ => some (.ct ρ)) := ps_continue.imp fun D σ H ⟨G, ρ, ok, h⟩ => h σ G H ok Ext.refl
@[simp] def ifS (t : M Bool) (f g : MS) : MS := fun ρ => (bindES t fun b => if b = true then f else g) ρ
theorem psx_if {c : Expr} {a b : List Stmt} {t : M Bool} {f g : MS} (hc : PT X c (tT X.K pn E t)) (ha : PSs X a (tS X.K pn E f)) (hb : PSs X b (tS X.K pn E g)) : PS X (.If c a b pos) (tS X.K pn E (ifS t f g)) :=
  (ps_if hc ha hb).imp fun D σ H ⟨G, ρ, ok, h⟩ => ⟨G, ρ, ok, (PostS.bindT ok h).mono fun b H1 ⟨G1, ρ1, ok1, p1⟩ => by
    cases b with
    | true => exact ⟨G1, ρ1, ok1, p1⟩
    | false => exact ⟨G1, ρ1, ok1, p1⟩⟩
@[simp] def dropS (f : M Sl) : MS := fun ρ => (bindES f fun _ ρ => some (.nx ρ)) ρ
theorem psx_expr {e : Expr} {f : M Sl} (he : PE X e (tE X.K pn E f)) (hs : swapsWith e none pos.line X.env = pure false := by rfl) : PS X (.Expr e pos) (tS X.K pn E (dropS f)) :=
  (ps_expr he hs).imp fun D σ H ⟨G, ρ, ok, h⟩ => ⟨G, ρ, ok, (PostS.bindE ok h).mono fun v H1 ⟨G1, ρ1, s, ok1, p1⟩ => by
    have ok2 := ok1.pop ok.pinLt
    exact p1 σ G1 H1 ok2 ((Ext.refl (O := OwnAt (σ ++ [some v]) (ρ1 ++ [s]))).sub fun a h => own_up ok2.len h)⟩
@[simp] def retS (f : M Sl) : MS := fun ρ => (bindES f fun s ρ => some (.rt s ρ)) ρ
theorem psx_ret {e : Expr} {f : M Sl} (he : PE X e (tE X.K pn E f)) : PS X (.Return (some e) pos) (tS X.K pn E (retS f)) :=
  (ps_ret he).imp fun D σ H ⟨G, ρ, ok, h⟩ => ⟨G, ρ, ok, (PostS.bindE ok h).mono fun v H1 ⟨G1, ρ1, s, ok1, p1⟩ => p1 v σ G1 H1 ok1 Ext.refl⟩
theorem psx_retN : PS X (.Return none pos) (tS X.K pn E fun ρ => some (.rt (.dt .non) ρ)) :=
  ps_retN.imp fun D σ H ⟨G, ρ, ok, h⟩ => h .non σ G H (ok.push_dt .non) (Ext.push_dt (O' := OwnAt σ ρ) ok.len Ext.refl)
/-- x = e, a slot -/
@[simp] def asgS (i : Nat) (f : M Sl) : MS := fun ρ => (bindES f fun s ρ => if i < ρ.length then some (.nx (ρ.set i s)) else none) ρ
theorem asg_of {i : Nat} {f : M Sl} (hp : NoPin pn i) (D : Ends) (σ : St) (H : Hp) (w : tS X.K pn E (asgS i f) D σ H) : tAsg (tE X.K pn E f) (gName i) D σ H := by
  obtain ⟨G, ρ, ok, h⟩ := w
  refine ⟨G, ρ, ok, (PostS.bindE ok h).mono fun v H1 ⟨G1, ρ1, s, ok1, p1⟩ => ?_⟩
  show D.nx (σ.set i (some v)) H1
  by_cases c : i < ρ1.length
  · rw [if_pos c] at p1
    obtain ⟨ok2, sub⟩ := ok1.setSlot c fun q hq => ⟨hp q hq, ok.pinLt q hq⟩
    exact p1 _ G1 H1 ok2 ((Ext.refl (O := OwnAt (σ ++ [some v]) (ρ1 ++ [s]))).sub sub)
  · rw [if_neg c] at p1; exact p1.elim
theorem psx_set {i : Nat} {x : Str} {e : Expr} {f : M Sl} {pos' : Pos} (hp : NoPin pn i) (hN : X.N.Nodup) (hi : X.N[i]? = some x) (hx : Loc X.env.scope x) (he : PE X e (tE X.K pn E f)) (hs : swapsWith e (some (.Name x pos')) pos.line X.env = pure false := by rfl)
    (hf : X.fn x = true ∨ X.env.scope.names.lookup x = some .local := by first | exact .inl rfl | exact .inr rfl | assumption) : PS X (.Assign [.Name x pos'] e pos) (tS X.K pn E (asgS i f)) :=
  (ps_set hN hi hx he hs hf).imp (asg_of hp)

/-! ### targets -/
def GB (K : PySem.W.Frag) (pn : List (Nat × Addr)) (g : TG) (b : D → Rho → Option Rho) (bs : List Nat) : Prop := ∀ (v : V) (d : D) (σ : St) (G H : Hp) (ρ : Rho) (Q : St → Hp → Prop), EnvOk K pn G H σ ρ → Dt K G v d →
  (match b d ρ with | some ρ' => ∀ σ', (σ'.length = σ.length ∧ ∀ j : Nat, j ∉ bs → σ'[j]? = σ[j]?) → EnvOk K pn G H σ' ρ' → (∀ a, OwnAt σ' ρ' a → OwnAt σ ρ a) → Q σ' H | none => False) → g v σ H Q
@[simp] def bName (i : Nat) : D → Rho → Option Rho := fun d ρ => if i < ρ.length then some (ρ.set i (.dt d)) else none
theorem gb_name {K : PySem.W.Frag} {i : Nat} (hp : NoPin pn i) : GB K pn (gName i) (bName i) [i] := fun v d σ G H ρ Q ok hd h => by
  unfold bName at h
  by_cases c : i < ρ.length
  · simp only [if_pos c] at h
    have ok' := ok.push_dt hd
    obtain ⟨ok2, sub⟩ := ok'.setSlot c fun q hq => ⟨hp q hq, ok.pinLt q hq⟩
    exact h _ ⟨by rw [List.length_set], fun j hj => List.getElem?_set_ne (fun z => hj (by simp [z]))⟩ ok2 fun a q => own_push_dt ok.len (sub a q)
  · simp only [if_neg c] at h
def GBs (K : PySem.W.Frag) (pn : List (Nat × Addr)) (g : TGs) (b : List D → Rho → Option Rho) (bs : List Nat) : Prop := ∀ (vs : List V) (ds : List D) (σ : St) (G H : Hp) (ρ : Rho) (Q : St → Hp → Prop), EnvOk K pn G H σ ρ → DtL K G vs ds →
  (match b ds ρ with | some ρ' => ∀ σ', (σ'.length = σ.length ∧ ∀ j : Nat, j ∉ bs → σ'[j]? = σ[j]?) → EnvOk K pn G H σ' ρ' → (∀ a, OwnAt σ' ρ' a → OwnAt σ ρ a) → Q σ' H | none => False) → g vs σ H Q
@[simp] def bNil : List D → Rho → Option Rho := fun ds ρ => match ds with | [] => some ρ | _ => none
@[simp] def bCons (b : D → Rho → Option Rho) (c : List D → Rho → Option Rho) : List D → Rho → Option Rho := fun ds ρ => match ds with
  | [] => none
  | d :: r => match b d ρ with | some ρ' => c r ρ' | none => none
theorem gbs_nil {K : PySem.W.Frag} : GBs K pn gNil bNil [] := fun vs ds σ G H ρ Q ok hd h => by
  cases hd with
  | nil => exact ⟨rfl, h σ ⟨rfl, fun _ _ => rfl⟩ ok fun _ q => q⟩
  | cons _ _ => exact h.elim
theorem gbs_cons {K : PySem.W.Frag} {g : TG} {u : TGs} {b : D → Rho → Option Rho} {c : List D → Rho → Option Rho} {bs cs : List Nat} (h1 : GB K pn g b bs) (h2 : GBs K pn u c cs) : GBs K pn (gCons g u) (bCons b c) (bs ++ cs) := fun vs ds σ G H ρ Q ok hd h => by
  cases hd with
  | nil => exact h.elim
  | cons hx hr =>
    rename_i v vr d dr
    refine ⟨_, _, rfl, h1 _ _ σ G H ρ _ ok hx ?_⟩
    simp only [bCons] at h
    cases e : b d ρ with
    | none => rw [e] at h; exact h
    | some ρ' =>
      rw [e] at h
      intro σ' hl ok' sub
      refine h2 _ _ σ' G H ρ' Q ok' hr ?_
      simp only at h ⊢
      cases e2 : c dr ρ' with
      | none => rw [e2] at h; exact h
      | some ρ2 =>
        rw [e2] at h
        exact fun σ2 hl2 ok2 sub2 => h σ2 ⟨hl2.1.trans hl.1, fun j hj => (hl2.2 j fun z => hj (List.mem_append_right _ z)).trans (hl.2 j fun z => hj (List.mem_append_left _ z))⟩ ok2 fun a q => sub a (sub2 a q)
@[simp] def bTup (n : Nat) (b : List D → Rho → Option Rho) : D → Rho → Option Rho := fun d ρ => match d with
  | .tup ds => if ds.length = n then b ds ρ else none
  | _ => none
theorem gb_tup {K : PySem.W.Frag} {n : Nat} {u : TGs} {b : List D → Rho → Option Rho} {bs : List Nat} (h1 : GBs K pn u b bs) : GB K pn (gTup K n u) (bTup n b) bs := fun v d σ G H ρ Q ok hd h => by
  cases hd with
  | tup hs ha =>
    rename_i a xs ds
    simp only [bTup] at h
    by_cases c : ds.length = n
    · rw [if_pos c] at h
      refine ⟨_, _, rfl, ?_, by rw [ha.length]; exact c, h1 _ _ σ G H ρ Q ok ha h⟩
      exact Same.sqT ok.sub hs
    · rw [if_neg c] at h; exact h.elim
  | _ => exact h.elim
/-- target = e, the target of any form -/
@[simp] def asgG (b : D → Rho → Option Rho) (f : M Sl) : MS := fun ρ => (bindES f fun s ρ => match s.frz with
  | some d => (match b d ρ with | some ρ' => some (.nx ρ') | none => none)
  | none => none) ρ
theorem asgG_of {g : TG} {b : D → Rho → Option Rho} {f : M Sl} {bs : List Nat} (hg : GB X.K pn g b bs) (D : Ends) (σ : St) (H : Hp) (w : tS X.K pn E (asgG b f) D σ H) : tAsg (tE X.K pn E f) g D σ H := by
  obtain ⟨G, ρ, ok, h⟩ := w
  refine ⟨G, ρ, ok, (PostS.bindE ok h).mono fun v H1 ⟨G1, ρ1, s, ok1, p1⟩ => ?_⟩
  cases es : s.frz with
  | none => simp only [es] at p1; exact p1.elim
  | some d =>
    simp only [es] at p1
    obtain ⟨G2, ok2, d2, x2⟩ := ok1.freeze ok.pinLt es
    refine hg v d σ G2 H1 ρ1 _ ok2 d2 ?_
    cases e : b d ρ1 with
    | none => rw [e] at p1; exact p1
    | some ρ2 =>
      rw [e] at p1
      exact fun σ' hl ok' sub => p1 σ' G2 H1 ok' (x2.sub sub)
theorem psx_asg {tg e : Expr} {g : TG} {b : D → Rho → Option Rho} {f : M Sl} {bs : List Nat} (hg : GB X.K pn g b bs) (ht : PG X tg g) (he : PE X e (tE X.K pn E f)) (hs : swapsWithSole [tg] e pos.line X.env = pure false := by rfl) (hw : swappedStores [tg] e X.env = pure none := by rfl)
    (h1 : (assignEach [tg] X.env).map (·.2) = [assign tg X.env] := by rfl) :
    PS X (.Assign [tg] e pos) (tS X.K pn E (asgG b f)) := (ps_asg he ht hs hw h1).imp (asgG_of hg)

/-! ### walks -/
/-- an iterator that yields these data -/
structure Yields (K : PySem.W.Frag) (J : It) (G : Hp) (ds : List D) : Prop where
  stop : ∀ H, Same G H → J.stop ds.length H
  go : ∀ (i : Nat) (d : D) H, Same G H → ds[i]? = some d → J.go i H
  yld : ∀ (i : Nat) (d : D) H x H', Same G H → ds[i]? = some d → J.yld i H x H' → (H' = H ∧ Dt K G x d) ∨ (∃ p vs es, H p = none ∧ H' = upd H p (.tup vs) ∧ x = .ref p ∧ d = .tup es ∧ DtL K G vs es)
def PostI (K : PySem.W.Frag) (pn : List (Nat × Addr)) (E : XK) (σ : St) (G0 H0 : Hp) (O0 : Addr → Prop) (r : Option (Rs (List D))) (R : It → Hp → Prop) : Prop := match r with
  | some (.val ds ρ') => ∀ J G' H', EnvOk K pn G' H' σ ρ' → Ext G0 H0 O0 G' H' (OwnAt σ ρ') → Yields K J G' ds → R J H'
  | some (.exc x ρ') => ∀ d G' H', EnvOk K pn G' H' σ ρ' → Ext G0 H0 O0 G' H' (OwnAt σ ρ') → XOk K G' H' d x → E (.ref x.cls) d H'
  | none => False
def tI (K : PySem.W.Frag) (pn : List (Nat × Addr)) (E : XK) (f : M (List D)) : TI := fun σ H R => ∃ G ρ, EnvOk K pn G H σ ρ ∧ PostI K pn E σ G H (OwnAt σ ρ) (f ρ) R
def loopS (b : D → Rho → Option Rho) (body : MS) : List D → MS
  | [] => nxS
  | d :: ds => fun ρ => match b d ρ with
    | none => none
    | some ρ1 => match body ρ1 with
      | some (.nx ρ2) => loopS b body ds ρ2
      | some (.ct ρ2) => loopS b body ds ρ2
      | some (.bk ρ2) => some (.nx ρ2)
      | some (.rt s ρ2) => some (.rt s ρ2)
      | some (.exc x ρ2) => some (.exc x ρ2)
      | none => none
@[simp] def forS (src : M (List D)) (b : D → Rho → Option Rho) (body : MS) : MS := fun ρ => (bindES src fun ds => loopS b body ds) ρ
theorem Yields.mono {K : PySem.W.Frag} {J : It} {G G' : Hp} {ds : List D} (y : Yields K J G ds) (k : Same G G') : Yields K J G' ds :=
  ⟨fun H h => y.stop H (k.trans h), fun i d H h e => y.go i d H (k.trans h) e, fun i d H x H' h e q => (y.yld i d H x H' (k.trans h) e q).elim (fun ⟨a, b⟩ => .inl ⟨a, b.mono k⟩) fun ⟨p, vs, es, a, b, c, d, f⟩ => .inr ⟨p, vs, es, a, b, c, d, f.mono k⟩⟩
/-- an item has come -/
theorem Yields.item {K : PySem.W.Frag} {J : It} {G H H' : Hp} {ds : List D} {i : Nat} {d : D} {x : V} {σ : St} {ρ : Rho} (y : Yields K J G ds) (ok : EnvOk K pn G H σ ρ) (e : ds[i]? = some d) (q : J.yld i H x H') :
    ∃ G', EnvOk K pn G' H' σ ρ ∧ Dt K G' x d ∧ Ext G H (OwnAt σ ρ) G' H' (OwnAt σ ρ) := by
  rcases y.yld i d H x H' ok.sub e q with ⟨rfl, h⟩ | ⟨p, vs, es, hp, rfl, rfl, rfl, h⟩
  · exact ⟨G, ok, h, Ext.refl⟩
  · exact ⟨_, ok.alloc hp, .tup (SqT.of upd_same) (h.mono (same_alloc (Same.free ok.sub hp))), Ext.alloc ok.sub hp⟩
theorem PostS.bindI {K : PySem.W.Frag} {σ : St} {G H : Hp} {ρ : Rho} {D : Ends} {f : M (List BT.D)} {k : List BT.D → MS} (ok : EnvOk K pn G H σ ρ) (h : PostS K pn E G H (OwnAt σ ρ) (bindES f k ρ) D) :
    PostI K pn E σ G H (OwnAt σ ρ) (f ρ) (fun J H1 => ∃ G1 ρ1 ds, EnvOk K pn G1 H1 σ ρ1 ∧ Yields K J G1 ds ∧ PostS K pn E G1 H1 (OwnAt σ ρ1) (k ds ρ1) D) := by
  unfold bindES at h
  cases e : f ρ with
  | none => rw [e] at h; exact h
  | some r =>
    rw [e] at h
    cases r with
    | exc x ρ' => exact fun d G' H' a b c => h d σ G' H' a b c
    | val s ρ' => exact fun J G' H' a b c => ⟨G', ρ', s, a, c, h.at b⟩
theorem PostI.mono {K : PySem.W.Frag} {σ : St} {G0 H0 : Hp} {O0 : Addr → Prop} {r : Option (Rs (List D))} {Q Q' : It → Hp → Prop} (h : PostI K pn E σ G0 H0 O0 r Q) (q : ∀ v H, Q v H → Q' v H) : PostI K pn E σ G0 H0 O0 r Q' := by
  unfold PostI at h ⊢
  split at h
  · exact fun v G' H' a b c => q _ _ (h v G' H' a b c)
  · exact h
  · exact h
theorem psx_for {tg iter : Expr} {body : List Stmt} {src : M (List D)} {g : TG} {b : D → Rho → Option Rho} {f : MS} (hp : PassesOwn (model X.prog X.w) X.A X.env X.xe) (hc : X.calm = true) (hi : PI X tg iter (tI X.K pn E src)) {bs : List Nat} (hg : PG X tg g) (hb : GB X.K pn g b bs) (hbody : PSs X body (tS X.K pn E f))
    (hs : ∀ x, foldedSetIterable iter X.env x = pure x := by intro _; rfl) : PS X (.For tg iter body [] pos) (tS X.K pn E (forS src b f)) :=
  (ps_for hp hc hi hg hbody hs).imp fun D σ H ⟨G, ρ, ok, h⟩ => by
    refine ⟨G, ρ, ok, (PostS.bindI ok h).mono fun J H1 ⟨G1, ρ1, ds, ok1, y1, p1⟩ => ?_⟩
    refine ⟨fun i m σ H => m = ds.length - i ∧ i ≤ ds.length ∧ ∃ G ρ, EnvOk X.K pn G H σ ρ ∧ Yields X.K J G ds ∧ PostS X.K pn E G H (OwnAt σ ρ) (loopS b f (ds.drop i) ρ) D, ⟨ds.length, rfl, Nat.zero_le _, G1, ρ1, ok1, y1, p1⟩, ?_⟩
    rintro i m σ H ⟨rfl, hi, G, ρ, ok, y, p⟩
    by_cases hlt : i < ds.length
    · have e : ds[i]? = some ds[i] := List.getElem?_eq_getElem hlt
      rw [List.drop_eq_getElem_cons hlt] at p
      refine .inr ⟨y.go i _ H ok.sub e, fun σ' H' => ∃ G ρ, EnvOk X.K pn G H' σ' ρ ∧ Yields X.K J G ds ∧ PostS X.K pn E G H' (OwnAt σ' ρ) (loopS b f (ds.drop (i + 1)) ρ) D, fun σ' H' ⟨G', ρ', a, b, c⟩ => ⟨ds.length - (i + 1), by omega, rfl, hlt, G', ρ', a, b, c⟩, fun x H' q => ?_⟩
      obtain ⟨G2, ok2, d2, x2⟩ := y.item ok e q
      refine hb x _ σ G2 H' ρ _ ok2 d2 ?_
      simp only [loopS] at p
      cases eb : b ds[i] ρ with
      | none => rw [eb] at p; exact p
      | some ρ3 =>
        rw [eb] at p
        intro σ3 hl ok3 sub3
        have x3 : Ext G H (OwnAt σ ρ) G2 H' (OwnAt σ3 ρ3) := x2.sub sub3
        refine ⟨G2, ρ3, ok3, ?_⟩
        simp only at p
        have p' := PostS.at p x3
        have y2 := y.mono x2.grow
        cases ef : f ρ3 with
        | none => rw [ef] at p'; exact p'
        | some r =>
          rw [ef] at p'
          cases r with
          | nx ρ4 => exact fun s G' H'' a x => ⟨G', ρ4, a, y2.mono x.grow, PostS.at p' x⟩
          | ct ρ4 => exact fun s G' H'' a x => ⟨G', ρ4, a, y2.mono x.grow, PostS.at p' x⟩
          | bk ρ4 => exact fun s G' H'' a x => p' s G' H'' a x
          | rt s ρ4 => exact p'
          | exc x ρ4 => exact p'
    · have e : i = ds.length := by omega
      subst e
      rw [List.drop_length] at p
      exact .inl ⟨y.stop H ok.sub, p σ G H ok Ext.refl⟩
end
end BT

namespace BT
open PySem L2
open PyProof.Rows (envOfC)

/-! ### a def's contract -/
abbrev Fn := List Sl → Option (Rs Sl)
def SpF (K : PySem.W.Frag) (F : Fn) : Sp := fun vs H Q E => ∃ G ρ, EnvOk K [] G H (vs.map some) ρ ∧ Post K [] E (vs.map some) G H (OwnAt (vs.map some) ρ) (F ρ) Q
@[simp] def Sl.isOl : Sl → Bool | .ol _ => true | _ => false
@[simp] def backA : Nat → List Sl → Rho → List Sl
  | _, [], _ => []
  | i, a :: as, ρ => (if a.isOl = true then ρ.getD i .un else a) :: backA (i + 1) as ρ
@[simp] def modeOk (own : List Nat) : Nat → List Sl → Bool
  | _, [] => true
  | i, a :: as => (!a.isOl || own.contains i) && modeOk own (i + 1) as
def runB (n np : Nat) (own : List Nat) (body : MS) : Fn := fun args =>
  if args.length = np ∧ np ≤ n ∧ modeOk own 0 args = true then
    match body (args ++ List.replicate (n - np) .un) with
    | some (.nx ρ) => some (.val (.dt .non) (backA 0 args ρ))
    | some (.rt s ρ) => some (.val s (backA 0 args ρ))
    | some (.exc x ρ) => some (.exc x (backA 0 args ρ))
    | _ => none
  else none

theorem backA_length : ∀ (as : List Sl) (i : Nat) (ρ : Rho), (backA i as ρ).length = as.length
  | [], _, _ => rfl
  | a :: as, i, ρ => by simp [backA, backA_length as]
theorem backA_get : ∀ (as : List Sl) (i : Nat) (ρ : Rho) (j : Nat), (backA i as ρ)[j]? = as[j]?.map fun a => if a.isOl = true then ρ.getD (i + j) .un else a
  | [], _, _, j => by simp [backA]
  | a :: as, i, ρ, 0 => by simp [backA]
  | a :: as, i, ρ, j + 1 => by simp only [backA, List.getElem?_cons_succ]; rw [backA_get as (i + 1) ρ j]; simp only [Nat.add_assoc, Nat.add_comm 1 j]
theorem modeOk_get {own : List Nat} : ∀ (as : List Sl) (i : Nat), modeOk own i as = true → ∀ (j : Nat) (ds : List D), as[j]? = some (.ol ds) → i + j ∈ own
  | [], _, _, j, ds, h => by simp at h
  | a :: as, i, e, 0, ds, h => by
    simp at h; subst h
    simp [modeOk, Sl.isOl] at e
    exact e.1
  | a :: as, i, e, j + 1, ds, h => by
    simp [modeOk] at e
    have := modeOk_get as (i + 1) e.2 j ds (by simpa using h)
    rw [show i + 1 + j = i + (j + 1) by omega] at this
    exact this

/-- the pins of the arguments -/
def pinsOf : Nat → List V → List Sl → List (Nat × Addr)
  | i, .ref a :: vs, .ol _ :: as => (i, a) :: pinsOf (i + 1) vs as
  | i, _ :: vs, _ :: as => pinsOf (i + 1) vs as
  | _, _, _ => []
theorem pinsOf_mem : ∀ (vs : List V) (as : List Sl) (i : Nat) (q : Nat × Addr), q ∈ pinsOf i vs as → ∃ (j : Nat) (ds : List D), q.1 = i + j ∧ vs[j]? = some (.ref q.2) ∧ as[j]? = some (.ol ds)
  | [], as, i, q, h => by cases as <;> simp [pinsOf] at h
  | v :: vs, [], i, q, h => by cases v <;> simp [pinsOf] at h
  | v :: vs, a :: as, i, q, h => by
    have step : q ∈ pinsOf (i + 1) vs as → ∃ (j : Nat) (ds : List D), q.1 = i + j ∧ (v :: vs)[j]? = some (.ref q.2) ∧ (a :: as)[j]? = some (.ol ds) := fun h => by
      obtain ⟨j, ds, h1, h2, h3⟩ := pinsOf_mem vs as (i + 1) q h
      exact ⟨j + 1, ds, by omega, by simpa using h2, by simpa using h3⟩
    cases v with
    | ref b =>
      cases a with
      | ol es =>
        simp only [pinsOf, List.mem_cons] at h
        rcases h with rfl | h
        · exact ⟨0, es, rfl, rfl, rfl⟩
        · exact step h
      | _ => exact step h
    | _ => exact step (by cases a <;> exact h)
theorem pinsOf_of : ∀ (vs : List V) (as : List Sl) (i j : Nat) (p : Addr) (ds : List D), vs[j]? = some (.ref p) → as[j]? = some (.ol ds) → (i + j, p) ∈ pinsOf i vs as
  | [], _, _, j, _, _, h, _ => by simp at h
  | _ :: _, [], _, j, _, _, _, h => by simp at h
  | v :: vs, a :: as, i, 0, p, ds, h, g => by
    simp at h g; subst h g
    simp [pinsOf]
  | v :: vs, a :: as, i, j + 1, p, ds, h, g => by
    have := pinsOf_of vs as (i + 1) j p ds (by simpa using h) (by simpa using g)
    rw [show i + 1 + j = i + (j + 1) by omega] at this
    cases v with
    | ref b =>
      cases a with
      | ol es => simp only [pinsOf, List.mem_cons]; exact .inr this
      | _ => exact this
    | _ => cases a <;> exact this

theorem EnvOk.start {K : PySem.W.Frag} {pn : List (Nat × Addr)} {G H : Hp} {σ : St} {ρ : Rho} (ok : EnvOk K pn G H σ ρ) (k : Nat) : EnvOk K pn G H (σ ++ List.replicate k none) (ρ ++ List.replicate k .un) := by
  have hl := ok.len
  have g : ∀ {i : Nat} {s : Sl}, (ρ ++ List.replicate k .un)[i]? = some s → (i < ρ.length ∧ ρ[i]? = some s) ∨ s = .un := fun {i s} h => by
    by_cases c : i < ρ.length
    · rw [get_append_lt c] at h; exact .inl ⟨c, h⟩
    · rw [List.getElem?_append_right (by omega)] at h
      have := List.mem_of_getElem? h
      exact .inr (List.eq_of_mem_replicate this)
  refine ⟨ok.sub, by simp [hl], fun i d h => ?_, fun i ds h => ?_, fun i j ds es p h1 h2 h3 h4 => ?_, fun q hq => ?_⟩
  · rcases g h with ⟨c, h⟩ | h
    · obtain ⟨v, a, b⟩ := ok.dt i d h
      exact ⟨v, by rw [get_append_lt (by omega)]; exact a, b⟩
    · cases h
  · rcases g h with ⟨c, h⟩ | h
    · obtain ⟨p, vs, a, b⟩ := ok.ol i ds h
      exact ⟨p, vs, by rw [get_append_lt (by omega)]; exact a, b⟩
    · cases h
  · rcases g h1 with ⟨c1, h1⟩ | h1
    · rcases g h2 with ⟨c2, h2⟩ | h2
      · rw [get_append_lt (by omega)] at h3 h4
        exact ok.inj i j ds es p h1 h2 h3 h4
      · cases h2
    · cases h1
  · have := ok.pins q hq
    rw [get_append_lt (lt_of_get this)]; exact this
theorem own_start {σ : St} {ρ : Rho} (hl : σ.length = ρ.length) (k : Nat) {a : Addr} : OwnAt (σ ++ List.replicate k none) (ρ ++ List.replicate k .un) a ↔ OwnAt σ ρ a := by
  constructor
  · rintro ⟨i, ds, h1, h2⟩
    by_cases c : i < ρ.length
    · rw [get_append_lt c] at h1
      rw [get_append_lt (by omega)] at h2
      exact ⟨i, ds, h1, h2⟩
    · rw [List.getElem?_append_right (by omega)] at h1
      have := List.eq_of_mem_replicate (List.mem_of_getElem? h1)
      cases this
  · rintro ⟨i, ds, h1, h2⟩
    exact ⟨i, ds, by rw [get_append_lt (lt_of_get h1)]; exact h1, by rw [get_append_lt (lt_of_get h2)]; exact h2⟩

section
variable {K : PySem.W.Frag} {G H G' H' : Hp} {vs : List V} {args : List Sl} {σ' : St} {ρ' : Rho} {n : Nat}
/-- the way out of a body: the temps at its end -/
theorem EnvOk.out {tv : List (Option V)} {ts : List Sl} (ok : EnvOk K [] G H (vs.map some) args) (ok' : EnvOk K (pinsOf 0 vs args) G' H' (σ' ++ tv) (ρ' ++ ts)) (ht : tv.length = ts.length) (grow : Same G G') :
    EnvOk K [] G' H' (vs.map some ++ tv) (backA 0 args ρ' ++ ts) ∧ ∀ a, OwnAt (vs.map some ++ tv) (backA 0 args ρ' ++ ts) a → OwnAt (σ' ++ tv) (ρ' ++ ts) a := by
  have hl : vs.length = args.length := by have := ok.len; simpa using this
  have hl' : σ'.length = ρ'.length := by have := ok'.len; simp at this; omega
  have bl := backA_length args 0 ρ'
  -- where a slot of the way out stands in the body's state, if it is one's own
  have src : ∀ {j : Nat} {s : Sl}, (backA 0 args ρ' ++ ts)[j]? = some s → (∃ d, s = .dt d ∧ args[j]? = some (.dt d) ∧ j < args.length) ∨ s = .un ∨
      ∃ k, (ρ' ++ ts)[k]? = some s ∧ (σ' ++ tv)[k]? = (vs.map some ++ tv)[j]? ∧ k = (if j < args.length then j else ρ'.length + (j - args.length)) := fun {j s} h => by
    by_cases c : j < args.length
    · rw [get_append_lt (by omega), backA_get] at h
      cases e : args[j]? with
      | none => rw [e] at h; cases h
      | some a =>
        rw [e] at h
        simp only [Option.map_some, Option.some.injEq, Nat.zero_add] at h
        by_cases ca : a.isOl = true
        · rw [if_pos ca] at h
          cases a with
          | ol ds =>
            -- one's own argument: pinned
            obtain ⟨p, ws, h1, h2, h3⟩ := ok.ol j ds e
            have h1' : vs[j]? = some (.ref p) := by
              rw [List.getElem?_map] at h1
              cases q : vs[j]? with
              | none => rw [q] at h1; cases h1
              | some v => rw [q] at h1; cases h1; rfl
            have pm := pinsOf_of vs args 0 j p ds h1' e
            rw [Nat.zero_add] at pm
            have pin := ok'.pins _ pm
            by_cases cr : j < ρ'.length
            · refine .inr (.inr ⟨j, ?_, ?_, by rw [if_pos c]⟩)
              · rw [get_append_lt cr, ← h, List.getD_eq_getElem?_getD, List.getElem?_eq_getElem cr]; rfl
              · rw [pin, get_append_lt (by simp; omega), h1]
            · right; left
              rw [← h, List.getD_eq_getElem?_getD, List.getElem?_eq_none (by omega)]; rfl
          | un => cases ca
          | dt d => cases ca
        · rw [if_neg ca] at h
          cases a with
          | un => exact .inr (.inl h.symm)
          | dt d => subst h; exact .inl ⟨d, rfl, rfl, c⟩
          | ol ds => exact absurd rfl ca
    · rw [List.getElem?_append_right (by omega), bl] at h
      refine .inr (.inr ⟨ρ'.length + (j - args.length), ?_, ?_, by rw [if_neg c]⟩)
      · rw [List.getElem?_append_right (by omega), show ρ'.length + (j - args.length) - ρ'.length = j - args.length by omega]; exact h
      · rw [List.getElem?_append_right (by omega), List.getElem?_append_right (by simp; omega), List.length_map, hl, hl', show ρ'.length + (j - args.length) - ρ'.length = j - args.length by omega]
  refine ⟨⟨ok'.sub, by simp [bl, hl, ht], fun j d h => ?_, fun j ds h => ?_, fun i j ds es p h1 h2 h3 h4 => ?_, fun q hq => by simp at hq⟩, fun a ⟨j, ds, h1, h2⟩ => ?_⟩
  · rcases src h with ⟨d', e1, e2, c⟩ | e | ⟨k, e1, e2, _⟩
    · cases e1
      obtain ⟨v, a, b⟩ := ok.dt j d e2
      exact ⟨v, by rw [get_append_lt (by simp; omega)]; exact a, b.mono grow⟩
    · cases e
    · obtain ⟨v, a, b⟩ := ok'.dt k d e1
      exact ⟨v, by rw [← e2]; exact a, b⟩
  · rcases src h with ⟨d', e1, e2, c⟩ | e | ⟨k, e1, e2, _⟩
    · cases e1
    · cases e
    · obtain ⟨p, ws, a, b⟩ := ok'.ol k ds e1
      exact ⟨p, ws, by rw [← e2]; exact a, b⟩
  · rcases src h1 with ⟨d', e1, _⟩ | e | ⟨k1, a1, a2, a3⟩
    · cases e1
    · cases e
    · rcases src h2 with ⟨d', e1, _⟩ | e | ⟨k2, b1, b2, b3⟩
      · cases e1
      · cases e
      · have z := ok'.inj k1 k2 ds es p a1 b1 (by rw [a2]; exact h3) (by rw [b2]; exact h4)
        -- an own argument's slot lies in the body's slots
        have lim : ∀ {j : Nat} {s : List D} {k : Nat}, (backA 0 args ρ' ++ ts)[j]? = some (.ol s) → j < args.length → j < ρ'.length := fun {j s k} h c => by
          rw [get_append_lt (by omega), backA_get] at h
          cases e : args[j]? with
          | none => rw [e] at h; cases h
          | some a =>
            rw [e] at h
            simp only [Option.map_some, Option.some.injEq, Nat.zero_add] at h
            by_cases ca : a.isOl = true
            · rw [if_pos ca] at h
              by_cases cr : j < ρ'.length
              · exact cr
              · rw [List.getD_eq_getElem?_getD, List.getElem?_eq_none (by omega)] at h; cases h
            · rw [if_neg ca] at h; subst h; exact absurd rfl ca
        rw [a3, b3] at z
        by_cases c1 : i < args.length
        · by_cases c2 : j < args.length
          · rw [if_pos c1, if_pos c2] at z; exact z
          · rw [if_pos c1, if_neg c2] at z
            have := lim (k := 0) h1 c1
            omega
        · by_cases c2 : j < args.length
          · rw [if_neg c1, if_pos c2] at z
            have := lim (k := 0) h2 c2
            omega
          · rw [if_neg c1, if_neg c2] at z; omega
  · rcases src h1 with ⟨d', e1, _⟩ | e | ⟨k, e1, e2, _⟩
    · cases e1
    · cases e
    · exact ⟨k, ds, e1, by rw [e2]; exact h2⟩
end

section
variable {P : Program} {w : World} {K : PySem.W.Frag} {mg : Str → Option Value} {base : Heap}
/-- what the body's reading is, from the contract's -/
theorem body_of {N ps : List Str} {own : List Nat} {f : MS} {vs : List V} {H : Hp} {Q : VK} {E : XK} (h : SpF K (runB N.length ps.length own f) vs H Q E) :
    ∃ pn, (∀ q ∈ pn, q.1 ∈ own) ∧ tS K pn E f { nx := fun _ H' => Q .non H', rt := Q } (start N vs) H := by
  obtain ⟨G, args, ok, p⟩ := h
  have hl : vs.length = args.length := by have := ok.len; simpa using this
  unfold runB at p
  by_cases c : args.length = ps.length ∧ ps.length ≤ N.length ∧ modeOk own 0 args = true
  · rw [if_pos c] at p
    obtain ⟨c1, c2, c3⟩ := c
    refine ⟨pinsOf 0 vs args, fun q hq => ?_, G, args ++ List.replicate (N.length - ps.length) .un, ?_, ?_⟩
    · obtain ⟨j, ds, h1, h2, h3⟩ := pinsOf_mem vs args 0 q hq
      have := modeOk_get args 0 c3 j ds h3
      rw [h1]; exact this
    · have ok0 : EnvOk K (pinsOf 0 vs args) G H (vs.map some) args := ⟨ok.sub, ok.len, ok.dt, ok.ol, ok.inj, fun q hq => by
        obtain ⟨j, ds, h1, h2, h3⟩ := pinsOf_mem vs args 0 q hq
        rw [h1, Nat.zero_add, List.getElem?_map, h2]; rfl⟩
      have := ok0.start (N.length - ps.length)
      unfold L2.start
      rw [hl, c1]; exact this
    · have e : L2.start N vs = vs.map some ++ List.replicate (N.length - ps.length) none := by unfold L2.start; rw [hl, c1]
      rw [e]
      have hO : ∀ a, OwnAt (vs.map some ++ List.replicate (N.length - ps.length) none) (args ++ List.replicate (N.length - ps.length) .un) a ↔ OwnAt (vs.map some) args a := fun a => own_start ok.len _
      have conv : ∀ {G' H' : Hp} {O' : Addr → Prop}, Ext G H (OwnAt (vs.map some ++ List.replicate (N.length - ps.length) none) (args ++ List.replicate (N.length - ps.length) .un)) G' H' O' → Ext G H (OwnAt (vs.map some) args) G' H' O' := fun x =>
        ⟨x.grow, fun a q => (x.fresh a q).elim .inl fun h => h.elim (fun h => .inr (.inl h)) fun h => .inr (.inr ((hO a).mp h)), fun a o q n => x.keep a o q fun z => n ((hO a).mp z), fun a q => (x.own a q).imp (hO a).mp id⟩
      cases eb : f (args ++ List.replicate (N.length - ps.length) .un) with
      | none => rw [eb] at p; exact p
      | some r =>
        rw [eb] at p
        cases r with
        | nx ρ' =>
          intro σ' G' H' ok' x'
          have ok2 := ok'.push_dt (v := .non) (d := .non) .non
          obtain ⟨ok3, sub⟩ := ok.out ok2 rfl x'.grow
          exact p .non G' H' ok3 ((conv (Ext.push_dt (O' := OwnAt σ' ρ') ok'.len x')).sub sub)
        | rt s ρ' =>
          intro v σ' G' H' ok' x'
          obtain ⟨ok3, sub⟩ := ok.out ok' rfl x'.grow
          exact p v G' H' ok3 ((conv x').sub sub)
        | bk _ => exact p.elim
        | ct _ => exact p.elim
        | exc x ρ' =>
          intro d σ' G' H' ok' x' xo
          obtain ⟨ok3, sub⟩ := ok.out (tv := []) (ts := []) (by rw [List.append_nil, List.append_nil]; exact ok') rfl x'.grow
          rw [List.append_nil, List.append_nil] at ok3 sub
          rw [List.append_nil, List.append_nil] at sub
          exact p d G' H' ok3 ((conv x').sub sub) xo
  · rw [if_neg c] at p; exact p.elim
theorem runB_len {n np : Nat} {own : List Nat} {f : MS} (vs : List V) (H : Hp) (Q : VK) (E : XK) (h : SpF K (runB n np own f) vs H Q E) : vs.length = np := by
  obtain ⟨G, args, ok, p⟩ := h
  have hl : vs.length = args.length := by have := ok.len; simpa using this
  unfold runB at p
  by_cases c : args.length = np ∧ np ≤ n ∧ modeOk own 0 args = true
  · rw [hl]; exact c.1
  · rw [if_neg c] at p; exact p.elim
/-- a def that raises nothing -/
theorem okF {x qual : Str} {st : Stmt} {f : Addr} {fd : FuncData} {N ps : List Str} {k : Nat} (own : List Nat) {m : MS} (F : Fun K x qual st f fd) (S : FnScope N ps (defScope st))
    (body : ∀ (pn : List (Nat × Addr)) (cdv : Value) (A : Around) (outer : List Env) (s : Shared) (H : Hp) (E : XK), (∀ q ∈ pn, q.1 ∈ own) → Room k (A.deeper (envOfC qual (defScope st) s.heap.objs.size f cdv)) →
      PSs (cxOf CX0 P w K mg base N qual (defScope st) f cdv A outer s H E).nox (defBody st) (tS K pn (fun _ _ _ => False) m)) :
    FnOk P w K mg base CX0 (k + 1) f fd ps (fun vs H Q _ => SpF K (runB N.length ps.length own m) vs H Q (fun _ _ _ => False)) := by
  refine F.ok S (fun vs H Q E h => runB_len vs H Q _ h) (fun cdv A outer s H vs Q E hr h => ?_)
  obtain ⟨pn, hp, q⟩ := body_of h
  exact ⟨_, body pn cdv A outer s H E hp hr, q⟩
end

/-! ### calls of defs -/
def callF (F : Fn) (fs : M (List D)) : M Sl := bindM fs fun ds ρ => match F (ds.map .dt) with
  | some (.val s _) => some (.val s ρ)
  | some (.exc x _) => some (.exc x ρ)
  | none => none
section
variable {K : PySem.W.Frag} {pn : List (Nat × Addr)} {G H : Hp} {σ : St} {ρ : Rho}
theorem noOwn_dts {vs : List (Option V)} {ds : List D} {a : Addr} (h : OwnAt vs (ds.map .dt) a) : False := by
  obtain ⟨i, es, h1, _⟩ := h
  rw [List.getElem?_map] at h1
  cases e : ds[i]? with
  | none => rw [e] at h1; cases h1
  | some d => rw [e] at h1; cases h1
theorem EnvOk.args {vs : List V} {ds : List D} (sub : Same G H) (h : DtL K G vs ds) : EnvOk K [] G H (vs.map some) (ds.map .dt) := by
  have hl := h.length
  refine ⟨sub, by simp [hl], fun i d e => ?_, fun i es e => ?_, fun i j es fs p h1 => ?_, fun q hq => by simp at hq⟩
  · rw [List.getElem?_map] at e
    cases e2 : ds[i]? with
    | none => rw [e2] at e; cases e
    | some d' =>
      rw [e2] at e; cases e
      obtain ⟨v, a, b⟩ := h.getD e2
      exact ⟨v, by rw [List.getElem?_map, a]; rfl, b⟩
  · rw [List.getElem?_map] at e
    cases e2 : ds[i]? with
    | none => rw [e2] at e; cases e
    | some d' => rw [e2] at e; cases e
  · rw [List.getElem?_map] at h1
    cases e2 : ds[i]? with
    | none => rw [e2] at h1; cases h1
    | some d' => rw [e2] at h1; cases h1
/-- behind a call with no argument of one's own: the caller's state -/
theorem EnvOk.back {G' H' : Hp} (ok : EnvOk K pn G H σ ρ) (x : ∀ a, G' a ≠ none → G a ≠ none ∨ H a = none) (grow : Same G G') (keep : Same H H') (sub : Same G' H') : EnvOk K pn G' H' σ ρ := by
  refine ⟨sub, ok.len, fun i d h => ?_, fun i ds h => ?_, ok.inj, ok.pins⟩
  · obtain ⟨v, a, b⟩ := ok.dt i d h; exact ⟨v, a, b.mono grow⟩
  · obtain ⟨p, vs, a, b, c, d⟩ := ok.ol i ds h
    refine ⟨p, vs, a, keep _ _ b, ?_, d.mono grow⟩
    cases e : G' p with
    | none => rfl
    | some o =>
      rcases x p (by rw [e]; simp) with h | h
      · exact absurd c h
      · rw [b] at h; cases h
theorem EnvOk.push_any {v : V} {s : Sl} {τ : St} {κ : Rho} (ok : EnvOk K pn G H σ ρ) (ok2 : EnvOk K [] G H (τ ++ [some v]) (κ ++ [s])) (hl2 : τ.length = κ.length) (ne : ∀ a, v = .ref a → (∃ ds, s = .ol ds) → ¬ OwnAt σ ρ a) : EnvOk K pn G H (σ ++ [some v]) (ρ ++ [s]) := by
  cases s with
  | dt d =>
    obtain ⟨w, a, b⟩ := ok2.dt κ.length d get_append_eq
    rw [← hl2, get_append_eq] at a; cases a
    exact ok.push_dt b
  | un =>
    have hl := ok.len
    have g : ∀ {i : Nat} {t : Sl}, (ρ ++ [.un])[i]? = some t → (i < ρ.length ∧ ρ[i]? = some t) ∨ t = .un := fun h => by
      rcases get_append1 h with h | ⟨_, h⟩
      · exact .inl h
      · exact .inr h.symm
    refine ⟨ok.sub, by simp [hl], fun i d h => ?_, fun i ds h => ?_, fun i j ds es p h1 h2 h3 h4 => ?_, fun q hq => ?_⟩
    · rcases g h with ⟨c, h⟩ | h
      · obtain ⟨v, a, b⟩ := ok.dt i d h
        exact ⟨v, by rw [get_append_lt (by omega)]; exact a, b⟩
      · cases h
    · rcases g h with ⟨c, h⟩ | h
      · obtain ⟨p, vs, a, b⟩ := ok.ol i ds h
        exact ⟨p, vs, by rw [get_append_lt (by omega)]; exact a, b⟩
      · cases h
    · rcases g h1 with ⟨c1, h1⟩ | h1
      · rcases g h2 with ⟨c2, h2⟩ | h2
        · rw [get_append_lt (by omega)] at h3 h4
          exact ok.inj i j ds es p h1 h2 h3 h4
        · cases h2
      · cases h1
    · have := ok.pins q hq
      rw [get_append_lt (lt_of_get this)]; exact this
  | ol ds =>
    have hl := ok.len
    obtain ⟨p, vs, a, b, c, e⟩ := ok2.ol κ.length ds get_append_eq
    rw [← hl2, get_append_eq] at a; cases a
    have nn := ne p rfl ⟨ds, rfl⟩
    refine ⟨ok.sub, by simp [hl], fun i d h => ?_, fun i es h => ?_, fun i j ds1 es q h1 h2 h3 h4 => ?_, fun q hq => ?_⟩
    · rcases get_append1 h with ⟨c, h⟩ | ⟨_, h⟩
      · obtain ⟨v, a, b⟩ := ok.dt i d h
        exact ⟨v, by rw [get_append_lt (by omega)]; exact a, b⟩
      · cases h
    · rcases get_append1 h with ⟨c1, h5⟩ | ⟨c1, h5⟩
      · obtain ⟨q, ws, h1, h2⟩ := ok.ol i es h5
        exact ⟨q, ws, by rw [get_append_lt (by omega)]; exact h1, h2⟩
      · subst c1; injection h5 with h5; subst h5
        exact ⟨p, vs, by rw [← hl, get_append_eq], b, c, e⟩
    · rcases get_append1 h1 with ⟨c1, e1⟩ | ⟨c1, e1⟩
      · rw [get_append_lt (by omega)] at h3
        rcases get_append1 h2 with ⟨c2, e2⟩ | ⟨c2, e2⟩
        · rw [get_append_lt (by omega)] at h4
          exact ok.inj i j ds1 es q e1 e2 h3 h4
        · subst c2; rw [← hl, get_append_eq] at h4; cases h4
          exact (nn ⟨i, ds1, e1, h3⟩).elim
      · subst c1; rw [← hl, get_append_eq] at h3; cases h3
        rcases get_append1 h2 with ⟨c2, e2⟩ | ⟨c2, e2⟩
        · rw [get_append_lt (by omega)] at h4
          exact (nn ⟨j, es, e2, h4⟩).elim
        · exact c2.symm
    · have := ok.pins q hq
      rw [get_append_lt (lt_of_get this)]; exact this
theorem spF_of {E : XK} {F : Fn} {vs : List V} {ds : List D} {Q : VK} (ok : EnvOk K pn G H σ ρ) (h : DtL K G vs ds)
    (p : Post K pn E σ G H (OwnAt σ ρ) (match F (ds.map .dt) with | some (.val s _) => some (.val s ρ) | some (.exc x _) => some (.exc x ρ) | none => none) Q) : SpF K F vs H Q E := by
  have hl := h.length
  refine ⟨G, ds.map .dt, EnvOk.args ok.sub h, ?_⟩
  cases e : F (ds.map .dt) with
  | none => rw [e] at p; exact p
  | some r =>
    rw [e] at p
    have ko : ∀ {G' H' : Hp} {O' : Addr → Prop}, Ext G H (OwnAt (vs.map some) (ds.map .dt)) G' H' O' → (∀ a, G' a ≠ none → G a ≠ none ∨ H a = none) ∧ Same H H' ∧ ∀ a, O' a → H a = none := fun x =>
      ⟨fun a q => (x.fresh a q).elim .inl fun h => h.elim .inr fun h => (noOwn_dts h).elim, fun a o q => x.keep a o q fun z => noOwn_dts z, fun a q => by exact (x.own a q).elim (fun h => (noOwn_dts h).elim) id⟩
    cases r with
    | val s ρ' =>
      intro v G' H' ok' x'
      obtain ⟨k1, k2, k3⟩ := ko x'
      have okb := ok.back k1 x'.grow k2 ok'.sub
      have hl2 : (vs.map some).length = ρ'.length := by have := ok'.len; simpa using this
      have last : ∀ a, v = .ref a → (∃ es, s = .ol es) → OwnAt (vs.map some ++ [some v]) (ρ' ++ [s]) a := fun a e1 ⟨es, e2⟩ => by
        subst e1 e2
        exact ⟨ρ'.length, es, get_append_eq, by rw [← hl2]; exact get_append_eq⟩
      refine p v G' H' (okb.push_any ok' hl2 fun a e1 e2 z => ?_) ⟨x'.grow, fun a q => (k1 a q).imp id .inl, fun a o q _ => k2 a o q, fun a q => ?_⟩
      · have := k3 a (last a e1 e2)
        obtain ⟨i, es, h1, h2⟩ := z
        obtain ⟨p', ws, h3, h4, _⟩ := ok.ol i es h1
        rw [h2] at h3; cases h3
        rw [h4] at this; cases this
      · rcases own_dn ok.len q with q | ⟨q1, q2⟩
        · exact .inl q
        · exact .inr (k3 a (last a (Option.some.inj q1) q2))
    | exc x ρ' =>
      intro d G' H' ok' x' xo
      obtain ⟨k1, k2, k3⟩ := ko x'
      exact p d G' H' (ok.back k1 x'.grow k2 ok'.sub) ⟨x'.grow, fun a q => (k1 a q).imp id .inl, fun a o q _ => k2 a o q, fun a q => .inl q⟩ xo
end
section
variable {X : Cx} {pn : List (Nat × Addr)} {E : XK} {pos : Pos}
theorem tCall_of {F : Fn} {sp : Sp} {fs : M (List D)} {E' : XK} (hsp : ∀ vs H Q, SpF X.K F vs H Q E → sp vs H Q E') (σ : St) (H : Hp) (Q : VK) (w : tE X.K pn E (callF F fs) σ H Q) : tCall sp [] E' (tA X.K pn E fs) σ H Q := by
  obtain ⟨G, ρ, ok, p⟩ := w
  exact ⟨G, ρ, ok, (Post.bindA ok p).mono fun vs H1 ⟨G1, ρ1, ds, ok1, s1, d1, p1⟩ => by rw [List.append_nil]; exact hsp _ _ _ (spF_of ok1 d1 p1)⟩
/-- a call of a def that raises nothing, its arguments data -/
theorem px_call {F : Fn} {k : Nat} {f : Addr} {fd : FuncData} {ps : List Str} {x : Str} {p : Pos} {e : Expr} {es : List Expr} {fs : M (List D)} (G : FnOk X.prog X.w X.K X.mg X.base CX0 k f fd ps (fun vs H Q _ => SpF X.K F vs H Q (fun _ _ _ => False))) (hr : Room k X.A) (hm : X.mg x = some (.ref f)) (hk : PySem.W.keepIn X.K (.ref f) = true) (hb : Binds X.K fd ps [])
    (ha : PA X (e :: es) (tA X.K pn (fun _ _ _ => False) fs)) (hg : Gl X x := by rfl) (hdb : (x == ("__debug__" : Str)) = false := by decide) (he : starEach (e :: es) X.env = (false, eval e X.env) :: starEach es X.env := by rfl) (hpl : (backTo pos (starEach es X.env)).any (·.1) = false := by rfl) :
    PE X (.Call (.Name x p) (e :: es) [] pos) (tE X.K pn (fun _ _ _ => False) (callF F fs)) :=
  (pe_call G hr hg hm hk hb .nil pass0 ha hdb he hpl).imp (tCall_of fun _ _ _ h => h)
end
end BT

namespace BT
open PySem L2
open PyProof.Rows (envOfC)

/-! ### walks over data -/
section
variable {K : PySem.W.Frag} {G H : Hp} {a : Addr} {xs : List V} {ds : List D}
theorem yields_list (h : SqL K G a xs) (hd : DtL K G xs ds) : Yields K (Itl K a) G ds := by
  have hl := hd.length
  refine ⟨fun H k => ⟨xs, k.seq h, by omega⟩, fun i d H k e => ?_, fun i d H x H' k e q => ?_⟩
  · obtain ⟨x, e1, _⟩ := hd.getD e
    exact ⟨xs, x, k.seq h, e1⟩
  · obtain ⟨x', e1, e2⟩ := hd.getD e
    obtain ⟨rfl, q⟩ := q
    have := q xs (k.seq h)
    rw [e1] at this; cases this
    exact .inl ⟨rfl, e2⟩
theorem yields_tup (h : SqT K G a xs) (hd : DtL K G xs ds) : Yields K (Itt K a) G ds := by
  have hl := hd.length
  refine ⟨fun H k => ⟨xs, Same.sqT k h, by omega⟩, fun i d H k e => ?_, fun i d H x H' k e q => ?_⟩
  · obtain ⟨x, e1, _⟩ := hd.getD e
    exact ⟨xs, x, Same.sqT k h, e1⟩
  · obtain ⟨x', e1, e2⟩ := hd.getD e
    obtain ⟨rfl, q⟩ := q
    have := q xs (Same.sqT k h)
    rw [e1] at this; cases this
    exact .inl ⟨rfl, e2⟩
def rangeD (lo : Int) (n : Nat) : List D := (List.range n).map fun k => .int (lo + (k : Nat))
theorem yields_range {lo : Int} {n : Nat} : Yields K (Itr lo n) G (rangeD lo n) := by
  unfold rangeD
  refine ⟨fun H k => ?_, fun i d H k e => ?_, fun i d H x H' k e q => ?_⟩
  · show n ≤ _
    simp
  · have := lt_of_get e
    show i < n
    simpa using this
  · obtain ⟨rfl, rfl⟩ := q
    have hlt : i < n := by have := lt_of_get e; simpa using this
    rw [List.getElem?_map, List.getElem?_range hlt] at e
    cases e
    exact .inl ⟨rfl, .int _⟩
def signsD (z : Str) : List D := z.cps.toList.map fun c => .str ⟨#[c]⟩
theorem yields_str {z : Str} : Yields K (Its z) G (signsD z) := by
  unfold signsD
  refine ⟨fun H k => ?_, fun i d H k e => ?_, fun i d H x H' k e q => ?_⟩
  · show z.cps.size ≤ _
    simp
  · have := lt_of_get e
    show i < z.cps.size
    simpa using this
  · obtain ⟨rfl, c, hc, rfl⟩ := q
    rw [List.getElem?_map] at e
    rw [show z.cps.toList[i]? = some c by simpa using hc] at e
    cases e
    exact .inl ⟨rfl, .str _⟩
end
@[simp] def seqD (f : M Sl) : M (List D) := fun ρ => (bindD f fun d => match d with
  | .lst ds => fun ρ => some (.val ds ρ)
  | .tup ds => fun ρ => some (.val ds ρ)
  | .str z => fun ρ => some (.val (signsD z) ρ)
  | _ => fun _ => none) ρ
section
variable {X : Cx} {pn : List (Nat × Addr)} {E : XK} {pos : Pos} {tg : Expr}
theorem PI.imp {e : Expr} {t t' : TI} (h : PI X tg e t) (i : ∀ σ H R, t' σ H R → t σ H R) : PI X tg e t' := ⟨fun pins s σ H Q I hw => h.run pins s σ H Q I (i σ H Q hw)⟩
def iSeq (K : PySem.W.Frag) (tl : TE) : TI := fun σ H R => tl σ H fun x H1 => (∃ a, x = .ref a ∧ (∃ xs, SqL K H1 a xs) ∧ R (Itl K a) H1) ∨ (∃ a, x = .ref a ∧ (∃ xs, SqT K H1 a xs) ∧ R (Itt K a) H1) ∨ ∃ z, x = .str z ∧ R (Its z) H1
theorem pi_seq {l : Expr} {tl : TE} (hl : PE X l tl) : PI X tg l (iSeq X.K tl) := by
  refine ⟨fun pins s σ H R I h => ?_⟩
  refine thn (hl.run pins s σ H _ I h) fun v s1 ⟨x, H1, I1, r1, q1⟩ => ?_
  rcases q1 with ⟨a, e, ⟨xs, hq⟩, q⟩ | ⟨a, e, ⟨xs, hq⟩, q⟩ | ⟨z, e, q⟩
  · subst e
    cases r1
    obtain ⟨its, rv, p, hz⟩ := I1.list hq
    refine wpAny_pyIter_list p.isList ?_
    refine ⟨s1.heap.objs.size, [s1.heap.objs.size], _, _, H1, rfl, I1.kept (t' := s1.toks) fun b o e => Heap.get?_push_of_some _ e, turn_list a _, ⟨_, Heap.get?_push_size _ rfl, rfl, rfl⟩, fun b hb => ?_, q⟩
    have e : b = s1.heap.objs.size := by simpa using hb
    subst e
    exact I1.fpOk (Nat.le_refl _) (I1.hok.fresh (Nat.le_refl _))
  · subst e
    cases r1
    obtain ⟨its, rv, p, hz⟩ := I1.tuple hq
    refine wpAny_pyIter_tuple (show s1.heap.IsTuple a its.toArray from p) ?_
    refine ⟨s1.heap.objs.size, [s1.heap.objs.size], _, _, H1, rfl, I1.kept (t' := s1.toks) fun b o e => Heap.get?_push_of_some _ e, turn_tuple a _, ⟨_, Heap.get?_push_size _ rfl, rfl, rfl⟩, fun b hb => ?_, q⟩
    have e : b = s1.heap.objs.size := by simpa using hb
    subst e
    exact I1.fpOk (Nat.le_refl _) (I1.hok.fresh (Nat.le_refl _))
  · subst e
    obtain ⟨t, rfl⟩ := r1
    cases ha : z.cps.all (· < 128)
    · exact wpAny_pyIter_wide ha (pi_one (tk := s1.toks) I1 _ (turn_str _ z t "str_iterator" (.inr rfl)) ⟨_, Heap.get?_push_size _ rfl, rfl, rfl⟩ q)
    · exact wpAny_pyIter_ascii ha (pi_one (tk := s1.toks) I1 _ (turn_str _ z t "str_ascii_iterator" (.inl rfl)) ⟨_, Heap.get?_push_size _ rfl, rfl, rfl⟩ q)
theorem PostI.bindD {K : PySem.W.Frag} {σ : St} {G H : Hp} {ρ : Rho} {f : M Sl} {k : D → M (List D)} {R : It → Hp → Prop} (ok : EnvOk K pn G H σ ρ) (h : PostI K pn E σ G H (OwnAt σ ρ) (bindD f k ρ) R) :
    Post K pn E σ G H (OwnAt σ ρ) (f ρ) (fun v H1 => ∃ G1 ρ1 d, EnvOk K pn G1 H1 σ ρ1 ∧ Same G G1 ∧ Dt K G1 v d ∧ PostI K pn E σ G1 H1 (OwnAt σ ρ1) (k d ρ1) R) := by
  have conv : ∀ {G1 H1 : Hp} {O1 : Addr → Prop} {r : Option (Rs (List D))}, PostI K pn E σ G H (OwnAt σ ρ) r R → Ext G H (OwnAt σ ρ) G1 H1 O1 → PostI K pn E σ G1 H1 O1 r R := fun h x => by
    unfold PostI at h ⊢
    split at h
    · exact fun J G' H' a b => h J G' H' a (x.trans b)
    · exact fun d G' H' a b => h d G' H' a (x.trans b)
    · exact h
  unfold BT.bindD BT.bindM at h
  cases e : f ρ with
  | none => rw [e] at h; exact h
  | some r =>
    rw [e] at h
    cases r with
    | exc x ρ' => exact h
    | val s ρ' =>
      intro v G' H' ok' x'
      cases es : s.frz with
      | none => simp only [es] at h; exact h.elim
      | some d =>
        simp only [es] at h
        obtain ⟨G2, ok2, dt2, x2⟩ := ok'.freeze ok.pinLt es
        have xx := x'.trans x2
        exact ⟨G2, ρ', d, ok2, xx.grow, dt2, conv h xx⟩
theorem PostI.bindA {K : PySem.W.Frag} {σ : St} {G H : Hp} {ρ : Rho} {f : M (List D)} {k : List D → M (List D)} {R : It → Hp → Prop} (ok : EnvOk K pn G H σ ρ) (h : PostI K pn E σ G H (OwnAt σ ρ) (bindM f k ρ) R) :
    PostA K pn E σ G H (OwnAt σ ρ) (f ρ) (fun vs H1 => ∃ G1 ρ1 ds, EnvOk K pn G1 H1 σ ρ1 ∧ Same G G1 ∧ DtL K G1 vs ds ∧ PostI K pn E σ G1 H1 (OwnAt σ ρ1) (k ds ρ1) R) := by
  have conv : ∀ {G1 H1 : Hp} {O1 : Addr → Prop} {r : Option (Rs (List D))}, PostI K pn E σ G H (OwnAt σ ρ) r R → Ext G H (OwnAt σ ρ) G1 H1 O1 → PostI K pn E σ G1 H1 O1 r R := fun h x => by
    unfold PostI at h ⊢
    split at h
    · exact fun J G' H' a b => h J G' H' a (x.trans b)
    · exact fun d G' H' a b => h d G' H' a (x.trans b)
    · exact h
  unfold BT.bindM at h
  cases e : f ρ with
  | none => rw [e] at h; exact h
  | some r =>
    rw [e] at h
    cases r with
    | exc x ρ' => exact h
    | val s ρ' => exact fun v G' H' ok' x' d' => ⟨G', ρ', s, ok', x'.grow, d', conv h x'⟩
/-- a walk over a list, a tuple or a text -/
theorem pix_seq {l : Expr} {f : M Sl} (hl : PE X l (tE X.K pn E f)) : PI X tg l (tI X.K pn E (seqD f)) :=
  PI.imp (pi_seq hl) fun σ H R ⟨G, ρ, ok, h⟩ => ⟨G, ρ, ok, (PostI.bindD ok h).mono fun v H1 ⟨G1, ρ1, d, ok1, s1, d1, p1⟩ => by
    cases d1 with
    | lst hs ha => exact .inl ⟨_, rfl, ⟨_, ok1.sub.seq hs⟩, p1 _ G1 H1 ok1 Ext.refl (yields_list hs ha)⟩
    | tup hs ha => exact .inr (.inl ⟨_, rfl, ⟨_, Same.sqT ok1.sub hs⟩, p1 _ G1 H1 ok1 Ext.refl (yields_tup hs ha)⟩)
    | str z => exact .inr (.inr ⟨z, rfl, p1 _ G1 H1 ok1 Ext.refl yields_str⟩)
    | _ => exact p1.elim⟩
@[simp] def rangeM1 (fs : M (List D)) : M (List D) := fun ρ => (bindM fs fun ds => match ds with
  | [.int j] => fun ρ => if -(2 ^ 62) ≤ j ∧ j < 2 ^ 62 then some (.val (rangeD 0 j.toNat) ρ) else none
  | _ => fun _ => none) ρ
@[simp] def rangeM2 (fs : M (List D)) : M (List D) := fun ρ => (bindM fs fun ds => match ds with
  | [.int i, .int j] => fun ρ => if -(2 ^ 62) ≤ i ∧ i < 2 ^ 62 ∧ -(2 ^ 62) ≤ j ∧ j < 2 ^ 62 then some (.val (rangeD i (j - i).toNat) ρ) else none
  | _ => fun _ => none) ρ
theorem DtL.int1 {K : PySem.W.Frag} {G : Hp} {vs : List V} {j : Int} (h : DtL K G vs [.int j]) : vs = [.int j] := by
  cases h with
  | cons h1 h2 => cases h1; cases h2; rfl
theorem DtL.int2 {K : PySem.W.Frag} {G : Hp} {vs : List V} {i j : Int} (h : DtL K G vs [.int i, .int j]) : vs = [.int i, .int j] := by
  cases h with
  | cons h1 h2 =>
    cases h1
    cases h2 with
    | cons h3 h4 => cases h3; cases h4; rfl
theorem pix_range1 {a : Expr} {fs : M (List D)} {p : Pos} (hm : X.mg "range" = none) (ha : PA X [a] (tA X.K pn E fs)) (hg : Gl X "range" := by rfl) (hs : starEach [a] X.env = [(false, eval a X.env)] := by rfl) : PI X tg (.Call (.Name "range" p) [a] [] pos) (tI X.K pn E (rangeM1 fs)) :=
  PI.imp (pi_range1 hg hm ha hs) fun σ H R ⟨G, ρ, ok, h⟩ => ⟨G, ρ, ok, (PostI.bindA ok h).mono fun vs H1 ⟨G1, ρ1, ds, ok1, s1, d1, p1⟩ => by
    split at p1
    · rename_i j
      by_cases c : -(2 ^ 62) ≤ j ∧ j < 2 ^ 62
      · rw [if_pos c] at p1
        exact ⟨j, d1.int1, c.1, c.2, p1 _ G1 H1 ok1 Ext.refl yields_range⟩
      · rw [if_neg c] at p1; exact p1.elim
    · exact p1.elim⟩
theorem pix_range2 {a b : Expr} {fs : M (List D)} {p : Pos} (hm : X.mg "range" = none) (ha : PA X [a, b] (tA X.K pn E fs)) (hg : Gl X "range" := by rfl) (hs : starEach [a, b] X.env = [(false, eval a X.env), (false, eval b X.env)] := by rfl) (hs2 : starEach [b] X.env = [(false, eval b X.env)] := by rfl) : PI X tg (.Call (.Name "range" p) [a, b] [] pos) (tI X.K pn E (rangeM2 fs)) :=
  PI.imp (pi_range2 hg hm ha hs hs2) fun σ H R ⟨G, ρ, ok, h⟩ => ⟨G, ρ, ok, (PostI.bindA ok h).mono fun vs H1 ⟨G1, ρ1, ds, ok1, s1, d1, p1⟩ => by
    split at p1
    · rename_i i j
      by_cases c : -(2 ^ 62) ≤ i ∧ i < 2 ^ 62 ∧ -(2 ^ 62) ≤ j ∧ j < 2 ^ 62
      · rw [if_pos c] at p1
        exact ⟨i, j, d1.int2, c, p1 _ G1 H1 ok1 Ext.refl yields_range⟩
      · rw [if_neg c] at p1; exact p1.elim
    · exact p1.elim⟩
end

/-! ### comprehensions -/
@[simp] def wipeR (ρ : Rho) : List Nat → Rho
  | [] => ρ
  | v :: vs => (wipeR ρ vs).set v .un
@[simp] def noOl (ρ : Rho) (vs : List Nat) : Bool := vs.all fun v => match ρ[v]? with | some (.ol _) => false | _ => true
@[simp] def restR (ρ0 ρ : Rho) : List Nat → Rho
  | [] => ρ
  | v :: vs => (restR ρ0 ρ vs).set v (ρ0.getD v .un)
def compL (b : D → Rho → Option Rho) (t : M Bool) (e : M Sl) (vs : List Nat) : List D → List D → Rho → Option (List D × Rho)
  | [], acc, ρ => some (acc, ρ)
  | d :: ds, acc, ρ => match b d ρ with
    | none => none
    | some ρ1 => match t ρ1 with
      | some (.val true ρ2) => (match e ρ2 with
        | some (.val s ρ3) => (match s.frz with
          | some y => if acc.length < sizeLine ∧ noOl ρ3 vs = true then compL b t e vs ds (acc ++ [y]) (wipeR ρ3 vs) else none
          | none => none)
        | _ => none)
      | some (.val false ρ2) => if noOl ρ2 vs = true then compL b t e vs ds acc (wipeR ρ2 vs) else none
      | _ => none
@[simp] def mComp (src : M (List D)) (vs : List Nat) (b : D → Rho → Option Rho) (t : M Bool) (e : M Sl) : M Sl := fun ρ => (bindM src fun ds ρ =>
  if noOl ρ vs = true then
    match compL b t e vs ds [] (wipeR ρ vs) with
    | some (acc, ρ') => some (.val (.ol acc) (restR ρ ρ' vs))
    | none => none
  else none) ρ
theorem wipeR_len (ρ : Rho) : ∀ vs, (wipeR ρ vs).length = ρ.length
  | [] => rfl
  | v :: vs => by simp [wipeR, wipeR_len ρ vs]
theorem restR_len (ρ0 ρ : Rho) : ∀ vs, (restR ρ0 ρ vs).length = ρ.length
  | [] => rfl
  | v :: vs => by simp [restR, restR_len ρ0 ρ vs]
theorem wipeR_get {ρ : Rho} {i : Nat} {s : Sl} : ∀ {vs : List Nat}, (wipeR ρ vs)[i]? = some s → s = .un ∨ (i ∉ vs ∧ ρ[i]? = some s)
  | [], h => .inr ⟨by simp, h⟩
  | v :: vs, h => by
    simp only [wipeR] at h
    by_cases z : v = i
    · subst z
      rw [List.getElem?_set_self' ] at h
      cases e : (wipeR ρ vs)[v]? with
      | none => rw [e] at h; cases h
      | some _ => rw [e] at h; cases h; exact .inl rfl
    · rw [List.getElem?_set_ne z] at h
      rcases wipeR_get h with h | ⟨h1, h2⟩
      · exact .inl h
      · exact .inr ⟨by simp only [List.mem_cons, not_or]; exact ⟨fun q => z q.symm, h1⟩, h2⟩
theorem wipe_get {σ : St} {i : Nat} : ∀ {vs : List Nat}, i ∉ vs → (wipe σ vs)[i]? = σ[i]?
  | [], _ => rfl
  | v :: vs, h => by
    simp only [List.mem_cons, not_or] at h
    simp only [wipe]
    rw [List.getElem?_set_ne (fun q => h.1 q.symm)]
    exact wipe_get h.2
theorem wipe_in {σ : St} {i : Nat} : ∀ {vs : List Nat}, i ∈ vs → (wipe σ vs)[i]? = if i < σ.length then some none else none
  | v :: vs, h => by
    simp only [wipe]
    by_cases z : v = i
    · subst z
      by_cases c : v < σ.length
      · rw [if_pos c, List.getElem?_set_self (by rw [wipe_length]; exact c)]
      · rw [if_neg c, List.getElem?_eq_none (by rw [List.length_set, wipe_length]; omega)]
    · rw [List.getElem?_set_ne z]
      rcases List.mem_cons.mp h with h | h
      · exact absurd h.symm z
      · exact wipe_in h
theorem wipe_same {σ σ2 : St} {vs : List Nat} (hl : σ2.length = σ.length) (h : ∀ j : Nat, j ∉ vs → σ2[j]? = (wipe σ vs)[j]?) : wipe σ2 vs = wipe σ vs := by
  apply List.ext_getElem?
  intro i
  by_cases c : i ∈ vs
  · rw [wipe_in c, wipe_in c, hl]
  · rw [wipe_get c, h i c]
theorem restR_get {ρ0 ρ : Rho} {i : Nat} {s : Sl} : ∀ {vs : List Nat}, (restR ρ0 ρ vs)[i]? = some s → (i ∈ vs ∧ ρ0.getD i .un = s) ∨ (i ∉ vs ∧ ρ[i]? = some s)
  | [], h => .inr ⟨by simp, h⟩
  | v :: vs, h => by
    simp only [restR] at h
    by_cases z : v = i
    · subst z
      rw [List.getElem?_set_self'] at h
      cases e : (restR ρ0 ρ vs)[v]? with
      | none => rw [e] at h; cases h
      | some _ => rw [e] at h; cases h; exact .inl ⟨by simp, rfl⟩
    · rw [List.getElem?_set_ne z] at h
      rcases restR_get h with ⟨h1, h2⟩ | ⟨h1, h2⟩
      · exact .inl ⟨List.mem_cons_of_mem _ h1, h2⟩
      · exact .inr ⟨by simp only [List.mem_cons, not_or]; exact ⟨fun q => z q.symm, h1⟩, h2⟩
theorem noOl_get {ρ : Rho} {vs : List Nat} {i : Nat} {ds : List D} (h : noOl ρ vs = true) (hi : i ∈ vs) (e : ρ[i]? = some (.ol ds)) : False := by
  have := List.all_eq_true.mp h i hi
  rw [e] at this; cases this

section
variable {K : PySem.W.Frag} {pn : List (Nat × Addr)} {E : XK} {σ : St} {G H : Hp} {ρ : Rho} {vs : List Nat}
theorem own_wipe {a : Addr} (h : OwnAt (wipe σ vs) (wipeR ρ vs) a) : OwnAt σ ρ a := by
  obtain ⟨i, ds, h1, h2⟩ := h
  rcases wipeR_get h1 with h | ⟨n, h⟩
  · cases h
  · rw [wipe_get n] at h2; exact ⟨i, ds, h, h2⟩
theorem own_wiped {a : Addr} (hn : noOl ρ vs = true) (h : OwnAt σ ρ a) : OwnAt (wipe σ vs) (wipeR ρ vs) a := by
  obtain ⟨i, ds, h1, h2⟩ := h
  have n : i ∉ vs := fun q => noOl_get hn q h1
  refine ⟨i, ds, ?_, by rw [wipe_get n]; exact h2⟩
  have get : ∀ {ws : List Nat}, i ∉ ws → (wipeR ρ ws)[i]? = ρ[i]? := fun {ws} => by
    induction ws with
    | nil => exact fun _ => rfl
    | cons v ws ih =>
      intro n
      simp only [List.mem_cons, not_or] at n
      simp only [wipeR]
      rw [List.getElem?_set_ne (fun q => n.1 q.symm)]
      exact ih n.2
  rw [get n]; exact h1
theorem EnvOk.wipe (ok : EnvOk K pn G H σ ρ) (hp : ∀ q ∈ pn, q.1 ∉ vs) : EnvOk K pn G H (wipe σ vs) (wipeR ρ vs) := by
  refine ⟨ok.sub, by rw [wipe_length, wipeR_len]; exact ok.len, fun i d h => ?_, fun i ds h => ?_, fun i j ds es p h1 h2 h3 h4 => ?_, fun q hq => ?_⟩
  · rcases wipeR_get h with h | ⟨n, h⟩
    · cases h
    · obtain ⟨v, a, b⟩ := ok.dt i d h; exact ⟨v, by rw [wipe_get n]; exact a, b⟩
  · rcases wipeR_get h with h | ⟨n, h⟩
    · cases h
    · obtain ⟨p, ws, a, b⟩ := ok.ol i ds h; exact ⟨p, ws, by rw [wipe_get n]; exact a, b⟩
  · rcases wipeR_get h1 with h | ⟨n1, h1⟩
    · cases h
    · rcases wipeR_get h2 with h | ⟨n2, h2⟩
      · cases h
      · rw [wipe_get n1] at h3; rw [wipe_get n2] at h4
        exact ok.inj i j ds es p h1 h2 h3 h4
  · rw [wipe_get (hp q hq)]; exact ok.pins q hq
theorem EnvOk.rest {G' H' : Hp} {ρ' : Rho} (ok : EnvOk K pn G H σ ρ) (ok' : EnvOk K pn G' H' (L2.wipe σ vs) ρ') (grow : Same G G') (hn : noOl ρ vs = true) : EnvOk K pn G' H' σ (restR ρ ρ' vs) ∧ ∀ a, OwnAt σ (restR ρ ρ' vs) a → OwnAt (L2.wipe σ vs) ρ' a := by
  have own : ∀ {i : Nat} {ds : List D}, (restR ρ ρ' vs)[i]? = some (.ol ds) → i ∉ vs ∧ ρ'[i]? = some (.ol ds) := fun {i ds} h => by
    rcases restR_get h with ⟨h1, h2⟩ | h
    · rw [List.getD_eq_getElem?_getD] at h2
      cases e : ρ[i]? with
      | none => rw [e] at h2; cases h2
      | some s => rw [e] at h2; have h2 : s = _ := h2; subst h2; exact (noOl_get hn h1 e).elim
    · exact h
  have hl : σ.length = ρ'.length := by have := ok'.len; rw [wipe_length] at this; exact this
  refine ⟨⟨ok'.sub, by rw [restR_len]; exact hl, fun i d h => ?_, fun i ds h => ?_, fun i j ds es p h1 h2 h3 h4 => ?_, ok.pins⟩, fun a ⟨i, ds, h1, h2⟩ => ?_⟩
  · rcases restR_get h with ⟨h1, h2⟩ | ⟨n, h⟩
    · rw [List.getD_eq_getElem?_getD] at h2
      cases e : ρ[i]? with
      | none => rw [e] at h2; cases h2
      | some s =>
        rw [e] at h2; have h2 : s = _ := h2; subst h2
        obtain ⟨v, a, b⟩ := ok.dt i d e; exact ⟨v, a, b.mono grow⟩
    · obtain ⟨v, a, b⟩ := ok'.dt i d h; exact ⟨v, by rw [wipe_get n] at a; exact a, b⟩
  · obtain ⟨n, h⟩ := own h
    obtain ⟨p, ws, a, b⟩ := ok'.ol i ds h; exact ⟨p, ws, by rw [wipe_get n] at a; exact a, b⟩
  · obtain ⟨n1, h1⟩ := own h1
    obtain ⟨n2, h2⟩ := own h2
    exact ok'.inj i j ds es p h1 h2 (by rw [wipe_get n1]; exact h3) (by rw [wipe_get n2]; exact h4)
  · obtain ⟨n, h⟩ := own h1
    exact ⟨i, ds, h, by rw [wipe_get n]; exact h2⟩
/-- a list of one's own that stands aside -/
structure Aside (K : PySem.W.Frag) (G H : Hp) (O : Addr → Prop) (p : Addr) (ds : List D) : Prop where
  ls : ∃ vs, H p = some (.lst vs) ∧ DtL K G vs ds
  no : G p = none
  nown : ¬ O p
theorem Aside.ext {O O' : Addr → Prop} {G' H' : Hp} {p : Addr} {ds : List D} (a : Aside K G H O p ds) (x : Ext G H O G' H' O') : Aside K G' H' O' p ds := by
  obtain ⟨⟨vs, h1, h2⟩, h3, h4⟩ := a
  refine ⟨⟨vs, x.keep _ _ h1 h4, h2.mono x.grow⟩, ?_, fun q => ?_⟩
  · cases e : G' p with
    | none => rfl
    | some o =>
      rcases x.fresh p (by rw [e]; simp) with h | h | h
      · exact absurd h3 h
      · rw [h1] at h; cases h
      · exact absurd h h4
  · rcases x.own p q with h | h
    · exact h4 h
    · rw [h1] at h; cases h
theorem EnvOk.touch {p : Addr} {o : HO} (ok : EnvOk K pn G H σ ρ) (hg : G p = none) (hn : ¬ OwnAt σ ρ p) : EnvOk K pn G (upd H p o) σ ρ := by
  refine ⟨fun b u e => by rw [upd_ne (ne_of_none e hg)]; exact ok.sub b u e, ok.len, ok.dt, fun i ds h => ?_, ok.inj, ok.pins⟩
  obtain ⟨q, vs, a, b, c⟩ := ok.ol i ds h
  have n : q ≠ p := fun z => by subst z; exact hn ⟨i, ds, h, a⟩
  exact ⟨q, vs, a, by rw [upd_ne n]; exact b, c⟩
theorem Ext.touch {G' H' : Hp} {O O' : Addr → Prop} {p : Addr} {o : HO} (x : Ext G H O G' H' O') (hp : H p = none) : Ext G H O G' (upd H' p o) O' :=
  ⟨x.grow, x.fresh, fun a u h n => by rw [upd_ne (ne_of_none h hp)]; exact x.keep a u h n, x.own⟩
theorem EnvOk.push_own {p : Addr} {ds : List D} (ok : EnvOk K pn G H σ ρ) (a : Aside K G H (OwnAt σ ρ) p ds) : EnvOk K pn G H (σ ++ [some (.ref p)]) (ρ ++ [.ol ds]) := by
  have hl := ok.len
  obtain ⟨⟨vs, b, e⟩, c, nn⟩ := a
  refine ⟨ok.sub, by simp [hl], fun i d h => ?_, fun i es h => ?_, fun i j ds1 es q h1 h2 h3 h4 => ?_, fun q hq => ?_⟩
  · rcases get_append1 h with ⟨c, h⟩ | ⟨_, h⟩
    · obtain ⟨v, a, b⟩ := ok.dt i d h
      exact ⟨v, by rw [get_append_lt (by omega)]; exact a, b⟩
    · cases h
  · rcases get_append1 h with ⟨c1, h5⟩ | ⟨c1, h5⟩
    · obtain ⟨q, ws, h1, h2⟩ := ok.ol i es h5
      exact ⟨q, ws, by rw [get_append_lt (by omega)]; exact h1, h2⟩
    · subst c1; injection h5 with h5; subst h5
      exact ⟨p, vs, by rw [← hl, get_append_eq], b, c, e⟩
  · rcases get_append1 h1 with ⟨c1, e1⟩ | ⟨c1, e1⟩
    · rw [get_append_lt (by omega)] at h3
      rcases get_append1 h2 with ⟨c2, e2⟩ | ⟨c2, e2⟩
      · rw [get_append_lt (by omega)] at h4
        exact ok.inj i j ds1 es q e1 e2 h3 h4
      · subst c2; rw [← hl, get_append_eq] at h4; cases h4
        exact (nn ⟨i, ds1, e1, h3⟩).elim
    · subst c1; rw [← hl, get_append_eq] at h3; cases h3
      rcases get_append1 h2 with ⟨c2, e2⟩ | ⟨c2, e2⟩
      · rw [get_append_lt (by omega)] at h4
        exact (nn ⟨j, es, e2, h4⟩).elim
      · exact c2.symm
  · have := ok.pins q hq
    rw [get_append_lt (lt_of_get this)]; exact this
end
end BT

namespace BT
open PySem L2
open PyProof.Rows (envOfC)
abbrev E00 : XK := fun _ _ _ => False

section
variable {X : Cx} {pn : List (Nat × Addr)} {E : XK} {pos : Pos}
/-- the reading of a comprehension -/
theorem lc_of {src : M (List D)} {vs : List Nat} {b : D → Rho → Option Rho} {bs : List Nat} {t : M Bool} {e : M Sl} {g : TG} {K : PySem.W.Frag} (hb : GB K pn g b bs) (hbs : ∀ i ∈ bs, i ∈ vs) (hpn : ∀ q ∈ pn, q.1 ∉ vs)
    (σ : St) (H : Hp) (Q : VK) (w : tE K pn E (mComp src vs b t e) σ H Q) : tLc (tI K pn E src) g (tT K pn E00 t) (tE K pn E00 e) vs σ H Q := by
  obtain ⟨G, ρ, ok, p⟩ := w
  refine ⟨G, ρ, ok, ?_⟩
  unfold mComp bindM at p
  cases es : src ρ with
  | none => rw [es] at p; exact p
  | some r =>
    rw [es] at p
    cases r with
    | exc x ρ' => exact p
    | val ds ρ1 =>
      intro J G1 H1 ok1 x1 y1 D hD
      simp only at p
      by_cases hn : noOl ρ1 vs = true
      · rw [if_pos hn] at p
        have p := Post.at p x1
        -- the state between turns
        refine ⟨fun i m H => m = ds.length - i ∧ i ≤ ds.length ∧ ∃ G ρw acc, EnvOk K pn G H (wipe σ vs) ρw ∧ Yields K J G ds ∧ Aside K G H (OwnAt (wipe σ vs) ρw) D acc ∧ Ext G1 H1 (OwnAt σ ρ1) G H (OwnAt (wipe σ vs) ρw) ∧
          Post K pn E σ G1 H1 (OwnAt σ ρ1) (match compL b t e vs (ds.drop i) acc ρw with | some (acc, ρ') => some (.val (.ol acc) (restR ρ1 ρ' vs)) | none => none) Q, ⟨ds.length, rfl, Nat.zero_le _, G1, wipeR ρ1 vs, [], ?_, y1, ?_, ?_, p⟩, ?_⟩
        · have gD : G1 D = none := Same.free ok1.sub hD
          refine (ok1.wipe hpn).touch gD fun z => ?_
          obtain ⟨i, es, h1, h2⟩ := own_wipe z
          obtain ⟨q, ws, h3, h4, _⟩ := ok1.ol i es h1
          rw [h2] at h3; cases h3
          rw [hD] at h4; cases h4
        · refine ⟨⟨[], upd_same, .nil⟩, Same.free ok1.sub hD, fun z => ?_⟩
          obtain ⟨i, es, h1, h2⟩ := own_wipe z
          obtain ⟨q, ws, h3, h4, _⟩ := ok1.ol i es h1
          rw [h2] at h3; cases h3
          rw [hD] at h4; cases h4
        · exact ((Ext.refl (O := OwnAt σ ρ1)).sub fun a z => own_wipe z).touch hD
        · rintro i m H ⟨rfl, hi, G, ρw, acc, ok, y, as, x, p⟩
          by_cases hlt : i < ds.length
          · have ed : ds[i]? = some ds[i] := List.getElem?_eq_getElem hlt
            rw [List.drop_eq_getElem_cons hlt] at p
            refine .inr ⟨y.go i _ H ok.sub ed, fun H' => ∃ G ρw acc, EnvOk K pn G H' (wipe σ vs) ρw ∧ Yields K J G ds ∧ Aside K G H' (OwnAt (wipe σ vs) ρw) D acc ∧ Ext G1 H1 (OwnAt σ ρ1) G H' (OwnAt (wipe σ vs) ρw) ∧
              Post K pn E σ G1 H1 (OwnAt σ ρ1) (match compL b t e vs (ds.drop (i + 1)) acc ρw with | some (acc, ρ') => some (.val (.ol acc) (restR ρ1 ρ' vs)) | none => none) Q,
              fun H' ⟨G', ρ', acc', a1, a2, a3, a4, a5⟩ => ⟨ds.length - (i + 1), by omega, rfl, hlt, G', ρ', acc', a1, a2, a3, a4, a5⟩, fun v H' q => ?_⟩
            obtain ⟨G2, ok2, d2, x2⟩ := y.item ok ed q
            refine hb v _ _ G2 H' ρw _ ok2 d2 ?_
            simp only [compL] at p
            cases eb : b ds[i] ρw with
            | none => rw [eb] at p; exact p
            | some ρ3 =>
              rw [eb] at p
              intro σ3 hl ok3 sub3
              have x3 : Ext G H (OwnAt (wipe σ vs) ρw) G2 H' (OwnAt σ3 ρ3) := x2.sub sub3
              have as3 := as.ext x3
              have y3 := y.mono x3.grow
              have hw : wipe σ3 vs = wipe σ vs := wipe_same (hl.1.trans (wipe_length σ vs)) fun j hj => hl.2 j fun z => hj (hbs j z)
              refine ⟨hw, G2, ρ3, ok3, ?_⟩
              simp only at p
              cases et : t ρ3 with
              | none => rw [et] at p; exact p
              | some r =>
                rw [et] at p
                cases r with
                | exc _ _ => exact p.elim
                | val bb ρ4 =>
                  intro G4 H4 ok4 x4
                  have x04 := (x.trans x3).trans x4
                  have as4 := as3.ext x4
                  have y4 := y3.mono x4.grow
                  cases bb with
                  | false =>
                    simp only at p
                    by_cases hn4 : noOl ρ4 vs = true
                    · rw [if_pos hn4] at p
                      have ok5 := ok4.wipe (vs := vs) hpn
                      have as5 : Aside K G4 H4 (OwnAt (wipe σ3 vs) (wipeR ρ4 vs)) D acc := ⟨as4.ls, as4.no, fun z => as4.nown (own_wipe z)⟩
                      have x5 := x04.sub (O2 := OwnAt (wipe σ3 vs) (wipeR ρ4 vs)) fun a z => own_wipe z
                      rw [hw] at ok5 as5 x5
                      exact ⟨G4, wipeR ρ4 vs, acc, ok5, y4, as5, x5, p⟩
                    · rw [if_neg hn4] at p; exact p.elim
                  | true =>
                    simp only at p
                    refine ⟨G4, ρ4, ok4, ?_⟩
                    cases ee : e ρ4 with
                    | none => rw [ee] at p; exact p
                    | some r =>
                      rw [ee] at p
                      cases r with
                      | exc _ _ => exact p.elim
                      | val s ρ5 =>
                        intro u G5 H5 ok5 x5
                        simp only at p
                        cases ef : s.frz with
                        | none => simp only [ef] at p; exact p.elim
                        | some yd =>
                          simp only [ef] at p
                          by_cases c : acc.length < sizeLine ∧ noOl ρ5 vs = true
                          · rw [if_pos c] at p
                            obtain ⟨G6, ok6, d6, x6⟩ := ok5.freeze ok4.pinLt ef
                            have x46 := x5.trans x6
                            have as6 := as4.ext x46
                            have y6 := y4.mono x46.grow
                            obtain ⟨⟨accv, h1, h2⟩, h3, h4⟩ := as6
                            refine ⟨accv, h1, by rw [h2.length]; exact c.1, G6, wipeR ρ5 vs, acc ++ [yd], ?_, y6, ?_, ?_, p⟩
                            · have := (ok6.touch (o := .lst (accv ++ [u])) h3 h4).wipe (vs := vs) hpn
                              rw [hw] at this; exact this
                            · have : ¬ OwnAt (wipe σ3 vs) (wipeR ρ5 vs) D := fun z => h4 (own_wipe z)
                              rw [hw] at this
                              exact ⟨⟨_, upd_same, h2.append (.cons d6 .nil)⟩, h3, this⟩
                            · have := ((x04.trans x46).sub (O2 := OwnAt (wipe σ3 vs) (wipeR ρ5 vs)) fun a z => own_wipe z).touch (o := .lst (accv ++ [u])) hD
                              rw [hw] at this; exact this
                          · rw [if_neg c] at p; exact p.elim
          · have e : i = ds.length := by omega
            subst e
            rw [List.drop_length] at p
            refine .inl ⟨y.stop H ok.sub, ?_⟩
            simp only [compL] at p
            obtain ⟨okr, subr⟩ := ok1.rest ok x.grow hn
            have asr : Aside K G H (OwnAt σ (restR ρ1 ρw vs)) D acc := ⟨as.ls, as.no, fun z => as.nown (subr _ z)⟩
            refine p _ G H (okr.push_own asr) ⟨x.grow, x.fresh, x.keep, fun a z => ?_⟩
            rcases own_dn okr.len z with z | ⟨z, _⟩
            · exact x.own a (subr a z)
            · cases z; exact .inr hD
      · rw [if_neg hn] at p; exact p.elim
theorem px_lc {elt tg iter : Expr} {ifs : List Expr} {scope : Scope} {own : List (Str × Nat)} {src : M (List D)} {b : D → Rho → Option Rho} {bs : List Nat} {t : M Bool} {e : M Sl} {g : TG} (hc : X.calm = true) (hN : X.N.Nodup) (hi : PI X tg iter (tI X.K pn E src)) (ok : BlkOk X.N X.env.scope scope own)
    (hb : GB X.K pn g b bs) (hbs : ∀ i ∈ bs, i ∈ own.map (·.2)) (hpn : ∀ q ∈ pn, q.1 ∉ own.map (·.2))
    (hg : ∀ (s : Shared) (H : Hp) (C : Addr) (cl : List (Str × Addr)) (fp : List Addr), PG (X.blk s H scope (compEnvC scope cl C X.env) fp) tg g) (ht : ∀ (s : Shared) (H : Hp) (C : Addr) (cl : List (Str × Addr)) (fp : List Addr), PTs (X.blk s H scope (compEnvC scope cl C X.env) fp) ifs (tT X.K pn E00 t))
    (he : ∀ (s : Shared) (H : Hp) (C : Addr) (cl : List (Str × Addr)) (fp : List Addr), PE (X.blk s H scope (compEnvC scope cl C X.env) fp) elt (tE X.K pn E00 e)) (hs : ∀ x, foldedSetIterable iter X.env x = pure x := by intro _; rfl) :
    PE X (.ListComp elt [⟨tg, iter, ifs, 0⟩] scope pos) (tE X.K pn E (mComp src (own.map (·.2)) b t e)) :=
  (pe_lc hc hN hi ok hg ht he hs).imp (lc_of hb hbs hpn)
theorem psx_setLc {i : Nat} {y : Str} {py : Pos} {elt tg iter : Expr} {ifs : List Expr} {scope : Scope} {own : List (Str × Nat)} {spos : Pos} {src : M (List D)} {b : D → Rho → Option Rho} {bs : List Nat} {t : M Bool} {e : M Sl} {g : TG} (hp : NoPin pn i) (hc : X.calm = true) (hN : X.N.Nodup) (hy : X.N[i]? = some y) (hyl : X.env.scope.names.lookup y = some .local)
    (hsw : swapsWith (.ListComp elt [⟨tg, iter, ifs, 0⟩] scope pos) (some (.Name y py)) spos.line X.env = pure true) (hi : PI X tg iter (tI X.K pn E src)) (ok : BlkOk X.N X.env.scope scope own)
    (hb : GB X.K pn g b bs) (hbs : ∀ i ∈ bs, i ∈ own.map (·.2)) (hpn : ∀ q ∈ pn, q.1 ∉ own.map (·.2))
    (hg : ∀ (s : Shared) (H : Hp) (C : Addr) (cl : List (Str × Addr)) (fp : List Addr), PG (X.blk s H scope (compEnvC scope cl C X.env) fp) tg g) (ht : ∀ (s : Shared) (H : Hp) (C : Addr) (cl : List (Str × Addr)) (fp : List Addr), PTs (X.blk s H scope (compEnvC scope cl C X.env) fp) ifs (tT X.K pn E00 t))
    (he : ∀ (s : Shared) (H : Hp) (C : Addr) (cl : List (Str × Addr)) (fp : List Addr), PE (X.blk s H scope (compEnvC scope cl C X.env) fp) elt (tE X.K pn E00 e)) (hs : ∀ x, foldedSetIterable iter X.env x = pure x := by intro _; rfl) :
    PS X (.Assign [.Name y py] (.ListComp elt [⟨tg, iter, ifs, 0⟩] scope pos) spos) (tS X.K pn E (asgS i (mComp src (own.map (·.2)) b t e))) := by
  refine (ps_setLc hc hN hy hyl hsw hi ok hg ht he hs).imp fun D σ H w => ?_
  obtain ⟨G, ρ, ok, h⟩ := w
  have h' := PostS.bindE ok h
  refine lc_of (E := E) hb hbs hpn σ H _ ⟨G, ρ, ok, h'.mono fun v H1 ⟨G1, ρ1, s, ok1, p1⟩ => ?_⟩
  show D.nx (σ.set i (some v)) H1
  by_cases c : i < ρ1.length
  · rw [if_pos c] at p1
    obtain ⟨ok2, sub⟩ := ok1.setSlot c fun q hq => ⟨hp q hq, ok.pinLt q hq⟩
    exact p1 _ G1 H1 ok2 ((Ext.refl (O := OwnAt (σ ++ [some v]) (ρ1 ++ [s]))).sub sub)
  · rw [if_neg c] at p1; exact p1.elim
@[simp] def yesT : M Bool := fun ρ => some (.val true ρ)
theorem ptsx_nil : PTs X [] (tT X.K pn E yesT) := ⟨fun pins s σ H Q I ⟨G, ρ, ok, h⟩ => pts_nil.run pins s σ H Q I (h G H ok Ext.refl)⟩
theorem ptsx_one {c : Expr} {t : M Bool} (h : PT X c (tT X.K pn E t)) : PTs X [c] (tT X.K pn E t) := pts_one h
end

/-! ### one's own lists -/
section
variable {K : PySem.W.Frag} {pn : List (Nat × Addr)} {E : XK} {σ : St} {G H : Hp} {ρ : Rho}
theorem PostS.bindE' {D : Ends} {f : M Sl} {k : Sl → MS} (ok : EnvOk K pn G H σ ρ) (h : PostS K pn E G H (OwnAt σ ρ) (bindES f k ρ) D) :
    Post K pn E σ G H (OwnAt σ ρ) (f ρ) (fun v H1 => ∃ G1 ρ1 s, EnvOk K pn G1 H1 (σ ++ [some v]) (ρ1 ++ [s]) ∧ Same G G1 ∧ PostS K pn E G1 H1 (OwnAt (σ ++ [some v]) (ρ1 ++ [s])) (k s ρ1) D) := by
  unfold bindES at h
  cases e : f ρ with
  | none => rw [e] at h; exact h
  | some r =>
    rw [e] at h
    cases r with
    | exc x ρ' => exact fun d G' H' a b c => h d σ G' H' a b c
    | val s ρ' => exact fun v G' H' a b => ⟨G', ρ', s, a, b.grow, h.at b⟩
theorem EnvOk.putOl {i : Nat} {p : Addr} {ds : List D} {ws : List V} {es : List D} (ok : EnvOk K pn G H σ ρ) (hi : ρ[i]? = some (.ol ds)) (hp : σ[i]? = some (some (.ref p))) (hd : DtL K G ws es) :
    EnvOk K pn G (upd H p (.lst ws)) σ (ρ.set i (.ol es)) ∧ Ext G H (OwnAt σ ρ) G (upd H p (.lst ws)) (OwnAt σ (ρ.set i (.ol es))) := by
  obtain ⟨q, vs, a, b, c, e⟩ := ok.ol i ds hi
  rw [hp] at a; cases a
  have hlt := lt_of_get hi
  have own : ∀ {j : Nat} {fs : List D}, (ρ.set i (.ol es))[j]? = some (.ol fs) → ∃ gs, ρ[j]? = some (.ol gs) ∧ (j ≠ i → gs = fs) := fun {j fs} h => by
    by_cases z : i = j
    · subst z; exact ⟨ds, hi, fun q => absurd rfl q⟩
    · rw [List.getElem?_set_ne z] at h; exact ⟨fs, h, fun _ => rfl⟩
  refine ⟨⟨fun b u e => by rw [upd_ne (ne_of_none e c)]; exact ok.sub b u e, by rw [List.length_set]; exact ok.len, fun j d h => ?_, fun j fs h => ?_, fun j k fs gs q h1 h2 h3 h4 => ?_, ok.pins⟩, Same.refl _, fun _ h => .inl h, fun a u h n => ?_, fun a ⟨j, fs, h1, h2⟩ => ?_⟩
  · by_cases z : i = j
    · subst z; rw [List.getElem?_set_self hlt] at h; cases h
    · rw [List.getElem?_set_ne z] at h; exact ok.dt j d h
  · by_cases z : i = j
    · subst z; rw [List.getElem?_set_self hlt] at h; cases h
      exact ⟨_, ws, hp, upd_same, c, hd⟩
    · rw [List.getElem?_set_ne z] at h
      obtain ⟨q, us, h1, h2, h3, h4⟩ := ok.ol j fs h
      have n : q ≠ p := fun y => by subst y; exact z (ok.inj i j ds fs q hi h hp h1)
      exact ⟨q, us, h1, by rw [upd_ne n]; exact h2, h3, h4⟩
  · obtain ⟨fs', h1', _⟩ := own h1
    obtain ⟨gs', h2', _⟩ := own h2
    exact ok.inj j k fs' gs' q h1' h2' h3 h4
  · by_cases z : a = p
    · subst z; exact absurd ⟨i, ds, hi, hp⟩ n
    · rw [upd_ne z]; exact h
  · obtain ⟨gs, h1', _⟩ := own h1
    exact .inl ⟨j, gs, h1', h2⟩
theorem Post.own {i : Nat} {p : Addr} {ds : List D} {ws : List V} {es : List D} {v : V} {d : D} {Q : VK} (h : Post K pn E σ G H (OwnAt σ ρ) (some (.val (.dt d) (ρ.set i (.ol es)))) Q) (ok : EnvOk K pn G H σ ρ)
    (hi : ρ[i]? = some (.ol ds)) (hp : σ[i]? = some (some (.ref p))) (hd : DtL K G ws es) (hv : Dt K G v d) : Q v (upd H p (.lst ws)) := by
  obtain ⟨ok2, x2⟩ := ok.putOl hi hp hd
  exact h v G _ (ok2.push_dt hv) (Ext.push_dt (O' := OwnAt σ (ρ.set i (.ol es))) ok2.len x2)
end
@[simp] def appM (i : Nat) (f : M Sl) : M Sl := fun ρ => match ρ[i]? with
  | some (.ol _) => bindD f (fun d ρ => match ρ[i]? with
    | some (.ol ds) => if ds.length < sizeLine then some (.val (.dt .non) (ρ.set i (.ol (ds ++ [d])))) else none
    | _ => none) ρ
  | _ => none
@[simp] def putM (i : Nat) (ix f : M Sl) : MS := fun ρ => (bindES f fun s ρ => match s.frz, ρ[i]? with
  | some d, some (.ol _) => bindES ix (fun k ρ => match k, ρ[i]? with
    | .dt (.int k), some (.ol ds) => (match ixN ds.length k with | some j => some (.nx (ρ.set i (.ol (ds.set j d)))) | none => none)
    | _, _ => none) ρ
  | _, _ => none) ρ
section
variable {X : Cx} {pn : List (Nat × Addr)} {E : XK} {pos apos : Pos}
/-- x.append(e), x's list one's own -/
theorem px_append {i : Nat} {o e : Expr} {f : M Sl} (ho : PE X o (tVar i)) (he : PE X e (tE X.K pn E f)) (h : ∀ {T : TE} {U : TA}, PE X o T → PA X [e] U → PE X (.Call (.Attribute o "append" apos) [e] [] pos) (tBM X.K "list" rAppend T U)) (hs : starEach [e] X.env = (false, eval e X.env) :: starEach [] X.env := by rfl) :
    PE X (.Call (.Attribute o "append" apos) [e] [] pos) (tE X.K pn E (appM i f)) :=
  (h ho (pa_cons he pa_nil hs)).imp fun σ H Q ⟨G, ρ, ok, p⟩ => by
    unfold appM at p
    split at p
    · rename_i ds0 hi0
      obtain ⟨q, ws, a, b, c, d⟩ := ok.ol i ds0 hi0
      refine ⟨_, a, .inl ⟨rfl, _, SqL.of b⟩, G, ρ, ok, (Post.bindD ok p).mono fun v H1 ⟨G1, ρ1, d1, ok1, s1, h1, p1⟩ => ?_⟩
      split at p1
      · rename_i ds hi
        obtain ⟨q', ws', a', b', c', d'⟩ := ok1.ol i ds hi
        rw [a] at a'; cases a'
        by_cases z : ds.length < sizeLine
        · rw [if_pos z] at p1
          exact ⟨_, ws', v, rfl, rfl, b', by rw [d'.length]; exact z, p1.own ok1 hi a (d'.append (.cons h1 .nil)) .non⟩
        · rw [if_neg z] at p1; exact p1.elim
      · exact p1.elim
    · exact p.elim
theorem DtL.set {K : PySem.W.Frag} {H : Hp} {x : V} {y : D} (h : Dt K H x y) : ∀ {v : List V} {d : List D} (n : Nat), DtL K H v d → DtL K H (v.set n x) (d.set n y)
  | _, _, _, .nil => .nil
  | _, _, 0, .cons _ hs => .cons h hs
  | _, _, n + 1, .cons g hs => .cons g (DtL.set h n hs)
/-- x[i] = e, x's list one's own -/
theorem psx_put {i : Nat} {o k e : Expr} {ix f : M Sl} {tpos : Pos} (ho : PE X o (tVar i)) (hk : PE X k (tE X.K pn E ix)) (he : PE X e (tE X.K pn E f))
    (h : ∀ {T U W : TE}, PE X o T → PE X k U → PE X e W → PS X (.Assign [.Subscript o k tpos] e pos) (tAsg W (gSub T U rSetL))) :
    PS X (.Assign [.Subscript o k tpos] e pos) (tS X.K pn E (putM i ix f)) :=
  (h ho hk he).imp fun D σ H ⟨G, ρ, ok, p⟩ => by
    refine ⟨G, ρ, ok, (PostS.bindE ok p).mono fun v H1 ⟨G1, ρ1, s, ok1, p1⟩ => ?_⟩
    split at p1
    · rename_i d ds0 ef hi0
      obtain ⟨G2, ok2, d2, x2⟩ := ok1.freeze ok.pinLt ef
      obtain ⟨q, ws, a, b, c, dd⟩ := ok2.ol i ds0 hi0
      refine ⟨_, a, G2, ρ1, ok2, (PostS.bindE' ok2 (p1.at x2)).mono fun u H3 ⟨G3, ρ3, s3, ok3, x34, p3⟩ => ?_⟩
      split at p3
      · rename_i kk ds hi
        have ok4 := ok3.pop ok2.pinLt
        obtain ⟨q', ws', a', b', c', d'⟩ := ok4.ol i ds hi
        rw [a] at a'; cases a'
        obtain ⟨w, e1, e2⟩ := ok3.dt ρ3.length (.int kk) get_append_eq
        have hl := ok4.len
        rw [← hl, get_append_eq] at e1; cases e1
        cases e2
        have p5 := p3.at (O := OwnAt σ ρ3) ((Ext.refl (G := G3) (H := H3) (O := OwnAt (σ ++ [some (V.int kk)]) (ρ3 ++ [.dt (.int kk)]))).sub fun a h => own_up hl h)
        split at p5
        · rename_i j ej
          obtain ⟨ok6, x6⟩ := ok4.putOl hi a (d'.set (d2.mono x34) j)
          exact ⟨_, ws', kk, j, rfl, rfl, b', by rw [d'.length]; exact ej, p5 _ _ _ ok6 x6⟩
        · exact p5.elim
      · exact p3.elim
    · exact p1.elim
end
end BT

namespace BT
open PySem L2
open PyProof.Rows (envOfC)

/-! ### a dict read while it is locked -/
section
variable {K : PySem.W.Frag} {G G' : Hp}
/-- the same but for a lock -/
structure Via (G G' : Hp) : Prop where
  rd : ∀ a o, (∀ ob q, o ≠ HO.frz ob q) → Rd G a o → Rd G' a o
  ins : ∀ a C dx fs, G a = some (.ins C dx fs) → G' a = some (.ins C dx fs)
  own : ∀ a b, G a = some (.own b) → G' a = some (.own b)
theorem Via.sqT {a : Addr} {xs : List V} (k : Via G G') (h : SqT K G a xs) : SqT K G' a xs := h.imp (k.rd _ _ (fun _ _ z => nomatch z)) id
theorem Via.sqL {a : Addr} {xs : List V} (k : Via G G') (h : SqL K G a xs) : SqL K G' a xs := h.imp (k.rd _ _ (fun _ _ z => nomatch z)) id
theorem Via.dic {a : Addr} {kvs : List (Key × V)} (k : Via G G') (h : Rd G a (.dK kvs)) : Rd G' a (.dK kvs) := k.rd _ _ (fun _ _ z => nomatch z) h
mutual
theorem Dt.via (k : Via G G') : ∀ {v : V} {d : D}, Dt K G v d → Dt K G' v d
  | _, _, .non => .non
  | _, _, .bl b => .bl b
  | _, _, .int i => .int i
  | _, _, .str x => .str x
  | _, _, .tup h hs => .tup (k.sqT h) (DtL.via k hs)
  | _, _, .lst h hs => .lst (k.sqL h) (DtL.via k hs)
  | _, _, .dic h hs => .dic (k.dic h) (DtK.via k hs)
  | _, _, .ins h h2 hs => .ins (k.ins _ _ _ _ h) (k.own _ _ h2) (DtF.via k hs)
theorem DtL.via (k : Via G G') : ∀ {v : List V} {d : List D}, DtL K G v d → DtL K G' v d
  | _, _, .nil => .nil
  | _, _, .cons h hs => .cons (Dt.via k h) (DtL.via k hs)
theorem DtK.via (k : Via G G') : ∀ {v : List (Key × V)} {d : List (Key × D)}, DtK K G v d → DtK K G' v d
  | _, _, .nil => .nil
  | _, _, .cons h hs => .cons (Dt.via k h) (DtK.via k hs)
theorem DtF.via (k : Via G G') : ∀ {v : List (Str × V)} {d : List (Str × D)}, DtF K G v d → DtF K G' v d
  | _, _, .nil => .nil
  | _, _, .cons h hs => .cons (Dt.via k h) (DtF.via k hs)
end
end
section
variable {K : PySem.W.Frag} {G G' H H' : Hp} {d : Addr} {od : Obj} {u : List (Key × V)} {pn : List (Nat × Addr)} {σ : St} {ρ : Rho} {O O' : Addr → Prop}
theorem Via.lock (h : G d = some (.dK u)) : Via G (upd G d (.frz od (.dK u))) := by
  refine ⟨fun a o n r => ?_, fun a C dx fs e => ?_, fun a b e => ?_⟩
  · by_cases c : a = d
    · subst c
      rcases r with r | ⟨o', r⟩
      · rw [h] at r; cases r; exact .inr ⟨od, upd_same⟩
      · rw [h] at r; cases r
    · unfold Rd; rw [upd_ne c]; exact r
  · rw [upd_ne (fun z => by subst z; rw [h] at e; cases e)]; exact e
  · rw [upd_ne (fun z => by subst z; rw [h] at e; cases e)]; exact e
theorem Via.unlock (h : G d = some (.frz od (.dK u))) : Via G (upd G d (.dK u)) := by
  refine ⟨fun a o n r => ?_, fun a C dx fs e => ?_, fun a b e => ?_⟩
  · by_cases c : a = d
    · subst c
      rcases r with r | ⟨o', r⟩
      · rw [h] at r; cases r; exact absurd rfl (n _ _)
      · rw [h] at r; cases r; exact .inl upd_same
    · unfold Rd; rw [upd_ne c]; exact r
  · rw [upd_ne (fun z => by subst z; rw [h] at e; cases e)]; exact e
  · rw [upd_ne (fun z => by subst z; rw [h] at e; cases e)]; exact e
theorem same_upd {o : HO} (s : Same G H) : Same (upd G d o) (upd H d o) := fun b u e => by
  by_cases c : b = d
  · subst c; rw [upd_same] at e ⊢; exact e
  · rw [upd_ne c] at e ⊢; exact s b u e
theorem EnvOk.swap {x o : HO} (ok : EnvOk K pn G H σ ρ) (h : G d = some x) (k : Via G (upd G d o)) : EnvOk K pn (upd G d o) (upd H d o) σ ρ := by
  refine ⟨same_upd ok.sub, ok.len, fun i dd e => ?_, fun i ds e => ?_, ok.inj, ok.pins⟩
  · obtain ⟨v, a, b⟩ := ok.dt i dd e; exact ⟨v, a, b.via k⟩
  · obtain ⟨p, vs, a, b, c, e⟩ := ok.ol i ds e
    have n : p ≠ d := fun z => by subst z; rw [h] at c; cases c
    exact ⟨p, vs, a, by rw [upd_ne n]; exact b, by rw [upd_ne n]; exact c, e.via k⟩
/-- what a locked reading has done, unlocked -/
theorem Ext.unlock (h : G d = some (.dK u)) (hH : H d = some (.dK u)) (x : Ext (upd G d (.frz od (.dK u))) (upd H d (.frz od (.dK u))) O G' H' O') :
    Ext G H O (upd G' d (.dK u)) (upd H' d (.dK u)) O' := by
  refine ⟨fun b o e => ?_, fun a e => ?_, fun a o e n => ?_, fun a o => ?_⟩
  · by_cases c : b = d
    · subst c; rw [upd_same]; rw [h] at e; exact e
    · rw [upd_ne c]; exact x.grow b o (by rw [upd_ne c]; exact e)
  · by_cases c : a = d
    · subst c; exact .inl (by rw [h]; simp)
    · rw [upd_ne c] at e
      have := x.fresh a e
      rw [upd_ne c, upd_ne c] at this; exact this
  · by_cases c : a = d
    · subst c; rw [upd_same]; rw [hH] at e; exact e
    · rw [upd_ne c]; exact x.keep a o (by rw [upd_ne c]; exact e) n
  · rcases x.own a o with z | z
    · exact .inl z
    · by_cases c : a = d
      · subst c; rw [upd_same] at z; cases z
      · rw [upd_ne c] at z; exact .inr z
end
theorem XOk.unlock {dd : Option Addr} {x : Ex} (h : G d = some (.frz od (.dK u))) (hH : H d = some (.frz od (.dK u))) (xo : XOk K G H dd x) : XOk K (upd G d (.dK u)) (upd H d (.dK u)) dd x := by
  unfold XOk at xo ⊢
  split at xo
  · exact xo
  · obtain ⟨a, v, e1, e2, e3⟩ := xo
    exact ⟨a, v, e1, by rw [upd_ne (fun z => by subst z; rw [hH] at e2; cases e2)]; exact e2, e3.via (Via.unlock h)⟩
  · exact xo
def kD : Key → D | .inl i => .int i | .inr x => .str x
theorem dt_key {K : PySem.W.Frag} {G : Hp} (k : Key) : Dt K G (kV k) (kD k) := by
  cases k with
  | inl i => exact .int i
  | inr x => exact .str x
theorem DtK.keys {K : PySem.W.Frag} {G : Hp} : ∀ {vs : List (Key × V)} {ds : List (Key × D)}, DtK K G vs ds → vs.map (·.1) = ds.map (·.1)
  | _, _, .nil => rfl
  | _, _, .cons _ hs => by simp [DtK.keys hs]
/-- the keys of the dict of a slot -/
def keysM (i : Nat) : M (List D) := fun ρ => match ρ[i]? with
  | some (.dt (.dic kvs)) => some (.val (kvs.map fun p => kD p.1) ρ)
  | _ => none
theorem yields_keys {K : PySem.W.Frag} {G : Hp} {d : Addr} {o : Obj} {vs : List (Key × V)} {ds : List (Key × D)} (h : G d = some (.frz o (.dK vs))) (k : DtK K G vs ds) : Yields K (Itk d o vs) G (ds.map fun p => kD p.1) := by
  have e : vs.map (·.1) = ds.map (·.1) := k.keys
  have hl : vs.length = ds.length := by have := congrArg List.length e; simpa using this
  refine ⟨fun H s => ⟨s _ _ h, by rw [List.length_map]; omega⟩, fun i x H s q => ⟨s _ _ h, ?_⟩, fun i x H v H' s q y => .inl ?_⟩
  · have := lt_of_get q; rw [List.length_map] at this; omega
  · obtain ⟨e1, kk, vv, e2, e3⟩ := y
    refine ⟨e1, ?_⟩
    have e4 : (vs.map (·.1))[i]? = some kk := by rw [List.getElem?_map, e2]; rfl
    rw [e, List.getElem?_map] at e4
    rw [List.getElem?_map] at q
    cases z : ds[i]? with
    | none => rw [z] at e4; cases e4
    | some p =>
      rw [z] at e4 q
      cases e4; cases q
      rw [e3]; exact dt_key _

section
variable {X : Cx} {pn : List (Nat × Addr)} {pos : Pos}
theorem _root_.L2.PE.or {e : Expr} {s t : TE} (h : PE X e s) (g : PE X e t) : PE X e (fun σ H Q => s σ H Q ∨ t σ H Q) := ⟨fun pins s σ H Q I w => w.elim (h.run pins s σ H Q I) (g.run pins s σ H Q I)⟩
/-- the keys, the dict already locked -/
theorem keys_of {i : Nat} {d : Addr} {o : Obj} {vs : List (Key × V)} {σ : St} {H : Hp} {R : It → Hp → Prop} (hσ : σ[i]? = some (some (.ref d))) (hd : H d = some (.frz o (.dK vs)))
    (w : tI X.K pn E00 (keysM i) σ H R) : iKeys (tVar i) σ H R := by
  obtain ⟨G, ρ, ok, p⟩ := w
  unfold keysM at p
  split at p
  · rename_i ds e
    obtain ⟨v, a, b⟩ := ok.dt i _ e
    rw [hσ] at a; cases a
    refine ⟨.ref d, hσ, d, o, rfl, .inl ⟨vs, hd, ?_⟩⟩
    cases b with
    | dic h k =>
      have h2 := Same.rd ok.sub h
      rcases h with h | ⟨o', h⟩
      · have := ok.sub _ _ h; rw [hd] at this; cases this
      · have := ok.sub _ _ h; rw [hd] at this; cases this
        exact p _ G H ok Ext.refl (yields_keys h k)
  · exact p.elim
theorem tLc_src {wi wi' : TI} {g : TG} {tt : TT} {te : TE} {vs : List Nat} {σ : St} {H : Hp} {Q : VK} (h : ∀ R, wi σ H R → wi' σ H R) (w : tLc wi g tt te vs σ H Q) : tLc wi' g tt te vs σ H Q := h _ w
/-- a comprehension over the keys of a dict that is data -/
theorem px_lcK {i : Nat} {elt tg iter : Expr} {ifs : List Expr} {scope : Scope} {own : List (Str × Nat)} {b : D → Rho → Option Rho} {bs : List Nat} {t : M Bool} {e : M Sl} {g : TG} (hc : X.calm = true) (hN : X.N.Nodup) (hv : PE X iter (tVar i)) (ok : BlkOk X.N X.env.scope scope own)
    (hb : GB X.K pn g b bs) (hbs : ∀ i ∈ bs, i ∈ own.map (·.2)) (hpn : ∀ q ∈ pn, q.1 ∉ own.map (·.2))
    (hg : ∀ (s : Shared) (H : Hp) (C : Addr) (cl : List (Str × Addr)) (fp : List Addr), PG (X.blk s H scope (compEnvC scope cl C X.env) fp) tg g) (ht : ∀ (s : Shared) (H : Hp) (C : Addr) (cl : List (Str × Addr)) (fp : List Addr), PTs (X.blk s H scope (compEnvC scope cl C X.env) fp) ifs (tT X.K pn E00 t))
    (he : ∀ (s : Shared) (H : Hp) (C : Addr) (cl : List (Str × Addr)) (fp : List Addr), PE (X.blk s H scope (compEnvC scope cl C X.env) fp) elt (tE X.K pn E00 e)) (hs : ∀ x, foldedSetIterable iter X.env x = pure x := by intro _; rfl) :
    PE X (.ListComp elt [⟨tg, iter, ifs, 0⟩] scope pos) (tE X.K pn E00 (mComp (keysM i) (own.map (·.2)) b t e)) := by
  have base := pe_lc (pos := pos) hc hN (pi_keys (tg := tg) hv) ok hg ht he hs
  refine (base.or (pe_lock base)).imp fun σ H Q w => ?_
  obtain ⟨G, ρ, okE, p⟩ := w
  -- the dict
  have hd : ∃ ds, ρ[i]? = some (.dt (.dic ds)) := by
    unfold mComp bindM keysM at p
    cases q : ρ[i]? with
    | none => simp only [q] at p; exact p.elim
    | some s =>
      simp only [q] at p
      cases s with
      | dt dd =>
        cases dd with
        | dic ds => exact ⟨ds, rfl⟩
        | _ => exact p.elim
      | _ => exact p.elim
  obtain ⟨ds, hρ⟩ := hd
  obtain ⟨v, hσ, hv'⟩ := okE.dt i _ hρ
  cases hv' with
  | @dic a vs _ h k =>
    have lcw := fun (G : Hp) (H : Hp) (okE : EnvOk X.K pn G H σ ρ) (Q : VK) p => lc_of (E := E00) (K := X.K) (src := keysM i) (vs := own.map (·.2)) (b := b) (t := t) (e := e) hb hbs hpn σ H Q ⟨G, ρ, okE, p⟩
    rcases h with h | ⟨o, h⟩
    · right
      have hH := okE.sub _ _ h
      refine ⟨a, .dK vs, hH, trivial, fun od => ?_⟩
      have ok2 := okE.swap (o := .frz od (.dK vs)) h (Via.lock h)
      refine tLc_src (fun R => keys_of hσ upd_same) (lcw _ _ ok2 _ ?_)
      unfold Post at p ⊢
      split at p
      · intro v G' H' ok' x'
        have ga : G' a = some (.frz od (.dK vs)) := x'.grow _ _ upd_same
        have ok3 := ok'.swap (o := .dK vs) ga (Via.unlock ga)
        exact ⟨ok'.sub _ _ ga, p v _ _ ok3 (Ext.unlock h hH x')⟩
      · intro dd G' H' ok' x' xo
        have ga : G' a = some (.frz od (.dK vs)) := x'.grow _ _ upd_same
        have ok3 := ok'.swap (o := .dK vs) ga (Via.unlock ga)
        have := p dd _ _ ok3 (Ext.unlock h hH x') (XOk.unlock ga (ok'.sub _ _ ga) xo)
        exact this
      · exact p
    · left
      exact tLc_src (fun R => keys_of hσ (okE.sub _ _ h)) (lcw _ _ okE _ p)
end
end BT

namespace BT
open PySem L2
open PyProof.Rows (envOfC)

/-! ### data as the library's -/
mutual
def toPy : D → PyData
  | .non => .none | .bl b => .bool b | .int i => .int i | .str x => .str x
  | .tup xs => .tuple (toPyL xs) | .lst xs => .list (toPyL xs)
  | .dic _ => .dict [] | .ins _ _ => .dict []
def toPyL : List D → List PyData
  | [] => []
  | d :: ds => toPy d :: toPyL ds
end
def okD (d : D) : Bool := SeqAt.shaped (toPy d)
def eqD (d e : D) : Bool := PyData.eqv (toPy d) (toPy e)
mutual
theorem Dt.toDp {K : PySem.W.Frag} {H : Hp} : ∀ {v : V} {d : D}, Dt K H v d → PyData.canLay0 (toPy d) = true → Dp K H v (toPy d)
  | _, _, .non, _ => by simp only [toPy]; exact .non
  | _, _, .bl b, _ => by simp only [toPy]; exact .bl b
  | _, _, .int i, _ => by simp only [toPy]; exact .int i
  | _, _, .str x, _ => by simp only [toPy]; exact .str x
  | _, _, .tup h hs, c => by simp only [toPy, PyData.canLay0] at c ⊢; exact .tup h (DtL.toDp hs c)
  | _, _, .lst h hs, c => by simp only [toPy, PyData.canLay0] at c ⊢; exact .lst h (DtL.toDp hs c)
  | _, _, .dic h hs, c => by simp [toPy, PyData.canLay0] at c
  | _, _, .ins h h2 hs, c => by simp [toPy, PyData.canLay0] at c
theorem DtL.toDp {K : PySem.W.Frag} {H : Hp} : ∀ {v : List V} {d : List D}, DtL K H v d → PyData.canLayAll0 (toPyL d) = true → DpAll K H v (toPyL d)
  | _, _, .nil, _ => .nil
  | _, _, .cons h hs, c => by
    simp only [toPyL, PyData.canLayAll0, Bool.and_eq_true] at c
    exact .cons (Dt.toDp h c.1) (DtL.toDp hs c.2)
end

section
variable {X : Cx} {pn : List (Nat × Addr)} {E : XK}
/-! ### whole numbers -/
@[simp] def intM (k : Int → Int → Option D) : D → D → M Sl := fun d e => match d, e with | .int i, .int j => optD (k i j) | _, _ => fun _ => none
theorem opd_int {C : Int → Int → Prop} {g : Int → Int → V} {k : Int → Int → Option D} (hk : ∀ i j z, k i j = some z → C i j ∧ ∀ K G, Dt K G (g i j) z) : OpD X pn E (rI C g) (intM k) := fun σ G H ρ v u d e Q ok hv hu p => by
  cases hv with
  | int i =>
    cases hu with
    | int j =>
      simp only [intM, optD] at p
      cases ek : k i j with
      | none => rw [ek] at p; exact p.elim
      | some z =>
        rw [ek] at p
        obtain ⟨c, dt⟩ := hk i j z ek
        exact ⟨i, j, rfl, rfl, c, p.dt ok (dt _ _)⟩
    | _ => exact p.elim
  | _ => exact p.elim
theorem opd_int0 {g : Int → Int → V} {k : Int → Int → D} (hk : ∀ i j K G, Dt K G (g i j) (k i j)) : OpD X pn E (rI0 g) (intM fun i j => some (k i j)) := fun σ G H ρ v u d e Q ok hv hu p => by
  cases hv with
  | int i =>
    cases hu with
    | int j => exact ⟨i, j, rfl, rfl, p.dt ok (hk i j _ _)⟩
    | _ => exact p.elim
  | _ => exact p.elim
@[simp] def subD : D → D → M Sl := fun d e => (intM fun i j => some (.int (i - j))) d e
@[simp] def mulD : D → D → M Sl := fun d e => (intM fun i j => if i.natAbs.log2 + j.natAbs.log2 < 1000000 then some (.int (i * j)) else none) d e
@[simp] def modD : D → D → M Sl := fun d e => (intM fun i j => if 0 < j then some (.int (i % j)) else none) d e
@[simp] def fdivD : D → D → M Sl := fun d e => (intM fun i j => if 0 < j ∧ j < 1073741824 then some (.int (i / j)) else none) d e
@[simp] def shlD : D → D → M Sl := fun d e => (intM fun i j => if 0 ≤ j ∧ j ≤ 1000000 ∧ i.natAbs < 2 ^ 64 then some (.int (i * 2 ^ j.toNat)) else none) d e
@[simp] def shrD : D → D → M Sl := fun d e => (intM fun i j => if 0 ≤ j then some (.int (i / 2 ^ j.toNat)) else none) d e
@[simp] def andD : D → D → M Sl := fun d e => (intM fun i j => some (.int (Builtin.bitAnd i j))) d e
@[simp] def orD : D → D → M Sl := fun d e => (intM fun i j => some (.int (Builtin.bitOr i j))) d e
@[simp] def ltD : D → D → M Sl := fun d e => (intM fun i j => some (.bl (decide (i < j)))) d e
@[simp] def leD : D → D → M Sl := fun d e => (intM fun i j => some (.bl (decide (i ≤ j)))) d e
@[simp] def gtD : D → D → M Sl := fun d e => (intM fun i j => some (.bl (decide (j < i)))) d e
@[simp] def geD : D → D → M Sl := fun d e => (intM fun i j => some (.bl (decide (j ≤ i)))) d e
theorem od_sub : OpD X pn E (rI0 fun i j => .int (i - j)) subD := opd_int0 fun _ _ _ _ => .int _
theorem od_and : OpD X pn E (rI0 fun i j => .int (Builtin.bitAnd i j)) andD := opd_int0 fun _ _ _ _ => .int _
theorem od_or : OpD X pn E (rI0 fun i j => .int (Builtin.bitOr i j)) orD := opd_int0 fun _ _ _ _ => .int _
theorem od_lt : OpD X pn E (rI0 fun i j => .bl (decide (i < j))) ltD := opd_int0 fun _ _ _ _ => .bl _
theorem od_le : OpD X pn E (rI0 fun i j => .bl (decide (i ≤ j))) leD := opd_int0 fun _ _ _ _ => .bl _
theorem od_gt : OpD X pn E (rI0 fun i j => .bl (decide (j < i))) gtD := opd_int0 fun _ _ _ _ => .bl _
theorem od_ge : OpD X pn E (rI0 fun i j => .bl (decide (j ≤ i))) geD := opd_int0 fun _ _ _ _ => .bl _
theorem od_mul : OpD X pn E (rI CMulW fun i j => .int (i * j)) mulD := opd_int fun i j z h => by
  split at h
  · cases h; exact ⟨by assumption, fun _ _ => .int _⟩
  · cases h
theorem od_mod : OpD X pn E (rI (fun _ j => 0 < j) fun i j => .int (i % j)) modD := opd_int fun i j z h => by
  split at h
  · cases h; exact ⟨by assumption, fun _ _ => .int _⟩
  · cases h
theorem od_fdiv : OpD X pn E (rI CDiv fun i j => .int (i / j)) fdivD := opd_int fun i j z h => by
  split at h
  · cases h; exact ⟨by assumption, fun _ _ => .int _⟩
  · cases h
theorem od_shl : OpD X pn E (rI CPow fun i j => .int (i * 2 ^ j.toNat)) shlD := opd_int fun i j z h => by
  split at h
  · cases h; exact ⟨by assumption, fun _ _ => .int _⟩
  · cases h
theorem od_shr : OpD X pn E (rI (fun _ j => 0 ≤ j) fun i j => .int (i / 2 ^ j.toNat)) shrD := opd_int fun i j z h => by
  split at h
  · cases h; exact ⟨by assumption, fun _ _ => .int _⟩
  · cases h
/-- powers, of any size that fits -/
def CPowW (i j : Int) : Prop := 0 ≤ j ∧ (Builtin.Int.intBits i : Int) * j ≤ 2 ^ 27
theorem op_powW : OpR X (binaryOp .Pow) (rI CPowW fun i j => .int (i ^ j.toNat)) := opI fun _ _ _ _ _ _ _ hc q => PyProof.Rows.pow_int hc.1 hc.2 q
@[simp] def powD : D → D → M Sl := fun d e => (intM fun i j => if 0 ≤ j ∧ (Builtin.Int.intBits i : Int) * j ≤ 2 ^ 27 then some (.int (i ^ j.toNat)) else none) d e
theorem od_pow : OpD X pn E (rI CPowW fun i j => .int (i ^ j.toNat)) powD := opd_int fun i j z h => by
  split at h
  · cases h; exact ⟨by assumption, fun _ _ => .int _⟩
  · cases h

/-! ### + of numbers, texts, lists, tuples -/
def rCatL (K : PySem.W.Frag) : R2 := fun x y H Q => ∃ l b xs zs, x = .ref l ∧ y = .ref b ∧ SqL K H l xs ∧ SqL K H b zs ∧ xs.length + zs.length ≤ sizeLine ∧ ∀ p, H p = none → Q (.ref p) (upd H p (.lst (xs ++ zs)))
theorem op_catL : OpR X (binaryOp .Add) (rCatL X.K) := by
  intro pins s σ H x y v u Q I rx ry h
  obtain ⟨l, b, xs, zs, rfl, rfl, hH, hB, hz, q⟩ := h
  cases rx
  cases ry
  obtain ⟨its, r, p, z⟩ := I.list hH
  obtain ⟨its2, r2, p2, z2⟩ := I.list hB
  obtain ⟨⟨c1, d1, dt1, sl1⟩, n1, ho1, hc1, hd1, hdt1⟩ := p
  obtain ⟨⟨c2, d2, dt2, sl2⟩, n2, ho2, hc2, hd2, hdt2⟩ := p2
  simp only at hc1 hd1 hdt1 hc2 hd2 hdt2
  subst hc1 hd1 hdt1 hc2 hd2 hdt2
  have hl := r.length
  have hl2 := r2.length
  have ea : its.toArray ++ its2.toArray = (its ++ its2).toArray := by simp
  refine PySem.concat_meets ⟨_, ho1, rfl⟩ ⟨_, ho2, rfl⟩ PySem.noFill_list_add PySem.seq_list_add PySem.F.slot_list_add PySem.F.entry_list_add (PySem.F.args_list_add_2 _ _) (PyProof.Rows.list_addW l b its.toArray its2.toArray n1 n2 none none sl1 sl2 (by rw [List.size_toArray, List.size_toArray]; omega)) ⟨ho1, ho2, ?_⟩
  rw [ea]
  exact ⟨.ref _, _, I.lnew (t' := s.toks) (r.append r2) (by rw [List.length_append]; omega), rfl, q _ I.fresh⟩
def rAdds (K : PySem.W.Frag) : R2 := fun x y H Q => (∃ i j, x = .int i ∧ y = .int j ∧ Q (.int (i + j)) H) ∨ (∃ i j, x = .str i ∧ y = .str j ∧ i.length + j.length ≤ sizeLine ∧ Q (.str (i ++ j)) H) ∨ rCatL K x y H Q ∨ rCatA K x y H Q
theorem op_adds : OpR X (binaryOp .Add) (rAdds X.K) := op_add.or (op_add_str.or (op_catL.or op_catA))
@[simp] def addD : D → D → M Sl := fun d e => match d, e with
  | .int i, .int j => retD (.int (i + j))
  | .str i, .str j => if i.length + j.length ≤ sizeLine then retD (.str (i ++ j)) else fun _ => none
  | .lst xs, .lst ys => fun ρ => if xs.length + ys.length ≤ sizeLine then some (.val (.ol (xs ++ ys)) ρ) else none
  | .tup xs, .tup ys => fun ρ => if xs.length + ys.length ≤ sizeLine then some (.val (.dt (.tup (xs ++ ys))) ρ) else none
  | _, _ => fun _ => none
theorem od_add : OpD X pn E (rAdds X.K) addD := fun σ G H ρ v u d e Q ok hv hu p => by
  cases hv with
  | int i =>
    cases hu with
    | int j => exact .inl ⟨i, j, rfl, rfl, p.dt ok (.int _)⟩
    | _ => exact p.elim
  | str i =>
    cases hu with
    | str j =>
      simp only [addD] at p
      by_cases c : i.length + j.length ≤ sizeLine
      · rw [if_pos c] at p
        exact .inr (.inl ⟨i, j, rfl, rfl, c, p.dt ok (.str _)⟩)
      · rw [if_neg c] at p; exact p.elim
    | _ => exact p.elim
  | lst h hs =>
    cases hu with
    | lst h' hs' =>
      simp only [addD] at p
      split at p
      · rename_i c
        exact .inr (.inr (.inl ⟨_, _, _, _, rfl, rfl, ok.sub.seq h, ok.sub.seq h', by rw [hs.length, hs'.length]; exact c, fun q hq => p.lst ok (hs.append hs') hq⟩))
      · exact p.elim
    | _ => exact p.elim
  | tup h hs =>
    cases hu with
    | tup h' hs' =>
      rename_i a xs ds b ys es
      simp only [addD] at p
      by_cases c : ds.length + es.length ≤ sizeLine
      · rw [if_pos c] at p
        have l1 := hs.length
        have l2 := hs'.length
        refine .inr (.inr (.inr ⟨_, _, _, _, rfl, rfl, Same.sqT ok.sub h, Same.sqT ok.sub h', by omega, fun z => ?_, fun _ z => ?_, fun _ _ q hq => p.tup ok (hs.append hs') hq⟩))
        · subst z
          have : ds = [] := List.eq_nil_of_length_eq_zero (by simpa using l1.symm)
          subst this
          exact p.dt ok (.tup h' hs')
        · subst z
          have : es = [] := List.eq_nil_of_length_eq_zero (by simpa using l2.symm)
          subst this
          rw [List.append_nil] at p
          exact p.dt ok (.tup h hs)
      · rw [if_neg c] at p; exact p.elim
    | _ => exact p.elim
  | _ => exact p.elim

/-! ### == and != -/
def rEqs (K : PySem.W.Frag) : R2 := fun x y H Q => rEq x y H Q ∨ rEqD K x y H Q
def rNes (K : PySem.W.Frag) : R2 := fun x y H Q => rNe x y H Q ∨ rNeD K x y H Q
theorem op_eqs (hu : X.A.units + 64 < cLine) : OpR X (compareOp .Eq) (rEqs X.K) := op_eq.or (op_eqD hu)
theorem op_nes (hu : X.A.units + 64 < cLine) : OpR X (compareOp .NotEq) (rNes X.K) := op_ne.or (op_neD hu)
@[simp] def eqM : D → D → M Sl := fun d e => match d, e with
  | .str x, .str y => retD (.bl (decide (x = y)))
  | .int x, .int y => retD (.bl (decide (x = y)))
  | .bl x, .bl y => retD (.bl (decide (x = y)))
  | .non, .non => retD (.bl true)
  | _, _ => fun ρ => if okD d = true ∧ okD e = true then some (.val (.dt (.bl (eqD d e))) ρ) else none
@[simp] def neM : D → D → M Sl := fun d e => match d, e with
  | .str x, .str y => retD (.bl (!decide (x = y)))
  | .int x, .int y => retD (.bl (!decide (x = y)))
  | .bl x, .bl y => retD (.bl (!decide (x = y)))
  | .non, .non => retD (.bl false)
  | _, _ => fun ρ => if okD d = true ∧ okD e = true then some (.val (.dt (.bl (!eqD d e))) ρ) else none
theorem eqD_of {K : PySem.W.Frag} {σ : St} {G H : Hp} {ρ : Rho} {v u : V} {d e : D} {Q : VK} (ok : EnvOk K pn G H σ ρ) (hv : Dt K G v d) (hu : Dt K G u e)
    (p : Post K pn E σ G H (OwnAt σ ρ) (if okD d = true ∧ okD e = true then some (.val (.dt (.bl (eqD d e))) ρ) else none) Q) : rEqs K v u H Q := by
  by_cases c : okD d = true ∧ okD e = true
  · rw [if_pos c] at p
    exact .inr ⟨_, _, (hv.mono ok.sub).toDp (SeqAt.canLay_of_shaped c.1), (hu.mono ok.sub).toDp (SeqAt.canLay_of_shaped c.2), c.1, c.2, p.dt ok (.bl _)⟩
  · rw [if_neg c] at p; exact p.elim
theorem neD_of {K : PySem.W.Frag} {σ : St} {G H : Hp} {ρ : Rho} {v u : V} {d e : D} {Q : VK} (ok : EnvOk K pn G H σ ρ) (hv : Dt K G v d) (hu : Dt K G u e)
    (p : Post K pn E σ G H (OwnAt σ ρ) (if okD d = true ∧ okD e = true then some (.val (.dt (.bl (!eqD d e))) ρ) else none) Q) : rNes K v u H Q := by
  by_cases c : okD d = true ∧ okD e = true
  · rw [if_pos c] at p
    exact .inr ⟨_, _, (hv.mono ok.sub).toDp (SeqAt.canLay_of_shaped c.1), (hu.mono ok.sub).toDp (SeqAt.canLay_of_shaped c.2), c.1, c.2, p.dt ok (.bl _)⟩
  · rw [if_neg c] at p; exact p.elim
theorem decV_str (x y : Str) : decide (V.str x = V.str y) = decide (x = y) := by simp
theorem decV_int (x y : Int) : decide (V.int x = V.int y) = decide (x = y) := by simp
theorem decV_bl (x y : Bool) : decide (V.bl x = V.bl y) = decide (x = y) := by simp
theorem od_eq : OpD X pn E (rEqs X.K) eqM := fun σ G H ρ v u d e Q ok hv hu p => by
  unfold eqM at p
  split at p
  · cases hv; cases hu; exact .inl ⟨rfl, by rw [decV_str]; exact p.dt ok (.bl _)⟩
  · cases hv; cases hu; exact .inl ⟨rfl, by rw [decV_int]; exact p.dt ok (.bl _)⟩
  · cases hv; cases hu; exact .inl ⟨rfl, by rw [decV_bl]; exact p.dt ok (.bl _)⟩
  · cases hv; cases hu; exact .inl ⟨rfl, p.dt ok (.bl _)⟩
  · exact eqD_of ok hv hu p
theorem od_ne : OpD X pn E (rNes X.K) neM := fun σ G H ρ v u d e Q ok hv hu p => by
  unfold neM at p
  split at p
  · cases hv; cases hu; exact .inl ⟨rfl, by rw [decV_str]; exact p.dt ok (.bl _)⟩
  · cases hv; cases hu; exact .inl ⟨rfl, by rw [decV_int]; exact p.dt ok (.bl _)⟩
  · cases hv; cases hu; exact .inl ⟨rfl, by rw [decV_bl]; exact p.dt ok (.bl _)⟩
  · cases hv; cases hu; exact .inl ⟨rfl, p.dt ok (.bl _)⟩
  · exact neD_of ok hv hu p
/-- is None -/
@[simp] def isNon : D → Bool | .non => true | _ => false
@[simp] def isNM (neg : Bool) : D → D → M Sl := fun d e => match e with | .non => retD (.bl (if neg then !isNon d else isNon d)) | _ => fun _ => none
theorem isNon_dec {K : PySem.W.Frag} {G : Hp} {v : V} {d : D} (h : Dt K G v d) : decide (v = .non) = isNon d := by
  cases h <;> rfl
theorem od_isN : OpD X pn E (fun x y H Q => y = .non ∧ Q (.bl (decide (x = .non))) H) (isNM false) := fun σ G H ρ v u d e Q ok hv hu p => by
  cases hu with
  | non => exact ⟨rfl, by rw [isNon_dec hv]; exact p.dt ok (.bl _)⟩
  | _ => exact p.elim
theorem od_notN : OpD X pn E (fun x y H Q => y = .non ∧ Q (.bl (!decide (x = .non))) H) (isNM true) := fun σ G H ρ v u d e Q ok hv hu p => by
  cases hu with
  | non => exact ⟨rfl, by rw [isNon_dec hv]; exact p.dt ok (.bl _)⟩
  | _ => exact p.elim

/-! ### in -/
def rInTD (K : PySem.W.Frag) (neg : Bool) : R2 := fun x y H Q => ∃ d ds, Dp K H x d ∧ Dp K H y (.tuple ds) ∧ SeqAt.shaped d = true ∧ SeqAt.shaped (.tuple ds) = true ∧ Q (.bl (if neg then !ds.any fun z => PyData.eqv z d else ds.any fun z => PyData.eqv z d)) H
def rInLD (K : PySem.W.Frag) (neg : Bool) : R2 := fun x y H Q => ∃ d ds, Dp K H x d ∧ Dp K H y (.list ds) ∧ SeqAt.shaped d = true ∧ SeqAt.shaped (.list ds) = true ∧ Q (.bl (if neg then !ds.any fun z => PyData.eqv z d else ds.any fun z => PyData.eqv z d)) H
theorem op_inLD (hu : X.A.units + 65 < cLine) : OpR X (compareOp .In) (rInLD X.K false) := by
  intro pins s σ H x y v u Q I rx ry h
  obtain ⟨d, ds, hd, he, sd, se, q⟩ := h
  obtain ⟨as, r1⟩ := Dp.reads I d x v hd rx
  obtain ⟨bs, r2⟩ := Dp.reads I (.list ds) y u he ry
  exact SeqAt.in_list_reads r2 r1 (SeqAt.canLay_of_shaped se) (SeqAt.canLay_of_shaped sd) (PyProof.Rows.room_in_shaped sd hu) ⟨.bl _, H, I, rfl, q⟩
theorem op_notInLD (hu : X.A.units + 65 < cLine) : OpR X (compareOp .NotIn) (rInLD X.K true) := by
  intro pins s σ H x y v u Q I rx ry h
  obtain ⟨d, ds, hd, he, sd, se, q⟩ := h
  obtain ⟨as, r1⟩ := Dp.reads I d x v hd rx
  obtain ⟨bs, r2⟩ := Dp.reads I (.list ds) y u he ry
  exact SeqAt.notIn_list_reads r2 r1 (SeqAt.canLay_of_shaped se) (SeqAt.canLay_of_shaped sd) (PyProof.Rows.room_in_shaped sd hu) ⟨.bl _, H, I, rfl, q⟩
theorem op_inTD (hu : X.A.units + 65 < cLine) : OpR X (compareOp .In) (rInTD X.K false) := by
  intro pins s σ H x y v u Q I rx ry h
  obtain ⟨d, ds, hd, he, sd, se, q⟩ := h
  obtain ⟨as, r1⟩ := Dp.reads I d x v hd rx
  obtain ⟨bs, r2⟩ := Dp.reads I (.tuple ds) y u he ry
  exact SeqAt.in_tuple_reads r2 r1 (SeqAt.canLay_of_shaped se) (SeqAt.canLay_of_shaped sd) (PyProof.Rows.room_in_shaped sd hu) ⟨.bl _, H, I, rfl, q⟩
theorem op_notInTD (hu : X.A.units + 65 < cLine) : OpR X (compareOp .NotIn) (rInTD X.K true) := by
  intro pins s σ H x y v u Q I rx ry h
  obtain ⟨d, ds, hd, he, sd, se, q⟩ := h
  obtain ⟨as, r1⟩ := Dp.reads I d x v hd rx
  obtain ⟨bs, r2⟩ := Dp.reads I (.tuple ds) y u he ry
  exact SeqAt.notIn_tuple_reads r2 r1 (SeqAt.canLay_of_shaped se) (SeqAt.canLay_of_shaped sd) (PyProof.Rows.room_in_shaped sd hu) ⟨.bl _, H, I, rfl, q⟩
/-- a sign in a text -/
def rInS (neg : Bool) : R2 := fun x y H Q => ∃ (c : Nat) (z : Str), x = .str ⟨#[c]⟩ ∧ y = .str z ∧ Q (.bl (if neg then !decide (c ∈ z.cps.toList) else decide (c ∈ z.cps.toList))) H
theorem op_inS : OpR X (compareOp .In) (rInS false) := op_in_sign
theorem op_notInS : OpR X (compareOp .NotIn) (rInS true) := op_notIn_sign
def rIns (K : PySem.W.Frag) (neg : Bool) : R2 := fun x y H Q => rIn K neg x y H Q ∨ rInLD K neg x y H Q ∨ rInTD K neg x y H Q ∨ rInS neg x y H Q
theorem op_ins (hu : X.A.units + 65 < cLine) : OpR X (compareOp .In) (rIns X.K false) := op_in_seq.or ((op_inLD hu).or ((op_inTD hu).or op_inS))
theorem op_notIns (hu : X.A.units + 65 < cLine) : OpR X (compareOp .NotIn) (rIns X.K true) := op_notIn_seq.or ((op_notInLD hu).or ((op_notInTD hu).or op_notInS))
@[simp] def flatD : D → Bool | .non => true | .bl _ => true | .int _ => true | .str _ => true | _ => false
@[simp] def eqF : D → D → Bool
  | .non, .non => true
  | .bl a, .bl b => a == b
  | .bl a, .int b => (if a then 1 else 0) == b
  | .int a, .bl b => a == (if b then 1 else 0)
  | .int a, .int b => a == b
  | .str a, .str b => a == b
  | _, _ => false
theorem flat_of {K : PySem.W.Frag} {G : Hp} {v : V} {d : D} (h : Dt K G v d) (f : flatD d = true) : flatV v = true := by cases h <;> first | rfl | cases f
theorem eqF_of {K : PySem.W.Frag} {G : Hp} {v u : V} {d e : D} (h : Dt K G v d) (g : Dt K G u e) (f : flatD d = true) (f' : flatD e = true) : eqV v u = eqF d e := by
  cases h <;> cases g <;> first | rfl | cases f | cases f'
theorem flat_all {K : PySem.W.Frag} {G : Hp} : ∀ {vs : List V} {ds : List D}, DtL K G vs ds → ds.all flatD = true → vs.all flatV = true
  | _, _, .nil, _ => rfl
  | _, _, .cons h hs, f => by
    simp only [List.all_cons, Bool.and_eq_true] at f ⊢
    exact ⟨flat_of h f.1, flat_all hs f.2⟩
theorem any_eqF {K : PySem.W.Frag} {G : Hp} {x : V} {d : D} (hx : Dt K G x d) (fx : flatD d = true) : ∀ {vs : List V} {ds : List D}, DtL K G vs ds → ds.all flatD = true → (vs.any fun y => eqV y x) = ds.any fun e => eqF e d
  | _, _, .nil, _ => rfl
  | _, _, .cons h hs, f => by
    simp only [List.all_cons, Bool.and_eq_true] at f
    simp only [List.any_cons]
    rw [eqF_of h hx f.1 fx, any_eqF hx fx hs f.2]
theorem toPyL_map : ∀ ds : List D, toPyL ds = ds.map toPy
  | [] => rfl
  | d :: ds => by simp only [toPyL, List.map_cons, toPyL_map ds]
@[simp] def inM (neg : Bool) : D → D → M Sl := fun d e => match e with
  | .lst ds => fun ρ => if flatD d = true ∧ ds.all flatD = true then some (.val (.dt (.bl (if neg then !ds.any fun z => eqF z d else ds.any fun z => eqF z d))) ρ)
      else if okD d = true ∧ okD (.lst ds) = true then some (.val (.dt (.bl (if neg then !ds.any fun z => eqD z d else ds.any fun z => eqD z d))) ρ) else none
  | .tup ds => fun ρ => if flatD d = true ∧ ds.all flatD = true then some (.val (.dt (.bl (if neg then !ds.any fun z => eqF z d else ds.any fun z => eqF z d))) ρ)
      else if okD d = true ∧ okD (.tup ds) = true then some (.val (.dt (.bl (if neg then !ds.any fun z => eqD z d else ds.any fun z => eqD z d))) ρ) else none
  | .str z => fun ρ => match d with
    | .str x => (match x.cps.toList with | [c] => some (.val (.dt (.bl (if neg then !decide (c ∈ z.cps.toList) else decide (c ∈ z.cps.toList)))) ρ) | _ => none)
    | _ => none
  | _ => fun _ => none
theorem od_in {neg : Bool} : OpD X pn E (rIns X.K neg) (inM neg) := fun σ G H ρ v u d e Q ok hv hu p => by
  unfold inM at p
  cases hu with
  | lst h hs =>
    simp only at p
    split at p
    · rename_i c
      refine .inl ⟨_, _, rfl, .inl (ok.sub.seq h), flat_of hv c.1, flat_all hs c.2, ?_⟩
      have e1 := any_eqF hv c.1 hs c.2
      unfold inV
      rw [e1]; exact p.dt ok (.bl _)
    · split at p
      · rename_i c
        have h2 := (hv.mono ok.sub).toDp (SeqAt.canLay_of_shaped c.1)
        have h3 := ((Dt.lst h hs).mono ok.sub).toDp (SeqAt.canLay_of_shaped c.2)
        refine .inr (.inl ⟨_, _, h2, by simpa only [toPy] using h3, c.1, by simpa only [okD, toPy] using c.2, ?_⟩)
        rw [toPyL_map, List.any_map]
        exact p.dt ok (.bl _)
      · exact p.elim
  | tup h hs =>
    simp only at p
    split at p
    · rename_i c
      refine .inl ⟨_, _, rfl, .inr (Same.sqT ok.sub h), flat_of hv c.1, flat_all hs c.2, ?_⟩
      have e1 := any_eqF hv c.1 hs c.2
      unfold inV
      rw [e1]; exact p.dt ok (.bl _)
    · split at p
      · rename_i c
        have h2 := (hv.mono ok.sub).toDp (SeqAt.canLay_of_shaped c.1)
        have h3 := ((Dt.tup h hs).mono ok.sub).toDp (SeqAt.canLay_of_shaped c.2)
        refine .inr (.inr (.inl ⟨_, _, h2, by simpa only [toPy] using h3, c.1, by simpa only [okD, toPy] using c.2, ?_⟩))
        rw [toPyL_map, List.any_map]
        exact p.dt ok (.bl _)
      · exact p.elim
  | str z =>
    simp only at p
    cases hv with
    | str x =>
      simp only at p
      split at p
      · rename_i c e
        have ex : x = ⟨#[c]⟩ := by
          cases x with
          | mk a => cases a with
            | mk l => simp only at e; subst e; rfl
        subst ex
        exact .inr (.inr (.inr ⟨c, z, rfl, rfl, p.dt ok (.bl _)⟩))
      · exact p.elim
    | _ => exact p.elim
  | _ => exact p.elim

/-! ### o[i] of lists, tuples, texts -/
theorem atI_dt {K : PySem.W.Frag} {G : Hp} {vs : List V} {ds : List D} {i : Int} {d : D} (h : DtL K G vs ds) (e : atI ds i = some d) : ∃ v, atI vs i = some v ∧ Dt K G v d := by
  unfold atI at e ⊢
  rw [h.length]
  cases q : ixN ds.length i with
  | none => rw [q] at e; cases e
  | some j => rw [q] at e; exact h.getD e
@[simp] def ixM : D → D → M Sl := fun d e => match d, e with
  | .lst ds, .int i => optD (atI ds i)
  | .tup ds, .int i => optD (atI ds i)
  | .str z, .int i => fun ρ => if z.length ≤ sizeLine then (match atI z.cps.toList i with | some c => some (.val (.dt (.str ⟨#[c]⟩)) ρ) | none => none) else none
  | _, _ => fun _ => none
theorem od_ix : OpD X pn E (rIx X.K) ixM := fun σ G H ρ v u d e Q ok hv hu p => by
  unfold ixM at p
  cases hu with
  | int i =>
    cases hv with
    | lst h hs =>
      simp only [optD] at p
      split at p
      · rename_i z e
        obtain ⟨w, e1, e2⟩ := atI_dt hs e
        exact .inl ⟨_, _, i, w, rfl, rfl, ok.sub.seq h, e1, p.dt ok e2⟩
      · exact p.elim
    | tup h hs =>
      simp only [optD] at p
      split at p
      · rename_i z e
        obtain ⟨w, e1, e2⟩ := atI_dt hs e
        exact .inr (.inl ⟨_, _, i, w, rfl, rfl, Same.sqT ok.sub h, e1, p.dt ok e2⟩)
      · exact p.elim
    | str z =>
      simp only at p
      split at p
      · rename_i c
        split at p
        · rename_i c' e
          exact .inr (.inr ⟨z, i, c', rfl, rfl, c, e, p.dt ok (.str _)⟩)
        · exact p.elim
      · exact p.elim
    | _ => exact p.elim
  | _ => cases d <;> exact p.elim

/-! ### built-ins -/
theorem DtL.one {K : PySem.W.Frag} {G : Hp} {vs : List V} {d : D} (h : DtL K G vs [d]) : ∃ v, vs = [v] ∧ Dt K G v d := by
  cases h with
  | cons h1 h2 => cases h2; exact ⟨_, rfl, h1⟩
theorem DtL.two {K : PySem.W.Frag} {G : Hp} {vs : List V} {d e : D} (h : DtL K G vs [d, e]) : ∃ v u, vs = [v, u] ∧ Dt K G v d ∧ Dt K G u e := by
  cases h with
  | cons h1 h2 =>
    cases h2 with
    | cons h3 h4 => cases h4; exact ⟨_, _, rfl, h1, h3⟩
@[simp] def fun1 (k : D → M Sl) : List D → M Sl := fun ds => match ds with | [d] => k d | _ => fun _ => none
@[simp] def fun2 (k : D → D → M Sl) : List D → M Sl := fun ds => match ds with | [d, e] => k d e | _ => fun _ => none
def rLens (K : PySem.W.Frag) : List V → Hp → VK → Prop := fun xs H Q => (∃ p ys, xs = [.ref p] ∧ (SqL K H p ys ∨ SqT K H p ys) ∧ Q (.int ys.length) H) ∨ ∃ z, xs = [.str z] ∧ z.length ≤ sizeLine ∧ Q (.int z.length) H
theorem call_lens : CallR X (.builtin "len") (rLens X.K) := call_len_seq.or call_len_str
@[simp] def lenD : List D → M Sl := fun ds => (fun1 fun d => match d with
  | .lst ds => retD (.int ds.length)
  | .tup ds => retD (.int ds.length)
  | .str z => fun ρ => if z.length ≤ sizeLine then some (.val (.dt (.int z.length)) ρ) else none
  | _ => fun _ => none) ds
theorem cd_len : CallD X pn E (rLens X.K) lenD := fun σ G H ρ vs ds Q ok h p => by
  unfold lenD fun1 at p
  split at p
  · obtain ⟨v, rfl, hv⟩ := h.one
    cases hv with
    | lst h9 hs => exact .inl ⟨_, _, rfl, .inl (ok.sub.seq h9), by rw [hs.length]; exact p.dt ok (.int _)⟩
    | tup h9 hs => exact .inl ⟨_, _, rfl, .inr (Same.sqT ok.sub h9), by rw [hs.length]; exact p.dt ok (.int _)⟩
    | str z =>
      simp only at p
      split at p
      · rename_i c; exact .inr ⟨z, rfl, c, p.dt ok (.int _)⟩
      · exact p.elim
    | _ => exact p.elim
  · exact p.elim
@[simp] def asInts : List D → Option (List Int)
  | [] => some []
  | .int i :: ds => (asInts ds).map (i :: ·)
  | _ => none
@[simp] def asBls : List D → Option (List Bool)
  | [] => some []
  | .bl i :: ds => (asBls ds).map (i :: ·)
  | _ => none
theorem asInts_dt {K : PySem.W.Frag} {G : Hp} : ∀ {vs : List V} {ds : List D} {ns : List Int}, DtL K G vs ds → asInts ds = some ns → vs = ns.map V.int
  | _, _, _, .nil, e => by cases e; rfl
  | _, _, _, .cons h hs, e => by
    cases h with
    | int i =>
      simp only [asInts] at e
      cases q : asInts _ with
      | none => rw [q] at e; cases e
      | some ms => rw [q] at e; cases e; rw [asInts_dt hs q]; rfl
    | _ => cases e
theorem asBls_dt {K : PySem.W.Frag} {G : Hp} : ∀ {vs : List V} {ds : List D} {ns : List Bool}, DtL K G vs ds → asBls ds = some ns → vs = ns.map V.bl
  | _, _, _, .nil, e => by cases e; rfl
  | _, _, _, .cons h hs, e => by
    cases h with
    | bl i =>
      simp only [asBls] at e
      cases q : asBls _ with
      | none => rw [q] at e; cases e
      | some ms => rw [q] at e; cases e; rw [asBls_dt hs q]; rfl
    | _ => cases e
@[simp] def sumD : List D → M Sl := fun ds => (fun1 fun d => match d with | .lst ds => optD ((asInts ds).map fun ns => .int ns.sum) | _ => fun _ => none) ds
@[simp] def anyD : List D → M Sl := fun ds => (fun1 fun d => match d with | .lst ds => optD ((asBls ds).map fun bs => .bl (bs.any id)) | _ => fun _ => none) ds
@[simp] def allD : List D → M Sl := fun ds => (fun1 fun d => match d with | .lst ds => optD ((asBls ds).map fun bs => .bl (bs.all id)) | _ => fun _ => none) ds
theorem cd_sum : CallD X pn E (rSum X.K) sumD := fun σ G H ρ vs ds Q ok h p => by
  unfold sumD fun1 at p
  split at p
  · obtain ⟨v, rfl, hv⟩ := h.one
    cases hv with
    | lst h hs =>
      simp only [optD] at p
      split at p
      · rename_i z e
        cases q : asInts _ with
        | none => rw [q] at e; cases e
        | some ns =>
          rw [q] at e; cases e
          have := asInts_dt hs q
          subst this
          exact ⟨_, ns, rfl, ok.sub.seq h, p.dt ok (.int _)⟩
      · exact p.elim
    | _ => exact p.elim
  · exact p.elim
theorem cd_any : CallD X pn E (rAny X.K) anyD := fun σ G H ρ vs ds Q ok h p => by
  unfold anyD fun1 at p
  split at p
  · obtain ⟨v, rfl, hv⟩ := h.one
    cases hv with
    | lst h hs =>
      simp only [optD] at p
      split at p
      · rename_i z e
        cases q : asBls _ with
        | none => rw [q] at e; cases e
        | some ns =>
          rw [q] at e; cases e
          have := asBls_dt hs q
          subst this
          exact ⟨_, ns, rfl, ok.sub.seq h, p.dt ok (.bl _)⟩
      · exact p.elim
    | _ => exact p.elim
  · exact p.elim
theorem cd_all : CallD X pn E (rAll X.K) allD := fun σ G H ρ vs ds Q ok h p => by
  unfold allD fun1 at p
  split at p
  · obtain ⟨v, rfl, hv⟩ := h.one
    cases hv with
    | lst h hs =>
      simp only [optD] at p
      split at p
      · rename_i z e
        cases q : asBls _ with
        | none => rw [q] at e; cases e
        | some ns =>
          rw [q] at e; cases e
          have := asBls_dt hs q
          subst this
          exact ⟨_, ns, rfl, ok.sub.seq h, p.dt ok (.bl _)⟩
      · exact p.elim
    | _ => exact p.elim
  · exact p.elim
/-- tuple(x), list(x) -/
@[simp] def tupleD : List D → M Sl := fun ds => (fun1 fun d => match d with | .lst ds => retD (.tup ds) | .tup ds => retD (.tup ds) | _ => fun _ => none) ds
@[simp] def listD : List D → M Sl := fun ds => (fun1 fun d => match d with | .lst ds => (fun ρ => some (.val (.ol ds) ρ)) | .tup ds => (fun ρ => some (.val (.ol ds) ρ)) | _ => fun _ => none) ds
theorem cd_tuple : CallD X pn E (fun xs H Q => ∃ p ys, xs = [.ref p] ∧ ((SqL X.K H p ys ∧ ∀ l, H l = none → Q (.ref l) (upd H l (.tup ys))) ∨ (SqT X.K H p ys ∧ Q (.ref p) H))) tupleD := fun σ G H ρ vs ds Q ok h p => by
  unfold tupleD fun1 at p
  split at p
  · obtain ⟨v, rfl, hv⟩ := h.one
    cases hv with
    | lst h9 hs => exact ⟨_, _, rfl, .inl ⟨ok.sub.seq h9, fun l hl => p.tup ok hs hl⟩⟩
    | tup h9 hs => exact ⟨_, _, rfl, .inr ⟨Same.sqT ok.sub h9, p.dt ok (.tup h9 hs)⟩⟩
    | _ => exact p.elim
  · exact p.elim
theorem cd_list : CallD X pn E (fun xs H Q => ∃ p ys, xs = [.ref p] ∧ (SqL X.K H p ys ∨ SqT X.K H p ys) ∧ ∀ l, H l = none → Q (.ref l) (upd H l (.lst ys))) listD := fun σ G H ρ vs ds Q ok h p => by
  unfold listD fun1 at p
  split at p
  · obtain ⟨v, rfl, hv⟩ := h.one
    cases hv with
    | lst h9 hs => exact ⟨_, _, rfl, .inl (ok.sub.seq h9), fun l hl => p.lst ok hs hl⟩
    | tup h9 hs => exact ⟨_, _, rfl, .inr (Same.sqT ok.sub h9), fun l hl => p.lst ok hs hl⟩
    | _ => exact p.elim
  · exact p.elim
/-- max(i, j), min(i, j) -/
@[simp] def maxD : List D → M Sl := fun ds => (fun2 (intM fun i j => some (.int (if j > i then j else i)))) ds
@[simp] def minD : List D → M Sl := fun ds => (fun2 (intM fun i j => some (.int (if j < i then j else i)))) ds
theorem cd_max : CallD X pn E (fun xs H Q => ∃ i j, xs = [.int i, .int j] ∧ Q (.int (if j > i then j else i)) H) maxD := fun σ G H ρ vs ds Q ok h p => by
  unfold maxD fun2 at p
  split at p
  · obtain ⟨v, u, rfl, hv, hu⟩ := h.two
    cases hv with
    | int i =>
      cases hu with
      | int j => exact ⟨i, j, rfl, p.dt ok (.int _)⟩
      | _ => exact p.elim
    | _ => exact p.elim
  · exact p.elim
theorem cd_min : CallD X pn E (fun xs H Q => ∃ i j, xs = [.int i, .int j] ∧ Q (.int (if j < i then j else i)) H) minD := fun σ G H ρ vs ds Q ok h p => by
  unfold minD fun2 at p
  split at p
  · obtain ⟨v, u, rfl, hv, hu⟩ := h.two
    cases hv with
    | int i =>
      cases hu with
      | int j => exact ⟨i, j, rfl, p.dt ok (.int _)⟩
      | _ => exact p.elim
    | _ => exact p.elim
  · exact p.elim
/-- int(b) -/
@[simp] def intD : List D → M Sl := fun ds => (fun1 fun d => match d with | .int i => retD (.int i) | .bl b => retD (.int (if b then 1 else 0)) | _ => fun _ => none) ds
theorem cd_int : CallD X pn E (fun xs H Q => (∃ i, xs = [.int i] ∧ Q (.int i) H) ∨ ∃ k, xs = [.bl k] ∧ Q (.int (if k then 1 else 0)) H) intD := fun σ G H ρ vs ds Q ok h p => by
  unfold intD fun1 at p
  split at p
  · obtain ⟨v, rfl, hv⟩ := h.one
    cases hv with
    | int i => exact .inl ⟨i, rfl, p.dt ok (.int _)⟩
    | bl i => exact .inr ⟨i, rfl, p.dt ok (.int _)⟩
    | _ => exact p.elim
  · exact p.elim

/-! ### isinstance -/
@[simp] def tyD : D → Option String
  | .non => some "NoneType" | .bl _ => some "bool" | .int _ => some "int" | .str _ => some "str" | .tup _ => some "tuple" | .lst _ => some "list" | .dic _ => some "dict" | .ins _ _ => none
@[simp] def isT (T t : String) : Bool := t == T || (T == "int" && t == "bool")
@[simp] def isiM (T : String) (f : M Sl) : M Sl := fun ρ => (bindD f fun d => optD ((tyD d).map fun t => .bl (isT T t))) ρ
theorem tyx_of {K : PySem.W.Frag} {H : Hp} {v : V} {d : D} {t : String} (h : Dt K H v d) (e : tyD d = some t) : TyX K H v (.type t) := by
  cases h with
  | non => cases e; exact .base .non
  | bl b => cases e; exact .base (.bl b)
  | int b => cases e; exact .base (.int b)
  | str b => cases e; exact .base (.str b)
  | tup h _ =>
    cases e
    rcases h with (h | ⟨o, h⟩) | ⟨o, its, n, h1, h2, _⟩
    · exact .base (.tup h)
    · exact .fTuple h
    · exact .kTuple h1 h2
  | lst h _ =>
    cases e
    rcases h with (h | ⟨o, h⟩) | ⟨o, its, n, h1, h2, _⟩
    · exact .base (.lst h)
    · exact .base (.frz h)
    · exact .kList h1 h2
  | dic h _ =>
    cases e
    rcases h with h | ⟨o, h⟩
    · exact .base (.dK h)
    · exact .fDict h
  | ins _ _ _ => cases e
def KitT (T : String) : Prop := kitB "NoneType" T = some (isT T "NoneType") ∧ kitB "bool" T = some (isT T "bool") ∧ kitB "int" T = some (isT T "int") ∧ kitB "str" T = some (isT T "str") ∧ kitB "tuple" T = some (isT T "tuple") ∧ kitB "list" T = some (isT T "list") ∧ kitB "dict" T = some (isT T "dict")
theorem kit_tuple : KitT "tuple" := ⟨by decide +kernel, by decide +kernel, by decide +kernel, by decide +kernel, by decide +kernel, by decide +kernel, by decide +kernel⟩
theorem kit_str : KitT "str" := ⟨by decide +kernel, by decide +kernel, by decide +kernel, by decide +kernel, by decide +kernel, by decide +kernel, by decide +kernel⟩
theorem kit_int : KitT "int" := ⟨by decide +kernel, by decide +kernel, by decide +kernel, by decide +kernel, by decide +kernel, by decide +kernel, by decide +kernel⟩
theorem kit_bool : KitT "bool" := ⟨by decide +kernel, by decide +kernel, by decide +kernel, by decide +kernel, by decide +kernel, by decide +kernel, by decide +kernel⟩
theorem kit_list : KitT "list" := ⟨by decide +kernel, by decide +kernel, by decide +kernel, by decide +kernel, by decide +kernel, by decide +kernel, by decide +kernel⟩
theorem KitT.at {T t : String} {d : D} (h : KitT T) (e : tyD d = some t) : kitB t T = some (isT T t) := by
  obtain ⟨h1, h2, h3, h4, h5, h6, h7⟩ := h
  cases d <;> cases e <;> assumption
theorem px_isi {T : String} {x : Str} {p p2 pos : Pos} {e : Expr} {f : M Sl} (hk : KitT T) (he : PE X e (tE X.K pn E f)) (hm1 : X.mg "isinstance" = none) (hm2 : X.mg x = none) (hv : bootBuiltins x = some (.type T)) (hg1 : Gl X "isinstance" := by rfl) (hg2 : Gl X x := by rfl)
    (hn : x ≠ "__name__" := by decide) (hd : (x == ("__debug__" : Str)) = false := by decide) (hs1 : starEach [e, .Name x p2] X.env = (false, eval e X.env) :: starEach [.Name x p2] X.env := by rfl) (hs2 : starEach [.Name x p2] X.env = (false, eval (.Name x p2) X.env) :: starEach [] X.env := by rfl) (hpl : (backTo pos (starEach [.Name x p2] X.env)).any (·.1) = false := by rfl) :
    PE X (.Call (.Name "isinstance" p) [e, .Name x p2] [] pos) (tE X.K pn E (isiM T f)) :=
  (pe_callB call_isi hg1 hm1 (by decide +kernel) (pa_cons he (pa_cons (pe_bltn (v := .ty T) hg2 hm2 hv rfl hn hd) pa_nil hs2) hs1) (by decide) (by decide) hs1 hpl).imp fun σ H Q ⟨G, ρ, ok, w⟩ => ⟨G, ρ, ok, (Post.bindD ok w).mono fun v H1 ⟨G1, ρ1, d, ok1, s1, d1, p1⟩ => by
    simp only [optD] at p1
    cases et : tyD d with
    | none => rw [et] at p1; exact p1.elim
    | some t =>
      rw [et] at p1
      exact ⟨v, .ty T, .type t, .type T, isT T t, rfl, .ty T, tyx_of (d1.mono ok1.sub) et, kit_ty (hk.at et), p1.dt ok1 (.bl _)⟩⟩
end
end BT

namespace PySem
open Builtin Builtin.Str
section
variable {prog : Program} {w : World} {A : Around} {E : Value → Shared → Prop} {s : Shared}
theorem bt_meets_enumT (l : Addr) (items : Array Value) (o : Obj) :
    Meets (Builtin.«enumerate.__new__» ⟨[.type "enumerate", .ref l], []⟩) (fun _ R s => (s.heap.get? l = some o ∧ s.heap.IsTuple l items) ∧
      R (.ok (.ret (.ref (s.heap.push { cls := .type "tuple_iterator", data := .fields #[.ref l, .int 0 0] }).objs.size)))
        { s with heap := (s.heap.push { cls := .type "tuple_iterator", data := .fields #[.ref l, .int 0 0] }).push { cls := .type "enumerate", data := .fields #[.none, .bool false, .ref s.heap.objs.size, rawInt 0, .none, .none] } }) :=
  .of_wp fun prog w A R s h => by
    obtain ⟨hp, g, d, tk, os⟩ := s; obtain ⟨⟨hl, hL⟩, h⟩ := h
    have hsub := sub_enumerate
    wp_walk using AutoSeq1.wpAny_loadPart' hl
    refine wpAny_stack_any fun st => wpAny_pure ?_
    split
    · rename_i c _ _ _ _ _
      cases (c == Value.type "enumerate")
      · wp_walk using AutoSeq1.wpAny_loadPart' hl, wpAny_pyIter_tuple hL
        exact ⟨_, rfl, h⟩
      · wp_walk using AutoSeq1.wpAny_loadPart' hl, wpAny_pyIter_tuple hL
        exact ⟨_, rfl, h⟩
    · wp_walk using AutoSeq1.wpAny_loadPart' hl, wpAny_pyIter_tuple hL
      exact ⟨_, rfl, h⟩
theorem bt_call_enumT {l : Addr} {items : Array Value} {Q : Value → Shared → Prop} (hL : s.heap.IsTuple l items)
    (h : ∀ h', IsEnum h' (s.heap.objs.size + 1) s.heap.objs.size 0 .none → h'.IsTupleIter s.heap.objs.size l 0 → h'.objs.size = s.heap.objs.size + 2 →
      (∀ b o, s.heap.get? b = some o → h'.get? b = some o) → Q (.ref (s.heap.objs.size + 1)) { s with heap := h' }) :
    wpAny (model prog w) A (call (.type "enumerate") [.ref l]) Q E s := by
  obtain ⟨o, hl, _⟩ := id hL
  refine callType_new F.called_enumerate (by decide) (F.typeCall_enumerate_1 _) (F.newCall_enumerate_1 _) (fun obj => F.args_object_init_2 obj _) F.entry_enumerate_new
    (bt_meets_enumT l items o) ⟨⟨hl, hL⟩, ?_⟩
  have hz : (s.heap.push { cls := .type "tuple_iterator", data := .fields #[.ref l, .int 0 0] }).objs.size = s.heap.objs.size + 1 := Heap.size_push ..
  show _ ∧ _
  rw [hz]
  have he : IsEnum ((s.heap.push { cls := .type "tuple_iterator", data := .fields #[.ref l, .int 0 0] }).push
      { cls := .type "enumerate", data := .fields #[.none, .bool false, .ref s.heap.objs.size, rawInt 0, .none, .none] }) (s.heap.objs.size + 1) s.heap.objs.size 0 .none := by
    have := Heap.get?_push_size (s.heap.push { cls := .type "tuple_iterator", data := .fields #[.ref l, .int 0 0] })
      (o := { cls := .type "enumerate", data := .fields #[.none, .bool false, .ref s.heap.objs.size, rawInt 0, .none, .none] }) rfl
    rw [hz] at this; exact this
  refine ⟨⟨_, he, rfl⟩, h _ he ⟨_, Heap.get?_push_of_some _ (Heap.get?_push_size _ rfl), rfl, rfl⟩ (by rw [Heap.size_push, hz]) fun b o x => Heap.get?_push_of_some _ (Heap.get?_push_of_some _ x)⟩
end
end PySem

namespace L2
open PySem PySem.Spec PyProof.Rows
/-- the tuple at a, each item in a new pair -/
def IteT (K : PySem.W.Frag) (a : Addr) : It :=
  ⟨fun i H => ∃ (xs : List V) (x : V), SqT K H a xs ∧ xs[i]? = some x, fun i H v H' => ∃ T x, v = .ref T ∧ H T = none ∧ H' = upd H T (.tup [.int (i : Nat), x]) ∧ ∀ xs, SqT K H a xs → xs[i]? = some x, fun i H => ∃ xs : List V, SqT K H a xs ∧ xs.length ≤ i⟩
theorem turn_enumT {P : Program} {w : World} {K : PySem.W.Frag} {elts : List Expr} {kk : Nat} {tpos : Pos} (a e it : Addr) (hai : a ≠ it) (hae : a ≠ e) :
    Turn P w K (.Tuple elts kk tpos) (IteT K a) [e, it] e (fun i h => (∃ old, IsEnum h e it ((i : Nat) : Int) old) ∧ h.IsTupleIter it a i ∧ e ≠ it) where
  mem := by simp
  obj := fun i h st b hb => by
    obtain ⟨⟨old, he⟩, ⟨o, ho, hc, hd⟩, _⟩ := st
    have e' : b = e ∨ b = it := by simpa using hb
    rcases e' with z | z
    · rw [z]; exact ⟨_, he, fun v q => nomatch q⟩
    · rw [z]; exact ⟨o, ho, fun v q => by rw [hd] at q; cases q⟩
  keep := fun i h h' st k => let ⟨⟨old, he⟩, hi, hne⟩ := st; ⟨⟨old, k e (by simp) _ he⟩, hi.at fun o q => k it (by simp) o q, hne⟩
  item := by
    intro X hP hw hK hc i pins s σ H E I hf st hg
    subst hP hw hK
    obtain ⟨⟨old, he⟩, hit, hne⟩ := st
    obtain ⟨xs, x, hq, hx⟩ := hg
    obtain ⟨its, rv, p, hz⟩ := I.tuple hq
    obtain ⟨u, hu, ru⟩ := rv.get hx
    have hel : e < s.heap.objs.size := Heap.lt_size he
    have hil : it < s.heap.objs.size := by obtain ⟨_, q, _⟩ := hit; exact Heap.lt_size q
    have hlt : i < its.toArray.size := by
      have := (List.getElem?_eq_some_iff.mp hu).1
      simpa using this
    refine wpAny_pyNext_enum_itemD (Draws.tuple (A := X.A.in1) (by first | exact I.ok.hd hc) it a hai its.toArray) he ⟨hit, p⟩ hlt hne (by simp [hae.symm, hne]) fun x' h' tk hP' ho hst' hT hsz hk => ?_
    obtain ⟨hit', ht'⟩ := hst'
    have ex : x' = u := by
      have h1 : its.toArray[i]? = some x' := hP'
      rw [show its.toArray[i]? = some u by simpa using hu] at h1
      exact (Option.some.inj h1).symm
    subst ex
    refine ⟨_, rfl, wpAny_letOwnedTupleGo_enum (s := { s with heap := h', toks := tk + 1 }) ho fun h'' he' sb => ?_⟩
    have hT2 : h''.get? s.heap.objs.size = some { cls := .type "tuple", data := .seq #[.int i tk, x'] } := (sb.2 _ (Nat.ne_of_gt hel)).trans hT
    have new : ObjOk X.prog X.w (upd H s.heap.objs.size (.tup [.int (i : Nat), x])) h'' s.heap.objs.size (.tup [.int (i : Nat), x]) :=
      ⟨by show 2 ≤ sizeLine; decide, [.int i tk, x'], .cons ⟨_, rfl⟩ (.cons ru .nil), ⟨_, hT2, rfl, _, rfl⟩⟩
    have I1 : Inv X pins σ (upd H s.heap.objs.size (.tup [.int (i : Nat), x])) { s with heap := h'', toks := tk + 1 } :=
      I.turnedNew (ch := [e, it]) (fun b ob hb q => (sb.2 b (fun z => hb (by simp [z]))).trans (hk b ob (fun z => hb (by simp [z])) (fun z => hb (by simp [z])) q)) hf (Nat.le_refl _) new
    refine ⟨.ref s.heap.objs.size, _, I1, rfl, ⟨_, x, rfl, I.hok.fresh (Nat.le_refl _), rfl, fun ys hy => by rw [I.tuple_inj hy hq]; exact hx⟩, ⟨⟨x', ?_⟩, hit'.at fun o q => (sb.2 it (Ne.symm hne)).trans q, hne⟩, fun b hb => ?_⟩
    · have e1 : ((i + 1 : Nat) : Int) = (i : Int) + 1 := by omega
      rw [e1]; exact he'
    · have hb' : b < s.heap.objs.size := by
        have e' : b = e ∨ b = it := by simpa using hb
        rcases e' with z | z
        · rw [z]; exact hel
        · rw [z]; exact hil
      rw [upd_ne (Nat.ne_of_lt hb')]
      exact (hf b hb).1
  done := by
    intro X hP hw hK hc i pins s σ H E I hf st hg
    subst hP hw hK
    obtain ⟨⟨old, he⟩, hit, hne⟩ := st
    obtain ⟨xs, hq, hx⟩ := hg
    obtain ⟨its, rv, p, hz⟩ := I.tuple hq
    obtain ⟨f0, f1, f2, f3, f4, f5⟩ := hf it (by simp)
    have hl := rv.length
    unfold pyNext
    have hT : s.TypeIs (.ref e) "enumerate" := ⟨_, he, rfl⟩
    refine wpAny_bind (wpAny_attempt (wpAny_callSpecial?_slot (name := Str.ofString "__next__") hT F.slot_enumerate_next
      (wpAny_call_entry F.slot_enumerate_next hT F.entry_enumerate_next ?_ (F.args_enumerate_next_1 _))))
    show wpAny _ _ (field (.ref e) 2 >>= _) _ _ _
    refine wpAny_bind (wpAny_field he rfl (x := .ref it) rfl ?_)
    refine wpAny_bind (PySem.wpAny_nextOf_tuple_end (I.ok.hd hc) hit p (by simp; omega) fun h' x he' hx' => ?_)
    obtain ⟨o, ho, hc'⟩ := hx'
    refine wpAny_bind (wpAny_isInstance (T := "StopIteration") (b := true) ⟨o, ho, hc'⟩ PySem.isSubtype_stop ?_)
    exact wpAny_pure ⟨rfl, I.turned (t' := s.toks) (fun b o hb q => he' b o hb q) f0 f1 f3 f4 f5⟩
  self := fun A i s Q E st h => let ⟨⟨_, he⟩, _⟩ := st; wpAny_pyIter_enum he h
def iEnums (K : PySem.W.Frag) (ta : TA) : TI := fun σ H R => ta σ H fun vs H1 => ∃ a xs, vs = [.ref a] ∧ ((SqL K H1 a xs ∧ R (Ite K a) H1) ∨ (SqT K H1 a xs ∧ R (IteT K a) H1))
theorem pi_enums {X : Cx} {e : Expr} {ta : TA} {p pos tpos : Pos} {elts : List Expr} {kk : Nat} (hg : Gl X "enumerate") (hm : X.mg "enumerate" = none) (ha : PA X [e] ta) (hs : starEach [e] X.env = [(false, eval e X.env)] := by rfl) :
    PI X (.Tuple elts kk tpos) (.Call (.Name "enumerate" p) [e] [] pos) (iEnums X.K ta) := by
  refine ⟨fun pins s σ H R I h => ?_⟩
  refine Call_ (ld_blt I hg hm boot_enumerate (PyProof.Rows.callWith_type1 (thn (ha.run pos pins s σ H _ I h) fun us s1 ⟨vs, H1, I1, r1, q1⟩ => ?_) hs rfl))
  obtain ⟨a, xs, ex, q1⟩ := q1
  subst ex
  cases r1 with
  | cons r rr =>
    cases rr
    cases r
    have fp : ∀ b ∈ [s1.heap.objs.size + 1, s1.heap.objs.size], FpOk X pins H1 b := fun b hb => by
      have e' : b = s1.heap.objs.size + 1 ∨ b = s1.heap.objs.size := by simpa using hb
      have hle : s1.heap.objs.size ≤ b := by
        rcases e' with z | z
        · rw [z]; exact Nat.le_add_right _ _
        · rw [z]; exact Nat.le_refl _
      exact I1.fpOk hle (I1.hok.fresh hle)
    rcases q1 with ⟨hq, q⟩ | ⟨hq, q⟩
    · obtain ⟨its, rv, p', hz⟩ := I1.list hq
      refine call_enumerate_list p'.isList fun h' he hit hsz hk => wpAny_pyIter_enum he ?_
      have I2 : Inv X pins σ H1 { s1 with heap := h' } := I1.kept (t' := s1.toks) hk
      exact ⟨s1.heap.objs.size + 1, [s1.heap.objs.size + 1, s1.heap.objs.size], _, _, H1, rfl, I2, turn_enum a (s1.heap.objs.size + 1) s1.heap.objs.size, ⟨⟨.none, he⟩, hit, Nat.succ_ne_self _⟩, fp, q⟩
    · obtain ⟨its, rv, p', hz⟩ := I1.tuple hq
      obtain ⟨o, ho, _⟩ := id p'
      have hlt : a < s1.heap.objs.size := Heap.lt_size ho
      refine bt_call_enumT (show s1.heap.IsTuple a its.toArray from p') fun h' he hit hsz hk => wpAny_pyIter_enum he ?_
      have I2 : Inv X pins σ H1 { s1 with heap := h' } := I1.kept (t' := s1.toks) hk
      exact ⟨s1.heap.objs.size + 1, [s1.heap.objs.size + 1, s1.heap.objs.size], _, _, H1, rfl, I2, turn_enumT a (s1.heap.objs.size + 1) s1.heap.objs.size (Nat.ne_of_lt hlt) (Nat.ne_of_lt (Nat.lt_succ_of_lt hlt)), ⟨⟨.none, he⟩, hit, Nat.succ_ne_self _⟩, fp, q⟩
end L2

namespace BT
open PySem L2
open PyProof.Rows (envOfC)

def enumL (ds : List D) : List D := ds.mapIdx fun i d => .tup [.int (i : Nat), d]
@[simp] def enumM (fs : M (List D)) : M (List D) := fun ρ => (bindM fs fun ds => match ds with
  | [.lst ds] => fun ρ => some (.val (enumL ds) ρ)
  | [.tup ds] => fun ρ => some (.val (enumL ds) ρ)
  | _ => fun _ => none) ρ
section
variable {K : PySem.W.Frag} {G H : Hp} {a : Addr} {xs : List V} {ds : List D}
theorem enumL_get {i : Nat} {d : D} (h : (enumL ds)[i]? = some d) : ∃ e, ds[i]? = some e ∧ d = .tup [.int (i : Nat), e] := by
  unfold enumL at h
  rw [List.getElem?_mapIdx] at h
  cases q : ds[i]? with
  | none => rw [q] at h; cases h
  | some e => rw [q] at h; cases h; exact ⟨e, rfl, rfl⟩
theorem yields_enum (h : SqL K G a xs) (hd : DtL K G xs ds) : Yields K (Ite K a) G (enumL ds) := by
  have hl := hd.length
  have hl2 : (enumL ds).length = ds.length := by simp [enumL]
  refine ⟨fun H k => ⟨xs, k.seq h, by omega⟩, fun i d H k e => ?_, fun i d H x H' k e q => ?_⟩
  · obtain ⟨e', e1, _⟩ := enumL_get e
    obtain ⟨x, e1, _⟩ := hd.getD e1
    exact ⟨xs, x, k.seq h, e1⟩
  · obtain ⟨e', e1, rfl⟩ := enumL_get e
    obtain ⟨x', e1, e2⟩ := hd.getD e1
    obtain ⟨T, y, rfl, hT, rfl, q⟩ := q
    have := q xs (k.seq h)
    rw [e1] at this; cases this
    exact .inr ⟨T, _, _, hT, rfl, rfl, rfl, .cons (.int _) (.cons e2 .nil)⟩
theorem yields_enumT (h : SqT K G a xs) (hd : DtL K G xs ds) : Yields K (IteT K a) G (enumL ds) := by
  have hl := hd.length
  have hl2 : (enumL ds).length = ds.length := by simp [enumL]
  refine ⟨fun H k => ⟨xs, Same.sqT k h, by omega⟩, fun i d H k e => ?_, fun i d H x H' k e q => ?_⟩
  · obtain ⟨e', e1, _⟩ := enumL_get e
    obtain ⟨x, e1, _⟩ := hd.getD e1
    exact ⟨xs, x, Same.sqT k h, e1⟩
  · obtain ⟨e', e1, rfl⟩ := enumL_get e
    obtain ⟨x', e1, e2⟩ := hd.getD e1
    obtain ⟨T, y, rfl, hT, rfl, q⟩ := q
    have := q xs (Same.sqT k h)
    rw [e1] at this; cases this
    exact .inr ⟨T, _, _, hT, rfl, rfl, rfl, .cons (.int _) (.cons e2 .nil)⟩
end
section
variable {X : Cx} {pn : List (Nat × Addr)} {E : XK} {pos : Pos} {tg : Expr}
theorem pix_enum {e : Expr} {fs : M (List D)} {p tpos : Pos} {elts : List Expr} {kk : Nat} (hm : X.mg "enumerate" = none) (ha : PA X [e] (tA X.K pn E fs)) (hg : Gl X "enumerate" := by rfl) (hs : starEach [e] X.env = [(false, eval e X.env)] := by rfl) :
    PI X (.Tuple elts kk tpos) (.Call (.Name "enumerate" p) [e] [] pos) (tI X.K pn E (enumM fs)) :=
  PI.imp (pi_enums hg hm ha hs) fun σ H R ⟨G, ρ, ok, h⟩ => ⟨G, ρ, ok, (PostI.bindA ok h).mono fun vs H1 ⟨G1, ρ1, ds, ok1, s1, d1, p1⟩ => by
    split at p1
    · obtain ⟨v, rfl, hv⟩ := d1.one
      cases hv with
      | lst h9 hs => exact ⟨_, _, rfl, .inl ⟨ok1.sub.seq h9, p1 _ G1 H1 ok1 Ext.refl (yields_enum h9 hs)⟩⟩
    · obtain ⟨v, rfl, hv⟩ := d1.one
      cases hv with
      | tup h9 hs => exact ⟨_, _, rfl, .inr ⟨Same.sqT ok1.sub h9, p1 _ G1 H1 ok1 Ext.refl (yields_enumT h9 hs)⟩⟩
    · exact p1.elim⟩

/-! ### -e; a < b < c; a name of the module -/
@[simp] def negM (f : M Sl) : M Sl := fun ρ => (bindD f fun d => match d with | .int i => retD (.int (-i)) | _ => fun _ => none) ρ
theorem px_neg {a : Expr} {f : M Sl} (ha : PE X a (tE X.K pn E f)) : PE X (.UnaryOp .USub a pos) (tE X.K pn E (negM f)) :=
  (pe_un un_neg ha).imp fun σ H Q ⟨G, ρ, ok, h⟩ => ⟨G, ρ, ok, (Post.bindD ok h).mono fun v H1 ⟨G1, ρ1, d, ok1, s1, d1, p1⟩ => by
    cases d1 with
    | int i => exact ⟨i, rfl, p1.dt ok1 (.int _)⟩
    | _ => exact p1.elim⟩
/-- what a pure comparison gives -/
@[simp] def chain3 (f g h : M Sl) (k k' : D → D → Option Bool) : M Sl := fun ρ => (bindD f fun d => bindD g fun e => match k d e with
  | some true => bindD h fun e' => (match k' e e' with | some b => retD (.bl b) | none => fun _ => none)
  | some false => retD (.bl false)
  | none => fun _ => none) ρ
@[simp] def iiB (p : Int → Int → Bool) : D → D → Option Bool := fun d e => match d, e with | .int i, .int j => some (p i j) | _, _ => none
theorem chain_of {p p' : Int → Int → Bool} {f g h : M Sl} (σ : St) (H : Hp) (Q : VK) (w : tE X.K pn E (chain3 f g h (iiB p) (iiB p')) σ H Q) : tChain (rI0 fun i j => .bl (p i j)) (rI0 fun i j => .bl (p' i j)) (tE X.K pn E f) (tE X.K pn E g) (tE X.K pn E h) σ H Q := by
  obtain ⟨G, ρ, ok, w⟩ := w
  refine ⟨G, ρ, ok, (Post.bindD ok w).mono fun v H1 ⟨G1, ρ1, d, ok1, s1, d1, p1⟩ => ⟨G1, ρ1, ok1, (Post.bindD ok1 p1).mono fun u H2 ⟨G2, ρ2, e, ok2, s2, d2, p2⟩ => ?_⟩⟩
  cases d1 with
  | int i =>
    cases d2 with
    | int j =>
      refine ⟨i, j, rfl, rfl, p i j, rfl, ?_⟩
      simp only [iiB] at p2
      cases c : p i j with
      | false =>
        rw [c] at p2
        rw [if_neg Bool.false_ne_true]
        exact p2.dt ok2 (.bl _)
      | true =>
        rw [c] at p2
        rw [if_pos rfl]
        refine ⟨G2, ρ2, ok2, (Post.bindD ok2 p2).mono fun w H3 ⟨G3, ρ3, e', ok3, s3, d3, p3⟩ => ?_⟩
        cases d3 with
        | int k => exact ⟨j, k, rfl, rfl, p3.dt ok3 (.bl _)⟩
        | _ => exact p3.elim
    | _ => exact p2.elim
  | _ => cases e <;> exact p2.elim
theorem px_chain {op op' : CmpOp} {a b c : Expr} {p p' : Int → Int → Bool} {f g h : M Sl} (ho : OpR X (compareOp op) (rI0 fun i j => .bl (p i j))) (ho' : OpR X (compareOp op') (rI0 fun i j => .bl (p' i j)))
    (ha : PE X a (tE X.K pn E f)) (hb : PE X b (tE X.K pn E g)) (hc : PE X c (tE X.K pn E h)) (hm : lastMarks [op, op'] [b, c] = false := by with_unfolding_all rfl) :
    PE X (.Compare a [op, op'] [b, c] pos) (tE X.K pn E (chain3 f g h (iiB p) (iiB p'))) := (pe_chain ho ho' ha hb hc hm).imp chain_of
theorem ptx_chain {op op' : CmpOp} {a b c : Expr} {p p' : Int → Int → Bool} {f g h : M Sl} (ho : OpR X (compareOp op) (rI0 fun i j => .bl (p i j))) (ho' : OpR X (compareOp op') (rI0 fun i j => .bl (p' i j)))
    (ha : PE X a (tE X.K pn E f)) (hb : PE X b (tE X.K pn E g)) (hc : PE X c (tE X.K pn E h)) (hm : lastMarks [op, op'] [b, c] = false := by with_unfolding_all rfl) :
    PT X (.Compare a [op, op'] [b, c] pos) (tT X.K pn E (toB (chain3 f g h (iiB p) (iiB p')))) := (pt_chain ho ho' ha hb hc hm).imp (px_test chain_of)
structure GC (K : PySem.W.Frag) (mg : Str → Option Value) (x : Str) (d : D) : Prop where
  ex : ∃ v u, mg x = some u ∧ RelV v u ∧ ∀ H, Dt K H v d
theorem px_glob {x : Str} {d : D} (h : GC X.K X.mg x d) (hg : Gl X x := by rfl) (hd : (x == ("__debug__" : Str)) = false := by decide) : PE X (.Name x pos) (tE X.K pn E (mC d)) := by
  obtain ⟨v, u, h1, h2, h3⟩ := h.ex
  exact (pe_glob hg h1 h2 hd).imp fun σ H Q ⟨G, ρ, ok, p⟩ => p.dt ok (h3 G)
theorem GC.int {K : PySem.W.Frag} {mg : Str → Option Value} {x : Str} {i : Int} {t : Tok} (h : mg x = some (.int i t)) : GC K mg x (.int i) := ⟨.int i, _, h, ⟨t, rfl⟩, fun _ => .int i⟩
theorem GC.str {K : PySem.W.Frag} {mg : Str → Option Value} {x : Str} {i : Str} {t : Tok} (h : mg x = some (.str i t)) : GC K mg x (.str i) := ⟨.str i, _, h, ⟨t, rfl⟩, fun _ => .str i⟩
def valsStr : List Value → Option (List Str)
  | [] => some []
  | .str x _ :: r => (valsStr r).map (x :: ·)
  | _ => none
theorem valsStr_ok {K : PySem.W.Frag} {H : Hp} : ∀ {us : List Value} {xs : List Str}, valsStr us = some xs → Vals (xs.map V.str) us ∧ DtL K H (xs.map V.str) (xs.map D.str)
  | [], _, h => by cases h; exact ⟨.nil, .nil⟩
  | u :: r, xs, h => by
    cases u with
    | str x t =>
      simp only [valsStr] at h
      cases q : valsStr r with
      | none => rw [q] at h; cases h
      | some ys => rw [q] at h; cases h; exact ⟨.cons ⟨t, rfl⟩ (valsStr_ok (K := K) (H := H) q).1, .cons (.str x) (valsStr_ok q).2⟩
    | _ => cases h
theorem GC.strs {K : PySem.W.Frag} {mg : Str → Option Value} {x : Str} {a : Addr} {o : Obj} {its : Array Value} {n : Nat} {xs : List Str} (h : mg x = some (.ref a)) (l : K.lookup a = some o) (c : o.cls = .type "tuple") (d : o.data = .seq its n) (z : its.size ≤ sizeLine) (q : valsStr its.toList = some xs) : GC K mg x (.tup (xs.map D.str)) :=
  ⟨.ref a, _, h, rfl, fun H => .tup (.inr ⟨o, its, n, l, c, d, z, (valsStr_ok (K := K) (H := H) q).1⟩) (valsStr_ok q).2⟩

/-! ### slices -/
def cutD {α : Type} (xs : List α) (lo hi : Option Int) : List α := (xs.drop (HT.sIx xs.length 0 lo)).take (HT.sIx xs.length xs.length hi - HT.sIx xs.length 0 lo)
theorem cutD_dt {K : PySem.W.Frag} {G : Hp} {vs : List V} {ds : List D} (h : DtL K G vs ds) (lo hi : Option Int) : DtL K G (cutV vs lo hi) (cutD ds lo hi) := by
  unfold cutV cutD
  rw [h.length]
  exact (h.drop _).take _
abbrev PM := M (Option Int)
@[simp] def noP : PM := fun ρ => some (.val none ρ)
@[simp] def someP (f : M Sl) : PM := fun ρ => (bindD f fun d => match d with | .int i => fun ρ => some (.val (some i) ρ) | _ => fun _ => none) ρ
def PostP (K : PySem.W.Frag) (pn : List (Nat × Addr)) (E : XK) (σ : St) (G0 H0 : Hp) (O0 : Addr → Prop) (r : Option (Rs (Option Int))) (Q : Option Int → Hp → Prop) : Prop := match r with
  | some (.val b ρ') => ∀ G' H', EnvOk K pn G' H' σ ρ' → Ext G0 H0 O0 G' H' (OwnAt σ ρ') → Q b H'
  | some (.exc x ρ') => ∀ d G' H', EnvOk K pn G' H' σ ρ' → Ext G0 H0 O0 G' H' (OwnAt σ ρ') → XOk K G' H' d x → E (.ref x.cls) d H'
  | none => False
def tP (K : PySem.W.Frag) (pn : List (Nat × Addr)) (E : XK) (f : PM) : TO := fun σ H Q => ∃ G ρ, EnvOk K pn G H σ ρ ∧ PostP K pn E σ G H (OwnAt σ ρ) (f ρ) Q
structure POx (X : Cx) (pn : List (Nat × Addr)) (E : XK) (e : Option Expr) (f : PM) : Prop where
  ex : ∃ t : TO, PO X e t ∧ ∀ σ H Q, tP X.K pn E f σ H Q → t σ H Q
theorem pox_none : POx X pn E none noP := ⟨tNoPart, po_none, fun σ H Q ⟨G, ρ, ok, p⟩ => p G H ok Ext.refl⟩
theorem PostP.at {K : PySem.W.Frag} {σ : St} {G H : Hp} {O : Addr → Prop} {G0 H0 : Hp} {O0 : Addr → Prop} {r : Option (Rs (Option Int))} {Q : Option Int → Hp → Prop} (h : PostP K pn E σ G0 H0 O0 r Q) (x : Ext G0 H0 O0 G H O) : PostP K pn E σ G H O r Q := by
  unfold PostP at h ⊢
  split at h
  · exact fun G' H' a b => h G' H' a (x.trans b)
  · exact fun d G' H' a b => h d G' H' a (x.trans b)
  · exact h
theorem pox_some {e : Expr} {f : M Sl} (h : PE X e (tE X.K pn E f)) : POx X pn E (some e) (someP f) := by
  refine ⟨tPart (tE X.K pn E f), po_some h, fun σ H Q ⟨G, ρ, ok, p⟩ => ⟨G, ρ, ok, ?_⟩⟩
  unfold someP bindD bindM at p
  cases e : f ρ with
  | none => rw [e] at p; exact p
  | some r =>
    rw [e] at p
    cases r with
    | exc x ρ' => exact p
    | val s ρ' =>
      intro v G' H' ok' x'
      cases es : s.frz with
      | none => simp only [es] at p; exact p.elim
      | some d =>
        simp only [es] at p
        obtain ⟨G2, ok2, dt2, x2⟩ := ok'.freeze ok.pinLt es
        cases dt2 with
        | int i => exact ⟨i, rfl, p G2 H' ok2 (x'.trans x2)⟩
        | _ => exact p.elim
@[simp] def sliceM (f : M Sl) (lo hi : PM) : M Sl := fun ρ => (bindD f fun d => bindM lo fun l => bindM hi fun h => match d with
  | .lst ds => fun ρ => some (.val (.ol (cutD ds l h)) ρ)
  | .tup ds => fun ρ => some (.val (.dt (.tup (cutD ds l h))) ρ)
  | _ => fun _ => none) ρ
theorem Post.bindP {K : PySem.W.Frag} {σ : St} {G H : Hp} {ρ : Rho} {f : PM} {k : Option Int → M Sl} {Q : VK} (ok : EnvOk K pn G H σ ρ) (h : Post K pn E σ G H (OwnAt σ ρ) (bindM f k ρ) Q) :
    PostP K pn E σ G H (OwnAt σ ρ) (f ρ) (fun b H1 => ∃ G1 ρ1, EnvOk K pn G1 H1 σ ρ1 ∧ Same G G1 ∧ Post K pn E σ G1 H1 (OwnAt σ ρ1) (k b ρ1) Q) := by
  unfold BT.bindM at h
  cases e : f ρ with
  | none => rw [e] at h; exact h
  | some r =>
    rw [e] at h
    cases r with
    | exc x ρ' => exact h
    | val s ρ' => exact fun G' H' ok' x' => ⟨G', ρ', ok', x'.grow, h.at x'⟩
theorem PostP.mono {K : PySem.W.Frag} {σ : St} {G0 H0 : Hp} {O0 : Addr → Prop} {r : Option (Rs (Option Int))} {Q Q' : Option Int → Hp → Prop} (h : PostP K pn E σ G0 H0 O0 r Q) (q : ∀ v H, Q v H → Q' v H) : PostP K pn E σ G0 H0 O0 r Q' := by
  unfold PostP at h ⊢
  split at h
  · exact fun G' H' a b => q _ _ (h G' H' a b)
  · exact h
  · exact h
theorem cut_whole {α : Type} {n : Nat} {ds : List α} {l h : Option Int} (hn : n = ds.length) (z : HT.sIx n 0 l = 0 ∧ HT.sIx n n h = n) : cutD ds l h = ds := by
  subst hn
  unfold cutD
  rw [z.1, z.2, List.drop_zero, Nat.sub_zero, List.take_length]
theorem px_slice {a : Expr} {lo hi : Option Expr} {f : M Sl} {l h : PM} {p2 : Pos} (ha : PE X a (tE X.K pn E f)) (hl : POx X pn E lo l) (hh : POx X pn E hi h) : PE X (.Subscript a (.Slice lo hi none p2) pos) (tE X.K pn E (sliceM f l h)) := by
  obtain ⟨tl, hl, il⟩ := hl.ex
  obtain ⟨th, hh, ih⟩ := hh.ex
  refine (pe_slice ((sl_list (X := X)).or (sl_tupA (X := X))) ha hl hh).imp fun σ H Q ⟨G, ρ, ok, w⟩ => ⟨G, ρ, ok, (Post.bindD ok w).mono fun v H1 ⟨G1, ρ1, d, ok1, s1, d1, p1⟩ => ?_⟩
  refine il _ _ _ ⟨G1, ρ1, ok1, (Post.bindP ok1 p1).mono fun l' H2 ⟨G2, ρ2, ok2, s2, p2⟩ => ?_⟩
  refine ih _ _ _ ⟨G2, ρ2, ok2, (Post.bindP ok2 p2).mono fun h' H3 ⟨G3, ρ3, ok3, s3, p3⟩ => ?_⟩
  have d3 := (d1.mono s2).mono s3
  cases d3 with
  | lst h9 hs => exact .inl ⟨_, _, rfl, ok3.sub.seq h9, fun q hq => p3.lst ok3 (cutD_dt hs l' h') hq⟩
  | tup h9 hs =>
    refine .inr ⟨_, _, rfl, Same.sqT ok3.sub h9, fun z => ?_, fun z q hq => p3.tup ok3 (cutD_dt hs l' h') hq⟩
    have e := cutD_dt hs l' h'
    have e2 : cutD _ l' h' = _ := cut_whole hs.length z
    simp only at p3
    rw [e2] at p3
    exact p3.dt ok3 (.tup h9 hs)
  | _ => exact p3.elim
end
end BT

namespace BT
open PySem L2
open PyProof.Rows (envOfC)

/-! ### contracts said shortly -/
theorem SpF.imp {K : PySem.W.Frag} {F F' : Fn} (h : ∀ args r, F' args = some r → F args = some r) {vs : List V} {H : Hp} {Q : VK} {E : XK} (s : SpF K F' vs H Q E) : SpF K F vs H Q E := by
  obtain ⟨G, ρ, ok, p⟩ := s
  refine ⟨G, ρ, ok, ?_⟩
  cases e : F' ρ with
  | none => rw [e] at p; exact p.elim
  | some r => rw [e] at p; rw [h ρ r e]; exact p
/-- all arguments data -/
@[simp] def dts : List Sl → Option (List D)
  | [] => some []
  | .dt d :: r => (dts r).map (d :: ·)
  | _ => none
theorem dts_eq : ∀ {as : List Sl} {ds : List D}, dts as = some ds → as = ds.map .dt
  | [], _, h => by cases h; rfl
  | .dt d :: r, _, h => by
    simp only [dts] at h
    cases q : dts r with
    | none => rw [q] at h; cases h
    | some es => rw [q] at h; cases h; rw [dts_eq q]; rfl
  | .un :: _, _, h => by cases h
  | .ol _ :: _, _, h => by cases h
@[simp] theorem dts_map (ds : List D) : dts (ds.map .dt) = some ds := by
  induction ds with
  | nil => rfl
  | cons d ds ih => simp only [List.map_cons, dts, ih, Option.map_some]
/-- a pure def -/
def pureF (f : List D → Option Sl) : Fn := fun args => match dts args with
  | some ds => (match f ds with | some s => some (.val s args) | none => none)
  | none => none
theorem pureF_of {f : List D → Option Sl} {F : Fn} (h : ∀ ds s, f ds = some s → F (ds.map .dt) = some (.val s (ds.map .dt))) : ∀ args r, pureF f args = some r → F args = some r := fun args r e => by
  unfold pureF at e
  cases q : dts args with
  | none => rw [q] at e; cases e
  | some ds =>
    rw [q] at e
    simp only at e
    cases q2 : f ds with
    | none => rw [q2] at e; cases e
    | some s => rw [q2] at e; cases e; rw [dts_eq q]; exact h ds s q2
/-- the first argument one's own list, the others data; it hands back the list as it then is -/
def ownF (f : List D → List D → Option (Sl × List D)) : Fn := fun args => match args with
  | .ol xs :: r => (match dts r with
    | some ds => (match f xs ds with | some (s, ys) => some (.val s (.ol ys :: r)) | none => none)
    | none => none)
  | _ => none
theorem ownF_of {f : List D → List D → Option (Sl × List D)} {F : Fn} (h : ∀ xs ds s ys, f xs ds = some (s, ys) → F (.ol xs :: ds.map .dt) = some (.val s (.ol ys :: ds.map .dt))) : ∀ args r, ownF f args = some r → F args = some r := fun args r e => by
  unfold ownF at e
  split at e
  · rename_i xs rr
    cases q : dts rr with
    | none => rw [q] at e; cases e
    | some ds =>
      rw [q] at e
      simp only at e
      cases q2 : f xs ds with
      | none => rw [q2] at e; cases e
      | some sy => obtain ⟨s, ys⟩ := sy; rw [q2] at e; cases e; rw [dts_eq q]; exact h xs ds s ys q2
  · cases e
@[simp] theorem callF_pure (f : List D → Option Sl) (fs : M (List D)) : callF (pureF f) fs = bindM fs fun ds ρ => match f ds with | some s => some (.val s ρ) | none => none := by
  unfold callF
  congr 1
  funext ds ρ
  unfold pureF
  rw [dts_map]
  cases h : f ds <;> simp only [h]

/-! ### a call whose first argument is one's own list in slot j -/
@[simp] def callO (F : Fn) (j : Nat) (fs : M (List D)) : M Sl := fun ρ => match ρ[j]? with
  | some (.ol _) => bindM fs (fun ds ρ => match ρ[j]? with
    | some (.ol xs) => (match F (.ol xs :: ds.map .dt) with
      | some (.val s (.ol ys :: _)) => some (.val s (ρ.set j (.ol ys)))
      | _ => none)
    | _ => none) ρ
  | _ => none
section
variable {K : PySem.W.Frag} {pn : List (Nat × Addr)} {G H : Hp} {σ : St} {ρ : Rho}
theorem spO_of {E : XK} {F : Fn} {vs : List V} {ds : List D} {Q : VK} {j : Nat} {p : Addr} {xs : List D} (ok : EnvOk K pn G H σ ρ) (h : DtL K G vs ds) (hj : ρ[j]? = some (.ol xs)) (hp : σ[j]? = some (some (.ref p)))
    (pp : Post K pn E σ G H (OwnAt σ ρ) (match F (.ol xs :: ds.map .dt) with | some (.val s (.ol ys :: _)) => some (.val s (ρ.set j (.ol ys))) | _ => none) Q) : SpF K F (.ref p :: vs) H Q E := by
  have hl := h.length
  obtain ⟨q, ws, a, b, c, d⟩ := ok.ol j xs hj
  rw [hp] at a; cases a
  have okA : EnvOk K [] G H ((V.ref p :: vs).map some) (.ol xs :: ds.map .dt) := by
    have base := EnvOk.args (K := K) ok.sub h
    refine ⟨ok.sub, by simp [hl], fun i e he => ?_, fun i es he => ?_, fun i k es fs r h1 h2 h3 h4 => ?_, fun q hq => by simp at hq⟩
    · cases i with
      | zero => simp at he
      | succ i => exact base.dt i e (by simpa using he)
    · cases i with
      | zero => simp at he; subst he; exact ⟨p, ws, rfl, b, c, d⟩
      | succ i =>
        obtain ⟨p', ws', h1, h2, h3, h4⟩ := base.ol i es (by simpa using he)
        exact ⟨p', ws', by simpa using h1, h2, h3, h4⟩
    · cases i with
      | zero =>
        cases k with
        | zero => rfl
        | succ k => exact (noOwn_dts (vs := vs.map some) (ds := ds) (a := r) ⟨k, fs, by simpa using h2, by simpa using h4⟩).elim
      | succ i => exact (noOwn_dts (vs := vs.map some) (ds := ds) (a := r) ⟨i, es, by simpa using h1, by simpa using h3⟩).elim
  have ownA : ∀ {r : Addr}, OwnAt ((V.ref p :: vs).map some) (.ol xs :: ds.map .dt) r → r = p := fun {r} ⟨i, es, h1, h2⟩ => by
    cases i with
    | zero => simp at h2; exact h2.symm
    | succ i => exact (noOwn_dts (vs := vs.map some) (ds := ds) (a := r) ⟨i, es, by simpa using h1, by simpa using h2⟩).elim
  have ownP : OwnAt σ ρ p := ⟨j, xs, hj, hp⟩
  refine ⟨G, .ol xs :: ds.map .dt, okA, ?_⟩
  cases e : F (.ol xs :: ds.map .dt) with
  | none => rw [e] at pp; exact pp
  | some r =>
    rw [e] at pp
    cases r with
    | exc _ _ => exact pp.elim
    | val s ρ' =>
      cases ρ' with
      | nil => exact pp.elim
      | cons s0 ρr =>
        cases s0 with
        | un => exact pp.elim
        | dt _ => exact pp.elim
        | ol ys =>
          simp only at pp
          intro v G' H' ok' x'
          -- the caller's state behind the call
          have hpos : ((V.ref p :: vs).map some ++ [some v])[0]? = some (some (V.ref p)) := rfl
          obtain ⟨p', ws', h1, h2, h3, h4⟩ := ok'.ol 0 ys rfl
          rw [hpos] at h1; cases h1
          have k1 : ∀ a, G' a ≠ none → G a ≠ none ∨ H a = none ∨ a = p := fun a q => (x'.fresh a q).elim .inl fun h => h.elim (fun h => .inr (.inl h)) fun h => .inr (.inr (ownA h))
          have k2 : ∀ a o, H a = some o → a ≠ p → H' a = some o := fun a o q n => x'.keep a o q fun z => n (ownA z)
          have k3 : ∀ a, OwnAt ((V.ref p :: vs).map some ++ [some v]) (.ol ys :: ρr ++ [s]) a → a = p ∨ H a = none := fun a q => (x'.own a q).imp ownA id
          have hlt := lt_of_get hj
          have own : ∀ {k : Nat} {fs : List D}, (ρ.set j (.ol ys))[k]? = some (.ol fs) → ∃ gs, ρ[k]? = some (.ol gs) ∧ (k ≠ j → gs = fs) := fun {k fs} h => by
            by_cases z : j = k
            · subst z; exact ⟨xs, hj, fun q => absurd rfl q⟩
            · rw [List.getElem?_set_ne z] at h; exact ⟨fs, h, fun _ => rfl⟩
          have okC : EnvOk K pn G' H' σ (ρ.set j (.ol ys)) := by
            refine ⟨ok'.sub, by rw [List.length_set]; exact ok.len, fun k d h => ?_, fun k fs h => ?_, fun k l fs gs r h1 h2 h3 h4 => ?_, ok.pins⟩
            · by_cases z : j = k
              · subst z; rw [List.getElem?_set_self hlt] at h; cases h
              · rw [List.getElem?_set_ne z] at h
                obtain ⟨v, a, b⟩ := ok.dt k d h; exact ⟨v, a, b.mono x'.grow⟩
            · by_cases z : j = k
              · subst z; rw [List.getElem?_set_self hlt] at h; cases h
                exact ⟨p, ws', hp, h2, h3, h4⟩
              · rw [List.getElem?_set_ne z] at h
                obtain ⟨q, us, e1, e2, e3, e4⟩ := ok.ol k fs h
                have n : q ≠ p := fun y => by subst y; exact z (ok.inj j k xs fs q hj h hp e1)
                refine ⟨q, us, e1, k2 _ _ e2 n, ?_, e4.mono x'.grow⟩
                cases eg : G' q with
                | none => rfl
                | some o =>
                  rcases k1 q (by rw [eg]; simp) with h | h | h
                  · exact absurd e3 h
                  · rw [e2] at h; cases h
                  · exact absurd h n
            · obtain ⟨fs', h1', _⟩ := own h1
              obtain ⟨gs', h2', _⟩ := own h2
              exact ok.inj k l fs' gs' r h1' h2' h3 h4
          have ownC : ∀ a, OwnAt σ (ρ.set j (.ol ys)) a → OwnAt σ ρ a := fun a ⟨k, fs, h1, h2⟩ => by
            obtain ⟨gs, h1', _⟩ := own h1
            exact ⟨k, gs, h1', h2⟩
          have hl2 : ((V.ref p :: vs).map some).length = (Sl.ol ys :: ρr).length := by have := ok'.len; simpa using this
          have last : ∀ a, v = .ref a → (∃ es, s = .ol es) → H a = none := fun a e1 ⟨es, e2⟩ => by
            subst e1 e2
            have z : OwnAt ((V.ref p :: vs).map some ++ [some (V.ref a)]) (.ol ys :: ρr ++ [.ol es]) a := ⟨(Sl.ol ys :: ρr).length, es, get_append_eq, by rw [← hl2]; exact get_append_eq⟩
            rcases k3 a z with h | h
            · subst h
              have := ok'.inj 0 (Sl.ol ys :: ρr).length ys es a rfl get_append_eq rfl (by rw [← hl2]; exact get_append_eq)
              simp at this
            · exact h
          refine pp v G' H' (okC.push_any ok' hl2 fun a e1 e2 z => ?_) ⟨x'.grow, fun a q => ?_, fun a o q n => k2 a o q fun z => n (z ▸ ownP), fun a q => ?_⟩
          · have := last a e1 e2
            obtain ⟨i, es, h1, h2⟩ := ownC a z
            obtain ⟨p', us, h3, h4, _⟩ := ok.ol i es h1
            rw [h2] at h3; cases h3
            rw [h4] at this; cases this
          · rcases k1 a q with h | h | h
            · exact .inl h
            · exact .inr (.inl h)
            · exact .inr (.inr (h ▸ ownP))
          · rcases own_dn okC.len q with q | ⟨q1, q2⟩
            · exact .inl (ownC a q)
            · exact .inr (last a (Option.some.inj q1) q2)
end
section
variable {X : Cx} {pn : List (Nat × Addr)} {pos : Pos}
theorem px_callO {F : Fn} {k j : Nat} {f : Addr} {fd : FuncData} {ps : List Str} {x : Str} {p : Pos} {e : Expr} {es : List Expr} {fs : M (List D)} (G : FnOk X.prog X.w X.K X.mg X.base CX0 k f fd ps (fun vs H Q _ => SpF X.K F vs H Q E00)) (hr : Room k X.A) (hm : X.mg x = some (.ref f)) (hk : PySem.W.keepIn X.K (.ref f) = true) (hb : Binds X.K fd ps [])
    (he : PE X e (tVar j)) (ha : PA X es (tA X.K pn E00 fs)) (hg : Gl X x := by rfl) (hdb : (x == ("__debug__" : Str)) = false := by decide) (hs : starEach (e :: es) X.env = (false, eval e X.env) :: starEach es X.env := by rfl) (hpl : (backTo pos (starEach es X.env)).any (·.1) = false := by rfl) :
    PE X (.Call (.Name x p) (e :: es) [] pos) (tE X.K pn E00 (callO F j fs)) :=
  (pe_call G hr hg hm hk hb .nil pass0 (pa_cons he ha hs) hdb hs hpl).imp fun σ H Q ⟨G, ρ, ok, w⟩ => by
    unfold callO at w
    split at w
    · rename_i xs0 hj0
      obtain ⟨q, ws, a, b, c, d⟩ := ok.ol j xs0 hj0
      refine ⟨_, a, G, ρ, ok, (Post.bindA ok w).mono fun vs H1 ⟨G1, ρ1, ds, ok1, s1, d1, p1⟩ => ?_⟩
      split at p1
      · rename_i xs hj
        rw [List.append_nil]
        exact spO_of ok1 d1 hj a p1
      · exact p1.elim
    · exact w.elim
end
end BT
namespace BT
open PySem L2
theorem npL {pn : List (Nat × Addr)} {own vs : List Nat} (h : ∀ q ∈ pn, q.1 ∈ own) (d : ∀ i ∈ own, i ∉ vs) : ∀ q ∈ pn, q.1 ∉ vs := fun q hq => d _ (h q hq)
theorem room65 {k : Nat} {A : Around} (r : Room k A) : A.units + 65 < cLine := by have := r.un; omega
section
variable {X : Cx} {pn : List (Nat × Addr)} {E : XK} {pos : Pos}
theorem psx_doc {x : Str} {j : Nat} {pos pos' : Pos} : PS X (.Expr (.Constant (.str x) j pos) pos') (tS X.K pn E nxS) := ps_doc.imp fun D σ H ⟨G, ρ, ok, h⟩ => h σ G H ok Ext.refl
/-- a name handed back: one's own list goes with it -/
@[simp] def mMove (i : Nat) : M Sl := fun ρ => match ρ[i]? with
  | some (.dt d) => some (.val (.dt d) ρ)
  | some (.ol ds) => some (.val (.ol ds) (ρ.set i .un))
  | _ => none
theorem px_move {i : Nat} {e : Expr} (hp : NoPin pn i) (h : PE X e (tVar i)) : PE X e (tE X.K pn E (mMove i)) := h.imp fun σ H Q ⟨G, ρ, ok, h⟩ => by
  unfold mMove at h
  split at h
  · rename_i d hi
    obtain ⟨v, a, b⟩ := ok.dt i d hi
    exact ⟨v, a, h.dt ok b⟩
  · rename_i ds hi
    obtain ⟨p, vs, a, b, c, e⟩ := ok.ol i ds hi
    refine ⟨_, a, ?_⟩
    have hlt := lt_of_get hi
    have own : ∀ {k : Nat} {s : Sl}, (ρ.set i .un)[k]? = some s → s = .un ∨ (k ≠ i ∧ ρ[k]? = some s) := fun {k s} h => by
      by_cases z : i = k
      · subst z; rw [List.getElem?_set_self hlt] at h; exact .inl (Option.some.inj h).symm
      · rw [List.getElem?_set_ne z] at h; exact .inr ⟨fun q => z q.symm, h⟩
    have ok2 : EnvOk X.K pn G H σ (ρ.set i .un) := by
      refine ⟨ok.sub, by rw [List.length_set]; exact ok.len, fun k d h => ?_, fun k fs h => ?_, fun k l fs gs r h1 h2 h3 h4 => ?_, ok.pins⟩
      · rcases own h with h | ⟨_, h⟩
        · cases h
        · exact ok.dt k d h
      · rcases own h with h | ⟨_, h⟩
        · cases h
        · exact ok.ol k fs h
      · rcases own h1 with h | ⟨_, h1⟩
        · cases h
        · rcases own h2 with h | ⟨_, h2⟩
          · cases h
          · exact ok.inj k l fs gs r h1 h2 h3 h4
    have nn : ¬ OwnAt σ (ρ.set i .un) p := fun ⟨k, fs, h1, h2⟩ => by
      rcases own h1 with h | ⟨n, h⟩
      · cases h
      · exact n (ok.inj k i fs ds p h hi h2 a)
    refine h _ G H (ok2.push_own ⟨⟨vs, b, e⟩, c, nn⟩) ⟨Same.refl _, fun _ h => .inl h, fun _ _ h _ => h, fun q z => .inl ?_⟩
    rcases own_dn ok2.len z with ⟨k, fs, h1, h2⟩ | ⟨z, _⟩
    · rcases own h1 with h | ⟨_, h⟩
      · cases h
      · exact ⟨k, fs, h, h2⟩
    · cases z; exact ⟨i, ds, hi, a⟩
  · exact h.elim
end
end BT
namespace BT
open PySem L2
section
variable {X : Cx} {pn : List (Nat × Addr)} {E : XK} {pos : Pos}
/-- x[e], x's list one's own: it stays so -/
@[simp] def ixO (i : Nat) (g : M Sl) : M Sl := fun ρ => match ρ[i]? with
  | some (.ol _) => bindD g (fun e ρ => match ρ[i]?, e with
    | some (.ol ds), .int k => (match atI ds k with | some d => some (.val (.dt d) ρ) | none => none)
    | _, _ => none) ρ
  | _ => none
theorem px_ixO {i : Nat} {o e : Expr} {g : M Sl} (ho : PE X o (tVar i)) (he : PE X e (tE X.K pn E g)) (hs : PlainIx e) : PE X (.Subscript o e pos) (tE X.K pn E (ixO i g)) :=
  (pe_ix ix_list ho he hs).imp fun σ H Q ⟨G, ρ, ok, p⟩ => by
    unfold ixO at p
    split at p
    · rename_i ds0 hi0
      obtain ⟨q, ws, a, b, c, d⟩ := ok.ol i ds0 hi0
      refine ⟨_, a, G, ρ, ok, (Post.bindD ok p).mono fun v H1 ⟨G1, ρ1, d1, ok1, s1, h1, p1⟩ => ?_⟩
      split at p1
      · rename_i ds k hi
        obtain ⟨q', ws', a', b', c', d'⟩ := ok1.ol i ds hi
        rw [a] at a'; cases a'
        split at p1
        · rename_i z ez
          obtain ⟨w, e1, e2⟩ := atI_dt d' ez
          cases h1
          exact ⟨_, ws', k, w, rfl, rfl, SqL.of b', e1, p1.dt ok1 e2⟩
        · exact p1.elim
      · exact p1.elim
    · exact p.elim
@[simp] def lenO (i : Nat) : M Sl := fun ρ => match ρ[i]? with
  | some (.ol ds) => some (.val (.dt (.int ds.length)) ρ)
  | _ => none
theorem px_lenO {i : Nat} {o : Expr} {p : Pos} (ho : PE X o (tVar i)) (hm : X.mg "len" = none) (hg : Gl X "len" := by rfl) (he : starEach (o :: []) X.env = (false, eval o X.env) :: starEach [] X.env := by rfl) (hpl : (backTo pos (starEach [] X.env)).any (·.1) = false := by rfl) :
    PE X (.Call (.Name "len" p) [o] [] pos) (tE X.K pn E (lenO i)) :=
  (pe_callB call_len_seq hg hm PySem.boot_len (pa_cons ho pa_nil he) (by decide) (by decide) he hpl).imp fun σ H Q ⟨G, ρ, ok, p⟩ => by
    unfold lenO at p
    split at p
    · rename_i ds hi
      obtain ⟨q, ws, a, b, c, d⟩ := ok.ol i ds hi
      refine ⟨_, a, _, ws, rfl, .inl (SqL.of b), ?_⟩
      rw [d.length]
      exact p.dt ok (.int _)
    · exact p.elim
/-- e in x, e not in x: x's list one's own -/
@[simp] def inO (neg : Bool) (f : M Sl) (i : Nat) : M Sl := bindD f fun d ρ => match ρ[i]? with
  | some (.ol ds) => inM neg d (.lst ds) ρ
  | _ => none
theorem EnvOk.whole {K : PySem.W.Frag} {G H : Hp} {σ : St} {ρ : Rho} {i : Nat} {ds : List D} (ok : EnvOk K pn G H σ ρ) (hi : ρ[i]? = some (.ol ds)) : ∃ p, σ[i]? = some (some (.ref p)) ∧ Dt K H (.ref p) (.lst ds) := by
  obtain ⟨q, ws, a, b, c, d⟩ := ok.ol i ds hi
  exact ⟨q, a, .lst (SqL.of b) (d.mono ok.sub)⟩
theorem in_of {neg : Bool} {K : PySem.W.Frag} {σ : St} {G H : Hp} {ρ : Rho} {v u : V} {d : D} {ds : List D} {Q : VK} (ok : EnvOk K pn G H σ ρ) (hv : Dt K G v d) (hu : Dt K H u (.lst ds))
    (p : Post K pn E σ G H (OwnAt σ ρ) (inM neg d (.lst ds) ρ) Q) : rIns K neg v u H Q := by
  simp only [inM] at p
  cases hu with
  | lst h hs =>
    split at p
    · rename_i c
      refine .inl ⟨_, _, rfl, .inl h, flat_of hv c.1, flat_all hs c.2, ?_⟩
      have e1 := any_eqF (hv.mono ok.sub) c.1 hs c.2
      unfold inV
      rw [e1]; exact p.dt ok (.bl _)
    · split at p
      · rename_i c
        have h2 := (hv.mono ok.sub).toDp (SeqAt.canLay_of_shaped c.1)
        have h3 := (Dt.lst h hs).toDp (SeqAt.canLay_of_shaped c.2)
        refine .inr (.inl ⟨_, _, h2, by simpa only [toPy] using h3, c.1, by simpa only [okD, toPy] using c.2, ?_⟩)
        rw [toPyL_map, List.any_map]
        exact p.dt ok (.bl _)
      · exact p.elim
theorem inO_of {neg : Bool} {f : M Sl} {i : Nat} (σ : St) (H : Hp) (Q : VK) (w : tE X.K pn E (inO neg f i) σ H Q) : tOp (rIns X.K neg) (tE X.K pn E f) (tVar i) σ H Q := by
  obtain ⟨G, ρ, ok, p⟩ := w
  refine ⟨G, ρ, ok, (Post.bindD ok p).mono fun v H1 ⟨G1, ρ1, d, ok1, s1, d1, p1⟩ => ?_⟩
  split at p1
  · rename_i ds hi
    obtain ⟨q, a, h⟩ := ok1.whole hi
    exact ⟨_, a, in_of ok1 d1 h p1⟩
  · exact p1.elim
theorem px_inO {neg : Bool} {op : CmpOp} {a b : Expr} {f : M Sl} {i : Nat} (ho : OpR X (compareOp op) (rIns X.K neg)) (ha : PE X a (tE X.K pn E f)) (hb : PE X b (tVar i)) (hm : behindInMarks op b = false) : PE X (.Compare a [op] [b] pos) (tE X.K pn E (inO neg f i)) :=
  (pe_cmpR ho ha hb hm).imp inO_of
theorem pt_inO {neg : Bool} {op : CmpOp} {a b : Expr} {f : M Sl} {i : Nat} (ho : OpR X (compareOp op) (rIns X.K neg)) (ha : PE X a (tE X.K pn E f)) (hb : PE X b (tVar i)) (hm : behindInMarks op b = false) : PT X (.Compare a [op] [b] pos) (tT X.K pn E (toB (inO neg f i))) :=
  (pt_cmpR ho ha hb hm).imp (px_test inO_of)
end
end BT

namespace BT
open PySem L2
section
variable {X : Cx} {pn : List (Nat × Addr)} {E : XK} {pos : Pos}
/-! ### attributes of frozen instances -/
@[simp] def fldM (C : Addr) (x : Str) (f : M Sl) : M Sl := fun ρ => (bindD f fun d => match d with
  | .ins C' fs => fun ρ => if C' = C then (match fs.lookup x with | some d => some (.val (.dt d) ρ) | none => none) else none
  | _ => fun _ => none) ρ
theorem DtF.look {K : PySem.W.Frag} {H : Hp} {x : Str} {d : D} : ∀ {fs : List (Str × V)} {ds : List (Str × D)}, DtF K H fs ds → ds.lookup x = some d → ∃ v, fs.lookup x = some v ∧ Dt K H v d
  | _, _, .nil, h => by simp at h
  | _, _, .cons (k := k) h hs, e => by
    simp only [List.lookup_cons] at e ⊢
    by_cases c : x == k
    · rw [c] at e ⊢
      cases e; exact ⟨_, rfl, h⟩
    · have c' : (x == k) = false := by simpa using c
      rw [c'] at e ⊢
      exact DtF.look hs e
theorem px_fld {C : Addr} {x : Str} {e : Expr} {f : M Sl} (he : PE X e (tE X.K pn E f)) (c : Cls X.K C) (n : NoAttr X.K C x) (hb : attributeBase e x X.env (eval e X.env) = eval e X.env := by rfl) : PE X (.Attribute e x pos) (tE X.K pn E (fldM C x f)) :=
  (pe_fld he hb).imp fun σ H Q ⟨G, ρ, ok, h⟩ => ⟨G, ρ, ok, (Post.bindD ok h).mono fun v H1 ⟨G1, ρ1, d, ok1, s1, d1, p1⟩ => by
    cases d1 with
    | @ins a C' dx fs ds h1 h2 hs =>
      simp only at p1
      by_cases z : C' = C
      · subst z
        rw [if_pos rfl] at p1
        cases el : ds.lookup x with
        | none => rw [el] at p1; exact p1.elim
        | some d =>
          rw [el] at p1
          obtain ⟨v, e1, e2⟩ := hs.look el
          exact ⟨a, _, dx, fs, v, rfl, ok1.sub _ _ h1, c, n, e1, p1.dt ok1 e2⟩
      · rw [if_neg z] at p1; exact p1.elim
    | _ => exact p1.elim⟩
/-! ### dicts that stand still -/
def keyD : D → Option Key | .int i => some (.inl i) | .str x => some (.inr x) | _ => none
@[simp] def dlook (k : Key) : List (Key × D) → Option D
  | [] => none
  | (j, d) :: r => if j = k then some d else dlook k r
@[simp] def dgetM (f g : M Sl) : M Sl := fun ρ => (bin2 f g fun d e => match d, keyD e with
  | .dic kvs, some k => fun ρ => (match dlook k kvs with | some d => some (.val (.dt d) ρ) | none => none)
  | _, _ => fun _ => none) ρ
@[simp] def dinM (neg : Bool) (g f : M Sl) : M Sl := fun ρ => (bin2 g f fun e d => match d, keyD e with
  | .dic kvs, some k => fun ρ => some (.val (.dt (.bl (if neg then !(dlook k kvs).isSome else (dlook k kvs).isSome))) ρ)
  | _, _ => fun _ => none) ρ
theorem DtK.look {K : PySem.W.Frag} {H : Hp} {k : Key} : ∀ {kvs : List (Key × V)} {ds : List (Key × D)}, DtK K H kvs ds → (dlook k ds = none ∧ valV kvs k = none) ∨ ∃ v d, dlook k ds = some d ∧ valV kvs k = some v ∧ Dt K H v d
  | _, _, .nil => .inl ⟨rfl, by simp [valV]⟩
  | _, _, .cons (k := j) (v := v) (d := d) (vs := vs) h hs => by
    by_cases c : j = k
    · subst c
      refine .inr ⟨_, _, if_pos rfl, ?_, h⟩
      simp [valV]
    · rcases DtK.look (k := k) hs with ⟨h1, h2⟩ | ⟨v', d', h1, h2, h3⟩
      · refine .inl ⟨by simp [c, h1], ?_⟩
        have c' : ¬ k = j := fun q => c q.symm
        simp [valV, c] at h2 ⊢
        first | exact h2 | simpa [c'] using h2
      · refine .inr ⟨v', d', by simp [c, h1], ?_, h3⟩
        have c' : ¬ k = j := fun q => c q.symm
        simp [valV, c] at h2 ⊢
        first | exact h2 | simpa [c'] using h2
theorem keyD_dt {K : PySem.W.Frag} {H : Hp} {v : V} {d : D} {k : Key} (h : Dt K H v d) (e : keyD d = some k) : v = kV k := by
  cases h <;> first | (cases e; rfl) | cases e
theorem px_dget {a b : Expr} {f g : M Sl} (hu : X.A.units + 1 < cLine) (ha : PE X a (tE X.K pn E f)) (hb : PE X b (tE X.K pn E g)) (hs : NoSl b) : PE X (.Subscript a b pos) (tE X.K pn E (dgetM f g)) :=
  (pe_dget hu ha hb hs).imp fun σ H Q w => by
    refine tOp_of (r := fun x y H2 Q => ∃ a v, x = .ref a ∧ DGet H2 a y (some v) ∧ Q v H2) (fun σ G H ρ v u d e Q ok hv hu p => ?_) σ H Q w
    cases hv with
    | dic h hs =>
      cases ek : keyD e with
      | none => simp only [ek] at p; exact p.elim
      | some k =>
        simp only [ek] at p
        rcases hs.look (k := k) with ⟨h1, h2⟩ | ⟨v', d', h1, h2, h3⟩
        · rw [h1] at p; exact p.elim
        · rw [h1] at p
          exact ⟨_, v', rfl, .inl ⟨_, k, Same.rd ok.sub h, keyD_dt hu ek, h2.symm⟩, p.dt ok h3⟩
    | _ => exact p.elim
theorem din_of {neg : Bool} {f g : M Sl} (σ : St) (H : Hp) (Q : VK) (w : tE X.K pn E (dinM neg g f) σ H Q) : tOp (fun y x H2 Q => ∃ a o, x = .ref a ∧ DGet H2 a y o ∧ Q (.bl (if neg then !o.isSome else o.isSome)) H2) (tE X.K pn E g) (tE X.K pn E f) σ H Q := by
  refine tOp_of (r := fun y x H2 Q => ∃ a o, x = .ref a ∧ DGet H2 a y o ∧ Q (.bl (if neg then !o.isSome else o.isSome)) H2) (fun σ G H ρ u v e d Q ok hu hv p => ?_) σ H Q w
  cases hv with
  | dic h hs =>
    cases ek : keyD e with
    | none => simp only [ek] at p; exact p.elim
    | some k =>
      simp only [ek] at p
      rcases hs.look (k := k) with ⟨h1, h2⟩ | ⟨v', d', h1, h2, h3⟩
      · rw [h1] at p
        exact ⟨_, none, rfl, .inl ⟨_, k, Same.rd ok.sub h, keyD_dt hu ek, h2.symm⟩, p.dt ok (.bl _)⟩
      · rw [h1] at p
        exact ⟨_, some v', rfl, .inl ⟨_, k, Same.rd ok.sub h, keyD_dt hu ek, h2.symm⟩, p.dt ok (.bl _)⟩
  | _ => exact p.elim
theorem px_din {a b : Expr} {f g : M Sl} (hu : X.A.units + 1 < cLine) (ha : PE X a (tE X.K pn E g)) (hb : PE X b (tE X.K pn E f)) (hm : behindInMarks .In b = false := by rfl) : PE X (.Compare a [.In] [b] pos) (tE X.K pn E (dinM false g f)) :=
  (pe_cmp (pc_din hu ha hb) hm).imp din_of
theorem px_dnotin {a b : Expr} {f g : M Sl} (hu : X.A.units + 1 < cLine) (ha : PE X a (tE X.K pn E g)) (hb : PE X b (tE X.K pn E f)) (hm : behindInMarks .NotIn b = false := by rfl) : PE X (.Compare a [.NotIn] [b] pos) (tE X.K pn E (dinM true g f)) :=
  (pe_cmp (pc_dnotin hu ha hb) hm).imp din_of
theorem pt_din {a b : Expr} {f g : M Sl} (hu : X.A.units + 1 < cLine) (ha : PE X a (tE X.K pn E g)) (hb : PE X b (tE X.K pn E f)) (hm : behindInMarks .In b = false := by rfl) : PT X (.Compare a [.In] [b] pos) (tT X.K pn E (toB (dinM false g f))) :=
  (pt_cmp (pc_din hu ha hb) hm).imp (px_test din_of)
theorem pt_dnotin {a b : Expr} {f g : M Sl} (hu : X.A.units + 1 < cLine) (ha : PE X a (tE X.K pn E g)) (hb : PE X b (tE X.K pn E f)) (hm : behindInMarks .NotIn b = false := by rfl) : PT X (.Compare a [.NotIn] [b] pos) (tT X.K pn E (toB (dinM true g f))) :=
  (pt_cmp (pc_dnotin hu ha hb) hm).imp (px_test din_of)

/-! ### methods of frozen instances, as pure defs -/
@[simp] def methF (F : Fn) (C : Addr) (m : Str) (f : M Sl) (fs : M (List D)) : M Sl := fun ρ => (bindD f fun d => match d with
  | .ins C' xs => fun ρ => if C' = C ∧ xs.lookup m = none then callF F (consA (mC (.ins C' xs)) fs) ρ else none
  | _ => fun _ => none) ρ
theorem DtF.lookN {K : PySem.W.Frag} {H : Hp} {x : Str} : ∀ {fs : List (Str × V)} {ds : List (Str × D)}, DtF K H fs ds → ds.lookup x = none → fs.lookup x = none
  | _, _, .nil, _ => rfl
  | _, _, .cons (k := k) h hs, e => by
    simp only [List.lookup_cons] at e ⊢
    by_cases c : x == k
    · rw [c] at e; cases e
    · have c' : (x == k) = false := by simpa using c
      rw [c'] at e ⊢
      exact DtF.lookN hs e
theorem px_meth {F : Fn} {C : Addr} {m : Str} {k : Nat} {f : Addr} {fd : FuncData} {ps : List Str} {apos : Pos} {o e : Expr} {es : List Expr} {g : M Sl} {fs : M (List D)} (ho : PE X o (tE X.K pn E00 g)) (c : Cls X.K C) (hm : Meth X.K C m f)
    (G : FnOk X.prog X.w X.K X.mg X.base CX0 k f fd ps (fun vs H Q _ => SpF X.K F vs H Q E00)) (hr : Room k X.A) (hb : Binds X.K fd ps []) (ha : PA X (e :: es) (tA X.K pn E00 fs))
    (h : ∀ {T : TE} {U : TA}, PE X o T → PA X (e :: es) U → PE X (.Call (.Attribute o m apos) (e :: es) [] pos) (tMeth C m (fun vs H Q _ => SpF X.K F vs H Q E00) [] E0 T U)) :
    PE X (.Call (.Attribute o m apos) (e :: es) [] pos) (tE X.K pn E00 (methF F C m g fs)) :=
  (h ho ha).imp fun σ H Q ⟨G, ρ, ok, w⟩ => ⟨G, ρ, ok, (Post.bindD ok w).mono fun v H1 ⟨G1, ρ1, d, ok1, s1, d1, p1⟩ => by
    cases d1 with
    | @ins a C' dx xs ds h1 h2 hs =>
      simp only at p1
      by_cases z : C' = C ∧ ds.lookup m = none
      · rw [if_pos z] at p1
        obtain ⟨z1, z2⟩ := z
        subst z1
        refine ⟨a, dx, xs, rfl, ok1.sub _ _ h1, hs.lookN z2, G1, ρ1, ok1, ?_⟩
        unfold callF at p1
        have p2 := Post.bindA ok1 p1
        unfold consA bindD bindM at p2
        simp only [mC, Sl.frz] at p2
        unfold PostA at p2 ⊢
        cases ef : fs ρ1 with
        | none => rw [ef] at p2; exact p2
        | some r =>
          rw [ef] at p2
          cases r with
          | exc x ρ2 => exact p2
          | val es ρ2 =>
            intro vs G2 H2 ok2 x2 hd
            have hself : Dt X.K G2 (.ref a) (.ins C' ds) := (Dt.ins h1 h2 hs).mono x2.grow
            obtain ⟨G3, ρ3, ds3, ok3, s3, d3, p3⟩ := p2 (.ref a :: vs) G2 H2 ok2 x2 (.cons hself hd)
            rw [List.append_nil]
            exact spF_of ok3 d3 p3
      · rw [if_neg z] at p1; exact p1.elim
    | _ => exact p1.elim⟩
end
end BT

namespace BK
open PySem L2 BT

/-! ### what the defs compute -/
abbrev abc : Str := "abcdefghijklmnopqrstuvwxyz"
def shortS (d : D) : Bool := match d with | .str x => decide (x.length ≤ 1000) | .ins _ _ => false | _ => true
def isName (d : D) : Bool := match d with | .str x => decide (1 ≤ x.length) && decide (x.length ≤ 8) && x.cps.toList.all fun c => decide (c ∈ abc.cps.toList) | _ => false
def F_is_name : Fn := pureF fun ds => match ds with | [d] => if shortS d = true then some (.dt (.bl (isName d))) else none | _ => none
def isWord (d : D) : Bool := match d with | .str x => ["at", "then", "back", "later", "earlier", "with"].any fun y => (y : Str) == x | _ => false
/-- short texts within a pair -/
def shortP (d : D) : Bool := match d with | .tup ds => decide (ds.length ≤ 1000) && ds.all shortS | .lst ds => decide (ds.length ≤ 1000) && ds.all shortS | d => shortS d
def isSentence (d : D) : Bool := match d with | .tup [a, b] => isWord a && isName b | _ => false
def F_is_sentence : Fn := pureF fun ds => match ds with | [d] => if shortP d = true then some (.dt (.bl (isSentence d))) else none | _ => none
def linkOf (stand : D) (w m : Str) : D :=
  if ("then" : Str) = w ∨ ("later" : Str) = w then .tup [stand, .str m, .bl true]
  else if ("back" : Str) = w ∨ ("earlier" : Str) = w then .tup [.str m, stand, .bl true]
  else if w = "with" then .tup [stand, .str m, .bl false]
  else .non
def F_link_of : Fn := pureF fun ds => match ds with | [s, .tup [.str w, .str m]] => some (.dt (linkOf s w m)) | _ => none
/-- a tale: words and moments -/
abbrev Tale := List (Str × Str)
def encS (x : Str × Str) : D := .tup [.str x.1, .str x.2]
def decS : D → Option (Str × Str) | .tup [.str w, .str m] => some (w, m) | _ => none
def decL : List D → Option Tale
  | [] => some []
  | d :: ds => match decS d, decL ds with | some x, some r => some (x :: r) | _, _ => none
def decQ : D → Option Tale | .tup ds => decL ds | .lst ds => decL ds | _ => none
theorem decS_eq {d : D} {x : Str × Str} (h : decS d = some x) : d = encS x := by
  unfold decS at h
  split at h
  · cases h; rfl
  · cases h
theorem decL_eq : ∀ {ds : List D} {t : Tale}, decL ds = some t → ds = t.map encS
  | [], _, h => by cases h; rfl
  | d :: ds, _, h => by
    simp only [decL] at h
    split at h
    · rename_i x r h1 h2
      cases h; rw [decS_eq h1, decL_eq h2]; rfl
    · cases h
theorem decL_map : ∀ t : Tale, decL (t.map encS) = some t
  | [] => rfl
  | x :: t => by simp [decL, decS, encS, decL_map t]
theorem decQ_eq {d : D} {t : Tale} (h : decQ d = some t) : d = .tup (t.map encS) ∨ d = .lst (t.map encS) := by
  unfold decQ at h
  split at h
  · rw [decL_eq h]; exact .inl rfl
  · rw [decL_eq h]; exact .inr rfl
  · cases h
def moving (w : Str) : Bool := decide (("at" : Str) = w ∨ ("then" : Str) = w ∨ ("back" : Str) = w)
def standsFrom : Str → Tale → List Str
  | _, [] => []
  | p, (w, m) :: r => (if moving w then m else p) :: standsFrom (if moving w then m else p) r
/-- where the tale stands behind each sentence -/
def stands : Tale → List Str
  | [] => []
  | (_, m) :: r => m :: standsFrom m r
def startsAt : Tale → Bool | [] => true | (w, _) :: _ => decide (("at" : Str) = w)
def F_stands_of : Fn := pureF fun ds => match ds with | [d] => (match decQ d with | some t => if startsAt t = true ∧ t.length ≤ 1000 then some (.ol ((stands t).map .str)) else none | none => none) | _ => none
def linksFrom : D → Tale → List D
  | _, [] => []
  | p, (w, m) :: r => linkOf p w m :: linksFrom (if moving w then .str m else p) r
/-- the links of all sentences -/
def links (t : Tale) : List D := linksFrom .non t
def F_links_of : Fn := pureF fun ds => match ds with | [d] => (match decQ d with | some t => if startsAt t = true ∧ t.length ≤ 1000 then some (.ol (links t)) else none | none => none) | _ => none

/-! ### relations: moments with their groups, and the bits of the moments after each -/
structure RS where
  tg : List (Str × List Str)
  later : List Int
def RS.names (R : RS) : List Str := R.tg.map (·.1)
def togD (t : List (Str × List Str)) : List (Key × D) := t.map fun x => (Sum.inr x.1, D.lst (x.2.map D.str))
def numD (ns : List Str) : List (Key × D) := ns.mapIdx fun i n => (Sum.inr n, D.int (i : Nat))
def relD (C : Addr) (R : RS) : D := .ins C [("together", .dic (togD R.tg)), ("numbers", .dic (numD R.names)), ("later", .lst (R.later.map .int))]
def decStrs : List D → Option (List Str)
  | [] => some []
  | .str x :: r => (decStrs r).map (x :: ·)
  | _ => none
theorem decStrs_eq : ∀ {ds : List D} {xs : List Str}, decStrs ds = some xs → ds = xs.map .str
  | [], _, h => by cases h; rfl
  | d :: r, _, h => by
    cases d with
    | str x =>
      simp only [decStrs] at h
      cases q : decStrs r with
      | none => rw [q] at h; cases h
      | some ys => rw [q] at h; cases h; rw [decStrs_eq q]; rfl
    | _ => cases h
theorem decStrs_map : ∀ xs : List Str, decStrs (xs.map .str) = some xs
  | [] => rfl
  | x :: r => by simp [decStrs, decStrs_map r]
def decTog : List (Key × D) → Option (List (Str × List Str))
  | [] => some []
  | (.inr n, .lst ds) :: r => (match decStrs ds, decTog r with | some g, some t => some ((n, g) :: t) | _, _ => none)
  | _ => none
theorem decTog_eq : ∀ {ds : List (Key × D)} {t : List (Str × List Str)}, decTog ds = some t → ds = togD t
  | [], _, h => by cases h; rfl
  | (.inl _, _) :: r, _, h => by simp [decTog] at h
  | (.inr n, d) :: r, _, h => by
    cases d with
    | lst ds =>
      simp only [decTog] at h
      split at h
      · rename_i g t h1 h2
        cases h
        rw [decTog_eq h2, decStrs_eq h1]; rfl
      · cases h
    | _ => simp [decTog] at h
theorem decTog_map : ∀ t : List (Str × List Str), decTog (togD t) = some t
  | [] => rfl
  | (n, g) :: r => by
    have := decTog_map r
    simp only [togD] at this ⊢
    simp [decTog, decStrs_map, this]
def decNum : List (Key × D) → Option (List (Str × Int))
  | [] => some []
  | (.inr n, .int i) :: r => (decNum r).map ((n, i) :: ·)
  | _ => none
theorem decNum_eq : ∀ {ds : List (Key × D)} {t : List (Str × Int)}, decNum ds = some t → ds = t.map fun x => (Sum.inr x.1, D.int x.2)
  | [], _, h => by cases h; rfl
  | (.inl _, _) :: r, _, h => by simp [decNum] at h
  | (.inr n, d) :: r, _, h => by
    cases d with
    | int i =>
      simp only [decNum] at h
      cases q : decNum r with
      | none => rw [q] at h; cases h
      | some ys => rw [q] at h; cases h; rw [decNum_eq q]; rfl
    | _ => simp [decNum] at h
theorem decNum_map : ∀ t : List (Str × Int), decNum (t.map fun x => ((Sum.inr x.1 : Key), D.int x.2)) = some t
  | [] => rfl
  | (n, g) :: r => by simp [decNum, decNum_map r]
theorem asInts_eq : ∀ {ds : List D} {t : List Int}, asInts ds = some t → ds = t.map .int
  | [], _, h => by cases h; rfl
  | d :: r, _, h => by
    cases d with
    | int i =>
      simp only [asInts] at h
      cases q : asInts r with
      | none => rw [q] at h; cases h
      | some ys => rw [q] at h; cases h; rw [asInts_eq q]; rfl
    | _ => simp [asInts] at h
theorem asInts_mapI : ∀ t : List Int, asInts (t.map .int) = some t
  | [] => rfl
  | x :: r => by simp [asInts_mapI r]
def decR (C : Addr) : D → Option RS
  | .ins C' [(f1, .dic tg), (f2, .dic nm), (f3, .lst lt)] => if C' = C ∧ f1 = "together" ∧ f2 = "numbers" ∧ f3 = "later" then
      (match decTog tg, decNum nm, asInts lt with
      | some t, some n, some l => if n = (t.map (·.1)).mapIdx (fun i x => (x, ((i : Nat) : Int))) then some ⟨t, l⟩ else none
      | _, _, _ => none) else none
  | _ => none
theorem numD_eq (ns : List Str) : numD ns = (ns.mapIdx fun i x => (x, ((i : Nat) : Int))).map fun x => (Sum.inr x.1, D.int x.2) := by
  unfold numD
  apply List.ext_getElem?
  intro i
  simp [List.getElem?_mapIdx, Function.comp_def]
theorem decR_eq {C : Addr} {d : D} {R : RS} (h : decR C d = some R) : d = relD C R := by
  unfold decR at h
  split at h
  · split at h
    · rename_i c
      obtain ⟨rfl, rfl, rfl, rfl⟩ := c
      split at h
      · rename_i t n l h1 h2 h3
        split at h
        · rename_i e
          cases h
          rw [decTog_eq h1, decNum_eq h2, asInts_eq h3, e]
          simp only [relD, RS.names, numD_eq]
        · cases h
      · cases h
    · cases h
  · cases h
theorem decR_rel (C : Addr) (R : RS) : decR C (relD C R) = some R := by
  simp only [decR, relD, and_self, if_true, decTog_map, numD_eq, decNum_map, asInts_mapI, RS.names]
/-- the number of a moment -/
def RS.ix (R : RS) (x : Str) : Nat := R.names.idxOf x
def RS.bf (R : RS) (a b : Str) : Bool := (R.later.getD (R.ix a) 0).toNat.testBit (R.ix b)
/-- all that the methods ask -/
structure RS.Ok (R : RS) : Prop where
  len : R.later.length = R.tg.length
  nn : ∀ x ∈ R.later, 0 ≤ x
  nd : R.names.Nodup
  few : R.tg.length ≤ 1000
def RS.okB (R : RS) : Bool := decide (R.later.length = R.tg.length) && R.later.all (fun x => decide (0 ≤ x)) && decide (R.names.Nodup) && decide (R.tg.length ≤ 1000)
theorem RS.okB_iff {R : RS} : R.okB = true ↔ R.Ok := by
  unfold RS.okB
  simp only [Bool.and_eq_true, decide_eq_true_eq, List.all_eq_true]
  constructor
  · rintro ⟨⟨⟨h1, h2⟩, h3⟩, h4⟩; exact ⟨h1, h2, h3, h4⟩
  · rintro ⟨h1, h2, h3, h4⟩; exact ⟨⟨⟨h1, h2⟩, h3⟩, h4⟩
def F_is_before (C : Addr) : Fn := pureF fun ds => match ds with
  | [d, .str a, .str b] => (match decR C d with | some R => if R.okB = true ∧ a ∈ R.names ∧ b ∈ R.names then some (.dt (.bl (R.bf a b))) else none | none => none)
  | _ => none
/-- the bits of a list of moments -/
def RS.bits (R : RS) (g : List Str) : Int := (g.map fun x => (2 : Int) ^ R.ix x).sum
def F_bits_of (C : Addr) : Fn := pureF fun ds => match ds with
  | [d, .lst g] => (match decR C d, decStrs g with | some R, some g => if R.okB = true ∧ (∀ x ∈ g, x ∈ R.names) ∧ g.length ≤ 1000 then some (.dt (.int (R.bits g))) else none | _, _ => none)
  | _ => none

/-! ### comprehensions that store nothing -/
theorem compL_pure {b : D → Rho → Option Rho} {t : M Bool} {e : M Sl} {vs : List Nat} {ρ : Rho} {p : D → Bool} {g : D → D} : ∀ (ds acc : List D),
    (∀ d ∈ ds, ∃ ρ1, b d ρ = some ρ1 ∧ t ρ1 = some (.val (p d) ρ1) ∧ noOl ρ1 vs = true ∧ wipeR ρ1 vs = ρ ∧ (p d = true → ∃ s, e ρ1 = some (.val s ρ1) ∧ s.frz = some (g d))) → acc.length + ds.length ≤ sizeLine →
    compL b t e vs ds acc ρ = some (acc ++ (ds.filter p).map g, ρ)
  | [], acc, _, _ => by simp [compL]
  | d :: ds, acc, h, hl => by
    obtain ⟨ρ1, h1, h2, h3, h4, h5⟩ := h d (by simp)
    have ih := fun acc' (hz : acc'.length + ds.length ≤ sizeLine) => compL_pure (b := b) (t := t) (e := e) (vs := vs) (ρ := ρ) (p := p) (g := g) ds acc' (fun d' m => h d' (List.mem_cons_of_mem _ m)) hz
    simp only [List.length_cons] at hl
    unfold compL
    rw [h1]
    simp only [h2]
    cases c : p d with
    | false =>
      simp only [h3, if_true, h4]
      rw [ih acc (by omega), List.filter_cons_of_neg (by simp [c])]
    | true =>
      obtain ⟨s, h6, h7⟩ := h5 c
      simp only [h6, h7]
      rw [if_pos ⟨by omega, h3⟩, h4, ih _ (by simp; omega), List.filter_cons_of_pos c]
      simp
/-- without a test -/
theorem compL_map {b : D → Rho → Option Rho} {e : M Sl} {vs : List Nat} {ρ : Rho} {g : D → D} (ds acc : List D)
    (h : ∀ d ∈ ds, ∃ ρ1, b d ρ = some ρ1 ∧ noOl ρ1 vs = true ∧ wipeR ρ1 vs = ρ ∧ ∃ s, e ρ1 = some (.val s ρ1) ∧ s.frz = some (g d)) (hl : acc.length + ds.length ≤ sizeLine) :
    compL b yesT e vs ds acc ρ = some (acc ++ ds.map g, ρ) := by
  have := compL_pure (b := b) (t := yesT) (e := e) (vs := vs) (ρ := ρ) (p := fun _ => true) (g := g) ds acc (fun d m => by
    obtain ⟨ρ1, h1, h3, h4, h5⟩ := h d m
    exact ⟨ρ1, h1, rfl, h3, h4, fun _ => h5⟩) hl
  rw [this, List.filter_eq_self.mpr (fun _ _ => rfl)]
theorem asBls_map (f : D → Bool) : ∀ ds : List D, asBls (ds.map fun d => D.bl (f d)) = some (ds.map f)
  | [] => rfl
  | d :: ds => by simp [asBls_map f ds]
theorem asInts_map (f : D → Int) : ∀ ds : List D, asInts (ds.map fun d => D.int (f d)) = some (ds.map f)
  | [] => rfl
  | d :: ds => by simp [asInts_map f ds]
end BK

/-! t[::-1], t * n, str(x) of data, calls by keyword, a law right under its caller -/
namespace BT
open PySem PySem.Spec PyProof.Rows L2

/-! ### t[::-1] -/
section
variable {prog : Program} {w : World} {A : Around} {E : Value → Shared → Prop} {s : Shared}
theorem rev_places (n : Nat) : Builtin.Slice.slicePlaces ((n : Int) - 1) (-1) (-1) = n := by
  unfold Builtin.Slice.slicePlaces
  rw [if_neg (by decide)]
  split
  · have e : (-(-1) : Int) = 1 := by decide
    rw [e, Int.ediv_one]; omega
  · omega
theorem rev_applied {sl : Addr} {t : Tok} {n : Nat} {Q : Int × Int × Nat → Shared → Prop} (hs : s.heap.IsSliceOf sl .none .none (.int (-1) t)) (h : Q ((n : Int) - 1, -1, n) s) : wpAny (model prog w) A (Builtin.Slice.sliceApplied (.ref sl) (pure (n : Int))) Q E s := by
  obtain ⟨o, ho, _, hd⟩ := hs
  unfold Builtin.Slice.sliceApplied Builtin.Slice.sliceFields
  have f0 := fun {R : Value → Shared → Prop} (q : R .none s) => wpAny_field (M := model prog w) (A := A) (E := E) (i := 0) ho hd (x := .none) rfl q
  refine wpAny_bind (wpAny_bind (f0 (wpAny_bind (wpAny_field ho hd (x := .none) rfl (wpAny_bind (wpAny_field ho hd (x := .int (-1) t) rfl (wpAny_pure ?_)))))))
  refine wpAny_bind (HT.slicePart_ (.int (-1) t) ?_)
  show wpAny _ _ (if ((-1 : Int) == 0) = true then _ else _) _ _ s
  rw [if_neg (by decide)]
  refine wpAny_bind (HT.slicePart_ .none (wpAny_bind (HT.slicePart_ .none (wpAny_bind (wpAny_pure ?_)))))
  show wpAny _ _ (pure ((n : Int) - 1, (-1 : Int), Builtin.Slice.slicePlaces ((n : Int) - 1) (-1) (-1))) _ _ s
  rw [rev_places]
  exact wpAny_pure h
theorem fm_congr {α β : Type} {f g : α → Option β} : ∀ {l : List α}, (∀ a ∈ l, f a = g a) → l.filterMap f = l.filterMap g
  | [], _ => rfl
  | a :: l, h => by
    have ih := fm_congr (l := l) fun x hx => h x (by simp [hx])
    simp only [List.filterMap_cons, h a (by simp), ih]
theorem rev_pick (xs : Array Value) : ((List.range xs.size).filterMap fun (k : Nat) => xs[((xs.size : Int) - 1 + (k : Int) * (-1)).toNat]?).toArray = xs.toList.reverse.toArray := by
  congr 1
  have e : ∀ k ∈ List.range xs.size, xs[((xs.size : Int) - 1 + (k : Int) * (-1)).toNat]? = xs.toList.reverse[k]? := fun k hk => by
    rw [List.mem_range] at hk
    have : ((xs.size : Int) - 1 + (k : Int) * (-1)).toNat = xs.size - 1 - k := by omega
    rw [this, List.getElem?_reverse (by simpa using hk)]
    simp
  rw [fm_congr e]
  have := List.filterMap_getElem?_range_length xs.toList.reverse
  simpa using this
theorem getItem_rev {t sl : Addr} {items : Array Value} {tk : Tok} {Q : Value → Shared → Prop} (ht : IsTup s.heap t items) (hs : s.heap.IsSliceOf sl .none .none (.int (-1) tk))
    (h : Q (.ref s.heap.objs.size) { s with heap := s.heap.push { cls := .type "tuple", data := .seq items.toList.reverse.toArray } }) (hz : items.size ≤ sizeLine) : wpAny (model prog w) A (getItem (.ref t) (.ref sl)) Q E s := by
  have ok : sizeOk (.seq items.toList.reverse.toArray) := by
    show items.toList.reverse.toArray.size ≤ sizeLine
    simpa using hz
  obtain ⟨os, hos, hcs, hds⟩ := id hs
  have hT : s.TypeIs (.ref sl) "slice" := ⟨os, hos, hcs⟩
  unfold getItem
  try with_reducible refine wpAny_holding ?_
  try refine wpAny_bind (wpAny_pure ?_)
  refine wpAny_bind (wpAny_sequenceKey ht.typeIs (by decide) (wpAny_bind (wpAny_callSpecial?_slot (name := Str.ofString "__getitem__") ht.typeIs slot_tuple_getitem (wpAny_call_entry slot_tuple_getitem ht.typeIs entry_tuple_getitem ?_ (args_tuple_getitem _ _)))))
  show wpAny _ _ (Builtin.Tuple.tupleItemsOf (.ref t) >>= fun _ => _) _ _ s
  refine wpAny_bind (tupleItemsOf_ ht (wpAny_bind (wpAny_typeOf hT ?_)))
  rw [if_pos (by decide)]
  refine wpAny_bind (rev_applied hs ?_)
  have no : ¬ ((((items.size : Int) - 1 == 0) && ((-1 : Int) == 1) && items.size == items.size) = true) := by
    intro q
    rw [Bool.and_eq_true, Bool.and_eq_true] at q
    exact absurd q.1.2 (by decide)
  show wpAny _ _ (if (((items.size : Int) - 1 == 0) && ((-1 : Int) == 1) && items.size == items.size) = true then _ else _) _ _ s
  rw [if_neg no, rev_pick]
  first
    | exact wpAny_bind (m := Builtin.Tuple.tupleExact _) (wpAny_newObj_type (wpAny_pure ⟨_, rfl, wpAny_pure h⟩) ok)
    | exact wpAny_bind (wpAny_bind (m := Builtin.Tuple.tupleExact _) (wpAny_newObj_type (wpAny_pure ⟨_, rfl, wpAny_pure h⟩) ok))
end
section
variable {X : Cx} {pn : List (Nat × Addr)} {E : XK} {pos p2 : Pos} {e st : Expr} {te : TE} {tk : TO}
def tRev (K : PySem.W.Frag) (te : TE) (tk : TO) : TE := fun σ H Q => te σ H fun x H1 => tk σ H1 fun k H2 => k = some (-1) ∧ ∃ a xs, x = .ref a ∧ SqT K H2 a xs ∧ ∀ p, H2 p = none → Q (.ref p) (upd H2 p (.tup xs.reverse))
theorem pe_rev (he : PE X e te) (hk : PO X (some st) tk) : PE X (.Subscript e (.Slice none none (some st) p2) pos) (tRev X.K te tk) := by
  refine ⟨fun pins s σ H Q I h => ?_⟩
  refine Subscript_ (thn (he.run pins s σ H _ I h) fun v s1 ⟨x, H1, I1, r1, q1⟩ => wpAny_Slice ?_)
  rw [evalPart_none]
  refine wpAny_pure (wpAny_pure (thn (hk.run pins s1 σ H1 _ I1 q1) fun vk s2 ⟨k, H2, I2, pk, ek, a, xs, ex, hx, q⟩ => ?_))
  subst ek ex
  cases pk with
  | int i t =>
  cases r1
  have I3 : Inv X pins σ H2 { s2 with heap := s2.heap.push { cls := .type "slice", data := .fields #[.none, .none, .int (-1) t] } } := I2.kept (t' := s2.toks) fun b ob q => Heap.get?_push_of_some _ q
  obtain ⟨its, r, ht, hz⟩ := I3.tuple hx
  have g := getItem_rev (prog := X.prog) (w := X.w) (A := X.A) (E := X.xe) (Q := EP X pins σ Q) (s := { s2 with heap := s2.heap.push { cls := .type "slice", data := .fields #[.none, .none, .int (-1) t] } }) ht (Heap.IsSliceOf.new ..)
    ⟨.ref _, _, I3.laid (t' := s2.toks) (o := .tup xs.reverse) (fun b ob q => Heap.get?_push_of_some _ q) (Nat.le_refl _) ⟨by rw [List.length_reverse]; exact hz, _, r.reverse, IsTup.new _ _⟩, rfl, q _ (I3.hok.fresh (Nat.le_refl _))⟩ (by rw [List.size_toArray, ← r.length]; exact hz)
  show wpAny (model X.prog X.w) X.A (subscriptTail e (.Slice none none (some st) p2) (.ref a) (.ref s2.heap.objs.size)) (EP X pins σ Q) X.xe { s2 with heap := s2.heap.push { cls := .type "slice", data := .fields #[.none, .none, .int (-1) t] } }
  exact tail_any (ops := [.ref a, .ref s2.heap.objs.size]) ht.typeIs slot_tuple_getitem.lookup g (by with_unfolding_all rfl)
@[simp] def revM (f : M Sl) : M Sl := fun ρ => (bindD f fun d => match d with | .tup ds => retD (.tup ds.reverse) | _ => fun _ => none) ρ
theorem DtL.reverse {K : PySem.W.Frag} {H : Hp} : ∀ {v : List V} {d : List D}, DtL K H v d → DtL K H v.reverse d.reverse
  | _, _, .nil => .nil
  | _, _, .cons h hs => by
    rw [List.reverse_cons, List.reverse_cons]
    exact (DtL.reverse hs).append (.cons h .nil)
theorem px_rev {a : Expr} {f : M Sl} {j : Nat} {p3 p4 : Pos} (ha : PE X a (tE X.K pn E f)) : PE X (.Subscript a (.Slice none none (some (.UnaryOp .USub (.Constant (.int 1) j p3) p4)) p2) pos) (tE X.K pn E (revM f)) :=
  (pe_rev ha (po_some (pe_un un_neg pe_int))).imp fun σ H Q ⟨G, ρ, ok, w⟩ => ⟨G, ρ, ok, (Post.bindD ok w).mono fun v H1 ⟨G1, ρ1, d, ok1, s1, d1, p1⟩ => by
    cases d1 with
    | tup h9 hs => exact ⟨1, rfl, -1, rfl, rfl, _, _, rfl, Same.sqT ok1.sub h9, fun q hq => p1.tup ok1 hs.reverse hq⟩
    | _ => exact p1.elim⟩

/-! ### t * n -/
@[simp] def repD : D → D → M Sl := fun d e => match d, e with
  | .tup xs, .int k => fun ρ => if xs ≠ [] ∧ 2 ≤ k ∧ k ≤ 1000 ∧ xs.length ≤ 1000 then some (.val (.dt (.tup (List.replicate k.toNat xs).flatten)) ρ) else none
  | _, _ => fun _ => none
theorem DtL.rep {K : PySem.W.Frag} {H : Hp} {v : List V} {d : List D} (h : DtL K H v d) : ∀ n : Nat, DtL K H (List.replicate n v).flatten (List.replicate n d).flatten
  | 0 => .nil
  | n + 1 => by
    rw [List.replicate_succ, List.replicate_succ, List.flatten_cons, List.flatten_cons]
    exact h.append (DtL.rep h n)
theorem od_rep : OpD X pn E (rRepT X.K) repD := fun σ G H ρ v u d e Q ok hv hu p => by
  cases hv with
  | tup h hs =>
    cases hu with
    | int k =>
      rename_i a xs ds
      simp only [repD] at p
      by_cases c : ds ≠ [] ∧ 2 ≤ k ∧ k ≤ 1000 ∧ ds.length ≤ 1000
      · rw [if_pos c] at p
        have hl := hs.length
        exact ⟨_, k, _, rfl, rfl, Same.sqT ok.sub h, fun z => c.1 (List.eq_nil_of_length_eq_zero (by rw [← hl, z]; rfl)), c.2.1, c.2.2.1, by omega, fun q hq => p.tup ok (hs.rep _) hq⟩
      · rw [if_neg c] at p; exact p.elim
    | _ => exact p.elim
  | _ => exact p.elim

/-! ### str(x) -/
def strT : PyData → Str | .str x => x | d => d.shown
def showOk (d : D) : Bool := (toPy d).showable && okD d && decide ((strT (toPy d)).length ≤ sizeLine)
theorem call_strD (hg : X.A.guards = some []) (hu : X.A.units + 80 < cLine) : CallR X (.type "str") (fun xs H Q => ∃ x d, xs = [x] ∧ Dp X.K H x d ∧ d.showable = true ∧ SeqAt.shaped d = true ∧ (strT d).length ≤ sizeLine ∧ Q (.str (strT d)) H) := by
  intro pins s σ H xs us Q I r h
  obtain ⟨x, d, rfl, hd, hs, sh, hz, q⟩ := h
  obtain ⟨u, rfl, rx⟩ := vals1 r
  obtain ⟨as, rd⟩ := Dp.reads I d x u hd rx
  have hsm := PyData.noDict_hsm (as := as) (PyData.hasDict_of_canLay d (SeqAt.canLay_of_shaped sh))
  have dp := SeqAt.depth_of_shaped sh
  have fin : ∀ h' (u tk : Tok), (∀ b o, s.heap.get? b = some o → h'.get? b = some o) → EP X pins σ Q (.str (strT d) u) { s with heap := h', toks := tk } := fun h' u tk hk => ⟨.str _, H, I.kept (t' := tk) hk, ⟨_, rfl⟩, q⟩
  cases rd with
  | none => exact PySem.P.str_of_none (fin s.heap _ _ fun _ _ e => e)
  | bool b => exact PySem.P.str_of_bool (fin s.heap _ _ fun _ _ e => e)
  | int i t => exact PySem.P.str_of_int (by simpa [PyData.showable] using hs) (fin s.heap _ _ fun _ _ e => e)
  | str y t => exact PySem.P.str_of_str (fin s.heap t s.toks fun _ _ e => e)
  | list h1 h2 h3 h4 => exact str_of_reads (.list h1 h2 h3 h4) hs hsm hg (by omega) (fun _ _ e => e) (fun h' u tk hk => fin h' u tk hk) hz
  | tuple h1 h2 h3 h4 => exact str_of_reads (.tuple h1 h2 h3 h4) hs hsm hg (by omega) (fun _ _ e => e) (fun h' u tk hk => fin h' u tk hk) hz
  | dict h1 h2 h3 h4 h5 => exact absurd (SeqAt.canLay_of_shaped sh) (by simp [PyData.canLay0])
@[simp] def strD : List D → M Sl := fun ds => match ds with
  | [d] => fun ρ => if showOk d = true then some (.val (.dt (.str (strT (toPy d)))) ρ) else none
  | _ => fun _ => none
theorem cd_str : CallD X pn E (fun xs H Q => ∃ x d, xs = [x] ∧ Dp X.K H x d ∧ d.showable = true ∧ SeqAt.shaped d = true ∧ (strT d).length ≤ sizeLine ∧ Q (.str (strT d)) H) strD := fun σ G H ρ vs ds Q ok hd p => by
  unfold strD at p
  split at p
  · rename_i d
    obtain ⟨v, rfl, hv⟩ := hd.one
    by_cases c : showOk d = true
    · rw [if_pos c] at p
      simp only [showOk, Bool.and_eq_true, decide_eq_true_eq] at c
      exact ⟨v, _, rfl, (hv.mono ok.sub).toDp (SeqAt.canLay_of_shaped c.1.2), c.1.1, c.1.2, c.2, p.dt ok (.str _)⟩
    · rw [if_neg c] at p; exact p.elim
  · exact p.elim

/-! ### f(k = e) -/
theorem tCons_of {f : M Sl} {fs : M (List D)} {K : PySem.W.Frag} {σ : L2.St} {H : Hp} {Q : List V → Hp → Prop} (w : tA K pn E (consA f fs) σ H Q) : tCons (tE K pn E f) (tA K pn E fs) σ H Q := by
  obtain ⟨G, ρ, ok, h⟩ := w
  exact ⟨G, ρ, ok, (PostA.bindD ok h).mono fun v H1 ⟨G1, ρ1, d, ok1, s1, d1, p1⟩ =>
    ⟨G1, ρ1, ok1, (PostA.bindA ok1 p1).mono fun vs H2 ⟨G2, ρ2, ds, ok2, s2, d2, x2, p2⟩ => p2 _ G2 H2 ok2 Ext.refl (.cons (d1.mono s2) d2)⟩⟩
theorem _root_.L2.PK.imp {kws : List Keyword} {t u : TA} (h : PK X kws t) (i : ∀ σ H Q, u σ H Q → t σ H Q) : PK X kws u := ⟨fun pos pins s σ H Q I w => h.run pos pins s σ H Q I (i _ _ _ w)⟩
theorem pkx_nil : PK X [] (tA X.K pn E nilA) := pk_nil.imp fun σ H Q ⟨G, ρ, ok, h⟩ => h [] G H ok Ext.refl .nil
theorem pkx_cons {nm : Option Str} {e : Expr} {kpos : Pos} {kws : List Keyword} {f : M Sl} {fs : M (List D)} (ha : PE X e (tE X.K pn E f)) (hr : PK X kws (tA X.K pn E fs)) : PK X (⟨nm, e, kpos⟩ :: kws) (tA X.K pn E (consA f fs)) := (pk_cons ha hr).imp fun σ H Q w => tCons_of w
theorem pe_callK0 {CX : CXT} {k : Nat} {f : Addr} {fd : FuncData} {ps ks : List Str} {sp : Sp} {E : XK} {x : Str} {p : Pos} {kws : List Keyword} {tk : TA} (F : FnOk X.prog X.w X.K X.mg X.base CX k f fd ps sp) (hr : Room k X.A) (hg : Gl X x) (hm : X.mg x = some (.ref f)) (hk : PySem.W.keepIn X.K (.ref f) = true)
    (hb : ∀ (s : Shared) (ws : List Value), X.K.In s.heap → ws.length = ps.length → BindsTo s fd ⟨[], ks.zip ws⟩ (ps.zip ws)) (hx : Passes CX X E) (hkw : PK X kws tk) (hall : (backToKw pos (keywordEach kws X.env)).all (·.1.isSome) = true := by rfl)
    (hks : (backToKw pos (keywordEach kws X.env)).filterMap (·.1) = ks := by rfl) (hdb : (x == ("__debug__" : Str)) = false := by decide)
    (hpl : ((backTo pos (starEach [] X.env)).any (·.1) || (backToKw pos (keywordEach kws X.env)).any (·.1.isNone)) = false := by rfl) : PE X (.Call (.Name x p) [] kws pos) (fun σ H Q => tk σ H fun zs H2 => sp zs H2 Q E) := by
  refine ⟨fun pins s σ H Q I h => wpAny_Call_Name_kw (ld_glob I hg hm ?_ hdb)⟩
  refine PySem.W.callWith_KW0 (h₀ := X.base) I.ok.mod.kin hk hall (thn (hkw.run pos pins s σ H _ I h) fun ws s2 ⟨zs, H2, I2, rz, q2⟩ => ⟨I2.kIn, ?_⟩) hpl
  rw [hks]
  have hl : ws.length = ps.length := by rw [← rz.length]; exact F.len _ _ _ _ q2
  refine wpAny_call (codeAny_mono (F.run X.A X.stack s2 H2 ⟨[], ks.zip ws⟩ ws zs Q E hr I2.env0 (hb s2 ws I2.kIn hl) rz q2) fun r s' hq => ?_)
  cases r with
  | error e => exact hx pins σ H2 s2 e s' I2 hq
  | ok fl =>
    cases fl with
    | ret u => exact I2.after hq
    | _ => exact False.elim hq
theorem px_callK0 {F : Fn} {k : Nat} {f : Addr} {fd : FuncData} {ps ks : List Str} {x : Str} {p : Pos} {kws : List Keyword} {fs : M (List D)} (G : FnOk X.prog X.w X.K X.mg X.base CX0 k f fd ps (fun vs H Q _ => SpF X.K F vs H Q E00)) (hr : Room k X.A) (hm : X.mg x = some (.ref f)) (hk : PySem.W.keepIn X.K (.ref f) = true)
    (hb : ∀ (s : Shared) (ws : List Value), X.K.In s.heap → ws.length = ps.length → BindsTo s fd ⟨[], ks.zip ws⟩ (ps.zip ws)) (hkw : PK X kws (tA X.K pn E00 fs)) (hg : Gl X x := by rfl) (hall : (backToKw pos (keywordEach kws X.env)).all (·.1.isSome) = true := by rfl)
    (hks : (backToKw pos (keywordEach kws X.env)).filterMap (·.1) = ks := by rfl) (hdb : (x == ("__debug__" : Str)) = false := by decide)
    (hpl : ((backTo pos (starEach [] X.env)).any (·.1) || (backToKw pos (keywordEach kws X.env)).any (·.1.isNone)) = false := by rfl) : PE X (.Call (.Name x p) [] kws pos) (tE X.K pn E00 (callF F fs)) :=
  (pe_callK0 G hr hg hm hk hb pass0 hkw hall hks hdb hpl).imp fun σ H Q w => by
    have := tCall_of (pn := pn) (E := E00) (E' := E00) (F := F) (sp := fun vs H Q _ => SpF X.K F vs H Q E00) (fun _ _ _ h => h) σ H Q w
    unfold tCall at this
    simpa only [List.append_nil] using this
end

/-! ### a law right under its caller -/
section
variable {P : Program} {w : World} {K : PySem.W.Frag} {mg : Str → Option Value} {base : Heap}
theorem run_at {k : Nat} {x qual : Str} {st : Stmt} {f : Addr} {fd : FuncData} {N ps : List Str} {A : Around} {outer : List Env} {s : Shared} {H : Hp} {args : Args} {us : List Value} {vs : List V} {Q : VK} {E : XK}
    (F : Fun K x qual st f fd) (S : FnScope N ps (defScope st)) (room : Room (k + 1) A) (e0 : Env0 P w K mg base A outer s H) (bind : BindsTo s fd args (ps.zip us)) (rel : Vals vs us) (len : vs.length = ps.length)
    (body : ∀ cdv : Value, ∃ t, PSs (cxOf CX0 P w K mg base N qual (defScope st) f cdv A outer s H E).nox (defBody st) t ∧ t { nx := fun _ H' => Q .non H', rt := Q } (start N vs) H) :
    codeAny (model P w) A (.call (.ref f) args) (CR CX0 outer P w H s Q E) s := by
  obtain ⟨oc, od, kV, doc, pm, an, cdv, ct, osl, rfl, lk, code⟩ := F.ex
  have inK := e0.mod.kin.keeps fun b o e => (e0.bs b o e).1
  have nolim := e0.mod.nolimit.keeps fun b o e => (e0.bs b o e).1
  refine codeAny_call_function room.depth (inK _ _ lk) rfl S.co S.gen rfl (PySem.W.codeRec_of inK code) (bind _ _ _ _ (wpAny_newFunctionEnv_cells S.kind (fun ⟨n, v⟩ hy => (S.par n (List.of_mem_zip hy).1).imp id fun q => ⟨q, PySem.W.cellsFrom_some _ _ _ (.inl q)⟩) fun env he s1 y => ?_))
  subst he
  obtain ⟨t, ht, ready⟩ := body cdv
  refine ⟨nolim.keeps y.toInCall.keep, codeAny_func (wpAny_mono (ht.nox.run [] s1 (start N vs) H _ (inv_start S room.hd e0 len rel y) ready) (fun fl s' end_ => ?_) fun e s' end_ => end_)⟩
  cases fl with
  | ret u => exact let ⟨v, _, H', J, rv, q⟩ := end_; ⟨v, H', J.os, J.bare, J.base, J.hok, rv, q⟩
  | next => exact let ⟨_, H', J, q⟩ := end_; ⟨V.non, H', J.os, J.bare, J.base, J.hok, rfl, q⟩
  | brk => exact let ⟨_, _, _, q⟩ := end_; False.elim q
  | cont => exact let ⟨_, _, _, q⟩ := end_; False.elim q
end
end BT

/-! a law's def right under its caller, where no repr is under way -/
namespace BT
open PySem PySem.Spec PyProof.Rows L2
section
variable {P : Program} {w : World} {K : PySem.W.Frag} {mg mb : Str → Option Value}
/-- what the caller asks of the law -/
def Kept (s₁ : Shared) (r : Result) (s' : Shared) : Prop := r = .ok (.ret (.bool true)) ∧ OldK s₁.heap s'.heap ∧ s'.os = s₁.os ∧ AllBare s'.gens
/-- what the body owes: from any base, with the script as data -/
def BodyAt (P : Program) (w : World) (K : PySem.W.Frag) (mg : Str → Option Value) (N : List Str) (x qual : Str) (st : Stmt) (f a : Addr) (ns : List Int) : Prop :=
  ∀ (base : Heap) (cdv : Value) (s : Shared) (H : Hp), K.In base → base.Ns mainGlobals mg → SqL K H a (ns.map V.int) →
    ∃ t, PSs (cxOf CX0 P w K mg base N qual (defScope st) f cdv callerA [] s H fun _ _ _ => False).nox (defBody st) t ∧ t { nx := fun _ _ => V.non = .bl true, rt := fun v _ => v = .bl true } (start N [.ref a]) H
theorem law_one {k : Nat} {f a : Addr} {fd : FuncData} {x y qual : Str} {st : Stmt} {N : List Str} {s₁ : Shared} {vs : List Value} {ns : List Int} {H : Hp} (F : Fun K x qual st f fd) (S : FnScope N [y] (defScope st)) (room : Room (k + 1) callerA)
    (inK : K.In s₁.heap) (nsM : s₁.heap.Ns mainGlobals mg) (nsB : s₁.heap.Ns builtinsNs mb) (boot : ∀ x : Str, x ≠ "__name__" → mb x = bootBuiltins x) (nolim : s₁.heap.NoLimit) (nogen : s₁.gens = #[])
    (at_ : s₁.heap.get? a = some { cls := .type "list", data := .seq vs.toArray }) (bind : ∀ (s : Shared) (u : Value), BindsTo s fd ⟨[u], []⟩ [(y, u)]) (body : BodyAt P w K mg N x qual st f a ns)
    (only : Only H) (seq : SqL K H a (ns.map V.int)) (hok : HOk P w H s₁.heap) (one : ∀ b, H b ≠ none → b = a) (mine : H a ≠ none → K.lookup a = none) :
    codeAny (model P w) callerA (.call (.ref f) ⟨[.ref a], []⟩) (Kept s₁) s₁ := by
  have far : ∀ {b : Addr}, b ≠ a → H b = none := fun {b} n => Classical.byContradiction fun z => n (one b z)
  have isList : ∀ {o : Obj}, s₁.heap.get? a = some o → o.data = .seq vs.toArray := fun e => by rw [at_] at e; cases e; rfl
  have noA : ∀ {b : Addr} {o : Obj} {es : Array DictEntry} {ep : Nat}, s₁.heap.get? b = some o → o.data = .dict es ep → H b = none := fun {b o es ep} e d => far fun z => by
    subst z
    have q := isList e
    rw [d] at q; cases q
  have lift : ∀ {b : Addr} {m : Str → Option Value}, s₁.heap.Ns b m → (hidT s₁.heap H).Ns b m := fun ⟨o, es, ep, e, d, r⟩ => ⟨o, es, ep, hidT_get e (noA e d), d, r⟩
  have inB : K.In (hidT s₁.heap H) := fun b o e => hidT_get (inK b o e) (by
    by_cases c : b = a
    · subst c
      refine Classical.byContradiction fun z => ?_
      rw [mine z] at e; cases e
    · exact far c)
  have e0 : Env0 P w K mg (hidT s₁.heap H) callerA [] s₁ H :=
    ⟨rfl, ⟨inB, lift nsM, ⟨mb, lift nsB, boot⟩, nolim.imp fun mc h => ⟨lift h.1, h.2⟩⟩, fun b o e => of_hidT e, Nat.le_of_eq (hidT_size _ _), trivial, (fun b hb => nomatch hb), hok, .of_eq nogen⟩
  refine codeAny_mono (run_at (us := [.ref a]) (vs := [.ref a]) (Q := fun v _ => v = .bl true) (E := fun _ _ _ => False) F S room e0 (bind s₁ (.ref a)) (.cons rfl .nil) rfl fun cdv => body _ cdv s₁ H inB (lift nsM) seq) fun r s' h => ?_
  match r, h with
  | .error e, h => exact False.elim h
  | .ok .next, h => exact False.elim h
  | .ok .brk, h => exact False.elim h
  | .ok .cont, h => exact False.elim h
  | .ok (.ret u), ⟨v, H', os, bare, un, hok', rel, isT⟩ =>
    have isT' : v = .bl true := isT
    subst isT'
    obtain rfl : u = Value.bool true := rel
    refine ⟨rfl, OldK.of_keep fun b o e => ?_, os, bare⟩
    by_cases c : H b = none
    · exact un.keep b o e c (fun z => nomatch z) (by simp)
    · rcases only b with z | ⟨ob, xs, z⟩
      · exact absurd z c
      · have z1 := (hok b _ z).1
        rw [e] at z1; cases z1
        exact (hok' b _ (un.frzs b _ _ z)).1
theorem law_all {k : Nat} {f a : Addr} {fd : FuncData} {x y qual : Str} {st : Stmt} {N : List Str} {s₁ : Shared} {vs : List Value} {ns : List Int} (F : Fun K x qual st f fd) (S : FnScope N [y] (defScope st)) (room : Room (k + 1) callerA)
    (inK : K.In s₁.heap) (nsM : s₁.heap.Ns mainGlobals mg) (nsB : s₁.heap.Ns builtinsNs mb) (boot : ∀ x : Str, x ≠ "__name__" → mb x = bootBuiltins x) (nolim : s₁.heap.NoLimit) (nogen : s₁.gens = #[])
    (at_ : s₁.heap.get? a = some { cls := .type "list", data := .seq vs.toArray }) (hints : IntsAre vs ns) (short : ns.length ≤ sizeLine) (bind : ∀ (s : Shared) (u : Value), BindsTo s fd ⟨[u], []⟩ [(y, u)]) (body : BodyAt P w K mg N x qual st f a ns) :
    codeAny (model P w) callerA (.call (.ref f) ⟨[.ref a], []⟩) (Kept s₁) s₁ := by
  have rv := vals_ints hints
  have go := fun (H : Hp) => law_one (H := H) F S room inK nsM nsB boot nolim nogen at_ bind body
  by_cases hk : ∃ o, K.lookup a = some o
  · obtain ⟨o, hk⟩ := hk
    have e := inK a o hk
    rw [at_] at e; cases e
    exact go (fun _ => none) (fun _ => .inl rfl) (.inr ⟨_, vs.toArray, _, hk, rfl, rfl, rfl, by rw [List.size_toArray, hints.length]; exact short, by simpa using rv⟩) (fun b u z => nomatch (show (none : Option HO) = some u from z)) (fun b z => absurd rfl z) fun z => absurd rfl z
  · have hn : K.lookup a = none := by
      cases q : K.lookup a with
      | none => rfl
      | some o => exact absurd ⟨o, q⟩ hk
    let H : Hp := fun b => if b = a then some (.frz { cls := .type "list", data := .seq vs.toArray } (.lst (ns.map V.int))) else none
    have Ha : H a = some (.frz { cls := .type "list", data := .seq vs.toArray } (.lst (ns.map V.int))) := if_pos rfl
    have Hn : ∀ {b}, b ≠ a → H b = none := fun c => if_neg c
    refine go H (fun b => ?_) (.inl (.inr ⟨_, Ha⟩)) (fun b u z => ?_) (fun b z => Classical.byContradiction fun c => z (Hn c)) fun _ => hn
    · by_cases c : b = a
      · subst c; exact .inr ⟨_, _, Ha⟩
      · exact .inl (Hn c)
    · by_cases c : b = a
      · subst c
        rw [Ha] at z; cases z
        exact ⟨at_, by rw [List.length_map]; exact short, vs, _, rv, at_⟩
      · rw [Hn c] at z; cases z
end
/-- the goal that k_head leaves -/
theorem walk_at {l : PySem.W.OpenLaw} {n k : Nat} {q : Program} {loose : List Str} {XP : (Str → Option Value) → Heap → Prop} {YP : World → Heap → Prop} {d : DefRec} {K : Params → PySem.W.Frag} {x y qual : Str} {st : Stmt} {N : List Str}
    (most : l.most = some n) (small : n ≤ sizeLine) (plain : d.params.defaults = []) (room : Room (k + 1) callerA) (S : FnScope N [y] (defScope st)) (given : ∀ (w : World) (h : Heap), YP w h → (K w.params).In h)
    (made : ∀ (w : World) (mg : Str → Option Value) (f : Addr) (h : Heap), (K w.params).In h → h.Ns mainGlobals mg → mg d.name = some (.ref f) →
      ∃ fd : FuncData, Fun (K w.params) x qual st f fd ∧ (∀ (s : Shared) (u : Value), BindsTo s fd ⟨[u], []⟩ [(y, u)]) ∧ ∀ (a : Addr) (ns : List Int), ns.length ≤ n → BodyAt l.prog w (K w.params) mg N x qual st f a ns) :
    PySem.W.WalkO q loose XP YP l.row.toRowW d [] (fun f vs => PySem.call f vs) := by
  refine Att.attach_call most plain fun w s₀ s₁ mg mb f o pm cd doc a vs ns G Y ho hd hcd hmg at_ hints len nogen => ?_
  have inK := given w _ Y
  obtain ⟨fd, F, bind, body⟩ := made w mg f _ inK G.T.g hmg
  exact law_all F S room inK G.T.g G.T.b G.T.builtins G.T.nolimit nogen at_ hints (Nat.le_trans len small) bind (body a ns len)
end BT

/-! One object of the class of relations that stands aside of the data: its methods, and the defs that make one. -/
namespace BK
open PySem L2 BT

structure RA where (a dx d1 d2 l : Addr)
def RA.O (r : RA) (b : Addr) : Prop := b = r.a ∨ b = r.dx ∨ b = r.d1 ∨ b = r.d2 ∨ b = r.l
def RA.fs (r : RA) : List (Str × V) := [("together", .ref r.d1), ("numbers", .ref r.d2), ("later", .ref r.l)]
def numV (ns : List Str) : List (Key × V) := ns.mapIdx fun i n => (Sum.inr n, V.int (i : Nat))
structure RelAt (K : PySem.W.Frag) (C : Addr) (G H : Hp) (r : RA) (R : RS) : Prop where
  ia : H r.a = some (.ins C r.dx r.fs)
  id : H r.dx = some (.own r.a)
  h1 : ∃ kvs, H r.d1 = some (.dK kvs) ∧ DtK K G kvs (togD R.tg)
  h2 : H r.d2 = some (.dK (numV R.names))
  hl : H r.l = some (.lst (R.later.map V.int))
  no : ∀ b, r.O b → G b = none
  ne : r.d1 ≠ r.d2
theorem RA.Oa (r : RA) : r.O r.a := .inl rfl
theorem RA.Ox (r : RA) : r.O r.dx := .inr (.inl rfl)
theorem RA.O1 (r : RA) : r.O r.d1 := .inr (.inr (.inl rfl))
theorem RA.O2 (r : RA) : r.O r.d2 := .inr (.inr (.inr (.inl rfl)))
theorem RA.Ol (r : RA) : r.O r.l := .inr (.inr (.inr (.inr rfl)))
section
variable {K : PySem.W.Frag} {C : Addr} {G H G' H' : Hp} {r : RA} {R : RS}
theorem RelAt.some_ (h : RelAt K C G H r R) {b : Addr} (o : r.O b) : H b ≠ none := by
  obtain ⟨kvs, e, _⟩ := h.h1
  rcases o with rfl | rfl | rfl | rfl | rfl
  · rw [h.ia]; simp
  · rw [h.id]; simp
  · rw [e]; simp
  · rw [h.h2]; simp
  · rw [h.hl]; simp
/-- kept through what does not own it -/
theorem RelAt.ext {O O' : Addr → Prop} (h : RelAt K C G H r R) (x : Ext G H O G' H' O') (n : ∀ b, r.O b → ¬ O b) : RelAt K C G' H' r R ∧ ∀ b, r.O b → ¬ O' b := by
  obtain ⟨kvs, e, d⟩ := h.h1
  refine ⟨⟨x.keep _ _ h.ia (n _ r.Oa), x.keep _ _ h.id (n _ r.Ox), ⟨kvs, x.keep _ _ e (n _ r.O1), DtK.mono x.grow d⟩, x.keep _ _ h.h2 (n _ r.O2), x.keep _ _ h.hl (n _ r.Ol), fun b o => ?_, h.ne⟩, fun b o q => ?_⟩
  · cases eg : G' b with
    | none => rfl
    | some u =>
      rcases x.fresh b (by rw [eg]; simp) with q | q | q
      · exact absurd (h.no b o) q
      · exact absurd q (h.some_ o)
      · exact absurd q (n b o)
  · rcases x.own b q with q | q
    · exact n b o q
    · exact h.some_ o q
theorem numV_dt (ns : List Str) : DtK K H (numV ns) (numD ns) := by
  have go : ∀ (ns : List Str) (k : Nat), DtK K H (ns.mapIdx fun i n => ((Sum.inr n : Key), V.int ((k + i : Nat)))) (ns.mapIdx fun i n => ((Sum.inr n : Key), D.int ((k + i : Nat)))) := by
    intro ns
    induction ns with
    | nil => intro k; exact .nil
    | cons n ns ih =>
      intro k
      simp only [List.mapIdx_cons]
      refine .cons (.int _) ?_
      have := ih (k + 1)
      have e1 : (fun (i : Nat) (n : Str) => ((Sum.inr n : Key), V.int ((k + (i + 1) : Nat)))) = fun (i : Nat) (n : Str) => ((Sum.inr n : Key), V.int ((k + 1 + i : Nat))) := by
        funext i n; rw [show k + (i + 1) = k + 1 + i by omega]
      have e2 : (fun (i : Nat) (n : Str) => ((Sum.inr n : Key), D.int ((k + (i + 1) : Nat)))) = fun (i : Nat) (n : Str) => ((Sum.inr n : Key), D.int ((k + 1 + i : Nat))) := by
        funext i n; rw [show k + (i + 1) = k + 1 + i by omega]
      rw [e1, e2]; exact this
  have := go ns 0
  simp only [Nat.zero_add] at this
  exact this
theorem ints_dt : ∀ ns : List Int, DtL K H (ns.map V.int) (ns.map D.int)
  | [] => .nil
  | n :: ns => .cons (.int n) (ints_dt ns)
theorem strs_dt : ∀ ns : List Str, DtL K H (ns.map V.str) (ns.map D.str)
  | [] => .nil
  | n :: ns => .cons (.str n) (strs_dt ns)
/-- read as data -/
theorem RelAt.dt (h : RelAt K C G H r R) (s : Same G H) : Dt K H (.ref r.a) (relD C R) := by
  obtain ⟨kvs, e, d⟩ := h.h1
  exact .ins h.ia h.id (.cons (.dic (.inl e) (DtK.mono s d)) (.cons (.dic (.inl h.h2) (numV_dt _)) (.cons (.lst (SqL.of h.hl) (ints_dt _)) .nil)))

/-! ### data that hangs on no heap -/
def atomD : D → Bool | .non => true | .bl _ => true | .int _ => true | .str _ => true | _ => false
def atomS : Sl → Bool | .un => true | .dt d => atomD d | .ol ds => ds.all atomD
theorem atom_any {v : V} {d : D} (h : Dt K G v d) (a : atomD d = true) : Dt K G' v d := by
  cases h <;> first | exact .non | exact .bl _ | exact .int _ | exact .str _ | cases a
theorem atoms_any : ∀ {vs : List V} {ds : List D}, DtL K G vs ds → ds.all atomD = true → DtL K G' vs ds
  | _, _, .nil, _ => .nil
  | _, _, .cons h hs, a => by
    simp only [List.all_cons, Bool.and_eq_true] at a
    exact .cons (atom_any h a.1) (atoms_any hs a.2)
/-- a state of atoms holds over any frozen part in which its own lists do not stand -/
theorem EnvOk.atoms {pn : List (Nat × Addr)} {σ : St} {ρ : Rho} (ok : EnvOk K pn G H σ ρ) (a : ∀ s ∈ ρ, atomS s = true) (sub : Same G' H) (no : ∀ b, OwnAt σ ρ b → G' b = none) : EnvOk K pn G' H σ ρ := by
  refine ⟨sub, ok.len, fun i d h => ?_, fun i ds h => ?_, ok.inj, ok.pins⟩
  · obtain ⟨v, e, hd⟩ := ok.dt i d h
    exact ⟨v, e, atom_any hd (a _ (List.mem_of_getElem? h))⟩
  · obtain ⟨p, vs, e, h1, h2, h3⟩ := ok.ol i ds h
    exact ⟨p, vs, e, h1, no p ⟨i, ds, h, e⟩, atoms_any h3 (a _ (List.mem_of_getElem? h))⟩
end

/-! ### states with the object in slot i -/
abbrev MR := RS → Rho → Option (SRs × RS)
section
variable (K : PySem.W.Frag) (C : Addr) (i : Nat) (r : RA)
def PostR (G0 H0 : Hp) (O0 : Addr → Prop) (res : Option (SRs × RS)) (D : Ends) : Prop := match res with
  | some (.nx ρ', R') => ∀ σ' G' H', EnvOk K [(i, r.a)] G' H' σ' ρ' → RelAt K C G' H' r R' → (∀ b, r.O b → ¬ OwnAt σ' ρ' b) → Ext G0 H0 O0 G' H' (fun b => OwnAt σ' ρ' b ∨ r.O b) → D.nx σ' H'
  | some (.bk ρ', R') => ∀ σ' G' H', EnvOk K [(i, r.a)] G' H' σ' ρ' → RelAt K C G' H' r R' → (∀ b, r.O b → ¬ OwnAt σ' ρ' b) → Ext G0 H0 O0 G' H' (fun b => OwnAt σ' ρ' b ∨ r.O b) → D.bk σ' H'
  | some (.ct ρ', R') => ∀ σ' G' H', EnvOk K [(i, r.a)] G' H' σ' ρ' → RelAt K C G' H' r R' → (∀ b, r.O b → ¬ OwnAt σ' ρ' b) → Ext G0 H0 O0 G' H' (fun b => OwnAt σ' ρ' b ∨ r.O b) → D.ct σ' H'
  | some (.rt s ρ', R') => ∀ v σ' G' H', EnvOk K [(i, r.a)] G' H' (σ' ++ [some v]) (ρ' ++ [s]) → RelAt K C G' H' r R' → (∀ b, r.O b → ¬ OwnAt (σ' ++ [some v]) (ρ' ++ [s]) b) → Ext G0 H0 O0 G' H' (fun b => OwnAt (σ' ++ [some v]) (ρ' ++ [s]) b ∨ r.O b) → D.rt v H'
  | some (.exc _ _, _) => False
  | none => False
def tR (f : MR) : TS := fun D σ H => ∃ G ρ r R, EnvOk K [(i, r.a)] G H σ ρ ∧ RelAt K C G H r R ∧ (∀ b, r.O b → ¬ OwnAt σ ρ b) ∧ ρ[i]? = some .un ∧ PostR K C i r G H (fun b => OwnAt σ ρ b ∨ r.O b) (f R ρ) D
end
section
variable {K : PySem.W.Frag} {C : Addr} {i : Nat} {r : RA} {G H : Hp} {O : Addr → Prop} {D : Ends}
theorem PostR.at {G0 H0 : Hp} {O0 : Addr → Prop} {res : Option (SRs × RS)} (h : PostR K C i r G0 H0 O0 res D) (x : Ext G0 H0 O0 G H O) : PostR K C i r G H O res D := by
  unfold PostR at h ⊢
  split at h
  · exact fun s G' H' a b c d => h s G' H' a b c (x.trans d)
  · exact fun s G' H' a b c d => h s G' H' a b c (x.trans d)
  · exact fun s G' H' a b c d => h s G' H' a b c (x.trans d)
  · exact fun v s G' H' a b c d => h v s G' H' a b c (x.trans d)
  · exact h
  · exact h
theorem _root_.BT.Ext.wide {G H G' H' : Hp} {O O' P : Addr → Prop} (x : Ext G H O G' H' O') : Ext G H (fun b => O b ∨ P b) G' H' (fun b => O' b ∨ P b) :=
  ⟨x.grow, fun a h => (x.fresh a h).elim .inl fun h => h.elim (fun h => .inr (.inl h)) fun h => .inr (.inr (.inl h)), fun a o h n => x.keep a o h fun q => n (.inl q), fun a h => h.elim (fun h => (x.own a h).elim (fun h => .inl (.inl h)) .inr) fun h => .inl (.inr h)⟩
end
def isUn : Sl → Bool | .un => true | _ => false
def unAt (i : Nat) (ρ : Rho) : Bool := match ρ[i]? with | some s => isUn s | none => false
theorem unAt_iff {i : Nat} {ρ : Rho} : unAt i ρ = true ↔ ρ[i]? = some .un := by
  unfold unAt
  cases e : ρ[i]? with
  | none => simp
  | some s => cases s <;> simp [isUn]
def frmR (i : Nat) (f : MS) : MR := fun R ρ => match f ρ with
  | some (.nx ρ') => if unAt i ρ' = true then some (.nx ρ', R) else none
  | some (.rt s ρ') => some (.rt s ρ', R)
  | _ => none
section
variable {X : Cx} {C : Addr} {i : Nat} {pos : Pos}
theorem psr_frame {st : Stmt} {f : MS} (h : ∀ pn, (∀ q ∈ pn, q.1 ∈ [i]) → PS X st (tS X.K pn E00 f)) : PS X st (tR X.K C i (frmR i f)) := ⟨fun pins s σ H D I ⟨G, ρ, r, R, ok, rel, n, un, p⟩ => by
  refine (h [(i, r.a)] (fun q hq => by simp at hq; simp [hq])).run pins s σ H D I ⟨G, ρ, ok, ?_⟩
  unfold frmR at p
  cases e : f ρ with
  | none => rw [e] at p; exact p
  | some x =>
    rw [e] at p
    cases x with
    | nx ρ' =>
      intro σ' G' H' ok' x'
      simp only at p
      split at p
      · obtain ⟨rel', n'⟩ := rel.ext x' n
        exact p σ' G' H' ok' rel' n' x'.wide
      · exact p.elim
    | rt s ρ' =>
      intro v σ' G' H' ok' x'
      obtain ⟨rel', n'⟩ := rel.ext x' n
      exact p v σ' G' H' ok' rel' n' x'.wide
    | bk _ => exact p.elim
    | ct _ => exact p.elim
    | exc _ _ => exact p.elim⟩
def sqR (i : Nat) (f g : MR) : MR := fun R ρ => match f R ρ with
  | some (.nx ρ', R') => if unAt i ρ' = true then g R' ρ' else none
  | x => x
def nxR : MR := fun R ρ => some (.nx ρ, R)
theorem psr_nil : PSs X [] (tR X.K C i nxR) := pss_nil.imp fun D σ H ⟨G, ρ, r, R, ok, rel, n, un, p⟩ => p σ G H ok rel n Ext.refl
theorem psr_cons {st : Stmt} {rest : List Stmt} {f g : MR} (h1 : PS X st (tR X.K C i f)) (h2 : PSs X rest (tR X.K C i g)) : PSs X (st :: rest) (tR X.K C i (sqR i f g)) :=
  (pss_cons h1 h2).imp fun D σ H ⟨G, ρ, r, R, ok, rel, n, un, p⟩ => by
    refine ⟨G, ρ, r, R, ok, rel, n, un, ?_⟩
    unfold sqR at p
    cases e : f R ρ with
    | none => rw [e] at p; exact p
    | some x =>
      rw [e] at p
      obtain ⟨x, R'⟩ := x
      cases x with
      | nx ρ' =>
        intro σ' G' H' a b c d
        simp only at p
        split at p
        · rename_i z
          exact ⟨G', ρ', r, R', a, b, c, unAt_iff.mp z, p.at d⟩
        · exact p.elim
      | rt _ _ => exact p
      | bk _ => exact p
      | ct _ => exact p
      | exc _ _ => exact p
theorem psr_one {st : Stmt} {f : MR} (h1 : PS X st (tR X.K C i f)) : PSs X [st] (tR X.K C i f) := pss_one h1

/-- a statement that reads the object as data and makes atoms alone -/
def viewR (C : Addr) (i : Nat) (f : MS) : MR := fun R ρ => match f (ρ.set i (.dt (relD C R))) with
  | some (.nx ρ') => if (ρ'.set i .un).all atomS = true then some (.nx (ρ'.set i .un), R) else none
  | some (.rt s ρ') => if i < ρ'.length ∧ atomS s = true ∧ (ρ'.set i .un).all atomS = true then some (.rt s (ρ'.set i .un), R) else none
  | _ => none
theorem EnvOk.unSlot {K : PySem.W.Frag} {pn : List (Nat × Addr)} {G H : Hp} {σ : St} {ρ : Rho} (ok : EnvOk K pn G H σ ρ) (i : Nat) : EnvOk K pn G H σ (ρ.set i .un) ∧ ∀ a, OwnAt σ (ρ.set i .un) a → OwnAt σ ρ a := by
  have g : ∀ {j : Nat} {s : Sl}, (ρ.set i .un)[j]? = some s → s = .un ∨ ρ[j]? = some s := fun {j s} h => by
    by_cases z : i = j
    · subst z
      rw [List.getElem?_set_self'] at h
      cases e : ρ[i]? with
      | none => rw [e] at h; cases h
      | some _ => rw [e] at h; cases h; exact .inl rfl
    · rw [List.getElem?_set_ne z] at h; exact .inr h
  refine ⟨⟨ok.sub, by rw [List.length_set]; exact ok.len, fun j d h => ?_, fun j ds h => ?_, fun j k ds es p h1 h2 => ?_, ok.pins⟩, fun a ⟨j, ds, h1, h2⟩ => ?_⟩
  · rcases g h with h | h
    · cases h
    · exact ok.dt j d h
  · rcases g h with h | h
    · cases h
    · exact ok.ol j ds h
  · rcases g h1 with h | h1
    · cases h
    · rcases g h2 with h | h2
      · cases h
      · exact ok.inj j k ds es p h1 h2
  · rcases g h1 with h | h
    · cases h
    · exact ⟨j, ds, h, h2⟩
theorem EnvOk.putDt {K : PySem.W.Frag} {pn : List (Nat × Addr)} {G H : Hp} {σ : St} {ρ : Rho} {i : Nat} {v : V} {d : D} (ok : EnvOk K pn G H σ ρ) (un : ρ[i]? = some .un) (hv : σ[i]? = some (some v)) (h : Dt K G v d) : EnvOk K pn G H σ (ρ.set i (.dt d)) ∧ ∀ a, OwnAt σ (ρ.set i (.dt d)) a → OwnAt σ ρ a := by
  have hlt := lt_of_get un
  have g : ∀ {j : Nat} {s : Sl}, (ρ.set i (.dt d))[j]? = some s → (j = i ∧ s = .dt d) ∨ ρ[j]? = some s := fun {j s} h => by
    by_cases z : i = j
    · subst z
      rw [List.getElem?_set_self hlt] at h
      exact .inl ⟨rfl, (Option.some.inj h).symm⟩
    · rw [List.getElem?_set_ne z] at h; exact .inr h
  refine ⟨⟨ok.sub, by rw [List.length_set]; exact ok.len, fun j e hj => ?_, fun j ds hj => ?_, fun j k ds es p h1 h2 => ?_, ok.pins⟩, fun a ⟨j, ds, h1, h2⟩ => ?_⟩
  · rcases g hj with ⟨z, hj2⟩ | hj
    · injection hj2 with hj2; subst z hj2; exact ⟨v, hv, h⟩
    · exact ok.dt j e hj
  · rcases g hj with ⟨_, hj2⟩ | hj
    · injection hj2
    · exact ok.ol j ds hj
  · rcases g h1 with ⟨rfl, h⟩ | h1
    · cases h
    · rcases g h2 with ⟨rfl, h⟩ | h2
      · cases h
      · exact ok.inj j k ds es p h1 h2
  · rcases g h1 with ⟨rfl, h⟩ | h
    · cases h
    · exact ⟨j, ds, h, h2⟩
/-- the heap without the addresses of P -/
noncomputable def hide (H : Hp) (P : Addr → Prop) : Hp := fun b => @ite _ (P b) (Classical.propDecidable _) none (H b)
theorem hide_in {H : Hp} {P : Addr → Prop} {b : Addr} (h : P b) : hide H P b = none := by unfold hide; exact if_pos h
theorem hide_out {H : Hp} {P : Addr → Prop} {b : Addr} (h : ¬ P b) : hide H P b = H b := by unfold hide; exact if_neg h
theorem hide_sub {H : Hp} {P : Addr → Prop} : Same (hide H P) H := fun b o e => by
  by_cases c : P b
  · rw [hide_in c] at e; cases e
  · rw [hide_out c] at e; exact e
theorem nown_of {K : PySem.W.Frag} {pn : List (Nat × Addr)} {G H : Hp} {σ : St} {ρ : Rho} (ok : EnvOk K pn G H σ ρ) {b : Addr} {o : HO} (h : G b = some o) : ¬ OwnAt σ ρ b := fun ⟨j, ds, h1, h2⟩ => by
  obtain ⟨p, vs, e, _, h3, _⟩ := ok.ol j ds h1
  rw [h2] at e; cases e
  rw [h] at h3; cases h3
theorem EnvOk.widen {K : PySem.W.Frag} {pn : List (Nat × Addr)} {G H : Hp} {σ : St} {ρ : Rho} (ok : EnvOk K pn G H σ ρ) : EnvOk K pn (hide H (OwnAt σ ρ)) H σ ρ ∧ Same G (hide H (OwnAt σ ρ)) := by
  have gs : Same G (hide H (OwnAt σ ρ)) := fun b o e => by rw [hide_out (nown_of ok e)]; exact ok.sub b o e
  refine ⟨⟨hide_sub, ok.len, fun i d h => ?_, fun i ds h => ?_, ok.inj, ok.pins⟩, gs⟩
  · obtain ⟨v, a, b⟩ := ok.dt i d h; exact ⟨v, a, b.mono gs⟩
  · obtain ⟨p, vs, a, b, c, d⟩ := ok.ol i ds h
    exact ⟨p, vs, a, b, hide_in ⟨i, ds, h, a⟩, d.mono gs⟩
/-- the state in which the object is data -/
theorem view_in {K : PySem.W.Frag} {C : Addr} {i : Nat} {r : RA} {R : RS} {G H : Hp} {σ : St} {ρ : Rho} (ok : EnvOk K [(i, r.a)] G H σ ρ) (rel : RelAt K C G H r R) (n : ∀ b, r.O b → ¬ OwnAt σ ρ b) (un : ρ[i]? = some .un) :
    EnvOk K [(i, r.a)] (hide H (OwnAt σ ρ)) H σ (ρ.set i (.dt (relD C R))) ∧ ∀ a, OwnAt σ (ρ.set i (.dt (relD C R))) a → OwnAt σ ρ a := by
  obtain ⟨ok2, gs⟩ := EnvOk.widen ok
  have hv : σ[i]? = some (some (.ref r.a)) := ok.pins (i, r.a) (by simp)
  obtain ⟨kvs, e, d⟩ := rel.h1
  have at_ : ∀ {b : Addr} {o : HO}, r.O b → H b = some o → hide H (OwnAt σ ρ) b = some o := fun ob h => by rw [hide_out (n _ ob)]; exact h
  have hd : Dt K (hide H (OwnAt σ ρ)) (.ref r.a) (relD C R) :=
    .ins (at_ r.Oa rel.ia) (at_ r.Ox rel.id) (.cons (.dic (.inl (at_ r.O1 e)) (DtK.mono gs d)) (.cons (.dic (.inl (at_ r.O2 rel.h2)) (numV_dt _)) (.cons (.lst (SqL.of (at_ r.Ol rel.hl)) (ints_dt _)) .nil)))
  exact EnvOk.putDt ok2 un hv hd
theorem view_out {K : PySem.W.Frag} {C : Addr} {i : Nat} {r : RA} {R : RS} {G H Gv G' H' : Hp} {σ σ' : St} {ρ ρ' : Rho} {Ov : Addr → Prop} (hs : Same G H) (rel : RelAt K C G H r R) (n : ∀ b, r.O b → ¬ OwnAt σ ρ b) (no : ∀ b, OwnAt σ ρ b → G b = none) (hO : ∀ a, Ov a → OwnAt σ ρ a)
    (ok' : EnvOk K [(i, r.a)] G' H' σ' ρ') (x : Ext Gv H Ov G' H' (OwnAt σ' ρ')) (at_ : ∀ s ∈ ρ'.set i .un, atomS s = true) :
    EnvOk K [(i, r.a)] G H' σ' (ρ'.set i .un) ∧ RelAt K C G H' r R ∧ (∀ b, r.O b → ¬ OwnAt σ' ρ' b) ∧ Ext G H (fun b => OwnAt σ ρ b ∨ r.O b) G H' (fun b => OwnAt σ' (ρ'.set i .un) b ∨ r.O b) := by
  obtain ⟨ok2, sub2⟩ := EnvOk.unSlot ok' i
  have keep : ∀ b o, H b = some o → ¬ OwnAt σ ρ b → H' b = some o := fun b o e q => x.keep b o e fun z => q (hO b z)
  have sub : Same G H' := fun b o e => keep b o (hs b o e) fun z => by rw [no b z] at e; cases e
  have own : ∀ b, OwnAt σ' ρ' b → OwnAt σ ρ b ∨ H b = none := fun b z => (x.own b z).imp (hO b) id
  obtain ⟨kvs, e, d⟩ := rel.h1
  have nn : ∀ b, r.O b → ¬ OwnAt σ' ρ' b := fun b o z => (own b z).elim (n b o) (rel.some_ o)
  refine ⟨EnvOk.atoms ok2 at_ sub fun b z => ?_, ⟨keep _ _ rel.ia (n _ r.Oa), keep _ _ rel.id (n _ r.Ox), ⟨kvs, keep _ _ e (n _ r.O1), d⟩, keep _ _ rel.h2 (n _ r.O2), keep _ _ rel.hl (n _ r.Ol), rel.no, rel.ne⟩, nn, Same.refl _, fun _ h => .inl h, fun b o e q => keep b o e fun z => q (.inl z), fun b z => ?_⟩
  · rcases own b (sub2 b z) with h | h
    · exact no b h
    · exact Same.free hs h
  · rcases z with z | z
    · rcases own b (sub2 b z) with h | h
      · exact .inl (.inl h)
      · exact .inr h
    · exact .inl (.inr z)
end
theorem own_no {K : PySem.W.Frag} {pn : List (Nat × Addr)} {G H : Hp} {σ : St} {ρ : Rho} (ok : EnvOk K pn G H σ ρ) : ∀ b, OwnAt σ ρ b → G b = none := fun b ⟨j, ds, h1, h2⟩ => by
  obtain ⟨p, vs, e, _, h3, _⟩ := ok.ol j ds h1
  rw [h2] at e; cases e; exact h3
section
variable {X : Cx} {C : Addr} {i : Nat} {pos : Pos}
theorem psr_view {st : Stmt} {f : MS} (h : ∀ pn, (∀ q ∈ pn, q.1 ∈ [i]) → PS X st (tS X.K pn E00 f)) : PS X st (tR X.K C i (viewR C i f)) := ⟨fun pins s σ H D I ⟨G, ρ, r, R, ok, rel, n, un, p⟩ => by
  obtain ⟨okv, hO⟩ := view_in ok rel n un
  refine (h [(i, r.a)] (fun q hq => by simp at hq; simp [hq])).run pins s σ H D I ⟨_, _, okv, ?_⟩
  unfold viewR at p
  cases e : f (ρ.set i (.dt (relD C R))) with
  | none => rw [e] at p; exact p
  | some x =>
    rw [e] at p
    cases x with
    | nx ρ' =>
      intro σ' G' H' ok' x'
      simp only at p
      split at p
      · rename_i z
        obtain ⟨a, b, c, d⟩ := view_out ok.sub rel n (own_no ok) hO ok' x' (List.all_eq_true.mp z)
        exact p σ' G H' a b (fun b o q => c b o ((EnvOk.unSlot ok' i).2 b q)) d
      · exact p.elim
    | rt s ρ' =>
      intro v σ' G' H' ok' x'
      simp only at p
      split at p
      · rename_i z
        obtain ⟨z0, z1, z2⟩ := z
        have es : (ρ' ++ [s]).set i .un = ρ'.set i .un ++ [s] := List.set_append_left _ _ z0
        obtain ⟨a, b, c, d⟩ := view_out ok.sub rel n (own_no ok) hO ok' x' (fun t ht => by
          rw [es] at ht
          rcases List.mem_append.mp ht with h | h
          · exact List.all_eq_true.mp z2 t h
          · simp at h; rw [h]; exact z1)
        rw [es] at a d
        refine p v σ' G H' a b (fun b o q => c b o ?_) d
        have := (EnvOk.unSlot ok' i).2 b
        rw [es] at this
        exact this q
      · exact p.elim
    | bk _ => exact p.elim
    | ct _ => exact p.elim
    | exc _ _ => exact p.elim⟩
end
end BK

namespace BK
open PySem L2 BT

/-! ### expressions and tests that may change the object -/
section
variable (K : PySem.W.Frag) (C : Addr) (i : Nat) (r : RA) (σ : St)
def PostER (G0 H0 : Hp) (O0 : Addr → Prop) (res : Option (Sl × Rho × RS)) (Q : VK) : Prop := match res with
  | some (s, ρ', R') => ∀ v G' H', EnvOk K [(i, r.a)] G' H' (σ ++ [some v]) (ρ' ++ [s]) → RelAt K C G' H' r R' → (∀ b, r.O b → ¬ OwnAt (σ ++ [some v]) (ρ' ++ [s]) b) → Ext G0 H0 O0 G' H' (fun b => OwnAt (σ ++ [some v]) (ρ' ++ [s]) b ∨ r.O b) → Q v H'
  | none => False
def PostTR (G0 H0 : Hp) (O0 : Addr → Prop) (res : Option (Bool × Rho × RS)) (Q : Bool → Hp → Prop) : Prop := match res with
  | some (s, ρ', R') => ∀ G' H', EnvOk K [(i, r.a)] G' H' σ ρ' → RelAt K C G' H' r R' → (∀ b, r.O b → ¬ OwnAt σ ρ' b) → Ext G0 H0 O0 G' H' (fun b => OwnAt σ ρ' b ∨ r.O b) → Q s H'
  | none => False
def PostIR (G0 H0 : Hp) (O0 : Addr → Prop) (res : Option (List D × Rho × RS)) (Q : It → Hp → Prop) : Prop := match res with
  | some (ds, ρ', R') => ∀ J G' H', EnvOk K [(i, r.a)] G' H' σ ρ' → RelAt K C G' H' r R' → (∀ b, r.O b → ¬ OwnAt σ ρ' b) → Ext G0 H0 O0 G' H' (fun b => OwnAt σ ρ' b ∨ r.O b) → Yields K J G' ds → Q J H'
  | none => False
end
abbrev ER (α : Type) := RS → Rho → Option (α × Rho × RS)
section
variable (K : PySem.W.Frag) (C : Addr) (i : Nat)
def tER (f : ER Sl) : TE := fun σ H Q => ∃ G ρ r R, EnvOk K [(i, r.a)] G H σ ρ ∧ RelAt K C G H r R ∧ (∀ b, r.O b → ¬ OwnAt σ ρ b) ∧ ρ[i]? = some .un ∧ PostER K C i r σ G H (fun b => OwnAt σ ρ b ∨ r.O b) (f R ρ) Q
def tTR (f : ER Bool) : TT := fun σ H Q => ∃ G ρ r R, EnvOk K [(i, r.a)] G H σ ρ ∧ RelAt K C G H r R ∧ (∀ b, r.O b → ¬ OwnAt σ ρ b) ∧ ρ[i]? = some .un ∧ PostTR K C i r σ G H (fun b => OwnAt σ ρ b ∨ r.O b) (f R ρ) Q
def tIR (f : ER (List D)) : TI := fun σ H Q => ∃ G ρ r R, EnvOk K [(i, r.a)] G H σ ρ ∧ RelAt K C G H r R ∧ (∀ b, r.O b → ¬ OwnAt σ ρ b) ∧ ρ[i]? = some .un ∧ PostIR K C i r σ G H (fun b => OwnAt σ ρ b ∨ r.O b) (f R ρ) Q
end
theorem PostER.mono {K : PySem.W.Frag} {C : Addr} {i : Nat} {r : RA} {σ : St} {G0 H0 : Hp} {O0 : Addr → Prop} {res : Option (Sl × Rho × RS)} {Q Q' : VK} (h : PostER K C i r σ G0 H0 O0 res Q) (q : ∀ v H, Q v H → Q' v H) : PostER K C i r σ G0 H0 O0 res Q' := by
  unfold PostER at h ⊢
  split at h
  · exact fun v G' H' a b c d => q _ _ (h v G' H' a b c d)
  · exact h
theorem PostTR.mono {K : PySem.W.Frag} {C : Addr} {i : Nat} {r : RA} {σ : St} {G0 H0 : Hp} {O0 : Addr → Prop} {res : Option (Bool × Rho × RS)} {Q Q' : Bool → Hp → Prop} (h : PostTR K C i r σ G0 H0 O0 res Q) (q : ∀ v H, Q v H → Q' v H) : PostTR K C i r σ G0 H0 O0 res Q' := by
  unfold PostTR at h ⊢
  split at h
  · exact fun G' H' a b c d => q _ _ (h G' H' a b c d)
  · exact h
/-- a method's contract: the object's state and the arguments give a value and a new state -/
abbrev FR := RS → List D → Option (D × RS)
def SpR (K : PySem.W.Frag) (C : Addr) (F : FR) : Sp := fun vs H Q _ => ∃ G r R ds ws, vs = .ref r.a :: ws ∧ Same G H ∧ RelAt K C G H r R ∧ DtL K G ws ds ∧
  match F R ds with
  | some (d, R') => ∀ v G' H', Same G' H' → RelAt K C G' H' r R' → Dt K G' v d → Ext G H r.O G' H' r.O → Q v H'
  | none => False
def methR (F : FR) (fs : M (List D)) : ER Sl := fun R ρ => match fs ρ with
  | some (.val ds ρ') => (match F R ds with | some (d, R') => some (.dt d, ρ', R') | none => none)
  | _ => none
section
variable {X : Cx} {C : Addr} {i : Nat} {pos : Pos}
theorem relF_no {r : RA} {m : Str} (h : (m == "together") = false ∧ (m == "numbers") = false ∧ (m == "later") = false) : r.fs.lookup m = none := by
  unfold RA.fs
  simp [List.lookup_cons, h.1, h.2.1, h.2.2]
theorem per_meth {F : FR} {m : Str} {k : Nat} {f : Addr} {fd : FuncData} {ps : List Str} {apos : Pos} {o e : Expr} {es : List Expr} {fs : M (List D)} (ho : PE X o (tVar i)) (c : Cls X.K C) (hm : Meth X.K C m f)
    (G : FnOk X.prog X.w X.K X.mg X.base CX0 k f fd ps (SpR X.K C F)) (hr : Room k X.A) (hb : Binds X.K fd ps []) (ha : ∀ pn, (∀ q ∈ pn, q.1 ∈ [i]) → PA X (e :: es) (tA X.K pn E00 fs)) (hn : (m == "together") = false ∧ (m == "numbers") = false ∧ (m == "later") = false)
    (h : ∀ {T : TE} {U : TA}, PE X o T → PA X (e :: es) U → PE X (.Call (.Attribute o m apos) (e :: es) [] pos) (tMeth C m (SpR X.K C F) [] E0 T U)) :
    PE X (.Call (.Attribute o m apos) (e :: es) [] pos) (tER X.K C i (methR F fs)) := ⟨fun pins s σ H Q I ⟨G, ρ, r, R, ok, rel, n, un, p⟩ => by
  refine (h ho (ha [(i, r.a)] fun q hq => by simp at hq; simp [hq])).run pins s σ H Q I ⟨_, ok.pins (i, r.a) (by simp), r.a, r.dx, r.fs, rfl, rel.ia, relF_no hn, G, ρ, ok, ?_⟩
  unfold methR at p
  cases ef : fs ρ with
  | none => rw [ef] at p; exact p
  | some x =>
    rw [ef] at p
    cases x with
    | exc _ _ => exact p.elim
    | val ds ρ' =>
      intro vs G1 H1 ok1 x1 d1
      simp only at p
      cases eF : F R ds with
      | none => rw [eF] at p; exact p.elim
      | some y =>
        obtain ⟨d, R'⟩ := y
        rw [eF] at p
        obtain ⟨rel1, n1⟩ := rel.ext x1 n
        rw [List.append_nil]
        refine ⟨G1, r, R, ds, vs, rfl, ok1.sub, rel1, d1, ?_⟩
        rw [eF]
        intro v G2 H2 sub2 rel2 d2 x2
        have ok2 : EnvOk X.K [(i, r.a)] G2 H2 σ ρ' := by
          refine ⟨sub2, ok1.len, fun j d h => ?_, fun j ds h => ?_, ok1.inj, ok1.pins⟩
          · obtain ⟨v, a, b⟩ := ok1.dt j d h; exact ⟨v, a, b.mono x2.grow⟩
          · obtain ⟨q, ws, a, b, c, d⟩ := ok1.ol j ds h
            have nq : ¬ r.O q := fun o => n1 q o ⟨j, ds, h, a⟩
            refine ⟨q, ws, a, x2.keep _ _ b nq, ?_, d.mono x2.grow⟩
            cases eg : G2 q with
            | none => rfl
            | some u =>
              rcases x2.fresh q (by rw [eg]; simp) with z | z | z
              · exact absurd c z
              · rw [b] at z; cases z
              · exact absurd z nq
        refine p v G2 H2 (ok2.push_dt d2) rel2 (fun b o z => n1 b o (own_push_dt ok2.len z)) ⟨x1.grow.trans x2.grow, fun b hb => ?_, fun b o e q => ?_, fun b z => ?_⟩
        · have w := (x1.wide (P := r.O)).trans (⟨x2.grow, fun b h => (x2.fresh b h).elim .inl fun h => h.elim (fun h => .inr (.inl h)) fun h => .inr (.inr (.inr h)), fun b o e q => x2.keep b o e fun z => q (.inr z), fun b z => z.elim (fun z => .inl (.inl z)) fun z => .inl (.inr z)⟩ : Ext G1 H1 (fun b => OwnAt σ ρ' b ∨ r.O b) G2 H2 (fun b => OwnAt σ ρ' b ∨ r.O b))
          exact w.fresh b hb
        · have w := (x1.wide (P := r.O)).trans (⟨x2.grow, fun b h => (x2.fresh b h).elim .inl fun h => h.elim (fun h => .inr (.inl h)) fun h => .inr (.inr (.inr h)), fun b o e q => x2.keep b o e fun z => q (.inr z), fun b z => z.elim (fun z => .inl (.inl z)) fun z => .inl (.inr z)⟩ : Ext G1 H1 (fun b => OwnAt σ ρ' b ∨ r.O b) G2 H2 (fun b => OwnAt σ ρ' b ∨ r.O b))
          exact w.keep b o e q
        · rcases z with z | z
          · exact ((x1.wide (P := r.O)).own b (.inl (own_push_dt ok2.len z)))
          · exact .inl (.inr z)⟩
def dropR (f : ER Sl) : MR := fun R ρ => match f R ρ with | some (_, ρ', R') => some (.nx ρ', R') | none => none
theorem psr_expr {e : Expr} {f : ER Sl} (he : PE X e (tER X.K C i f)) (hs : swapsWith e none pos.line X.env = pure false := by rfl) : PS X (.Expr e pos) (tR X.K C i (dropR f)) :=
  (ps_expr he hs).imp fun D σ H ⟨G, ρ, r, R, ok, rel, n, un, p⟩ => ⟨G, ρ, r, R, ok, rel, n, un, by
    unfold dropR at p
    cases e : f R ρ with
    | none => rw [e] at p; exact p
    | some x =>
      obtain ⟨s, ρ', R'⟩ := x
      rw [e] at p
      intro v G' H' a b c d
      have a2 := a.pop (ok.pinLt)
      exact p σ G' H' a2 b (fun q o z => c q o (own_up a2.len z)) ⟨d.grow, d.fresh, d.keep, fun q z => d.own q (z.elim (fun z => .inl (own_up a2.len z)) .inr)⟩⟩
def retR (f : ER Sl) : MR := fun R ρ => match f R ρ with | some (s, ρ', R') => some (.rt s ρ', R') | none => none
theorem psr_ret {e : Expr} {f : ER Sl} (he : PE X e (tER X.K C i f)) : PS X (.Return (some e) pos) (tR X.K C i (retR f)) :=
  (ps_ret he).imp fun D σ H ⟨G, ρ, r, R, ok, rel, n, un, p⟩ => ⟨G, ρ, r, R, ok, rel, n, un, by
    unfold retR at p
    cases e : f R ρ with
    | none => rw [e] at p; exact p
    | some x =>
      obtain ⟨s, ρ', R'⟩ := x
      rw [e] at p
      exact fun v G' H' a b c d => p v σ G' H' a b c d⟩
def toBR (f : ER Sl) : ER Bool := fun R ρ => match f R ρ with | some (.dt (.bl b), ρ', R') => some (b, ρ', R') | _ => none
theorem ptr_x {a : Expr} {f : ER Sl} (h : PE X a (tER X.K C i f)) (he : ∀ whole, isTrue a X.env whole = (do let v ← whole; standAt a.pos; holding [v] (truthy v)) := by intro _; rfl) : PT X a (tTR X.K C i (toBR f)) :=
  (pt_val h he).imp fun σ H Q ⟨G, ρ, r, R, ok, rel, n, un, p⟩ => ⟨G, ρ, r, R, ok, rel, n, un, by
    unfold toBR at p
    cases e : f R ρ with
    | none => rw [e] at p; exact p
    | some x =>
      obtain ⟨s, ρ', R'⟩ := x
      rw [e] at p
      intro v G' H' a b c d
      cases s with
      | dt y =>
        cases y with
        | bl k =>
          have a2 := a.pop (ok.pinLt)
          obtain ⟨w, e1, e2⟩ := a.dt ρ'.length (.bl k) get_append_eq
          rw [← a2.len, get_append_eq] at e1; cases e1
          cases e2
          exact ⟨k, rfl, p G' H' a2 b (fun q o z => c q o (own_up a2.len z)) ⟨d.grow, d.fresh, d.keep, fun q z => d.own q (z.elim (fun z => .inl (own_up a2.len z)) .inr)⟩⟩
        | _ => exact p.elim
      | _ => exact p.elim⟩
def notR (f : ER Bool) : ER Bool := fun R ρ => match f R ρ with | some (b, x) => some (!b, x) | none => none
theorem ptr_not {a : Expr} {f : ER Bool} (h : PT X a (tTR X.K C i f)) : PT X (.UnaryOp .Not a pos) (tTR X.K C i (notR f)) :=
  (pt_not h).imp fun σ H Q ⟨G, ρ, r, R, ok, rel, n, un, p⟩ => ⟨G, ρ, r, R, ok, rel, n, un, by
    unfold notR at p
    cases e : f R ρ with
    | none => rw [e] at p; exact p
    | some x =>
      obtain ⟨s, ρ', R'⟩ := x
      rw [e] at p
      exact fun G' H' a b c d => p G' H' a b c d⟩
def ifR (i : Nat) (t : ER Bool) (f g : MR) : MR := fun R ρ => match t R ρ with
  | some (b, ρ', R') => if unAt i ρ' = true then (if b = true then f R' ρ' else g R' ρ') else none
  | none => none
theorem psr_if {c : Expr} {a b : List Stmt} {t : ER Bool} {f g : MR} (hc : PT X c (tTR X.K C i t)) (ha : PSs X a (tR X.K C i f)) (hb : PSs X b (tR X.K C i g)) : PS X (.If c a b pos) (tR X.K C i (ifR i t f g)) :=
  (ps_if hc ha hb).imp fun D σ H ⟨G, ρ, r, R, ok, rel, n, un, p⟩ => ⟨G, ρ, r, R, ok, rel, n, un, by
    unfold ifR at p
    cases e : t R ρ with
    | none => rw [e] at p; exact p
    | some x =>
      obtain ⟨s, ρ', R'⟩ := x
      rw [e] at p
      intro G' H' a b c d
      simp only at p
      split at p
      · rename_i z
        cases s with
        | true => exact ⟨G', ρ', r, R', a, b, c, unAt_iff.mp z, p.at d⟩
        | false => exact ⟨G', ρ', r, R', a, b, c, unAt_iff.mp z, p.at d⟩
      · exact p.elim⟩
/-- a test that reads the object as data -/
def viewT (C : Addr) (i : Nat) (f : M Bool) : ER Bool := fun R ρ => match f (ρ.set i (.dt (relD C R))) with
  | some (.val b ρ') => if (ρ'.set i .un).all atomS = true then some (b, ρ'.set i .un, R) else none
  | _ => none
theorem ptr_view {a : Expr} {f : M Bool} (h : ∀ pn, (∀ q ∈ pn, q.1 ∈ [i]) → PT X a (tT X.K pn E00 f)) : PT X a (tTR X.K C i (viewT C i f)) := ⟨fun pins s σ H Q I ⟨G, ρ, r, R, ok, rel, n, un, p⟩ => by
  obtain ⟨okv, hO⟩ := view_in ok rel n un
  refine (h [(i, r.a)] (fun q hq => by simp at hq; simp [hq])).run pins s σ H Q I ⟨_, _, okv, ?_⟩
  unfold viewT at p
  cases e : f (ρ.set i (.dt (relD C R))) with
  | none => rw [e] at p; exact p
  | some x =>
    rw [e] at p
    cases x with
    | exc _ _ => exact p.elim
    | val bb ρ' =>
      intro G' H' ok' x'
      simp only at p
      split at p
      · rename_i z
        obtain ⟨a, b, c, d⟩ := view_out ok.sub rel n (own_no ok) hO ok' x' (List.all_eq_true.mp z)
        exact p G H' a b (fun b o q => c b o ((EnvOk.unSlot ok' i).2 b q)) d
      · exact p.elim⟩
/-- an expression that reads the object as data and gives an atom (or a list of atoms) -/
def viewE (C : Addr) (i : Nat) (f : M Sl) : ER Sl := fun R ρ => match f (ρ.set i (.dt (relD C R))) with
  | some (.val s ρ') => if i < ρ'.length ∧ atomS s = true ∧ (ρ'.set i .un).all atomS = true then some (s, ρ'.set i .un, R) else none
  | _ => none
theorem per_view {a : Expr} {f : M Sl} (h : ∀ pn, (∀ q ∈ pn, q.1 ∈ [i]) → PE X a (tE X.K pn E00 f)) : PE X a (tER X.K C i (viewE C i f)) := ⟨fun pins s σ H Q I ⟨G, ρ, r, R, ok, rel, n, un, p⟩ => by
  obtain ⟨okv, hO⟩ := view_in ok rel n un
  refine (h [(i, r.a)] (fun q hq => by simp at hq; simp [hq])).run pins s σ H Q I ⟨_, _, okv, ?_⟩
  unfold viewE at p
  cases e : f (ρ.set i (.dt (relD C R))) with
  | none => rw [e] at p; exact p
  | some x =>
    rw [e] at p
    cases x with
    | exc _ _ => exact p.elim
    | val s ρ' =>
      intro v G' H' ok' x'
      simp only at p
      split at p
      · rename_i z
        obtain ⟨z0, z1, z2⟩ := z
        have es : (ρ' ++ [s]).set i .un = ρ'.set i .un ++ [s] := List.set_append_left _ _ z0
        obtain ⟨a, b, c, d⟩ := view_out ok.sub rel n (own_no ok) hO ok' x' (fun t ht => by
          rw [es] at ht
          rcases List.mem_append.mp ht with h | h
          · exact List.all_eq_true.mp z2 t h
          · simp at h; rw [h]; exact z1)
        rw [es] at a d
        refine p v G H' a b (fun b o q => c b o ?_) d
        have := (EnvOk.unSlot ok' i).2 b
        rw [es] at this
        exact this q
      · exact p.elim⟩
end
end BK

namespace BK
open PySem L2 BT

/-! ### loops with the object aside -/
theorem lkT (r : RA) : r.fs.lookup ("together" : Str) = some (.ref r.d1) := by simp [RA.fs, List.lookup_cons]
theorem lkN (r : RA) : r.fs.lookup ("numbers" : Str) = some (.ref r.d2) := by
  have h1 : ((Str.ofString "numbers") == (Str.ofString "together")) = false := by decide +kernel
  simp [RA.fs, List.lookup_cons, h1]
theorem lkL (r : RA) : r.fs.lookup ("later" : Str) = some (.ref r.l) := by
  have h1 : ((Str.ofString "later") == (Str.ofString "together")) = false := by decide +kernel
  have h2 : ((Str.ofString "later") == (Str.ofString "numbers")) = false := by decide +kernel
  simp [RA.fs, List.lookup_cons, h1, h2]
def loopR (i : Nat) (b : D → Rho → Option Rho) (body : MR) : List D → MR
  | [] => nxR
  | d :: ds => fun R ρ => match b d ρ with
    | none => none
    | some ρ1 => if unAt i ρ1 = true then (match body R ρ1 with
      | some (.nx ρ2, R2) => if unAt i ρ2 = true then loopR i b body ds R2 ρ2 else none
      | some (.rt s ρ2, R2) => some (.rt s ρ2, R2)
      | _ => none) else none
def forR (i : Nat) (src : ER (List D)) (b : D → Rho → Option Rho) (body : MR) : MR := fun R ρ => match src R ρ with
  | some (ds, ρ', R') => if unAt i ρ' = true then loopR i b body ds R' ρ' else none
  | none => none
section
variable {X : Cx} {C : Addr} {i : Nat} {pos : Pos}
theorem psr_for {tg iter : Expr} {body : List Stmt} {src : ER (List D)} {g : TG} {b : D → Rho → Option Rho} {bs : List Nat} {f : MR} (hp : PassesOwn (model X.prog X.w) X.A X.env X.xe) (hc : X.calm = true) (hi : PI X tg iter (tIR X.K C i src)) (hg : PG X tg g) (hb : ∀ pn, (∀ q ∈ pn, q.1 ∈ [i]) → GB X.K pn g b bs) (hbody : PSs X body (tR X.K C i f))
    (hs : ∀ x, foldedSetIterable iter X.env x = pure x := by intro _; rfl) : PS X (.For tg iter body [] pos) (tR X.K C i (forR i src b f)) :=
  (ps_for hp hc hi hg hbody hs).imp fun D σ H ⟨G, ρ, r, R, ok, rel, n, un, p⟩ => ⟨G, ρ, r, R, ok, rel, n, un, by
    unfold forR at p
    cases e : src R ρ with
    | none => rw [e] at p; exact p
    | some x =>
      obtain ⟨ds, ρ0, R0⟩ := x
      rw [e] at p
      intro J G1 H1 ok1 rel1 n1 x1 y1
      simp only at p
      split at p
      rotate_left
      · exact p.elim
      rename_i un1
      have p := p.at x1
      refine ⟨fun k m σ H => m = ds.length - k ∧ k ≤ ds.length ∧ ∃ G ρ R, EnvOk X.K [(i, r.a)] G H σ ρ ∧ RelAt X.K C G H r R ∧ (∀ b, r.O b → ¬ OwnAt σ ρ b) ∧ unAt i ρ = true ∧ Yields X.K J G ds ∧ PostR X.K C i r G H (fun b => OwnAt σ ρ b ∨ r.O b) (loopR i b f (ds.drop k) R ρ) D,
        ⟨ds.length, rfl, Nat.zero_le _, G1, ρ0, R0, ok1, rel1, n1, un1, y1, p⟩, ?_⟩
      rintro k m σ H ⟨rfl, hk, G, ρ, R, ok, rel, n, un, y, p⟩
      by_cases hlt : k < ds.length
      · have ed : ds[k]? = some ds[k] := List.getElem?_eq_getElem hlt
        rw [List.drop_eq_getElem_cons hlt] at p
        refine .inr ⟨y.go k _ H ok.sub ed, fun σ' H' => ∃ G ρ R, EnvOk X.K [(i, r.a)] G H' σ' ρ ∧ RelAt X.K C G H' r R ∧ (∀ b, r.O b → ¬ OwnAt σ' ρ b) ∧ unAt i ρ = true ∧ Yields X.K J G ds ∧ PostR X.K C i r G H' (fun b => OwnAt σ' ρ b ∨ r.O b) (loopR i b f (ds.drop (k + 1)) R ρ) D,
          fun σ' H' ⟨G', ρ', R', a1, a2, a3, a4, a5, a6⟩ => ⟨ds.length - (k + 1), by omega, rfl, hlt, G', ρ', R', a1, a2, a3, a4, a5, a6⟩, fun v H' q => ?_⟩
        obtain ⟨G2, ok2, d2, x2⟩ := y.item ok ed q
        obtain ⟨rel2, n2⟩ := rel.ext x2 n
        refine (hb [(i, r.a)] (fun q hq => by simp at hq; simp [hq])) v _ σ G2 H' ρ _ ok2 d2 ?_
        simp only [loopR] at p
        cases eb : b ds[k] ρ with
        | none => rw [eb] at p; exact p
        | some ρ3 =>
          rw [eb] at p
          intro σ3 hl ok3 sub3
          simp only at p
          split at p
          rotate_left
          · exact p.elim
          rename_i un3
          have x3 : Ext G H (OwnAt σ ρ) G2 H' (OwnAt σ3 ρ3) := x2.sub sub3
          have p' := p.at (x3.wide (P := r.O))
          have y2 := y.mono x2.grow
          refine ⟨G2, ρ3, r, R, ok3, rel2, fun b o z => n2 b o (sub3 b z), unAt_iff.mp un3, ?_⟩
          cases ef : f R ρ3 with
          | none => rw [ef] at p'; exact p'
          | some z =>
            obtain ⟨z, R4⟩ := z
            rw [ef] at p'
            cases z with
            | nx ρ4 =>
              intro σ' G' H'' a b c d
              simp only at p'
              split at p'
              · rename_i un4
                exact ⟨G', ρ4, R4, a, b, c, un4, y2.mono d.grow, p'.at d⟩
              · exact p'.elim
            | rt s ρ4 => exact p'
            | ct _ => exact p'.elim
            | bk _ => exact p'.elim
            | exc _ _ => exact p'.elim
      · have e : k = ds.length := by omega
        subst e
        rw [List.drop_length] at p
        exact .inl ⟨y.stop H ok.sub, p σ G H ok rel n Ext.refl⟩⟩
def frmI (f : M (List D)) : ER (List D) := fun R ρ => match f ρ with | some (.val ds ρ') => some (ds, ρ', R) | _ => none
theorem pir_frame {tg e : Expr} {f : M (List D)} (h : ∀ pn, (∀ q ∈ pn, q.1 ∈ [i]) → PI X tg e (tI X.K pn E00 f)) : PI X tg e (tIR X.K C i (frmI f)) := ⟨fun pins s σ H Q I ⟨G, ρ, r, R, ok, rel, n, un, p⟩ => by
  refine (h [(i, r.a)] (fun q hq => by simp at hq; simp [hq])).run pins s σ H Q I ⟨G, ρ, ok, ?_⟩
  unfold frmI at p
  cases e : f ρ with
  | none => rw [e] at p; exact p
  | some x =>
    rw [e] at p
    cases x with
    | exc _ _ => exact p.elim
    | val ds ρ' =>
      intro J G' H' ok' x' y'
      obtain ⟨rel', n'⟩ := rel.ext x' n
      exact p J G' H' ok' rel' n' x'.wide y'⟩
def enumLater : ER (List D) := fun R ρ => some (enumL (R.later.map .int), ρ, R)
theorem pir_enumLater {o : Expr} {p1 p2 p3 pos tpos : Pos} {elts : List Expr} {kk : Nat} (ho : PE X o (tVar i)) (c : Cls X.K C) (nl : NoAttr X.K C "later") (hm : X.mg "enumerate" = none) (hml : X.mg "list" = none) (hg : Gl X "enumerate" := by rfl) (hgl : Gl X "list" := by rfl)
    (hb : attributeBase o "later" X.env (eval o X.env) = eval o X.env := by rfl) (hs : starEach [Expr.Call (.Name "list" p2) [.Attribute o "later" p3] [] pos] X.env = [(false, eval (Expr.Call (.Name "list" p2) [.Attribute o "later" p3] [] pos) X.env)] := by rfl)
    (hs1 : starEach [Expr.Attribute o "later" p3] X.env = (false, eval (Expr.Attribute o "later" p3) X.env) :: starEach [] X.env := by rfl) (hpl : (backTo pos (starEach [] X.env)).any (·.1) = false := by rfl) {pos2 : Pos} :
    PI X (.Tuple elts kk tpos) (.Call (.Name "enumerate" p1) [Expr.Call (.Name "list" p2) [.Attribute o "later" p3] [] pos] [] pos2) (tIR X.K C i enumLater) :=
  BT.PI.imp (pi_enum hg hm (pa_cons (pe_callTy (T := "list") call_list_of hgl hml (by decide +kernel) (pa_cons (pe_fld ho hb) pa_nil hs1) (by decide) (by decide) hs1 hpl) pa_nil hs) hs) fun σ H Q ⟨G, ρ, r, R, ok, rel, n, un, p⟩ => by
    refine ⟨_, ok.pins (i, r.a) (by simp), r.a, C, r.dx, r.fs, .ref r.l, rfl, rel.ia, c, nl, lkL r, r.l, R.later.map V.int, rfl, .inl (SqL.of rel.hl), fun l hl => ⟨l, R.later.map V.int, rfl, SqL.of upd_same, ?_⟩⟩
    obtain ⟨rel', n'⟩ := rel.ext (Ext.alloc (O := OwnAt σ ρ) (o := .lst (R.later.map V.int)) ok.sub hl) n
    exact p _ _ _ (ok.alloc hl) rel' n' (Ext.alloc ok.sub hl).wide (yields_enum (SqL.of upd_same) (ints_dt _))

/-! ### self.later[k] = e -/
def putLR (i : Nat) (k v : ER Sl) : MR := fun R ρ => match v R ρ with
  | some (.dt (.int z), ρ1, R1) => if unAt i ρ1 = true then (match k R1 ρ1 with
    | some (.dt (.int j), ρ2, R2) => (match ixN R2.later.length j with | some m => some (.nx ρ2, { R2 with later := R2.later.set m z }) | none => none)
    | _ => none) else none
  | _ => none
theorem RelAt.putLater {K : PySem.W.Frag} {G H : Hp} {r : RA} {R : RS} (rel : RelAt K C G H r R) (hs : Same G H) (xs : List Int) : RelAt K C G (upd H r.l (.lst (xs.map V.int))) r { R with later := xs } ∧ Same G (upd H r.l (.lst (xs.map V.int))) := by
  obtain ⟨kvs, e, d⟩ := rel.h1
  have na : r.a ≠ r.l := ne_of rel.ia rel.hl (fun z => by cases z)
  have nx : r.dx ≠ r.l := ne_of rel.id rel.hl (fun z => by cases z)
  have n1 : r.d1 ≠ r.l := ne_of e rel.hl (fun z => by cases z)
  have n2 : r.d2 ≠ r.l := ne_of rel.h2 rel.hl (fun z => by cases z)
  exact ⟨⟨by rw [upd_ne na]; exact rel.ia, by rw [upd_ne nx]; exact rel.id, ⟨kvs, by rw [upd_ne n1]; exact e, d⟩, by rw [upd_ne n2]; exact rel.h2, upd_same, rel.no, rel.ne⟩, fun b o z => by rw [upd_ne (ne_of_none z (rel.no _ r.Ol))]; exact hs b o z⟩
theorem Ext.at_ {G H : Hp} {O : Addr → Prop} {a : Addr} {o : HO} (h : O a) : Ext G H O G (upd H a o) O :=
  ⟨Same.refl _, fun _ h => .inl h, fun b u e q => by rw [upd_ne (fun z => q (by rw [z]; exact h))]; exact e, fun _ h => .inl h⟩
theorem EnvOk.at_ {K : PySem.W.Frag} {pn : List (Nat × Addr)} {G H : Hp} {σ : St} {ρ : Rho} {a : Addr} {o : HO} (ok : EnvOk K pn G H σ ρ) (hg : G a = none) (hn : ¬ OwnAt σ ρ a) : EnvOk K pn G (upd H a o) σ ρ := ok.touch hg hn
theorem PostER.atom {K : PySem.W.Frag} {i : Nat} {r : RA} {G G1 H H1 : Hp} {σ : St} {ρ1 : Rho} {v : V} {d : D} {P : Addr → Prop} (ok1 : EnvOk K [(i, r.a)] G1 H1 (σ ++ [some v]) (ρ1 ++ [.dt d])) (hl : ∀ q ∈ [(i, r.a)], q.1 < σ.length)
    (n1 : ∀ b, r.O b → ¬ OwnAt (σ ++ [some v]) (ρ1 ++ [.dt d]) b) (x1 : Ext G H P G1 H1 (fun b => OwnAt (σ ++ [some v]) (ρ1 ++ [.dt d]) b ∨ r.O b)) :
    EnvOk K [(i, r.a)] G1 H1 σ ρ1 ∧ Dt K G1 v d ∧ (∀ b, r.O b → ¬ OwnAt σ ρ1 b) ∧ Ext G H P G1 H1 (fun b => OwnAt σ ρ1 b ∨ r.O b) := by
  have ok1' := ok1.pop hl
  obtain ⟨w, e1, e2⟩ := ok1.dt ρ1.length d get_append_eq
  rw [← ok1'.len, get_append_eq] at e1; cases e1
  exact ⟨ok1', e2, fun b o z => n1 b o (own_up ok1'.len z), x1.grow, x1.fresh, x1.keep, fun q z => x1.own q (z.elim (fun z => .inl (own_up ok1'.len z)) .inr)⟩
theorem psr_putL {o k e : Expr} {ik iv : ER Sl} {tpos p3 : Pos} (ho : PE X o (tVar i)) (c : Cls X.K C) (nl : NoAttr X.K C "later") (hk : PE X k (tER X.K C i ik)) (he : PE X e (tER X.K C i iv))
    (h : ∀ {T U W : TE}, PE X (.Attribute o "later" p3) T → PE X k U → PE X e W → PS X (.Assign [.Subscript (.Attribute o "later" p3) k tpos] e pos) (tAsg W (gSub T U rSetL))) (hb : attributeBase o "later" X.env (eval o X.env) = eval o X.env := by rfl) :
    PS X (.Assign [.Subscript (.Attribute o "later" p3) k tpos] e pos) (tR X.K C i (putLR i ik iv)) :=
  (h (pe_fld ho hb) hk he).imp fun D σ H ⟨G, ρ, r, R, ok, rel, n, un, p⟩ => ⟨G, ρ, r, R, ok, rel, n, un, by
    unfold putLR at p
    cases e : iv R ρ with
    | none => rw [e] at p; exact p
    | some x =>
      obtain ⟨s, ρ1, R1⟩ := x
      rw [e] at p
      intro v G1 H1 ok1 rel1 n1 x1
      cases s with
      | un => exact p.elim
      | ol _ => exact p.elim
      | dt y =>
        cases y with
        | int z =>
          obtain ⟨ok1', d1, n1', x1'⟩ := PostER.atom ok1 ok.pinLt n1 x1
          cases d1
          simp only at p
          split at p
          rotate_left
          · exact p.elim
          rename_i un1
          refine ⟨_, ok.pins (i, r.a) (by simp), r.a, C, r.dx, r.fs, .ref r.l, rfl, rel1.ia, c, nl, lkL r, ?_⟩
          refine ⟨G1, ρ1, r, R1, ok1', rel1, n1', unAt_iff.mp un1, ?_⟩
          cases e2 : ik R1 ρ1 with
          | none => rw [e2] at p; exact p
          | some x =>
            obtain ⟨s, ρ2, R2⟩ := x
            rw [e2] at p
            intro v2 G2 H2 ok2 rel2 n2 x2
            cases s with
            | un => exact p.elim
            | ol _ => exact p.elim
            | dt y =>
              cases y with
              | int j =>
                obtain ⟨ok2', d2, n2', x2'⟩ := PostER.atom ok2 ok.pinLt n2 x2
                cases d2
                simp only at p
                split at p
                · rename_i m em
                  refine ⟨r.l, R2.later.map V.int, j, m, rfl, rfl, rel2.hl, by rw [List.length_map]; exact em, ?_⟩
                  have es : (R2.later.map V.int).set m (V.int z) = (R2.later.set m z).map V.int := by rw [List.map_set]
                  rw [es]
                  obtain ⟨rel3, sub3⟩ := rel2.putLater ok2'.sub (R2.later.set m z)
                  exact p σ G2 _ (EnvOk.at_ ok2' (rel2.no _ r.Ol) (n2' _ r.Ol)) rel3 n2' ((x1'.trans x2').trans (Ext.at_ (.inr r.Ol)))
                · exact p.elim
              | _ => exact p.elim
        | _ => exact p.elim⟩

/-! ### self.together[k] = e -/
def putT (t : List (Str × List Str)) (k : Str) (g : List Str) : List (Str × List Str) := if (t.any fun x => decide (x.1 = k)) = true then t.map (fun x => if x.1 = k then (x.1, g) else x) else t ++ [(k, g)]
theorem putK_tog {K : PySem.W.Frag} {G : Hp} {v : V} {k : Str} {g : List Str} (h : Dt K G v (.lst (g.map .str))) {kvs : List (Key × V)} {t : List (Str × List Str)} (d : DtK K G kvs (togD t)) : DtK K G (putK kvs (.inr k) v) (togD (putT t k g)) := by
  have any_eq : ∀ {kvs : List (Key × V)} {t : List (Str × List Str)}, DtK K G kvs (togD t) → (kvs.any fun kv => decide (kv.1 = (Sum.inr k : Key))) = t.any fun x => decide (x.1 = k) := by
    intro kvs t
    induction t generalizing kvs with
    | nil => intro d; cases d; rfl
    | cons x t ih =>
      intro d
      cases d with
      | cons hd tl =>
        simp only [List.any_cons, ih tl]
        congr 1
        by_cases c : x.1 = k
        · simp [c]
        · have c' : ¬ ((Sum.inr x.1 : Key) = Sum.inr k) := fun q => c (Sum.inr.inj q)
          simp [c]
  have map_eq : ∀ {kvs : List (Key × V)} {t : List (Str × List Str)}, DtK K G kvs (togD t) → DtK K G (kvs.map fun kv => if kv.1 = (Sum.inr k : Key) then (kv.1, v) else kv) (togD (t.map fun x => if x.1 = k then (x.1, g) else x)) := by
    intro kvs t
    induction t generalizing kvs with
    | nil => intro d; cases d; exact .nil
    | cons x t ih =>
      intro d
      cases d with
      | cons hd tl =>
        simp only [List.map_cons, togD]
        by_cases c : x.1 = k
        · have c' : (Sum.inr x.1 : Key) = Sum.inr k := by rw [c]
          rw [if_pos c', if_pos c]
          exact .cons h (ih tl)
        · have c' : ¬ ((Sum.inr x.1 : Key) = Sum.inr k) := fun q => c (Sum.inr.inj q)
          rw [if_neg c', if_neg c]
          exact .cons hd (ih tl)
  have app : ∀ {kvs : List (Key × V)} {t : List (Str × List Str)}, DtK K G kvs (togD t) → DtK K G (kvs ++ [((Sum.inr k : Key), v)]) (togD (t ++ [(k, g)])) := by
    intro kvs t
    induction t generalizing kvs with
    | nil => intro d; cases d; exact .cons h .nil
    | cons x t ih =>
      intro d
      cases d with
      | cons hd tl => exact .cons hd (ih tl)
  unfold putK putT
  rw [any_eq d]
  split
  · exact map_eq d
  · exact app d
theorem RelAt.putTog {K : PySem.W.Frag} {C : Addr} {G H : Hp} {r : RA} {R : RS} {v : V} {k : Str} {g : List Str} {kvs : List (Key × V)} (rel : RelAt K C G H r R) (hs : Same G H) (e : H r.d1 = some (.dK kvs)) (d : DtK K G kvs (togD R.tg)) (h : Dt K G v (.lst (g.map .str))) (hn : (putT R.tg k g).map (·.1) = R.names) :
    RelAt K C G (upd H r.d1 (.dK (putK kvs (.inr k) v))) r { R with tg := putT R.tg k g } := by
  have na : r.a ≠ r.d1 := ne_of rel.ia e (fun z => by cases z)
  have nx : r.dx ≠ r.d1 := ne_of rel.id e (fun z => by cases z)
  have nl : r.l ≠ r.d1 := ne_of rel.hl e (fun z => by cases z)
  refine ⟨by rw [upd_ne na]; exact rel.ia, by rw [upd_ne nx]; exact rel.id, ⟨_, upd_same, putK_tog h d⟩, ?_, by rw [upd_ne nl]; exact rel.hl, rel.no, rel.ne⟩
  rw [upd_ne (fun z => rel.ne z.symm), rel.h2]
  show some (HO.dK (numV R.names)) = some (HO.dK (numV ((putT R.tg k g).map (·.1))))
  rw [hn]
/-- the value is a fresh list of texts, the key a moment that is there -/
def putTR (i : Nat) (k v : ER Sl) : MR := fun R ρ => match v R ρ with
  | some (.ol ds, ρ1, R1) => if unAt i ρ1 = true then (match k R1 ρ1 with
    | some (.dt (.str m), ρ2, R2) => (match decStrs ds with | some g => if m ∈ R2.names ∧ R2.tg.length < sizeLine then some (.nx ρ2, { R2 with tg := putT R2.tg m g }) else none | none => none)
    | _ => none) else none
  | _ => none
theorem putT_names {t : List (Str × List Str)} {k : Str} {g : List Str} (h : k ∈ t.map (·.1)) : (putT t k g).map (·.1) = t.map (·.1) := by
  obtain ⟨x, hx, rfl⟩ := List.mem_map.mp h
  unfold putT
  rw [if_pos (List.any_eq_true.mpr ⟨x, hx, by simp⟩), List.map_map]
  apply List.map_congr_left
  intro y _
  simp only [Function.comp]
  split <;> rfl
theorem psr_putT {o k e : Expr} {ik iv : ER Sl} {tpos p3 : Pos} (hu : X.A.units + 1 < cLine) (ho : PE X o (tVar i)) (c : Cls X.K C) (nl : NoAttr X.K C "together") (hk : PE X k (tER X.K C i ik)) (he : PE X e (tER X.K C i iv))
    (hsw : swapsWith e (some (.Subscript (.Attribute o "together" p3) k tpos)) pos.line X.env = pure false := by rfl) (hb : attributeBase o "together" X.env (eval o X.env) = eval o X.env := by rfl) :
    PS X (.Assign [.Subscript (.Attribute o "together" p3) k tpos] e pos) (tR X.K C i (putTR i ik iv)) :=
  (ps_dput hu (pe_fld ho hb) hk he hsw).imp fun D σ H ⟨G, ρ, r, R, ok, rel, n, un, p⟩ => ⟨G, ρ, r, R, ok, rel, n, un, by
    unfold putTR at p
    cases e : iv R ρ with
    | none => rw [e] at p; exact p
    | some x =>
      obtain ⟨s, ρ1, R1⟩ := x
      rw [e] at p
      intro v G1 H1 ok1 rel1 n1 x1
      cases s with
      | un => exact p.elim
      | dt _ => exact p.elim
      | ol ds =>
        simp only at p
        split at p
        rotate_left
        · exact p.elim
        rename_i un1
        -- the list is frozen
        obtain ⟨G2, ok2, d2, x2⟩ := ok1.freeze ok.pinLt (d := .lst ds) rfl
        have n2 : ∀ b, r.O b → ¬ OwnAt σ ρ1 b := fun b o z => n1 b o (own_up ok2.len z)
        have relx := rel1.ext x2 n1
        have x12 := x1.trans (x2.wide (P := r.O))
        refine ⟨_, ok.pins (i, r.a) (by simp), r.a, C, r.dx, r.fs, .ref r.d1, rfl, rel1.ia, c, nl, lkT r, ?_⟩
        refine ⟨G2, ρ1, r, R1, ok2, relx.1, n2, unAt_iff.mp un1, ?_⟩
        cases e2 : ik R1 ρ1 with
        | none => rw [e2] at p; exact p
        | some x =>
          obtain ⟨s, ρ2, R2⟩ := x
          rw [e2] at p
          intro v2 G3 H3 ok3 rel3 n3 x3
          cases s with
          | un => exact p.elim
          | ol _ => exact p.elim
          | dt y =>
            cases y with
            | str m =>
              obtain ⟨ok3', d3, n3', x3'⟩ := PostER.atom ok3 ok.pinLt n3 x3
              cases d3
              simp only at p
              split at p
              · rename_i g eg
                split at p
                · rename_i z
                  obtain ⟨kvs, e5, d5⟩ := rel3.h1
                  have hl5 : kvs.length = R2.tg.length := by
                    have : ∀ {kvs : List (Key × V)} {ds : List (Key × BT.D)}, DtK X.K G3 kvs ds → kvs.length = ds.length := by
                      intro kvs ds
                      induction ds generalizing kvs with
                      | nil => intro h; cases h; rfl
                      | cons _ _ ih => intro h; cases h with | cons _ h => simp [ih h]
                    rw [this d5]; simp [togD]
                  refine ⟨r.d1, _, rfl, .inl ⟨kvs, .inr m, e5, rfl, by rw [hl5]; exact z.2, rfl⟩, ?_⟩
                  have hd : Dt X.K G3 v (.lst (g.map .str)) := by
                    have := d2.mono x3.grow
                    rw [decStrs_eq eg] at this; exact this
                  have rel4 := rel3.putTog ok3'.sub e5 d5 hd (putT_names z.1)
                  exact p σ G3 _ (EnvOk.at_ ok3' (rel3.no _ r.O1) (n3' _ r.O1)) rel4 n3' ((x12.trans x3').trans (Ext.at_ (.inr r.O1)))
                · exact p.elim
              · exact p.elim
            | _ => exact p.elim⟩
end
end BK

/-! What the methods of the object do: states. -/
namespace BK
open PySem L2 BT
def RS.nil : RS := ⟨[], []⟩
def RS.add (R : RS) (m : Str) : RS := if m ∈ R.names then R else ⟨R.tg ++ [(m, [m])], R.later ++ [0]⟩
def F_add : FR := fun R ds => match ds with | [.str m] => if R.later.length = R.tg.length ∧ R.tg.length < 1000 then some (.non, R.add m) else none | _ => none
/-- __init__ of the object that has just come at p -/
def SpInit (K : PySem.W.Frag) (C : Addr) : Sp := fun vs H Q _ => ∃ p dx, vs = [.ref p] ∧ H p = some (.ins C dx []) ∧ H dx = some (.own p) ∧
  ∀ (H' : Hp) (r : RA), r.a = p → r.dx = dx → (∀ b o, H b = some o → b ≠ p → H' b = some o) → H r.d1 = none → H r.d2 = none → H r.l = none → r.d1 ≠ r.d2 →
    H' p = some (.ins C dx r.fs) → H' r.d1 = some (.dK []) → H' r.d2 = some (.dK []) → H' r.l = some (.lst []) → Q .non H'
theorem ne_nt : ¬ (("together" : Str) = "numbers") := by decide +kernel
theorem ne_tl : ¬ (("together" : Str) = "later") := by decide +kernel
theorem ne_nl : ¬ (("numbers" : Str) = "later") := by decide +kernel
theorem putF3 (x y z : V) : putF "later" z (putF "numbers" y (putF "together" x [])) = [(("together" : Str), x), ("numbers", y), ("later", z)] := by
  show (if ("together" : Str) = "later" then _ else _) = _
  simp only [putF, if_neg ne_nt, if_neg ne_tl, if_neg ne_nl]
theorem valV_tog {K : PySem.W.Frag} {G : Hp} {k : Str} : ∀ {kvs : List (Key × V)} {t : List (Str × List Str)}, DtK K G kvs (togD t) → (valV kvs (.inr k)).isSome = decide (k ∈ t.map (·.1)) := by
  intro kvs t d
  rcases d.look (k := .inr k) with ⟨h1, h2⟩ | ⟨v, e, h1, h2, h3⟩
  · rw [h2]
    have : k ∉ t.map (·.1) := by
      intro hk
      have : ∀ {t : List (Str × List Str)}, k ∈ t.map (·.1) → dlook (.inr k) (togD t) ≠ none := by
        intro t
        induction t with
        | nil => intro h; simp at h
        | cons x t ih =>
          intro h
          simp only [togD, List.map_cons, dlook]
          by_cases c : x.1 = k
          · subst c; simp
          · have c' : ¬ ((Sum.inr x.1 : Key) = Sum.inr k) := fun q => c (Sum.inr.inj q)
            rw [if_neg c']
            refine ih ?_
            simp only [List.map_cons, List.mem_cons] at h
            rcases h with h | h
            · exact absurd h.symm c
            · exact h
      exact this hk h1
    rw [decide_eq_false this]; rfl
  · rw [h2]
    have : k ∈ t.map (·.1) := by
      have : ∀ {t : List (Str × List Str)} {e : D}, dlook (.inr k) (togD t) = some e → k ∈ t.map (·.1) := by
        intro t
        induction t with
        | nil => intro e h; cases h
        | cons x t ih =>
          intro e h
          simp only [togD, List.map_cons, dlook] at h
          by_cases c : x.1 = k
          · subst c; simp
          · have c' : ¬ ((Sum.inr x.1 : Key) = Sum.inr k) := fun q => c (Sum.inr.inj q)
            rw [if_neg c'] at h
            exact List.mem_cons_of_mem _ (ih h)
      exact this h1
    rw [decide_eq_true this]; rfl
theorem numV_len (ns : List Str) : (numV ns).length = ns.length := by simp [numV]
theorem numV_none {ns : List Str} {k : Str} (h : k ∉ ns) : valV (numV ns) (.inr k) = none := by
  unfold valV
  rw [List.find?_eq_none.mpr]
  · rfl
  · intro x hx
    unfold numV at hx
    obtain ⟨i, hi, rfl⟩ := List.mem_mapIdx.mp hx
    simp only [decide_eq_true_eq]
    intro q
    exact h (by rw [← Sum.inr.inj q]; exact List.getElem_mem hi)
theorem numV_snoc (ns : List Str) (k : Str) : numV (ns ++ [k]) = numV ns ++ [(Sum.inr k, V.int (ns.length : Nat))] := by
  unfold numV
  rw [List.mapIdx_append]
  simp
end BK

/-! sorted(set(xs)) of a list of texts -/
namespace BS
open PySem L2 PySem.Spec PyProof.Rows PySem.Froz

/-- the set of the texts l at a -/
structure SetX (P : Program) (w : World) (h : Heap) (a : Addr) (l : List Str) (D : SD) : Prop where
  at_ : h.get? a = some (sObj "set" D)
  ok : TxOk P w D l
  ris : Ris D.2.2.place.toList
  led : w.params.followText "set-order" = true ∨ D.2.2.led = true
  nd : l.Nodup
section
variable {P : Program} {w : World} {h h' : Heap} {a : Addr} {l : List Str} {D : SD}
theorem SetX.same (x : SetX P w h a l D) (k : ∀ o, h.get? a = some o → h'.get? a = some o) : SetX P w h' a l D := ⟨k _ x.at_, x.ok, x.ris, x.led, x.nd⟩
theorem tail_keeps {ep : Nat} {es : Array (Int × Value)} {t : SetTable} {b : Bool} (r : Ris t.place.toList) : Ris (tailTx ep es t b).2.2.place.toList ∧ (tailTx ep es t b).2.2.led = t.led := by
  by_cases c : (!b && t.tooFull) = true
  · rw [show tailTx ep es t b = _ from if_pos c]
    exact ⟨relayAll_ris t es _, relayAll_led t es _⟩
  · rw [show tailTx ep es t b = _ from if_neg c]
    exact ⟨r, rfl⟩
theorem add_keeps {k : Str} {u : Tok} (r : Ris D.2.2.place.toList) : Ris (addTx (hashStr w k) (.str k u) D).2.2.place.toList ∧ (addTx (hashStr w k) (.str k u) D).2.2.led = D.2.2.led := by
  have r1 := layNew_ris D.2.2 D.1 (hashStr w k) (.str k u) r
  have l1 := layNew_led D.2.2 D.1 (hashStr w k) (.str k u)
  unfold addTx
  obtain ⟨a1, a2⟩ := tail_keeps (ep := D.2.1) (es := (layNew D.2.2 D.1 (hashStr w k) (.str k u)).1) (b := (layNew D.2.2 D.1 (hashStr w k) (.str k u)).2.2.1)
    (t := if (layNew D.2.2 D.1 (hashStr w k) (.str k u)).2.1.plain = true then { (layNew D.2.2 D.1 (hashStr w k) (.str k u)).2.1 with plain := false } else (layNew D.2.2 D.1 (hashStr w k) (.str k u)).2.1)
    (by split <;> exact r1)
  refine ⟨a1, a2.trans (Eq.trans ?_ l1)⟩
  split <;> rfl
end
/-- l with k, once -/
def ins (k : Str) (l : List Str) : List Str := if k ∈ l then l else k :: l
theorem mem_ins {k x : Str} {l : List Str} : x ∈ ins k l ↔ x = k ∨ x ∈ l := by
  unfold ins
  split
  · rename_i c
    exact ⟨.inr, fun z => z.elim (fun e => e ▸ c) id⟩
  · exact List.mem_cons
theorem nd_ins {k : Str} {l : List Str} (n : l.Nodup) : (ins k l).Nodup := by
  unfold ins
  split
  · exact n
  · rename_i c; exact List.nodup_cons.mpr ⟨c, n⟩
theorem len_ins (k : Str) (l : List Str) : (ins k l).length ≤ l.length + 1 := by
  unfold ins; split <;> simp
section
variable {P : Program} {w : World} {A : Around} {E : Value → Shared → Prop} {s : Shared} {a : Addr} {l : List Str} {D : SD}
theorem setX_add {k : Str} {u : Tok} {Q : Bool → Shared → Prop} (x : SetX P w s.heap a l D) (room : l.length + 1 < scanBound)
    (q : ∀ h' D' b, Heap.SameBut a s.heap h' → SetX P w h' a (ins k l) D' → Q b { s with heap := h' }) : wpAny (model P w) A (setAddHashed a (.str k u) (hashStr w k)) Q E s := by
  by_cases c : k ∈ l
  · have ei : ins k l = l := if_pos c
    have fin := q s.heap D false (Heap.SameBut.refl a s.heap) (by rw [ei]; exact x)
    obtain ⟨es, ep, t⟩ := D
    have el : ElemsOf (strKind P w) es.toList := x.ok.el
    have sz : es.size < scanBound := by have e : es.size = l.length := x.ok.sz; omega
    have fit : t.fits es.size = true := x.ok.fit
    have dd : (sObj "set" (es, ep, t)).data = .set es ep t := rfl
    have hk := is_str (P := P) (w := w) k u
    obtain ⟨e, he, pe⟩ := (x.ok.mem k).mp c
    unfold setAddHashed setAddHashedIn
    apply wpAny_holding
    apply wpAny_bind
    apply wpAny_setState_of x.at_ dd fit
    dsimp only
    rw [byScan_of rfl sz el, if_pos rfl]
    unfold setAddByScan
    apply wpAny_bind; apply wpAny_bind; apply wpAny_rule; apply wpAny_bind
    apply wpAny_setScan_of (knd := strKind P w) (k := k) hk x.at_ dd fit el
    cases f : List.findIdx? (fun e => (strKind P w).is k e.2) es.toList with
    | none =>
      have := List.findIdx?_eq_none_iff.mp f e he
      rw [pe] at this; cases this
    | some j => exact wpAny_pure (wpAny_pure fin)
  · have ei : ins k l = k :: l := if_neg c
    obtain ⟨r, ld⟩ := add_keeps (w := w) (k := k) (u := u) x.ris
    refine add_x x.at_ x.ok c room (q _ (addTx (hashStr w k) (.str k u) D) true (Heap.SameBut.update ..) ⟨get_upd _ x.at_ rfl, by rw [ei]; exact add_ok u x.ok, r, x.led.imp id fun z => ld.trans z, nd_ins x.nd⟩)
end
theorem _root_.List.reverseRec' {α : Type} {p : List α → Prop} (l : List α) (nil : p []) (snoc : ∀ xs x, p xs → p (xs ++ [x])) : p l := by
  rw [← List.reverse_reverse l]
  induction l.reverse with
  | nil => exact nil
  | cons x xs ih => rw [List.reverse_cons]; exact snoc _ _ ih
/-- the distinct texts of xs, the later met ahead -/
def dist (xs : List Str) : List Str := xs.foldl (fun l k => ins k l) []
theorem dist_snoc (xs : List Str) (k : Str) : dist (xs ++ [k]) = ins k (dist xs) := by unfold dist; rw [List.foldl_append]; rfl
theorem dist_len (xs : List Str) : (dist xs).length ≤ xs.length := by
  induction xs using List.reverseRec' with
  | nil => exact Nat.le_refl _
  | snoc xs k ih => rw [dist_snoc]; have := len_ins k (dist xs); simp; omega
theorem mem_dist {xs : List Str} {x : Str} : x ∈ dist xs ↔ x ∈ xs := by
  induction xs using List.reverseRec' with
  | nil => exact Iff.rfl
  | snoc xs k ih => rw [dist_snoc, mem_ins, ih, List.mem_append, List.mem_singleton]; exact Or.comm
section
variable {P : Program} {w : World} {A : Around} {E : Value → Shared → Prop} {s : Shared}
theorem turn_set {I S : Addr} {fp wr : List Addr} {G : Array GenState → Array GenState → Prop} {n : Nat} {Pv : Nat → Value → Prop} {St : Nat → Shared → Prop} {R : Result → Shared → Prop}
    (W : WalksS P w A.in1 I fp wr G n Pv St) (no : S ∉ fp) (xs : List Str) (en : xs.length = n) (few : n + 1 < scanBound) (get : ∀ i v, Pv i v → ∃ k t, xs[i]? = some k ∧ v = .str k t) (m : Nat) :
    ∀ (i : Nat) (s : Shared) (D : SD), i + m = n → St i s → SetX P w s.heap S (dist (xs.take i)) D →
      (∀ s' D', Moved (S :: wr) G s s' → SetX P w s'.heap S (dist xs) D' → R (.ok (.ret .none)) s') →
      codeAny (model P w) A (.builtin "set.update.loop" ⟨[.ref S, .ref I], []⟩) R s := by
  have nw : S ∉ wr := fun z => no (W.sub _ z)
  have up : ∀ b ∈ wr, b ∈ S :: wr := fun b z => List.mem_cons.mpr (.inr z)
  induction m with
  | zero =>
    intro i s D ei st x fin
    obtain rfl : i = n := ei
    apply codeAny_builtin F.entry_set_update_loop
    rw [Around.under_plainId F.plain_set_update_loop _]
    apply wpAny_bind (m := pyNext (.ref I))
    refine W.done s _ _ st fun s' mv => ?_
    apply wpAny_pure
    have e : xs.take i = xs := by rw [← en]; exact List.take_length
    rw [e] at x
    exact fin s' D (mv.mono up) (x.same fun o z => mv.heap S o nw z)
  | succ m ih =>
    intro i s D ei st x fin
    have lt : i < n := by omega
    apply codeAny_builtin F.entry_set_update_loop
    rw [Around.under_plainId F.plain_set_update_loop _]
    apply wpAny_bind (m := pyNext (.ref I))
    refine W.item i s _ _ lt st fun v s1 pv st1 mv => ?_
    obtain ⟨k, t, hk, rfl⟩ := get i v pv
    have x1 := x.same (h' := s1.heap) fun o z => mv.heap S o nw z
    apply wpAny_bind (m := holding [Value.str k t] (setAdd S (.str k t)))
    apply wpAny_holding
    unfold setAdd
    apply wpAny_holding
    apply wpAny_bind
    apply (strKind P w).pyHash (k := k) (is_str k t)
    have ld := dist_len (xs.take i)
    rw [List.length_take] at ld
    refine setX_add (s := { s1 with toks := s1.toks + 1 }) x1 (by omega) fun h' D' b sb x2 => ?_
    have e2 : dist (xs.take (i + 1)) = ins k (dist (xs.take i)) := by
      rw [List.take_add_one, hk]; exact dist_snoc _ _
    rw [← e2] at x2
    refine wpAny_pure ⟨plainId_quiet F.plain_set_update_loop _, ih (i + 1) _ D' (by omega) (W.frame _ s1 _ _ st1 (Nat.le_succ _) fun c hc o e => ?_) x2 fun s2 D2 mv2 x3 => ?_⟩
    · exact (sb.2 c fun z : c = S => no (z ▸ hc)).trans e
    · refine fin s2 D2 (Moved.trans W.gtrans ((mv.mono up).then_heap (Nat.le_succ _) fun c o hc e => ?_) mv2) x3
      exact (sb.2 c fun z : c = S => hc (z ▸ List.mem_cons_self)).trans e
end
section
variable {P : Program} {w : World} {A : Around} {E : Value → Shared → Prop} {s : Shared}
theorem fresh_setX {h : Heap} {a : Addr} (e : h.get? a = some { cls := .type "set", dict := none, data := .set #[] 0 (.fresh 0 0 (!w.params.followText "set-order")) }) :
    SetX P w h a [] (#[], 0, .fresh 0 0 (!w.params.followText "set-order")) := by
  refine ⟨e, TxOk.nil rfl, List.Pairwise.nil, ?_, List.nodup_nil⟩
  cases c : w.params.followText "set-order" with
  | true => exact .inl rfl
  | false => exact .inr rfl
abbrev emptySet (w : World) : Obj := { cls := .type "set", dict := none, data := .set #[] 0 (.fresh 0 0 (!w.params.followText "set-order")) }
theorem make_set {L : Addr} {vs : Array Value} (xs : List Str) {Q : Value → Shared → Prop} (calm : A.handled = none) (isl : s.heap.IsList L vs) (are : StrsAre vs.toList xs) (few : xs.length + 1 < scanBound)
    (q : ∀ h' tk D, SetX P w h' s.heap.objs.size (dist xs) D → (∀ b o, s.heap.get? b = some o → h'.get? b = some o) → Q (.ref s.heap.objs.size) { s with heap := h', toks := tk }) :
    wpAny (model P w) A (call (.type "set") [.ref L]) Q E s := by
  have size : vs.size = xs.length := by rw [← Array.length_toList]; exact are.length
  obtain ⟨c, tl, hmro⟩ := F.called_set.mro
  have mk := F.called_set.made
  have sb := F.called_set.sub
  apply wpAny_call
  apply codeAny_of_tree
  show wpAny _ _ (callAny (.type "set") _) _ _ _
  refine wpAny_pure ⟨Code.quiet_builtin _ (by decide +kernel), codeAny_builtin F.entry_type_call ?_⟩
  rw [Around.under_plain (weight_type_call_type "set" [.ref L] []) rfl]
  have n1 := F.called_set.notType
  have n2 := F.called_set.canCreate
  have n3 := F.typeCall_set_1 (.ref L)
  repeat (any_goals (first | assumption | wp_step))
  refine codeAny_mono (code_set_led1 (.ref L) (E := E) (Q₁ := fun o t => o = .ref s.heap.objs.size ∧ t = { s with heap := s.heap.push { cls := .type "set", dict := none, data := .set #[] 0 (.fresh 0 0 (!w.params.followText "set-order")) } }) ⟨rfl, rfl⟩) fun r t hr => ?_
  cases r with
  | error e => exact hr
  | ok fl =>
    cases fl with
    | ret o =>
      obtain ⟨rfl, rfl⟩ := hr
      have gN : (s.heap.push (emptySet w)).get? s.heap.objs.size = some (emptySet w) := Heap.get?_push_size _ rfl
      have tN : Shared.TypeIs { s with heap := s.heap.push (emptySet w) } (.ref s.heap.objs.size) "set" := ⟨_, gN, rfl⟩
      have i1 := F.called_set.init.lookup
      have i2 := F.called_set.init.bind (.ref s.heap.objs.size)
      repeat (any_goals (first | assumption | wp_step))
      refine codeAny_mono (codeAny_call_builtin (R := wants (fun r t => r = .none ∧ ∃ h' tk D, t = { s with heap := h', toks := tk } ∧ SetX P w h' s.heap.objs.size (dist xs) D ∧ ∀ b o, s.heap.get? b = some o → h'.get? b = some o) E)
        F.called_set.init.plain F.entry_set_init (check_set_init_1 tN ?_)) fun r2 t2 hr2 => ?_
      · obtain ⟨⟨lc, ld, lo, ls⟩, hl, el, nl, dl⟩ := isl
        simp only at el dl
        subst el; subst dl
        have lsz := Heap.lt_size hl
        have hl1 : (s.heap.push (emptySet w)).get? L = some { cls := .type "list", dict := ld, data := .seq vs nl, slots := ls } := Heap.get?_push_of_some _ hl
        have isl1 : (s.heap.push (emptySet w)).IsList L vs := ⟨_, hl1, rfl, nl, rfl⟩
        have f1 := F.sub_list_set
        have f2 := F.sub_list_frozenset
        have f3 : (Value.type "list" == Value.type "dict") = false := by decide
        unfold Builtin.«set.__init__» noKeywords Builtin.Frozenset.updateFrom
        generalize eI : pyIter = it
        wp_walk
        subst eI
        apply wpAny_pyIter_list isl1
        apply wpAny_bind
        apply wpAny_runValue
        have psz : (s.heap.push (emptySet w)).objs.size = s.heap.objs.size + 1 := Heap.size_push ..
        have calm3 : A.in1.in1.in1.handled = none := by simp [calm]
        refine turn_set (S := s.heap.objs.size) ((Walks.list calm3 (s.heap.push (emptySet w)).objs.size L (by rw [psz]; exact Nat.ne_of_lt (Nat.lt_succ_of_lt lsz)) vs).toS) (by rw [psz]; simp only [List.mem_cons, List.not_mem_nil, or_false, not_or]; exact ⟨Nat.ne_of_lt (Nat.lt_succ_self _), Nat.ne_of_gt lsz⟩) xs size.symm (by rw [size]; exact few)
          (fun i v hv => ?_) vs.size 0 _ _ (Nat.zero_add _) ⟨⟨_, Heap.get?_push_size _ rfl, rfl, rfl⟩, isl1.push _⟩ (fresh_setX (Heap.get?_push_of_some _ gN)) fun t' D' mv x => ?_
        · have hi : i < xs.length := by rw [← size]; exact (Array.getElem?_eq_some_iff.mp hv).1
          obtain ⟨t, e⟩ := SS.strs_at are i v (by rw [Array.getElem?_toList]; exact hv)
          refine ⟨xs[i], t, List.getElem?_eq_getElem hi, ?_⟩
          rw [e, List.getD_eq_getElem?_getD, List.getElem?_eq_getElem hi]; rfl
        · obtain ⟨h', g', d', tk', os'⟩ := t'
          obtain rfl : g' = s.gens := mv.gens
          obtain rfl : d' = s.drawn := mv.drawn
          obtain rfl : os' = s.os := mv.os
          refine wpAny_pure (wpAny_pure ⟨rfl, h', tk', D', rfl, x, fun b o e => ?_⟩)
          have lb := Heap.lt_size e
          refine mv.heap b o ?_ (Heap.get?_push_of_some _ (Heap.get?_push_of_some _ e))
          rw [psz]; simp only [List.mem_cons, List.not_mem_nil, or_false, not_or]; exact ⟨Nat.ne_of_lt lb, Nat.ne_of_lt (Nat.lt_succ_of_lt lb)⟩
      · cases r2 with
        | error e => exact hr2
        | ok fl2 =>
          cases fl2 with
          | ret r =>
            obtain ⟨rfl, h', tk, D', rfl, x, old⟩ := hr2
            repeat (any_goals (first | assumption | wp_step))
            exact q _ _ _ x old
          | _ => exact hr2.elim
    | _ => exact hr.elim
end
end BS

namespace BS
open PySem L2 PySem.Spec PyProof.Rows PySem.Froz BT

theorem strs_are : ∀ (vs : List Value), (∀ v ∈ vs, ∃ k t, v = Value.str k t) → StrsAre vs (vs.map PyProof.Rows.strOf)
  | [], _ => .nil
  | v :: r, h => by
    obtain ⟨k, t, rfl⟩ := h v (by simp)
    exact .cons k t (strs_are r fun v m => h v (by simp [m]))
theorem perm_of_sub : ∀ {l m : List Str}, l.Nodup → (∀ x ∈ l, x ∈ m) → m.length = l.length → l.Perm m
  | [], m, _, _, e => by
    have : m = [] := List.length_eq_zero_iff.mp e
    rw [this]
  | x :: l, m, n, h, e => by
    obtain ⟨nx, nl⟩ := List.nodup_cons.mp n
    have mx := h x List.mem_cons_self
    have p := List.perm_cons_erase mx
    refine (List.Perm.cons x (perm_of_sub (m := m.erase x) nl (fun y hy => ?_) ?_)).trans p.symm
    · have ne : y ≠ x := fun z => nx (z ▸ hy)
      exact (List.mem_erase_of_ne ne).mpr (h y (List.mem_cons_of_mem _ hy))
    · have := p.length_eq
      simp only [List.length_cons] at this e
      omega
section
variable {P : Program} {w : World} {A : Around} {E : Value → Shared → Prop} {s : Shared} {a : Addr} {l : List Str} {D : SD}
theorem is_iff {x : Str} {v : Value} : (strKind P w).is x v = true ↔ ∃ t, v = .str x t := by
  constructor
  · intro h; exact Value.isStrOf_shape h
  · rintro ⟨t, rfl⟩; exact is_str x t
/-- the members of such a set -/
theorem SetX.members (x : SetX P w s.heap a l D) : (∀ v ∈ D.1.toList.map (·.2), ∃ k t, v = Value.str k t) ∧ (D.1.toList.map fun e => PyProof.Rows.strOf e.2).Perm l := by
  have each : ∀ e ∈ D.1.toList, ∃ k t, e.2 = Value.str k t ∧ k ∈ l := fun e he => by
    obtain ⟨⟨k, hk, _⟩, _⟩ := x.ok.el e he
    obtain ⟨t, et⟩ := is_iff.mp hk
    exact ⟨k, t, et, (x.ok.mem k).mpr ⟨e, he, hk⟩⟩
  refine ⟨fun v hv => ?_, ?_⟩
  · obtain ⟨e, he, rfl⟩ := List.mem_map.mp hv
    obtain ⟨k, t, et, _⟩ := each e he
    exact ⟨k, t, et⟩
  · have sub : l ⊆ D.1.toList.map fun e => PyProof.Rows.strOf e.2 := fun k hk => by
      obtain ⟨e, he, q⟩ := (x.ok.mem k).mp hk
      obtain ⟨t, et⟩ := is_iff.mp q
      exact List.mem_map.mpr ⟨e, he, by rw [et]; rfl⟩
    have len : (D.1.toList.map fun e => PyProof.Rows.strOf e.2).length = l.length := by rw [List.length_map, Array.length_toList]; exact x.ok.sz
    exact (perm_of_sub x.nd (fun k hk => sub hk) len).symm
theorem sort_set (x : SetX P w s.heap a l D) (calm : A.handled = none) (few : l.length < 64) {Q : Value → Shared → Prop}
    (q : ∀ s' p (out : Array Value) (c : Nat) (ys : List Str), (∀ b o, s.heap.get? b = some o → s'.heap.get? b = some o) → s'.gens = s.gens → s'.os = s.os → s.heap.objs.size ≤ p →
      s'.heap.get? p = some (seqObj "list" out c) → StrsAre out.toList ys → ys.Perm l → sortedS ys = true → Q (.ref p) s') :
    wpAny (model P w) A (call (.builtin "sorted") [.ref a]) Q E s := by
  apply Calls.call_function_entry kind_sorted plain_sorted entry_sorted (args_sorted1 _)
  unfold Builtin.«sorted»
  apply wpAny_bind (m := checkCount "sorted" 1 1 _)
  apply wpAny_pure
  have zz : D.1.size = l.length := x.ok.sz
  refine wpAny_bind (collect_set (A := A.in1) calm ⟨_, x.at_, rfl, rfl⟩ x.ok.fit (by rw [zz]; unfold scanBound; omega) x.ris x.led fun s1 vs old sz g1 o1 pm => ?_)
  obtain ⟨m1, m2⟩ := x.members
  have are := strs_are vs fun v hv => m1 v (pm.mem_iff.mp hv)
  have pl : (vs.map PyProof.Rows.strOf).Perm l := (pm.map _).trans (by rw [List.map_map]; exact m2)
  have len : vs.length = l.length := by have := pl.length_eq; rwa [List.length_map] at this
  apply wpAny_bind
  refine wpAny_newList ?_ (by rw [len, sizeLine_eq]; omega)
  have hL : (s1.heap.push (seqObj "list" vs.toArray 0)).get? s1.heap.objs.size = some (seqObj "list" vs.toArray 0) := Heap.get?_push_size _ rfl
  apply wpAny_bind
  apply wpAny_holding
  refine wpAny_call_entry slot_list_sort ⟨_, hL, rfl⟩ entry_list_sort (list_sort_treeK strKind_oneLt hL are.keysOf (fun v₁ v₂ rest e => keyKind_strs (by rw [← e]; exact are)) (by rw [len]; exact few) fun st hp hs => ⟨_, rfl, ?_⟩) (args_list_sort _)
  obtain ⟨ys, y1, y2, y3⟩ := sorted_out_str are hp hs
  obtain ⟨c, hc⟩ := sortedHeap_at (vs := vs) (out := (arrOf st).map (·.2)) hL
  refine wpAny_pure ⟨_, rfl, q _ s1.heap.objs.size _ c ys (fun b u e => ?_) g1 o1 sz hc y1 (y2.trans pl) y3⟩
  have e1 := old b u e
  have lt := Heap.lt_size e1
  show (sortedHeap (s1.heap.push (seqObj "list" vs.toArray 0)) s1.heap.objs.size vs _).get? b = some u
  rw [sortedHeap_old (Nat.ne_of_lt lt) (by rw [size_push']; exact Nat.lt_succ_of_lt lt)]
  exact Heap.get?_push_of_some _ e1
end

/-! ### the rules -/
def SetO (P : Program) (w : World) (a : Addr) (l : List Str) : HO := .ext fun h => ∃ D, SetX P w h a l D
theorem setO_ok {P : Program} {w : World} {H : Hp} {h : Heap} {a : Addr} {l : List Str} {D : SD} (x : SetX P w h a l D) : ObjOk P w H h a (SetO P w a l) :=
  ⟨⟨D, x⟩, ⟨_, x.at_⟩, fun h1 h2 ⟨D, y⟩ k => ⟨D, y.same k⟩⟩
section
variable {X : Cx}
def rSet (K : PySem.W.Frag) (P : Program) (w : World) : List V → Hp → VK → Prop := fun vs H Q => ∃ (a : Addr) (xs : List Str), vs = [V.ref a] ∧ SqL K H a (xs.map V.str) ∧ xs.length ≤ 4000 ∧ ∀ p, H p = none → Q (.ref p) (upd H p (SetO P w p (dist xs)))
theorem cr_set (hc : X.calm = true) : CallR X (.type "set") (rSet X.K X.prog X.w) := by
  intro pins s σ H vs us Q I r h
  obtain ⟨a, xs, rfl, hs, few, q⟩ := h
  obtain ⟨its, rv, hl, _⟩ := I.list hs
  rw [Vals.ref1 r]
  refine make_set xs (I.ok.hd hc) hl.isList (by simpa using rv.strs) (by unfold scanBound; omega) fun h' tk D x old => ?_
  exact ⟨.ref _, upd H s.heap.objs.size (SetO X.prog X.w s.heap.objs.size (dist xs)), I.laid (t' := tk) old (Nat.le_refl _) (setO_ok x), rfl, q _ (I.hok.fresh (Nat.le_refl _))⟩
def rSortSet (P : Program) (w : World) : List V → Hp → VK → Prop := fun vs H Q => ∃ (a : Addr) (l : List Str), vs = [V.ref a] ∧ H a = some (SetO P w a l) ∧ l.length < 64 ∧
  ∀ ys p, ys.Perm l → sortedS ys = true → H p = none → Q (.ref p) (upd H p (.lst (ys.map V.str)))
theorem cr_sortSet (hc : X.calm = true) : CallR X (.builtin "sorted") (rSortSet X.prog X.w) := by
  intro pins s σ H vs us Q I r h
  obtain ⟨a, l, rfl, ha, few, q⟩ := h
  obtain ⟨D, x⟩ := (I.hok a _ ha).1
  rw [Vals.ref1 r]
  refine sort_set x (I.ok.hd hc) few fun s' p out c ys old g o hp at_ are pm so => ?_
  have len : (ys.map V.str).length ≤ sizeLine := by rw [List.length_map, pm.length_eq, sizeLine_eq]; omega
  have free : H p = none := I.hok.fresh hp
  have J : Inv X pins σ (upd H p (.lst (ys.map V.str))) { s with heap := s'.heap, gens := s'.gens, drawn := s'.drawn, toks := s'.toks } :=
    I.call (ch := []) (Un.laid old hp free) (I.hok.laid old hp ⟨len, out.toList, c, vals_of_strs are, at_⟩) (by rw [g]; exact I.bare) (fun _ z => nomatch z)
  obtain ⟨h', g', d', t', o'⟩ := s'
  obtain rfl : o' = s.os := o
  exact ⟨.ref p, _, J, rfl, q ys p pm so free⟩
end
end BS

namespace BS
open PySem L2 PySem.Spec PyProof.Rows PySem.Froz BT

/-! ### the order of texts -/
def ltS (x y : Str) : Bool := decide (x.cps.toList < y.cps.toList)
theorem lt_cps (x y : Str) : ltCps x.cps.toList y.cps.toList = ltS x y := ltCps_eq _ _
theorem ltS_irrefl (x : Str) : ltS x x = false := by unfold ltS; exact decide_eq_false (List.lt_irrefl _)
theorem ltS_trans {x y z : Str} (h : ltS x y = true) (g : ltS y z = true) : ltS x z = true := by
  unfold ltS at *
  exact decide_eq_true (List.lt_trans (of_decide_eq_true h) (of_decide_eq_true g))
theorem ltS_asymm {x y : Str} (h : ltS x y = true) : ltS y x = false := by
  cases c : ltS y x with
  | false => rfl
  | true => have := ltS_trans h c; rw [ltS_irrefl] at this; cases this
theorem ltS_tri (x y : Str) : ltS x y = true ∨ x = y ∨ ltS y x = true := by
  by_cases c : x.cps.toList < y.cps.toList
  · exact .inl (decide_eq_true c)
  · by_cases d : y.cps.toList < x.cps.toList
    · exact .inr (.inr (decide_eq_true d))
    · refine .inr (.inl ?_)
      have := List.le_antisymm (as := x.cps.toList) (bs := y.cps.toList) (List.not_lt.mp d) (List.not_lt.mp c)
      obtain ⟨⟨a⟩⟩ := x
      obtain ⟨⟨b⟩⟩ := y
      simp only at this
      rw [this]
theorem lt_of_le {x y : Str} (h : ltS y x = false) (n : x ≠ y) : ltS x y = true := by
  rcases ltS_tri x y with c | c | c
  · exact c
  · exact absurd c n
  · rw [h] at c; cases c
/-- strictly rising -/
def Up (l : List Str) : Prop := l.Pairwise fun x y => ltS x y = true
theorem Up.uniq : ∀ {l m : List Str}, Up l → Up m → (∀ x, x ∈ l ↔ x ∈ m) → l = m
  | [], [], _, _, _ => rfl
  | [], y :: m, _, _, h => absurd ((h y).mpr List.mem_cons_self) (by simp)
  | x :: l, [], _, _, h => absurd ((h x).mp List.mem_cons_self) (by simp)
  | x :: l, y :: m, u, v, h => by
    obtain ⟨u1, u2⟩ := List.pairwise_cons.mp u
    obtain ⟨v1, v2⟩ := List.pairwise_cons.mp v
    have e : x = y := by
      rcases List.mem_cons.mp ((h x).mp List.mem_cons_self) with c | c
      · exact c
      · rcases List.mem_cons.mp ((h y).mpr List.mem_cons_self) with d | d
        · exact d.symm
        · have a := v1 x c
          have b := u1 y d
          rw [ltS_asymm a] at b; cases b
    subst e
    congr 1
    refine Up.uniq u2 v2 fun z => ⟨fun hz => ?_, fun hz => ?_⟩
    · rcases List.mem_cons.mp ((h z).mp (List.mem_cons_of_mem _ hz)) with c | c
      · subst c; have := u1 z hz; rw [ltS_irrefl] at this; cases this
      · exact c
    · rcases List.mem_cons.mp ((h z).mpr (List.mem_cons_of_mem _ hz)) with c | c
      · subst c; have := v1 z hz; rw [ltS_irrefl] at this; cases this
      · exact c
theorem rising_up : ∀ {l : List Str} {x : Str}, risingS x l = true → (x :: l).Nodup → Up (x :: l)
  | [], x, _, _ => List.pairwise_singleton _ _
  | y :: l, x, h, n => by
    simp only [risingS, Bool.and_eq_true, Bool.not_eq_true', lt_cps] at h
    obtain ⟨n1, n2⟩ := List.nodup_cons.mp n
    have ih := rising_up h.2 n2
    have xy := lt_of_le h.1 (fun e => n1 (e ▸ List.mem_cons_self))
    refine List.pairwise_cons.mpr ⟨fun z hz => ?_, ih⟩
    rcases List.mem_cons.mp hz with c | c
    · rw [c]; exact xy
    · exact ltS_trans xy ((List.pairwise_cons.mp ih).1 z c)
theorem sorted_up {l : List Str} (h : sortedS l = true) (n : l.Nodup) : Up l := by
  cases l with
  | nil => exact List.Pairwise.nil
  | cons x l => exact rising_up h n
/-- put into its place -/
def put (k : Str) : List Str → List Str
  | [] => [k]
  | x :: l => if x = k then x :: l else if ltS k x = true then k :: x :: l else x :: put k l
theorem mem_put {k x : Str} : ∀ {l : List Str}, x ∈ put k l ↔ x = k ∨ x ∈ l
  | [] => by simp [put]
  | y :: l => by
    unfold put
    split
    · rename_i c; subst c; simp
    · split
      · simp
      · simp only [List.mem_cons, mem_put (l := l)]
        constructor
        · rintro (h | h | h)
          · exact .inr (.inl h)
          · exact .inl h
          · exact .inr (.inr h)
        · rintro (h | h | h)
          · exact .inr (.inl h)
          · exact .inl h
          · exact .inr (.inr h)
theorem put_up {k : Str} : ∀ {l : List Str}, Up l → Up (put k l)
  | [], _ => List.pairwise_singleton _ _
  | y :: l, u => by
    obtain ⟨u1, u2⟩ := List.pairwise_cons.mp u
    unfold put
    split
    · exact u
    · split
      · rename_i c
        refine List.pairwise_cons.mpr ⟨fun z hz => ?_, u⟩
        rcases List.mem_cons.mp hz with d | d
        · rw [d]; exact c
        · exact ltS_trans c (u1 z d)
      · rename_i n c
        refine List.pairwise_cons.mpr ⟨fun z hz => ?_, put_up u2⟩
        rcases mem_put.mp hz with d | d
        · rw [d]; exact lt_of_le (by simpa using c) n
        · exact u1 z d
/-- the distinct texts, rising -/
def sd (xs : List Str) : List Str := xs.foldl (fun l k => put k l) []
theorem sd_snoc (xs : List Str) (k : Str) : sd (xs ++ [k]) = put k (sd xs) := by unfold sd; rw [List.foldl_append]; rfl
theorem sd_up (xs : List Str) : Up (sd xs) := by
  induction xs using List.reverseRec' with
  | nil => exact List.Pairwise.nil
  | snoc xs k ih => rw [sd_snoc]; exact put_up ih
theorem mem_sd {xs : List Str} {x : Str} : x ∈ sd xs ↔ x ∈ xs := by
  induction xs using List.reverseRec' with
  | nil => exact Iff.rfl
  | snoc xs k ih => rw [sd_snoc, mem_put, ih, List.mem_append, List.mem_singleton]; exact Or.comm
theorem Up.nodup {l : List Str} (u : Up l) : l.Nodup := u.imp fun {a b} h e => by subst e; rw [ltS_irrefl] at h; cases h
theorem dist_nd (xs : List Str) : (dist xs).Nodup := by
  induction xs using List.reverseRec' with
  | nil => exact List.nodup_nil
  | snoc xs k ih => rw [dist_snoc]; exact nd_ins ih
theorem sd_of {xs ys : List Str} (p : ys.Perm (dist xs)) (s : sortedS ys = true) : ys = sd xs := by
  have n : ys.Nodup := p.nodup_iff.mpr (dist_nd xs)
  exact Up.uniq (sorted_up s n) (sd_up xs) fun x => by rw [p.mem_iff, mem_dist, mem_sd]
theorem len_of_sub : ∀ {l m : List Str}, l.Nodup → (∀ x ∈ l, x ∈ m) → l.length ≤ m.length
  | [], _, _, _ => Nat.zero_le _
  | x :: l, m, n, h => by
    obtain ⟨nx, nl⟩ := List.nodup_cons.mp n
    have p := (List.perm_cons_erase (h x List.mem_cons_self)).length_eq
    have := len_of_sub (m := m.erase x) nl fun y hy => (List.mem_erase_of_ne (a := y) (b := x) fun z => nx (z ▸ hy)).mpr (h y (List.mem_cons_of_mem _ hy))
    simp only [List.length_cons] at p ⊢
    omega
theorem sd_len (xs : List Str) : (dist xs).length = (sd xs).length := by
  have p : (sd xs).Perm (dist xs) := perm_of_sub (sd_up xs).nodup (fun x h => by rw [mem_dist]; exact mem_sd.mp h) ?_ 
  · exact p.length_eq.symm
  · apply Nat.le_antisymm
    · exact (len_of_sub (dist_nd xs) fun x h => by rw [mem_sd]; exact mem_dist.mp h)
    · exact (len_of_sub (sd_up xs).nodup fun x h => by rw [mem_dist]; exact mem_sd.mp h)

/-! ### sorted(set(e)) -/
open BK in
def setM : D → M Sl := fun d => match d with
  | .lst ds => (match decStrs ds with | some xs => if xs.length ≤ 4000 ∧ (sd xs).length < 64 then (fun ρ => some (.val (.ol ((sd xs).map .str)) ρ)) else fun _ => none | none => fun _ => none)
  | _ => fun _ => none
@[simp] def sortM (f : M Sl) : M Sl := fun ρ => bindD f setM ρ
theorem dtL_strs {K : PySem.W.Frag} {H : Hp} : ∀ {vs : List V} {xs : List Str}, DtL K H vs (xs.map .str) → vs = xs.map V.str
  | _, [], .nil => rfl
  | _, x :: xs, .cons (.str _) h => by rw [dtL_strs h]; rfl
section
variable {X : Cx} {pn : List (Nat × Addr)} {E : XK} {pos : Pos}
open BK in
theorem px_sortSet {e : Expr} {f : M Sl} {p1 p2 q : Pos} (hc : X.calm = true) (he : PE X e (tE X.K pn E f)) (h1 : X.mg "sorted" = none) (h2 : X.mg "set" = none) (g1 : Gl X "sorted" := by rfl) (g2 : Gl X "set" := by rfl)
    (s1 : starEach [Expr.Call (.Name "set" p2) [e] [] q] X.env = (false, eval (Expr.Call (.Name "set" p2) [e] [] q) X.env) :: starEach [] X.env := by rfl) (s2 : starEach [e] X.env = (false, eval e X.env) :: starEach [] X.env := by rfl)
    (z1 : (backTo pos (starEach [] X.env)).any (·.1) = false := by rfl) (z2 : (backTo q (starEach [] X.env)).any (·.1) = false := by rfl) :
    PE X (.Call (.Name "sorted" p1) [.Call (.Name "set" p2) [e] [] q] [] pos) (tE X.K pn E (sortM f)) :=
  (pe_callB (cr_sortSet hc) g1 h1 boot_sorted (pa_cons (pe_callTy (T := "set") (cr_set hc) g2 h2 boot_set (pa_cons he pa_nil s2) (by decide) (by decide) s2 z2) pa_nil s1) (by decide) (by decide) s1 z1).imp fun σ H Q ⟨G, ρ, ok, w⟩ => by
    refine ⟨G, ρ, ok, (Post.bindD ok w).mono fun v H1 ⟨G1, ρ1, d, ok1, gr, dt, p⟩ => ?_⟩
    cases d with
    | lst ds => ?_
    | _ => exact p.elim
    simp only [setM] at p
    cases ex : decStrs ds with
    | none => rw [ex] at p; exact p.elim
    | some xs => ?_
    rw [ex] at p
    simp only at p
    by_cases c : xs.length ≤ 4000 ∧ (sd xs).length < 64
    rotate_left
    · rw [if_neg c] at p; exact p.elim
    rw [if_pos c] at p
    have e1 := decStrs_eq ex
    subst e1
    cases dt with
    | lst sq items =>
      have ev := dtL_strs items
      subst ev
      refine ⟨_, xs, rfl, ok1.sub.seq sq, c.1, fun b hb => ⟨_, _, rfl, upd_same, by rw [sd_len]; exact c.2, fun ys r pm so hr => ?_⟩⟩
      rw [sd_of pm so]
      have gb : G1 b = none := Same.free ok1.sub hb
      have nb : ¬ OwnAt σ ρ1 b := fun ⟨j, ds, a1, a2⟩ => by
        obtain ⟨q, ws, a, b1, _⟩ := ok1.ol j ds a1
        rw [a2] at a; cases a
        rw [hb] at b1; cases b1
      have ok2 := ok1.touch (o := SetO X.prog X.w b (dist xs)) gb nb
      have x2 : Ext G1 H1 (OwnAt σ ρ1) G1 (upd H1 b (SetO X.prog X.w b (dist xs))) (OwnAt σ ρ1) := ⟨Same.refl _, fun _ z => .inl z, fun a u z _ => by rw [upd_ne (ne_of_none z hb)]; exact z, fun _ z => .inl z⟩
      exact (p.at x2).lst ok2 (BK.strs_dt _) hr
end
end BS

/-! Methods of the object by their bodies. -/
namespace BK
open PySem L2 BT
/-! ### all own lists frozen; the object read as data by an expression -/
def frz1 : Sl → Sl | .ol ds => .dt (.lst ds) | s => s
def frzAll (ρ : Rho) : Rho := ρ.map frz1
@[simp] theorem frzAll_nil : frzAll [] = [] := rfl
@[simp] theorem frzAll_un (ρ : Rho) : frzAll (.un :: ρ) = .un :: frzAll ρ := rfl
@[simp] theorem frzAll_dt (d : D) (ρ : Rho) : frzAll (.dt d :: ρ) = .dt d :: frzAll ρ := rfl
@[simp] theorem frzAll_ol (ds : List D) (ρ : Rho) : frzAll (.ol ds :: ρ) = .dt (.lst ds) :: frzAll ρ := rfl
theorem frzAll_no {ρ : Rho} {j : Nat} {ds : List D} (h : (frzAll ρ)[j]? = some (.ol ds)) : False := by
  unfold frzAll at h
  rw [List.getElem?_map] at h
  cases e : ρ[j]? with
  | none => rw [e] at h; cases h
  | some s => rw [e] at h; cases s <;> cases h
theorem frzAll_un_at {ρ : Rho} {i : Nat} (h : ρ[i]? = some .un) : (frzAll ρ)[i]? = some .un := by
  unfold frzAll; rw [List.getElem?_map, h]; rfl
section
variable {K : PySem.W.Frag} {C : Addr} {pn : List (Nat × Addr)} {G H : Hp} {σ : St} {ρ : Rho} {i : Nat} {r : RA} {R : RS}
noncomputable def adds (G H : Hp) (P : Addr → Prop) : Hp := fun b => @ite _ (P b) (Classical.propDecidable _) (H b) (G b)
theorem adds_in {P : Addr → Prop} {b : Addr} (h : P b) : adds G H P b = H b := by unfold adds; exact if_pos h
theorem adds_out {P : Addr → Prop} {b : Addr} (h : ¬ P b) : adds G H P b = G b := by unfold adds; exact if_neg h
theorem EnvOk.frzAll (ok : EnvOk K pn G H σ ρ) : EnvOk K pn (adds G H (OwnAt σ ρ)) H σ (BK.frzAll ρ) ∧ Ext G H (OwnAt σ ρ) (adds G H (OwnAt σ ρ)) H (fun _ => False) := by
  have gs : Same G (adds G H (OwnAt σ ρ)) := fun b o e => by rw [adds_out (nown_of ok e)]; exact e
  refine ⟨⟨fun b o e => ?_, by unfold BK.frzAll; rw [List.length_map]; exact ok.len, fun j d h => ?_, fun j ds h => (frzAll_no h).elim, fun j k ds es p h => (frzAll_no h).elim, ok.pins⟩, gs, fun a h => ?_, fun a o h _ => h, fun _ h => h.elim⟩
  · by_cases c : OwnAt σ ρ b
    · rw [adds_in c] at e; exact e
    · rw [adds_out c] at e; exact ok.sub b o e
  · unfold BK.frzAll at h
    rw [List.getElem?_map] at h
    cases e : ρ[j]? with
    | none => rw [e] at h; cases h
    | some s =>
      rw [e] at h
      cases s with
      | un => cases h
      | dt d' =>
        cases h
        obtain ⟨v, a, b⟩ := ok.dt j _ e
        exact ⟨v, a, b.mono gs⟩
      | ol ds =>
        cases h
        obtain ⟨p, vs, a, b, c, q⟩ := ok.ol j ds e
        exact ⟨_, a, .lst (SqL.of (by rw [adds_in ⟨j, ds, e, a⟩]; exact b)) (q.mono gs)⟩
  · by_cases c : OwnAt σ ρ a
    · exact .inr (.inr c)
    · rw [adds_out c] at h; exact .inl h
theorem RelAt.frz (rel : RelAt K C G H r R) (ok : EnvOk K pn G H σ ρ) (n : ∀ b, r.O b → ¬ OwnAt σ ρ b) : RelAt K C (adds G H (OwnAt σ ρ)) H r R ∧ ∀ b, r.O b → ¬ OwnAt σ (BK.frzAll ρ) b :=
  ⟨(rel.ext (EnvOk.frzAll ok).2 n).1, fun b _ ⟨j, ds, h, _⟩ => frzAll_no h⟩
/-- behind such a reading: a temp of atoms or no temp -/
theorem view2_out {Gv G' H' : Hp} {ρf ρ' : Rho} {Ov : Addr → Prop} {tv : List (Option V)} {ts : List Sl} (ok : EnvOk K [(i, r.a)] G H σ ρf) (nof : ∀ (j : Nat) (ds : List D), ρf[j]? ≠ some (.ol ds)) (rel : RelAt K C G H r R) (hO : ∀ a, ¬ Ov a)
    (ok' : EnvOk K [(i, r.a)] G' H' (σ ++ tv) (ρ' ++ ts)) (one : ts.length ≤ 1) (lt : tv.length = ts.length) (x : Ext Gv H Ov G' H' (OwnAt (σ ++ tv) (ρ' ++ ts))) (at_ : ∀ s ∈ ts, atomS s = true) :
    EnvOk K [(i, r.a)] G H' (σ ++ tv) (ρf ++ ts) ∧ RelAt K C G H' r R ∧ (∀ b, r.O b → ¬ OwnAt (σ ++ tv) (ρf ++ ts) b) ∧ ∀ P : Addr → Prop, Ext G H P G H' (fun b => OwnAt (σ ++ tv) (ρf ++ ts) b ∨ P b) := by
  have hl := ok.len
  have hl' : σ.length = ρ'.length := by have := ok'.len; simp [lt] at this; exact this
  have keep : ∀ b o, H b = some o → H' b = some o := fun b o e => x.keep b o e (hO b)
  have src : ∀ {j : Nat} {s : Sl}, (ρf ++ ts)[j]? = some s → (j < ρf.length ∧ ρf[j]? = some s ∧ (σ ++ tv)[j]? = σ[j]?) ∨ (j = ρf.length ∧ s ∈ ts ∧ (ρ' ++ ts)[j]? = some s) := fun {j s} h => by
    by_cases c : j < ρf.length
    · rw [get_append_lt c] at h; exact .inl ⟨c, h, get_append_lt (by omega)⟩
    · have e := h
      rw [List.getElem?_append_right (by omega)] at h
      have m := lt_of_get h
      have ej : j = ρf.length := by omega
      refine .inr ⟨ej, List.mem_of_getElem? h, ?_⟩
      rw [List.getElem?_append_right (by omega), show j - ρ'.length = j - ρf.length by omega]; exact h
  have fresh : ∀ {j : Nat} {ds : List D} {p : Addr}, (ρ' ++ ts)[j]? = some (.ol ds) → (σ ++ tv)[j]? = some (some (.ref p)) → H p = none := fun h1 h2 => (x.own _ ⟨_, _, h1, h2⟩).elim (fun z => (hO _ z).elim) id
  obtain ⟨kvs, e1, d1⟩ := rel.h1
  refine ⟨⟨fun b o e => keep b o (ok.sub b o e), by simp [hl, lt], fun j d h => ?_, fun j ds h => ?_, fun j k ds es p h1 h2 h3 h4 => ?_, fun q hq => ?_⟩, ⟨keep _ _ rel.ia, keep _ _ rel.id, ⟨kvs, keep _ _ e1, d1⟩, keep _ _ rel.h2, keep _ _ rel.hl, rel.no, rel.ne⟩, fun b o ⟨j, ds, h1, h2⟩ => ?_, fun P => ⟨Same.refl _, fun _ h => .inl h, fun b o e _ => keep b o e, fun b z => ?_⟩⟩
  · rcases src h with ⟨c, h, e⟩ | ⟨c, m, h⟩
    · obtain ⟨v, a, b⟩ := ok.dt j d h
      exact ⟨v, by rw [e]; exact a, b⟩
    · obtain ⟨v, a, b⟩ := ok'.dt j d h
      exact ⟨v, a, atom_any b (at_ _ m)⟩
  · rcases src h with ⟨c, h, e⟩ | ⟨c, m, h⟩
    · exact (nof j ds h).elim
    · obtain ⟨p, vs, a, b, c', d⟩ := ok'.ol j ds h
      exact ⟨p, vs, a, b, Same.free ok.sub (fresh h a), atoms_any d (at_ _ m)⟩
  · rcases src h1 with ⟨_, h, _⟩ | ⟨c, _⟩
    · exact (nof j ds h).elim
    · rcases src h2 with ⟨_, h, _⟩ | ⟨c2, _⟩
      · exact (nof k es h).elim
      · rw [c, c2]
  · have := ok.pins q hq
    rw [get_append_lt (lt_of_get this)]; exact this
  · rcases src h1 with ⟨_, h, _⟩ | ⟨c, m, h⟩
    · exact nof j ds h
    · exact rel.some_ o (fresh h h2)
  · rcases z with ⟨j, ds, h1, h2⟩ | z
    · rcases src h1 with ⟨_, h, _⟩ | ⟨c, m, h⟩
      · exact (nof j ds h).elim
      · exact .inr (fresh h h2)
    · exact .inl z
end
noncomputable def viewE2 (C : Addr) (i : Nat) (f : M Sl) : ER Sl := fun R ρ => match f ((frzAll ρ).set i (.dt (relD C R))) with
  | some (.val s ρ') => @ite _ (ρ' = (frzAll ρ).set i (.dt (relD C R)) ∧ atomS s = true) (Classical.propDecidable _) (some (s, frzAll ρ, R)) none
  | _ => none
noncomputable def viewT2 (C : Addr) (i : Nat) (f : M Bool) : ER Bool := fun R ρ => match f ((frzAll ρ).set i (.dt (relD C R))) with
  | some (.val s ρ') => @ite _ (ρ' = (frzAll ρ).set i (.dt (relD C R))) (Classical.propDecidable _) (some (s, frzAll ρ, R)) none
  | _ => none
theorem viewE2_eq {C : Addr} {i : Nat} {f : M Sl} {R : RS} {ρ : Rho} {s : Sl} (h : f ((frzAll ρ).set i (.dt (relD C R))) = some (.val s ((frzAll ρ).set i (.dt (relD C R))))) (a : atomS s = true) : viewE2 C i f R ρ = some (s, frzAll ρ, R) := by
  unfold viewE2; rw [h]; exact if_pos ⟨rfl, a⟩
theorem viewT2_eq {C : Addr} {i : Nat} {f : M Bool} {R : RS} {ρ : Rho} {s : Bool} (h : f ((frzAll ρ).set i (.dt (relD C R))) = some (.val s ((frzAll ρ).set i (.dt (relD C R))))) : viewT2 C i f R ρ = some (s, frzAll ρ, R) := by
  unfold viewT2; rw [h]; exact if_pos rfl
section
variable {X : Cx} {C : Addr} {i : Nat} {pos : Pos}
theorem per_view2 {a : Expr} {f : M Sl} (h : ∀ pn, (∀ q ∈ pn, q.1 ∈ [i]) → PE X a (tE X.K pn E00 f)) : PE X a (tER X.K C i (viewE2 C i f)) := ⟨fun pins s σ H Q I ⟨G, ρ, r, R, ok, rel, n, un, p⟩ => by
  obtain ⟨okf, xf⟩ := EnvOk.frzAll ok
  obtain ⟨relf, nf⟩ := RelAt.frz rel ok n
  obtain ⟨okv, hO⟩ := view_in okf relf nf (frzAll_un_at un)
  refine (h [(i, r.a)] (fun q hq => by simp at hq; simp [hq])).run pins s σ H Q I ⟨_, _, okv, ?_⟩
  unfold viewE2 at p
  cases e : f ((frzAll ρ).set i (.dt (relD C R))) with
  | none => rw [e] at p; exact p
  | some x =>
    rw [e] at p
    cases x with
    | exc _ _ => exact p.elim
    | val s ρ' =>
      intro v G' H' ok' x'
      simp only at p
      split at p
      · rename_i z
        obtain ⟨z0, z1⟩ := z
        obtain ⟨a, b, c, d⟩ := view2_out (ρf := frzAll ρ) okf (fun j ds h => frzAll_no h) relf (fun a o => let ⟨j, ds, h1, h2⟩ := hO a o; frzAll_no h1) ok' (by simp) rfl x' (by simpa using z1)
        refine p v _ H' a b c ((xf.wide (P := r.O)).trans ?_)
        have dd := d r.O
        exact ⟨dd.grow, fun _ z => (dd.fresh _ z).elim .inl fun z => z.elim (fun z => .inr (.inl z)) fun z => .inr (.inr (.inr z)), fun b o e q => dd.keep b o e fun z => q (.inr z), fun b q => (dd.own b q).imp .inr id⟩
      · exact p.elim⟩
theorem ptr_view2 {a : Expr} {f : M Bool} (h : ∀ pn, (∀ q ∈ pn, q.1 ∈ [i]) → PT X a (tT X.K pn E00 f)) : PT X a (tTR X.K C i (viewT2 C i f)) := ⟨fun pins s σ H Q I ⟨G, ρ, r, R, ok, rel, n, un, p⟩ => by
  obtain ⟨okf, xf⟩ := EnvOk.frzAll ok
  obtain ⟨relf, nf⟩ := RelAt.frz rel ok n
  obtain ⟨okv, hO⟩ := view_in okf relf nf (frzAll_un_at un)
  refine (h [(i, r.a)] (fun q hq => by simp at hq; simp [hq])).run pins s σ H Q I ⟨_, _, okv, ?_⟩
  unfold viewT2 at p
  cases e : f ((frzAll ρ).set i (.dt (relD C R))) with
  | none => rw [e] at p; exact p
  | some x =>
    rw [e] at p
    cases x with
    | exc _ _ => exact p.elim
    | val s ρ' =>
      intro G' H' ok' x'
      simp only at p
      split at p
      · obtain ⟨a, b, c, d⟩ := view2_out (ρf := frzAll ρ) (tv := []) (ts := []) okf (fun j ds h => frzAll_no h) relf (fun a o => let ⟨j, ds, h1, h2⟩ := hO a o; frzAll_no h1) (by rw [List.append_nil, List.append_nil]; exact ok') (by simp) rfl (by rw [List.append_nil, List.append_nil]; exact x') (by simp)
        rw [List.append_nil, List.append_nil] at a
        refine p _ H' a b (fun b o z => c b o (by rw [List.append_nil, List.append_nil]; exact z)) ((xf.wide (P := r.O)).trans ?_)
        have dd := d r.O
        rw [List.append_nil, List.append_nil] at dd
        exact ⟨dd.grow, fun _ z => (dd.fresh _ z).elim .inl fun z => z.elim (fun z => .inr (.inl z)) fun z => .inr (.inr (.inr z)), fun b o e q => dd.keep b o e fun z => q (.inr z), fun b q => (dd.own b q).imp .inr id⟩
      · exact p.elim⟩
def setR (j : Nat) (f : ER Sl) : MR := fun R ρ => match f R ρ with | some (s, ρ', R') => if j < ρ'.length then some (.nx (ρ'.set j s), R') else none | none => none
theorem psr_set {j : Nat} {x : Str} {e : Expr} {f : ER Sl} {pos' : Pos} (hp : j ≠ i) (hN : X.N.Nodup) (hi : X.N[j]? = some x) (hx : Loc X.env.scope x) (he : PE X e (tER X.K C i f)) (hs : swapsWith e (some (.Name x pos')) pos.line X.env = pure false := by rfl)
    (hf : X.fn x = true ∨ X.env.scope.names.lookup x = some .local := by first | exact .inl rfl | exact .inr rfl | assumption) : PS X (.Assign [.Name x pos'] e pos) (tR X.K C i (setR j f)) :=
  (ps_set hN hi hx he hs hf).imp fun D σ H ⟨G, ρ, r, R, ok, rel, n, un, p⟩ => ⟨G, ρ, r, R, ok, rel, n, un, by
    unfold setR at p
    cases e : f R ρ with
    | none => rw [e] at p; exact p
    | some x =>
      obtain ⟨s, ρ1, R1⟩ := x
      rw [e] at p
      intro v G1 H1 ok1 rel1 n1 x1
      simp only at p
      split at p
      · rename_i c
        obtain ⟨ok2, sub⟩ := ok1.setSlot c fun q hq => ⟨fun z => hp (by simp at hq; rw [hq] at z; exact z.symm), ok.pinLt q hq⟩
        exact p _ G1 H1 ok2 rel1 (fun b o z => n1 b o (sub b z)) ⟨x1.grow, x1.fresh, x1.keep, fun b z => x1.own b (z.imp (sub b) id)⟩
      · exact p.elim⟩
end
def runR (n np : Nat) (m : MR) : FR := fun R ds => if ds.length + 1 = np ∧ np ≤ n then
    match m R (.un :: ds.map .dt ++ List.replicate (n - np) .un) with
    | some (.nx _, R') => some (.non, R')
    | some (.rt s _, R') => (match s.frz with | some d => some (d, R') | none => none)
    | _ => none
  else none
theorem EnvOk.consUn {K : PySem.W.Frag} {G H : Hp} {σ : St} {ρ : Rho} {a : Addr} (ok : EnvOk K [] G H σ ρ) : EnvOk K [(0, a)] G H (some (.ref a) :: σ) (.un :: ρ) := by
  refine ⟨ok.sub, by simp [ok.len], fun i d h => ?_, fun i ds h => ?_, fun i j ds es p h1 h2 h3 h4 => ?_, fun q hq => ?_⟩
  · cases i with
    | zero => cases h
    | succ i => exact ok.dt i d h
  · cases i with
    | zero => cases h
    | succ i => exact ok.ol i ds h
  · cases i with
    | zero => cases h1
    | succ i =>
      cases j with
      | zero => cases h2
      | succ j => rw [ok.inj i j ds es p h1 h2 h3 h4]
  · simp at hq; subst hq; rfl
section
variable {P : Program} {w : World} {K : PySem.W.Frag} {mg : Str → Option Value} {base : Heap}
theorem okR {C : Addr} {x qual : Str} {st : Stmt} {f : Addr} {fd : FuncData} {N ps : List Str} {k : Nat} {m : MR} (F : Fun K x qual st f fd) (S : FnScope N ps (defScope st))
    (body : ∀ (cdv : Value) (A : Around) (outer : List Env) (s : Shared) (H : Hp) (E : XK), Room k (A.deeper (PyProof.Rows.envOfC qual (defScope st) s.heap.objs.size f cdv)) →
      PSs (cxOf CX0 P w K mg base N qual (defScope st) f cdv A outer s H E).nox (defBody st) (tR K C 0 m)) :
    FnOk P w K mg base CX0 (k + 1) f fd ps (SpR K C (runR N.length ps.length m)) := by
  refine F.ok S (fun vs H Q E h => ?_) (fun cdv A outer s H vs Q E hr h => ?_)
  · obtain ⟨G, r, R, ds, ws, rfl, _, _, hd, h⟩ := h
    unfold runR at h
    by_cases c : ds.length + 1 = ps.length ∧ ps.length ≤ N.length
    · rw [List.length_cons, hd.length]; exact c.1
    · rw [if_neg c] at h; exact h.elim
  · obtain ⟨G, r, R, ds, ws, rfl, sub, rel, hd, h⟩ := h
    unfold runR at h
    by_cases c : ds.length + 1 = ps.length ∧ ps.length ≤ N.length
    rotate_left
    · rw [if_neg c] at h; exact h.elim
    rw [if_pos c] at h
    have hl := hd.length
    have ok0 := (EnvOk.consUn (a := r.a) (EnvOk.args sub hd)).start (N.length - ps.length)
    have e : L2.start N (.ref r.a :: ws) = (some (.ref r.a) :: ws.map some) ++ List.replicate (N.length - ps.length) none := by
      unfold L2.start
      rw [List.map_cons, List.length_cons, hl, c.1]
    have none_ : ∀ b, ¬ OwnAt ((some (.ref r.a) :: ws.map some) ++ List.replicate (N.length - ps.length) none) ((Sl.un :: ds.map Sl.dt) ++ List.replicate (N.length - ps.length) Sl.un) b := fun b o => by
      have := (own_start (by simp [hl]) _).mp o
      obtain ⟨i, es, h1, h2⟩ := this
      cases i with
      | zero => cases h1
      | succ i => exact noOwn_dts (vs := ws.map some) (ds := ds) (a := b) ⟨i, es, h1, h2⟩
    have conv : ∀ {G' H' : Hp} {O' : Addr → Prop}, Ext G H (fun b => OwnAt ((some (.ref r.a) :: ws.map some) ++ List.replicate (N.length - ps.length) none) ((Sl.un :: ds.map Sl.dt) ++ List.replicate (N.length - ps.length) Sl.un) b ∨ r.O b) G' H' O' → Ext G H r.O G' H' r.O := fun x =>
      ⟨x.grow, fun a q => (x.fresh a q).elim .inl fun z => z.elim (fun z => .inr (.inl z)) fun z => z.elim (fun z => (none_ a z).elim) fun z => .inr (.inr z), fun a o q n => x.keep a o q fun z => z.elim (none_ a) n, fun a q => .inl q⟩
    refine ⟨_, body cdv A outer s H E hr, ?_⟩
    rw [e]
    refine ⟨G, _, r, R, ok0, rel, fun b o => none_ b, rfl, ?_⟩
    cases em : m R ((Sl.un :: ds.map Sl.dt) ++ List.replicate (N.length - ps.length) Sl.un) with
    | none => rw [em] at h; exact h.elim
    | some z =>
      obtain ⟨z, R'⟩ := z
      rw [em] at h
      cases z with
      | nx ρ' => exact fun σ' G' H' a b n x => h .non G' H' a.sub b .non (conv x)
      | rt s ρ' =>
        intro v σ' G' H' a b n x
        cases es : s.frz with
        | none => simp only [es] at h
        | some d =>
          simp only [es] at h
          have a0 : EnvOk K [] G' H' (σ' ++ [some v]) (ρ' ++ [s]) := ⟨a.sub, a.len, a.dt, a.ol, a.inj, fun q hq => by simp at hq⟩
          obtain ⟨G2, ok2, dt2, x2⟩ := a0.freeze (fun q hq => by simp at hq) es
          obtain ⟨rel2, _⟩ := b.ext x2 n
          exact h v G2 H' ok2.sub rel2 dt2 (conv (x.trans x2.wide))
      | bk _ => exact h.elim
      | ct _ => exact h.elim
      | exc _ _ => exact h.elim
end
end BK

/-! A def that makes the object and works with it to its end. -/
namespace BK
open PySem L2 BT
theorem SpR.imp {K : PySem.W.Frag} {C : Addr} {F F' : FR} (h : ∀ R ds x, F R ds = some x → F' R ds = some x) {vs : List V} {H : Hp} {Q : VK} {E : XK} (s : SpR K C F vs H Q E) : SpR K C F' vs H Q E := by
  obtain ⟨G, r, R, ds, ws, a, b, c, d, p⟩ := s
  refine ⟨G, r, R, ds, ws, a, b, c, d, ?_⟩
  cases e : F R ds with
  | none => rw [e] at p; exact p.elim
  | some x => rw [e] at p; rw [h R ds x e]; exact p
theorem pnil {pn : List (Nat × Addr)} (h : ∀ q ∈ pn, q.1 ∈ ([] : List Nat)) : pn = [] := by
  cases pn with
  | nil => rfl
  | cons q r => exact absurd (h q (by simp)) (by simp)
def mkS (i : Nat) (m : MR) : MS := fun ρ => if unAt i ρ = true then (match m RS.nil ρ with
  | some (.rt s ρ', _) => some (.rt s ρ')
  | some (.nx ρ', _) => some (.nx ρ')
  | _ => none) else none
section
variable {X : Cx} {C : Addr} {i : Nat} {pos : Pos}
theorem psx_make {k : Nat} {f : Addr} {fd : FuncData} {ps : List Str} {x y : Str} {p pos' pos2 : Pos} {rest : List Stmt} {m : MR} {E : XK} {pn : List (Nat × Addr)} (hpn : pn = []) (M : Mk X.K C f) (F : FnOk X.prog X.w X.K X.mg X.base CX0 k f fd ps (SpInit X.K C)) (hr : Room (k + 1) X.A) (hm : X.mg y = some (.ref C)) (hb : Binds X.K fd ps [])
    (hN : X.N.Nodup) (hi : X.N[i]? = some x) (hx : Loc X.env.scope x) (hrest : PSs X rest (tR X.K C i m)) (hg : Gl X y := by rfl) (hdb : (y == ("__debug__" : Str)) = false := by decide)
    (hs : swapsWith (.Call (.Name y p) [] [] pos) (some (.Name x pos')) pos2.line X.env = pure false := by rfl) (hf : X.fn x = true ∨ X.env.scope.names.lookup x = some .local := by first | exact .inl rfl | exact .inr rfl | assumption) :
    PSs X (.Assign [.Name x pos'] (.Call (.Name y p) [] [] pos) pos2 :: rest) (tS X.K pn E (mkS i m)) :=
  (pss_cons (ps_set hN hi hx (pe_make0 M F hr hg hm hb .nil pass0 hdb) hs hf) hrest).imp fun D σ H ⟨G, ρ, ok, h⟩ => by
    subst hpn
    unfold mkS at h
    by_cases un : unAt i ρ = true
    rotate_left
    · rw [if_neg un] at h; exact h.elim
    rw [if_pos un] at h
    have un := unAt_iff.mp un
    have hl := ok.len
    have li : i < σ.length := by rw [hl]; exact lt_of_get un
    intro a dx ha hdx ne
    refine ⟨a, dx, rfl, upd_same, by rw [upd_ne ne]; exact upd_same, fun H' r ra rdx keep h1 h2 hL n12 ia e1 e2 eL => ⟨rfl, ?_⟩⟩
    subst ra; subst rdx
    show tR X.K C i m D (σ.set i (some (.ref r.a))) H'
    have free : ∀ {b : Addr}, upd (upd H r.dx (.own r.a)) r.a (.ins C r.dx []) b = none → H b = none := fun {b} e => by
      by_cases c1 : b = r.a
      · subst c1; exact ha
      · by_cases c2 : b = r.dx
        · subst c2; exact hdx
        · rw [upd_ne c1, upd_ne c2] at e; exact e
    have old : ∀ {b : Addr} {o : HO}, H b = some o → H' b = some o := fun {b o} e => by
      have c1 := ne_of_none e ha
      have c2 := ne_of_none e hdx
      exact keep b o (by rw [upd_ne c1, upd_ne c2]; exact e) c1
    have no : ∀ b, r.O b → H b = none := fun b o => by
      rcases o with rfl | rfl | rfl | rfl | rfl
      · exact ha
      · exact hdx
      · exact free h1
      · exact free h2
      · exact free hL
    have ok1 : EnvOk X.K [(i, r.a)] G H' (σ.set i (some (.ref r.a))) ρ := by
      have at_ : ∀ {j : Nat} {s : Sl}, ρ[j]? = some s → s ≠ .un → (σ.set i (some (.ref r.a)))[j]? = σ[j]? := fun {j s} e n => List.getElem?_set_ne (fun z => by subst z; rw [un] at e; cases e; exact n rfl)
      refine ⟨fun b o e => old (ok.sub b o e), by rw [List.length_set]; exact hl, fun j d e => ?_, fun j ds e => ?_, fun j l ds es p e1 e2 e3 e4 => ?_, fun q hq => ?_⟩
      · obtain ⟨v, a1, a2⟩ := ok.dt j d e
        exact ⟨v, by rw [at_ e (by simp)]; exact a1, a2⟩
      · obtain ⟨p, vs, a1, a2, a3, a4⟩ := ok.ol j ds e
        exact ⟨p, vs, by rw [at_ e (by simp)]; exact a1, old a2, a3, a4⟩
      · rw [at_ e1 (by simp)] at e3; rw [at_ e2 (by simp)] at e4
        exact ok.inj j l ds es p e1 e2 e3 e4
      · simp at hq; subst hq
        exact List.getElem?_set_self li
    have own1 : ∀ b, OwnAt (σ.set i (some (.ref r.a))) ρ b → OwnAt σ ρ b := fun b ⟨j, ds, z1, z2⟩ => ⟨j, ds, z1, by
      rw [List.getElem?_set_ne (fun z => by subst z; rw [un] at z1; cases z1)] at z2; exact z2⟩
    have disj : ∀ b, r.O b → ¬ OwnAt (σ.set i (some (.ref r.a))) ρ b := fun b o z => by
      obtain ⟨j, ds, z1, z2⟩ := own1 b z
      obtain ⟨p, vs, a1, a2, _⟩ := ok.ol j ds z1
      rw [z2] at a1; cases a1
      rw [no b o] at a2; cases a2
    have rel : RelAt X.K C G H' r RS.nil := ⟨ia, keep _ _ (by rw [upd_ne ne]; exact upd_same) ne, ⟨[], e1, .nil⟩, e2, eL, fun b o => Same.free ok.sub (no b o), n12⟩
    have conv : ∀ {G2 H2 : Hp} {σ2 : St} {ρ2 : Rho}, Ext G H' (fun b => OwnAt (σ.set i (some (.ref r.a))) ρ b ∨ r.O b) G2 H2 (fun b => OwnAt σ2 ρ2 b ∨ r.O b) → Ext G H (OwnAt σ ρ) G2 H2 (OwnAt σ2 ρ2) := fun {G2 H2 σ2 ρ2} x => by
      have back : ∀ {b : Addr}, H' b = none → H b = none := fun {b} e => by
        cases c : H b with
        | none => rfl
        | some o => rw [old c] at e; cases e
      refine ⟨x.grow, fun b e => ?_, fun b o e n => x.keep b o (old e) (fun z => z.elim (fun z => n (own1 b z)) fun z => by rw [no b z] at e; cases e), fun b z => ?_⟩
      · rcases x.fresh b e with z | z | z | z
        · exact .inl z
        · exact .inr (.inl (back z))
        · exact .inr (.inr (own1 b z))
        · exact .inr (.inl (no b z))
      · rcases x.own b (.inl z) with (z | z) | z
        · exact .inl (own1 b z)
        · exact .inr (no b z)
        · exact .inr (back z)
    refine ⟨G, ρ, r, RS.nil, ok1, rel, disj, un, ?_⟩
    have drop : ∀ {G2 H2 : Hp} {σ2 : St} {ρ2 : Rho}, EnvOk X.K [(i, r.a)] G2 H2 σ2 ρ2 → EnvOk X.K [] G2 H2 σ2 ρ2 := fun o => ⟨o.sub, o.len, o.dt, o.ol, o.inj, fun q hq => by simp at hq⟩
    cases em : m RS.nil ρ with
    | none => rw [em] at h; exact h.elim
    | some z =>
      obtain ⟨z, R'⟩ := z
      rw [em] at h
      cases z with
      | nx ρ' => exact fun σ' G' H2 o1 _ _ x => h σ' G' H2 (drop o1) (conv x)
      | rt s ρ' => exact fun v σ' G' H2 o1 _ _ x => h v σ' G' H2 (drop o1) (conv x)
      | bk _ => exact h.elim
      | ct _ => exact h.elim
      | exc _ _ => exact h.elim
end
end BK

/-! Objects of one's own aside of the data, of any kind: read as data, changed by rules of their own. -/
namespace BZ
open PySem L2 BT BK
/-- a kind of things that stand aside: S their states, pn the slots that hold them, O their addresses -/
structure Zk (K : PySem.W.Frag) where
  S : Type
  pn : List (Nat × Addr)
  O : Addr → Prop
  At : S → Hp → Prop
  dat : S → Nat → Option D
  loc : ∀ {s : S} {H H' : Hp}, At s H → (∀ b o, O b → H b = some o → H' b = some o) → At s H'
  some_ : ∀ {s : S} {H : Hp} {b : Addr}, At s H → O b → H b ≠ none
  dts : ∀ {s : S} {H G' : Hp}, At s H → (∀ b o, O b → H b = some o → G' b = some o) → ∀ i d, dat s i = some d → ∃ a, (i, a) ∈ pn ∧ Dt K G' (.ref a) d
variable {K : PySem.W.Frag} {Z : Zk K}
/-- the state with the things as data -/
def vw (Z : Zk K) (s : Z.S) (ρ : Rho) : Rho := ρ.mapIdx fun i x => match Z.dat s i with | some d => .dt d | none => x
def unZ (Z : Zk K) (ρ : Rho) : Prop := ∀ q ∈ Z.pn, ρ[q.1]? = some .un
/-- what stands between the parts of a state -/
structure Ok (Z : Zk K) (G H : Hp) (σ : St) (ρ : Rho) (s : Z.S) : Prop where
  env : EnvOk K Z.pn G H σ ρ
  at_ : Z.At s H
  no : ∀ b, Z.O b → G b = none
  disj : ∀ b, Z.O b → ¬ OwnAt σ ρ b
abbrev MZ (Z : Zk K) := Z.S → Rho → Option (SRs × Z.S)
section
variable (Z) (E : XK)
def PostZ (G0 H0 : Hp) (O0 : Addr → Prop) (r : Option (SRs × Z.S)) (D : Ends) : Prop := match r with
  | some (.nx ρ', s') => ∀ σ' G' H', Ok Z G' H' σ' ρ' s' → Ext G0 H0 O0 G' H' (fun b => OwnAt σ' ρ' b ∨ Z.O b) → D.nx σ' H'
  | some (.rt x ρ', s') => ∀ v σ' G' H', EnvOk K [] G' H' (σ' ++ [some v]) (ρ' ++ [x]) → Ext G0 H0 O0 G' H' (fun b => OwnAt (σ' ++ [some v]) (ρ' ++ [x]) b ∨ Z.O b) → D.rt v H'
  | _ => False
def tZ (f : MZ Z) : TS := fun D σ H => ∃ G ρ s, Ok Z G H σ ρ s ∧ unZ Z ρ ∧ PostZ Z G H (fun b => OwnAt σ ρ b ∨ Z.O b) (f s ρ) D
end
theorem PostZ.at {G0 H0 G H : Hp} {O0 O : Addr → Prop} {r : Option (SRs × Z.S)} {D : Ends} (h : PostZ Z G0 H0 O0 r D) (x : Ext G0 H0 O0 G H O) : PostZ Z G H O r D := by
  unfold PostZ at h ⊢
  split at h
  · exact fun s G' H' a b => h s G' H' a (x.trans b)
  · exact fun v s G' H' a e => h v s G' H' a (x.trans e)
  · exact h.elim
/-- kept through what does not own it -/
theorem Ok.ext {G H G' H' : Hp} {O O' : Addr → Prop} {s : Z.S} (at_ : Z.At s H) (no : ∀ b, Z.O b → G b = none) (x : Ext G H O G' H' O') (n : ∀ b, Z.O b → ¬ O b) : Z.At s H' ∧ (∀ b, Z.O b → G' b = none) ∧ ∀ b, Z.O b → ¬ O' b := by
  refine ⟨Z.loc at_ fun b o ob e => x.keep b o e (n b ob), fun b ob => ?_, fun b ob q => ?_⟩
  · cases eg : G' b with
    | none => rfl
    | some u =>
      rcases x.fresh b (by rw [eg]; simp) with q | q | q
      · exact absurd (no b ob) q
      · exact absurd q (Z.some_ at_ ob)
      · exact absurd q (n b ob)
  · rcases x.own b q with q | q
    · exact n b ob q
    · exact Z.some_ at_ ob q
open Classical in
noncomputable def frmZ (Z : Zk K) (f : MS) : MZ Z := fun s ρ => match f ρ with
  | some (.nx ρ') => if unZ Z ρ' then some (.nx ρ', s) else none
  | some (.rt x ρ') => some (.rt x ρ', s)
  | _ => none
open Classical in
noncomputable def sqZ (Z : Zk K) (f g : MZ Z) : MZ Z := fun s ρ => match f s ρ with
  | some (.nx ρ', s') => if unZ Z ρ' then g s' ρ' else none
  | x => x
def nxZ : MZ Z := fun s ρ => some (.nx ρ, s)
section
variable {X : Cx} {Z : Zk X.K} {pos : Pos}
theorem psz_frame {st : Stmt} {f : MS} (h : PS X st (tS X.K Z.pn E00 f)) : PS X st (tZ Z (frmZ Z f)) := h.imp fun D σ H ⟨G, ρ, s, ok, un, p⟩ => by
  refine ⟨G, ρ, ok.env, ?_⟩
  unfold frmZ at p
  cases e : f ρ with
  | none => rw [e] at p; exact p
  | some x =>
    rw [e] at p
    cases x with
    | nx ρ' =>
      intro σ' G' H' ok' x'
      simp only at p
      split at p
      · obtain ⟨a, b, c⟩ := Ok.ext ok.at_ ok.no x' ok.disj
        exact p σ' G' H' ⟨ok', a, b, c⟩ x'.wide
      · exact p.elim
    | rt y ρ' =>
      intro v σ' G' H' ok' x'
      exact p v σ' G' H' ⟨ok'.sub, ok'.len, ok'.dt, ok'.ol, ok'.inj, fun q hq => by simp at hq⟩ x'.wide
    | bk _ => exact p.elim
    | ct _ => exact p.elim
    | exc _ _ => exact p.elim
theorem psz_nil : PSs X [] (tZ Z nxZ) := pss_nil.imp fun D σ H ⟨G, ρ, s, ok, un, p⟩ => p σ G H ok Ext.refl
theorem psz_cons {st : Stmt} {rest : List Stmt} {f g : MZ Z} (h1 : PS X st (tZ Z f)) (h2 : PSs X rest (tZ Z g)) : PSs X (st :: rest) (tZ Z (sqZ Z f g)) :=
  (pss_cons h1 h2).imp fun D σ H ⟨G, ρ, s, ok, un, p⟩ => by
    refine ⟨G, ρ, s, ok, un, ?_⟩
    unfold sqZ at p
    cases e : f s ρ with
    | none => rw [e] at p; exact p
    | some x =>
      rw [e] at p
      obtain ⟨x, s'⟩ := x
      cases x with
      | nx ρ' =>
        intro σ' G' H' a b
        simp only at p
        split at p
        · rename_i z
          exact ⟨G', ρ', s', a, z, p.at b⟩
        · exact p.elim
      | rt _ _ => exact p
      | bk _ => exact p
      | ct _ => exact p
      | exc _ _ => exact p
theorem psz_one {st : Stmt} {f : MZ Z} (h1 : PS X st (tZ Z f)) : PSs X [st] (tZ Z f) := pss_one h1
end

/-! ### tests and expressions that read the things as data -/
abbrev EZ (Z : Zk K) (α : Type) := Z.S → Rho → Option (α × Rho)
section
variable (Z)
def PostEZ (σ : St) (s : Z.S) (G0 H0 : Hp) (O0 : Addr → Prop) (r : Option (Sl × Rho)) (Q : VK) : Prop := match r with
  | some (x, ρ') => ∀ v G' H', EnvOk K Z.pn G' H' (σ ++ [some v]) (ρ' ++ [x]) → Z.At s H' → (∀ b, Z.O b → G' b = none) → (∀ b, Z.O b → ¬ OwnAt (σ ++ [some v]) (ρ' ++ [x]) b) → Ext G0 H0 O0 G' H' (fun b => OwnAt (σ ++ [some v]) (ρ' ++ [x]) b ∨ Z.O b) → Q v H'
  | none => False
def PostTZ (σ : St) (s : Z.S) (G0 H0 : Hp) (O0 : Addr → Prop) (r : Option (Bool × Rho)) (Q : Bool → Hp → Prop) : Prop := match r with
  | some (x, ρ') => ∀ G' H', Ok Z G' H' σ ρ' s → Ext G0 H0 O0 G' H' (fun b => OwnAt σ ρ' b ∨ Z.O b) → Q x H'
  | none => False
def tEZ (f : EZ Z Sl) : TE := fun σ H Q => ∃ G ρ s, Ok Z G H σ ρ s ∧ unZ Z ρ ∧ PostEZ Z σ s G H (fun b => OwnAt σ ρ b ∨ Z.O b) (f s ρ) Q
def tTZ (f : EZ Z Bool) : TT := fun σ H Q => ∃ G ρ s, Ok Z G H σ ρ s ∧ unZ Z ρ ∧ PostTZ Z σ s G H (fun b => OwnAt σ ρ b ∨ Z.O b) (f s ρ) Q
end
open Classical in
noncomputable def viewE (Z : Zk K) (f : M Sl) : EZ Z Sl := fun s ρ => match f (vw Z s (frzAll ρ)) with
  | some (.val x ρ') => if ρ' = vw Z s (frzAll ρ) ∧ atomS x = true then some (x, frzAll ρ) else none
  | _ => none
open Classical in
noncomputable def viewT (Z : Zk K) (f : M Bool) : EZ Z Bool := fun s ρ => match f (vw Z s (frzAll ρ)) with
  | some (.val x ρ') => if ρ' = vw Z s (frzAll ρ) then some (x, frzAll ρ) else none
  | _ => none
theorem vw_get {s : Z.S} {ρ : Rho} {j : Nat} : (vw Z s ρ)[j]? = (ρ[j]?).map fun x => match Z.dat s j with | some d => .dt d | none => x := by
  unfold vw; rw [List.getElem?_mapIdx]
/-- the state in which the things are data -/
theorem Ok.view {G H : Hp} {σ : St} {ρ : Rho} {s : Z.S} (ok : Ok Z G H σ ρ s) (un : unZ Z ρ) (nof : ∀ (j : Nat) (ds : List D), ρ[j]? ≠ some (.ol ds)) : EnvOk K Z.pn H H σ (vw Z s ρ) := by
  have noo : ∀ (j : Nat) (ds : List D), (vw Z s ρ)[j]? ≠ some (.ol ds) := fun j ds h => by
    rw [vw_get] at h
    cases e : ρ[j]? with
    | none => rw [e] at h; cases h
    | some x =>
      rw [e] at h
      simp only [Option.map_some, Option.some.injEq] at h
      split at h
      · cases h
      · rw [h] at e; exact nof j ds e
  refine ⟨Same.refl _, by unfold vw; rw [List.length_mapIdx]; exact ok.env.len, fun j d h => ?_, fun j ds h => (noo j ds h).elim, fun j k ds es p h => (noo j ds h).elim, ok.env.pins⟩
  rw [vw_get] at h
  cases e : ρ[j]? with
  | none => rw [e] at h; cases h
  | some x =>
    rw [e] at h
    simp only [Option.map_some, Option.some.injEq] at h
    split at h
    · rename_i d' ed
      cases h
      obtain ⟨a, m, dt⟩ := Z.dts ok.at_ (G' := H) (fun b o _ e => e) j d ed
      exact ⟨_, ok.env.pins _ m, dt⟩
    · subst h
      obtain ⟨v, a, b⟩ := ok.env.dt j d e
      exact ⟨v, a, b.mono ok.env.sub⟩
section
theorem frzOk {G H : Hp} {σ : St} {ρ : Rho} {s : Z.S} (ok : Ok Z G H σ ρ s) (un : unZ Z ρ) : Ok Z (adds G H (OwnAt σ ρ)) H σ (frzAll ρ) s ∧ unZ Z (frzAll ρ) ∧ Ext G H (OwnAt σ ρ) (adds G H (OwnAt σ ρ)) H (fun _ => False) := by
  obtain ⟨okf, xf⟩ := EnvOk.frzAll ok.env
  obtain ⟨a, b, c⟩ := Ok.ext ok.at_ ok.no xf ok.disj
  exact ⟨⟨okf, a, b, fun b _ ⟨j, ds, h, _⟩ => frzAll_no h⟩, fun q hq => frzAll_un_at (un q hq), xf⟩
/-- behind a reading: a temp of atoms, or none -/
theorem viewZ_out {G H G' H' : Hp} {σ : St} {ρf ρ' : Rho} {s : Z.S} {tv : List (Option V)} {ts : List Sl} (ok : Ok Z G H σ ρf s) (nof : ∀ (j : Nat) (ds : List D), ρf[j]? ≠ some (.ol ds)) (hl : ρ'.length = ρf.length) (noV : ∀ b, ¬ OwnAt σ ρ' b)
    (ok' : EnvOk K Z.pn G' H' (σ ++ tv) (ρ' ++ ts)) (one : ts.length ≤ 1) (lt : tv.length = ts.length) {Ov : Addr → Prop} (hO : ∀ a, ¬ Ov a) (x : Ext H H Ov G' H' (OwnAt (σ ++ tv) (ρ' ++ ts))) (at_ : ∀ y ∈ ts, atomS y = true) :
    EnvOk K Z.pn G H' (σ ++ tv) (ρf ++ ts) ∧ Z.At s H' ∧ (∀ b, Z.O b → ¬ OwnAt (σ ++ tv) (ρf ++ ts) b) ∧ ∀ P : Addr → Prop, Ext G H P G H' (fun b => OwnAt (σ ++ tv) (ρf ++ ts) b ∨ P b) := by
  have l0 := ok.env.len
  have keep : ∀ b o, H b = some o → H' b = some o := fun b o e => x.keep b o e (hO b)
  have src : ∀ {j : Nat} {y : Sl}, (ρf ++ ts)[j]? = some y → (j < ρf.length ∧ ρf[j]? = some y ∧ (σ ++ tv)[j]? = σ[j]?) ∨ (j = ρf.length ∧ y ∈ ts ∧ (ρ' ++ ts)[j]? = some y) := fun {j y} h => by
    by_cases c : j < ρf.length
    · rw [get_append_lt c] at h; exact .inl ⟨c, h, get_append_lt (by omega)⟩
    · rw [List.getElem?_append_right (by omega)] at h
      have m := lt_of_get h
      refine .inr ⟨by omega, List.mem_of_getElem? h, ?_⟩
      rw [List.getElem?_append_right (by omega), hl]; exact h
  have fresh : ∀ {j : Nat} {ds : List D} {p : Addr}, (ρ' ++ ts)[j]? = some (.ol ds) → (σ ++ tv)[j]? = some (some (.ref p)) → H p = none := fun h1 h2 => (x.own _ ⟨_, _, h1, h2⟩).elim (fun z => (hO _ z).elim) id
  refine ⟨⟨fun b o e => keep b o (ok.env.sub b o e), by simp [l0, lt], fun j d h => ?_, fun j ds h => ?_, fun j k ds es p h1 h2 h3 h4 => ?_, fun q hq => ?_⟩, Z.loc ok.at_ fun b o _ e => keep b o e, fun b o ⟨j, ds, h1, h2⟩ => ?_, fun P => ⟨Same.refl _, fun _ h => .inl h, fun b o e _ => keep b o e, fun b z => ?_⟩⟩
  · rcases src h with ⟨c, h, e⟩ | ⟨c, m, h⟩
    · obtain ⟨v, a, b⟩ := ok.env.dt j d h
      exact ⟨v, by rw [e]; exact a, b⟩
    · obtain ⟨v, a, b⟩ := ok'.dt j d h
      exact ⟨v, a, atom_any b (at_ _ m)⟩
  · rcases src h with ⟨c, h, e⟩ | ⟨c, m, h⟩
    · exact (nof j ds h).elim
    · obtain ⟨p, vs, a, b, c', d⟩ := ok'.ol j ds h
      exact ⟨p, vs, a, b, Same.free ok.env.sub (fresh h a), atoms_any d (at_ _ m)⟩
  · rcases src h1 with ⟨_, h, _⟩ | ⟨c, _⟩
    · exact (nof j ds h).elim
    · rcases src h2 with ⟨_, h, _⟩ | ⟨c2, _⟩
      · exact (nof k es h).elim
      · rw [c, c2]
  · have := ok.env.pins q hq
    rw [get_append_lt (lt_of_get this)]; exact this
  · rcases src h1 with ⟨_, h, _⟩ | ⟨c, m, h⟩
    · exact nof j ds h
    · exact Z.some_ ok.at_ o (fresh h h2)
  · rcases z with ⟨j, ds, h1, h2⟩ | z
    · rcases src h1 with ⟨_, h, _⟩ | ⟨c, m, h⟩
      · exact (nof j ds h).elim
      · exact .inr (fresh h h2)
    · exact .inl z
end
end BZ

namespace BZ
open PySem L2 BT BK
variable {X : Cx} {Z : Zk X.K} {pos : Pos}
theorem vw_len {K : PySem.W.Frag} {Z : Zk K} {s : Z.S} {ρ : Rho} : (vw Z s ρ).length = ρ.length := by unfold vw; rw [List.length_mapIdx]
theorem vw_no {K : PySem.W.Frag} {Z : Zk K} {s : Z.S} {ρ : Rho} (nof : ∀ (j : Nat) (ds : List D), ρ[j]? ≠ some (.ol ds)) (σ : St) : ∀ b, ¬ OwnAt σ (vw Z s ρ) b := fun b ⟨j, ds, h, _⟩ => by
  rw [vw_get] at h
  cases e : ρ[j]? with
  | none => rw [e] at h; cases h
  | some x =>
    rw [e] at h
    simp only [Option.map_some, Option.some.injEq] at h
    split at h
    · cases h
    · rw [h] at e; exact nof j ds e
theorem pez_view {a : Expr} {f : M Sl} (h : PE X a (tE X.K Z.pn E00 f)) : PE X a (tEZ Z (viewE Z f)) := h.imp fun σ H Q ⟨G, ρ, s, ok, un, p⟩ => by
  obtain ⟨okf, unf, xf⟩ := frzOk ok un
  have nof : ∀ (j : Nat) (ds : List D), (frzAll ρ)[j]? ≠ some (.ol ds) := fun j ds h => frzAll_no h
  have okv := okf.view unf nof
  refine ⟨H, _, okv, ?_⟩
  unfold viewE at p
  cases e : f (vw Z s (frzAll ρ)) with
  | none => rw [e] at p; exact p
  | some x =>
    rw [e] at p
    cases x with
    | exc _ _ => exact p.elim
    | val y ρ' =>
      intro v G' H' ok' x'
      simp only at p
      split at p
      · rename_i z
        obtain ⟨rfl, z1⟩ := z
        obtain ⟨a, b, c, d⟩ := viewZ_out (ts := [y]) (tv := [some v]) okf nof vw_len (vw_no nof σ) ok' (by simp) rfl (Ov := OwnAt σ (vw Z s (frzAll ρ))) (vw_no nof σ) x' (by simpa using z1)
        refine p v _ H' a b okf.no c ((xf.wide (P := Z.O)).trans ?_)
        have dd := d Z.O
        exact ⟨dd.grow, fun _ z => (dd.fresh _ z).elim .inl fun z => z.elim (fun z => .inr (.inl z)) fun z => .inr (.inr (.inr z)), fun b o e q => dd.keep b o e fun z => q (.inr z), fun b q => (dd.own b q).imp .inr id⟩
      · exact p.elim
theorem ptz_view {a : Expr} {f : M Bool} (h : PT X a (tT X.K Z.pn E00 f)) : PT X a (tTZ Z (viewT Z f)) := h.imp fun σ H Q ⟨G, ρ, s, ok, un, p⟩ => by
  obtain ⟨okf, unf, xf⟩ := frzOk ok un
  have nof : ∀ (j : Nat) (ds : List D), (frzAll ρ)[j]? ≠ some (.ol ds) := fun j ds h => frzAll_no h
  have okv := okf.view unf nof
  refine ⟨H, _, okv, ?_⟩
  unfold viewT at p
  cases e : f (vw Z s (frzAll ρ)) with
  | none => rw [e] at p; exact p
  | some x =>
    rw [e] at p
    cases x with
    | exc _ _ => exact p.elim
    | val y ρ' =>
      intro G' H' ok' x'
      simp only at p
      split at p
      · rename_i z
        subst z
        obtain ⟨a, b, c, d⟩ := viewZ_out (ts := []) (tv := []) okf nof vw_len (vw_no nof σ) (by rw [List.append_nil, List.append_nil]; exact ok') (by simp) rfl (Ov := OwnAt σ (vw Z s (frzAll ρ))) (vw_no nof σ) (by rw [List.append_nil, List.append_nil]; exact x') (by simp)
        rw [List.append_nil, List.append_nil] at a
        refine p _ H' ⟨a, b, okf.no, fun b o z => c b o (by rw [List.append_nil, List.append_nil]; exact z)⟩ ((xf.wide (P := Z.O)).trans ?_)
        have dd := d Z.O
        rw [List.append_nil, List.append_nil] at dd
        exact ⟨dd.grow, fun _ z => (dd.fresh _ z).elim .inl fun z => z.elim (fun z => .inr (.inl z)) fun z => .inr (.inr (.inr z)), fun b o e q => dd.keep b o e fun z => q (.inr z), fun b q => (dd.own b q).imp .inr id⟩
      · exact p.elim
open Classical in
noncomputable def ifZ {K : PySem.W.Frag} (Z : Zk K) (t : EZ Z Bool) (f g : MZ Z) : MZ Z := fun s ρ => match t s ρ with
  | some (b, ρ') => if unZ Z ρ' then (if b = true then f s ρ' else g s ρ') else none
  | none => none
theorem psz_if {c : Expr} {a b : List Stmt} {t : EZ Z Bool} {f g : MZ Z} (hc : PT X c (tTZ Z t)) (ha : PSs X a (tZ Z f)) (hb : PSs X b (tZ Z g)) : PS X (.If c a b pos) (tZ Z (ifZ Z t f g)) :=
  (ps_if hc ha hb).imp fun D σ H ⟨G, ρ, s, ok, un, p⟩ => ⟨G, ρ, s, ok, un, by
    unfold ifZ at p
    cases e : t s ρ with
    | none => rw [e] at p; exact p
    | some x =>
      obtain ⟨x, ρ'⟩ := x
      rw [e] at p
      intro G' H' ok' x'
      simp only at p
      split at p
      · rename_i z
        cases x with
        | true => exact ⟨G', ρ', s, ok', z, p.at x'⟩
        | false => exact ⟨G', ρ', s, ok', z, p.at x'⟩
      · exact p.elim⟩
/-- x = e -/
def setZ {K : PySem.W.Frag} (Z : Zk K) (j : Nat) (f : EZ Z Sl) : MZ Z := fun s ρ => match f s ρ with | some (y, ρ') => if j < ρ'.length then some (.nx (ρ'.set j y), s) else none | none => none
theorem psz_set {j : Nat} {x : Str} {e : Expr} {f : EZ Z Sl} {pos' : Pos} (hp : ∀ q ∈ Z.pn, q.1 ≠ j) (hN : X.N.Nodup) (hi : X.N[j]? = some x) (hx : Loc X.env.scope x) (he : PE X e (tEZ Z f)) (hs : swapsWith e (some (.Name x pos')) pos.line X.env = pure false := by rfl)
    (hf : X.fn x = true ∨ X.env.scope.names.lookup x = some .local := by first | exact .inl rfl | exact .inr rfl | assumption) : PS X (.Assign [.Name x pos'] e pos) (tZ Z (setZ Z j f)) :=
  (ps_set hN hi hx he hs hf).imp fun D σ H ⟨G, ρ, s, ok, un, p⟩ => ⟨G, ρ, s, ok, un, by
    unfold setZ at p
    cases e : f s ρ with
    | none => rw [e] at p; exact p
    | some y =>
      obtain ⟨y, ρ1⟩ := y
      rw [e] at p
      intro v G1 H1 ok1 a1 no1 n1 x1
      simp only at p
      split at p
      · rename_i c
        obtain ⟨ok2, sub⟩ := ok1.setSlot c fun q hq => ⟨hp q hq, ok.env.pinLt q hq⟩
        exact p _ G1 H1 ⟨ok2, a1, no1, fun b o z => n1 b o (sub b z)⟩ ⟨x1.grow, x1.fresh, x1.keep, fun b z => x1.own b (z.imp (sub b) id)⟩
      · exact p.elim⟩

open Classical in
noncomputable def loopZ {K : PySem.W.Frag} (Z : Zk K) (b : D → Rho → Option Rho) (body : MZ Z) : List D → MZ Z
  | [] => nxZ
  | d :: ds => fun s ρ => match b d ρ with
    | none => none
    | some ρ1 => if unZ Z ρ1 then (match body s ρ1 with
      | some (.nx ρ2, s2) => if unZ Z ρ2 then loopZ Z b body ds s2 ρ2 else none
      | some (.rt x ρ2, s2) => some (.rt x ρ2, s2)
      | _ => none) else none
open Classical in
noncomputable def forZ {K : PySem.W.Frag} (Z : Zk K) (src : M (List D)) (b : D → Rho → Option Rho) (body : MZ Z) : MZ Z := fun s ρ => match src ρ with
  | some (.val ds ρ') => if unZ Z ρ' then loopZ Z b body ds s ρ' else none
  | _ => none
theorem psz_for {tg iter : Expr} {body : List Stmt} {src : M (List D)} {g : TG} {b : D → Rho → Option Rho} {bs : List Nat} {f : MZ Z} (hp : PassesOwn (model X.prog X.w) X.A X.env X.xe) (hc : X.calm = true) (hi : PI X tg iter (tI X.K Z.pn E00 src)) (hg : PG X tg g) (hb : GB X.K Z.pn g b bs) (hbody : PSs X body (tZ Z f))
    (hs : ∀ x, foldedSetIterable iter X.env x = pure x := by intro _; rfl) : PS X (.For tg iter body [] pos) (tZ Z (forZ Z src b f)) :=
  (ps_for hp hc hi hg hbody hs).imp fun D σ H ⟨G, ρ, s, ok, un, p⟩ => ⟨G, ρ, ok.env, by
    unfold forZ at p
    cases e : src ρ with
    | none => rw [e] at p; exact p
    | some x =>
      rw [e] at p
      cases x with
      | exc _ _ => exact p.elim
      | val ds ρ0 =>
      intro J G1 H1 ok1 x1 y1
      simp only at p
      split at p
      rotate_left
      · exact p.elim
      rename_i un1
      obtain ⟨a1, b1, c1⟩ := Ok.ext ok.at_ ok.no x1 ok.disj
      have p := p.at x1.wide
      refine ⟨fun k m σ H => m = ds.length - k ∧ k ≤ ds.length ∧ ∃ G ρ s, Ok Z G H σ ρ s ∧ unZ Z ρ ∧ Yields X.K J G ds ∧ PostZ Z G H (fun b => OwnAt σ ρ b ∨ Z.O b) (loopZ Z b f (ds.drop k) s ρ) D,
        ⟨ds.length, rfl, Nat.zero_le _, G1, ρ0, s, ⟨ok1, a1, b1, c1⟩, un1, y1, p⟩, ?_⟩
      rintro k m σ H ⟨rfl, hk, G, ρ, s, ok, un, y, p⟩
      by_cases hlt : k < ds.length
      · have ed : ds[k]? = some ds[k] := List.getElem?_eq_getElem hlt
        rw [List.drop_eq_getElem_cons hlt] at p
        refine .inr ⟨y.go k _ H ok.env.sub ed, fun σ' H' => ∃ G ρ s, Ok Z G H' σ' ρ s ∧ unZ Z ρ ∧ Yields X.K J G ds ∧ PostZ Z G H' (fun b => OwnAt σ' ρ b ∨ Z.O b) (loopZ Z b f (ds.drop (k + 1)) s ρ) D,
          fun σ' H' ⟨G', ρ', s', a1, a2, a3, a4⟩ => ⟨ds.length - (k + 1), by omega, rfl, hlt, G', ρ', s', a1, a2, a3, a4⟩, fun v H' q => ?_⟩
        obtain ⟨G2, ok2, d2, x2⟩ := y.item ok.env ed q
        obtain ⟨a2, b2, c2⟩ := Ok.ext ok.at_ ok.no x2 ok.disj
        refine hb v _ σ G2 H' ρ _ ok2 d2 ?_
        simp only [loopZ] at p
        cases eb : b ds[k] ρ with
        | none => rw [eb] at p; exact p
        | some ρ3 =>
          rw [eb] at p
          intro σ3 hl ok3 sub3
          simp only at p
          split at p
          rotate_left
          · exact p.elim
          rename_i un3
          have x3 : Ext G H (OwnAt σ ρ) G2 H' (OwnAt σ3 ρ3) := x2.sub sub3
          have p' := p.at (x3.wide (P := Z.O))
          have y2 := y.mono x2.grow
          refine ⟨G2, ρ3, s, ⟨ok3, a2, b2, fun b o z => c2 b o (sub3 b z)⟩, un3, ?_⟩
          cases ef : f s ρ3 with
          | none => rw [ef] at p'; exact p'
          | some z =>
            obtain ⟨z, s4⟩ := z
            rw [ef] at p'
            cases z with
            | nx ρ4 =>
              intro σ' G' H'' a b
              simp only at p'
              split at p'
              · rename_i un4
                exact ⟨G', ρ4, s4, a, un4, y2.mono b.grow, p'.at b⟩
              · exact p'.elim
            | rt x ρ4 => exact p'
            | ct _ => exact p'.elim
            | bk _ => exact p'.elim
            | exc _ _ => exact p'.elim
      · have e : k = ds.length := by omega
        subst e
        rw [List.drop_length] at p
        exact .inl ⟨y.stop H ok.env.sub, p σ G H ok Ext.refl⟩⟩
end BZ

/-! Rules for dicts and for the least of two texts. -/
namespace BD
open PySem L2 BT PySem.Spec PyProof.Rows
/-- a[k] = v as a target -/
def rSetK : V → V → V → Hp → (Hp → Prop) → Prop := fun o i v H Q => ∃ a k kvs, o = .ref a ∧ i = kV k ∧ H a = some (.dK kvs) ∧ kvs.length < sizeLine ∧ Q (upd H a (.dK (putK kvs k v)))
theorem set_k {X : Cx} (hu : X.A.units + 1 < cLine) : PSet X rSetK := by
  intro pins s σ H o i v ov iv u Q I ro ri rv h
  obtain ⟨a, k, kvs, rfl, rfl, e, l, q⟩ := h
  cases ro
  exact d_setItem hu I (.inl ⟨kvs, k, e, rfl, l, rfl⟩) ri rv fun s' I' => ⟨_, I', q⟩
/-! ### a.update(b) -/
section
variable {X : Cx} {pins : List (Addr × Obj)} {σ : L2.St} {H : Hp} {s : Shared} {a b : Addr} {A : Around} {E : Value → Shared → Prop}
theorem upd_self {P : Program} {w : World} {kvs : List (Key × Value)} {Q : Value → Shared → Prop} {s : Shared} (d : s.heap.DictOf (mixKind P w) a kvs) (h : Q .none s) : wpAny (model P w) A (call (.builtin "dict.update") [.ref a, .ref a]) Q E s := by
  refine wpAny_call_entry F.slot_dict_update d.typeIs F.entry_dict_update ?_ (F.args_dict_update_2 _ _)
  unfold Builtin.«dict.update»
  refine wpAny_bind ?_
  unfold Builtin.Dict.selfAndRest
  refine wpAny_bind (wpAny_notOrdered_dict d.typeIs ?_)
  show wpAny _ _ (pure (a, [Value.ref a])) _ _ s
  apply wpAny_pure
  show wpAny _ _ (Builtin.Dict.updateFrom "dict.update" a (.ref a) [] .none) _ _ s
  unfold Builtin.Dict.updateFrom
  refine wpAny_bind (wpAny_typeOf d.typeIs ?_)
  rw [if_neg (by decide)]
  apply wpAny_bind
  unfold Builtin.Dict.merge
  apply wpAny_bind
  unfold Builtin.Dict.readDirectly
  refine wpAny_bind (wpAny_isInstance d.typeIs isSubtype_dict_dict ?_)
  simp only [Bool.not_true, Bool.false_eq_true, if_false]
  refine wpAny_bind (wpAny_specialOf d.typeIs F.slot_dict_iter.lookup (wpAny_pure ?_))
  simp only [beq_self_eq_true, if_true]
  apply wpAny_bind (wpAny_pure ?_)
  show wpAny _ _ (Builtin.Dict.mergeDict _ a a) _ _ s
  unfold Builtin.Dict.mergeDict
  rw [if_pos (by simp)]
  refine wpAny_bind (wpAny_rule (wpAny_pure ?_))
  show wpAny _ _ (Builtin.Dict.addKeywords a [] >>= _) _ _ _
  exact wpAny_bind (wpAny_pure (wpAny_pure ⟨.none, rfl, h⟩))
theorem d_upd {kvs more : List (Key × V)} {Q : Value → Shared → Prop} (I : Inv X pins σ H s) (ea : H a = some (.dK kvs)) (eb : H b = some (.dK more)) (l : kvs.length + more.length ≤ sizeLine)
    (h : ∀ s', Inv X pins σ (if a = b then H else upd H a (.dK (mergeK kvs more))) s' → Q .none s') : wpAny (model X.prog X.w) A (call (.builtin "dict.update") [.ref a, .ref b]) Q E s := by
  obtain ⟨za, ha, vs, rel, da⟩ := dk_of I.hok ea
  obtain ⟨zb, hb, ws, rel2, db⟩ := dk_of I.hok eb
  by_cases c : a = b
  · subst c
    rw [if_pos rfl] at h
    exact upd_self da (h s I)
  · rw [if_neg c] at h
    have l1 := rel.length
    have l2 := rel2.length
    refine call_meetsIn F.slot_dict_update da.typeIs F.entry_dict_update (F.args_dict_update_2 _ _) (meets_dict_update (mixKind X.prog X.w) a b c hb) ⟨vs, ws, da, db, by omega, fun h' da' db' sb => ?_⟩
    have there : ∃ q, h'.get? a = some q := let ⟨q, _, _, hq, _⟩ := da'; ⟨q, hq⟩
    have len := length_mergeK more kvs
    exact h _ (d_write (t' := s.toks) I (by rw [ea]; exact True.intro) sb there (dk_new (by omega) ha (KV.merge rel2 rel) da'))
end
def tDUpd (td te : TE) : TE := fun σ H Q => td σ H fun x H1 => ∃ a, x = .ref a ∧ IsD H1 a ∧ te σ H1 fun y H2 => ∃ b kvs more, y = .ref b ∧ H2 a = some (.dK kvs) ∧ H2 b = some (.dK more) ∧ kvs.length + more.length ≤ sizeLine ∧ Q .non (if a = b then H2 else upd H2 a (.dK (mergeK kvs more)))
section
variable {X : Cx} {o e : Expr} {apos cpos : Pos} {td te : TE}
theorem pe_dupd (ho : PE X o td) (he : PE X e te) (m : M1 X o "update" apos e cpos) : PE X (.Call (.Attribute o "update" apos) [e] [] cpos) (tDUpd td te) := by
  refine ⟨fun pins s σ H Q I h => ?_⟩
  refine wpAny_Call_method m.base m.few m.line F.plainAttrs_dict F.slot_dict_update F.type_dict_update (thn (ho.run pins s σ H _ I h) fun u s1 ⟨x, H1, I1, rx, a, ex, d, q1⟩ => ?_)
  subst ex
  obtain rfl : u = Value.ref a := rx
  obtain ⟨t1, t2, _⟩ := isD_at I1 d
  refine ⟨t1, t2, ?_⟩
  rw [m.trees]
  refine Calls.callWith_builtin rfl (Calls.evalArgs_plain (Calls.spliced_cons (thn (he.run pins s1 σ H1 _ I1 q1) fun w s2 ⟨y, H2, I2, ry, b, kvs, more, ey, ea, eb, l, q2⟩ => Calls.spliced_nil ?_)))
  subst ey
  obtain rfl : w = Value.ref b := ry
  exact d_upd I2 ea eb l fun s' I' => ⟨.non, _, I', rfl, q2⟩
end

/-! ### min(x, y) of texts -/
section
variable {prog : Program} {w : World} {A : Around} {E : Value → Shared → Prop} {s : Shared}
theorem two_at {x y : Str} {t u : Tok} {i : Nat} {v : Value} (h : (#[Value.str x t, .str y u])[i]? = some v) : ∃ k, v = .str (if i = 0 then x else y) k := by
  match i with
  | 0 => simp at h; exact ⟨t, h.symm⟩
  | 1 => simp at h; exact ⟨u, h.symm⟩
  | n + 2 => simp at h
theorem min_strs {x y : Str} {t u : Tok} {Q : Value → Shared → Prop} (calm : A.handled = none)
    (q : ∀ h' tk k, (∀ c o, s.heap.get? c = some o → h'.get? c = some o) → Q (.str (if y.cps.toList < x.cps.toList then y else x) k) { s with heap := h', toks := tk }) :
    wpAny (model prog w) A (call (.builtin "min") [.str x t, .str y u]) Q E s := by
  have tup : (s.heap.push { cls := .type "tuple", data := .seq #[.str x t, .str y u] }).IsTuple s.heap.objs.size #[.str x t, .str y u] := ⟨_, Heap.get?_push_size _ rfl, rfl, 0, rfl⟩
  have sz : (s.heap.push { cls := .type "tuple", data := .seq #[.str x t, .str y u] }).objs.size = s.heap.objs.size + 1 := Heap.size_push ..
  have cmp : CmpOf prog w A.in1 .Lt (fun i v => (#[Value.str x t, .str y u])[i]? = some v) (fun i j => decide ((if i = 0 then x else y).cps.toList < (if j = 0 then x else y).cps.toList)) := fun i j vi vj s Q E hi hj h => by
    obtain ⟨k, rfl⟩ := two_at hi
    obtain ⟨k', rfl⟩ := two_at hj
    exact richCompare_gives (op := .Lt) (typeIs_str s _ k) (typeIs_str s _ k') F.slot_str_lt F.entry_str_lt (F.args_str_lt_2 _ _) (gives_str_lt _ _ k k') (fun e => nomatch e) h
  refine call_min_two (wpAny_pyIter_tuple tup ?_)
  refine ⟨_, [_, s.heap.objs.size], [_], _, _, _, _, rfl, Walks.tuple (A := A.in1) calm _ s.heap.objs.size (by rw [sz]; exact Nat.ne_of_lt (Nat.lt_succ_self _)) #[.str x t, .str y u],
    ⟨⟨_, Heap.get?_push_size _ rfl, rfl, rfl⟩, tup.push _⟩, fun c hc => ?_, by simp, cmp, fun v h' tk hP hk => ?_⟩
  · show c < ((s.heap.push _).push _).objs.size
    rw [Heap.size_push, sz]
    simp only [List.mem_cons, List.not_mem_nil, or_false] at hc
    rcases hc with rfl | rfl
    · rw [sz]; exact Nat.lt_succ_self _
    · exact Nat.lt_succ_of_lt (Nat.lt_succ_self _)
  · have old : ∀ c o, s.heap.get? c = some o → h'.get? c = some o := fun c o e => by
      refine hk c o (fun hm => ?_) (Heap.get?_push_of_some _ (Heap.get?_push_of_some _ e))
      simp only [List.mem_cons, List.not_mem_nil, or_false] at hm
      have := Heap.lt_size e
      rw [hm, sz] at this; exact Nat.lt_irrefl _ (Nat.lt_of_succ_lt this)
    have hP' : (#[Value.str x t, .str y u])[argBest (fun i j => decide ((if i = 0 then x else y).cps.toList < (if j = 0 then x else y).cps.toList)) 1]? = some v := hP
    by_cases c : y.cps.toList < x.cps.toList
    · have e : argBest (fun i j => decide ((if i = 0 then x else y).cps.toList < (if j = 0 then x else y).cps.toList)) 1 = 1 := by simp [argBest, c]
      rw [e] at hP'
      have ev : v = .str y u := by simpa using hP'.symm
      have := q h' tk u old
      rw [if_pos c] at this
      rw [ev]; exact this
    · have e : argBest (fun i j => decide ((if i = 0 then x else y).cps.toList < (if j = 0 then x else y).cps.toList)) 1 = 0 := by simp [argBest, c]
      rw [e] at hP'
      have ev : v = .str x t := by simpa using hP'.symm
      have := q h' tk t old
      rw [if_neg c] at this
      rw [ev]; exact this
end
section
variable {X : Cx}
theorem call_minS (hc : X.calm = true) : CallR X (.builtin "min") (fun xs H Q => ∃ x y, xs = [.str x, .str y] ∧ Q (.str (if y.cps.toList < x.cps.toList then y else x)) H) := by
  intro pins s σ H xs us Q I r h
  obtain ⟨x, y, rfl, q⟩ := h
  obtain ⟨u, w', rfl, ⟨t, rfl⟩, ⟨t', rfl⟩⟩ := vals2 r
  exact min_strs (I.ok.hd hc) fun h' tk k old => ⟨.str (if y.cps.toList < x.cps.toList then y else x), H, I.kept old, ⟨k, rfl⟩, q⟩
end
end BD

/-! A dict of texts, and beside it a dict of dicts. -/
namespace BO
open PySem L2 BT BK BZ
abbrev Hd := List (Str × Str)
abbrev Af := List (Str × List Str)
def hdV (hd : Hd) : List (Key × V) := hd.map fun x => (Sum.inr x.1, V.str x.2)
def hdD (hd : Hd) : List (Key × D) := hd.map fun x => (Sum.inr x.1, D.str x.2)
def ksV (ks : List Str) : List (Key × V) := ks.map fun k => (Sum.inr k, V.bl true)
def ksD (ks : List Str) : List (Key × D) := ks.map fun k => (Sum.inr k, D.bl true)
def afV : Af → List Addr → List (Key × V)
  | x :: r, a :: as => (Sum.inr x.1, V.ref a) :: afV r as
  | _, _ => []
def afD (af : Af) : List (Key × D) := af.map fun x => (Sum.inr x.1, D.dic (ksD x.2))
variable {K : PySem.W.Frag} {G H : Hp}
theorem hd_dt : ∀ hd : Hd, DtK K G (hdV hd) (hdD hd)
  | [] => .nil
  | x :: r => .cons (.str _) (hd_dt r)
theorem ks_dt : ∀ ks : List Str, DtK K G (ksV ks) (ksD ks)
  | [] => .nil
  | x :: r => .cons (.bl _) (ks_dt r)
/-- the inner dicts -/
def Inn (H : Hp) : Af → List Addr → Prop
  | x :: r, a :: as => H a = some (.dK (ksV x.2)) ∧ Inn H r as
  | [], [] => True
  | _, _ => False
theorem Inn.loc {H' : Hp} : ∀ {af : Af} {as : List Addr}, Inn H af as → (∀ b o, b ∈ as → H b = some o → H' b = some o) → Inn H' af as
  | x :: r, a :: as, ⟨h, hs⟩, k => ⟨k a _ (by simp) h, Inn.loc hs fun b o m e => k b o (by simp [m]) e⟩
  | [], [], _, _ => trivial
  | [], _ :: _, h, _ => h.elim
  | _ :: _, [], h, _ => h.elim
theorem Inn.some_ : ∀ {af : Af} {as : List Addr} {b : Addr}, Inn H af as → b ∈ as → H b ≠ none
  | x :: r, a :: as, b, ⟨h, hs⟩, m => by
    rcases List.mem_cons.mp m with e | e
    · subst e; rw [h]; simp
    · exact Inn.some_ hs e
  | [], [], _, _, m => by simp at m
  | [], _ :: _, _, h, _ => h.elim
  | _ :: _, [], _, h, _ => h.elim
theorem Inn.dt {G' : Hp} : ∀ {af : Af} {as : List Addr}, Inn G' af as → DtK K G' (afV af as) (afD af)
  | x :: r, a :: as, ⟨h, hs⟩ => .cons (.dic (.inl h) (ks_dt _)) (Inn.dt hs)
  | [], [], _ => .nil
  | [], _ :: _, h => h.elim
  | _ :: _, [], h => h.elim
def Z1 (K : PySem.W.Frag) (h : Addr) : Zk K where
  S := Hd
  pn := [(2, h)]
  O := fun b => b = h
  At := fun hd H => H h = some (.dK (hdV hd))
  dat := fun hd i => if i = 2 then some (.dic (hdD hd)) else none
  loc := fun a k => k _ _ rfl a
  some_ := fun a e => by rw [e, a]; simp
  dts := fun {s H G'} a k i d e => by
    split at e
    · rename_i c
      cases e; subst c
      exact ⟨h, by simp, .dic (.inl (k _ _ rfl a)) (hd_dt _)⟩
    · cases e
/-- the outer dict, locked or not -/
def outV (lk : Option Obj) (af : Af) (as : List Addr) : HO := match lk with | none => .dK (afV af as) | some od => .frz od (.dK (afV af as))
def Z2 (K : PySem.W.Frag) (h d : Addr) (as : List Addr) (lk : Option Obj) : Zk K where
  S := Hd × Af
  pn := [(2, h), (4, d)]
  O := fun b => b = h ∨ b = d ∨ b ∈ as
  At := fun s H => H h = some (.dK (hdV s.1)) ∧ H d = some (outV lk s.2 as) ∧ Inn H s.2 as
  dat := fun s i => if i = 2 then some (.dic (hdD s.1)) else if i = 4 then some (.dic (afD s.2)) else none
  loc := fun {s H H'} ⟨a, b, c⟩ k => ⟨k _ _ (.inl rfl) a, k _ _ (.inr (.inl rfl)) b, Inn.loc c fun x o m e => k x o (.inr (.inr m)) e⟩
  some_ := fun {s H b} ⟨a, b', c⟩ o => by
    rcases o with rfl | rfl | m
    · rw [a]; simp
    · rw [b']; simp
    · exact Inn.some_ c m
  dts := fun {s H G'} ⟨a, b, c⟩ k i x e => by
    split at e
    · rename_i z
      cases e; subst z
      exact ⟨h, by simp, .dic (.inl (k _ _ (.inl rfl) a)) (hd_dt _)⟩
    · split at e
      · rename_i z
        cases e; subst z
        have kb := k _ _ (.inr (.inl rfl)) b
        refine ⟨d, by simp, .dic ?_ (Inn.dt (Inn.loc c fun x o m e => k x o (.inr (.inr m)) e))⟩
        cases lk with
        | none => exact .inl kb
        | some od => exact .inr ⟨od, kb⟩
      · cases e
/-! ### a text under a text -/
def putS (hd : Hd) (k v : Str) : Hd := if (hd.any fun x => decide (x.1 = k)) = true then hd.map (fun x => if x.1 = k then (x.1, v) else x) else hd ++ [(k, v)]
theorem key_dec {a k : Str} : decide ((Sum.inr a : Key) = Sum.inr k) = decide (a = k) := by
  by_cases c : a = k
  · simp [c]
  · simp [c]
theorem putS_V (hd : Hd) (k v : Str) : putK (hdV hd) (Sum.inr k) (.str v) = hdV (putS hd k v) := by
  unfold putK putS hdV
  have e : ((hd.map fun x => ((Sum.inr x.1 : Key), V.str x.2)).any fun kv => decide (kv.1 = (Sum.inr k : Key))) = hd.any fun x => decide (x.1 = k) := by
    rw [List.any_map]; congr 1
    funext x; exact key_dec
  rw [e]
  split
  · rw [List.map_map, List.map_map]
    congr 1
    funext x
    simp only [Function.comp]
    by_cases c : x.1 = k
    · simp [c]
    · have c' : ¬ ((Sum.inr x.1 : Key) = Sum.inr k) := fun q => c (Sum.inr.inj q)
      simp [c]
  · simp
theorem putS_len (hd : Hd) (k v : Str) : (putS hd k v).length ≤ hd.length + 1 := by unfold putS; split <;> simp
def lookS (hd : Hd) (k : Str) : Option Str := (hd.find? fun x => decide (x.1 = k)).map (·.2)
theorem valV_hd (hd : Hd) (k : Str) : valV (hdV hd) (.inr k) = (lookS hd k).map V.str := by
  unfold lookS
  induction hd with
  | nil => rfl
  | cons x r ih =>
    simp only [hdV, List.map_cons] at ih ⊢
    simp only [valV, List.find?_cons] at ih ⊢
    rw [key_dec]
    by_cases c : x.1 = k
    · simp [c]
    · simp only [c, decide_false]
      exact ih
/-- head[one], head[other] = least, least -/
def put2 (hd : Hd) (ρ : Rho) : Option (SRs × Hd) := match (ρ[6]? : Option Sl), (ρ[7]? : Option Sl), (ρ[9]? : Option Sl) with
  | some (.dt (.str a)), some (.dt (.str b)), some (.dt (.str l)) => if hd.length + 2 ≤ 1000 then some (.nx ρ, putS (putS hd a l) b l) else none
  | _, _, _ => none
theorem room (n : Nat) (h : n ≤ 1000) : n < sizeLine := Nat.lt_of_le_of_lt h (by rw [sizeLine_eq]; decide)
theorem str_at {G H : Hp} {pn : List (Nat × Addr)} {σ : St} {ρ : Rho} {i : Nat} {a : Str} (ok : EnvOk K pn G H σ ρ) (h : ρ[i]? = some (.dt (.str a))) : σ[i]? = some (some (.str a)) := by
  obtain ⟨v, e, d⟩ := ok.dt i _ h
  cases d; exact e
theorem SqT.alloc {H : Hp} {p : Addr} {xs : List V} (h : H p = some (.tup xs)) : SqT K H p xs := .inl (.inl h)
section
variable {X : Cx} {pos : Pos}
theorem psz_put2 {h : Addr} {st : Stmt} (raw : PS X st (tAsg (tTup (tCons (tVar 9) (tCons (tVar 9) tNil))) (gTup X.K 2 (gCons (gSub (tVar 2) (tVar 6) BD.rSetK) (gCons (gSub (tVar 2) (tVar 7) BD.rSetK) gNil))))) :
    PS X st (tZ (Z1 X.K h) put2) := raw.imp fun D σ H ⟨G, ρ, hd0, ok, un, p⟩ => by
  revert ok un p
  revert hd0
  show ∀ hd : Hd, _
  intro hd ok un p
  unfold put2 at p
  split at p
  rotate_left
  · exact p.elim
  rename_i a b l e6 e7 e9
  split at p
  rotate_left
  · exact p.elim
  rename_i few
  have at_ : H h = some (.dK (hdV hd)) := ok.at_
  have gh : G h = none := ok.no h rfl
  have s2 : σ[2]? = some (some (.ref h)) := ok.env.pins (2, h) (by simp [Z1])
  have s6 := str_at ok.env e6
  have s7 := str_at ok.env e7
  have s9 := str_at ok.env e9
  refine ⟨_, s9, _, s9, ?_⟩
  refine ⟨Nat.le_of_lt (room 2 (by omega)), fun q hq => ?_⟩
  have nq : h ≠ q := ne_of_none at_ hq
  refine ⟨q, _, rfl, .inl (.inl upd_same), rfl, _, _, rfl, _, s2, _, s6, ?_⟩
  have l1 : (hdV hd).length = hd.length := List.length_map _
  refine ⟨h, .inr a, hdV hd, rfl, rfl, by rw [upd_ne nq]; exact at_, by rw [l1]; exact room _ (by omega), ?_⟩
  rw [putS_V hd a l]
  have l2 := putS_len hd a l
  have l3 : (hdV (putS hd a l)).length = (putS hd a l).length := List.length_map _
  refine ⟨_, _, rfl, _, s2, _, s7, h, .inr b, hdV (putS hd a l), rfl, rfl, upd_same, by rw [l3]; exact room _ (by omega), rfl, ?_⟩
  rw [putS_V (putS hd a l) b l]
  have gq : G q = none := Same.free ok.env.sub hq
  have noq : ¬ OwnAt σ ρ q := fun ⟨j, ds, z1, z2⟩ => by
    obtain ⟨p, vs, z3, z4, _⟩ := ok.env.ol j ds z1
    rw [z2] at z3; cases z3
    rw [hq] at z4; cases z4
  have noh : ¬ OwnAt σ ρ h := ok.disj h rfl
  refine p σ G _ ⟨((ok.env.touch gq noq).touch gh noh).touch gh noh, upd_same, fun b e => by cases e; exact gh, ok.disj⟩ ⟨Same.refl _, fun _ z => .inl z, fun b o e n => ?_, fun b z => .inl z⟩
  have n1 : b ≠ h := fun z => n (.inr z)
  have n2 : b ≠ q := ne_of_none e hq
  rw [upd_ne n1, upd_ne n1, upd_ne n2]; exact e
end
end BO

namespace BO
open PySem L2 BT BK BZ
variable {K : PySem.W.Frag} {G H : Hp}
def atA : Af → List Addr → Str → Option (Addr × List Str)
  | x :: r, a :: as, u => if x.1 = u then some (a, x.2) else atA r as u
  | _, _, _ => none
def lookA : Af → Str → Option (List Str)
  | [], _ => none
  | x :: r, u => if x.1 = u then some x.2 else lookA r u
def setA : Af → Str → List Str → Af
  | [], _, _ => []
  | x :: r, u, ks => if x.1 = u then (x.1, ks) :: r else x :: setA r u ks
def addK (ks : List Str) (v : Str) : List Str := if v ∈ ks then ks else ks ++ [v]
def mergeS (ks ms : List Str) : List Str := ms.foldl addK ks
theorem valV_af : ∀ (af : Af) (as : List Addr) (u : Str), valV (afV af as) (.inr u) = (atA af as u).map fun x => V.ref x.1
  | [], _, _ => rfl
  | _ :: _, [], _ => rfl
  | x :: r, a :: as, u => by
    have ih := valV_af r as u
    simp only [valV, afV, atA, List.find?_cons] at ih ⊢
    rw [key_dec]
    by_cases c : x.1 = u
    · simp [c]
    · simp only [c, decide_false, if_false]; exact ih
theorem afV_set : ∀ (af : Af) (as : List Addr) (u : Str) (ks : List Str), afV (setA af u ks) as = afV af as
  | [], _, _, _ => rfl
  | x :: r, [], u, ks => by unfold setA; split <;> rfl
  | x :: r, a :: as, u, ks => by
    unfold setA
    split
    · rfl
    · simp only [afV, afV_set r as u ks]
theorem at_inn : ∀ {af : Af} {as : List Addr} {u : Str} {q : Addr} {ks : List Str}, Inn H af as → atA af as u = some (q, ks) → H q = some (.dK (ksV ks)) ∧ q ∈ as
  | [], _, _, _, _, _, e => by cases e
  | _ :: _, [], _, _, _, _, e => by cases e
  | x :: r, a :: as, u, q, ks, ⟨h, hs⟩, e => by
    unfold atA at e
    split at e
    · cases e; exact ⟨h, by simp⟩
    · obtain ⟨h1, h2⟩ := at_inn hs e
      exact ⟨h1, by simp [h2]⟩
theorem inn_upd {q : Addr} {o : HO} : ∀ {af : Af} {as : List Addr}, Inn H af as → q ∉ as → Inn (upd H q o) af as
  | [], [], _, _ => trivial
  | [], _ :: _, h, _ => h.elim
  | _ :: _, [], h, _ => h.elim
  | x :: r, a :: as, ⟨h, hs⟩, n => by
    have n1 : a ≠ q := fun z => n (by simp [z])
    exact ⟨by rw [upd_ne n1]; exact h, inn_upd hs fun z => n (by simp [z])⟩
theorem inn_set : ∀ {af : Af} {as : List Addr} {u : Str} {q : Addr} {ks : List Str} (ks' : List Str), Inn H af as → as.Nodup → atA af as u = some (q, ks) → Inn (upd H q (.dK (ksV ks'))) (setA af u ks') as
  | [], _, _, _, _, _, _, _, e => by cases e
  | _ :: _, [], _, _, _, _, _, _, e => by cases e
  | x :: r, a :: as, u, q, ks, ks', ⟨h, hs⟩, nd, e => by
    obtain ⟨n1, n2⟩ := List.nodup_cons.mp nd
    unfold atA at e
    unfold setA
    split
    · rename_i c
      rw [if_pos c] at e
      cases e
      exact ⟨upd_same, inn_upd hs n1⟩
    · rename_i c
      rw [if_neg c] at e
      obtain ⟨_, m⟩ := at_inn hs e
      have na : a ≠ q := fun z => n1 (z ▸ m)
      exact ⟨by rw [upd_ne na]; exact h, inn_set ks' hs n2 e⟩
theorem at_look : ∀ {af : Af} {as : List Addr} {u : Str}, af.length = as.length → (atA af as u).map (·.2) = lookA af u
  | [], _, _, _ => rfl
  | _ :: _, [], _, e => by simp at e
  | x :: r, a :: as, u, e => by
    unfold atA lookA
    split
    · rfl
    · exact at_look (by simpa using e)
theorem inn_len : ∀ {af : Af} {as : List Addr}, Inn H af as → af.length = as.length
  | [], [], _ => rfl
  | [], _ :: _, h => h.elim
  | _ :: _, [], h => h.elim
  | x :: r, a :: as, ⟨_, hs⟩ => by simp [inn_len hs]
theorem at_some {af : Af} {as : List Addr} {u : Str} {ks : List Str} (l : af.length = as.length) (h : lookA af u = some ks) : ∃ q, atA af as u = some (q, ks) := by
  rw [← at_look l] at h
  cases e : atA af as u with
  | none => rw [e] at h; cases h
  | some x => rw [e] at h; cases h; exact ⟨x.1, rfl⟩
theorem addK_V (ks : List Str) (v : Str) : putK (ksV ks) (.inr v) (.bl true) = ksV (addK ks v) := by
  unfold putK addK ksV
  have e : ((ks.map fun x => ((Sum.inr x : Key), V.bl true)).any fun kv => decide (kv.1 = (Sum.inr v : Key))) = decide (v ∈ ks) := by
    rw [List.any_map]
    induction ks with
    | nil => rfl
    | cons x r ih =>
      rw [List.any_cons, ih]
      simp only [Function.comp]
      rw [key_dec]
      by_cases c : x = v
      · subst c; simp
      · have c' : ¬ v = x := fun z => c z.symm
        simp [c, c']
  rw [e]
  by_cases c : v ∈ ks
  · rw [if_pos (by simpa using c), if_pos c, List.map_map]
    congr 1
    funext x
    simp only [Function.comp]
    split <;> rfl
  · rw [if_neg (by simpa using c), if_neg c]; simp
theorem mergeS_V (ms : List Str) : ∀ ks : List Str, mergeK (ksV ks) (ksV ms) = ksV (mergeS ks ms) := by
  induction ms with
  | nil => intro ks; rfl
  | cons m r ih =>
    intro ks
    show mergeK (putK (ksV ks) (.inr m) (.bl true)) (ksV r) = ksV (mergeS (addK ks m) r)
    rw [addK_V, ih]
theorem mem_addK {ks : List Str} {v x : Str} : x ∈ addK ks v ↔ x ∈ ks ∨ x = v := by
  unfold addK
  split
  · rename_i c
    exact ⟨.inl, fun z => z.elim id fun e => e ▸ c⟩
  · simp
theorem mem_mergeS {x : Str} : ∀ {ms ks : List Str}, x ∈ mergeS ks ms ↔ x ∈ ks ∨ x ∈ ms
  | [], ks => by simp [mergeS]
  | m :: r, ks => by
    show x ∈ mergeS (addK ks m) r ↔ _
    rw [mem_mergeS (ms := r), mem_addK]
    simp [or_assoc]
theorem mergeS_sub : ∀ {ms ks : List Str}, (∀ x ∈ ms, x ∈ ks) → mergeS ks ms = ks
  | [], _, _ => rfl
  | m :: r, ks, h => by
    show mergeS (addK ks m) r = ks
    have e : addK ks m = ks := if_pos (h m (by simp))
    rw [e]; exact mergeS_sub fun x hx => h x (by simp [hx])
theorem set_same : ∀ {af : Af} {u : Str} {ks : List Str}, lookA af u = some ks → setA af u ks = af
  | [], _, _, e => by cases e
  | x :: r, u, ks, e => by
    unfold lookA at e
    unfold setA
    split
    · rename_i c
      rw [if_pos c] at e; cases e; rfl
    · rename_i c
      rw [if_neg c] at e
      rw [set_same e]
theorem at_key : ∀ {af : Af} {as : List Addr} {u v : Str} {q : Addr} {ks ms : List Str}, as.Nodup → af.length = as.length → atA af as u = some (q, ks) → atA af as v = some (q, ms) → u = v
  | [], _, _, _, _, _, _, _, _, e, _ => by cases e
  | _ :: _, [], _, _, _, _, _, _, _, e, _ => by cases e
  | x :: r, a :: as, u, v, q, ks, ms, nd, l, e1, e2 => by
    obtain ⟨n1, n2⟩ := List.nodup_cons.mp nd
    have mem : ∀ {af : Af} {as : List Addr} {u : Str} {q : Addr} {ks : List Str}, atA af as u = some (q, ks) → q ∈ as := by
      intro af
      induction af with
      | nil => intro as u q ks e; cases e
      | cons y r ih =>
        intro as u q ks e
        cases as with
        | nil => cases e
        | cons b bs =>
          unfold atA at e
          split at e
          · cases e; simp
          · simp [ih e]
    unfold atA at e1 e2
    split at e1
    · rename_i c1
      split at e2
      · rename_i c2; exact c1.symm.trans c2
      · cases e1
        exact absurd (mem e2) n1
    · split at e2
      · cases e2
        exact absurd (mem e1) n1
      · exact at_key n2 (by simpa using l) e1 e2
end BO

namespace BO
open PySem L2 BT BK BZ
theorem out_rd {H : Hp} {d : Addr} {lk : Option Obj} {af : Af} {as : List Addr} (e : H d = some (outV lk af as)) : Rd H d (.dK (afV af as)) := by
  cases lk with
  | none => exact .inl e
  | some od => exact .inr ⟨od, e⟩
theorem out_isD {H : Hp} {d : Addr} {lk : Option Obj} {af : Af} {as : List Addr} (e : H d = some (outV lk af as)) : ∃ o, H d = some o := ⟨_, e⟩
/-- after[head[one]][head[other]] = True -/
def addZ (s : Hd × Af) (ρ : Rho) : Option (SRs × (Hd × Af)) := match (ρ[6]? : Option Sl), (ρ[7]? : Option Sl) with
  | some (.dt (.str a)), some (.dt (.str b)) => (match lookS s.1 a, lookS s.1 b with
    | some u, some v => (match lookA s.2 u with
      | some ks => if ks.length < 1000 then some (.nx ρ, (s.1, setA s.2 u (addK ks v))) else none
      | none => none)
    | _, _ => none)
  | _, _ => none
/-- after[one].update(after[middle]) -/
def updZ (s : Hd × Af) (ρ : Rho) : Option (SRs × (Hd × Af)) := match (ρ[5]? : Option Sl), (ρ[6]? : Option Sl) with
  | some (.dt (.str m)), some (.dt (.str a)) => (match lookA s.2 a, lookA s.2 m with
    | some ks, some ms => if ks.length + ms.length ≤ 1000 then some (.nx ρ, (s.1, setA s.2 a (mergeS ks ms))) else none
    | _, _ => none)
  | _, _ => none
section
variable {X : Cx} {pos : Pos} {h d : Addr} {as : List Addr} {lk : Option Obj}
theorem ok_upd {G H : Hp} {σ : St} {ρ : Rho} {hd : Hd} {af af' : Af} {q : Addr} {o : HO} (ok : Ok (Z2 X.K h d as lk) G H σ ρ (hd, af)) (nd : (h :: d :: as).Nodup) (m : q ∈ as) (i : Inn (upd H q o) af' as) (sm : afV af' as = afV af as) :
    Ok (Z2 X.K h d as lk) G (upd H q o) σ ρ (hd, af') := by
  obtain ⟨n1, n2⟩ := List.nodup_cons.mp nd
  obtain ⟨n3, n4⟩ := List.nodup_cons.mp n2
  have nh : h ≠ q := fun z => n1 (by simp [z, m])
  have nq : d ≠ q := fun z => n3 (z ▸ m)
  have oq : (Z2 X.K h d as lk).O q := .inr (.inr m)
  obtain ⟨a1, a2, a3⟩ := ok.at_
  refine ⟨ok.env.touch (ok.no q oq) (ok.disj q oq), ⟨by rw [upd_ne nh]; exact a1, ?_, i⟩, ok.no, ok.disj⟩
  show upd H q o d = some (outV lk af' as)
  rw [upd_ne nq]
  have a2 : H d = some (outV lk af as) := a2
  rw [a2]
  unfold outV
  cases lk <;> simp only [sm]
theorem psz_add (nd : (h :: d :: as).Nodup) {st : Stmt} (raw : PS X st (sDPut (tDGet (tVar 4) (tDGet (tVar 2) (tVar 6))) (tDGet (tVar 2) (tVar 7)) (tC (.bl true)))) : PS X st (tZ (Z2 X.K h d as lk) addZ) := raw.imp fun D σ H ⟨G, ρ, s, ok, un, p⟩ => by
  revert ok un p
  revert s
  show ∀ s : Hd × Af, _
  rintro ⟨hd, af⟩ ok un p
  unfold addZ at p
  split at p
  rotate_left
  · exact p.elim
  rename_i a b e6 e7
  split at p
  rotate_left
  · exact p.elim
  rename_i u v eu ev
  split at p
  rotate_left
  · exact p.elim
  rename_i ks ek
  split at p
  rotate_left
  · exact p.elim
  rename_i few
  have s2 : σ[2]? = some (some (.ref h)) := ok.env.pins (2, h) (by simp [Z2])
  have s4 : σ[4]? = some (some (.ref d)) := ok.env.pins (4, d) (by simp [Z2])
  have s6 := str_at ok.env e6
  have s7 := str_at ok.env e7
  obtain ⟨a1, a2, a3⟩ := ok.at_
  have a1 : H h = some (.dK (hdV hd)) := a1
  have a2 : H d = some (outV lk af as) := a2
  have a3 : Inn H af as := a3
  have nda : as.Nodup := (List.nodup_cons.mp (List.nodup_cons.mp nd).2).2
  obtain ⟨q, eq⟩ := at_some (inn_len a3) ek
  obtain ⟨hq, mq⟩ := at_inn a3 eq
  have eu : lookS hd a = some u := eu
  have ev : lookS hd b = some v := ev
  have g1 : some (V.str u) = valV (hdV hd) (.inr a) := by rw [valV_hd, eu]; rfl
  have g2 : some (V.str v) = valV (hdV hd) (.inr b) := by rw [valV_hd, ev]; rfl
  have g3 : some (V.ref q) = valV (afV af as) (.inr u) := by rw [valV_af, eq]; rfl
  have l1 : (ksV ks).length = ks.length := List.length_map _
  refine ⟨_, s4, _, s2, _, s6, h, _, rfl, .inl ⟨_, .inr a, .inl a1, rfl, g1⟩, d, _, rfl, .inl ⟨_, .inr u, out_rd a2, rfl, g3⟩, _, s2, _, s7, h, _, rfl, .inl ⟨_, .inr b, .inl a1, rfl, g2⟩, q, _, rfl, .inl ⟨ksV ks, .inr v, hq, rfl, by rw [l1]; exact room _ (by omega), rfl⟩, ?_⟩
  rw [addK_V]
  have i2 := inn_set (addK ks v) a3 nda eq
  refine p σ G _ (ok_upd ok nd mq i2 (afV_set _ _ _ _)) ⟨Same.refl _, fun _ z => .inl z, fun b o e n => ?_, fun b z => .inl z⟩
  rw [upd_ne (fun z => n (.inr (by rw [z]; exact .inr (.inr mq))))]; exact e
theorem psz_upd (nd : (h :: d :: as).Nodup) {st : Stmt} (raw : PS X st (fun D σ H => BD.tDUpd (tDGet (tVar 4) (tVar 6)) (tDGet (tVar 4) (tVar 5)) σ H fun _ H' => D.nx σ H')) : PS X st (tZ (Z2 X.K h d as lk) updZ) := raw.imp fun D σ H ⟨G, ρ, s, ok, un, p⟩ => by
  revert ok un p
  revert s
  show ∀ s : Hd × Af, _
  rintro ⟨hd, af⟩ ok un p
  unfold updZ at p
  split at p
  rotate_left
  · exact p.elim
  rename_i m a e5 e6
  split at p
  rotate_left
  · exact p.elim
  rename_i ks ms ek em
  split at p
  rotate_left
  · exact p.elim
  rename_i few
  have s4 : σ[4]? = some (some (.ref d)) := ok.env.pins (4, d) (by simp [Z2])
  have s5 := str_at ok.env e5
  have s6 := str_at ok.env e6
  obtain ⟨a1, a2, a3⟩ := ok.at_
  have a2 : H d = some (outV lk af as) := a2
  have a3 : Inn H af as := a3
  have ek : lookA af a = some ks := ek
  have em : lookA af m = some ms := em
  have nda : as.Nodup := (List.nodup_cons.mp (List.nodup_cons.mp nd).2).2
  obtain ⟨q, eq⟩ := at_some (inn_len a3) ek
  obtain ⟨hq, mq⟩ := at_inn a3 eq
  obtain ⟨r, er⟩ := at_some (inn_len a3) em
  obtain ⟨hr, mr⟩ := at_inn a3 er
  have g1 : some (V.ref q) = valV (afV af as) (.inr a) := by rw [valV_af, eq]; rfl
  have g2 : some (V.ref r) = valV (afV af as) (.inr m) := by rw [valV_af, er]; rfl
  have l1 : (ksV ks).length = ks.length := List.length_map _
  have l2 : (ksV ms).length = ms.length := List.length_map _
  refine ⟨_, s4, _, s6, d, _, rfl, .inl ⟨_, .inr a, out_rd a2, rfl, g1⟩, q, rfl, ?_, _, s4, _, s5, d, _, rfl, .inl ⟨_, .inr m, out_rd a2, rfl, g2⟩, r, ksV ks, ksV ms, rfl, hq, hr, by rw [l1, l2]; exact Nat.le_of_lt (room _ few), ?_⟩
  · exact .inl ⟨_, .inl hq⟩
  · by_cases c : q = r
    · subst c
      have e := at_key nda (inn_len a3) eq er
      subst e
      rw [ek] at em; cases em
      rw [if_pos rfl]
      have e1 : setA af a (mergeS ks ks) = af := by rw [mergeS_sub fun x hx => hx]; exact set_same ek
      have p : PostZ (Z2 X.K h d as lk) G H (fun b => OwnAt σ ρ b ∨ (Z2 X.K h d as lk).O b) (some (SRs.nx ρ, (hd, setA af a (mergeS ks ks)))) D := p
      rw [e1] at p
      exact p σ G H ok Ext.refl
    · rw [if_neg c, mergeS_V]
      have i2 := inn_set (mergeS ks ms) a3 nda eq
      refine p σ G _ (ok_upd ok nd mq i2 (afV_set _ _ _ _)) ⟨Same.refl _, fun _ z => .inl z, fun b o e n => ?_, fun b z => .inl z⟩
      rw [upd_ne (fun z => n (.inr (by rw [z]; exact .inr (.inr mq))))]; exact e
end
end BO

namespace BO
open PySem L2 BT BK BZ
def keysA (af : Af) : List Str := af.map (·.1)
theorem afV_keys : ∀ {af af' : Af} {as : List Addr}, keysA af = keysA af' → afV af as = afV af' as
  | [], [], _, _ => rfl
  | [], _ :: _, _, e => by simp [keysA] at e
  | _ :: _, [], _, e => by simp [keysA] at e
  | x :: r, y :: r', [], _ => rfl
  | x :: r, y :: r', a :: as, e => by
    simp only [keysA, List.map_cons, List.cons.injEq] at e
    simp only [afV, e.1, afV_keys (af := r) (af' := r') e.2]
theorem keys_set : ∀ (af : Af) (u : Str) (ks : List Str), keysA (setA af u ks) = keysA af
  | [], _, _ => rfl
  | x :: r, u, ks => by
    unfold setA
    split
    · rfl
    · simp only [keysA, List.map_cons]; exact congrArg _ (keys_set r u ks)
theorem afV_at : ∀ {af : Af} {as : List Addr} (i : Nat), af.length = as.length → (afV af as)[i]? = (af[i]?).bind fun x => (as[i]?).map fun a => (Sum.inr x.1, V.ref a)
  | [], as, i, _ => by simp [afV]
  | x :: r, [], i, e => by simp at e
  | x :: r, a :: as, 0, _ => by simp [afV]
  | x :: r, a :: as, i + 1, e => by
    simp only [afV, List.getElem?_cons_succ]
    exact afV_at i (by simpa using e)
theorem afV_len : ∀ {af : Af} {as : List Addr}, af.length = as.length → (afV af as).length = af.length
  | [], _, _ => rfl
  | x :: r, [], e => by simp at e
  | x :: r, a :: as, e => by simp [afV, afV_len (af := r) (as := as) (by simpa using e)]
section
variable {X : Cx} {pos : Pos} {h d : Addr} {as : List Addr} {od : Obj}
abbrev MO := Hd × Af → Rho → Option (SRs × (Hd × Af))
def unO (ρ : Rho) : Bool := unAt 2 ρ && unAt 4 ρ
theorem unO_iff {lk : Option Obj} {ρ : Rho} : unZ (Z2 X.K h d as lk) ρ ↔ unO ρ = true := by
  unfold unO unZ
  simp only [Z2, List.mem_cons, List.not_mem_nil, or_false, Bool.and_eq_true, unAt_iff]
  constructor
  · intro q; exact ⟨q (2, h) (.inl rfl), q (4, d) (.inr rfl)⟩
  · rintro ⟨a, b⟩ q (rfl | rfl)
    · exact a
    · exact b
def loopK (b : D → Rho → Option Rho) (body : MO) : List Str → MO
  | [] => fun s ρ => some (.nx ρ, s)
  | k :: r => fun s ρ => match b (.str k) ρ with
    | none => none
    | some ρ1 => if unO ρ1 = true then (match body s ρ1 with
      | some (.nx ρ2, s2) => if unO ρ2 = true ∧ keysA s2.2 = keysA s.2 then loopK b body r s2 ρ2 else none
      | _ => none) else none
def forK (b : D → Rho → Option Rho) (body : MO) : MO := fun s ρ => loopK b body (keysA s.2) s ρ
theorem psz_forK {tg iter : Expr} {body : List Stmt} {g : TG} {b : D → Rho → Option Rho} {bs : List Nat} {f : MO} (hp : PassesOwn (model X.prog X.w) X.A X.env X.xe) (hc : X.calm = true) (hi : PE X iter (tVar 4)) (hg : PG X tg g) (hb : GB X.K [(2, h), (4, d)] g b bs) (hbody : PSs X body (tZ (Z2 X.K h d as (some od)) f))
    (hs : ∀ x, foldedSetIterable iter X.env x = pure x := by intro _; rfl) : PS X (.For tg iter body [] pos) (tZ (Z2 X.K h d as (some od)) (forK b f)) :=
  (ps_for hp hc (pi_keys hi) hg hbody hs).imp fun D σ H ⟨G, ρ, s, ok, un, p⟩ => by
    revert ok un p
    revert s
    show ∀ s : Hd × Af, _
    rintro ⟨hd, af⟩ ok un p
    have s4 : σ[4]? = some (some (.ref d)) := ok.env.pins (4, d) (by simp [Z2])
    have a2 : H d = some (.frz od (.dK (afV af as))) := ok.at_.2.1
    have a3 : Inn H af as := ok.at_.2.2
    have la := inn_len a3
    refine ⟨_, s4, d, od, rfl, .inl ⟨afV af as, a2, ?_⟩⟩
    have un := unO_iff.mp un
    refine ⟨fun k m σ H => m = af.length - k ∧ k ≤ af.length ∧ ∃ G ρ hd' af', Ok (Z2 X.K h d as (some od)) G H σ ρ (hd', af') ∧ unO ρ = true ∧ keysA af' = keysA af ∧ PostZ (Z2 X.K h d as (some od)) G H (fun b => OwnAt σ ρ b ∨ (Z2 X.K h d as (some od)).O b) (loopK b f ((keysA af).drop k) (hd', af') ρ) D,
      ⟨af.length, rfl, Nat.zero_le _, G, ρ, hd, af, ok, un, rfl, p⟩, ?_⟩
    rintro k m σ H ⟨rfl, hk, G, ρ, hd', af', ok, un, ek, p⟩
    have b2 : H d = some (.frz od (.dK (afV af as))) := by
      have := ok.at_.2.1
      rw [← afV_keys (as := as) ek]
      exact this
    have lk : (keysA af).length = af.length := List.length_map _
    by_cases hlt : k < af.length
    · have hl2 : k < (keysA af).length := by rw [lk]; exact hlt
      rw [List.drop_eq_getElem_cons hl2] at p
      refine .inr ⟨⟨b2, by rw [afV_len la]; exact hlt⟩, fun σ' H' => ∃ G ρ hd' af', Ok (Z2 X.K h d as (some od)) G H' σ' ρ (hd', af') ∧ unO ρ = true ∧ keysA af' = keysA af ∧ PostZ (Z2 X.K h d as (some od)) G H' (fun b => OwnAt σ' ρ b ∨ (Z2 X.K h d as (some od)).O b) (loopK b f ((keysA af).drop (k + 1)) (hd', af') ρ) D,
        fun σ' H' ⟨G', ρ', x1, x2, a1, a2, a3, a4⟩ => ⟨af.length - (k + 1), by omega, rfl, hlt, G', ρ', x1, x2, a1, a2, a3, a4⟩, fun v H' q => ?_⟩
      obtain ⟨rfl, key, w, eg, rfl⟩ := q
      have ev : kV key = .str (keysA af)[k] := by
        rw [afV_at k la, List.getElem?_eq_getElem hlt, List.getElem?_eq_getElem (by rw [← la]; exact hlt)] at eg
        simp only [Option.bind_some, Option.map_some, Option.some.injEq, Prod.mk.injEq] at eg
        rw [← eg.1]
        show V.str _ = _
        congr 1
        simp [keysA]
      rw [ev]
      refine hb _ (.str (keysA af)[k]) σ G H' ρ _ ok.env (.str _) ?_
      simp only [loopK] at p
      cases eb : b (.str (keysA af)[k]) ρ with
      | none => rw [eb] at p; exact p
      | some ρ3 =>
        rw [eb] at p
        intro σ3 hl ok3 sub3
        simp only at p
        split at p
        rotate_left
        · exact p.elim
        rename_i un3
        have x3 : Ext G H' (OwnAt σ ρ) G H' (OwnAt σ3 ρ3) := Ext.refl.sub sub3
        have p' := p.at (x3.wide (P := (Z2 X.K h d as (some od)).O))
        refine ⟨G, ρ3, (hd', af'), ⟨ok3, ok.at_, ok.no, fun b o z => ok.disj b o (sub3 b z)⟩, unO_iff.mpr un3, ?_⟩
        cases ef : f (hd', af') ρ3 with
        | none => rw [ef] at p'; exact p'
        | some z =>
          obtain ⟨z, s4'⟩ := z
          rw [ef] at p'
          cases z with
          | nx ρ4 =>
            intro σ' G' H'' a b'
            simp only at p'
            split at p'
            · rename_i un4
              exact ⟨G', ρ4, s4'.1, s4'.2, a, un4.1, un4.2.trans ek, p'.at b'⟩
            · exact p'.elim
          | rt x ρ4 => exact p'.elim
          | ct _ => exact p'.elim
          | bk _ => exact p'.elim
          | exc _ _ => exact p'.elim
    · have e : k = af.length := by omega
      subst e
      rw [List.drop_of_length_le (by rw [lk]; exact Nat.le_refl _)] at p
      exact .inl ⟨⟨b2, by rw [afV_len la]; exact Nat.le_refl _⟩, p σ G H ok Ext.refl⟩
/-- while the outer dict is walked it is locked -/
def lockZ (f : MO) : MO := fun s ρ => match f s ρ with
  | some (.nx ρ', s') => if keysA s'.2 = keysA s.2 then some (.nx ρ', s') else none
  | _ => none
theorem psz_lock (nd : (h :: d :: as).Nodup) {st : Stmt} {f : MO} (q : ∀ od, PS X st (tZ (Z2 X.K h d as (some od)) f)) : PS X st (tZ (Z2 X.K h d as none) (lockZ f)) := by
  have q' : PS X st (fun D σ H => ∃ od, tZ (Z2 X.K h d as (some od)) f D σ H) := ⟨fun pins s σ H D I ⟨od, w⟩ => (q od).run pins s σ H D I w⟩
  refine (ps_lock q').imp fun D σ H ⟨G, ρ, s, ok, un, p⟩ => ?_
  revert ok un p
  revert s
  show ∀ s : Hd × Af, _
  rintro ⟨hd, af⟩ ok un p
  obtain ⟨n1, n2⟩ := List.nodup_cons.mp nd
  obtain ⟨n3, n4⟩ := List.nodup_cons.mp n2
  have nh : h ≠ d := fun z => n1 (by simp [z])
  have a1 : H h = some (.dK (hdV hd)) := ok.at_.1
  have a2 : H d = some (.dK (afV af as)) := ok.at_.2.1
  have a3 : Inn H af as := ok.at_.2.2
  have od' : (Z2 X.K h d as none).O d := .inr (.inl rfl)
  refine ⟨d, _, a2, trivial, fun od => ⟨od, G, ρ, (hd, af), ⟨ok.env.touch (ok.no d od') (ok.disj d od'), ⟨by rw [upd_ne nh]; exact a1, upd_same, inn_upd a3 n3⟩, ok.no, ok.disj⟩, unO_iff.mpr (unO_iff.mp un), ?_⟩⟩
  unfold lockZ at p
  cases e : f (hd, af) ρ with
  | none => rw [e] at p; exact p.elim
  | some z =>
    obtain ⟨z, s'⟩ := z
    rw [e] at p
    cases z with
    | nx ρ' =>
      intro σ' G' H' ok' x'
      simp only at p
      split at p
      rotate_left
      · exact p.elim
      rename_i ek
      obtain ⟨hd', af'⟩ := s'
      have b1 : H' h = some (.dK (hdV hd')) := ok'.at_.1
      have b2 : H' d = some (.frz od (.dK (afV af' as))) := ok'.at_.2.1
      have b3 : Inn H' af' as := ok'.at_.2.2
      have ev : afV af' as = afV af as := afV_keys ek
      rw [ev] at b2
      refine ⟨b2, p σ' G' _ ⟨ok'.env.touch (ok'.no d od') (ok'.disj d od'), ⟨by rw [upd_ne nh]; exact b1, ?_, inn_upd b3 n3⟩, ok'.no, ok'.disj⟩ ?_⟩
      · show upd H' d _ d = some (.dK (afV af' as))
        rw [upd_same, ev]
      · have y1 : Ext G H (fun b => OwnAt σ ρ b ∨ (Z2 X.K h d as none).O b) G (upd H d (.frz od (.dK (afV af as)))) (fun b => OwnAt σ ρ b ∨ (Z2 X.K h d as none).O b) := Ext.at_ (.inr od')
        have y2 : Ext G' H' (fun b => OwnAt σ' ρ' b ∨ (Z2 X.K h d as none).O b) G' (upd H' d (.dK (afV af as))) (fun b => OwnAt σ' ρ' b ∨ (Z2 X.K h d as none).O b) := Ext.at_ (.inr od')
        exact (y1.trans x').trans y2
    | rt _ _ => exact p.elim
    | bk _ => exact p.elim
    | ct _ => exact p.elim
    | exc _ _ => exact p.elim
end
end BO

namespace BO
open PySem L2 BT BK BZ
/-! ### head = dict([(name, name) ..]) -/
def pairD (n : Str) : D := .tup [.str n, .str n]
def decPairs : List D → Option (List Str)
  | [] => some []
  | .tup [.str a, .str b] :: r => if a = b then (decPairs r).map (a :: ·) else none
  | _ => none
theorem decPairs_eq : ∀ {ds : List D} {ns : List Str}, decPairs ds = some ns → ds = ns.map pairD
  | [], _, h => by cases h; rfl
  | .tup [.str a, .str b] :: r, ns, h => by
    simp only [decPairs] at h
    split at h
    · rename_i c
      subst c
      cases q : decPairs r with
      | none => rw [q] at h; cases h
      | some zs => rw [q] at h; cases h; rw [decPairs_eq q]; rfl
    · cases h
theorem decPairs_map : ∀ ns : List Str, decPairs (ns.map pairD) = some ns
  | [] => rfl
  | n :: r => by simp [decPairs, pairD, decPairs_map r]
def idH (ns : List Str) : Hd := ns.map fun n => (n, n)
theorem merge_new : ∀ {kvs acc : List (Key × V)}, (acc ++ kvs).Pairwise (fun x y => x.1 ≠ y.1) → mergeK acc kvs = acc ++ kvs
  | [], acc, _ => by show acc = _; simp
  | x :: r, acc, nd => by
    have hx : ¬ (acc.any fun kv => decide (kv.1 = x.1)) = true := by
      rw [List.any_eq_true]
      rintro ⟨y, hy, e⟩
      have := (List.pairwise_append.mp nd).2.2 y hy x (by simp)
      exact this (of_decide_eq_true e)
    have e : putK acc x.1 x.2 = acc ++ [x] := if_neg hx
    show mergeK (putK acc x.1 x.2) r = _
    rw [e, merge_new (by rw [List.append_assoc]; exact nd), List.append_assoc]; rfl
theorem idH_merge {ns : List Str} (nd : ns.Nodup) : mergeK [] (hdV (idH ns)) = hdV (idH ns) := by
  rw [merge_new, List.nil_append]
  rw [List.nil_append]
  unfold hdV idH
  rw [List.map_map, List.pairwise_map]
  exact nd.imp fun {a b} h e => h (Sum.inr.inj e)
theorem pairs_at {K : PySem.W.Frag} {H : Hp} : ∀ {ns : List Str} {vs : List V}, DtL K H vs (ns.map pairD) → ∃ ps : List Addr, vs = ps.map V.ref ∧ Paired (fun p (kv : Key × V) => SqT K H p [kV kv.1, kv.2]) ps (hdV (idH ns))
  | [], _, .nil => ⟨[], rfl, .nil⟩
  | n :: r, _, .cons (.tup sq items) hs => by
    obtain ⟨ps, e1, e2⟩ := pairs_at hs
    cases items with
    | cons a rest =>
      cases rest with
      | cons b rest2 =>
        cases rest2
        cases a; cases b
        exact ⟨_ :: ps, by rw [e1]; rfl, .cons sq e2⟩
theorem paired_imp {α β : Type} {R S : α → β → Prop} (k : ∀ a b, R a b → S a b) : ∀ {as : List α} {bs : List β}, Paired R as bs → Paired S as bs
  | _, _, .nil => .nil
  | _, _, .cons h t => .cons (k _ _ h) (paired_imp k t)
def mk1 (f : M Sl) (m : Hd → Rho → Option (SRs × Hd)) : MS := fun ρ => match f ρ with
  | some (.val (.ol ds) ρ1) => (match decPairs ds with
    | some ns => if ns.Nodup ∧ unAt 2 ρ1 = true then (match m (idH ns) ρ1 with
      | some (.rt x ρ', _) => some (.rt x ρ')
      | _ => none) else none
    | none => none)
  | _ => none
theorem EnvOk.setUn {K : PySem.W.Frag} {pn : List (Nat × Addr)} {G H : Hp} {σ : St} {ρ : Rho} {i : Nat} {a : Addr} (ok : EnvOk K pn G H σ ρ) (un : ρ[i]? = some .un) (np : ∀ q ∈ pn, q.1 ≠ i) : EnvOk K (pn ++ [(i, a)]) G H (σ.set i (some (.ref a))) ρ ∧ ∀ b, OwnAt (σ.set i (some (.ref a))) ρ b → OwnAt σ ρ b := by
  have hl := ok.len
  have li : i < σ.length := by rw [hl]; exact lt_of_get un
  have at_ : ∀ {j : Nat} {s : Sl}, ρ[j]? = some s → s ≠ .un → (σ.set i (some (.ref a)))[j]? = σ[j]? := fun {j s} e n => List.getElem?_set_ne (fun z => by subst z; rw [un] at e; cases e; exact n rfl)
  refine ⟨⟨ok.sub, by rw [List.length_set]; exact hl, fun j d e => ?_, fun j ds e => ?_, fun j l ds es p e1 e2 e3 e4 => ?_, fun q hq => ?_⟩, fun b ⟨j, ds, z1, z2⟩ => ⟨j, ds, z1, by rw [at_ z1 (by simp)] at z2; exact z2⟩⟩
  · obtain ⟨v, a1, a2⟩ := ok.dt j d e
    exact ⟨v, by rw [at_ e (by simp)]; exact a1, a2⟩
  · obtain ⟨p, vs, a1, a2⟩ := ok.ol j ds e
    exact ⟨p, vs, by rw [at_ e (by simp)]; exact a1, a2⟩
  · rw [at_ e1 (by simp)] at e3; rw [at_ e2 (by simp)] at e4
    exact ok.inj j l ds es p e1 e2 e3 e4
  · rcases List.mem_append.mp hq with hq | hq
    · have e := ok.pins q hq
      rw [List.getElem?_set_ne (fun z => np q hq z.symm)]; exact e
    · simp at hq; subst hq
      exact List.getElem?_set_self li
section
variable {X : Cx} {pos : Pos}
theorem psz_mk1 {pn : List (Nat × Addr)} {E : XK} (hpn : pn = []) {st : Stmt} {rest : List Stmt} {f : M Sl} {m : Hd → Rho → Option (SRs × Hd)}
    (raw : PS X st (tAsg (tCB (fun xs H Q => ∃ (a : Addr) (ps : List Addr) (kvs : List (Key × V)), xs = [.ref a] ∧ SqL X.K H a (ps.map V.ref) ∧ Paired (fun p kv => SqT X.K H p [kV kv.1, kv.2]) ps kvs ∧ ∀ p, H p = none → Q (.ref p) (upd H p (.dK (mergeK [] kvs)))) (tCons (tE X.K pn E f) tNil)) (gName 2)))
    (hrest : ∀ h, PSs X rest (tZ (Z1 X.K h) m)) : PSs X (st :: rest) (tS X.K pn E (mk1 f m)) := by
  subst hpn
  have q' : PSs X rest (fun D σ H => ∃ h, tZ (Z1 X.K h) m D σ H) := ⟨fun pins s σ H D I ⟨h, w⟩ => (hrest h).run pins s σ H D I w⟩
  refine (pss_cons raw q').imp fun D σ H ⟨G, ρ, ok, p⟩ => ?_
  unfold mk1 at p
  refine ⟨G, ρ, ok, ?_⟩
  cases e : f ρ with
  | none => rw [e] at p; exact p.elim
  | some x =>
    rw [e] at p
    cases x with
    | exc _ _ => exact p.elim
    | val y ρ1 =>
      cases y with
      | un => exact p.elim
      | dt _ => exact p.elim
      | ol ds =>
        intro v G1 H1 ok1 x1
        simp only at p
        split at p
        rotate_left
        · exact p.elim
        rename_i ns ens
        split at p
        rotate_left
        · exact p.elim
        rename_i c
        have ed := decPairs_eq ens
        subst ed
        obtain ⟨G2, ok2, dt2, x2⟩ := ok1.freeze (fun q hq => by simp at hq) (d := .lst (ns.map pairD)) rfl
        cases dt2 with
        | lst sq items =>
          obtain ⟨ps, ev, pr⟩ := pairs_at items
          subst ev
          refine ⟨_, ps, hdV (idH ns), rfl, ok2.sub.seq sq, ?_, fun h hh => ?_⟩
          · exact paired_imp (fun _ _ z => Same.sqT ok2.sub z) pr
          rw [idH_merge c.1]
          have un := unAt_iff.mp c.2
          have gh : G2 h = none := Same.free ok2.sub hh
          have noh : ¬ OwnAt σ ρ1 h := fun ⟨j, ds, z1, z2⟩ => by
            obtain ⟨p, vs, z3, z4, _⟩ := ok2.ol j ds z1
            rw [z2] at z3; cases z3
            rw [hh] at z4; cases z4
          have ok3 := ok2.touch (o := .dK (hdV (idH ns))) gh noh
          obtain ⟨ok4, sub4⟩ := EnvOk.setUn (a := h) ok3 un (fun q hq => by simp at hq)
          refine ⟨h, G2, ρ1, idH ns, ⟨ok4, upd_same, fun b e => by cases e; exact gh, fun b e z => by cases e; exact noh (sub4 _ z)⟩, fun q hq => by simp [Z1] at hq; subst hq; exact un, ?_⟩
          cases em : m (idH ns) ρ1 with
          | none => rw [em] at p; exact p.elim
          | some z =>
            obtain ⟨z, s'⟩ := z
            rw [em] at p
            cases z with
            | rt y ρ' =>
              intro v' σ' G' H' a xx
              have x12 := x1.trans x2
              refine p v' σ' G' H' a (x12.trans ⟨xx.grow, fun b z => ?_, fun b o e n => xx.keep b o ?_ ?_, fun b z => ?_⟩)
              · rcases xx.fresh b z with z | z | z | z
                · exact .inl z
                · by_cases c : b = h
                  · subst c; exact .inr (.inl hh)
                  · rw [upd_ne c] at z; exact .inr (.inl z)
                · exact .inr (.inr (sub4 b z))
                · cases z; exact .inr (.inl hh)
              · rw [upd_ne (ne_of_none e hh)]; exact e
              · rintro (z | z)
                · exact n (sub4 b z)
                · exact ne_of_none e hh z
              · rcases xx.own b (.inl z) with (z | z) | z
                · exact .inl (sub4 b z)
                · cases z; exact .inr hh
                · by_cases c : b = h
                  · subst c; exact .inr hh
                  · rw [upd_ne c] at z; exact .inr z
            | nx _ => exact p.elim
            | bk _ => exact p.elim
            | ct _ => exact p.elim
            | exc _ _ => exact p.elim
/-- return (head, after) -/
def retO (s : Hd × Af) (ρ : Rho) : Option (SRs × (Hd × Af)) := some (.rt (.dt (.tup [.dic (hdD s.1), .dic (afD s.2)])) ρ, s)
theorem psz_retO {h d : Addr} {as : List Addr} {st : Stmt} (raw : PS X st (tRet (tTup (tCons (tVar 2) (tCons (tVar 4) tNil))))) : PS X st (tZ (Z2 X.K h d as none) retO) := raw.imp fun D σ H ⟨G, ρ, s, ok, un, p⟩ => by
  revert ok un p
  revert s
  show ∀ s : Hd × Af, _
  rintro ⟨hd, af⟩ ok un p
  have s2 : σ[2]? = some (some (.ref h)) := ok.env.pins (2, h) (by simp [Z2])
  have s4 : σ[4]? = some (some (.ref d)) := ok.env.pins (4, d) (by simp [Z2])
  have a1 : H h = some (.dK (hdV hd)) := ok.at_.1
  have a2 : H d = some (.dK (afV af as)) := ok.at_.2.1
  have a3 : Inn H af as := ok.at_.2.2
  refine ⟨_, s2, _, s4, Nat.le_of_lt (room 2 (by omega)), fun q hq => ?_⟩
  have gq : G q = none := Same.free ok.env.sub hq
  have nO : ∀ b, (Z2 X.K h d as none).O b → b ≠ q := fun b o z => by subst z; exact (Z2 X.K h d as none).some_ ok.at_ o hq
  have G1s : Same G (adds G H (Z2 X.K h d as none).O) := fun b o e => by
    rw [adds_out (fun z => by rw [ok.no b z] at e; cases e)]; exact e
  have G1H : Same (adds G H (Z2 X.K h d as none).O) H := fun b o e => by
    by_cases c : (Z2 X.K h d as none).O b
    · rw [adds_in c] at e; exact e
    · rw [adds_out c] at e; exact ok.env.sub b o e
  have gq1 : adds G H (Z2 X.K h d as none).O q = none := by
    cases c : adds G H (Z2 X.K h d as none).O q with
    | none => rfl
    | some o => have := G1H q o c; rw [hq] at this; cases this
  have ok1 : EnvOk X.K [(2, h), (4, d)] (adds G H (Z2 X.K h d as none).O) H σ ρ := ⟨G1H, ok.env.len, fun j x e => (ok.env.dt j x e).imp fun v ⟨a, b⟩ => ⟨a, b.mono G1s⟩, fun j ds e => by
    obtain ⟨r, vs, z1, z2, z3, z4⟩ := ok.env.ol j ds e
    refine ⟨r, vs, z1, z2, ?_, z4.mono G1s⟩
    rw [adds_out fun o => ok.disj r o ⟨j, ds, e, z1⟩]; exact z3, ok.env.inj, ok.env.pins⟩
  have in_ : ∀ b o, (Z2 X.K h d as none).O b → H b = some o → adds G H (Z2 X.K h d as none).O b = some o := fun b o c e => by rw [adds_in c]; exact e
  have dh : Dt X.K (adds G H (Z2 X.K h d as none).O) (.ref h) (.dic (hdD hd)) := .dic (.inl (in_ _ _ (.inl rfl) a1)) (hd_dt _)
  have dd : Dt X.K (adds G H (Z2 X.K h d as none).O) (.ref d) (.dic (afD af)) := .dic (.inl (in_ _ _ (.inr (.inl rfl)) a2)) (Inn.dt (Inn.loc a3 fun b o m e => in_ b o (.inr (.inr m)) e))
  have ok2 := ok1.alloc (o := .tup [.ref h, .ref d]) hq
  have gs2 : Same (adds G H (Z2 X.K h d as none).O) (upd (adds G H (Z2 X.K h d as none).O) q (.tup [.ref h, .ref d])) := same_alloc gq1
  have ok3 := ok2.push_dt (v := .ref q) (d := .tup [.dic (hdD hd), .dic (afD af)]) (.tup (SqT.of upd_same) (.cons (dh.mono gs2) (.cons (dd.mono gs2) .nil)))
  refine p _ σ _ _ ⟨ok3.sub, ok3.len, ok3.dt, ok3.ol, ok3.inj, fun q hq => by simp at hq⟩ ⟨G1s.trans gs2, fun b z => ?_, fun b o e n => by rw [upd_ne (ne_of_none e hq)]; exact e, fun b z => ?_⟩
  · by_cases c : b = q
    · subst c; exact .inr (.inl hq)
    · rw [upd_ne c] at z
      by_cases o : (Z2 X.K h d as none).O b
      · exact .inr (.inr (.inr o))
      · rw [adds_out o] at z; exact .inl z
  · rcases z with z | z
    · exact .inl (.inl (own_push_dt ok2.len z))
    · exact .inl (.inr z)
end
end BO

namespace BO
open PySem L2 BT BK BZ
/-! ### after = dict([(head[name], {}) ..]): what the pairs become -/
def pairV (l : List (Str × Addr)) : List (Key × V) := l.map fun x => (Sum.inr x.1, V.ref x.2)
def putA (acc : List (Str × Addr)) (k : Str) (a : Addr) : List (Str × Addr) := if k ∈ acc.map (·.1) then acc.map (fun x => if x.1 = k then (x.1, a) else x) else acc ++ [(k, a)]
def mergeA (acc l : List (Str × Addr)) : List (Str × Addr) := l.foldl (fun acc x => putA acc x.1 x.2) acc
theorem putA_V (acc : List (Str × Addr)) (k : Str) (a : Addr) : putK (pairV acc) (.inr k) (.ref a) = pairV (putA acc k a) := by
  unfold putK putA pairV
  have e : ((acc.map fun x => ((Sum.inr x.1 : Key), V.ref x.2)).any fun kv => decide (kv.1 = (Sum.inr k : Key))) = decide (k ∈ acc.map (·.1)) := by
    rw [List.any_map]
    induction acc with
    | nil => rfl
    | cons x r ih =>
      rw [List.any_cons, ih]
      simp only [Function.comp]
      rw [key_dec]
      by_cases c : x.1 = k
      · simp [c]
      · have c' : ¬ k = x.1 := fun z => c z.symm
        simp [c, c']
  rw [e]
  by_cases c : k ∈ acc.map (·.1)
  · rw [if_pos (by simpa using c), if_pos c, List.map_map, List.map_map]
    congr 1
    funext x
    simp only [Function.comp]
    by_cases d : x.1 = k
    · simp [d]
    · have d' : ¬ ((Sum.inr x.1 : Key) = Sum.inr k) := fun q => d (Sum.inr.inj q)
      simp [d]
  · rw [if_neg (by simpa using c), if_neg c]; simp
theorem mergeA_V : ∀ (l acc : List (Str × Addr)), mergeK (pairV acc) (pairV l) = pairV (mergeA acc l)
  | [], _ => rfl
  | x :: r, acc => by
    show mergeK (putK (pairV acc) (.inr x.1) (.ref x.2)) (pairV r) = pairV (mergeA (putA acc x.1 x.2) r)
    rw [putA_V, mergeA_V r]
theorem putA_keys (acc : List (Str × Addr)) (k : Str) (a : Addr) : (putA acc k a).map (·.1) = addK (acc.map (·.1)) k := by
  unfold putA addK
  split
  · rw [List.map_map]
    apply List.map_congr_left
    intro x _
    simp only [Function.comp]
    split <;> rfl
  · simp
theorem mergeA_keys : ∀ (l acc : List (Str × Addr)), (mergeA acc l).map (·.1) = mergeS (acc.map (·.1)) (l.map (·.1))
  | [], _ => rfl
  | x :: r, acc => by
    show (mergeA (putA acc x.1 x.2) r).map (·.1) = mergeS (addK (acc.map (·.1)) x.1) (r.map (·.1))
    rw [mergeA_keys r, putA_keys]
theorem addK_nd {ks : List Str} (n : ks.Nodup) (v : Str) : (addK ks v).Nodup := by
  unfold addK
  split
  · exact n
  · rename_i c
    exact List.nodup_append.mpr ⟨n, by simp, fun x hx y hy => by simp at hy; subst hy; exact fun e => c (e ▸ hx)⟩
theorem putA_vals {acc : List (Str × Addr)} {k : Str} {a : Addr} (nk : (acc.map (·.1)).Nodup) (nv : (acc.map (·.2)).Nodup) (na : a ∉ acc.map (·.2)) : ((putA acc k a).map (·.2)).Nodup ∧ ∀ b ∈ (putA acc k a).map (·.2), b = a ∨ b ∈ acc.map (·.2) := by
  unfold putA
  split
  · rename_i hk
    clear hk
    induction acc with
    | nil => simp
    | cons x r ih =>
      simp only [List.map_cons, List.nodup_cons, List.mem_cons, not_or] at nk nv na
      obtain ⟨i1, i2⟩ := ih nk.2 nv.2 na.2
      by_cases c : x.1 = k
      · have rest : (r.map fun x => if x.1 = k then (x.1, a) else x) = r := by
          conv => rhs; rw [← List.map_id r]
          apply List.map_congr_left
          intro y hy
          have : y.1 ≠ k := fun e => nk.1 (c ▸ e ▸ List.mem_map.mpr ⟨y, hy, rfl⟩)
          simp [this]
        simp only [List.map_cons, c, if_true, rest, List.nodup_cons, List.mem_cons]
        exact ⟨⟨na.2, nv.2⟩, fun b hb => hb.imp id .inr⟩
      · simp only [List.map_cons, c, if_false, List.nodup_cons, List.mem_cons]
        refine ⟨⟨fun m => ?_, i1⟩, fun b hb => ?_⟩
        · rcases i2 _ m with e | e
          · exact na.1 e.symm
          · exact nv.1 e
        · rcases hb with e | e
          · exact .inr (.inl e)
          · exact (i2 b e).imp id .inr
  · rw [List.map_append]
    refine ⟨List.nodup_append.mpr ⟨nv, by simp, fun x hx y hy => ?_⟩, fun b hb => ?_⟩
    · simp at hy; subst hy; exact fun e => na (e ▸ hx)
    · rcases List.mem_append.mp hb with e | e
      · exact .inr e
      · simp at e; exact .inl e
theorem mergeA_vals : ∀ (l acc : List (Str × Addr)), (acc.map (·.1)).Nodup → (acc.map (·.2) ++ l.map (·.2)).Nodup → ((mergeA acc l).map (·.2)).Nodup ∧ ∀ b ∈ (mergeA acc l).map (·.2), b ∈ acc.map (·.2) ∨ b ∈ l.map (·.2)
  | [], acc, _, n => ⟨(by rw [List.map_nil, List.append_nil] at n; exact n), fun b hb => .inl hb⟩
  | x :: r, acc, nk, n => by
    have n' := List.nodup_append.mp n
    simp only [List.map_cons, List.nodup_cons] at n'
    have na : x.2 ∉ acc.map (·.2) := fun m => n'.2.2 x.2 m x.2 (by simp) rfl
    obtain ⟨p1, p2⟩ := putA_vals (k := x.1) nk n'.1 na
    have nk' : ((putA acc x.1 x.2).map (·.1)).Nodup := by rw [putA_keys]; exact addK_nd nk _
    obtain ⟨q1, q2⟩ := mergeA_vals r (putA acc x.1 x.2) nk' (List.nodup_append.mpr ⟨p1, n'.2.1.2, fun b hb c hc e => by
      subst e
      rcases p2 b hb with e | e
      · subst e; exact n'.2.1.1 hc
      · exact n'.2.2 b e b (by simp [hc]) rfl⟩)
    refine ⟨q1, fun b hb => ?_⟩
    rcases q2 b hb with e | e
    · rcases p2 b e with e | e
      · exact .inr (by simp [e])
      · exact .inl e
    · exact .inr (by simp only [List.map_cons, List.mem_cons]; exact .inr e)
/-- the fresh dict of dicts -/
def emptyA (us : List Str) : Af := (mergeS [] us).map fun k => (k, [])
theorem emptyA_V {l : List (Str × Addr)} : afV (emptyA (l.map (·.1))) ((mergeA [] l).map (·.2)) = pairV (mergeA [] l) := by
  have e := mergeA_keys l []
  simp only [List.map_nil] at e
  unfold emptyA
  rw [← e]
  clear e
  generalize mergeA [] l = M
  induction M with
  | nil => rfl
  | cons x r ih => simp only [List.map_cons, afV, pairV, ih]
theorem emptyA_inn {H : Hp} {l : List (Str × Addr)} (h : ∀ a ∈ l.map (·.2), H a = some (.dK [])) (nv : (l.map (·.2)).Nodup) : Inn H (emptyA (l.map (·.1))) ((mergeA [] l).map (·.2)) := by
  have e := mergeA_keys l []
  simp only [List.map_nil] at e
  have v := (mergeA_vals l [] (by simp) (by simpa using nv)).2
  unfold emptyA
  rw [← e]
  have all : ∀ a ∈ (mergeA [] l).map (·.2), H a = some (.dK []) := fun a ha => h a ((v a ha).elim (fun z => by simp at z) id)
  clear e v
  revert all
  generalize mergeA [] l = M
  intro all
  induction M with
  | nil => trivial
  | cons x r ih => exact ⟨all _ (by simp), ih fun a ha => all a (by simp only [List.map_cons, List.mem_cons]; exact .inr ha)⟩
end BO

namespace BO
open PySem L2 BT BK BZ
theorem paired_snoc {α β : Type} {R : α → β → Prop} {a : α} {b : β} (r : R a b) : ∀ {as : List α} {bs : List β}, Paired R as bs → Paired R (as ++ [a]) (bs ++ [b])
  | _, _, .nil => .cons r .nil
  | _, _, .cons h t => .cons h (paired_snoc r t)
theorem paired_imp2 {α β γ : Type} {R : α → β → Prop} {S : α → γ → Prop} {f : β → γ} (k : ∀ a b, R a b → S a (f b)) : ∀ {as : List α} {bs : List β}, Paired R as bs → Paired S as (bs.map f)
  | _, _, .nil => .nil
  | _, _, .cons h t => .cons (k _ _ h) (paired_imp2 k t)
/-- the pairs so far -/
structure Prs (H1 Hc : Hp) (D : Addr) (ps : List Addr) (l : List (Str × Addr)) : Prop where
  lst : Hc D = some (.lst (ps.map V.ref))
  prs : Paired (fun p (x : Str × Addr) => Hc p = some (.tup [.str x.1, .ref x.2]) ∧ H1 p = none ∧ p ≠ D) ps l
  new : ∀ a ∈ l.map (·.2), Hc a = some (.dK []) ∧ H1 a = none
  nd : (l.map (·.2)).Nodup
  keep : ∀ b o, H1 b = some o → Hc b = some o
theorem paired_len {α β : Type} {R : α → β → Prop} : ∀ {as : List α} {bs : List β}, Paired R as bs → as.length = bs.length
  | _, _, .nil => rfl
  | _, _, .cons _ t => by simp [paired_len t]
theorem Prs.next {H1 Hc : Hp} {D : Addr} {ps : List Addr} {l : List (Str × Addr)} (x : Prs H1 Hc D ps l) (hD : H1 D = none) {u : Str} {q p : Addr} (hq : Hc q = none) (hp : upd Hc q (.dK []) p = none) :
    upd (upd Hc q (.dK [])) p (.tup [.str u, .ref q]) D = some (.lst (ps.map V.ref)) ∧ Prs H1 (upd (upd (upd Hc q (.dK [])) p (.tup [.str u, .ref q])) D (.lst ((ps ++ [p]).map V.ref))) D (ps ++ [p]) (l ++ [(u, q)]) := by
  have qD : D ≠ q := ne_of_none x.lst hq
  have pD : D ≠ p := ne_of_none (by rw [upd_ne qD]; exact x.lst) hp
  have pq : q ≠ p := ne_of_none upd_same hp
  have hp0 : Hc p = none := by rw [upd_ne pq.symm] at hp; exact hp
  have old : ∀ {b o}, Hc b = some o → b ≠ D → upd (upd (upd Hc q (.dK [])) p (.tup [.str u, .ref q])) D (.lst ((ps ++ [p]).map V.ref)) b = some o := fun {b o} e n => by
    rw [upd_ne n, upd_ne (ne_of_none e hp0), upd_ne (ne_of_none e hq)]; exact e
  have f1 : ∀ {b}, Hc b = none → H1 b = none := fun {b} e => by
    cases c : H1 b with
    | none => rfl
    | some o => rw [x.keep b o c] at e; cases e
  refine ⟨by rw [upd_ne pD, upd_ne qD]; exact x.lst, upd_same, paired_snoc ?_ (paired_imp (fun a b ⟨z1, z2, z3⟩ => ⟨old z1 z3, z2, z3⟩) x.prs), fun a ha => ?_, ?_, fun b o e => ?_⟩
  · exact ⟨by rw [upd_ne pD.symm, upd_same], f1 hp0, pD.symm⟩
  · rw [List.map_append] at ha
    rcases List.mem_append.mp ha with ha | ha
    · obtain ⟨z1, z2⟩ := x.new a ha
      exact ⟨old z1 (fun z => by subst z; rw [x.lst] at z1; cases z1), z2⟩
    · simp at ha; subst ha
      exact ⟨by rw [upd_ne qD.symm, upd_ne pq, upd_same], f1 hq⟩
  · rw [List.map_append]
    refine List.nodup_append.mpr ⟨x.nd, by simp, fun a ha b hb => ?_⟩
    simp at hb; subst hb
    exact fun e => by subst e; have := (x.new a ha).1; rw [hq] at this; cases this
  · have n : b ≠ D := ne_of_none e hD
    exact old (x.keep b o e) n
section
variable {K : PySem.W.Frag} {h : Addr} {G H : Hp} {σ : St} {ρ : Rho} {hd : Hd}
theorem lc_pairs {ns us : List Str} {Q : VK} (ok : Ok (Z1 K h) G H σ ρ hd) (h0 : ρ[0]? = some (.dt (.lst (ns.map .str)))) (l11 : 11 < ρ.length) (hu : ns.map (lookS hd) = us.map some) (few : ns.length ≤ 1000)
    (q : ∀ (G1 H1 Hc : Hp) (D : Addr) (ps : List Addr) (l : List (Str × Addr)), Ok (Z1 K h) G1 H1 σ ρ hd → Ext G H (fun b => OwnAt σ ρ b ∨ b = h) G1 H1 (fun b => OwnAt σ ρ b ∨ b = h) → H1 D = none → Prs H1 Hc D ps l → l.map (·.1) = us → Q (.ref D) Hc) :
    tLc (tI K [(2, h)] E00 (seqD (mVar 0))) (gName 11) tYes (tTup (tCons (tDGet (tVar 2) (tVar 11)) (tCons tDNewK tNil))) [11] σ H Q := by
  refine ⟨G, ρ, ok.env, ?_⟩
  have es : seqD (mVar 0) ρ = some (.val (ns.map .str) ρ) := by simp [h0]
  rw [es]
  intro J G1 H1 ok1 x1 y D hD
  obtain ⟨a1, b1, c1⟩ := Ok.ext ok.at_ ok.no x1 ok.disj
  have okz : Ok (Z1 K h) G1 H1 σ ρ hd := ⟨ok1, a1, b1, c1⟩
  have lu : ns.length = us.length := by have := congrArg List.length hu; simpa using this
  refine ⟨fun i m Hc => m = ns.length - i ∧ i ≤ ns.length ∧ ∃ ps l, Prs H1 Hc D ps l ∧ l.map (·.1) = us.take i, ⟨ns.length, rfl, Nat.zero_le _, [], [], ⟨upd_same, .nil, fun a ha => by simp at ha, by simp, fun b o e => by rw [upd_ne (ne_of_none e hD)]; exact e⟩, by simp⟩, ?_⟩
  rintro i m Hc ⟨rfl, hi, ps, l, P, el⟩
  have sub : Same G1 Hc := fun b o e => P.keep b o (ok1.sub b o e)
  have ln : (ns.map BT.D.str).length = ns.length := List.length_map _
  by_cases lt : i < ns.length
  · have ed : (ns.map BT.D.str)[i]? = some (.str ns[i]) := by rw [List.getElem?_map, List.getElem?_eq_getElem lt]; rfl
    have eu : lookS hd ns[i] = some (us[i]'(by omega)) := by
      have := congrArg (fun z => z[i]?) hu
      simp only [List.getElem?_map, List.getElem?_eq_getElem lt, List.getElem?_eq_getElem (show i < us.length by omega), Option.map_some, Option.some.injEq] at this
      exact this
    refine .inr ⟨y.go i _ Hc sub ed, fun H' => ∃ ps l, Prs H1 H' D ps l ∧ l.map (·.1) = us.take (i + 1), fun H' ⟨ps', l', P', el'⟩ => ⟨ns.length - (i + 1), by omega, rfl, lt, ps', l', P', el'⟩, fun x H' yy => ?_⟩
    have hx : H' = Hc ∧ x = .str ns[i] := by
      rcases y.yld i _ Hc x H' sub ed yy with ⟨e1, e2⟩ | ⟨p, vs, es', _, _, _, e, _⟩
      · cases e2; exact ⟨e1, rfl⟩
      · cases e
    obtain ⟨rfl, rfl⟩ := hx
    show _ ∧ _
    have lσ : 11 < σ.length := by rw [ok.env.len]; exact l11
    have w0 : wipe σ [11] = σ.set 11 none := rfl
    refine ⟨by rw [w0]; show (((σ.set 11 none).set 11 _).set 11 none) = σ.set 11 none; rw [List.set_set, List.set_set], ?_⟩
    rw [w0]
    simp only [tYes, if_true]
    have s2 : ((σ.set 11 none).set 11 (some (V.str ns[i])))[2]? = some (some (.ref h)) := by
      rw [List.getElem?_set_ne (by decide), List.getElem?_set_ne (by decide)]
      exact ok.env.pins (2, h) (by simp [Z1])
    have s11 : ((σ.set 11 none).set 11 (some (V.str ns[i])))[11]? = some (some (.str ns[i])) := List.getElem?_set_self (by rw [List.length_set]; exact lσ)
    have hh : H' h = some (.dK (hdV hd)) := P.keep _ _ a1
    refine ⟨_, s2, _, s11, h, _, rfl, .inl ⟨_, .inr ns[i], .inl hh, rfl, by rw [valV_hd, eu]; rfl⟩, fun q hq => ?_⟩
    refine ⟨Nat.le_of_lt (room 2 (by omega)), fun p hp => ?_⟩
    obtain ⟨z1, z2⟩ := P.next hD (u := us[i]'(by omega)) hq hp
    have pl := paired_len P.prs
    have ll : l.length = i := by have := congrArg List.length el; simp at this; omega
    refine ⟨_, z1, room _ (by rw [List.length_map, pl]; omega), ps ++ [p], l ++ [(us[i]'(by omega), q)], ?_, ?_⟩
    · rw [List.map_append] at z2; exact z2
    · rw [List.map_append, el, List.take_succ_eq_append_getElem (show i < us.length by omega)]; rfl
  · have e : i = ns.length := by omega
    subst e
    refine .inl ⟨by have := y.stop Hc sub; rw [ln] at this; exact this, q G1 H1 Hc D ps l okz (x1.wide (P := fun b => b = h)) hD P (by rw [el, lu, List.take_length])⟩
end
end BO

namespace BO
open PySem L2 BT BK BZ
def looks (hd : Hd) : List Str → Option (List Str)
  | [] => some []
  | n :: r => match lookS hd n, looks hd r with | some u, some us => some (u :: us) | _, _ => none
theorem looks_map {hd : Hd} : ∀ {ns us : List Str}, looks hd ns = some us → ns.map (lookS hd) = us.map some
  | [], _, h => by cases h; rfl
  | n :: r, us, h => by
    simp only [looks] at h
    cases e1 : lookS hd n with
    | none => rw [e1] at h; cases h
    | some u =>
      cases e2 : looks hd r with
      | none => rw [e1, e2] at h; cases h
      | some zs => rw [e1, e2] at h; cases h; rw [List.map_cons, List.map_cons, e1, looks_map e2]
def mk2 (m : MO) (hd : Hd) (ρ : Rho) : Option (SRs × Hd) := match (ρ[0]? : Option Sl) with
  | some (.dt (.lst ds)) => (match decStrs ds with
    | some ns => (match looks hd ns with
      | some us => if ns.length ≤ 1000 ∧ 11 < ρ.length ∧ unO ρ = true then (match m (hd, emptyA us) ρ with
        | some (.rt x ρ', s') => some (.rt x ρ', s'.1)
        | _ => none) else none
      | none => none)
    | none => none)
  | _ => none
section
variable {X : Cx} {pos : Pos} {h : Addr}
theorem psz_mk2 {st : Stmt} {rest : List Stmt} {m : MO}
    (raw : PS X st (tAsg (tCB (fun xs H Q => ∃ (a : Addr) (ps : List Addr) (kvs : List (Key × V)), xs = [.ref a] ∧ SqL X.K H a (ps.map V.ref) ∧ Paired (fun p kv => SqT X.K H p [kV kv.1, kv.2]) ps kvs ∧ ∀ p, H p = none → Q (.ref p) (upd H p (.dK (mergeK [] kvs))))
      (tCons (tLc (tI X.K [(2, h)] E00 (seqD (mVar 0))) (gName 11) tYes (tTup (tCons (tDGet (tVar 2) (tVar 11)) (tCons tDNewK tNil))) [11]) tNil)) (gName 4)))
    (hrest : ∀ d as, (h :: d :: as).Nodup → PSs X rest (tZ (Z2 X.K h d as none) m)) : PSs X (st :: rest) (tZ (Z1 X.K h) (mk2 m)) := by
  have q' : PSs X rest (fun D σ H => ∃ d as, (h :: d :: as).Nodup ∧ tZ (Z2 X.K h d as none) m D σ H) := ⟨fun pins s σ H D I ⟨d, as, nd, w⟩ => (hrest d as nd).run pins s σ H D I w⟩
  refine (pss_cons raw q').imp fun D σ H ⟨G, ρ, s, ok, un, p⟩ => ?_
  revert ok un p
  revert s
  show ∀ hd : Hd, _
  intro hd ok un p
  unfold mk2 at p
  split at p
  rotate_left
  · exact p.elim
  rename_i ds e0
  split at p
  rotate_left
  · exact p.elim
  rename_i ns en
  split at p
  rotate_left
  · exact p.elim
  rename_i us eu
  split at p
  rotate_left
  · exact p.elim
  rename_i c
  obtain ⟨few, l11, un2⟩ := c
  have ed := decStrs_eq en
  subst ed
  have u4 : ρ[4]? = some .un := by
    unfold unO at un2
    rw [Bool.and_eq_true] at un2
    exact unAt_iff.mp un2.2
  unfold tSeq tAsg tCB
  have pairs := @lc_pairs X.K h G H σ ρ hd ns us
  refine pairs ok e0 l11 (looks_map eu) few fun G1 H1 Hc Dl ps l ok1 x1 hDl P el => ?_
  refine ⟨Dl, ps, pairV l, rfl, SqL.of P.lst, ?_, fun d hd' => ?_⟩
  · exact paired_imp2 (fun p x ⟨z, _, _⟩ => .inl (.inl z)) P.prs
  have e1 : mergeK [] (pairV l) = pairV (mergeA [] l) := mergeA_V l []
  rw [e1]
  have h1 : H1 h = some (.dK (hdV hd)) := ok1.at_
  have nas : ∀ a ∈ (mergeA [] l).map (·.2), a ∈ l.map (·.2) := fun a ha => ((mergeA_vals l [] (by simp) (by simpa using P.nd)).2 a ha).elim (fun z => by simp at z) id
  have nd : (h :: d :: (mergeA [] l).map (·.2)).Nodup := by
    rw [List.nodup_cons, List.nodup_cons]
    refine ⟨fun z => ?_, fun z => ?_, (mergeA_vals l [] (by simp) (by simpa using P.nd)).1⟩
    · rcases List.mem_cons.mp z with z | z
      · rw [← z] at hd'; rw [P.keep _ _ h1] at hd'; cases hd'
      · have := (P.new h (nas h z)).2; rw [h1] at this; cases this
    · have := (P.new d (nas d z)).1; rw [hd'] at this; cases this
  have gd : G1 d = none := Same.free (fun b o e => P.keep b o (ok1.env.sub b o e)) hd'
  have h1d : H1 d = none := by
    cases c : H1 d with
    | none => rfl
    | some o => rw [P.keep d o c] at hd'; cases hd'
  have ok2 : EnvOk X.K [(2, h)] G1 (upd Hc d (.dK (pairV (mergeA [] l)))) σ ρ := by
    refine ⟨fun b o e => ?_, ok1.env.len, ok1.env.dt, fun j es e => ?_, ok1.env.inj, ok1.env.pins⟩
    · rw [upd_ne (ne_of_none e gd)]; exact P.keep b o (ok1.env.sub b o e)
    · obtain ⟨q, vs, z1, z2, z3, z4⟩ := ok1.env.ol j es e
      exact ⟨q, vs, z1, by rw [upd_ne (ne_of_none z2 h1d)]; exact P.keep _ _ z2, z3, z4⟩
  obtain ⟨ok3, sub3⟩ := EnvOk.setUn (a := d) ok2 u4 (fun q hq => by simp at hq; subst hq; show (2 : Nat) ≠ 4; decide)
  have nO : ∀ b, (Z2 X.K h d ((mergeA [] l).map (·.2)) none).O b → b = h ∨ H1 b = none := fun b o => by
    rcases o with o | o | o
    · exact .inl o
    · subst o; exact .inr h1d
    · exact .inr (P.new b (nas b o)).2
  have own0 : ∀ b, OwnAt σ ρ b → H1 b ≠ none := fun b ⟨j, es, z1, z2⟩ e => by
    obtain ⟨q, vs, z3, z4, _⟩ := ok1.env.ol j es z1
    rw [z2] at z3; cases z3
    rw [z4] at e; cases e
  have okz : Ok (Z2 X.K h d ((mergeA [] l).map (·.2)) none) G1 (upd Hc d (.dK (pairV (mergeA [] l)))) (σ.set 4 (some (.ref d))) ρ (hd, emptyA us) := by
    refine ⟨ok3, ⟨?_, ?_, ?_⟩, fun b o => ?_, fun b o z => ?_⟩
    · show upd Hc d _ h = _
      rw [upd_ne (ne_of_none h1 h1d)]; exact P.keep _ _ h1
    · show upd Hc d _ d = some (.dK (afV (emptyA us) ((mergeA [] l).map (·.2))))
      rw [upd_same, ← el, emptyA_V]
    · rw [← el]
      show BO.Inn _ (emptyA (l.map (·.1))) ((mergeA [] l).map (·.2))
      exact emptyA_inn (fun a ha => by
        have z := P.new a ha
        rw [upd_ne (ne_of_none z.1 hd')]; exact z.1) P.nd
    · rcases nO b o with z | z
      · subst z; exact ok1.no b rfl
      · exact Same.free ok1.env.sub z
    · have z := sub3 b z
      rcases nO b o with y | y
      · subst y; exact ok1.disj b rfl z
      · exact own0 b z y
  refine ⟨d, _, nd, G1, ρ, (hd, emptyA us), okz, unO_iff.mpr un2, ?_⟩
  have p := p.at x1
  cases em : m (hd, emptyA us) ρ with
  | none => rw [em] at p; exact p.elim
  | some z =>
    obtain ⟨z, s'⟩ := z
    rw [em] at p
    cases z with
    | rt y ρ' =>
      intro v' σ' G' H' a xx
      refine p v' σ' G' H' a ⟨xx.grow, fun b z => ?_, fun b o e n => xx.keep b o ?_ ?_, fun b z => ?_⟩
      · rcases xx.fresh b z with z | z | z | z
        · exact .inl z
        · by_cases c : b = d
          · subst c; exact .inr (.inl h1d)
          · rw [upd_ne c] at z
            cases c2 : H1 b with
            | none => exact .inr (.inl rfl)
            | some o => rw [P.keep b o c2] at z; cases z
        · exact .inr (.inr (.inl (sub3 b z)))
        · rcases nO b z with y | y
          · exact .inr (.inr (.inr y))
          · exact .inr (.inl y)
      · rw [upd_ne (ne_of_none e h1d)]; exact P.keep b o e
      · rintro (z | z)
        · exact n (.inl (sub3 b z))
        · rcases nO b z with y | y
          · exact n (.inr y)
          · rw [e] at y; cases y
      · rcases z with z | z
        · rcases xx.own b (.inl z) with (z | z) | z
          · exact .inl (.inl (sub3 b z))
          · rcases nO b z with y | y
            · exact .inl (.inr y)
            · exact .inr y
          · by_cases c : b = d
            · subst c; exact .inr h1d
            · rw [upd_ne c] at z
              cases c2 : H1 b with
              | none => exact .inr rfl
              | some o => rw [P.keep b o c2] at z; cases z
        · exact .inl (.inr z)
    | nx _ => exact p.elim
    | bk _ => exact p.elim
    | ct _ => exact p.elim
    | exc _ _ => exact p.elim
end
end BO

/-! Mirrors that name no address. -/
namespace BO
open PySem L2 BT BK BZ
section
variable {S : Type}
abbrev MN (S : Type) := S → Rho → Option (SRs × S)
abbrev EN (S α : Type) := S → Rho → Option (α × Rho)
def sqN (un : Rho → Bool) (f g : MN S) : MN S := fun s ρ => match f s ρ with
  | some (.nx ρ', s') => if un ρ' = true then g s' ρ' else none
  | x => x
def nxN : MN S := fun s ρ => some (.nx ρ, s)
def ifN (un : Rho → Bool) (t : EN S Bool) (f g : MN S) : MN S := fun s ρ => match t s ρ with
  | some (b, ρ') => if un ρ' = true then (if b = true then f s ρ' else g s ρ') else none
  | none => none
def setN (j : Nat) (f : EN S Sl) : MN S := fun s ρ => match f s ρ with | some (y, ρ') => if j < ρ'.length then some (.nx (ρ'.set j y), s) else none | none => none
def loopN (un : Rho → Bool) (b : D → Rho → Option Rho) (body : MN S) : List D → MN S
  | [] => nxN
  | d :: ds => fun s ρ => match b d ρ with
    | none => none
    | some ρ1 => if un ρ1 = true then (match body s ρ1 with
      | some (.nx ρ2, s2) => if un ρ2 = true then loopN un b body ds s2 ρ2 else none
      | some (.rt x ρ2, s2) => some (.rt x ρ2, s2)
      | _ => none) else none
def forN (un : Rho → Bool) (src : M (List D)) (b : D → Rho → Option Rho) (body : MN S) : MN S := fun s ρ => match src ρ with
  | some (.val ds ρ') => if un ρ' = true then loopN un b body ds s ρ' else none
  | _ => none
def vwN (dat : S → Nat → Option D) (s : S) (ρ : Rho) : Rho := ρ.mapIdx fun i x => match dat s i with | some d => .dt d | none => x
open Classical in
noncomputable def vE (dat : S → Nat → Option D) (f : M Sl) : EN S Sl := fun s ρ => match f (vwN dat s (frzAll ρ)) with
  | some (.val x ρ') => if ρ' = vwN dat s (frzAll ρ) ∧ atomS x = true then some (x, frzAll ρ) else none
  | _ => none
open Classical in
noncomputable def vT (dat : S → Nat → Option D) (f : M Bool) : EN S Bool := fun s ρ => match f (vwN dat s (frzAll ρ)) with
  | some (.val x ρ') => if ρ' = vwN dat s (frzAll ρ) then some (x, frzAll ρ) else none
  | _ => none
end
variable {X : Cx} {Z : Zk X.K} {pos : Pos} {un : Rho → Bool}
theorem tZ_eq {f g : MZ Z} (h : ∀ s ρ, f s ρ = g s ρ) : f = g := funext fun s => funext fun ρ => h s ρ
theorem psn_cons (hu : ∀ ρ, unZ Z ρ ↔ un ρ = true) {st : Stmt} {rest : List Stmt} {f g : MZ Z} (h1 : PS X st (tZ Z f)) (h2 : PSs X rest (tZ Z g)) : PSs X (st :: rest) (tZ Z (sqN un f g)) := by
  have e : sqN un f g = sqZ Z f g := tZ_eq fun s ρ => by
    unfold sqN sqZ
    cases f s ρ with
    | none => rfl
    | some x =>
      obtain ⟨x, s'⟩ := x
      cases x with
      | nx ρ' =>
        by_cases c : un ρ' = true
        · simp only [if_pos c, if_pos ((hu ρ').mpr c)]
        · simp only [if_neg c, if_neg (fun z => c ((hu ρ').mp z))]
      | _ => rfl
  rw [e]; exact psz_cons h1 h2
theorem psn_nil : PSs X [] (tZ Z nxN) := psz_nil
theorem psn_if (hu : ∀ ρ, unZ Z ρ ↔ un ρ = true) {c : Expr} {a b : List Stmt} {t : EZ Z Bool} {f g : MZ Z} (hc : PT X c (tTZ Z t)) (ha : PSs X a (tZ Z f)) (hb : PSs X b (tZ Z g)) : PS X (.If c a b pos) (tZ Z (ifN un t f g)) := by
  have e : ifN un t f g = ifZ Z t f g := tZ_eq fun s ρ => by
    unfold ifN ifZ
    cases t s ρ with
    | none => rfl
    | some x =>
      obtain ⟨x, ρ'⟩ := x
      by_cases c : un ρ' = true
      · simp only [if_pos c, if_pos ((hu ρ').mpr c)]
      · simp only [if_neg c, if_neg (fun z => c ((hu ρ').mp z))]
  rw [e]; exact psz_if hc ha hb
theorem psn_set {j : Nat} {x : Str} {e : Expr} {f : EZ Z Sl} {pos' : Pos} (hp : ∀ q ∈ Z.pn, q.1 ≠ j) (hN : X.N.Nodup) (hi : X.N[j]? = some x) (hx : Loc X.env.scope x) (he : PE X e (tEZ Z f)) (hs : swapsWith e (some (.Name x pos')) pos.line X.env = pure false := by rfl)
    (hf : X.fn x = true ∨ X.env.scope.names.lookup x = some .local := by first | exact .inl rfl | exact .inr rfl | assumption) : PS X (.Assign [.Name x pos'] e pos) (tZ Z (setN j f)) := psz_set hp hN hi hx he hs hf
theorem loopN_eq (hu : ∀ ρ, unZ Z ρ ↔ un ρ = true) {b : D → Rho → Option Rho} {body : MZ Z} : ∀ (ds : List D) (s : Z.S) (ρ : Rho), loopN un b body ds s ρ = loopZ Z b body ds s ρ
  | [], _, _ => rfl
  | d :: ds, s, ρ => by
    unfold loopN loopZ
    cases b d ρ with
    | none => rfl
    | some ρ1 =>
      by_cases c : un ρ1 = true
      · simp only [if_pos c, if_pos ((hu ρ1).mpr c)]
        cases body s ρ1 with
        | none => rfl
        | some x =>
          obtain ⟨x, s2⟩ := x
          cases x with
          | nx ρ2 =>
            by_cases c2 : un ρ2 = true
            · simp only [if_pos c2, if_pos ((hu ρ2).mpr c2)]
              exact loopN_eq hu ds s2 ρ2
            · simp only [if_neg c2, if_neg (fun z => c2 ((hu ρ2).mp z))]
          | _ => rfl
      · simp only [if_neg c, if_neg (fun z => c ((hu ρ1).mp z))]
theorem psn_for (hu : ∀ ρ, unZ Z ρ ↔ un ρ = true) {tg iter : Expr} {body : List Stmt} {src : M (List D)} {g : TG} {b : D → Rho → Option Rho} {bs : List Nat} {f : MZ Z} (hp : PassesOwn (model X.prog X.w) X.A X.env X.xe) (hc : X.calm = true) (hi : PI X tg iter (tI X.K Z.pn E00 src)) (hg : PG X tg g) (hb : GB X.K Z.pn g b bs) (hbody : PSs X body (tZ Z f))
    (hs : ∀ x, foldedSetIterable iter X.env x = pure x := by intro _; rfl) : PS X (.For tg iter body [] pos) (tZ Z (forN un src b f)) := by
  have e : forN un src b f = forZ Z src b f := tZ_eq fun s ρ => by
    unfold forN forZ
    cases src ρ with
    | none => rfl
    | some x =>
      cases x with
      | exc _ _ => rfl
      | val ds ρ' =>
        by_cases c : un ρ' = true
        · simp only [if_pos c, if_pos ((hu ρ').mpr c), loopN_eq hu]
        · simp only [if_neg c, if_neg (fun z => c ((hu ρ').mp z))]
  rw [e]; exact psz_for hp hc hi hg hb hbody hs
theorem pen_view {a : Expr} {f : M Sl} (h : PE X a (tE X.K Z.pn E00 f)) : PE X a (tEZ Z (vE Z.dat f)) := pez_view h
theorem ptn_view {a : Expr} {f : M Bool} (h : PT X a (tT X.K Z.pn E00 f)) : PT X a (tTZ Z (vT Z.dat f)) := ptz_view h
def un1 : Rho → Bool := unAt 2
theorem un1_iff {h : Addr} {ρ : Rho} : unZ (Z1 X.K h) ρ ↔ un1 ρ = true := by
  unfold unZ un1
  simp only [Z1, List.mem_cons, List.not_mem_nil, or_false, unAt_iff]
  exact ⟨fun q => q (2, h) rfl, fun a q e => by subst e; exact a⟩
def dat1 : Hd → Nat → Option D := fun hd i => if i = 2 then some (.dic (hdD hd)) else none
def dat2 : Hd × Af → Nat → Option D := fun s i => if i = 2 then some (.dic (hdD s.1)) else if i = 4 then some (.dic (afD s.2)) else none
end BO

namespace BK
open PySem L2 BT
def top (i : Nat) : Stmt := PySem.Challenge.pw_backthen_k01_tales_checked.main.body.getD i (.Pass ⟨0, 0, 0, 0⟩)
structure Tx (K : PySem.W.Frag) (mg : Str → Option Value) (C : Addr) : Prop where
  cl : Cls K C
  f_together : NoAttr K C "together"
  f_numbers : NoAttr K C "numbers"
  f_later : NoAttr K C "later"
  n_len : mg "len" = none
  n_sum : mg "sum" = none
  n_any : mg "any" = none
  n_all : mg "all" = none
  n_tuple : mg "tuple" = none
  n_list : mg "list" = none
  n_int : mg "int" = none
  n_str : mg "str" = none
  n_max : mg "max" = none
  n_min : mg "min" = none
  n_isinstance : mg "isinstance" = none
  n_range : mg "range" = none
  n_enumerate : mg "enumerate" = none
  n_sorted : mg "sorted" = none
  n_set : mg "set" = none
  n_dict : mg "dict" = none
  n_zip : mg "zip" = none
  c_LETTERS : GC K mg "LETTERS" (.str "abcdefghijklmnopqrstuvwxyz")
  c_WORDS : GC K mg "WORDS" (.tup [.str "at", .str "then", .str "back", .str "later", .str "earlier", .str "with"])
  c_MOVING : GC K mg "MOVING" (.tup [.str "at", .str "then", .str "back"])
  c_MOST_LETTERS : GC K mg "MOST_LETTERS" (.int 8)
section
variable {P : Program} {w : World} {K : PySem.W.Frag} {mg : Str → Option Value} {base : Heap} {C : Addr}
/-! ### Relations.is_before -/
def m_Relations_is_before (C : Addr) : MS := retS (bin2 (bin2 (bin2 (bin2 (fldM C "later" (mVar 0)) (dgetM (fldM C "numbers" (mVar 0)) (mVar 1)) ixM) (dgetM (fldM C "numbers" (mVar 0)) (mVar 2)) shrD) (mC (.int 1)) andD) (mC (.int 1)) eqM)
theorem sc_Relations_is_before : FnScope ["self", "one", "other"] ["self", "one", "other"] (defScope (inClass (top 2) 2)) := ⟨rfl, rfl, rfl, by decide +kernel, rfl, by decide +kernel, by decide +kernel⟩
theorem run_Relations_is_before {f : Addr} {fd : FuncData} (F : Fun K "is_before" "Relations.is_before" (inClass (top 2) 2) f fd) (T : Tx K mg C) :
    FnOk P w K mg base CX0 1 f fd ["self", "one", "other"] (fun vs H Q _ => SpF K (runB 3 3 [] (m_Relations_is_before C)) vs H Q E00) := by
  have sc := sc_Relations_is_before
  refine okF [] F sc (fun pn cdv A outer s H E hpn hr => ?_)
  have hu64 := hr.units
  have hu65 := room65 hr
  have hu1 := hu_of hr
  exact psx_one (psx_ret (px_cmp (op_eqs hu64) od_eq (px_op op_and od_and (px_op op_shr od_shr (px_ix ix_seq od_ix (px_fld (px_var (pv 0)) T.cl T.f_later) (px_dget hu1 (px_fld (px_var (pv 0)) T.cl T.f_numbers) (px_var (pv 1)) (fun _ _ => rfl)) (fun _ _ => rfl)) (px_dget hu1 (px_fld (px_var (pv 0)) T.cl T.f_numbers) (px_var (pv 2)) (fun _ _ => rfl))) (px_int)) (px_int) (nomark _)))
/-! ### Relations.bits_of -/
def m_Relations_bits_of (C : Addr) : MS := retS (mCall sumD (consA (mComp (seqD (mVar 1)) [2] (bName 2) (yesT) (bin2 (mC (.int 1)) (dgetM (fldM C "numbers" (mVar 0)) (mVar 2)) shlD)) (nilA)))
theorem sc_Relations_bits_of : FnScope ["self", "group", "moment"] ["self", "group"] (defScope (inClass (top 2) 3)) := ⟨rfl, rfl, rfl, by decide +kernel, rfl, by decide +kernel, by decide +kernel⟩
theorem run_Relations_bits_of {f : Addr} {fd : FuncData} (F : Fun K "bits_of" "Relations.bits_of" (inClass (top 2) 3) f fd) (T : Tx K mg C) :
    FnOk P w K mg base CX0 1 f fd ["self", "group"] (fun vs H Q _ => SpF K (runB 3 2 [] (m_Relations_bits_of C)) vs H Q E00) := by
  have sc := sc_Relations_bits_of
  refine okF [] F sc (fun pn cdv A outer s H E hpn hr => ?_)
  have hu64 := hr.units
  have hu65 := room65 hr
  have hu1 := hu_of hr
  exact psx_one (psx_ret (px_callB (cr_sum rfl) cd_sum (by rfl) T.n_sum (by decide +kernel) (pax_cons (px_lc (own := [("moment", 2)]) rfl sc.nd (pix_seq (px_var (pv 1))) (blkOk_by (own := [("moment", 2)]) (N := ["self", "group", "moment"]) (sc := defScope (inClass (top 2) 3)) (by decide +kernel)) (gb_name (np hpn (by decide))) (by decide) (npL hpn (by decide)) (fun _ _ _ _ _ => pg_name (i := 2) sc.nd rfl (by first | exact Or.inl rfl | exact Or.inr rfl)) (fun _ _ _ _ _ => ptsx_nil) (fun _ _ _ _ _ => px_op op_shl od_shl (px_int) (px_dget hu1 (px_fld (px_var (pv 0)) T.cl T.f_numbers) (px_var (pv 2)) (fun _ _ => rfl)))) (pax_nil))))
/-! ### is_name -/
def m_is_name : MS := seqS (ifS (orT (notT (toB (isiM "str" (mVar 0)))) (notT (toB (chain3 (mC (.int 1)) (mCall lenD (consA (mVar 0) (nilA))) (mC (.int 8)) (iiB (fun i j => decide (i ≤ j))) (iiB (fun i j => decide (i ≤ j))))))) (retS (mC (.bl false))) (nxS)) (retS (mCall allD (consA (mComp (seqD (mVar 0)) [1] (bName 1) (yesT) (bin2 (mVar 1) (mC (.str "abcdefghijklmnopqrstuvwxyz")) (inM false))) (nilA))))
theorem sc_is_name : FnScope ["thing", "sign"] ["thing"] (defScope (top 8)) := ⟨rfl, rfl, rfl, by decide +kernel, rfl, by decide +kernel, by decide +kernel⟩
theorem run_is_name {f : Addr} {fd : FuncData} (F : Fun K "is_name" "is_name" (top 8) f fd) (T : Tx K mg C) :
    FnOk P w K mg base CX0 1 f fd ["thing"] (fun vs H Q _ => SpF K (runB 2 1 [] m_is_name) vs H Q E00) := by
  have sc := sc_is_name
  refine okF [] F sc (fun pn cdv A outer s H E hpn hr => ?_)
  have hu64 := hr.units
  have hu65 := room65 hr
  have hu1 := hu_of hr
  exact psx_cons (psx_if ((pwx_or (ptx_not (pt_x (px_isi kit_str (px_var (pv 0)) T.n_isinstance T.n_str (by decide +kernel)))) (pw_or1 (ptx_not (ptx_chain op_le op_le (px_int) (px_callB call_lens cd_len (by rfl) T.n_len PySem.boot_len (pax_cons (px_var (pv 0)) (pax_nil))) (px_glob T.c_MOST_LETTERS))))).pt) (psx_one (psx_ret (px_bl))) (psx_nil)) (psx_one (psx_ret (px_callB (cr_all rfl) cd_all (by rfl) T.n_all (by decide +kernel) (pax_cons (px_lc (own := [("sign", 1)]) rfl sc.nd (pix_seq (px_var (pv 0))) (blkOk_by (own := [("sign", 1)]) (N := ["thing", "sign"]) (sc := defScope (top 8)) (by decide +kernel)) (gb_name (np hpn (by decide))) (by decide) (npL hpn (by decide)) (fun _ _ _ _ _ => pg_name (i := 1) sc.nd rfl (by first | exact Or.inl rfl | exact Or.inr rfl)) (fun _ _ _ _ _ => ptsx_nil) (fun _ _ _ _ _ => px_cmp (op_ins hu65) od_in (px_var (pv 1)) (px_glob T.c_LETTERS) (by rfl))) (pax_nil)))))
/-! ### is_sentence -/
def m_is_sentence : MS := seqS (ifS (orT (notT (toB (isiM "tuple" (mVar 0)))) (toB (bin2 (mCall lenD (consA (mVar 0) (nilA))) (mC (.int 2)) neM))) (retS (mC (.bl false))) (nxS)) (retS (andV (isiM "str" (bin2 (mVar 0) (mC (.int 0)) ixM)) (andV (bin2 (bin2 (mVar 0) (mC (.int 0)) ixM) (mC (.tup [.str "at", .str "then", .str "back", .str "later", .str "earlier", .str "with"])) (inM false)) (callF F_is_name (consA (bin2 (mVar 0) (mC (.int 1)) ixM) (nilA))))))
theorem sc_is_sentence : FnScope ["thing"] ["thing"] (defScope (top 9)) := ⟨rfl, rfl, rfl, by decide +kernel, rfl, by decide +kernel, by decide +kernel⟩
theorem run_is_sentence {f : Addr} {fd : FuncData} (F : Fun K "is_sentence" "is_sentence" (top 9) f fd) (T : Tx K mg C) {f_is_name : Addr} {fd_is_name : FuncData} (G_is_name : FnOk P w K mg base CX0 1 f_is_name fd_is_name ["thing"] (fun vs H Q _ => SpF K (F_is_name) vs H Q E00)) (b_is_name : Binds K fd_is_name ["thing"] []) (g_is_name : mg "is_name" = some (.ref f_is_name)) (k_is_name : PySem.W.keepIn K (.ref f_is_name) = true) :
    FnOk P w K mg base CX0 2 f fd ["thing"] (fun vs H Q _ => SpF K (runB 1 1 [] m_is_sentence) vs H Q E00) := by
  have sc := sc_is_sentence
  refine okF [] F sc (fun pn cdv A outer s H E hpn hr => ?_)
  have hu64 := hr.units
  have hu65 := room65 hr
  have hu1 := hu_of hr
  exact psx_cons (psx_if ((pwx_or (ptx_not (pt_x (px_isi kit_tuple (px_var (pv 0)) T.n_isinstance T.n_tuple (by decide +kernel)))) (pw_or1 (pt_c (op_nes hu64) od_ne (px_callB call_lens cd_len (by rfl) T.n_len PySem.boot_len (pax_cons (px_var (pv 0)) (pax_nil))) (px_int) (nomark _)))).pt) (psx_one (psx_ret (px_bl))) (psx_nil)) (psx_one (psx_ret (px_and (px_isi kit_str (px_ix ix_seq od_ix (px_var (pv 0)) (px_int) (fun _ _ => rfl)) T.n_isinstance T.n_str (by decide +kernel)) (px_and (px_cmp (op_ins hu65) od_in (px_ix ix_seq od_ix (px_var (pv 0)) (px_int) (fun _ _ => rfl)) (px_glob T.c_WORDS) (by rfl)) (pe_one (px_call G_is_name (hr.mono (by decide)) g_is_name k_is_name b_is_name (pax_cons (px_ix ix_seq od_ix (px_var (pv 0)) (px_int) (fun _ _ => rfl)) (pax_nil))))))))
/-! ### link_of -/
def m_link_of : MS := seqS (asgG (bTup 2 (bCons (bName 2) (bCons (bName 3) (bNil)))) (mVar 1)) (seqS (ifS (toB (bin2 (mVar 2) (mTup (consA (mC (.str "then")) (consA (mC (.str "later")) (nilA)))) (inM false))) (retS (mTup (consA (mVar 0) (consA (mVar 3) (consA (mC (.bl true)) (nilA)))))) (nxS)) (seqS (ifS (toB (bin2 (mVar 2) (mTup (consA (mC (.str "back")) (consA (mC (.str "earlier")) (nilA)))) (inM false))) (retS (mTup (consA (mVar 3) (consA (mVar 0) (consA (mC (.bl true)) (nilA)))))) (nxS)) (seqS (ifS (toB (bin2 (mVar 2) (mC (.str "with")) eqM)) (retS (mTup (consA (mVar 0) (consA (mVar 3) (consA (mC (.bl false)) (nilA)))))) (nxS)) (retS (mC .non)))))
theorem sc_link_of : FnScope ["stand", "sentence", "word", "moment"] ["stand", "sentence"] (defScope (top 10)) := ⟨rfl, rfl, rfl, by decide +kernel, rfl, by decide +kernel, by decide +kernel⟩
theorem run_link_of {f : Addr} {fd : FuncData} (F : Fun K "link_of" "link_of" (top 10) f fd) (T : Tx K mg C) :
    FnOk P w K mg base CX0 1 f fd ["stand", "sentence"] (fun vs H Q _ => SpF K (runB 4 2 [] m_link_of) vs H Q E00) := by
  have sc := sc_link_of
  refine okF [] F sc (fun pn cdv A outer s H E hpn hr => ?_)
  have hu64 := hr.units
  have hu65 := room65 hr
  have hu1 := hu_of hr
  exact psx_cons (psx_asg (gb_tup (gbs_cons (gb_name (np hpn (by decide))) (gbs_cons (gb_name (np hpn (by decide))) (gbs_nil)))) (pg_tup (by rfl) (pgs_cons (pg_name (i := 2) sc.nd rfl (by first | exact Or.inl rfl | exact Or.inr rfl)) (pgs_cons (pg_name (i := 3) sc.nd rfl (by first | exact Or.inl rfl | exact Or.inr rfl)) (pgs_nil)))) (px_var (pv 1))) (psx_cons (psx_if (pt_c (op_ins hu65) od_in (px_var (pv 2)) (px_tup (pax_cons (px_str) (pax_cons (px_str) (pax_nil)))) (by rfl)) (psx_one (psx_ret (px_tup (pax_cons (px_var (pv 0)) (pax_cons (px_var (pv 3)) (pax_cons (px_bl) (pax_nil))))))) (psx_nil)) (psx_cons (psx_if (pt_c (op_ins hu65) od_in (px_var (pv 2)) (px_tup (pax_cons (px_str) (pax_cons (px_str) (pax_nil)))) (by rfl)) (psx_one (psx_ret (px_tup (pax_cons (px_var (pv 3)) (pax_cons (px_var (pv 0)) (pax_cons (px_bl) (pax_nil))))))) (psx_nil)) (psx_cons (psx_if (pt_c (op_eqs hu64) od_eq (px_var (pv 2)) (px_str) (nomark _)) (psx_one (psx_ret (px_tup (pax_cons (px_var (pv 0)) (pax_cons (px_var (pv 3)) (pax_cons (px_bl) (pax_nil))))))) (psx_nil)) (psx_one (psx_ret (px_non))))))
/-! ### stands_of -/
def m_stands_of : MS := seqS (asgS 1 (mLst (nilA))) (seqS (forS (seqD (mVar 0)) (bTup 2 (bCons (bName 2) (bCons (bName 3) (bNil)))) (dropS (appM 1 (iteV (toB (bin2 (mVar 2) (mC (.tup [.str "at", .str "then", .str "back"])) (inM false))) (mVar 3) (ixO 1 (negM (mC (.int 1)))))))) (retS (mMove 1)))
theorem sc_stands_of : FnScope ["sentences", "found", "word", "moment"] ["sentences"] (defScope (top 11)) := ⟨rfl, rfl, rfl, by decide +kernel, rfl, by decide +kernel, by decide +kernel⟩
theorem run_stands_of {f : Addr} {fd : FuncData} (F : Fun K "stands_of" "stands_of" (top 11) f fd) (T : Tx K mg C) :
    FnOk P w K mg base CX0 1 f fd ["sentences"] (fun vs H Q _ => SpF K (runB 4 1 [] m_stands_of) vs H Q E00) := by
  have sc := sc_stands_of
  refine okF [] F sc (fun pn cdv A outer s H E hpn hr => ?_)
  have hu64 := hr.units
  have hu65 := room65 hr
  have hu1 := hu_of hr
  exact psx_cons (psx_set (i := 1) (np hpn (by decide)) sc.nd rfl (by first | exact Or.inl rfl | exact Or.inr rfl) (px_lst (pax_nil))) (psx_cons (psx_for PassesOwn.never rfl (pix_seq (px_var (pv 0))) (pg_tup (by rfl) (pgs_cons (pg_name (i := 2) sc.nd rfl (by first | exact Or.inl rfl | exact Or.inr rfl)) (pgs_cons (pg_name (i := 3) sc.nd rfl (by first | exact Or.inl rfl | exact Or.inr rfl)) (pgs_nil)))) (gb_tup (gbs_cons (gb_name (np hpn (by decide))) (gbs_cons (gb_name (np hpn (by decide))) (gbs_nil)))) (psx_one (psx_expr (px_append (pv 1) (px_ite (pt_c (op_ins hu65) od_in (px_var (pv 2)) (px_glob T.c_MOVING) (by rfl)) (px_var (pv 3)) (px_ixO (pv 1) (px_neg (px_int)) (fun _ _ => rfl))) (fun a b => pe_bm PySem.F.plainAttrs_list PySem.F.slot_list_append PySem.F.type_list_append mt_append a b))))) (psx_one (psx_ret (px_move (np hpn (by decide)) (pv 1)))))
/-! ### links_of -/
def m_links_of : MS := seqS (asgS 1 (bin2 (mLst (consA (mC .non) (nilA))) (callF F_stands_of (consA (mVar 0) (nilA))) addD)) (retS (mComp (enumM (consA (mVar 0) (nilA))) [2, 3] (bTup 2 (bCons (bName 2) (bCons (bName 3) (bNil)))) (yesT) (callF F_link_of (consA (bin2 (mVar 1) (mVar 2) ixM) (consA (mVar 3) (nilA))))))
theorem sc_links_of : FnScope ["sentences", "stands", "k", "sentence"] ["sentences"] (defScope (top 12)) := ⟨rfl, rfl, rfl, by decide +kernel, rfl, by decide +kernel, by decide +kernel⟩
theorem run_links_of {f : Addr} {fd : FuncData} (F : Fun K "links_of" "links_of" (top 12) f fd) (T : Tx K mg C) {f_stands_of : Addr} {fd_stands_of : FuncData} (G_stands_of : FnOk P w K mg base CX0 1 f_stands_of fd_stands_of ["sentences"] (fun vs H Q _ => SpF K (F_stands_of) vs H Q E00)) (b_stands_of : Binds K fd_stands_of ["sentences"] []) {f_link_of : Addr} {fd_link_of : FuncData} (G_link_of : FnOk P w K mg base CX0 1 f_link_of fd_link_of ["stand", "sentence"] (fun vs H Q _ => SpF K (F_link_of) vs H Q E00)) (b_link_of : Binds K fd_link_of ["stand", "sentence"] []) (g_stands_of : mg "stands_of" = some (.ref f_stands_of)) (k_stands_of : PySem.W.keepIn K (.ref f_stands_of) = true) (g_link_of : mg "link_of" = some (.ref f_link_of)) (k_link_of : PySem.W.keepIn K (.ref f_link_of) = true) :
    FnOk P w K mg base CX0 2 f fd ["sentences"] (fun vs H Q _ => SpF K (runB 4 1 [] m_links_of) vs H Q E00) := by
  have sc := sc_links_of
  refine okF [] F sc (fun pn cdv A outer s H E hpn hr => ?_)
  have hu64 := hr.units
  have hu65 := room65 hr
  have hu1 := hu_of hr
  exact psx_cons (psx_set (i := 1) (np hpn (by decide)) sc.nd rfl (by first | exact Or.inl rfl | exact Or.inr rfl) (px_op op_adds od_add (px_lst (pax_cons (px_non) (pax_nil))) (px_call G_stands_of (hr.mono (by decide)) g_stands_of k_stands_of b_stands_of (pax_cons (px_var (pv 0)) (pax_nil))))) (psx_one (psx_ret (px_lc (own := [("k", 2), ("sentence", 3)]) rfl sc.nd (pix_enum T.n_enumerate (pax_cons (px_var (pv 0)) (pax_nil))) (blkOk_by (own := [("k", 2), ("sentence", 3)]) (N := ["sentences", "stands", "k", "sentence"]) (sc := defScope (top 12)) (by decide +kernel)) (gb_tup (gbs_cons (gb_name (np hpn (by decide))) (gbs_cons (gb_name (np hpn (by decide))) (gbs_nil)))) (by decide) (npL hpn (by decide)) (fun _ _ _ _ _ => pg_tup (by rfl) (pgs_cons (pg_name (i := 2) sc.nd rfl (by first | exact Or.inl rfl | exact Or.inr rfl)) (pgs_cons (pg_name (i := 3) sc.nd rfl (by first | exact Or.inl rfl | exact Or.inr rfl)) (pgs_nil)))) (fun _ _ _ _ _ => ptsx_nil) (fun _ _ _ _ _ => px_call G_link_of (hr.mono (by decide)) g_link_of k_link_of b_link_of (pax_cons (px_ix ix_seq od_ix (px_var (pv 1)) (px_var (pv 2)) (fun _ _ => rfl)) (pax_cons (px_var (pv 3)) (pax_nil)))))))
end
end BK

namespace BK
open PySem L2 BT
theorem line_big {n : Nat} (h : n ≤ 1000) : n ≤ sizeLine := Nat.le_trans h (by rw [sizeLine_eq]; decide)
theorem line_lt {n : Nat} (h : n ≤ 1000) : n < sizeLine := Nat.lt_of_le_of_lt h (by rw [sizeLine_eq]; decide)
theorem signs_len (x : Str) : (signsD x).length = x.length := by simp [signsD]; rfl
theorem comp_signs (x : Str) (L : Str) (a : Sl) (h : x.length ≤ sizeLine) :
    compL (bName 1) yesT (bin2 (mVar 1) (mC (.str L)) (inM false)) [1] (signsD x) [] [a, .un] = some ((x.cps.toList.map fun c => D.bl (decide (c ∈ L.cps.toList))), [a, .un]) := by
  rw [compL_map (g := fun d => match d with | .str y => (match y.cps.toList with | [c] => .bl (decide (c ∈ L.cps.toList)) | _ => .non) | _ => .non)]
  · simp [signsD, List.map_map, Function.comp_def]
  · intro d hd
    simp only [signsD, List.mem_map] at hd
    obtain ⟨c, hc, rfl⟩ := hd
    refine ⟨[a, .dt (.str ⟨#[c]⟩)], by simp, by simp, by simp, _, by simp; rfl, by simp⟩
  · rw [signs_len]; simpa using h
theorem asBls_mapA {α : Type} (f : α → Bool) : ∀ ds : List α, asBls (ds.map fun d => D.bl (f d)) = some (ds.map f)
  | [] => rfl
  | d :: ds => by simp [asBls_mapA f ds]
theorem eq_is_name (ds : List D) (s : Sl) (h : (match ds with | [d] => if shortS d = true then some (Sl.dt (.bl (isName d))) else none | _ => none) = some s) :
    runB 2 1 [] m_is_name (ds.map .dt) = some (.val s (ds.map .dt)) := by
  split at h
  · rename_i d
    split at h
    · rename_i hs
      cases h
      cases d with
      | str x =>
        have hl : x.length ≤ sizeLine := line_big (by simpa [shortS] using hs)
        by_cases c1 : (1 : Int) ≤ (x.length : Int)
        · by_cases c2 : (x.length : Int) ≤ 8
          · have n1 : 1 ≤ x.length := by omega
            have n2 : x.length ≤ 8 := by omega
            simp [runB, m_is_name, hl, c1, c2, n1, n2, comp_signs, isName, asBls_mapA, abc, Function.comp_def]
          · have n2 : ¬ x.length ≤ 8 := by omega
            simp [runB, m_is_name, hl, c1, c2, n2, isName]
        · have n1 : ¬ 1 ≤ x.length := by omega
          simp [runB, m_is_name, hl, c1, n1, isName]
      | ins _ _ => simp [shortS] at hs
      | _ => simp [runB, m_is_name, isName]
    · cases h
  · cases h
theorem F_is_name_app (d : D) (h : shortS d = true) : F_is_name [.dt d] = some (.val (.dt (.bl (isName d))) [.dt d]) := by simp [F_is_name, pureF, h]
theorem eq_is_sentence (ds : List D) (s : Sl) (h : (match ds with | [d] => if shortP d = true then some (Sl.dt (.bl (isSentence d))) else none | _ => none) = some s) :
    runB 1 1 [] m_is_sentence (ds.map .dt) = some (.val s (ds.map .dt)) := by
  split at h
  · rename_i d
    split at h
    · rename_i hs
      cases h
      cases d with
      | tup xs =>
        match xs with
        | [] => simp [runB, m_is_sentence, isSentence]
        | [a] => simp [runB, m_is_sentence, isSentence]
        | a :: b :: c :: r =>
          have : ¬ ((r.length : Int) + 1 + 1 + 1 = 2) := by omega
          simp [runB, m_is_sentence, isSentence, this]
        | [a, b] =>
          have h2 : shortS b = true := by simp [shortP] at hs; exact hs.2
          have h1 : shortS a = true := by simp [shortP] at hs; exact hs.1
          cases a with
          | str x =>
            by_cases c : Str.ofString "at" = x ∨ Str.ofString "then" = x ∨ Str.ofString "back" = x ∨ Str.ofString "later" = x ∨ Str.ofString "earlier" = x ∨ Str.ofString "with" = x
            · have cw : isWord (.str x) = true := by simp [isWord]; exact c
              simp [runB, m_is_sentence, isSentence, atI, ixN, cw, callF, F_is_name_app b h2, c]
            · have cw : isWord (.str x) = false := by simp [isWord]; simpa using c
              simp [runB, m_is_sentence, isSentence, atI, ixN, cw, c]
          | ins _ _ => simp [shortS] at h1
          | _ => simp [runB, m_is_sentence, isSentence, atI, ixN, isWord]
      | ins _ _ => simp [shortP, shortS] at hs
      | _ => simp [runB, m_is_sentence, isSentence]
    · cases h
  · cases h
theorem eq_link_of (ds : List D) (s : Sl) (h : (match ds with | [s, .tup [.str w, .str m]] => some (Sl.dt (linkOf s w m)) | _ => none) = some s) :
    runB 4 2 [] m_link_of (ds.map .dt) = some (.val s (ds.map .dt)) := by
  split at h
  · rename_i st w m
    cases h
    have z2 : 2 ≤ sizeLine := line_big (by decide)
    have z3 : 3 ≤ sizeLine := line_big (by decide)
    by_cases c1 : Str.ofString "then" = w ∨ Str.ofString "later" = w
    · simp [runB, m_link_of, linkOf, c1, z2, z3]
    · by_cases c2 : Str.ofString "back" = w ∨ Str.ofString "earlier" = w
      · simp [runB, m_link_of, linkOf, c1, c2, z2, z3]
      · by_cases c3 : w = Str.ofString "with"
        · subst c3
          simp [runB, m_link_of, linkOf, c1, c2, z2, z3]
        · simp [runB, m_link_of, linkOf, c1, c2, c3, z2, z3]
  · cases h
def bodySt : MS := (dropS (appM 1 (iteV (toB (bin2 (mVar 2) (mC (.tup [.str "at", .str "then", .str "back"])) (inM false))) (mVar 3) (ixO 1 (negM (mC (.int 1)))))))
theorem body_st (sd : Sl) (acc : List D) (w m : Str) (p : D) (hp : acc.getLast? = some p ∨ moving w = true) (hl : acc.length < 1000) :
    bodySt [sd, .ol acc, .dt (.str w), .dt (.str m)] = some (.nx [sd, .ol (acc ++ [if moving w = true then .str m else p]), .dt (.str w), .dt (.str m)]) := by
  have hz : acc.length < sizeLine := line_lt (by omega)
  by_cases c : Str.ofString "at" = w ∨ Str.ofString "then" = w ∨ Str.ofString "back" = w
  · have cm : moving w = true := decide_eq_true c
    simp [bodySt, c, cm, hz]
  · have cm : moving w = false := decide_eq_false c
    have hp' : acc.getLast? = some p := hp.elim id fun h => by rw [cm] at h; cases h
    have at1 : atI acc (-1) = some p := by
      obtain ⟨ys, rfl⟩ := List.getLast?_eq_some_iff.mp hp'
      exact atI_last ys p
    simp [bodySt, c, cm, hz, at1]
theorem loop_stands : ∀ (t : Tale) (sd : Sl) (acc : List D) (p : Str) (x y : Sl), (acc.getLast? = some (.str p) ∨ startsAt t = true) → acc.length + t.length ≤ 1000 →
    ∃ x' y', loopS (bTup 2 (bCons (bName 2) (bCons (bName 3) bNil))) bodySt (t.map encS) [sd, .ol acc, x, y] = some (.nx [sd, .ol (acc ++ (standsFrom p t).map .str), x', y'])
  | [], sd, acc, p, x, y, _, _ => ⟨x, y, by simp [loopS, standsFrom]⟩
  | (w, m) :: t, sd, acc, p, x, y, hp, hl => by
    simp only [List.length_cons] at hl
    have hp' : acc.getLast? = some (.str p) ∨ moving w = true := hp.imp id fun h => decide_eq_true (.inl (of_decide_eq_true h))
    obtain ⟨x', y', ih⟩ := loop_stands t sd (acc ++ [.str (if moving w then m else p)]) (if moving w then m else p) (.dt (.str w)) (.dt (.str m)) (.inl (by simp)) (by simp; omega)
    refine ⟨x', y', ?_⟩
    have hb := body_st sd acc w m (.str p) hp' (by omega)
    have he : (if moving w = true then D.str m else D.str p) = D.str (if moving w then m else p) := by split <;> rfl
    rw [he] at hb
    simp [loopS, encS, hb]
    rw [ih]
    simp [standsFrom]
end BK

namespace BK
open PySem L2 BT
theorem dlook_num {a : Str} : ∀ (ns : List Str) (k : Nat), a ∈ ns → dlook (.inr a) (ns.mapIdx fun i n => ((Sum.inr n : Key), D.int ((k + i : Nat)))) = some (.int ((k + ns.idxOf a : Nat)))
  | [], _, h => by simp at h
  | n :: ns, k, h => by
    simp only [List.mapIdx_cons, dlook]
    by_cases c : n = a
    · subst c
      simp [List.idxOf_cons_self]
    · have c' : ¬ ((Sum.inr n : Key) = Sum.inr a) := fun q => c (Sum.inr.inj q)
      rw [if_neg c']
      have h' : a ∈ ns := by
        rcases List.mem_cons.mp h with h | h
        · exact absurd h.symm c
        · exact h
      have := dlook_num ns (k + 1) h'
      have ei : (n :: ns).idxOf a = ns.idxOf a + 1 := by
        have cb : (n == a) = false := by simpa using c
        rw [List.idxOf_cons, cb]; rfl
      rw [ei]
      have e : (fun (i : Nat) (n : Str) => ((Sum.inr n : Key), D.int ((k + (i + 1) : Nat)))) = fun (i : Nat) (n : Str) => ((Sum.inr n : Key), D.int ((k + 1 + i : Nat))) := by
        funext i n
        rw [show k + (i + 1) = k + 1 + i by omega]
      rw [e, this]
      rw [show k + (ns.idxOf a + 1) = k + 1 + ns.idxOf a by omega]
theorem dlook_numD {R : RS} {a : Str} (h : a ∈ R.names) : dlook (.inr a) (numD R.names) = some (.int (R.ix a : Nat)) := by
  have := dlook_num R.names 0 h
  simp only [Nat.zero_add] at this
  exact this
theorem ix_lt {R : RS} (ok : R.Ok) {a : Str} (h : a ∈ R.names) : R.ix a < R.later.length := by
  have h1 : R.ix a < R.names.length := List.idxOf_lt_length_of_mem h
  rw [ok.len]
  simpa [RS.names] using h1
theorem atI_later {R : RS} (ok : R.Ok) {a : Str} (h : a ∈ R.names) : atI (R.later.map D.int) ((R.ix a : Nat) : Int) = some (.int (R.later.getD (R.ix a) 0)) := by
  have hl := ix_lt ok h
  apply atI_nat
  rw [List.getElem?_map, List.getElem?_eq_getElem hl, List.getD_eq_getElem?_getD, List.getElem?_eq_getElem hl]
  rfl
theorem later_nn {R : RS} (ok : R.Ok) {a : Str} (h : a ∈ R.names) : 0 ≤ R.later.getD (R.ix a) 0 := by
  have hl := ix_lt ok h
  rw [List.getD_eq_getElem?_getD, List.getElem?_eq_getElem hl]
  exact ok.nn _ (List.getElem_mem hl)
theorem bit_of {x : Int} (hx : 0 ≤ x) (k : Nat) : decide (Builtin.bitAnd (x / 2 ^ k) 1 = 1) = x.toNat.testBit k := by
  obtain ⟨n, rfl⟩ := Int.eq_ofNat_of_zero_le hx
  have e : ((n : Int) / 2 ^ k) = ((n >>> k : Nat) : Int) := by
    rw [Nat.shiftRight_eq_div_pow]
    push_cast
    rfl
  rw [e]
  have e2 : Builtin.bitAnd ((n >>> k : Nat) : Int) 1 = (((n >>> k) &&& 1 : Nat) : Int) := rfl
  rw [e2]
  simp only [Int.toNat_natCast, Nat.testBit, Nat.and_comm 1]
  cases h : (n >>> k) &&& 1 with
  | zero => rfl
  | succ m =>
    have : (n >>> k) &&& 1 ≤ 1 := Nat.and_le_right
    have hm : m = 0 := by omega
    subst hm; rfl
theorem asInts_mapAI {α : Type} (f : α → Int) : ∀ ds : List α, asInts (ds.map fun d => D.int (f d)) = some (ds.map f)
  | [] => rfl
  | d :: ds => by simp [asInts_mapAI f ds]
theorem lk1 {α : Type} (x y z : α) : List.lookup (Str.ofString "together") [(Str.ofString "together", x), (Str.ofString "numbers", y), (Str.ofString "later", z)] = some x := by simp [List.lookup_cons]
theorem lk2 {α : Type} (x y z : α) : List.lookup (Str.ofString "numbers") [(Str.ofString "together", x), (Str.ofString "numbers", y), (Str.ofString "later", z)] = some y := by
  have h1 : ((Str.ofString "numbers") == (Str.ofString "together")) = false := by decide +kernel
  simp [List.lookup_cons, h1]
theorem lk3 {α : Type} (x y z : α) : List.lookup (Str.ofString "later") [(Str.ofString "together", x), (Str.ofString "numbers", y), (Str.ofString "later", z)] = some z := by
  have h1 : ((Str.ofString "later") == (Str.ofString "together")) = false := by decide +kernel
  have h2 : ((Str.ofString "later") == (Str.ofString "numbers")) = false := by decide +kernel
  simp [List.lookup_cons, h1, h2]
theorem eq_is_before {C : Addr} (ds : List D) (s : Sl) (h : (match ds with
  | [d, .str a, .str b] => (match decR C d with | some R => if R.okB = true ∧ a ∈ R.names ∧ b ∈ R.names then some (Sl.dt (.bl (R.bf a b))) else none | none => none)
  | _ => none) = some s) : runB 3 3 [] (m_Relations_is_before C) (ds.map .dt) = some (.val s (ds.map .dt)) := by
  split at h
  · rename_i d a b
    split at h
    · rename_i R hd
      split at h
      · rename_i c
        cases h
        obtain ⟨ok, ha, hb⟩ := c
        have ok := RS.okB_iff.mp ok
        rw [decR_eq hd]
        have e := atI_later ok ha
        have e2 := bit_of (later_nn ok ha) (R.ix b)
        simp [runB, m_Relations_is_before, relD, keyD, dlook_numD ha, dlook_numD hb, e, lk2, lk3]
        rw [← List.getD_eq_getElem?_getD]
        exact e2
      · cases h
    · cases h
  · cases h
theorem ix_small {R : RS} (ok : R.Ok) {a : Str} (h : a ∈ R.names) : R.ix a < 1000 := by
  have h1 := ix_lt ok h
  have := ok.len
  have := ok.few
  omega
theorem eq_bits_of {C : Addr} (ds : List D) (s : Sl) (h : (match ds with
  | [d, .lst g] => (match decR C d, decStrs g with | some R, some g => if R.okB = true ∧ (∀ x ∈ g, x ∈ R.names) ∧ g.length ≤ 1000 then some (Sl.dt (.int (R.bits g))) else none | _, _ => none)
  | _ => none) = some s) : runB 3 2 [] (m_Relations_bits_of C) (ds.map .dt) = some (.val s (ds.map .dt)) := by
  split at h
  · rename_i d g
    split at h
    · rename_i R g' hd hg
      split at h
      · rename_i c
        cases h
        obtain ⟨ok, hin, hl⟩ := c
        have ok := RS.okB_iff.mp ok
        rw [decR_eq hd, decStrs_eq hg]
        have ec : ∀ rest : Sl, compL (bName 2) yesT (bin2 (mC (.int 1)) (dgetM (fldM C "numbers" (mVar 0)) (mVar 2)) shlD) [2] (g'.map D.str) [] [.dt (relD C R), rest, .un] = some (g'.map (fun x => D.int (2 ^ R.ix x)), [.dt (relD C R), rest, .un]) := fun rest => by
          rw [compL_map (g := fun d => match d with | .str x => .int (2 ^ R.ix x) | _ => .non)]
          · simp [List.map_map, Function.comp_def]
          · intro d hd
            simp only [List.mem_map] at hd
            obtain ⟨x, hx, rfl⟩ := hd
            have hs := ix_small ok (hin x hx)
            have h6 : ((R.ix x : Nat) : Int) ≤ 1000000 := by omega
            refine ⟨[.dt (relD C R), rest, .dt (.str x)], by simp, by cases rest <;> simp, by simp, .dt (.int (2 ^ R.ix x)), ?_, rfl⟩
            simp [relD, keyD, dlook_numD (hin x hx), lk2, h6]
          · simp; exact line_big hl
        simp [runB, m_Relations_bits_of, ec, asInts_mapAI, RS.bits]
      · cases h
    · cases h
  · cases h
end BK

namespace BK
open PySem L2 BT
abbrev sInit : Stmt := inClass (top 2) 0
abbrev sAdd : Stmt := inClass (top 2) 1
section
variable {P : Program} {w : World} {K : PySem.W.Frag} {mg : Str → Option Value} {base : Heap} {C : Addr}
theorem sc_init : FnScope ["self"] ["self"] (defScope sInit) := ⟨rfl, rfl, rfl, by decide +kernel, rfl, by decide +kernel, by decide +kernel⟩
theorem ok_init {f : Addr} {fd : FuncData} (F : Fun K "__init__" "Relations.__init__" sInit f fd) (T : Tx K mg C) : FnOk P w K mg base CX0 1 f fd ["self"] (SpInit K C) := by
  refine F.ok sc_init (fun vs H Q E h => ?_) (fun cdv A outer s H vs Q E hr h => ?_)
  · obtain ⟨p, dx, rfl, _⟩ := h
    rfl
  · obtain ⟨p, dx, rfl, hp, hdx, k⟩ := h
    refine ⟨_, pss_cons (ps_fld (pv 0) pe_dnewK rfl) (pss_cons (ps_fld (pv 0) pe_dnewK rfl) (pss_one (ps_fld (pv 0) (pe_lst pa_nil) rfl))), ?_⟩
    intro d1 hd1
    have p1 : p ≠ d1 := ne_of_none hp hd1
    refine ⟨_, rfl, p, C, dx, [], rfl, (by rw [upd_ne p1]; exact hp), T.cl, T.f_together, (by decide), ?_⟩
    intro d2 hd2
    have p2 : p ≠ d2 := fun z => by rw [z, upd_same] at hd2; cases hd2
    have n21 : d2 ≠ d1 := fun z => by
      rw [z] at hd2 p2
      rw [upd_ne p2.symm, upd_same] at hd2; cases hd2
    have hd2' : H d2 = none := by rw [upd_ne p2.symm, upd_ne n21] at hd2; exact hd2
    refine ⟨_, rfl, p, C, dx, _, rfl, (by rw [upd_ne p2]; exact upd_same), T.cl, T.f_numbers, (by show 1 < 1000; decide), ?_⟩
    refine ⟨Nat.zero_le _, fun l hl => ?_⟩
    have pl : p ≠ l := fun z => by rw [z, upd_same] at hl; cases hl
    have nl2 : l ≠ d2 := fun z => by
      rw [z] at hl pl
      rw [upd_ne pl.symm, upd_same] at hl; cases hl
    have nl1 : l ≠ d1 := fun z => by
      rw [z] at hl pl nl2
      rw [upd_ne pl.symm, upd_ne nl2, upd_ne pl.symm, upd_same] at hl; cases hl
    have hl' : H l = none := by rw [upd_ne pl.symm, upd_ne nl2, upd_ne pl.symm, upd_ne nl1] at hl; exact hl
    refine ⟨_, rfl, p, C, dx, _, rfl, (by rw [upd_ne pl]; exact upd_same), T.cl, T.f_later, (by show 2 < 1000; decide), ?_⟩
    refine k _ ⟨p, dx, d1, d2, l⟩ rfl rfl (fun b o e n => ?_) hd1 hd2' hl' n21.symm ?_ ?_ ?_ ?_
    · have nb1 := ne_of_none e hd1
      have nb2 := ne_of_none e hd2'
      have nbl := ne_of_none e hl'
      rw [upd_ne n, upd_ne nbl, upd_ne n, upd_ne nb2, upd_ne n, upd_ne nb1]; exact e
    · rw [upd_same]
      show some (HO.ins C dx (putF "later" (.ref l) (putF "numbers" (.ref d2) (putF "together" (.ref d1) [])))) = _
      rw [putF3]; rfl
    · show upd _ _ _ d1 = _
      rw [upd_ne p1.symm, upd_ne nl1.symm, upd_ne p1.symm, upd_ne n21.symm, upd_ne p1.symm, upd_same]
    · show upd _ _ _ d2 = _
      rw [upd_ne p2.symm, upd_ne nl2.symm, upd_ne p2.symm, upd_same]
    · show upd _ _ _ l = _
      rw [upd_ne pl.symm, upd_same]
theorem sc_add : FnScope ["self", "moment"] ["self", "moment"] (defScope sAdd) := ⟨rfl, rfl, rfl, by decide +kernel, rfl, by decide +kernel, by decide +kernel⟩
theorem ok_add {f : Addr} {fd : FuncData} (F : Fun K "add" "Relations.add" sAdd f fd) (T : Tx K mg C) : FnOk P w K mg base CX0 1 f fd ["self", "moment"] (SpR K C F_add) := by
  refine F.ok sc_add (fun vs H Q E h => ?_) (fun cdv A outer s H vs Q E hr h => ?_)
  · obtain ⟨G, r, R, ds, ws, rfl, _, _, hd, h⟩ := h
    unfold F_add at h
    split at h
    · rename_i e
      split at e
      · have := hd.length
        simp at this ⊢; omega
      · cases e
    · exact h.elim
  · obtain ⟨G, r, R, ds, ws, rfl, hs, rel, hd, h⟩ := h
    have hu := hu_of hr
    unfold F_add at h
    split at h
    rotate_left
    · exact h.elim
    rename_i d R' e
    split at e
    rotate_left
    · cases e
    rename_i m
    split at e
    rotate_left
    · cases e
    rename_i c
    cases e
    obtain ⟨v, rfl, hv⟩ := hd.one
    cases hv
    refine ⟨_, pss_one (ps_if (pt_cmp (pc_dnotin hu (pv 1) (pe_fld (pv 0) rfl)) rfl)
      (pss_cons (ps_dput hu (pe_fld (pv 0) rfl) (pv 1) (pe_lst (pa_cons (pv 1) pa_nil)) rfl)
        (pss_cons (ps_dput hu (pe_fld (pv 0) rfl) (pv 1) (pe_callB call_len_seq (by rfl) T.n_len PySem.boot_len (pa_cons (pe_fld (pv 0) rfl) pa_nil)) rfl)
          (pss_one (ps_expr (pe_bm PySem.F.plainAttrs_list PySem.F.slot_list_append PySem.F.type_list_append mt_append (pe_fld (pv 0) rfl) (pa_cons pe_int pa_nil)))))) pss_nil), ?_⟩
    obtain ⟨kvs, e1, d1⟩ := rel.h1
    refine ⟨_, rfl, _, rfl, r.a, C, r.dx, r.fs, _, rfl, rel.ia, T.cl, T.f_together, lkT r, r.d1, valV kvs (.inr m), rfl, .inl ⟨kvs, .inr m, .inl e1, rfl, rfl⟩, _, rfl, ?_⟩
    have ev : (valV kvs (.inr m)).isSome = decide (m ∈ R.names) := valV_tog d1
    rw [ev]
    by_cases hm : m ∈ R.names
    · rw [decide_eq_true hm]
      refine iteF ?_
      have ea : R.add m = R := if_pos hm
      rw [ea] at h
      exact h .non G H hs rel .non Ext.refl
    · rw [decide_eq_false hm]
      refine iteT ?_
      have ea : R.add m = ⟨R.tg ++ [(m, [m])], R.later ++ [0]⟩ := if_neg hm
      rw [ea] at h
      have vn : valV kvs (.inr m) = none := by
        cases q : valV kvs (.inr m) with
        | none => rfl
        | some z => rw [q] at ev; rw [decide_eq_false hm] at ev; cases ev
      have lk : kvs.length = R.tg.length := by
        have : ∀ {kvs : List (Key × V)} {ds : List (Key × BT.D)}, DtK K G kvs ds → kvs.length = ds.length := by
          intro kvs ds
          induction ds generalizing kvs with
          | nil => intro h; cases h; rfl
          | cons _ _ ih => intro h; cases h with | cons _ h => simp [ih h]
        rw [this d1]; simp [togD]
      have big : 1000 < sizeLine := by rw [sizeLine_eq]; decide
      -- self.together[moment] = [moment]
      refine ⟨_, rfl, (by show 1 ≤ sizeLine; omega), fun p hp => ?_⟩
      have pa : r.a ≠ p := ne_of_none rel.ia hp
      have px : r.dx ≠ p := ne_of_none rel.id hp
      have p1 : r.d1 ≠ p := ne_of_none e1 hp
      have p2 : r.d2 ≠ p := ne_of_none rel.h2 hp
      have pl : r.l ≠ p := ne_of_none rel.hl hp
      have a1 : r.a ≠ r.d1 := ne_of rel.ia e1 (fun z => by cases z)
      have x1 : r.dx ≠ r.d1 := ne_of rel.id e1 (fun z => by cases z)
      have l1 : r.l ≠ r.d1 := ne_of rel.hl e1 (fun z => by cases z)
      have a2 : r.a ≠ r.d2 := ne_of rel.ia rel.h2 (fun z => by cases z)
      have x2 : r.dx ≠ r.d2 := ne_of rel.id rel.h2 (fun z => by cases z)
      have l2 : r.l ≠ r.d2 := ne_of rel.hl rel.h2 (fun z => by cases z)
      have al : r.a ≠ r.l := ne_of rel.ia rel.hl (fun z => by cases z)
      have xl : r.dx ≠ r.l := ne_of rel.id rel.hl (fun z => by cases z)
      refine ⟨_, rfl, r.a, C, r.dx, r.fs, _, rfl, (by rw [upd_ne pa]; exact rel.ia), T.cl, T.f_together, lkT r, _, rfl, r.d1, _, rfl, .inl ⟨kvs, .inr m, (by rw [upd_ne p1]; exact e1), rfl, by omega, rfl⟩, ?_⟩
      rw [putK_new _ vn]
      -- self.numbers[moment] = len(self.later)
      refine ⟨_, rfl, r.a, C, r.dx, r.fs, _, rfl, (by rw [upd_ne a1, upd_ne pa]; exact rel.ia), T.cl, T.f_later, lkL r, r.l, R.later.map V.int, rfl, .inl (SqL.of (by rw [upd_ne l1, upd_ne pl]; exact rel.hl)), ?_⟩
      refine ⟨_, rfl, r.a, C, r.dx, r.fs, _, rfl, (by rw [upd_ne a1, upd_ne pa]; exact rel.ia), T.cl, T.f_numbers, lkN r, _, rfl, r.d2, _, rfl, .inl ⟨numV R.names, .inr m, (by rw [upd_ne rel.ne.symm, upd_ne p2]; exact rel.h2), rfl, (by rw [numV_len]; simp [RS.names]; omega), rfl⟩, ?_⟩
      rw [putK_new _ (numV_none hm)]
      -- self.later.append(0)
      refine ⟨_, rfl, r.a, C, r.dx, r.fs, _, rfl, (by rw [upd_ne a2, upd_ne a1, upd_ne pa]; exact rel.ia), T.cl, T.f_later, lkL r, .inl ⟨rfl, _, SqL.of (by rw [upd_ne l2, upd_ne l1, upd_ne pl]; exact rel.hl)⟩, r.l, R.later.map V.int, _, rfl, rfl, (by rw [upd_ne l2, upd_ne l1, upd_ne pl]; exact rel.hl), (by simp; omega), ?_⟩
      have en : (⟨R.tg ++ [(m, [m])], R.later ++ [0]⟩ : RS).names = R.names ++ [m] := by simp [RS.names]
      have gp : G p = none := Same.free hs hp
      have gs : Same G (upd G p (.lst [.str m])) := same_alloc gp
      refine h .non (upd G p (.lst [.str m])) _ (fun b o q => ?_) ⟨?_, ?_, ⟨kvs ++ [(.inr m, .ref p)], ?_, ?_⟩, ?_, ?_, fun b o => ?_, rel.ne⟩ .non ⟨gs, fun b q => ?_, fun b o q n => ?_, fun b o => .inl o⟩
      · by_cases z : b = p
        · subst z
          rw [upd_same] at q
          rw [upd_ne pl.symm, upd_ne p2.symm, upd_ne p1.symm, upd_same]; exact q
        · rw [upd_ne z] at q
          have nO : ∀ {c : Addr}, r.O c → b ≠ c := fun oc z => by subst z; rw [rel.no _ oc] at q; cases q
          rw [upd_ne (nO r.Ol), upd_ne (nO r.O2), upd_ne (nO r.O1), upd_ne z]; exact hs b o q
      · rw [upd_ne al, upd_ne a2, upd_ne a1, upd_ne pa]; exact rel.ia
      · rw [upd_ne xl, upd_ne x2, upd_ne x1, upd_ne px]; exact rel.id
      · rw [upd_ne l1.symm, upd_ne rel.ne, upd_same]
      · have hd : Dt K (upd G p (.lst [.str m])) (.ref p) (.lst [.str m]) := .lst (SqL.of upd_same) (.cons (.str m) .nil)
        have app : ∀ {kvs : List (Key × V)} {t : List (Str × List Str)}, DtK K (upd G p (.lst [.str m])) kvs (togD t) → DtK K (upd G p (.lst [.str m])) (kvs ++ [((Sum.inr m : Key), V.ref p)]) (togD (t ++ [(m, [m])])) := by
          intro kvs t
          induction t generalizing kvs with
          | nil => intro d; cases d; exact .cons hd .nil
          | cons x t ih =>
            intro d
            cases d with
            | cons hd' tl => exact .cons hd' (ih tl)
        exact app (DtK.mono gs d1)
      · rw [upd_ne l2.symm, upd_same, en, numV_snoc]
        simp [c.1, RS.names]
      · rw [upd_same]; simp
      · have z : b ≠ p := fun z => by
          subst z
          exact rel.some_ o hp
        rw [upd_ne z]; exact rel.no b o
      · by_cases z : b = p
        · subst z; exact .inr (.inl hp)
        · rw [upd_ne z] at q; exact .inl q
      · have nb : b ≠ p := ne_of_none q hp
        rw [upd_ne (fun z => n (by rw [z]; exact r.Ol)), upd_ne (fun z => n (by rw [z]; exact r.O2)), upd_ne (fun z => n (by rw [z]; exact r.O1)), upd_ne nb]; exact q
end
end BK

namespace BK
open PySem L2 BT
section
variable {P : Program} {w : World} {K : PySem.W.Frag} {mg : Str → Option Value} {base : Heap} {C : Addr}
/-! ### Relations.add_same -/
noncomputable def m_Relations_add_same (C : Addr) : MR := sqR 0 (dropR (methR F_add (consA (mVar 1) (nilA)))) (sqR 0 (dropR (methR F_add (consA (mVar 2) (nilA)))) (sqR 0 (ifR 0 (viewT2 C 0 (orT (toB (methF (F_is_before C) C "is_before" (mVar 0) (consA (mVar 1) (consA (mVar 2) (nilA))))) (toB (methF (F_is_before C) C "is_before" (mVar 0) (consA (mVar 2) (consA (mVar 1) (nilA))))))) (frmR 0 (retS (mC (.bl false)))) (nxR)) (sqR 0 (setR 3 (viewE2 C 0 (BS.sortM (bin2 (dgetM (fldM C "together" (mVar 0)) (mVar 1)) (dgetM (fldM C "together" (mVar 0)) (mVar 2)) addD)))) (sqR 0 (setR 4 (viewE2 C 0 (methF (F_bits_of C) C "bits_of" (mVar 0) (consA (mVar 3) (nilA))))) (sqR 0 (setR 5 (viewE2 C 0 (bin2 (bin2 (fldM C "later" (mVar 0)) (dgetM (fldM C "numbers" (mVar 0)) (mVar 1)) ixM) (bin2 (fldM C "later" (mVar 0)) (dgetM (fldM C "numbers" (mVar 0)) (mVar 2)) ixM) orD))) (sqR 0 (forR 0 (frmI (seqD (mVar 3))) (bName 6) (sqR 0 (putTR 0 (viewE2 C 0 (mVar 6)) (viewE2 C 0 (mCall listD (consA (mVar 3) (nilA))))) (putLR 0 (viewE2 C 0 (dgetM (fldM C "numbers" (mVar 0)) (mVar 6))) (viewE2 C 0 (mVar 5))))) (sqR 0 (forR 0 (enumLater) (bTup 2 (bCons (bName 7) (bCons (bName 8) (bNil)))) (ifR 0 (viewT2 C 0 (toB (bin2 (bin2 (mVar 8) (mVar 4) andD) (mC (.int 0)) neM))) (putLR 0 (viewE2 C 0 (mVar 7)) (viewE2 C 0 (bin2 (bin2 (mVar 8) (mVar 4) orD) (mVar 5) orD))) (nxR))) (frmR 0 (retS (mC (.bl true)))))))))))
theorem sc_Relations_add_same : FnScope ["self", "one", "other", "group", "bits", "later", "moment", "number", "known"] ["self", "one", "other"] (defScope (inClass (top 2) 4)) := ⟨rfl, rfl, rfl, by decide +kernel, rfl, by decide +kernel, by decide +kernel⟩
theorem run_Relations_add_same {f : Addr} {fd : FuncData} (F : Fun K "add_same" "Relations.add_same" (inClass (top 2) 4) f fd) (T : Tx K mg C) {f_Relations_bits_of : Addr} {fd_Relations_bits_of : FuncData} (G_Relations_bits_of : FnOk P w K mg base CX0 1 f_Relations_bits_of fd_Relations_bits_of ["self", "group"] (fun vs H Q _ => SpF K (F_bits_of C) vs H Q E00)) (b_Relations_bits_of : Binds K fd_Relations_bits_of ["self", "group"] []) (m_Relations_bits_of : Meth K C "bits_of" f_Relations_bits_of) {f_Relations_is_before : Addr} {fd_Relations_is_before : FuncData} (G_Relations_is_before : FnOk P w K mg base CX0 1 f_Relations_is_before fd_Relations_is_before ["self", "one", "other"] (fun vs H Q _ => SpF K (F_is_before C) vs H Q E00)) (b_Relations_is_before : Binds K fd_Relations_is_before ["self", "one", "other"] []) (m_Relations_is_before : Meth K C "is_before" f_Relations_is_before) {f_add : Addr} {fd_add : FuncData} (G_add : FnOk P w K mg base CX0 1 f_add fd_add ["self", "moment"] (SpR K C F_add)) (b_add : Binds K fd_add ["self", "moment"] []) (m_add : Meth K C "add" f_add) :
    FnOk P w K mg base CX0 2 f fd ["self", "one", "other"] (SpR K C (runR 9 3 (m_Relations_add_same C))) := by
  have sc := sc_Relations_add_same
  refine okR F sc (fun cdv A outer s H E hr => ?_)
  have hu64 := hr.units
  have hu65 := room65 hr
  have hu1 := hu_of hr
  exact psr_cons (psr_expr (per_meth (pv 0) T.cl m_add G_add (hr.mono (by decide)) b_add (fun pn hpn => pax_cons (px_var (pv 1)) (pax_nil)) ⟨by decide +kernel, by decide +kernel, by decide +kernel⟩ (fun a b => pe_meth a T.cl m_add G_add (hr.mono (by decide)) b_add .nil pass0 b))) (psr_cons (psr_expr (per_meth (pv 0) T.cl m_add G_add (hr.mono (by decide)) b_add (fun pn hpn => pax_cons (px_var (pv 2)) (pax_nil)) ⟨by decide +kernel, by decide +kernel, by decide +kernel⟩ (fun a b => pe_meth a T.cl m_add G_add (hr.mono (by decide)) b_add .nil pass0 b))) (psr_cons (psr_if (ptr_view2 (fun pn hpn => (pwx_or (pt_x (px_meth (px_var (pv 0)) T.cl m_Relations_is_before G_Relations_is_before (hr.mono (by decide)) b_Relations_is_before (pax_cons (px_var (pv 1)) (pax_cons (px_var (pv 2)) (pax_nil))) (fun a b => pe_meth a T.cl m_Relations_is_before G_Relations_is_before (hr.mono (by decide)) b_Relations_is_before .nil pass0 b))) (pw_or1 (pt_x (px_meth (px_var (pv 0)) T.cl m_Relations_is_before G_Relations_is_before (hr.mono (by decide)) b_Relations_is_before (pax_cons (px_var (pv 2)) (pax_cons (px_var (pv 1)) (pax_nil))) (fun a b => pe_meth a T.cl m_Relations_is_before G_Relations_is_before (hr.mono (by decide)) b_Relations_is_before .nil pass0 b))))).pt)) (psr_one (psr_frame (fun pn hpn => psx_ret (px_bl)))) (psr_nil)) (psr_cons (psr_set (j := 3) (by decide) sc.nd rfl (by first | exact Or.inl rfl | exact Or.inr rfl) (per_view2 (fun pn hpn => BS.px_sortSet rfl (px_op op_adds od_add (px_dget hu1 (px_fld (px_var (pv 0)) T.cl T.f_together) (px_var (pv 1)) (fun _ _ => rfl)) (px_dget hu1 (px_fld (px_var (pv 0)) T.cl T.f_together) (px_var (pv 2)) (fun _ _ => rfl))) T.n_sorted T.n_set))) (psr_cons (psr_set (j := 4) (by decide) sc.nd rfl (by first | exact Or.inl rfl | exact Or.inr rfl) (per_view2 (fun pn hpn => px_meth (px_var (pv 0)) T.cl m_Relations_bits_of G_Relations_bits_of (hr.mono (by decide)) b_Relations_bits_of (pax_cons (px_var (pv 3)) (pax_nil)) (fun a b => pe_meth a T.cl m_Relations_bits_of G_Relations_bits_of (hr.mono (by decide)) b_Relations_bits_of .nil pass0 b)))) (psr_cons (psr_set (j := 5) (by decide) sc.nd rfl (by first | exact Or.inl rfl | exact Or.inr rfl) (per_view2 (fun pn hpn => px_op op_or od_or (px_ix ix_seq od_ix (px_fld (px_var (pv 0)) T.cl T.f_later) (px_dget hu1 (px_fld (px_var (pv 0)) T.cl T.f_numbers) (px_var (pv 1)) (fun _ _ => rfl)) (fun _ _ => rfl)) (px_ix ix_seq od_ix (px_fld (px_var (pv 0)) T.cl T.f_later) (px_dget hu1 (px_fld (px_var (pv 0)) T.cl T.f_numbers) (px_var (pv 2)) (fun _ _ => rfl)) (fun _ _ => rfl))))) (psr_cons (psr_for PassesOwn.never rfl (pir_frame (fun pn hpn => pix_seq (px_var (pv 3)))) (pg_name (i := 6) sc.nd rfl (by first | exact Or.inl rfl | exact Or.inr rfl)) (fun pn hpn => gb_name (np hpn (by decide))) (psr_cons (psr_putT hu1 (pv 0) T.cl T.f_together (per_view2 (fun pn hpn => px_var (pv 6))) (per_view2 (fun pn hpn => px_callTy call_list_of cd_list (by rfl) T.n_list (by decide +kernel) (pax_cons (px_var (pv 3)) (pax_nil))))) (psr_one (psr_putL (pv 0) T.cl T.f_later (per_view2 (fun pn hpn => px_dget hu1 (px_fld (px_var (pv 0)) T.cl T.f_numbers) (px_var (pv 6)) (fun _ _ => rfl))) (per_view2 (fun pn hpn => px_var (pv 5))) (fun a b c => ps_asg c (pg_sub a b set_list)))))) (psr_cons (psr_for PassesOwn.never rfl (pir_enumLater (pv 0) T.cl T.f_later T.n_enumerate T.n_list) (pg_tup (by rfl) (pgs_cons (pg_name (i := 7) sc.nd rfl (by first | exact Or.inl rfl | exact Or.inr rfl)) (pgs_cons (pg_name (i := 8) sc.nd rfl (by first | exact Or.inl rfl | exact Or.inr rfl)) (pgs_nil)))) (fun pn hpn => gb_tup (gbs_cons (gb_name (np hpn (by decide))) (gbs_cons (gb_name (np hpn (by decide))) (gbs_nil)))) (psr_one (psr_if (ptr_view2 (fun pn hpn => pt_c (op_nes hu64) od_ne (px_op op_and od_and (px_var (pv 8)) (px_var (pv 4))) (px_int) (nomark _))) (psr_one (psr_putL (pv 0) T.cl T.f_later (per_view2 (fun pn hpn => px_var (pv 7))) (per_view2 (fun pn hpn => px_op op_or od_or (px_op op_or od_or (px_var (pv 8)) (px_var (pv 4))) (px_var (pv 5)))) (fun a b c => ps_asg c (pg_sub a b set_list)))) (psr_nil)))) (psr_one (psr_frame (fun pn hpn => psx_ret (px_bl)))))))))))
/-! ### Relations.add_before -/
noncomputable def m_Relations_add_before (C : Addr) : MR := sqR 0 (dropR (methR F_add (consA (mVar 1) (nilA)))) (sqR 0 (dropR (methR F_add (consA (mVar 2) (nilA)))) (sqR 0 (ifR 0 (viewT2 C 0 (orT (toB (bin2 (mVar 2) (dgetM (fldM C "together" (mVar 0)) (mVar 1)) (inM false))) (toB (methF (F_is_before C) C "is_before" (mVar 0) (consA (mVar 2) (consA (mVar 1) (nilA))))))) (frmR 0 (retS (mC (.bl false)))) (nxR)) (sqR 0 (setR 3 (viewE2 C 0 (methF (F_bits_of C) C "bits_of" (mVar 0) (consA (dgetM (fldM C "together" (mVar 0)) (mVar 1)) (nilA))))) (sqR 0 (setR 4 (viewE2 C 0 (bin2 (methF (F_bits_of C) C "bits_of" (mVar 0) (consA (dgetM (fldM C "together" (mVar 0)) (mVar 2)) (nilA))) (bin2 (fldM C "later" (mVar 0)) (dgetM (fldM C "numbers" (mVar 0)) (mVar 2)) ixM) orD))) (sqR 0 (forR 0 (enumLater) (bTup 2 (bCons (bName 5) (bCons (bName 6) (bNil)))) (ifR 0 (viewT2 C 0 (toB (bin2 (bin2 (bin2 (bin2 (mC (.int 1)) (mVar 5) shlD) (mVar 6) orD) (mVar 3) andD) (mC (.int 0)) neM))) (putLR 0 (viewE2 C 0 (mVar 5)) (viewE2 C 0 (bin2 (mVar 6) (mVar 4) orD))) (nxR))) (frmR 0 (retS (mC (.bl true)))))))))
theorem sc_Relations_add_before : FnScope ["self", "one", "other", "bits", "later", "number", "known"] ["self", "one", "other"] (defScope (inClass (top 2) 5)) := ⟨rfl, rfl, rfl, by decide +kernel, rfl, by decide +kernel, by decide +kernel⟩
theorem run_Relations_add_before {f : Addr} {fd : FuncData} (F : Fun K "add_before" "Relations.add_before" (inClass (top 2) 5) f fd) (T : Tx K mg C) {f_Relations_bits_of : Addr} {fd_Relations_bits_of : FuncData} (G_Relations_bits_of : FnOk P w K mg base CX0 1 f_Relations_bits_of fd_Relations_bits_of ["self", "group"] (fun vs H Q _ => SpF K (F_bits_of C) vs H Q E00)) (b_Relations_bits_of : Binds K fd_Relations_bits_of ["self", "group"] []) (m_Relations_bits_of : Meth K C "bits_of" f_Relations_bits_of) {f_Relations_is_before : Addr} {fd_Relations_is_before : FuncData} (G_Relations_is_before : FnOk P w K mg base CX0 1 f_Relations_is_before fd_Relations_is_before ["self", "one", "other"] (fun vs H Q _ => SpF K (F_is_before C) vs H Q E00)) (b_Relations_is_before : Binds K fd_Relations_is_before ["self", "one", "other"] []) (m_Relations_is_before : Meth K C "is_before" f_Relations_is_before) {f_add : Addr} {fd_add : FuncData} (G_add : FnOk P w K mg base CX0 1 f_add fd_add ["self", "moment"] (SpR K C F_add)) (b_add : Binds K fd_add ["self", "moment"] []) (m_add : Meth K C "add" f_add) :
    FnOk P w K mg base CX0 2 f fd ["self", "one", "other"] (SpR K C (runR 7 3 (m_Relations_add_before C))) := by
  have sc := sc_Relations_add_before
  refine okR F sc (fun cdv A outer s H E hr => ?_)
  have hu64 := hr.units
  have hu65 := room65 hr
  have hu1 := hu_of hr
  exact psr_cons (psr_expr (per_meth (pv 0) T.cl m_add G_add (hr.mono (by decide)) b_add (fun pn hpn => pax_cons (px_var (pv 1)) (pax_nil)) ⟨by decide +kernel, by decide +kernel, by decide +kernel⟩ (fun a b => pe_meth a T.cl m_add G_add (hr.mono (by decide)) b_add .nil pass0 b))) (psr_cons (psr_expr (per_meth (pv 0) T.cl m_add G_add (hr.mono (by decide)) b_add (fun pn hpn => pax_cons (px_var (pv 2)) (pax_nil)) ⟨by decide +kernel, by decide +kernel, by decide +kernel⟩ (fun a b => pe_meth a T.cl m_add G_add (hr.mono (by decide)) b_add .nil pass0 b))) (psr_cons (psr_if (ptr_view2 (fun pn hpn => (pwx_or (pt_c (op_ins hu65) od_in (px_var (pv 2)) (px_dget hu1 (px_fld (px_var (pv 0)) T.cl T.f_together) (px_var (pv 1)) (fun _ _ => rfl)) (by rfl)) (pw_or1 (pt_x (px_meth (px_var (pv 0)) T.cl m_Relations_is_before G_Relations_is_before (hr.mono (by decide)) b_Relations_is_before (pax_cons (px_var (pv 2)) (pax_cons (px_var (pv 1)) (pax_nil))) (fun a b => pe_meth a T.cl m_Relations_is_before G_Relations_is_before (hr.mono (by decide)) b_Relations_is_before .nil pass0 b))))).pt)) (psr_one (psr_frame (fun pn hpn => psx_ret (px_bl)))) (psr_nil)) (psr_cons (psr_set (j := 3) (by decide) sc.nd rfl (by first | exact Or.inl rfl | exact Or.inr rfl) (per_view2 (fun pn hpn => px_meth (px_var (pv 0)) T.cl m_Relations_bits_of G_Relations_bits_of (hr.mono (by decide)) b_Relations_bits_of (pax_cons (px_dget hu1 (px_fld (px_var (pv 0)) T.cl T.f_together) (px_var (pv 1)) (fun _ _ => rfl)) (pax_nil)) (fun a b => pe_meth a T.cl m_Relations_bits_of G_Relations_bits_of (hr.mono (by decide)) b_Relations_bits_of .nil pass0 b)))) (psr_cons (psr_set (j := 4) (by decide) sc.nd rfl (by first | exact Or.inl rfl | exact Or.inr rfl) (per_view2 (fun pn hpn => px_op op_or od_or (px_meth (px_var (pv 0)) T.cl m_Relations_bits_of G_Relations_bits_of (hr.mono (by decide)) b_Relations_bits_of (pax_cons (px_dget hu1 (px_fld (px_var (pv 0)) T.cl T.f_together) (px_var (pv 2)) (fun _ _ => rfl)) (pax_nil)) (fun a b => pe_meth a T.cl m_Relations_bits_of G_Relations_bits_of (hr.mono (by decide)) b_Relations_bits_of .nil pass0 b)) (px_ix ix_seq od_ix (px_fld (px_var (pv 0)) T.cl T.f_later) (px_dget hu1 (px_fld (px_var (pv 0)) T.cl T.f_numbers) (px_var (pv 2)) (fun _ _ => rfl)) (fun _ _ => rfl))))) (psr_cons (psr_for PassesOwn.never rfl (pir_enumLater (pv 0) T.cl T.f_later T.n_enumerate T.n_list) (pg_tup (by rfl) (pgs_cons (pg_name (i := 5) sc.nd rfl (by first | exact Or.inl rfl | exact Or.inr rfl)) (pgs_cons (pg_name (i := 6) sc.nd rfl (by first | exact Or.inl rfl | exact Or.inr rfl)) (pgs_nil)))) (fun pn hpn => gb_tup (gbs_cons (gb_name (np hpn (by decide))) (gbs_cons (gb_name (np hpn (by decide))) (gbs_nil)))) (psr_one (psr_if (ptr_view2 (fun pn hpn => pt_c (op_nes hu64) od_ne (px_op op_and od_and (px_op op_or od_or (px_op op_shl od_shl (px_int) (px_var (pv 5))) (px_var (pv 6))) (px_var (pv 3))) (px_int) (nomark _))) (psr_one (psr_putL (pv 0) T.cl T.f_later (per_view2 (fun pn hpn => px_var (pv 5))) (per_view2 (fun pn hpn => px_op op_or od_or (px_var (pv 6)) (px_var (pv 4)))) (fun a b c => ps_asg c (pg_sub a b set_list)))) (psr_nil)))) (psr_one (psr_frame (fun pn hpn => psx_ret (px_bl)))))))))
end
end BK

namespace BK
open PySem L2 BT
/-! ### what the readings of the object give -/
def look (t : List (Str × List Str)) (a : Str) : List Str := match t.find? (fun x => decide (x.1 = a)) with | some x => x.2 | none => []
def RS.grp (R : RS) (a : Str) : List Str := look R.tg a
def RS.lt (R : RS) (a : Str) : Int := R.later.getD (R.ix a) 0
structure RS.Good (R : RS) : Prop extends R.Ok where
  gin : ∀ x ∈ R.tg, ∀ y ∈ x.2, y ∈ R.names
  gle : ∀ x ∈ R.tg, x.2.length ≤ 1000
theorem dlook_tog : ∀ {t : List (Str × List Str)} {a : Str}, a ∈ t.map (·.1) → dlook (.inr a) (togD t) = some (.lst ((look t a).map .str))
  | [], a, h => by simp at h
  | x :: t, a, h => by
    simp only [togD, List.map_cons, dlook, look, List.find?_cons]
    by_cases c : x.1 = a
    · have c' : (Sum.inr x.1 : Key) = Sum.inr a := by rw [c]
      rw [if_pos c', decide_eq_true c]
    · have c' : ¬ ((Sum.inr x.1 : Key) = Sum.inr a) := fun q => c (Sum.inr.inj q)
      rw [if_neg c', decide_eq_false c]
      refine dlook_tog ?_
      simp only [List.map_cons, List.mem_cons] at h
      exact h.resolve_left fun q => c q.symm
theorem grp_mem {R : RS} {a : Str} (h : a ∈ R.names) : ∃ x ∈ R.tg, x.1 = a ∧ R.grp a = x.2 := by
  obtain ⟨y, hy, e⟩ := List.mem_map.mp h
  unfold RS.grp look
  cases f : R.tg.find? (fun x => decide (x.1 = a)) with
  | none => exact absurd (List.find?_eq_none.mp f y hy) (by simp [e])
  | some x => exact ⟨x, List.mem_of_find?_eq_some f, by simpa using List.find?_some f, rfl⟩
section
variable {C : Addr} {R : RS} {ρ : Rho} {k l : Nat} {a b : Str}
theorem ev_tog (h0 : ρ[0]? = some (.dt (relD C R))) (hk : ρ[k]? = some (.dt (.str a))) (ha : a ∈ R.names) : dgetM (fldM C "together" (mVar 0)) (mVar k) ρ = some (.val (.dt (.lst ((R.grp a).map .str))) ρ) := by
  have e := dlook_tog (t := R.tg) (a := a) ha
  simp [h0, hk, relD, lk1, keyD, e]
  rfl
theorem ev_num (h0 : ρ[0]? = some (.dt (relD C R))) (hk : ρ[k]? = some (.dt (.str a))) (ha : a ∈ R.names) : dgetM (fldM C "numbers" (mVar 0)) (mVar k) ρ = some (.val (.dt (.int (R.ix a : Nat))) ρ) := by
  simp [h0, hk, relD, lk2, keyD, dlook_numD ha]
theorem ev_later (ok : R.Ok) (h0 : ρ[0]? = some (.dt (relD C R))) (hk : ρ[k]? = some (.dt (.str a))) (ha : a ∈ R.names) : bin2 (fldM C "later" (mVar 0)) (dgetM (fldM C "numbers" (mVar 0)) (mVar k)) ixM ρ = some (.val (.dt (.int (R.lt a))) ρ) := by
  have e2 := atI_later ok ha
  simp [h0, hk, relD, keyD, dlook_numD ha, e2, lk2, lk3, RS.lt]
theorem ev_bits (ok : R.Ok) (h0 : ρ[0]? = some (.dt (relD C R))) {X : M Sl} {g : List Str} (hX : X ρ = some (.val (.dt (.lst (g.map .str))) ρ)) (hg : ∀ x ∈ g, x ∈ R.names) (hl : g.length ≤ 1000) :
    methF (F_bits_of C) C "bits_of" (mVar 0) (consA X nilA) ρ = some (.val (.dt (.int (R.bits g))) ρ) := by
  have n1 : ((Str.ofString "bits_of") == (Str.ofString "together")) = false := by decide +kernel
  have n2 : ((Str.ofString "bits_of") == (Str.ofString "numbers")) = false := by decide +kernel
  have n3 : ((Str.ofString "bits_of") == (Str.ofString "later")) = false := by decide +kernel
  have c : R.okB = true ∧ (∀ x ∈ g, x ∈ R.names) ∧ g.length ≤ 1000 := ⟨RS.okB_iff.mpr ok, hg, hl⟩
  have e : F_bits_of C [.dt (relD C R), .dt (.lst (g.map .str))] = some (.val (.dt (.int (R.bits g))) [.dt (relD C R), .dt (.lst (g.map .str))]) := by
    simp only [F_bits_of, pureF]
    simp [decR_rel, decStrs_map, c.1, c.2.2]
    rw [if_pos hg]
  have hr : relD C R = .ins C [("together", .dic (togD R.tg)), ("numbers", .dic (numD R.names)), ("later", .lst (R.later.map .int))] := rfl
  unfold methF
  simp only [bindD, bindM, mVar, h0, Sl.frz]
  rw [hr]
  simp only
  rw [if_pos ⟨trivial, by simp [List.lookup_cons, n1, n2, n3]⟩]
  rw [← hr]
  simp only [callF, bindM, consA, bindD, mC, Sl.frz, hX, nilA]
  simp [e]
theorem ev_before (ok : R.Ok) (h0 : ρ[0]? = some (.dt (relD C R))) (hk : ρ[k]? = some (.dt (.str a))) (hl : ρ[l]? = some (.dt (.str b))) (ha : a ∈ R.names) (hb : b ∈ R.names) :
    methF (F_is_before C) C "is_before" (mVar 0) (consA (mVar k) (consA (mVar l) nilA)) ρ = some (.val (.dt (.bl (R.bf a b))) ρ) := by
  have n1 : ((Str.ofString "is_before") == (Str.ofString "together")) = false := by decide +kernel
  have n2 : ((Str.ofString "is_before") == (Str.ofString "numbers")) = false := by decide +kernel
  have n3 : ((Str.ofString "is_before") == (Str.ofString "later")) = false := by decide +kernel
  have c : R.okB = true ∧ a ∈ R.names ∧ b ∈ R.names := ⟨RS.okB_iff.mpr ok, ha, hb⟩
  have e : F_is_before C [.dt (relD C R), .dt (.str a), .dt (.str b)] = some (.val (.dt (.bl (R.bf a b))) [.dt (relD C R), .dt (.str a), .dt (.str b)]) := by
    simp only [F_is_before, pureF]
    simp [decR_rel, c]
  have hr : relD C R = .ins C [("together", .dic (togD R.tg)), ("numbers", .dic (numD R.names)), ("later", .lst (R.later.map .int))] := rfl
  unfold methF
  simp only [bindD, bindM, mVar, h0, Sl.frz]
  rw [hr]
  simp only
  rw [if_pos ⟨trivial, by simp [List.lookup_cons, n1, n2, n3]⟩]
  rw [← hr]
  simp only [callF, bindM, consA, bindD, mC, mVar, Sl.frz, hk, hl, nilA]
  simp [e]
end
end BK

namespace BK
open PySem L2 BT
/-! ### the loop over enumerate(list(self.later)) -/
theorem loop_enum {b : D → Rho → Option Rho} {body : MR} {ρf : Sl → Sl → Rho} {g : Nat → Int → Int} {tg : List (Str × List Str)} {n : Nat}
    (hb : ∀ s t i x, b (.tup [.int i, .int x]) (ρf s t) = some (ρf (.dt (.int i)) (.dt (.int x)))) (hun : ∀ s t, unAt 0 (ρf s t) = true)
    (hbody : ∀ (l : List Int) (i : Nat) (x : Int), l.length = n → l[i]? = some x → body ⟨tg, l⟩ (ρf (.dt (.int i)) (.dt (.int x))) = some (.nx (ρf (.dt (.int i)) (.dt (.int x))), ⟨tg, l.set i (g i x)⟩)) :
    ∀ (xs : List Int) (pre : List Int) (s t : Sl), pre.length + xs.length = n → ∃ s' t', loopR 0 b body ((xs.map D.int).mapIdx fun i d => .tup [.int ((pre.length + i : Nat)), d]) ⟨tg, pre ++ xs⟩ (ρf s t) =
      some (.nx (ρf s' t'), ⟨tg, pre ++ xs.mapIdx fun i x => g (pre.length + i) x⟩)
  | [], pre, s, t, _ => ⟨s, t, by simp [loopR, nxR]⟩
  | x :: xs, pre, s, t, hn => by
    simp only [List.length_cons] at hn
    have h1 := hbody (pre ++ x :: xs) pre.length x (by simp; omega) (by simp)
    have e1 : (pre ++ x :: xs).set pre.length (g pre.length x) = (pre ++ [g pre.length x]) ++ xs := by
      rw [List.set_append_right _ _ (Nat.le_refl _)]; simp
    rw [e1] at h1
    obtain ⟨s', t', ih⟩ := loop_enum hb hun hbody xs (pre ++ [g pre.length x]) (.dt (.int pre.length)) (.dt (.int x)) (by simp; omega)
    refine ⟨s', t', ?_⟩
    have e2 : (fun (i : Nat) (d : D) => D.tup [.int (((pre ++ [g pre.length x]).length + i : Nat)), d]) = fun (i : Nat) (d : D) => D.tup [.int ((pre.length + (i + 1) : Nat)), d] := by
      funext i d; simp; omega
    have e3 : (fun (i : Nat) (x_1 : Int) => g ((pre ++ [g pre.length x]).length + i) x_1) = fun (i : Nat) (y : Int) => g (pre.length + (i + 1)) y := by
      funext i d; congr 1; simp; omega
    rw [e2, e3] at ih
    simp only [List.map_cons, List.mapIdx_cons, loopR, Nat.add_zero, hb, hun, if_true, h1]
    rw [ih]
    simp
theorem set_self {l : List Int} {i : Nat} {x : Int} (h : l[i]? = some x) : l.set i x = l := by
  obtain ⟨h1, rfl⟩ := List.getElem?_eq_some_iff.mp h
  exact List.set_getElem_self h1

/-! ### one before another -/
def RS.add2 (R : RS) (a b : Str) : RS := (R.add a).add b
def RS.befL (R : RS) (a b : Str) (i : Nat) (k : Int) : Int := if Builtin.bitAnd (Builtin.bitOr (2 ^ i) k) (R.bits (R.grp a)) = 0 then k else Builtin.bitOr k (Builtin.bitOr (R.bits (R.grp b)) (R.lt b))
def RS.bef (R : RS) (a b : Str) : Bool × RS := if b ∈ (R.add2 a b).grp a ∨ (R.add2 a b).bf b a = true then (false, R.add2 a b) else (true, ⟨(R.add2 a b).tg, (R.add2 a b).later.mapIdx ((R.add2 a b).befL a b)⟩)
theorem mem_add {R : RS} {a : Str} : a ∈ (R.add a).names := by
  unfold RS.add
  split
  · assumption
  · simp [RS.names]
theorem mem_add_of {R : RS} {a b : Str} (h : b ∈ R.names) : b ∈ (R.add a).names := by
  unfold RS.add
  split
  · exact h
  · simp only [RS.names, List.map_append, List.mem_append]; exact .inl h
theorem RS.Good.add {R : RS} (g : R.Good) (hl : R.tg.length < 1000) (a : Str) : (R.add a).Good := by
  unfold RS.add
  split
  · exact g
  · rename_i c
    refine ⟨⟨by simp [g.len], fun x hx => ?_, ?_, by simp; omega⟩, fun x hx y hy => ?_, fun x hx => ?_⟩
    · rcases List.mem_append.mp hx with h | h
      · exact g.nn x h
      · simp at h; omega
    · have : (RS.names ⟨R.tg ++ [(a, [a])], R.later ++ [0]⟩) = R.names ++ [a] := by simp [RS.names]
      rw [this]
      refine List.nodup_append.mpr ⟨g.nd, by simp, fun x hx y hy => ?_⟩
      simp at hy; subst hy
      exact fun e => c (e ▸ hx)
    · simp only [RS.names, List.map_append, List.mem_append]
      rcases List.mem_append.mp hx with h | h
      · exact .inl (g.gin x h y hy)
      · simp at h; subst h; simp at hy; subst hy; right; simp
    · rcases List.mem_append.mp hx with h | h
      · exact g.gle x h
      · simp at h; subst h; simp
theorem add_len (R : RS) (a : Str) : (R.add a).tg.length ≤ R.tg.length + 1 := by
  unfold RS.add; split <;> simp
theorem add_app {R : RS} (g : R.Good) (hl : R.tg.length < 1000) (a : Str) : F_add R [.str a] = some (.non, R.add a) := by
  simp [F_add, g.len, hl]
theorem grp_ok {R : RS} (g : R.Good) {a : Str} (h : a ∈ R.names) : (∀ x ∈ R.grp a, x ∈ R.names) ∧ (R.grp a).length ≤ 1000 := by
  obtain ⟨x, hx, _, e⟩ := grp_mem h
  rw [e]; exact ⟨g.gin x hx, g.gle x hx⟩
theorem flat_strs' (g : List Str) : (g.map D.str).all flatD = true := by
  rw [List.all_map]; exact List.all_eq_true.mpr fun _ _ => rfl
theorem any_strs (b : Str) (g : List Str) : ((g.map D.str).any fun z => eqF z (.str b)) = decide (b ∈ g) := by
  induction g with
  | nil => rfl
  | cons x g ih =>
    rw [List.map_cons, List.any_cons, ih]
    by_cases c : x = b
    · subst c; simp [eqF]
    · have c' : ¬ b = x := fun e => c e.symm
      simp [eqF, c, c']
theorem in_strs (b : Str) (g : List Str) (ρ : Rho) : inM false (.str b) (.lst (g.map .str)) ρ = some (.val (.dt (.bl (decide (b ∈ g)))) ρ) := by
  have h := any_strs b g
  simp only [inM]
  rw [if_pos ⟨rfl, flat_strs' g⟩]
  simp only [Bool.false_eq_true, if_false, h]
theorem bin2_val {f g : M Sl} {k : D → D → M Sl} {d e : D} {ρ : Rho} (h1 : f ρ = some (.val (.dt d) ρ)) (h2 : g ρ = some (.val (.dt e) ρ)) : bin2 f g k ρ = k d e ρ := by
  simp only [bin2, bindD, bindM, h1, h2, Sl.frz]
theorem toB_val {f : M Sl} {b : Bool} {ρ : Rho} (h : f ρ = some (.val (.dt (.bl b)) ρ)) : toB f ρ = some (.val b ρ) := by
  simp only [toB, bindD, bindM, h, Sl.frz]
theorem orT_val {f g : M Bool} {p q : Bool} {ρ : Rho} (h1 : f ρ = some (.val p ρ)) (h2 : g ρ = some (.val q ρ)) : orT f g ρ = some (.val (p || q) ρ) := by
  cases p <;> simp [orT, bindM, h1, h2]
theorem var_val {i : Nat} {d : D} {ρ : Rho} (h : ρ[i]? = some (.dt d)) : mVar i ρ = some (.val (.dt d) ρ) := by simp only [mVar, h]
theorem sq_val {i : Nat} {f g : MR} {R R' : RS} {ρ ρ' : Rho} (h : f R ρ = some (.nx ρ', R')) (u : unAt i ρ' = true) : sqR i f g R ρ = g R' ρ' := by simp only [sqR, h, u, if_true]
theorem sq_rt {i : Nat} {f g : MR} {R R' : RS} {ρ ρ' : Rho} {s : Sl} (h : f R ρ = some (.rt s ρ', R')) : sqR i f g R ρ = some (.rt s ρ', R') := by simp only [sqR, h]
theorem set_val {j : Nat} {f : ER Sl} {R R' : RS} {ρ ρ' : Rho} {s : Sl} (h : f R ρ = some (s, ρ', R')) (l : j < ρ'.length) : setR j f R ρ = some (.nx (ρ'.set j s), R') := by simp only [setR, h, l, if_true]
theorem dropM_val {F : FR} {fs : M (List D)} {ds : List D} {R R' : RS} {ρ ρ' : Rho} {d : D} (h : fs ρ = some (.val ds ρ')) (e : F R ds = some (d, R')) : dropR (methR F fs) R ρ = some (.nx ρ', R') := by simp only [dropR, methR, h, e]
theorem one_arg {f : M Sl} {d : D} {ρ : Rho} (h : f ρ = some (.val (.dt d) ρ)) : consA f nilA ρ = some (.val [d] ρ) := by simp only [consA, bindD, bindM, h, Sl.frz, nilA]
theorem if_val {i : Nat} {t : ER Bool} {f g : MR} {R R' : RS} {ρ ρ' : Rho} {b : Bool} (h : t R ρ = some (b, ρ', R')) (u : unAt i ρ' = true) : ifR i t f g R ρ = if b = true then f R' ρ' else g R' ρ' := by simp only [ifR, h, u, if_true]
theorem frm_ret {i : Nat} {d : D} {R : RS} {ρ : Rho} : frmR i (retS (mC d)) R ρ = some (.rt (.dt d) ρ, R) := rfl
theorem for_val {i : Nat} {src : ER (List D)} {b : D → Rho → Option Rho} {body : MR} {ds : List D} {R R' : RS} {ρ ρ' : Rho} (h : src R ρ = some (ds, ρ', R')) (u : unAt i ρ' = true) : forR i src b body R ρ = loopR i b body ds R' ρ' := by simp only [forR, h, u, if_true]
theorem put_val {i : Nat} {k v : ER Sl} {R : RS} {ρ : Rho} {z : Int} {j : Nat} (hv : v R ρ = some (.dt (.int z), ρ, R)) (hk : k R ρ = some (.dt (.int (j : Nat)), ρ, R)) (u : unAt i ρ = true) (l : j < R.later.length) : putLR i k v R ρ = some (.nx ρ, ⟨R.tg, R.later.set j z⟩) := by
  have e : ixN R.later.length ((j : Nat) : Int) = some j := by
    unfold ixN
    have h1 : ¬ ((j : Int) < 0) := by omega
    simp [l]
  simp only [putLR, hv, u, if_true, hk, e]
theorem eq_add_before {C : Addr} {R : RS} {a b : Str} (g : R.Good) (hl : R.tg.length + 2 ≤ 1000) : runR 7 3 (m_Relations_add_before C) R [.str a, .str b] = some (.bl (R.bef a b).1, (R.bef a b).2) := by
  have g1 := g.add (by omega) a
  have l1 := add_len R a
  have g2 : (R.add2 a b).Good := g1.add (by omega) b
  have e1 := add_app g (by omega) a
  have e2 : F_add (R.add a) [.str b] = some (.non, R.add2 a b) := add_app g1 (by omega) b
  have ha : a ∈ (R.add2 a b).names := mem_add_of mem_add
  have hb : b ∈ (R.add2 a b).names := mem_add
  obtain ⟨p1, p2⟩ := grp_ok g2 ha
  obtain ⟨q1, q2⟩ := grp_ok g2 hb
  unfold RS.bef
  generalize R.add2 a b = S at *
  have tog : ∀ (k : Nat) (x : Str) (ρ : Rho), ρ[0]? = some (.dt (relD C S)) → ρ[k]? = some (.dt (.str x)) → x ∈ S.names → dgetM (fldM C "together" (mVar 0)) (mVar k) ρ = some (.val (.dt (.lst ((S.grp x).map .str))) ρ) := fun k x ρ h0 h1 hx => ev_tog h0 h1 hx
  have B1 : viewT2 C 0 (orT (toB (bin2 (mVar 2) (dgetM (fldM C "together" (mVar 0)) (mVar 1)) (inM false))) (toB (methF (F_is_before C) C "is_before" (mVar 0) (consA (mVar 2) (consA (mVar 1) (nilA)))))) S [.un, .dt (.str a), .dt (.str b), .un, .un, .un, .un] =
      some (decide (b ∈ S.grp a) || S.bf b a, [.un, .dt (.str a), .dt (.str b), .un, .un, .un, .un], S) :=
    viewT2_eq (orT_val (toB_val ((bin2_val (var_val rfl) (tog 1 a _ rfl rfl ha)).trans (in_strs b _ _))) (toB_val (ev_before g2.toOk rfl rfl rfl hb ha)))
  have B2 : viewE2 C 0 (methF (F_bits_of C) C "bits_of" (mVar 0) (consA (dgetM (fldM C "together" (mVar 0)) (mVar 1)) (nilA))) S [.un, .dt (.str a), .dt (.str b), .un, .un, .un, .un] = some (.dt (.int (S.bits (S.grp a))), [.un, .dt (.str a), .dt (.str b), .un, .un, .un, .un], S) :=
    viewE2_eq (ev_bits g2.toOk rfl (tog 1 a _ rfl rfl ha) p1 p2) rfl
  have B3 : viewE2 C 0 (bin2 (methF (F_bits_of C) C "bits_of" (mVar 0) (consA (dgetM (fldM C "together" (mVar 0)) (mVar 2)) (nilA))) (bin2 (fldM C "later" (mVar 0)) (dgetM (fldM C "numbers" (mVar 0)) (mVar 2)) ixM) orD) S [.un, .dt (.str a), .dt (.str b), .dt (.int (S.bits (S.grp a))), .un, .un, .un] =
      some (.dt (.int (Builtin.bitOr (S.bits (S.grp b)) (S.lt b))), [.un, .dt (.str a), .dt (.str b), .dt (.int (S.bits (S.grp a))), .un, .un, .un], S) :=
    viewE2_eq ((bin2_val (ev_bits g2.toOk rfl (tog 2 b _ rfl rfl hb) q1 q2) (ev_later g2.toOk rfl rfl hb)).trans rfl) rfl
  have L := loop_enum (b := bTup 2 (bCons (bName 5) (bCons (bName 6) (bNil)))) (body := ifR 0 (viewT2 C 0 (toB (bin2 (bin2 (bin2 (bin2 (mC (.int 1)) (mVar 5) shlD) (mVar 6) orD) (mVar 3) andD) (mC (.int 0)) neM))) (putLR 0 (viewE2 C 0 (mVar 5)) (viewE2 C 0 (bin2 (mVar 6) (mVar 4) orD))) (nxR))
    (ρf := fun s t => [.un, .dt (.str a), .dt (.str b), .dt (.int (S.bits (S.grp a))), .dt (.int (Builtin.bitOr (S.bits (S.grp b)) (S.lt b))), s, t]) (g := S.befL a b) (tg := S.tg) (n := S.later.length)
    (fun s t i x => by simp) (fun s t => rfl) (fun l i x hn hx => by
      have hi : i < l.length := (List.getElem?_eq_some_iff.mp hx).1
      have small : ((i : Nat) : Int) ≤ 1000000 := by have := g2.len; have := g2.few; omega
      have V1 : viewT2 C 0 (toB (bin2 (bin2 (bin2 (bin2 (mC (.int 1)) (mVar 5) shlD) (mVar 6) orD) (mVar 3) andD) (mC (.int 0)) neM)) ⟨S.tg, l⟩ [.un, .dt (.str a), .dt (.str b), .dt (.int (S.bits (S.grp a))), .dt (.int (Builtin.bitOr (S.bits (S.grp b)) (S.lt b))), .dt (.int (i : Nat)), .dt (.int x)] =
          some (!decide (Builtin.bitAnd (Builtin.bitOr (2 ^ i) x) (S.bits (S.grp a)) = 0), [.un, .dt (.str a), .dt (.str b), .dt (.int (S.bits (S.grp a))), .dt (.int (Builtin.bitOr (S.bits (S.grp b)) (S.lt b))), .dt (.int (i : Nat)), .dt (.int x)], ⟨S.tg, l⟩) := by
        refine viewT2_eq (toB_val ?_)
        have s1 : bin2 (mC (.int 1)) (mVar 5) shlD [Sl.dt (relD C ⟨S.tg, l⟩), .dt (.str a), .dt (.str b), .dt (.int (S.bits (S.grp a))), .dt (.int (Builtin.bitOr (S.bits (S.grp b)) (S.lt b))), .dt (.int (i : Nat)), .dt (.int x)] = some (.val (.dt (.int (2 ^ i))) [Sl.dt (relD C ⟨S.tg, l⟩), .dt (.str a), .dt (.str b), .dt (.int (S.bits (S.grp a))), .dt (.int (Builtin.bitOr (S.bits (S.grp b)) (S.lt b))), .dt (.int (i : Nat)), .dt (.int x)]) := by
          simp [small]
        exact (bin2_val ((bin2_val ((bin2_val s1 (var_val (d := .int x) rfl)).trans rfl) (var_val rfl)).trans rfl) rfl).trans rfl
      rw [if_val V1 rfl]
      by_cases c : Builtin.bitAnd (Builtin.bitOr (2 ^ i) x) (S.bits (S.grp a)) = 0
      · have e0 : S.befL a b i x = x := if_pos c
        rw [e0, set_self hx, decide_eq_true c]
        rfl
      · have e0 : S.befL a b i x = Builtin.bitOr x (Builtin.bitOr (S.bits (S.grp b)) (S.lt b)) := if_neg c
        rw [e0, decide_eq_false c]
        exact put_val (viewE2_eq ((bin2_val (var_val (d := .int x) rfl) (var_val rfl)).trans rfl) rfl) (viewE2_eq (var_val (d := .int (i : Nat)) rfl) rfl) rfl hi)
    S.later [] .un .un (by simp)
  obtain ⟨s', t', L⟩ := L
  simp only [List.length_nil, Nat.zero_add, List.nil_append] at L
  unfold runR
  rw [if_pos ⟨rfl, by decide⟩]
  have start : ((Sl.un :: [D.str a, .str b].map Sl.dt) ++ List.replicate (7 - 3) Sl.un) = [.un, .dt (.str a), .dt (.str b), .un, .un, .un, .un] := rfl
  rw [start]
  unfold m_Relations_add_before
  rw [sq_val (dropM_val (one_arg (var_val (d := .str a) rfl)) e1) rfl, sq_val (dropM_val (one_arg (var_val (d := .str b) rfl)) e2) rfl]
  by_cases c : b ∈ S.grp a ∨ S.bf b a = true
  · have cb : (decide (b ∈ S.grp a) || S.bf b a) = true := by simpa using c
    rw [sq_rt (R' := S) (s := .dt (.bl false)) (ρ' := [.un, .dt (.str a), .dt (.str b), .un, .un, .un, .un]) (by rw [if_val B1 rfl, cb]; rfl), if_pos c]; rfl
  · have cb : (decide (b ∈ S.grp a) || S.bf b a) = false := by simpa using c
    rw [sq_val (i := 0) (R' := S) (ρ' := [.un, .dt (.str a), .dt (.str b), .un, .un, .un, .un]) (by rw [if_val B1 rfl, cb]; rfl) rfl, sq_val (i := 0) (R' := S) (ρ' := [.un, .dt (.str a), .dt (.str b), .dt (.int (S.bits (S.grp a))), .un, .un, .un]) (set_val B2 (by simp)) rfl,
      sq_val (i := 0) (R' := S) (ρ' := [.un, .dt (.str a), .dt (.str b), .dt (.int (S.bits (S.grp a))), .dt (.int (Builtin.bitOr (S.bits (S.grp b)) (S.lt b))), .un, .un]) (set_val B3 (by simp)) rfl, if_neg c]
    rw [sq_val ((for_val (ρ' := [.un, .dt (.str a), .dt (.str b), .dt (.int (S.bits (S.grp a))), .dt (.int (Builtin.bitOr (S.bits (S.grp b)) (S.lt b))), .un, .un]) (R' := S) (ds := enumL (S.later.map .int)) rfl rfl).trans L) rfl]
    rfl
end BK

namespace BK
open PySem L2 BT
/-! ### two moments into one group -/
def RS.join (R : RS) (g : List Str) (later : Int) : List Str → RS
  | [] => R
  | m :: r => RS.join ⟨putT R.tg m g, R.later.set (R.ix m) later⟩ g later r
def RS.sameL (bits later k : Int) : Int := if Builtin.bitAnd k bits = 0 then k else Builtin.bitOr (Builtin.bitOr k bits) later
def RS.sg (R : RS) (a b : Str) : List Str := BS.sd (R.grp a ++ R.grp b)
def RS.sl (R : RS) (a b : Str) : Int := Builtin.bitOr (R.lt a) (R.lt b)
def RS.tie (S : RS) (a b : Str) : RS := ⟨(S.join (S.sg a b) (S.sl a b) (S.sg a b)).tg, (S.join (S.sg a b) (S.sl a b) (S.sg a b)).later.map (RS.sameL (S.bits (S.sg a b)) (S.sl a b))⟩
def RS.same (R : RS) (a b : Str) : Bool × RS := if (R.add2 a b).bf a b = true ∨ (R.add2 a b).bf b a = true then (false, R.add2 a b) else (true, (R.add2 a b).tie a b)
theorem join_names : ∀ (ms : List Str) (R : RS) (g : List Str) (later : Int), (∀ m ∈ ms, m ∈ R.names) → (R.join g later ms).names = R.names
  | [], _, _, _, _ => rfl
  | m :: r, R, g, later, h => by
    have e : RS.names ⟨putT R.tg m g, R.later.set (R.ix m) later⟩ = R.names := putT_names (h m (by simp))
    have := join_names r ⟨putT R.tg m g, R.later.set (R.ix m) later⟩ g later (fun x hx => by rw [e]; exact h x (by simp [hx]))
    rw [e] at this
    exact this
theorem join_len : ∀ (ms : List Str) (R : RS) (g : List Str) (later : Int), (R.join g later ms).later.length = R.later.length
  | [], _, _, _ => rfl
  | m :: r, R, g, later => by
    have := join_len r ⟨putT R.tg m g, R.later.set (R.ix m) later⟩ g later
    simp only [List.length_set] at this
    exact this
theorem bit_nn {a b : Int} (ha : 0 ≤ a) (hb : 0 ≤ b) : 0 ≤ Builtin.bitOr a b ∧ Builtin.bitOr a b = ((a.toNat ||| b.toNat : Nat) : Int) := by
  rw [bitOr_nn ha hb]; exact ⟨by omega, rfl⟩
theorem join_ok : ∀ (ms : List Str) (R : RS) (g : List Str) (later : Int), R.Good → (∀ m ∈ ms, m ∈ R.names) → 0 ≤ later → (∀ x ∈ g, x ∈ R.names) → g.length ≤ 1000 → (R.join g later ms).Good
  | [], _, _, _, h, _, _, _, _ => h
  | m :: r, R, g, later, h, hm, hl, hg, gl => by
    have en : RS.names ⟨putT R.tg m g, R.later.set (R.ix m) later⟩ = R.names := putT_names (hm m (by simp))
    have em : (R.tg.any fun x => decide (x.1 = m)) = true := by
      obtain ⟨x, hx, e⟩ := List.mem_map.mp (hm m (by simp))
      exact List.any_eq_true.mpr ⟨x, hx, by simpa using e⟩
    have mem : ∀ x ∈ putT R.tg m g, x ∈ R.tg ∨ x.2 = g := fun x hx => by
      unfold putT at hx
      rw [if_pos em] at hx
      obtain ⟨y, hy, e⟩ := List.mem_map.mp hx
      split at e
      · exact .inr (by rw [← e])
      · exact .inl (by rw [← e]; exact hy)
    have lt : (putT R.tg m g).length = R.tg.length := by
      have := congrArg List.length en
      simpa [RS.names] using this
    refine join_ok r _ g later ⟨⟨by simp [h.len, lt], fun x hx => ?_, by rw [en]; exact h.nd, by simp only; rw [lt]; exact h.few⟩, fun x hx y hy => ?_, fun x hx => ?_⟩ (fun x hx => by rw [en]; exact hm x (by simp [hx])) hl (fun x hx => by rw [en]; exact hg x hx) gl
    · rcases List.mem_or_eq_of_mem_set hx with z | z
      · exact h.nn x z
      · rw [z]; exact hl
    · rw [en]
      rcases mem x hx with z | z
      · exact h.gin x z y hy
      · rw [z] at hy; exact hg y hy
    · rcases mem x hx with z | z
      · exact h.gle x z
      · rw [z]; exact gl
theorem frz_dt {ρ : Rho} (h : ∀ s ∈ ρ, ∀ ds, s ≠ .ol ds) : frzAll ρ = ρ := by
  unfold frzAll
  conv => rhs; rw [← List.map_id ρ]
  apply List.map_congr_left
  intro s hs
  cases s with
  | ol ds => exact absurd rfl (h _ hs ds)
  | _ => rfl
theorem lt_nn {R : RS} (g : R.Good) {a : Str} (h : a ∈ R.names) : 0 ≤ R.lt a := later_nn g.toOk h
theorem sg_in {R : RS} (g : R.Good) {a b : Str} (ha : a ∈ R.names) (hb : b ∈ R.names) : ∀ x ∈ R.sg a b, x ∈ R.names := fun x hx => by
  rcases List.mem_append.mp (BS.mem_sd.mp hx) with h | h
  · exact (grp_ok g ha).1 x h
  · exact (grp_ok g hb).1 x h
theorem sg_len {R : RS} (g : R.Good) {a b : Str} (ha : a ∈ R.names) (hb : b ∈ R.names) : (R.sg a b).length ≤ R.tg.length := by
  have := BS.len_of_sub (BS.sd_up _).nodup (sg_in g ha hb)
  unfold RS.names at this
  rw [List.length_map] at this
  exact this
theorem mapIdx_const {α β : Type} (f : α → β) : ∀ l : List α, l.mapIdx (fun _ x => f x) = l.map f
  | [] => rfl
  | x :: l => by rw [List.mapIdx_cons, List.map_cons, mapIdx_const f l]
theorem loopM {b : D → Rho → Option Rho} {body : MR} {ρf : Sl → Rho} {gr : List Str} {later : Int}
    (hb : ∀ s m, b (.str m) (ρf s) = some (ρf (.dt (.str m)))) (hun : ∀ s, unAt 0 (ρf s) = true)
    (hbody : ∀ (R : RS) (m : Str), R.Good → m ∈ R.names → body R (ρf (.dt (.str m))) = some (.nx (ρf (.dt (.str m))), ⟨putT R.tg m gr, R.later.set (R.ix m) later⟩)) (hl : 0 ≤ later) (gl : gr.length ≤ 1000) :
    ∀ (ms : List Str) (R : RS) (s : Sl), R.Good → (∀ m ∈ ms, m ∈ R.names) → (∀ x ∈ gr, x ∈ R.names) → frz1 s = s → ∃ s', frz1 s' = s' ∧ loopR 0 b body (ms.map .str) R (ρf s) = some (.nx (ρf s'), R.join gr later ms)
  | [], R, s, _, _, _, z => ⟨s, z, rfl⟩
  | m :: ms, R, s, g, hm, hg, _ => by
    have e := hbody R m g (hm m (by simp))
    have en : RS.names ⟨putT R.tg m gr, R.later.set (R.ix m) later⟩ = R.names := putT_names (hm m (by simp))
    have g1 : RS.Good ⟨putT R.tg m gr, R.later.set (R.ix m) later⟩ := join_ok [m] R gr later g (fun x hx => by simp at hx; rw [hx]; exact hm m (by simp)) hl hg gl
    obtain ⟨s', ih⟩ := loopM hb hun hbody hl gl ms _ (.dt (.str m)) g1 (fun x hx => by rw [en]; exact hm x (by simp [hx])) (fun x hx => by rw [en]; exact hg x hx) rfl
    refine ⟨s', ih.1, ?_⟩
    replace ih := ih.2
    simp only [List.map_cons, loopR, hb, hun, if_true, e]
    exact ih
theorem putT_val {i : Nat} {k v : ER Sl} {R : RS} {ρ : Rho} {m : Str} {g : List Str} (hv : v R ρ = some (.ol (g.map .str), ρ, R)) (hk : k R ρ = some (.dt (.str m), ρ, R)) (u : unAt i ρ = true) (hm : m ∈ R.names) (l : R.tg.length < sizeLine) :
    putTR i k v R ρ = some (.nx ρ, ⟨putT R.tg m g, R.later⟩) := by
  simp only [putTR, hv, u, if_true, hk, decStrs_map, hm, l, and_self]
theorem eq_add_same {C : Addr} {R : RS} {a b : Str} (g : R.Good) (hl : R.tg.length + 2 ≤ 63) : runR 9 3 (m_Relations_add_same C) R [.str a, .str b] = some (.bl (R.same a b).1, (R.same a b).2) := by
  have g1 := g.add (by omega) a
  have l1 := add_len R a
  have l2 := add_len (R.add a) b
  have g2 : (R.add2 a b).Good := g1.add (by omega) b
  have e1 := add_app g (by omega) a
  have e2 : F_add (R.add a) [.str b] = some (.non, R.add2 a b) := add_app g1 (by omega) b
  have ha : a ∈ (R.add2 a b).names := mem_add_of mem_add
  have hb : b ∈ (R.add2 a b).names := mem_add
  have l3 : (R.add2 a b).tg.length ≤ 63 := by unfold RS.add2; omega
  obtain ⟨p1, p2⟩ := grp_ok g2 ha
  obtain ⟨q1, q2⟩ := grp_ok g2 hb
  have r1 := sg_in g2 ha hb
  have r2 := sg_len g2 ha hb
  have nnl : 0 ≤ (R.add2 a b).sl a b := (bit_nn (lt_nn g2 ha) (lt_nn g2 hb)).1
  unfold RS.same
  generalize R.add2 a b = S at *
  have big : 2000 ≤ sizeLine := by rw [sizeLine_eq]; decide
  have tog : ∀ (k : Nat) (x : Str) (ρ : Rho), ρ[0]? = some (.dt (relD C S)) → ρ[k]? = some (.dt (.str x)) → x ∈ S.names → dgetM (fldM C "together" (mVar 0)) (mVar k) ρ = some (.val (.dt (.lst ((S.grp x).map .str))) ρ) := fun k x ρ h0 h1 hx => ev_tog h0 h1 hx
  have B1 : viewT2 C 0 (orT (toB (methF (F_is_before C) C "is_before" (mVar 0) (consA (mVar 1) (consA (mVar 2) (nilA))))) (toB (methF (F_is_before C) C "is_before" (mVar 0) (consA (mVar 2) (consA (mVar 1) (nilA)))))) S [.un, .dt (.str a), .dt (.str b), .un, .un, .un, .un, .un, .un] =
      some (S.bf a b || S.bf b a, [.un, .dt (.str a), .dt (.str b), .un, .un, .un, .un, .un, .un], S) :=
    viewT2_eq (orT_val (toB_val (ev_before g2.toOk rfl rfl rfl ha hb)) (toB_val (ev_before g2.toOk rfl rfl rfl hb ha)))
  have B2 : viewE2 C 0 (BS.sortM (bin2 (dgetM (fldM C "together" (mVar 0)) (mVar 1)) (dgetM (fldM C "together" (mVar 0)) (mVar 2)) addD)) S [.un, .dt (.str a), .dt (.str b), .un, .un, .un, .un, .un, .un] =
      some (.ol ((S.sg a b).map .str), [.un, .dt (.str a), .dt (.str b), .un, .un, .un, .un, .un, .un], S) := by
    refine viewE2_eq ?_ (by simp only [atomS, List.all_map]; exact List.all_eq_true.mpr fun _ _ => rfl)
    show BS.sortM _ [.dt (relD C S), .dt (.str a), .dt (.str b), .un, .un, .un, .un, .un, .un] = some (.val _ [.dt (relD C S), .dt (.str a), .dt (.str b), .un, .un, .un, .un, .un, .un])
    have h := bin2_val (k := addD) (tog 1 a [.dt (relD C S), .dt (.str a), .dt (.str b), .un, .un, .un, .un, .un, .un] rfl rfl ha) (tog 2 b _ rfl rfl hb)
    have h2 : addD (.lst ((S.grp a).map .str)) (.lst ((S.grp b).map .str)) [.dt (relD C S), .dt (.str a), .dt (.str b), .un, .un, .un, .un, .un, .un] = some (.val (.ol ((S.grp a ++ S.grp b).map .str)) [.dt (relD C S), .dt (.str a), .dt (.str b), .un, .un, .un, .un, .un, .un]) := by
      simp only [addD, List.length_map, List.map_append]
      rw [if_pos (by omega)]
    have h3 := h.trans h2
    simp only [BS.sortM, bindD, bindM, h3, Sl.frz, BS.setM, decStrs_map]
    rw [if_pos ⟨by rw [List.length_append]; omega, Nat.lt_of_le_of_lt (Nat.le_trans r2 l3) (by decide)⟩]
    rfl
  have B3 : viewE2 C 0 (methF (F_bits_of C) C "bits_of" (mVar 0) (consA (mVar 3) (nilA))) S [.un, .dt (.str a), .dt (.str b), .ol ((S.sg a b).map .str), .un, .un, .un, .un, .un] =
      some (.dt (.int (S.bits (S.sg a b))), [.un, .dt (.str a), .dt (.str b), .dt (.lst ((S.sg a b).map .str)), .un, .un, .un, .un, .un], S) :=
    viewE2_eq (ρ := [.un, .dt (.str a), .dt (.str b), .ol ((S.sg a b).map .str), .un, .un, .un, .un, .un]) (ev_bits g2.toOk rfl (var_val rfl) r1 (by omega)) rfl
  have B4 : viewE2 C 0 (bin2 (bin2 (fldM C "later" (mVar 0)) (dgetM (fldM C "numbers" (mVar 0)) (mVar 1)) ixM) (bin2 (fldM C "later" (mVar 0)) (dgetM (fldM C "numbers" (mVar 0)) (mVar 2)) ixM) orD) S [.un, .dt (.str a), .dt (.str b), .dt (.lst ((S.sg a b).map .str)), .dt (.int (S.bits (S.sg a b))), .un, .un, .un, .un] =
      some (.dt (.int (S.sl a b)), [.un, .dt (.str a), .dt (.str b), .dt (.lst ((S.sg a b).map .str)), .dt (.int (S.bits (S.sg a b))), .un, .un, .un, .un], S) :=
    viewE2_eq ((bin2_val (ev_later g2.toOk rfl rfl ha) (ev_later g2.toOk rfl rfl hb)).trans rfl) rfl
  obtain ⟨s1, z1, L1⟩ := loopM (gr := S.sg a b) (later := S.sl a b) (b := bName 6) (body := sqR 0 (putTR 0 (viewE2 C 0 (mVar 6)) (viewE2 C 0 (mCall listD (consA (mVar 3) (nilA))))) (putLR 0 (viewE2 C 0 (dgetM (fldM C "numbers" (mVar 0)) (mVar 6))) (viewE2 C 0 (mVar 5))))
    (ρf := fun s => [.un, .dt (.str a), .dt (.str b), .dt (.lst ((S.sg a b).map .str)), .dt (.int (S.bits (S.sg a b))), .dt (.int (S.sl a b)), s, .un, .un])
    (fun s m => rfl) (fun s => rfl) (fun R m gR hm => by
      have lR := ix_lt gR.toOk hm
      have few := gR.few
      have n1 : RS.names ⟨putT R.tg m (S.sg a b), R.later⟩ = R.names := putT_names hm
      have em : m ∈ RS.names ⟨putT R.tg m (S.sg a b), R.later⟩ := by rw [n1]; exact hm
      have ei : RS.ix ⟨putT R.tg m (S.sg a b), R.later⟩ m = R.ix m := by unfold RS.ix; rw [n1]
      have v1 : viewE2 C 0 (mVar 6) R [.un, .dt (.str a), .dt (.str b), .dt (.lst ((S.sg a b).map .str)), .dt (.int (S.bits (S.sg a b))), .dt (.int (S.sl a b)), .dt (.str m), .un, .un] = some (.dt (.str m), [.un, .dt (.str a), .dt (.str b), .dt (.lst ((S.sg a b).map .str)), .dt (.int (S.bits (S.sg a b))), .dt (.int (S.sl a b)), .dt (.str m), .un, .un], R) := viewE2_eq rfl rfl
      have v2 : viewE2 C 0 (mCall listD (consA (mVar 3) (nilA))) R [.un, .dt (.str a), .dt (.str b), .dt (.lst ((S.sg a b).map .str)), .dt (.int (S.bits (S.sg a b))), .dt (.int (S.sl a b)), .dt (.str m), .un, .un] = some (.ol ((S.sg a b).map .str), [.un, .dt (.str a), .dt (.str b), .dt (.lst ((S.sg a b).map .str)), .dt (.int (S.bits (S.sg a b))), .dt (.int (S.sl a b)), .dt (.str m), .un, .un], R) :=
        viewE2_eq rfl (by simp only [atomS, List.all_map]; exact List.all_eq_true.mpr fun _ _ => rfl)
      rw [sq_val (putT_val v2 v1 rfl hm (by omega)) rfl]
      have v3 : viewE2 C 0 (dgetM (fldM C "numbers" (mVar 0)) (mVar 6)) ⟨putT R.tg m (S.sg a b), R.later⟩ [.un, .dt (.str a), .dt (.str b), .dt (.lst ((S.sg a b).map .str)), .dt (.int (S.bits (S.sg a b))), .dt (.int (S.sl a b)), .dt (.str m), .un, .un] = some (.dt (.int (R.ix m : Nat)), [.un, .dt (.str a), .dt (.str b), .dt (.lst ((S.sg a b).map .str)), .dt (.int (S.bits (S.sg a b))), .dt (.int (S.sl a b)), .dt (.str m), .un, .un], ⟨putT R.tg m (S.sg a b), R.later⟩) := by
        have h := ev_num (C := C) (R := ⟨putT R.tg m (S.sg a b), R.later⟩) (k := 6) (a := m) (ρ := [.dt (relD C ⟨putT R.tg m (S.sg a b), R.later⟩), .dt (.str a), .dt (.str b), .dt (.lst ((S.sg a b).map .str)), .dt (.int (S.bits (S.sg a b))), .dt (.int (S.sl a b)), .dt (.str m), .un, .un]) rfl rfl em
        rw [ei] at h
        exact viewE2_eq h rfl
      exact put_val (viewE2_eq rfl rfl) v3 rfl lR)
    nnl (by omega) (S.sg a b) S .un g2 r1 r1 rfl
  have gj := join_ok (S.sg a b) S (S.sg a b) (S.sl a b) g2 r1 nnl r1 (by omega)
  obtain ⟨s2, t2, L2⟩ := loop_enum (b := bTup 2 (bCons (bName 7) (bCons (bName 8) (bNil)))) (body := ifR 0 (viewT2 C 0 (toB (bin2 (bin2 (mVar 8) (mVar 4) andD) (mC (.int 0)) neM))) (putLR 0 (viewE2 C 0 (mVar 7)) (viewE2 C 0 (bin2 (bin2 (mVar 8) (mVar 4) orD) (mVar 5) orD))) (nxR))
    (ρf := fun s t => [.un, .dt (.str a), .dt (.str b), .dt (.lst ((S.sg a b).map .str)), .dt (.int (S.bits (S.sg a b))), .dt (.int (S.sl a b)), s1, s, t]) (g := fun _ x => RS.sameL (S.bits (S.sg a b)) (S.sl a b) x) (tg := (S.join (S.sg a b) (S.sl a b) (S.sg a b)).tg) (n := (S.join (S.sg a b) (S.sl a b) (S.sg a b)).later.length)
    (fun s t i x => by simp) (fun s t => rfl) (fun l i x hn hx => by
      have hi : i < l.length := (List.getElem?_eq_some_iff.mp hx).1
      have fz : frzAll [.un, .dt (.str a), .dt (.str b), .dt (.lst ((S.sg a b).map .str)), .dt (.int (S.bits (S.sg a b))), .dt (.int (S.sl a b)), s1, .dt (.int (i : Nat)), .dt (.int x)] = [.un, .dt (.str a), .dt (.str b), .dt (.lst ((S.sg a b).map .str)), .dt (.int (S.bits (S.sg a b))), .dt (.int (S.sl a b)), s1, .dt (.int (i : Nat)), .dt (.int x)] := by
        simp only [frzAll, List.map_cons, List.map_nil, z1]; rfl
      have V : ∀ {f : M Bool} {q : Bool}, f ([.dt (relD C ⟨(S.join (S.sg a b) (S.sl a b) (S.sg a b)).tg, l⟩), .dt (.str a), .dt (.str b), .dt (.lst ((S.sg a b).map .str)), .dt (.int (S.bits (S.sg a b))), .dt (.int (S.sl a b)), s1, .dt (.int (i : Nat)), .dt (.int x)]) = some (.val q [.dt (relD C ⟨(S.join (S.sg a b) (S.sl a b) (S.sg a b)).tg, l⟩), .dt (.str a), .dt (.str b), .dt (.lst ((S.sg a b).map .str)), .dt (.int (S.bits (S.sg a b))), .dt (.int (S.sl a b)), s1, .dt (.int (i : Nat)), .dt (.int x)]) →
          viewT2 C 0 f ⟨(S.join (S.sg a b) (S.sl a b) (S.sg a b)).tg, l⟩ [.un, .dt (.str a), .dt (.str b), .dt (.lst ((S.sg a b).map .str)), .dt (.int (S.bits (S.sg a b))), .dt (.int (S.sl a b)), s1, .dt (.int (i : Nat)), .dt (.int x)] = some (q, [.un, .dt (.str a), .dt (.str b), .dt (.lst ((S.sg a b).map .str)), .dt (.int (S.bits (S.sg a b))), .dt (.int (S.sl a b)), s1, .dt (.int (i : Nat)), .dt (.int x)], ⟨(S.join (S.sg a b) (S.sl a b) (S.sg a b)).tg, l⟩) := fun h => by
        have := viewT2_eq (C := C) (i := 0) (R := ⟨(S.join (S.sg a b) (S.sl a b) (S.sg a b)).tg, l⟩) (ρ := [.un, .dt (.str a), .dt (.str b), .dt (.lst ((S.sg a b).map .str)), .dt (.int (S.bits (S.sg a b))), .dt (.int (S.sl a b)), s1, .dt (.int (i : Nat)), .dt (.int x)]) (by rw [fz]; exact h)
        rw [fz] at this; exact this
      have U : ∀ {f : M Sl} {d : D}, atomS (.dt d) = true → f ([.dt (relD C ⟨(S.join (S.sg a b) (S.sl a b) (S.sg a b)).tg, l⟩), .dt (.str a), .dt (.str b), .dt (.lst ((S.sg a b).map .str)), .dt (.int (S.bits (S.sg a b))), .dt (.int (S.sl a b)), s1, .dt (.int (i : Nat)), .dt (.int x)]) = some (.val (.dt d) [.dt (relD C ⟨(S.join (S.sg a b) (S.sl a b) (S.sg a b)).tg, l⟩), .dt (.str a), .dt (.str b), .dt (.lst ((S.sg a b).map .str)), .dt (.int (S.bits (S.sg a b))), .dt (.int (S.sl a b)), s1, .dt (.int (i : Nat)), .dt (.int x)]) →
          viewE2 C 0 f ⟨(S.join (S.sg a b) (S.sl a b) (S.sg a b)).tg, l⟩ [.un, .dt (.str a), .dt (.str b), .dt (.lst ((S.sg a b).map .str)), .dt (.int (S.bits (S.sg a b))), .dt (.int (S.sl a b)), s1, .dt (.int (i : Nat)), .dt (.int x)] = some (.dt d, [.un, .dt (.str a), .dt (.str b), .dt (.lst ((S.sg a b).map .str)), .dt (.int (S.bits (S.sg a b))), .dt (.int (S.sl a b)), s1, .dt (.int (i : Nat)), .dt (.int x)], ⟨(S.join (S.sg a b) (S.sl a b) (S.sg a b)).tg, l⟩) := fun at_ h => by
        have := viewE2_eq (C := C) (i := 0) (R := ⟨(S.join (S.sg a b) (S.sl a b) (S.sg a b)).tg, l⟩) (ρ := [.un, .dt (.str a), .dt (.str b), .dt (.lst ((S.sg a b).map .str)), .dt (.int (S.bits (S.sg a b))), .dt (.int (S.sl a b)), s1, .dt (.int (i : Nat)), .dt (.int x)]) (by rw [fz]; exact h) at_
        rw [fz] at this; exact this
      rw [if_val (V (toB_val ((bin2_val ((bin2_val (var_val (d := .int x) rfl) (var_val (d := .int (S.bits (S.sg a b))) rfl)).trans rfl) rfl).trans rfl))) rfl]
      by_cases c : Builtin.bitAnd x (S.bits (S.sg a b)) = 0
      · have e0 : RS.sameL (S.bits (S.sg a b)) (S.sl a b) x = x := if_pos c
        rw [e0, set_self hx, decide_eq_true c]
        rfl
      · have e0 : RS.sameL (S.bits (S.sg a b)) (S.sl a b) x = Builtin.bitOr (Builtin.bitOr x (S.bits (S.sg a b))) (S.sl a b) := if_neg c
        rw [e0, decide_eq_false c]
        exact put_val (U rfl ((bin2_val ((bin2_val (var_val (d := .int x) rfl) (var_val (d := .int (S.bits (S.sg a b))) rfl)).trans rfl) (var_val (d := .int (S.sl a b)) rfl)).trans rfl)) (U rfl (var_val (d := .int (i : Nat)) rfl)) rfl hi)
    (S.join (S.sg a b) (S.sl a b) (S.sg a b)).later [] .un .un (by simp)
  simp only [List.length_nil, Nat.zero_add, List.nil_append] at L2
  unfold runR
  rw [if_pos ⟨rfl, by decide⟩]
  have start : ((Sl.un :: [D.str a, .str b].map Sl.dt) ++ List.replicate (9 - 3) Sl.un) = [.un, .dt (.str a), .dt (.str b), .un, .un, .un, .un, .un, .un] := rfl
  rw [start]
  unfold m_Relations_add_same
  rw [sq_val (dropM_val (one_arg (var_val (d := .str a) rfl)) e1) rfl, sq_val (dropM_val (one_arg (var_val (d := .str b) rfl)) e2) rfl]
  by_cases c : S.bf a b = true ∨ S.bf b a = true
  · have cb : (S.bf a b || S.bf b a) = true := by simpa using c
    rw [sq_rt (R' := S) (s := .dt (.bl false)) (ρ' := [.un, .dt (.str a), .dt (.str b), .un, .un, .un, .un, .un, .un]) (by rw [if_val B1 rfl, cb]; rfl), if_pos c]; rfl
  · have cb : (S.bf a b || S.bf b a) = false := by simpa using c
    rw [sq_val (i := 0) (R' := S) (ρ' := [.un, .dt (.str a), .dt (.str b), .un, .un, .un, .un, .un, .un]) (by rw [if_val B1 rfl, cb]; rfl) rfl,
      sq_val (i := 0) (R' := S) (ρ' := [.un, .dt (.str a), .dt (.str b), .ol ((S.sg a b).map .str), .un, .un, .un, .un, .un]) (set_val B2 (by simp)) rfl,
      sq_val (i := 0) (R' := S) (ρ' := [.un, .dt (.str a), .dt (.str b), .dt (.lst ((S.sg a b).map .str)), .dt (.int (S.bits (S.sg a b))), .un, .un, .un, .un]) (set_val B3 (by simp)) rfl,
      sq_val (i := 0) (R' := S) (ρ' := [.un, .dt (.str a), .dt (.str b), .dt (.lst ((S.sg a b).map .str)), .dt (.int (S.bits (S.sg a b))), .dt (.int (S.sl a b)), .un, .un, .un]) (set_val B4 (by simp)) rfl, if_neg c]
    rw [sq_val ((for_val (ρ' := [.un, .dt (.str a), .dt (.str b), .dt (.lst ((S.sg a b).map .str)), .dt (.int (S.bits (S.sg a b))), .dt (.int (S.sl a b)), .un, .un, .un]) (R' := S) (ds := (S.sg a b).map .str) rfl rfl).trans L1) rfl]
    rw [sq_val ((for_val (ρ' := [.un, .dt (.str a), .dt (.str b), .dt (.lst ((S.sg a b).map .str)), .dt (.int (S.bits (S.sg a b))), .dt (.int (S.sl a b)), s1, .un, .un]) (R' := S.join (S.sg a b) (S.sl a b) (S.sg a b)) (ds := enumL ((S.join (S.sg a b) (S.sl a b) (S.sg a b)).later.map .int)) rfl rfl).trans L2) rfl]
    rw [mapIdx_const]
    rfl
end BK

namespace BK
open PySem L2 BT
noncomputable def F_add_before : FR := fun R ds => match ds with
  | [.str a, .str b] => @ite _ (R.Good ∧ R.tg.length + 2 ≤ 63) (Classical.propDecidable _) (some (.bl (R.bef a b).1, (R.bef a b).2)) none
  | _ => none
noncomputable def F_add_same : FR := fun R ds => match ds with
  | [.str a, .str b] => @ite _ (R.Good ∧ R.tg.length + 2 ≤ 63) (Classical.propDecidable _) (some (.bl (R.same a b).1, (R.same a b).2)) none
  | _ => none
theorem F_add_before_eq {R : RS} {a b : Str} (g : R.Good) (h : R.tg.length + 2 ≤ 63) : F_add_before R [.str a, .str b] = some (.bl (R.bef a b).1, (R.bef a b).2) := if_pos ⟨g, h⟩
theorem F_add_same_eq {R : RS} {a b : Str} (g : R.Good) (h : R.tg.length + 2 ≤ 63) : F_add_same R [.str a, .str b] = some (.bl (R.same a b).1, (R.same a b).2) := if_pos ⟨g, h⟩
theorem F_add_before_le {C : Addr} (R : RS) (ds : List D) (x : D × RS) (h : F_add_before R ds = some x) : runR 7 3 (m_Relations_add_before C) R ds = some x := by
  unfold F_add_before at h
  split at h
  · split at h
    · rename_i c
      cases h
      exact eq_add_before c.1 (by omega)
    · cases h
  · cases h
theorem F_add_same_le {C : Addr} (R : RS) (ds : List D) (x : D × RS) (h : F_add_same R ds = some x) : runR 9 3 (m_Relations_add_same C) R ds = some x := by
  unfold F_add_same at h
  split at h
  · split at h
    · rename_i c
      cases h
      exact eq_add_same c.1 c.2
    · cases h
  · cases h
/-- a link -/
abbrev Lk := Option (Str × Str × Bool)
def lkD : Lk → D
  | none => .non
  | some (a, b, s) => .tup [.str a, .str b, .bl s]
def RS.link (R : RS) : Lk → Bool × RS
  | none => (true, R)
  | some (a, b, true) => R.bef a b
  | some (a, b, false) => R.same a b
noncomputable def F_add_link : FR := fun R ds => match ds with
  | [.non] => some (.bl true, R)
  | [.tup [.str a, .str b, .bl s]] => @ite _ (R.Good ∧ R.tg.length + 2 ≤ 63) (Classical.propDecidable _) (some (.bl (R.link (some (a, b, s))).1, (R.link (some (a, b, s))).2)) none
  | _ => none
end BK

namespace BK
open PySem L2 BT
section
variable {P : Program} {w : World} {K : PySem.W.Frag} {mg : Str → Option Value} {base : Heap} {C : Addr}
/-! ### Relations.add_link -/
noncomputable def m_Relations_add_link (C : Addr) : MR := sqR 0 (ifR 0 (viewT2 C 0 (toB (bin2 (mVar 1) (mC .non) (isNM false)))) (frmR 0 (retS (mC (.bl true)))) (nxR)) (sqR 0 (frmR 0 (asgG (bTup 3 (bCons (bName 2) (bCons (bName 3) (bCons (bName 4) (bNil))))) (mVar 1))) (sqR 0 (ifR 0 (viewT2 C 0 (toB (mVar 4))) (retR (methR F_add_before (consA (mVar 2) (consA (mVar 3) (nilA))))) (nxR)) (retR (methR F_add_same (consA (mVar 2) (consA (mVar 3) (nilA)))))))
theorem sc_Relations_add_link : FnScope ["self", "link", "low", "high", "is_strict"] ["self", "link"] (defScope (inClass (top 2) 6)) := ⟨rfl, rfl, rfl, by decide +kernel, rfl, by decide +kernel, by decide +kernel⟩
theorem run_Relations_add_link {f : Addr} {fd : FuncData} (F : Fun K "add_link" "Relations.add_link" (inClass (top 2) 6) f fd) (T : Tx K mg C) {f_add_before : Addr} {fd_add_before : FuncData} (G_add_before : FnOk P w K mg base CX0 2 f_add_before fd_add_before ["self", "one", "other"] (SpR K C F_add_before)) (b_add_before : Binds K fd_add_before ["self", "one", "other"] []) (m_add_before : Meth K C "add_before" f_add_before) {f_add_same : Addr} {fd_add_same : FuncData} (G_add_same : FnOk P w K mg base CX0 2 f_add_same fd_add_same ["self", "one", "other"] (SpR K C F_add_same)) (b_add_same : Binds K fd_add_same ["self", "one", "other"] []) (m_add_same : Meth K C "add_same" f_add_same) :
    FnOk P w K mg base CX0 3 f fd ["self", "link"] (SpR K C (runR 5 2 (m_Relations_add_link C))) := by
  have sc := sc_Relations_add_link
  refine okR F sc (fun cdv A outer s H E hr => ?_)
  have hu64 := hr.units
  have hu65 := room65 hr
  have hu1 := hu_of hr
  exact psr_cons (psr_if (ptr_view2 (fun pn hpn => pt_c op_isN od_isN (px_var (pv 1)) (px_non) (nomark _))) (psr_one (psr_frame (fun pn hpn => psx_ret (px_bl)))) (psr_nil)) (psr_cons (psr_frame (fun pn hpn => psx_asg (gb_tup (gbs_cons (gb_name (np hpn (by decide))) (gbs_cons (gb_name (np hpn (by decide))) (gbs_cons (gb_name (np hpn (by decide))) (gbs_nil))))) (pg_tup (by rfl) (pgs_cons (pg_name (i := 2) sc.nd rfl (by first | exact Or.inl rfl | exact Or.inr rfl)) (pgs_cons (pg_name (i := 3) sc.nd rfl (by first | exact Or.inl rfl | exact Or.inr rfl)) (pgs_cons (pg_name (i := 4) sc.nd rfl (by first | exact Or.inl rfl | exact Or.inr rfl)) (pgs_nil))))) (px_var (pv 1)))) (psr_cons (psr_if (ptr_view2 (fun pn hpn => pt_x (px_var (pv 4)))) (psr_one (psr_ret (per_meth (pv 0) T.cl m_add_before G_add_before (hr.mono (by decide)) b_add_before (fun pn hpn => pax_cons (px_var (pv 2)) (pax_cons (px_var (pv 3)) (pax_nil))) ⟨by decide +kernel, by decide +kernel, by decide +kernel⟩ (fun a b => pe_meth a T.cl m_add_before G_add_before (hr.mono (by decide)) b_add_before .nil pass0 b)))) (psr_nil)) (psr_one (psr_ret (per_meth (pv 0) T.cl m_add_same G_add_same (hr.mono (by decide)) b_add_same (fun pn hpn => pax_cons (px_var (pv 2)) (pax_cons (px_var (pv 3)) (pax_nil))) ⟨by decide +kernel, by decide +kernel, by decide +kernel⟩ (fun a b => pe_meth a T.cl m_add_same G_add_same (hr.mono (by decide)) b_add_same .nil pass0 b))))))
/-! ### check_tale -/
noncomputable def m_check_tale : MS := seqS (ifS (notT (toB (isiM "tuple" (mVar 0)))) (retS (mTup (consA (mC (.str "form")) (nilA)))) (nxS)) (seqS (forS (enumM (consA (mVar 0) (nilA))) (bTup 2 (bCons (bName 2) (bCons (bName 3) (bNil)))) (ifS (orT (notT (toB (callF F_is_sentence (consA (mVar 3) (nilA))))) (andT (toB (bin2 (mVar 2) (mC (.int 0)) eqM)) (toB (bin2 (bin2 (mVar 3) (mC (.int 0)) ixM) (mC (.str "at")) neM)))) (retS (mTup (consA (mC (.str "sentence")) (consA (mVar 2) (nilA))))) (nxS))) (mkS 1 (sqR 1 (forR 1 (frmI (enumM (consA (callF F_links_of (consA (mVar 0) (nilA))) (nilA)))) (bTup 2 (bCons (bName 2) (bCons (bName 4) (bNil)))) (sqR 1 (dropR (methR F_add (consA (bin2 (bin2 (mVar 0) (mVar 2) ixM) (mC (.int 1)) ixM) (nilA)))) (ifR 1 (notR (toBR (methR F_add_link (consA (mVar 4) (nilA))))) (frmR 1 (retS (mTup (consA (mC (.str "cycle")) (consA (mVar 2) (nilA)))))) (nxR)))) (frmR 1 (retS (mC .non))))))
theorem sc_check_tale : FnScope ["thing", "relations", "k", "sentence", "link"] ["thing"] (defScope (top 13)) := ⟨rfl, rfl, rfl, by decide +kernel, rfl, by decide +kernel, by decide +kernel⟩
theorem run_check_tale {f : Addr} {fd : FuncData} (F : Fun K "check_tale" "check_tale" (top 13) f fd) (T : Tx K mg C) {f_links_of : Addr} {fd_links_of : FuncData} (G_links_of : FnOk P w K mg base CX0 2 f_links_of fd_links_of ["sentences"] (fun vs H Q _ => SpF K (F_links_of) vs H Q E00)) (b_links_of : Binds K fd_links_of ["sentences"] []) {f_is_sentence : Addr} {fd_is_sentence : FuncData} (G_is_sentence : FnOk P w K mg base CX0 2 f_is_sentence fd_is_sentence ["thing"] (fun vs H Q _ => SpF K (F_is_sentence) vs H Q E00)) (b_is_sentence : Binds K fd_is_sentence ["thing"] []) {f_init : Addr} {fd_init : FuncData} (G_init : FnOk P w K mg base CX0 1 f_init fd_init ["self"] (SpInit K C)) (M_init : Mk K C f_init) (b_init : Binds K fd_init ["self"] []) (g_Relations : mg "Relations" = some (.ref C)) {f_add : Addr} {fd_add : FuncData} (G_add : FnOk P w K mg base CX0 1 f_add fd_add ["self", "moment"] (SpR K C F_add)) (b_add : Binds K fd_add ["self", "moment"] []) (m_add : Meth K C "add" f_add) {f_add_link : Addr} {fd_add_link : FuncData} (G_add_link : FnOk P w K mg base CX0 3 f_add_link fd_add_link ["self", "link"] (SpR K C F_add_link)) (b_add_link : Binds K fd_add_link ["self", "link"] []) (m_add_link : Meth K C "add_link" f_add_link) (g_links_of : mg "links_of" = some (.ref f_links_of)) (k_links_of : PySem.W.keepIn K (.ref f_links_of) = true) (g_is_sentence : mg "is_sentence" = some (.ref f_is_sentence)) (k_is_sentence : PySem.W.keepIn K (.ref f_is_sentence) = true) :
    FnOk P w K mg base CX0 4 f fd ["thing"] (fun vs H Q _ => SpF K (runB 5 1 [] m_check_tale) vs H Q E00) := by
  have sc := sc_check_tale
  refine okF [] F sc (fun pn cdv A outer s H E hpn hr => ?_)
  have hu64 := hr.units
  have hu65 := room65 hr
  have hu1 := hu_of hr
  exact psx_cons (psx_if (ptx_not (pt_x (px_isi kit_tuple (px_var (pv 0)) T.n_isinstance T.n_tuple (by decide +kernel)))) (psx_one (psx_ret (px_tup (pax_cons (px_str) (pax_nil))))) (psx_nil)) (psx_cons (psx_for PassesOwn.never rfl (pix_enum T.n_enumerate (pax_cons (px_var (pv 0)) (pax_nil))) (pg_tup (by rfl) (pgs_cons (pg_name (i := 2) sc.nd rfl (by first | exact Or.inl rfl | exact Or.inr rfl)) (pgs_cons (pg_name (i := 3) sc.nd rfl (by first | exact Or.inl rfl | exact Or.inr rfl)) (pgs_nil)))) (gb_tup (gbs_cons (gb_name (np hpn (by decide))) (gbs_cons (gb_name (np hpn (by decide))) (gbs_nil)))) (psx_one (psx_if ((pwx_or (ptx_not (pt_x (px_call G_is_sentence (hr.mono (by decide)) g_is_sentence k_is_sentence b_is_sentence (pax_cons (px_var (pv 3)) (pax_nil))))) (pw_or1 ((pwx_and (pt_c (op_eqs hu64) od_eq (px_var (pv 2)) (px_int) (nomark _)) (pw_and1 (pt_c (op_nes hu64) od_ne (px_ix ix_seq od_ix (px_var (pv 3)) (px_int) (fun _ _ => rfl)) (px_str) (nomark _)))).pt))).pt) (psx_one (psx_ret (px_tup (pax_cons (px_str) (pax_cons (px_var (pv 2)) (pax_nil)))))) (psx_nil)))) (psx_make (pnil hpn) M_init G_init (hr.mono (by decide)) g_Relations b_init sc.nd rfl (by first | exact Or.inl rfl | exact Or.inr rfl) (psr_cons (psr_for PassesOwn.never rfl (pir_frame (fun pn hpn => pix_enum T.n_enumerate (pax_cons (px_call G_links_of (hr.mono (by decide)) g_links_of k_links_of b_links_of (pax_cons (px_var (pv 0)) (pax_nil))) (pax_nil)))) (pg_tup (by rfl) (pgs_cons (pg_name (i := 2) sc.nd rfl (by first | exact Or.inl rfl | exact Or.inr rfl)) (pgs_cons (pg_name (i := 4) sc.nd rfl (by first | exact Or.inl rfl | exact Or.inr rfl)) (pgs_nil)))) (fun pn hpn => gb_tup (gbs_cons (gb_name (np hpn (by decide))) (gbs_cons (gb_name (np hpn (by decide))) (gbs_nil)))) (psr_cons (psr_expr (per_meth (pv 1) T.cl m_add G_add (hr.mono (by decide)) b_add (fun pn hpn => pax_cons (px_ix ix_seq od_ix (px_ix ix_seq od_ix (px_var (pv 0)) (px_var (pv 2)) (fun _ _ => rfl)) (px_int) (fun _ _ => rfl)) (pax_nil)) ⟨by decide +kernel, by decide +kernel, by decide +kernel⟩ (fun a b => pe_meth a T.cl m_add G_add (hr.mono (by decide)) b_add .nil pass0 b))) (psr_one (psr_if (ptr_not (ptr_x (per_meth (pv 1) T.cl m_add_link G_add_link (hr.mono (by decide)) b_add_link (fun pn hpn => pax_cons (px_var (pv 4)) (pax_nil)) ⟨by decide +kernel, by decide +kernel, by decide +kernel⟩ (fun a b => pe_meth a T.cl m_add_link G_add_link (hr.mono (by decide)) b_add_link .nil pass0 b)))) (psr_one (psr_frame (fun pn hpn => psx_ret (px_tup (pax_cons (px_str) (pax_cons (px_var (pv 2)) (pax_nil))))))) (psr_nil))))) (psr_one (psr_frame (fun pn hpn => psx_ret (px_non)))))))
end
end BK

namespace BK
open PySem L2 BT
theorem backA_dt (ρ : Rho) : ∀ (ds : List D) (i : Nat), backA i (ds.map .dt) ρ = ds.map .dt
  | [], _ => rfl
  | d :: ds, i => by simp [backA, Sl.isOl, backA_dt ρ ds]
theorem modeOk_dt : ∀ (ds : List D) (i : Nat), modeOk [] i (ds.map .dt) = true
  | [], _ => rfl
  | d :: ds, i => by simp [modeOk, Sl.isOl, modeOk_dt ds]
theorem runB_rt {n np : Nat} {m : MS} {ds : List D} {s : Sl} {ρ' : Rho} (h : m (ds.map .dt ++ List.replicate (n - np) .un) = some (.rt s ρ')) (hl : ds.length = np) (hn : np ≤ n) : runB n np [] m (ds.map .dt) = some (.val s (ds.map .dt)) := by
  unfold runB
  rw [if_pos ⟨by rw [List.length_map]; exact hl, hn, modeOk_dt ds 0⟩, h]
  simp only [backA_dt]
theorem seq_nx {f g : MS} {ρ ρ' : Rho} (h : f ρ = some (.nx ρ')) : seqS f g ρ = g ρ' := by simp only [seqS, h]
theorem seq_rt {f g : MS} {ρ ρ' : Rho} {s : Sl} (h : f ρ = some (.rt s ρ')) : seqS f g ρ = some (.rt s ρ') := by simp only [seqS, h]
theorem asg_val {i : Nat} {f : M Sl} {ρ ρ' : Rho} {s : Sl} (h : f ρ = some (.val s ρ')) (l : i < ρ'.length) : asgS i f ρ = some (.nx (ρ'.set i s)) := by simp only [asgS, bindES, h, l, if_true]
theorem ret_val {f : M Sl} {ρ ρ' : Rho} {s : Sl} (h : f ρ = some (.val s ρ')) : retS f ρ = some (.rt s ρ') := by simp only [retS, bindES, h]
theorem fors_val {src : M (List D)} {b : D → Rho → Option Rho} {body : MS} {ds : List D} {ρ ρ' : Rho} (h : src ρ = some (.val ds ρ')) : forS src b body ρ = loopS b body ds ρ' := by simp only [forS, bindES, h]
theorem ifs_val {t : M Bool} {f g : MS} {b : Bool} {ρ ρ' : Rho} (h : t ρ = some (.val b ρ')) : ifS t f g ρ = if b = true then f ρ' else g ρ' := by
  cases b <;> simp [ifS, bindES, h]
theorem stands_from {t : Tale} (h : startsAt t = true) (p : Str) : standsFrom p t = stands t := by
  cases t with
  | nil => rfl
  | cons x r =>
    obtain ⟨w, m⟩ := x
    have : moving w = true := decide_eq_true (.inl (of_decide_eq_true h))
    simp [standsFrom, stands, this]
theorem eq_stands_of (ds : List D) (s : Sl) (h : (match ds with | [d] => (match decQ d with | some t => if startsAt t = true ∧ t.length ≤ 1000 then some (Sl.ol ((stands t).map .str)) else none | none => none) | _ => none) = some s) :
    runB 4 1 [] m_stands_of (ds.map .dt) = some (.val s (ds.map .dt)) := by
  split at h
  · rename_i d
    split at h
    · rename_i t hd
      split at h
      · rename_i c
        cases h
        obtain ⟨x', y', L⟩ := loop_stands t (.dt d) [] (Str.ofString "") .un .un (.inr c.1) (by simpa using c.2)
        rw [stands_from c.1] at L
        have e : seqD (mVar 0) [.dt d, .ol [], .un, .un] = some (.val (t.map encS) [.dt d, .ol [], .un, .un]) := by
          rcases decQ_eq hd with rfl | rfl <;> simp
        refine runB_rt (ds := [d]) (ρ' := [.dt d, .un, x', y']) ?_ rfl (by decide)
        show m_stands_of [.dt d, .un, .un, .un] = _
        unfold bodySt at L
        unfold m_stands_of
        rw [seq_nx (ρ' := [.dt d, .ol [], .un, .un]) (asg_val (ρ' := [.dt d, .un, .un, .un]) rfl (by simp)), seq_nx ((fors_val e).trans L)]
        rfl
      · cases h
    · cases h
  · cases h
theorem F_stands_app {d : D} {t : Tale} (hd : decQ d = some t) (h : startsAt t = true) (hl : t.length ≤ 1000) : F_stands_of [.dt d] = some (.val (.ol ((stands t).map .str)) [.dt d]) := by
  simp [F_stands_of, pureF, hd, h, hl]
theorem F_link_app (s : D) (w m : Str) : F_link_of [.dt s, .dt (.tup [.str w, .str m])] = some (.val (.dt (linkOf s w m)) [.dt s, .dt (.tup [.str w, .str m])]) := by
  simp [F_link_of, pureF]
theorem links_get : ∀ (t : Tale) (p : Str) (pre : List D) , (t.mapIdx fun i x => linkOf ((pre ++ (D.str p :: (standsFrom p t).map .str)).getD (pre.length + i) .non) x.1 x.2) = linksFrom (.str p) t
  | [], _, _ => rfl
  | (w, m) :: t, p, pre => by
    have ih := links_get t (if moving w then m else p) (pre ++ [D.str p])
    simp only [List.mapIdx_cons, linksFrom, standsFrom]
    congr 1
    · congr 1
      simp
    · have e : (if moving w = true then D.str m else D.str p) = D.str (if moving w then m else p) := by split <;> rfl
      rw [e, ← ih]
      congr 1
      funext i x
      congr 1
      simp [List.append_assoc]
      rw [show pre.length + (i + 1) = pre.length + 1 + i by omega]
theorem links_eq {t : Tale} (h : startsAt t = true) : (t.mapIdx fun i x => linkOf ((D.non :: (stands t).map .str).getD i .non) x.1 x.2) = links t := by
  cases t with
  | nil => rfl
  | cons x r =>
    obtain ⟨w, m⟩ := x
    have mv : moving w = true := decide_eq_true (.inl (of_decide_eq_true h))
    have := links_get r m [D.non]
    simp only [List.mapIdx_cons, links, linksFrom, stands, mv, if_true]
    congr 1
    rw [← this]
    congr 1
    funext i x
    simp [Nat.add_comm 1 i]
theorem mapIdx_map' {α β γ : Type} (f : α → β) (g : Nat → β → γ) : ∀ l : List α, (l.map f).mapIdx g = l.mapIdx fun i x => g i (f x) := fun l => by
  apply List.ext_getElem?
  intro i
  simp [List.getElem?_mapIdx, Function.comp_def]
theorem stands_len (t : Tale) : (stands t).length = t.length := by
  have go : ∀ (t : Tale) (p : Str), (standsFrom p t).length = t.length := by
    intro t
    induction t with
    | nil => intro p; rfl
    | cons x t ih => intro p; obtain ⟨w, m⟩ := x; simp [standsFrom, ih]
  cases t with
  | nil => rfl
  | cons x t => simp [stands, go]
abbrev elLinks : M Sl := callF F_link_of (consA (bin2 (mVar 1) (mVar 2) ixM) (consA (mVar 3) (nilA)))
theorem el_links {d : D} {S : List D} {s1 : Sl} (h1 : s1 = .ol S ∨ s1 = .dt (.lst S)) {i : Nat} {p : D} (hp : S[i]? = some p) (x : Str × Str) :
    elLinks [.dt d, s1, .dt (.int (i : Nat)), .dt (encS x)] = some (.val (.dt (linkOf p x.1 x.2)) [.dt d, .dt (.lst S), .dt (.int (i : Nat)), .dt (encS x)]) := by
  have a1 : atI S ((i : Nat) : Int) = some p := atI_nat hp
  have e := F_link_app p x.1 x.2
  rcases h1 with rfl | rfl <;> simp [elLinks, callF, a1, encS, e]
theorem comp_links {d : D} {S : List D} : ∀ (t : Tale) (j : Nat) (acc : List D) (s1 : Sl), s1 = .ol S ∨ s1 = .dt (.lst S) → j + t.length ≤ S.length → acc.length + t.length ≤ 1000 → ∃ s1', (s1' = .ol S ∨ s1' = .dt (.lst S)) ∧
    compL (bTup 2 (bCons (bName 2) (bCons (bName 3) (bNil)))) yesT elLinks [2, 3] ((t.map encS).mapIdx fun i d => .tup [.int ((j + i : Nat)), d]) acc [.dt d, s1, .un, .un] = some (acc ++ t.mapIdx (fun i x => linkOf (S.getD (j + i) .non) x.1 x.2), [.dt d, s1', .un, .un])
  | [], j, acc, s1, h, _, _ => ⟨s1, h, by simp [compL]⟩
  | x :: t, j, acc, s1, h, hl, ha => by
    simp only [List.length_cons] at hl ha
    have hj : j < S.length := by omega
    have e := el_links (d := d) h (List.getElem?_eq_getElem hj) x
    obtain ⟨s1', h', ih⟩ := comp_links t (j + 1) (acc ++ [linkOf S[j] x.1 x.2]) (.dt (.lst S)) (.inr rfl) (by omega) (by simp; omega)
    refine ⟨s1', h', ?_⟩
    have big : acc.length < sizeLine := line_lt (by omega)
    have e2 : (fun (i : Nat) (d : D) => D.tup [.int ((j + 1 + i : Nat)), d]) = fun (i : Nat) (d : D) => D.tup [.int ((j + (i + 1) : Nat)), d] := by
      funext i d; rw [show j + 1 + i = j + (i + 1) by omega]
    have e3 : (fun (i : Nat) (x : Str × Str) => linkOf (S.getD (j + 1 + i) .non) x.1 x.2) = fun i x => linkOf (S.getD (j + (i + 1)) .non) x.1 x.2 := by
      funext i x; rw [show j + 1 + i = j + (i + 1) by omega]
    rw [e2, e3] at ih
    have hb : bTup 2 (bCons (bName 2) (bCons (bName 3) (bNil))) (.tup [.int ((j : Nat)), encS x]) [.dt d, s1, .un, .un] = some [.dt d, s1, .dt (.int ((j : Nat))), .dt (encS x)] := by simp
    simp only [List.map_cons, List.mapIdx_cons, Nat.add_zero, compL, hb, yesT, e, Sl.frz]
    rw [if_pos ⟨big, by simp⟩]
    have hw : wipeR [.dt d, .dt (.lst S), .dt (.int ((j : Nat))), .dt (encS x)] [2, 3] = [.dt d, .dt (.lst S), .un, .un] := by simp
    rw [hw, ih]
    have g : S.getD j .non = S[j] := by rw [List.getD_eq_getElem?_getD, List.getElem?_eq_getElem hj]; rfl
    rw [List.append_assoc, List.singleton_append, g]
theorem eq_links_of (ds : List D) (s : Sl) (h : (match ds with | [d] => (match decQ d with | some t => if startsAt t = true ∧ t.length ≤ 1000 then some (Sl.ol (links t)) else none | none => none) | _ => none) = some s) :
    runB 4 1 [] m_links_of (ds.map .dt) = some (.val s (ds.map .dt)) := by
  split at h
  · rename_i d
    split at h
    · rename_i t hd
      split at h
      · rename_i c
        cases h
        have big : 2000 ≤ sizeLine := by rw [sizeLine_eq]; decide
        have e0 : bin2 (mLst (consA (mC .non) (nilA))) (callF F_stands_of (consA (mVar 0) (nilA))) addD [.dt d, .un, .un, .un] = some (.val (.ol (D.non :: (stands t).map .str)) [.dt d, .un, .un, .un]) := by
          have z : 1 + t.length ≤ sizeLine := by omega
          have z1 : 1 ≤ sizeLine := by omega
          simp [callF, F_stands_app hd c.1 c.2, z1, stands_len, z]
        have e1 : enumM (consA (mVar 0) (nilA)) [.dt d, .ol (D.non :: (stands t).map .str), .un, .un] = some (.val (enumL (t.map encS)) [.dt d, .ol (D.non :: (stands t).map .str), .un, .un]) := by
          rcases decQ_eq hd with rfl | rfl <;> simp
        obtain ⟨s1', h1', L⟩ := comp_links (d := d) (S := D.non :: (stands t).map .str) t 0 [] (.ol (D.non :: (stands t).map .str)) (.inl rfl) (by simp [stands_len]) (by simpa using c.2)
        simp only [Nat.zero_add, List.nil_append] at L
        rw [links_eq c.1] at L
        refine runB_rt (ds := [d]) (ρ' := [.dt d, s1', .un, .un]) ?_ rfl (by decide)
        show m_links_of [.dt d, .un, .un, .un] = _
        unfold m_links_of
        rw [seq_nx (ρ' := [.dt d, .ol (D.non :: (stands t).map .str), .un, .un]) (asg_val e0 (by simp))]
        refine ret_val ?_
        have hw : wipeR [Sl.dt d, .ol (D.non :: (stands t).map .str), .un, .un] [2, 3] = [.dt d, .ol (D.non :: (stands t).map .str), .un, .un] := by simp
        have hr : restR [Sl.dt d, .ol (D.non :: (stands t).map .str), .un, .un] [.dt d, s1', .un, .un] [2, 3] = [.dt d, s1', .un, .un] := by simp
        have hn : noOl [Sl.dt d, .ol (D.non :: (stands t).map .str), .un, .un] [2, 3] = true := by simp
        simp only [mComp, bindM, e1, hn, if_true, hw]
        have L' : compL (bTup 2 (bCons (bName 2) (bCons (bName 3) bNil))) yesT elLinks [2, 3] (enumL (t.map encS)) [] [.dt d, .ol (D.non :: (stands t).map .str), .un, .un] = some (links t, [.dt d, s1', .un, .un]) := L
        rw [L']
        simp only [hr]
      · cases h
    · cases h
  · cases h
end BK

namespace BK
open PySem L2 BT
theorem F_add_link_le {C : Addr} (R : RS) (ds : List D) (x : D × RS) (h : F_add_link R ds = some x) : runR 5 2 (m_Relations_add_link C) R ds = some x := by
  unfold F_add_link at h
  split at h
  · cases h
    unfold runR
    rw [if_pos ⟨rfl, by decide⟩]
    show (match m_Relations_add_link C R [.un, .dt .non, .un, .un, .un] with | some (.nx _, R') => some (D.non, R') | some (.rt s _, R') => (match s.frz with | some d => some (d, R') | none => none) | _ => none) = _
    unfold m_Relations_add_link
    have V : viewT2 C 0 (toB (bin2 (mVar 1) (mC .non) (isNM false))) R [.un, .dt .non, .un, .un, .un] = some (true, [.un, .dt .non, .un, .un, .un], R) := viewT2_eq (toB_val ((bin2_val (var_val (d := .non) rfl) rfl).trans rfl))
    rw [sq_rt (R' := R) (s := .dt (.bl true)) (ρ' := [.un, .dt .non, .un, .un, .un]) (by rw [if_val V rfl]; rfl)]
    rfl
  · rename_i a b s
    split at h
    · rename_i c
      cases h
      unfold runR
      rw [if_pos ⟨rfl, by decide⟩]
      show (match m_Relations_add_link C R [.un, .dt (.tup [.str a, .str b, .bl s]), .un, .un, .un] with | some (.nx _, R') => some (D.non, R') | some (.rt s _, R') => (match s.frz with | some d => some (d, R') | none => none) | _ => none) = _
      unfold m_Relations_add_link
      have V : viewT2 C 0 (toB (bin2 (mVar 1) (mC .non) (isNM false))) R [.un, .dt (.tup [.str a, .str b, .bl s]), .un, .un, .un] = some (false, [.un, .dt (.tup [.str a, .str b, .bl s]), .un, .un, .un], R) := viewT2_eq (toB_val ((bin2_val (var_val (d := .tup [.str a, .str b, .bl s]) rfl) rfl).trans rfl))
      have A : frmR 0 (asgG (bTup 3 (bCons (bName 2) (bCons (bName 3) (bCons (bName 4) (bNil))))) (mVar 1)) R [.un, .dt (.tup [.str a, .str b, .bl s]), .un, .un, .un] = some (.nx [.un, .dt (.tup [.str a, .str b, .bl s]), .dt (.str a), .dt (.str b), .dt (.bl s)], R) := by
        unfold frmR
        simp [unAt, isUn]
      have V2 : viewT2 C 0 (toB (mVar 4)) R [.un, .dt (.tup [.str a, .str b, .bl s]), .dt (.str a), .dt (.str b), .dt (.bl s)] = some (s, [.un, .dt (.tup [.str a, .str b, .bl s]), .dt (.str a), .dt (.str b), .dt (.bl s)], R) := viewT2_eq (toB_val (var_val (d := .bl s) rfl))
      have args : consA (mVar 2) (consA (mVar 3) nilA) [.un, .dt (.tup [.str a, .str b, .bl s]), .dt (.str a), .dt (.str b), .dt (.bl s)] = some (.val [.str a, .str b] [.un, .dt (.tup [.str a, .str b, .bl s]), .dt (.str a), .dt (.str b), .dt (.bl s)]) := by simp
      rw [sq_val (i := 0) (R' := R) (ρ' := [.un, .dt (.tup [.str a, .str b, .bl s]), .un, .un, .un]) (by rw [if_val V rfl]; rfl) rfl, sq_val A rfl]
      cases s with
      | true =>
        have M : retR (methR F_add_before (consA (mVar 2) (consA (mVar 3) nilA))) R [.un, .dt (.tup [.str a, .str b, .bl true]), .dt (.str a), .dt (.str b), .dt (.bl true)] = some (.rt (.dt (.bl (R.bef a b).1)) [.un, .dt (.tup [.str a, .str b, .bl true]), .dt (.str a), .dt (.str b), .dt (.bl true)], (R.bef a b).2) := by
          simp only [retR, methR, args, F_add_before_eq c.1 c.2]
        rw [sq_rt ((if_val V2 rfl).trans ((if_pos rfl).trans M))]
        rfl
      | false =>
        have M : retR (methR F_add_same (consA (mVar 2) (consA (mVar 3) nilA))) R [.un, .dt (.tup [.str a, .str b, .bl false]), .dt (.str a), .dt (.str b), .dt (.bl false)] = some (.rt (.dt (.bl (R.same a b).1)) [.un, .dt (.tup [.str a, .str b, .bl false]), .dt (.str a), .dt (.str b), .dt (.bl false)], (R.same a b).2) := by
          simp only [retR, methR, args, F_add_same_eq c.1 c.2]
        rw [sq_val (R' := R) (ρ' := [.un, .dt (.tup [.str a, .str b, .bl false]), .dt (.str a), .dt (.str b), .dt (.bl false)]) ((if_val V2 rfl).trans (if_neg (by decide))) rfl, M]
        rfl
    · cases h
  · cases h

/-! ### the check -/
def lkOf (p w m : Str) : Lk := if ("then" : Str) = w ∨ ("later" : Str) = w then some (p, m, true) else if ("back" : Str) = w ∨ ("earlier" : Str) = w then some (m, p, true) else if w = "with" then some (p, m, false) else none
def lks : Str → Tale → List Lk
  | _, [] => []
  | p, (w, m) :: r => lkOf p w m :: lks (if moving w then m else p) r
theorem lkOf_D (p w m : Str) : lkD (lkOf p w m) = linkOf (.str p) w m := by
  unfold lkOf linkOf
  split
  · rfl
  · split
    · rfl
    · split <;> rfl
theorem linksFrom_lks : ∀ (t : Tale) (p : Str), linksFrom (.str p) t = (lks p t).map lkD
  | [], _ => rfl
  | (w, m) :: t, p => by
    have e : (if moving w = true then D.str m else D.str p) = D.str (if moving w then m else p) := by split <;> rfl
    simp only [linksFrom, lks, List.map_cons, lkOf_D, e, linksFrom_lks t]
theorem at_ne : ¬ (("then" : Str) = "at" ∨ ("later" : Str) = "at") ∧ ¬ (("back" : Str) = "at" ∨ ("earlier" : Str) = "at") ∧ ¬ ("at" : Str) = "with" := by decide +kernel
theorem links_lks {t : Tale} (h : startsAt t = true) (p : Str) : links t = (lks p t).map lkD := by
  cases t with
  | nil => rfl
  | cons x r =>
    obtain ⟨w, m⟩ := x
    have e : Str.ofString "at" = w := of_decide_eq_true h
    subst e
    have mv : moving (Str.ofString "at") = true := decide_eq_true (.inl rfl)
    obtain ⟨n1, n2, n3⟩ := at_ne
    simp only [links, linksFrom, lks, mv, if_true, List.map_cons, linksFrom_lks]
    unfold linkOf lkOf
    rw [if_neg n1, if_neg n2, if_neg n3, if_neg n1, if_neg n2, if_neg n3]
    rfl
/-- the first place at which the object says no -/
def chk : RS → Nat → Str → Tale → Option Nat
  | _, _, _, [] => none
  | R, k, p, (w, m) :: r => if ((R.add m).link (lkOf p w m)).1 = true then chk ((R.add m).link (lkOf p w m)).2 (k + 1) (if moving w then m else p) r else some k
def isAt (x : D) : Bool := match x with | .tup (.str w :: _) => decide (("at" : Str) = w) | _ => false
def badAt : Nat → List D → Option Nat
  | _, [] => none
  | k, x :: r => if (isSentence x && (decide (k ≠ 0) || isAt x)) = true then badAt (k + 1) r else some k
def cntM (t : Tale) : Nat := (BS.sd (t.map (·.2))).length
def okC (d : D) : Bool := match d with
  | .tup xs => decide (xs.length ≤ 1000) && xs.all shortP && (match decL xs with | some t => decide (cntM t ≤ 61) | none => true)
  | .ins _ _ => false
  | _ => true
def cycV : Option Nat → D | none => .non | some k => .tup [.str "cycle", .int (k : Nat)]
def checkV (d : D) : D := match d with
  | .tup xs => (match badAt 0 xs with | some k => .tup [.str "sentence", .int (k : Nat)] | none => (match decL xs with | some t => cycV (chk RS.nil 0 "" t) | none => .non))
  | _ => .tup [.str "form"]
def F_check_tale : Fn := pureF fun ds => match ds with | [d] => if okC d = true then some (.dt (checkV d)) else none | _ => none
theorem sentence_shape {x : D} (h : isSentence x = true) : ∃ w m, x = encS (w, m) ∧ isWord (.str w) = true ∧ isName (.str m) = true := by
  unfold isSentence at h
  split at h
  · rename_i a b
    simp only [Bool.and_eq_true] at h
    obtain ⟨h1, h2⟩ := h
    cases a with
    | str w =>
      cases b with
      | str m => exact ⟨w, m, rfl, h1, h2⟩
      | _ => cases h2
    | _ => cases h1
  · cases h
theorem badAt_none : ∀ {xs : List D} {k : Nat}, badAt k xs = none → ∃ t, decL xs = some t ∧ (k = 0 → startsAt t = true)
  | [], _, _ => ⟨[], rfl, fun _ => rfl⟩
  | x :: xs, k, h => by
    unfold badAt at h
    split at h
    · rename_i c
      simp only [Bool.and_eq_true, Bool.or_eq_true, decide_eq_true_eq] at c
      obtain ⟨w, m, rfl, _, _⟩ := sentence_shape c.1
      obtain ⟨t, ht, _⟩ := badAt_none h
      refine ⟨(w, m) :: t, by simp [decL, decS, encS, ht], fun z => ?_⟩
      rcases c.2 with q | q
      · exact absurd z q
      · exact q
    · cases h
theorem F_sentence_app {d : D} (h : shortP d = true) : F_is_sentence [.dt d] = some (.val (.dt (.bl (isSentence d))) [.dt d]) := by simp [F_is_sentence, pureF, h]
abbrev bodyC : MS := ifS (orT (notT (toB (callF F_is_sentence (consA (mVar 3) (nilA))))) (andT (toB (bin2 (mVar 2) (mC (.int 0)) eqM)) (toB (bin2 (bin2 (mVar 3) (mC (.int 0)) ixM) (mC (.str "at")) neM)))) (retS (mTup (consA (mC (.str "sentence")) (consA (mVar 2) (nilA))))) (nxS)
theorem body_c (d : D) (i : Nat) (x : D) (hx : shortP x = true) : bodyC [.dt d, .un, .dt (.int (i : Nat)), .dt x, .un] = if (isSentence x && (decide (i ≠ 0) || isAt x)) = true then some (.nx [.dt d, .un, .dt (.int (i : Nat)), .dt x, .un]) else some (.rt (.dt (.tup [.str "sentence", .int (i : Nat)])) [.dt d, .un, .dt (.int (i : Nat)), .dt x, .un]) := by
  have z2 : 2 ≤ sizeLine := line_big (by decide)
  have e := F_sentence_app hx
  cases c : isSentence x with
  | false =>
    rw [c] at e
    simp [callF, e, z2]
  | true =>
    rw [c] at e
    obtain ⟨w, m, rfl, _, _⟩ := sentence_shape c
    simp only [encS] at e c ⊢
    by_cases i0 : i = 0
    · subst i0
      by_cases cw : Str.ofString "at" = w
      · subst cw
        simp [callF, e, c, z2, isAt, atI, ixN]
      · have cw' : ¬ w = Str.ofString "at" := fun q => cw q.symm
        simp [callF, e, c, z2, isAt, atI, ixN, cw, cw']
    · have i1 : ¬ ((i : Int) = 0) := by omega
      simp [callF, e, c, z2, i0, i1]
theorem loop_c (d : D) : ∀ (xs : List D) (k : Nat) (s t : Sl), (∀ x ∈ xs, shortP x = true) → ∃ s' t', loopS (bTup 2 (bCons (bName 2) (bCons (bName 3) (bNil)))) bodyC (xs.mapIdx fun i d => .tup [.int ((k + i : Nat)), d]) [.dt d, .un, s, t, .un] =
    match badAt k xs with | some k => some (.rt (.dt (.tup [.str "sentence", .int (k : Nat)])) [.dt d, .un, s', t', .un]) | none => some (.nx [.dt d, .un, s', t', .un])
  | [], k, s, t, _ => ⟨s, t, rfl⟩
  | x :: xs, k, s, t, h => by
    have hx := h x (by simp)
    have e := body_c d k x hx
    obtain ⟨s', t', ih⟩ := loop_c d xs (k + 1) (.dt (.int (k : Nat))) (.dt x) (fun y hy => h y (by simp [hy]))
    have e2 : (fun (i : Nat) (d : D) => D.tup [.int ((k + 1 + i : Nat)), d]) = fun (i : Nat) (d : D) => D.tup [.int ((k + (i + 1) : Nat)), d] := by
      funext i d; rw [show k + 1 + i = k + (i + 1) by omega]
    rw [e2] at ih
    have hb : bTup 2 (bCons (bName 2) (bCons (bName 3) (bNil))) (.tup [.int ((k : Nat)), x]) [.dt d, .un, s, t, .un] = some [.dt d, .un, .dt (.int (k : Nat)), .dt x, .un] := by simp
    simp only [List.mapIdx_cons, Nat.add_zero, loopS, hb, badAt]
    rw [e]
    by_cases c : (isSentence x && (decide (k ≠ 0) || isAt x)) = true
    · refine ⟨s', t', ?_⟩
      simp only [if_pos c]
      exact ih
    · refine ⟨.dt (.int (k : Nat)), .dt x, ?_⟩
      simp only [if_neg c]
end BK

namespace BK
open PySem L2 BT
theorem bits_nn (R : RS) : ∀ g : List Str, 0 ≤ R.bits g
  | [] => by simp [RS.bits]
  | x :: g => by
    have ih := bits_nn R g
    unfold RS.bits at ih ⊢
    rw [List.map_cons, List.sum_cons]
    have : (0 : Int) ≤ 2 ^ R.ix x := Int.pow_nonneg (by decide)
    omega
theorem add2_good {R : RS} (g : R.Good) (h : R.tg.length + 2 ≤ 63) (a b : Str) : (R.add2 a b).Good := (g.add (by omega) a).add (by have := add_len R a; omega) b
theorem bef_good {R : RS} (g : R.Good) (h : R.tg.length + 2 ≤ 63) (a b : Str) : (R.bef a b).2.Good ∧ (R.bef a b).2.names = (R.add2 a b).names := by
  have g2 := add2_good g h a b
  have hb : b ∈ (R.add2 a b).names := mem_add
  unfold RS.bef
  split
  · exact ⟨g2, rfl⟩
  · refine ⟨⟨⟨by simp [g2.len], fun x hx => ?_, g2.nd, g2.few⟩, g2.gin, g2.gle⟩, rfl⟩
    simp only [List.mem_mapIdx] at hx
    obtain ⟨i, hi, rfl⟩ := hx
    have n0 : 0 ≤ (R.add2 a b).later[i] := g2.nn _ (List.getElem_mem hi)
    unfold RS.befL
    split
    · exact n0
    · exact (bit_nn n0 (bit_nn (bits_nn _ _) (lt_nn g2 hb)).1).1
theorem same_good {R : RS} (g : R.Good) (h : R.tg.length + 2 ≤ 63) (a b : Str) : (R.same a b).2.Good ∧ (R.same a b).2.names = (R.add2 a b).names := by
  have g2 := add2_good g h a b
  have ha : a ∈ (R.add2 a b).names := mem_add_of mem_add
  have hb : b ∈ (R.add2 a b).names := mem_add
  have nnl : 0 ≤ (R.add2 a b).sl a b := (bit_nn (lt_nn g2 ha) (lt_nn g2 hb)).1
  have r1 := sg_in g2 ha hb
  have r2 := sg_len g2 ha hb
  unfold RS.same
  split
  · exact ⟨g2, rfl⟩
  · have few := g2.few
    have gj := join_ok ((R.add2 a b).sg a b) (R.add2 a b) ((R.add2 a b).sg a b) ((R.add2 a b).sl a b) g2 r1 nnl r1 (by omega)
    have en := join_names ((R.add2 a b).sg a b) (R.add2 a b) ((R.add2 a b).sg a b) ((R.add2 a b).sl a b) r1
    refine ⟨⟨⟨by simp [RS.tie, gj.len], fun x hx => ?_, gj.nd, gj.few⟩, gj.gin, gj.gle⟩, en⟩
    simp only [RS.tie, List.mem_map] at hx
    obtain ⟨y, hy, rfl⟩ := hx
    have n0 := gj.nn y hy
    unfold RS.sameL
    split
    · exact n0
    · exact (bit_nn (bit_nn n0 (bits_nn _ _)).1 nnl).1
theorem add_names (R : RS) (a : Str) : ∀ x ∈ (R.add a).names, x = a ∨ x ∈ R.names := fun x hx => by
  unfold RS.add at hx
  split at hx
  · exact .inr hx
  · simp only [RS.names, List.map_append, List.mem_append] at hx
    rcases hx with h | h
    · exact .inr h
    · simp at h; exact .inl h
theorem link_good {R : RS} (g : R.Good) (h : R.tg.length + 2 ≤ 63) : ∀ l : Lk, (R.link l).2.Good ∧ ∀ x ∈ (R.link l).2.names, x ∈ R.names ∨ ∃ a b s, l = some (a, b, s) ∧ (x = a ∨ x = b)
  | none => ⟨g, fun x hx => .inl hx⟩
  | some (a, b, true) => by
    obtain ⟨h1, h2⟩ := bef_good g h a b
    refine ⟨h1, fun x hx => ?_⟩
    have hx : x ∈ (R.bef a b).2.names := hx
    rw [h2] at hx
    rcases add_names _ b x hx with z | z
    · exact .inr ⟨a, b, true, rfl, .inr z⟩
    · rcases add_names _ a x z with z | z
      · exact .inr ⟨a, b, true, rfl, .inl z⟩
      · exact .inl z
  | some (a, b, false) => by
    obtain ⟨h1, h2⟩ := same_good g h a b
    refine ⟨h1, fun x hx => ?_⟩
    have hx : x ∈ (R.same a b).2.names := hx
    rw [h2] at hx
    rcases add_names _ b x hx with z | z
    · exact .inr ⟨a, b, false, rfl, .inr z⟩
    · rcases add_names _ a x z with z | z
      · exact .inr ⟨a, b, false, rfl, .inl z⟩
      · exact .inl z
theorem F_link_ok {R : RS} (g : R.Good) (h : R.tg.length + 2 ≤ 63) (l : Lk) : F_add_link R [lkD l] = some (.bl (R.link l).1, (R.link l).2) := by
  cases l with
  | none => rfl
  | some x =>
    obtain ⟨a, b, s⟩ := x
    show @ite _ _ (Classical.propDecidable _) _ _ = _
    rw [if_pos ⟨g, h⟩]
/-- names within M, few -/
structure Inn (M : List Str) (R : RS) : Prop where
  good : R.Good
  sub : ∀ x ∈ R.names, x ∈ M
theorem Inn.len {M : List Str} {R : RS} (i : Inn M R) (h : (BS.sd M).length ≤ 61) : R.tg.length ≤ 61 := by
  have := BS.len_of_sub i.good.nd (m := BS.sd M) fun x hx => BS.mem_sd.mpr (i.sub x hx)
  unfold RS.names at this
  rw [List.length_map] at this
  omega
theorem Inn.add {M : List Str} {R : RS} (i : Inn M R) (h : (BS.sd M).length ≤ 61) {m : Str} (hm : m ∈ M) : Inn M (R.add m) := ⟨i.good.add (by have := i.len h; omega) m, fun x hx => (add_names R m x hx).elim (fun z => z ▸ hm) (i.sub x)⟩
theorem Inn.link {M : List Str} {R : RS} (i : Inn M R) (h : (BS.sd M).length ≤ 61) {l : Lk} (hl : ∀ a b s, l = some (a, b, s) → a ∈ M ∧ b ∈ M) : Inn M (R.link l).2 := by
  obtain ⟨h1, h2⟩ := link_good i.good (by have := i.len h; omega) l
  refine ⟨h1, fun x hx => ?_⟩
  rcases h2 x hx with z | ⟨a, b, s, e, z⟩
  · exact i.sub x z
  · obtain ⟨ha, hb⟩ := hl a b s e
    rcases z with rfl | rfl
    · exact ha
    · exact hb
theorem lkOf_in {M : List Str} {p w m : Str} (hp : p ∈ M ∨ Str.ofString "at" = w) (hm : m ∈ M) : ∀ a b s, lkOf p w m = some (a, b, s) → a ∈ M ∧ b ∈ M := by
  intro a b s e
  have hp' : lkOf p w m ≠ none → p ∈ M := fun n => hp.elim id fun z => by
    subst z
    obtain ⟨n1, n2, n3⟩ := at_ne
    exact absurd (by unfold lkOf; rw [if_neg n1, if_neg n2, if_neg n3]) n
  have pm := hp' (by rw [e]; simp)
  unfold lkOf at e
  split at e
  · cases e; exact ⟨pm, hm⟩
  · split at e
    · cases e; exact ⟨hm, pm⟩
    · split at e
      · cases e; exact ⟨pm, hm⟩
      · cases e
noncomputable abbrev bodyK : MR := sqR 1 (dropR (methR F_add (consA (bin2 (bin2 (mVar 0) (mVar 2) ixM) (mC (.int 1)) ixM) (nilA)))) (ifR 1 (notR (toBR (methR F_add_link (consA (mVar 4) (nilA))))) (frmR 1 (retS (mTup (consA (mC (.str "cycle")) (consA (mVar 2) (nilA)))))) (nxR))
theorem body_k {M : List Str} {R : RS} {t0 : Tale} {j : Nat} {w m : Str} {l : Lk} {s : Sl} (i : Inn M R) (few : (BS.sd M).length ≤ 61) (hj : t0[j]? = some (w, m)) (hm : m ∈ M) :
    bodyK R [.dt (.tup (t0.map encS)), .un, .dt (.int (j : Nat)), s, .dt (lkD l)] =
      if ((R.add m).link l).1 = true then some (.nx [.dt (.tup (t0.map encS)), .un, .dt (.int (j : Nat)), s, .dt (lkD l)], ((R.add m).link l).2) else some (.rt (.dt (.tup [.str "cycle", .int (j : Nat)])) [.dt (.tup (t0.map encS)), .un, .dt (.int (j : Nat)), s, .dt (lkD l)], ((R.add m).link l).2) := by
  have il := i.len few
  have i1 := i.add few hm
  have il1 := i1.len few
  have big : 2 ≤ sizeLine := line_big (by decide)
  have a1 : atI (t0.map encS) ((j : Nat) : Int) = some (.tup [.str w, .str m]) := atI_nat (by rw [List.getElem?_map, hj]; rfl)
  have a2 : atI [D.str w, .str m] 1 = some (.str m) := rfl
  have e1 : consA (bin2 (bin2 (mVar 0) (mVar 2) ixM) (mC (.int 1)) ixM) nilA [.dt (.tup (t0.map encS)), .un, .dt (.int (j : Nat)), s, .dt (lkD l)] = some (.val [.str m] [.dt (.tup (t0.map encS)), .un, .dt (.int (j : Nat)), s, .dt (lkD l)]) := by
    simp [a1, a2]
  have e2 : F_add R [.str m] = some (.non, R.add m) := add_app i.good (by omega) m
  have e3 := F_link_ok i1.good (by omega) l
  have e4 : consA (mVar 4) nilA [.dt (.tup (t0.map encS)), .un, .dt (.int (j : Nat)), s, .dt (lkD l)] = some (.val [lkD l] [.dt (.tup (t0.map encS)), .un, .dt (.int (j : Nat)), s, .dt (lkD l)]) := one_arg rfl
  have e5 : notR (toBR (methR F_add_link (consA (mVar 4) (nilA)))) (R.add m) [.dt (.tup (t0.map encS)), .un, .dt (.int (j : Nat)), s, .dt (lkD l)] = some (!((R.add m).link l).1, [.dt (.tup (t0.map encS)), .un, .dt (.int (j : Nat)), s, .dt (lkD l)], ((R.add m).link l).2) := by
    simp only [notR, toBR, methR, e4, e3]
  unfold bodyK
  rw [sq_val (dropM_val e1 e2) rfl, if_val e5 rfl]
  cases ((R.add m).link l).1 with
  | true => rfl
  | false => simp [frmR, big]
theorem loop_k {M : List Str} {t0 : Tale} (few : (BS.sd M).length ≤ 61) : ∀ (t : Tale) (j : Nat) (R : RS) (p : Str) (s2 s3 s4 : Sl), Inn M R → (∀ i, t[i]? = t0[j + i]?) → (∀ x ∈ t, x.2 ∈ M) → (p ∈ M ∨ startsAt t = true) →
    ∃ ρ', (∃ a b c, ρ' = [.dt (.tup (t0.map encS)), .un, a, b, c]) ∧ ∃ R', loopR 1 (bTup 2 (bCons (bName 2) (bCons (bName 4) (bNil)))) bodyK (((lks p t).map lkD).mapIdx fun i d => .tup [.int ((j + i : Nat)), d]) R [.dt (.tup (t0.map encS)), .un, s2, s3, s4] =
      match chk R j p t with | some k => some (.rt (.dt (.tup [.str "cycle", .int (k : Nat)])) ρ', R') | none => some (.nx ρ', R')
  | [], j, R, p, s2, s3, s4, _, _, _, _ => ⟨_, ⟨s2, s3, s4, rfl⟩, R, rfl⟩
  | (w, m) :: t, j, R, p, s2, s3, s4, i, ht, hM, hp => by
    have hm : m ∈ M := hM (w, m) (by simp)
    have h0 : t0[j]? = some (w, m) := by have := ht 0; simpa using this.symm
    have hp' : p ∈ M ∨ Str.ofString "at" = w := hp.imp id fun h => of_decide_eq_true h
    have e := body_k (l := lkOf p w m) (s := s3) i few h0 hm
    have i2 := (i.add few hm).link few (lkOf_in hp' hm)
    have hb : bTup 2 (bCons (bName 2) (bCons (bName 4) (bNil))) (.tup [.int ((j : Nat)), lkD (lkOf p w m)]) [.dt (.tup (t0.map encS)), .un, s2, s3, s4] = some [.dt (.tup (t0.map encS)), .un, .dt (.int (j : Nat)), s3, .dt (lkD (lkOf p w m))] := by simp
    have e2 : (fun (i : Nat) (d : D) => D.tup [.int ((j + 1 + i : Nat)), d]) = fun (i : Nat) (d : D) => D.tup [.int ((j + (i + 1) : Nat)), d] := by
      funext i d; rw [show j + 1 + i = j + (i + 1) by omega]
    have np : (if moving w then m else p) ∈ M := by
      by_cases c : moving w = true
      · rw [if_pos c]; exact hm
      · rw [if_neg c]
        rcases hp' with h | h
        · exact h
        · exact absurd (decide_eq_true (.inl h)) c
    obtain ⟨ρ', hρ, R', ih⟩ := loop_k few t (j + 1) ((R.add m).link (lkOf p w m)).2 (if moving w then m else p) (.dt (.int (j : Nat))) s3 (.dt (lkD (lkOf p w m))) i2 (fun i => by have := ht (i + 1); rw [show j + 1 + i = j + (i + 1) by omega]; simpa using this) (fun x hx => hM x (by simp [hx])) (.inl np)
    rw [e2] at ih
    simp only [lks, List.map_cons, List.mapIdx_cons, Nat.add_zero, loopR, hb, chk]
    have u : unAt 1 [.dt (.tup (t0.map encS)), .un, .dt (.int (j : Nat)), s3, .dt (lkD (lkOf p w m))] = true := rfl
    simp only [u, if_true]
    rw [e]
    by_cases c : ((R.add m).link (lkOf p w m)).1 = true
    · refine ⟨ρ', hρ, R', ?_⟩
      simp only [if_pos c, u, if_true]
      exact ih
    · refine ⟨[.dt (.tup (t0.map encS)), .un, .dt (.int (j : Nat)), s3, .dt (lkD (lkOf p w m))], ⟨_, _, _, rfl⟩, ((R.add m).link (lkOf p w m)).2, ?_⟩
      simp only [if_neg c]
theorem nil_good : RS.nil.Good where
  len := rfl
  nn := fun x hx => by cases hx
  nd := List.nodup_nil
  few := Nat.zero_le _
  gin := fun x hx => by cases hx
  gle := fun x hx => by cases hx
theorem F_links_app {t : Tale} (h : startsAt t = true) (hl : t.length ≤ 1000) : F_links_of [.dt (.tup (t.map encS))] = some (.val (.ol (links t)) [.dt (.tup (t.map encS))]) := by
  simp [F_links_of, pureF, decQ, decL_map, h, hl]
theorem eq_check_tale (ds : List D) (s : Sl) (h : (match ds with | [d] => if okC d = true then some (Sl.dt (checkV d)) else none | _ => none) = some s) : runB 5 1 [] m_check_tale (ds.map .dt) = some (.val s (ds.map .dt)) := by
  split at h
  rotate_left
  · cases h
  rename_i d
  split at h
  rotate_left
  · cases h
  rename_i ok
  cases h
  have one : 1 ≤ sizeLine := line_big (by decide)
  have other : ∀ d : D, isiM "tuple" (mVar 0) [.dt d, .un, .un, .un, .un] = some (.val (.dt (.bl false)) [.dt d, .un, .un, .un, .un]) → checkV d = .tup [.str "form"] → runB 5 1 [] m_check_tale ([d].map .dt) = some (.val (.dt (checkV d)) ([d].map .dt)) := fun d hi hv => by
    refine runB_rt (ds := [d]) (ρ' := [.dt d, .un, .un, .un, .un]) ?_ rfl (by decide)
    show m_check_tale [.dt d, .un, .un, .un, .un] = _
    have T : notT (toB (isiM "tuple" (mVar 0))) [.dt d, .un, .un, .un, .un] = some (.val true [.dt d, .un, .un, .un, .un]) := by
      have := toB_val hi
      simp only [notT, bindM, this]; rfl
    unfold m_check_tale
    rw [seq_rt (ρ' := [.dt d, .un, .un, .un, .un]) (s := .dt (.tup [.str "form"])) ((ifs_val T).trans (by simp [one])), hv]
  cases d with
  | ins _ _ => cases ok
  | tup xs =>
    simp only [okC, Bool.and_eq_true, decide_eq_true_eq, List.all_eq_true] at ok
    obtain ⟨⟨o1, o2⟩, o3⟩ := ok
    have T : notT (toB (isiM "tuple" (mVar 0))) [.dt (.tup xs), .un, .un, .un, .un] = some (.val false [.dt (.tup xs), .un, .un, .un, .un]) := by simp
    have src : enumM (consA (mVar 0) nilA) [.dt (.tup xs), .un, .un, .un, .un] = some (.val (enumL xs) [.dt (.tup xs), .un, .un, .un, .un]) := by simp
    obtain ⟨s', t', L⟩ := loop_c (.tup xs) xs 0 .un .un o2
    simp only [Nat.zero_add] at L
    have start : m_check_tale ([Sl.dt (D.tup xs)] ++ List.replicate 4 .un) = m_check_tale [.dt (.tup xs), .un, .un, .un, .un] := rfl
    cases b : badAt 0 xs with
    | some k =>
      rw [b] at L
      have ev : checkV (.tup xs) = .tup [.str "sentence", .int (k : Nat)] := by simp only [checkV, b]
      rw [ev]
      refine runB_rt (ds := [.tup xs]) (ρ' := [.dt (.tup xs), .un, s', t', .un]) (start.trans ?_) rfl (by decide)
      unfold m_check_tale
      rw [seq_nx (ρ' := [.dt (.tup xs), .un, .un, .un, .un]) ((ifs_val T).trans rfl), seq_rt ((fors_val src).trans L)]
    | none =>
      rw [b] at L
      obtain ⟨t, ht, hs⟩ := badAt_none b
      have hs := hs rfl
      have ev : checkV (.tup xs) = cycV (chk RS.nil 0 "" t) := by simp only [checkV, b, ht]
      rw [ev]
      have ex := decL_eq ht
      subst ex
      rw [ht] at o3
      have few : (BS.sd (t.map (·.2))).length ≤ 61 := of_decide_eq_true o3
      have lt : t.length ≤ 1000 := by simpa using o1
      obtain ⟨ρ', ⟨a, b', c, hρ⟩, R', K⟩ := loop_k (M := t.map (·.2)) (t0 := t) few t 0 RS.nil (Str.ofString "") s' t' .un ⟨nil_good, fun x hx => by cases hx⟩ (fun i => by rw [Nat.zero_add]) (fun x hx => List.mem_map.mpr ⟨x, hx, rfl⟩) (.inr hs)
      simp only [Nat.zero_add] at K
      rw [← links_lks hs] at K
      have src2 : frmI (enumM (consA (callF F_links_of (consA (mVar 0) (nilA))) (nilA))) RS.nil [.dt (.tup (t.map encS)), .un, s', t', .un] = some (enumL (links t), [.dt (.tup (t.map encS)), .un, s', t', .un], RS.nil) := by
        have := F_links_app hs lt
        simp [frmI, callF, this]
      refine runB_rt (ds := [.tup (t.map encS)]) (ρ' := ρ') (start.trans ?_) rfl (by decide)
      unfold m_check_tale
      rw [seq_nx (ρ' := [.dt (.tup (t.map encS)), .un, .un, .un, .un]) ((ifs_val T).trans rfl), seq_nx ((fors_val src).trans L)]
      have U0 : unAt 1 [Sl.dt (D.tup (List.map encS t)), Sl.un, s', t', Sl.un] = true := rfl
      simp only [mkS, U0, if_true]
      have U : unAt 1 ρ' = true := by rw [hρ]; rfl
      cases e : chk RS.nil 0 (Str.ofString "") t with
      | none =>
        rw [e] at K
        have K2 : forR 1 (frmI (enumM (consA (callF F_links_of (consA (mVar 0) (nilA))) (nilA)))) (bTup 2 (bCons (bName 2) (bCons (bName 4) (bNil)))) bodyK RS.nil [.dt (.tup (t.map encS)), .un, s', t', .un] = some (.nx ρ', R') := (for_val src2 rfl).trans K
        have K3 := sq_val (g := frmR 1 (retS (mC .non))) K2 U
        unfold bodyK at K3
        rw [K3]
        rfl
      | some k =>
        rw [e] at K
        have K2 : forR 1 (frmI (enumM (consA (callF F_links_of (consA (mVar 0) (nilA))) (nilA)))) (bTup 2 (bCons (bName 2) (bCons (bName 4) (bNil)))) bodyK RS.nil [.dt (.tup (t.map encS)), .un, s', t', .un] = some (.rt (.dt (.tup [.str "cycle", .int (k : Nat)])) ρ', R') := (for_val src2 rfl).trans K
        have K3 := sq_rt (i := 1) (g := frmR 1 (retS (mC .non))) K2
        unfold bodyK at K3
        rw [K3]
        rfl
  | _ => exact other _ rfl rfl
end BK

namespace BK
open PySem L2 BT
/-! ### what the law's own defs compute: draws -/
def F_law_at : Fn := pureF fun ds => match ds with | [.lst l, .int k] => (match asInts l with | some l => if 0 ≤ k ∧ l.length ≤ 1000 then some (.dt (.int (l.getD k.toNat 0))) else none | none => none) | _ => none
def mix (cell k : Int) : Int := (((cell * 1103515245 + 7919 * k * k + k + 1) % 2147483647) * ((cell * 1103515245 + 7919 * k * k + k + 1) % 2147483647) + 69621) % 2147483629 * 48271 % 2147483587
def F_law_mixed : Fn := pureF fun ds => match ds with | [.int c, .int k] => if 0 ≤ c ∧ c < 2147483648 ∧ 0 ≤ k ∧ k < 2147483648 then some (.dt (.int (mix c k))) else none | _ => none
structure Pz where (a b c : Int)
def Pz.L (p : Pz) : List D := [.int p.a, .int p.b, .int p.c]
def decP : List D → Option Pz | [.int a, .int b, .int c] => some ⟨a, b, c⟩ | _ => none
def purse (l : List Int) (at_ : Int) : Pz := ⟨(if 0 > l.getD at_.toNat 0 - 10 ^ 18 then 0 else l.getD at_.toNat 0 - 10 ^ 18) % (10 ^ 60) ^ 10, l.getD at_.toNat 0 % 2147483647, 1000 * at_⟩
def F_law_purse : Fn := pureF fun ds => match ds with | [.lst l, .int k] => (match asInts l with | some l => if 0 ≤ k ∧ k < 1000 ∧ l.length ≤ 1000 then some (.ol (purse l k).L) else none | none => none) | _ => none
def Pz.r (p : Pz) (n : Int) : Int := if p.a > 0 then p.a % n else mix p.b (p.c + 1) % n
def Pz.n (p : Pz) (n : Int) : Pz := if p.a > 0 then ⟨p.a / n, p.b, p.c⟩ else ⟨p.a, p.b, p.c + 1⟩
/-- k more draws can be made -/
def Pz.ok (p : Pz) (k : Nat) : Prop := 0 ≤ p.a ∧ 0 ≤ p.b ∧ p.b < 2147483648 ∧ 0 ≤ p.c ∧ p.c + k < 1000000000
instance (p : Pz) (k : Nat) : Decidable (p.ok k) := by unfold Pz.ok; infer_instance
theorem Pz.ok.next {p : Pz} {k : Nat} (h : p.ok (k + 1)) (n : Int) (hn : 0 < n) : (p.n n).ok k := by
  obtain ⟨h1, h2, h3, h4, h5⟩ := h
  unfold Pz.n
  split
  · exact ⟨Int.ediv_nonneg h1 (by omega), h2, h3, h4, by simp only; omega⟩
  · exact ⟨h1, h2, h3, by simp only; omega, by simp only; omega⟩
theorem Pz.ok.le {p : Pz} {k j : Nat} (h : p.ok k) (l : j ≤ k) : p.ok j := ⟨h.1, h.2.1, h.2.2.1, h.2.2.2.1, by have := h.2.2.2.2; omega⟩
theorem Pz.r_lt (p : Pz) {n : Int} (hn : 0 < n) : 0 ≤ p.r n ∧ p.r n < n := by
  unfold Pz.r
  split
  · exact ⟨Int.emod_nonneg _ (by omega), Int.emod_lt_of_pos _ hn⟩
  · exact ⟨Int.emod_nonneg _ (by omega), Int.emod_lt_of_pos _ hn⟩
def F_law_draw : Fn := ownF fun xs ds => match decP xs, ds with | some p, [.int n] => if p.ok 1 ∧ 0 < n ∧ n < 1000000 then some (.dt (.int (p.r n)), (p.n n).L) else none | _, _ => none
end BK

/-! Plain mathematics: links, ways, cycles. -/
namespace BR
open PySem
abbrev Ln := Str × Str × Bool
/-- a way along the links, along those that are not strict in both directions -/
inductive W (L : List Ln) : Str → Str → Prop
  | refl (a : Str) : W L a a
  | fwd {a b c : Str} {s : Bool} : (a, b, s) ∈ L → W L b c → W L a c
  | bwd {a b c : Str} : (b, a, false) ∈ L → W L b c → W L a c
def weak (L : List Ln) : List Ln := L.filter fun l => !l.2.2
def Sm (L : List Ln) (a b : Str) : Prop := W (weak L) a b
def St (L : List Ln) (a b : Str) : Prop := ∃ x y, (x, y, true) ∈ L ∧ W L a x ∧ W L y b
def cyc (L : List Ln) : Prop := ∃ x y, (x, y, true) ∈ L ∧ W L y x
section
variable {L L' : List Ln} {a b c d : Str}
theorem W.trans (h : W L a b) (g : W L b c) : W L a c := by
  induction h with
  | refl => exact g
  | fwd m _ ih => exact .fwd m (ih g)
  | bwd m _ ih => exact .bwd m (ih g)
theorem W.mono (s : ∀ l ∈ L, l ∈ L') (h : W L a b) : W L' a b := by
  induction h with
  | refl a => exact .refl a
  | fwd m _ ih => exact .fwd (s _ m) ih
  | bwd m _ ih => exact .bwd (s _ m) ih
theorem mem_weak {l : Ln} : l ∈ weak L ↔ l ∈ L ∧ l.2.2 = false := by simp [weak]
theorem Sm.w (h : Sm L a b) : W L a b := W.mono (fun l m => (mem_weak.mp m).1) h
theorem Sm.trans (h : Sm L a b) (g : Sm L b c) : Sm L a c := W.trans h g
theorem Sm.refl (a : Str) : Sm L a a := W.refl a
theorem weak_symm (h : W (weak L) a b) : W (weak L) b a := by
  induction h with
  | refl a => exact .refl a
  | @fwd a b c s m _ ih =>
    have e := (mem_weak.mp m).2
    simp only at e
    subst e
    exact ih.trans (.bwd m (.refl _))
  | bwd m _ ih => exact ih.trans (.fwd m (.refl _))
theorem Sm.symm (h : Sm L a b) : Sm L b a := weak_symm h
theorem St.left (h : W L a b) (g : St L b c) : St L a c := by obtain ⟨x, y, m, p, q⟩ := g; exact ⟨x, y, m, h.trans p, q⟩
theorem St.right (g : St L a b) (h : W L b c) : St L a c := by obtain ⟨x, y, m, p, q⟩ := g; exact ⟨x, y, m, p, q.trans h⟩
theorem St.w (g : St L a b) : W L a b := by obtain ⟨x, y, m, p, q⟩ := g; exact p.trans (.fwd m q)
theorem St.mono (s : ∀ l ∈ L, l ∈ L') (h : St L a b) : St L' a b := by obtain ⟨x, y, m, p, q⟩ := h; exact ⟨x, y, s _ m, p.mono s, q.mono s⟩
theorem Sm.mono (s : ∀ l ∈ L, l ∈ L') (h : Sm L a b) : Sm L' a b := W.mono (fun l m => mem_weak.mpr ⟨s _ (mem_weak.mp m).1, (mem_weak.mp m).2⟩) h
theorem cyc_iff : cyc L ↔ ∃ a, St L a a := by
  constructor
  · rintro ⟨x, y, m, w⟩; exact ⟨x, x, y, m, .refl x, w⟩
  · rintro ⟨a, x, y, m, p, q⟩; exact ⟨x, y, m, q.trans p⟩
theorem W.split (h : W L a b) : Sm L a b ∨ St L a b := by
  induction h with
  | refl a => exact .inl (Sm.refl a)
  | @fwd a b c s m w ih =>
    cases s with
    | true => exact .inr ⟨a, b, m, .refl a, w⟩
    | false =>
      have e : Sm L a b := .fwd (s := false) (mem_weak.mpr ⟨m, rfl⟩) (.refl b)
      exact ih.imp (fun z => e.trans z) fun z => z.left e.w
  | @bwd a b c m w ih =>
    have e : Sm L a b := .bwd (mem_weak.mpr ⟨m, rfl⟩) (.refl b)
    exact ih.imp (fun z => e.trans z) fun z => z.left e.w

/-! ### one more strict link -/
theorem W_snocS {x y : Str} : W (L ++ [(x, y, true)]) a b ↔ W L a b ∨ (∃ (_ : W L a x), W (L ++ [(x, y, true)]) y b) := by
  constructor
  · intro h
    induction h with
    | refl a => exact .inl (.refl a)
    | @fwd a b c s m w ih =>
      rcases List.mem_append.mp m with m | m
      · exact ih.imp (fun z => .fwd m z) fun ⟨p, q⟩ => ⟨.fwd m p, q⟩
      · simp at m; obtain ⟨rfl, rfl, rfl⟩ := m
        exact .inr ⟨.refl _, w⟩
    | @bwd a b c m w ih =>
      rcases List.mem_append.mp m with m | m
      · exact ih.imp (fun z => .bwd m z) fun ⟨p, q⟩ => ⟨.bwd m p, q⟩
      · simp at m
  · rintro (h | ⟨p, q⟩)
    · exact h.mono fun l m => List.mem_append_left _ m
    · exact (p.mono fun l m => List.mem_append_left _ m).trans (.fwd (s := true) (by simp) q)
/-- from y on, at the last time that y is left -/
theorem W_snocS' {x y : Str} (h : W (L ++ [(x, y, true)]) a b) : W L a b ∨ (W L a x ∧ W L y b) := by
  induction h with
  | refl a => exact .inl (.refl a)
  | @fwd a b c s m w ih =>
    rcases List.mem_append.mp m with m | m
    · exact ih.imp (fun z => .fwd m z) fun ⟨p, q⟩ => ⟨.fwd m p, q⟩
    · simp at m; obtain ⟨rfl, rfl, rfl⟩ := m
      exact .inr ⟨.refl _, ih.elim id And.right⟩
  | @bwd a b c m w ih =>
    rcases List.mem_append.mp m with m | m
    · exact ih.imp (fun z => .bwd m z) fun ⟨p, q⟩ => ⟨.bwd m p, q⟩
    · simp at m
theorem up_mono {x y : Str} {s : Bool} : ∀ l ∈ L, l ∈ L ++ [(x, y, s)] := fun l m => List.mem_append_left _ m
theorem weak_snocS {x y : Str} : weak (L ++ [(x, y, true)]) = weak L := by simp [weak]
theorem Sm_snocS {x y : Str} : Sm (L ++ [(x, y, true)]) a b ↔ Sm L a b := by unfold Sm; rw [weak_snocS]
theorem St_snocS {x y : Str} : St (L ++ [(x, y, true)]) a b ↔ St L a b ∨ (W L a x ∧ W L y b) := by
  constructor
  · rintro ⟨u, v, m, p, q⟩
    rcases List.mem_append.mp m with m | m
    · rcases W_snocS' p with p | ⟨p1, p2⟩
      · rcases W_snocS' q with q | ⟨q1, q2⟩
        · exact .inl ⟨u, v, m, p, q⟩
        · exact .inr ⟨p.trans (.fwd m q1), q2⟩
      · rcases W_snocS' q with q | ⟨q1, q2⟩
        · exact .inr ⟨p1, p2.trans (.fwd m q)⟩
        · exact .inr ⟨p1, q2⟩
    · simp at m; obtain ⟨rfl, rfl⟩ := m
      exact .inr ⟨(W_snocS' p).elim id And.left, (W_snocS' q).elim id And.right⟩
  · rintro (h | ⟨p, q⟩)
    · exact h.mono up_mono
    · exact ⟨x, y, by simp, p.mono up_mono, q.mono up_mono⟩
theorem cyc_snocS {x y : Str} : cyc (L ++ [(x, y, true)]) ↔ cyc L ∨ W L y x := by
  constructor
  · intro h
    obtain ⟨a, h⟩ := cyc_iff.mp h
    rcases St_snocS.mp h with h | ⟨p, q⟩
    · exact .inl (cyc_iff.mpr ⟨a, h⟩)
    · exact .inr (q.trans p)
  · rintro (⟨u, v, m, w⟩ | h)
    · exact ⟨u, v, List.mem_append_left _ m, w.mono up_mono⟩
    · exact ⟨x, y, by simp, h.mono up_mono⟩

/-! ### one more link that is not strict -/
theorem W_snocF {x y : Str} (h : W (L ++ [(x, y, false)]) a b) : W L a b ∨ (W L a x ∧ W L y b) ∨ (W L a y ∧ W L x b) := by
  induction h with
  | refl a => exact .inl (.refl a)
  | @fwd a b c s m w ih =>
    rcases List.mem_append.mp m with m | m
    · rcases ih with z | ⟨p, q⟩ | ⟨p, q⟩
      · exact .inl (.fwd m z)
      · exact .inr (.inl ⟨.fwd m p, q⟩)
      · exact .inr (.inr ⟨.fwd m p, q⟩)
    · simp at m; obtain ⟨rfl, rfl, rfl⟩ := m
      rcases ih with z | ⟨p, q⟩ | ⟨p, q⟩
      · exact .inr (.inl ⟨.refl _, z⟩)
      · exact .inr (.inl ⟨.refl _, q⟩)
      · exact .inl q
  | @bwd a b c m w ih =>
    rcases List.mem_append.mp m with m | m
    · rcases ih with z | ⟨p, q⟩ | ⟨p, q⟩
      · exact .inl (.bwd m z)
      · exact .inr (.inl ⟨.bwd m p, q⟩)
      · exact .inr (.inr ⟨.bwd m p, q⟩)
    · simp at m; obtain ⟨rfl, rfl⟩ := m
      rcases ih with z | ⟨p, q⟩ | ⟨p, q⟩
      · exact .inr (.inr ⟨.refl _, z⟩)
      · exact .inl q
      · exact .inr (.inr ⟨.refl _, q⟩)
theorem weak_snocF {x y : Str} : weak (L ++ [(x, y, false)]) = weak L ++ [(x, y, false)] := by simp [weak]
theorem Sm_snocF {x y : Str} : Sm (L ++ [(x, y, false)]) a b ↔ Sm L a b ∨ (Sm L a x ∧ Sm L y b) ∨ (Sm L a y ∧ Sm L x b) := by
  unfold Sm
  rw [weak_snocF]
  constructor
  · exact W_snocF
  · have xy : W (weak L ++ [(x, y, false)]) x y := .fwd (s := false) (by simp) (.refl y)
    have yx : W (weak L ++ [(x, y, false)]) y x := .bwd (by simp) (.refl x)
    rintro (h | ⟨p, q⟩ | ⟨p, q⟩)
    · exact h.mono up_mono
    · exact ((p.mono up_mono).trans xy).trans (q.mono up_mono)
    · exact ((p.mono up_mono).trans yx).trans (q.mono up_mono)
/-- without strict ways between the two -/
theorem St_snocF {x y : Str} (n1 : ¬ St L x y) (n2 : ¬ St L y x) (nc : ¬ cyc L) :
    St (L ++ [(x, y, false)]) a b ↔ St L a b ∨ (St L a x ∧ W L y b) ∨ (W L a x ∧ St L y b) ∨ (St L a y ∧ W L x b) ∨ (W L a y ∧ St L x b) := by
  have xy : W (L ++ [(x, y, false)]) x y := .fwd (s := false) (by simp) (.refl y)
  have yx : W (L ++ [(x, y, false)]) y x := .bwd (by simp) (.refl x)
  have nx : ¬ St L x x := fun z => nc (cyc_iff.mpr ⟨x, z⟩)
  have ny : ¬ St L y y := fun z => nc (cyc_iff.mpr ⟨y, z⟩)
  constructor
  · rintro ⟨u, v, m, p, q⟩
    rcases List.mem_append.mp m with m | m
    · have uv : St L u v := ⟨u, v, m, .refl u, .refl v⟩
      rcases W_snocF p with p | ⟨p1, p2⟩ | ⟨p1, p2⟩
      · rcases W_snocF q with q | ⟨q1, q2⟩ | ⟨q1, q2⟩
        · exact .inl ((uv.left p).right q)
        · exact .inr (.inl ⟨(uv.left p).right q1, q2⟩)
        · exact .inr (.inr (.inr (.inl ⟨(uv.left p).right q1, q2⟩)))
      · rcases W_snocF q with q | ⟨q1, q2⟩ | ⟨q1, q2⟩
        · exact .inr (.inr (.inl ⟨p1, (uv.left p2).right q⟩))
        · exact absurd ((uv.left p2).right q1) n2
        · exact absurd ((uv.left p2).right q1) ny
      · rcases W_snocF q with q | ⟨q1, q2⟩ | ⟨q1, q2⟩
        · exact .inr (.inr (.inr (.inr ⟨p1, (uv.left p2).right q⟩)))
        · exact absurd ((uv.left p2).right q1) nx
        · exact absurd ((uv.left p2).right q1) n1
    · simp at m
  · rintro (h | ⟨p, q⟩ | ⟨p, q⟩ | ⟨p, q⟩ | ⟨p, q⟩)
    · exact h.mono up_mono
    · exact ((p.mono up_mono).right xy).right (q.mono up_mono)
    · exact (q.mono up_mono).left ((p.mono up_mono).trans xy)
    · exact ((p.mono up_mono).right yx).right (q.mono up_mono)
    · exact (q.mono up_mono).left ((p.mono up_mono).trans yx)
theorem cyc_snocF {x y : Str} (nc : ¬ cyc L) : cyc (L ++ [(x, y, false)]) ↔ St L x y ∨ St L y x := by
  constructor
  · intro h
    by_cases n1 : St L x y
    · exact .inl n1
    by_cases n2 : St L y x
    · exact .inr n2
    exfalso
    obtain ⟨a, h⟩ := cyc_iff.mp h
    rcases (St_snocF n1 n2 nc).mp h with h | ⟨p, q⟩ | ⟨p, q⟩ | ⟨p, q⟩ | ⟨p, q⟩
    · exact nc (cyc_iff.mpr ⟨a, h⟩)
    · exact n2 (p.left q)
    · exact n2 (q.right p)
    · exact n1 (p.left q)
    · exact n1 (q.right p)
  · have xy : W (L ++ [(x, y, false)]) x y := .fwd (s := false) (by simp) (.refl y)
    have yx : W (L ++ [(x, y, false)]) y x := .bwd (by simp) (.refl x)
    rintro (h | h)
    · exact cyc_iff.mpr ⟨x, (h.mono up_mono).right yx⟩
    · exact cyc_iff.mpr ⟨x, (h.mono up_mono).left xy⟩
/-- the ends of the links -/
def ends (L : List Ln) (a : Str) : Prop := ∃ l ∈ L, a = l.1 ∨ a = l.2.1
theorem W.ends (h : W L a b) : a = b ∨ (BR.ends L a ∧ BR.ends L b) := by
  induction h with
  | refl a => exact .inl rfl
  | @fwd a b c s m _ ih =>
    refine .inr ⟨⟨_, m, .inl rfl⟩, ?_⟩
    rcases ih with rfl | ⟨_, z⟩
    · exact ⟨_, m, .inr rfl⟩
    · exact z
  | @bwd a b c m _ ih =>
    refine .inr ⟨⟨_, m, .inr rfl⟩, ?_⟩
    rcases ih with rfl | ⟨_, z⟩
    · exact ⟨_, m, .inl rfl⟩
    · exact z
theorem St.ends (h : St L a b) : BR.ends L a ∧ BR.ends L b := by
  obtain ⟨x, y, m, p, q⟩ := h
  constructor
  · rcases p.ends with rfl | ⟨z, _⟩
    · exact ⟨_, m, .inl rfl⟩
    · exact z
  · rcases q.ends with rfl | ⟨_, z⟩
    · exact ⟨_, m, .inr rfl⟩
    · exact z
theorem Sm.ends (h : Sm L a b) : a = b ∨ (BR.ends L a ∧ BR.ends L b) := h.w.ends
end
end BR

/-! The object keeps the relations of the links. -/
namespace BR
open PySem BK
theorem add_bit {i j S : Nat} (h : S.testBit i = false) : (2 ^ i + S).testBit j = (decide (i = j) || S.testBit j) := by
  rcases Nat.lt_trichotomy j i with c | c | c
  · rw [Nat.testBit_two_pow_add_gt c, decide_eq_false (by omega)]; rfl
  · subst c
    rw [Nat.testBit_two_pow_add_eq, h]; simp
  · obtain ⟨k, rfl⟩ : ∃ k, j = (i + 1) + k := ⟨j - (i + 1), by omega⟩
    have t : ∀ x : Nat, x.testBit (i + 1 + k) = (x / 2 ^ (i + 1)).testBit k := fun x => by
      rw [Nat.testBit_div_two_pow]; congr 1 <;> omega
    rw [t, t, decide_eq_false (by omega), Bool.false_or]
    congr 1
    rw [Nat.pow_succ, ← Nat.div_div_eq_div_mul, ← Nat.div_div_eq_div_mul, Nat.add_div_left _ (Nat.two_pow_pos i)]
    have e : (S / 2 ^ i) % 2 = 0 := by
      have := h
      rw [Nat.testBit, Nat.shiftRight_eq_div_pow] at this
      rw [← Nat.and_one_is_mod]
      cases q : S / 2 ^ i &&& 1 with
      | zero => rfl
      | succ n => rw [Nat.and_comm] at q; rw [q] at this; cases this
    omega
theorem sum_bit : ∀ {l : List Nat}, l.Nodup → ∀ j, ((l.map (2 ^ ·)).sum).testBit j = decide (j ∈ l)
  | [], _, j => by simp
  | i :: l, n, j => by
    obtain ⟨n1, n2⟩ := List.nodup_cons.mp n
    have ih := sum_bit n2
    rw [List.map_cons, List.sum_cons, add_bit (by rw [ih]; exact decide_eq_false n1), ih]
    by_cases c : i = j
    · subst c; simp
    · have c' : ¬ j = i := fun z => c z.symm
      simp [c, c']
theorem lt_of_bits {x n : Nat} (h : ∀ j, x.testBit j = true → j < n) : x < 2 ^ n := Nat.lt_pow_two_of_testBit x fun j hj => by
  cases c : x.testBit j with
  | false => rfl
  | true => have := h j c; omega
theorem bit_lt {x n j : Nat} (h : x < 2 ^ n) (b : x.testBit j = true) : j < n := by
  rcases Nat.lt_or_ge j n with c | c
  · exact c
  · have : x.testBit j = false := Nat.testBit_lt_two_pow (Nat.lt_of_lt_of_le h (Nat.pow_le_pow_right (by decide) c))
    rw [this] at b; cases b
section
variable {R : RS}
theorem ix_inj {a b : Str} (ha : a ∈ R.names) (hb : b ∈ R.names) (e : R.ix a = R.ix b) : a = b := by
  unfold RS.ix at e
  have h1 := List.getElem_idxOf (List.idxOf_lt_length_of_mem ha)
  have h2 := List.getElem_idxOf (List.idxOf_lt_length_of_mem hb)
  rw [← h1, ← h2]
  simp only [e]
theorem nodup_map_ix : ∀ {g : List Str}, g.Nodup → (∀ x ∈ g, x ∈ R.names) → (g.map R.ix).Nodup
  | [], _, _ => List.nodup_nil
  | x :: g, n, h => by
    obtain ⟨n1, n2⟩ := List.nodup_cons.mp n
    rw [List.map_cons, List.nodup_cons]
    refine ⟨fun m => ?_, nodup_map_ix n2 fun y hy => h y (by simp [hy])⟩
    obtain ⟨y, hy, e⟩ := List.mem_map.mp m
    have := ix_inj (h y (by simp [hy])) (h x (by simp)) e
    exact n1 (this ▸ hy)
theorem bits_nat (g : List Str) : R.bits g = ((((g.map R.ix).map (2 ^ ·)).sum : Nat) : Int) := by
  induction g with
  | nil => rfl
  | cons x g ih =>
    unfold RS.bits at ih ⊢
    simp only [List.map_cons, List.sum_cons, ih]
    push_cast
    rfl
theorem bits_test {g : List Str} (n : g.Nodup) (h : ∀ x ∈ g, x ∈ R.names) (j : Nat) : (R.bits g).toNat.testBit j = decide (j ∈ g.map R.ix) := by
  rw [bits_nat, Int.toNat_natCast, sum_bit (nodup_map_ix n h)]
theorem bits_name {g : List Str} (n : g.Nodup) (h : ∀ x ∈ g, x ∈ R.names) {y : Str} (hy : y ∈ R.names) : (R.bits g).toNat.testBit (R.ix y) = decide (y ∈ g) := by
  rw [bits_test n h]
  congr 1
  refine propext ⟨fun m => ?_, fun m => List.mem_map.mpr ⟨y, m, rfl⟩⟩
  obtain ⟨x, hx, e⟩ := List.mem_map.mp m
  exact ix_inj (h x hx) hy e ▸ hx
theorem or_test {x y : Int} (hx : 0 ≤ x) (hy : 0 ≤ y) (j : Nat) : (Builtin.bitOr x y).toNat.testBit j = (x.toNat.testBit j || y.toNat.testBit j) := by
  rw [(bit_nn hx hy).2, Int.toNat_natCast, Nat.testBit_or]
theorem and_zero {x y : Int} (hx : 0 ≤ x) (hy : 0 ≤ y) : Builtin.bitAnd x y = 0 ↔ ∀ j, ¬ (x.toNat.testBit j = true ∧ y.toNat.testBit j = true) := by
  have e : Builtin.bitAnd x y = ((x.toNat &&& y.toNat : Nat) : Int) := by
    obtain ⟨n, rfl⟩ := Int.eq_ofNat_of_zero_le hx
    obtain ⟨m, rfl⟩ := Int.eq_ofNat_of_zero_le hy
    rfl
  rw [e]
  constructor
  · intro h j ⟨a, b⟩
    have h : x.toNat &&& y.toNat = 0 := by omega
    have := Nat.testBit_and x.toNat y.toNat j
    rw [h, a, b] at this
    simp at this
  · intro h
    have : x.toNat &&& y.toNat = 0 := Nat.eq_of_testBit_eq fun j => by
      rw [Nat.testBit_and, Nat.zero_testBit]
      cases a : x.toNat.testBit j with
      | false => rfl
      | true =>
        cases b : y.toNat.testBit j with
        | false => rfl
        | true => exact absurd ⟨a, b⟩ (h j)
    omega
end
end BR

namespace BR
open PySem BK
structure Rep (R : RS) (L : List Ln) : Prop where
  good : R.Good
  bnd : ∀ x ∈ R.later, x.toNat < 2 ^ R.tg.length
  ends : ∀ a, BR.ends L a → a ∈ R.names
  bf : ∀ a ∈ R.names, ∀ b ∈ R.names, R.bf a b = true ↔ St L a b
  gr : ∀ a ∈ R.names, ∀ b, b ∈ R.grp a ↔ Sm L a b
  gnd : ∀ a ∈ R.names, (R.grp a).Nodup
  nc : ¬ cyc L
section
variable {R : RS} {L : List Ln} {a b x y : Str}
theorem names_len (R : RS) : R.names.length = R.tg.length := by simp [RS.names]
theorem ix_bound (h : x ∈ R.names) : R.ix x < R.tg.length := by rw [← names_len]; exact List.idxOf_lt_length_of_mem h
theorem name_at {j : Nat} (h : j < R.tg.length) (nd : R.names.Nodup) : ∃ x ∈ R.names, R.ix x = j := by
  have hl : j < R.names.length := by rw [names_len]; exact h
  exact ⟨R.names[j], List.getElem_mem hl, nd.idxOf_getElem j hl⟩
theorem Rep.nil : Rep RS.nil [] where
  good := nil_good
  bnd := fun x h => by cases h
  ends := fun a ⟨l, h, _⟩ => by cases h
  bf := fun a h => by cases h
  gr := fun a h => by cases h
  gnd := fun a h => by cases h
  nc := fun ⟨x, y, m, _⟩ => by cases m
theorem look_app {t : List (Str × List Str)} {m : Str} {g : List Str} (hx : x ∈ t.map (·.1)) : look (t ++ [(m, g)]) x = look t x := by
  unfold look
  rw [List.find?_append]
  cases f : t.find? (fun z => decide (z.1 = x)) with
  | some z => rfl
  | none =>
    obtain ⟨z, hz, e⟩ := List.mem_map.mp hx
    exact absurd (List.find?_eq_none.mp f z hz) (by simp [e])
theorem look_new {t : List (Str × List Str)} {m : Str} {g : List Str} (hm : m ∉ t.map (·.1)) : look (t ++ [(m, g)]) m = g := by
  unfold look
  rw [List.find?_append]
  have f : t.find? (fun z => decide (z.1 = m)) = none := List.find?_eq_none.mpr fun z hz e => hm (List.mem_map.mpr ⟨z, hz, by simpa using e⟩)
  rw [f]
  simp
theorem Rep.add (r : Rep R L) (h : R.tg.length < 1000) (m : Str) : Rep (R.add m) L := by
  by_cases c : m ∈ R.names
  · have e : R.add m = R := if_pos c
    rw [e]; exact r
  have e : R.add m = ⟨R.tg ++ [(m, [m])], R.later ++ [0]⟩ := if_neg c
  have g := r.good.add h m
  rw [e] at g ⊢
  have en : RS.names ⟨R.tg ++ [(m, [m])], R.later ++ [0]⟩ = R.names ++ [m] := by simp [RS.names]
  have ixo : ∀ x ∈ R.names, RS.ix ⟨R.tg ++ [(m, [m])], R.later ++ [0]⟩ x = R.ix x := fun x hx => by
    unfold RS.ix; rw [en, List.idxOf_append, if_pos hx]
  have ixm : RS.ix ⟨R.tg ++ [(m, [m])], R.later ++ [0]⟩ m = R.tg.length := by
    unfold RS.ix; rw [en, List.idxOf_append, if_neg c]; simp [names_len]
  have lto : ∀ x ∈ R.names, (R.later ++ [0]).getD (R.ix x) 0 = R.later.getD (R.ix x) 0 := fun x hx => by
    have := ix_bound hx
    rw [List.getD_eq_getElem?_getD, List.getD_eq_getElem?_getD, List.getElem?_append_left (by rw [r.good.len]; exact this)]
  have ne : ¬ BR.ends L m := fun z => c (r.ends m z)
  refine ⟨g, fun x hx => ?_, fun a ha => by rw [en]; exact List.mem_append_left _ (r.ends a ha), fun a ha b hb => ?_, fun a ha b => ?_, fun a ha => ?_, r.nc⟩
  · rcases List.mem_append.mp hx with hx | hx
    · simp only [List.length_append, List.length_singleton]
      exact Nat.lt_of_lt_of_le (r.bnd x hx) (Nat.pow_le_pow_right (by decide) (Nat.le_succ _))
    · simp at hx; subst hx; exact Nat.two_pow_pos _
  · rw [en] at ha hb
    unfold RS.bf
    rcases List.mem_append.mp ha with ha' | ha'
    · rw [ixo a ha']
      simp only [lto a ha']
      rcases List.mem_append.mp hb with hb' | hb'
      · rw [ixo b hb']; exact r.bf a ha' b hb'
      · simp at hb'; subst hb'
        rw [ixm]
        constructor
        · intro z
          have hl : R.ix a < R.later.length := by rw [r.good.len]; exact ix_bound ha'
          have := bit_lt (r.bnd (R.later.getD (R.ix a) 0) (by rw [List.getD_eq_getElem?_getD, List.getElem?_eq_getElem hl]; exact List.getElem_mem hl)) z
          omega
        · intro z; exact absurd z.ends.2 ne
    · simp at ha'; subst ha'
      rw [ixm]
      have e0 : (R.later ++ [0]).getD R.tg.length 0 = 0 := by rw [← r.good.len, List.getD_eq_getElem?_getD]; simp
      simp only [e0]
      constructor
      · intro z; simp at z
      · intro z; exact absurd z.ends.1 ne
  · rw [en] at ha
    unfold RS.grp
    rcases List.mem_append.mp ha with ha' | ha'
    · simp only [look_app (m := m) (g := [m]) ha']; exact r.gr a ha' b
    · simp at ha'; subst ha'
      simp only [look_new (g := [a]) c, List.mem_singleton]
      constructor
      · rintro rfl; exact Sm.refl _
      · intro z; exact z.ends.elim Eq.symm fun q => absurd q.1 ne
  · rw [en] at ha
    unfold RS.grp
    rcases List.mem_append.mp ha with ha' | ha'
    · simp only [look_app (m := m) (g := [m]) ha']; exact r.gnd a ha'
    · simp at ha'; subst ha'
      simp only [look_new (g := [a]) c]; simp
theorem add2_id (ha : a ∈ R.names) (hb : b ∈ R.names) : R.add2 a b = R := by
  unfold RS.add2 RS.add
  rw [if_pos ha, if_pos hb]
theorem lt_bit (r : Rep R L) (ha : a ∈ R.names) (hb : b ∈ R.names) : (R.lt a).toNat.testBit (R.ix b) = true ↔ St L a b := r.bf a ha b hb
theorem lt_mem (r : Rep R L) (ha : a ∈ R.names) : R.lt a ∈ R.later := by
  have hl : R.ix a < R.later.length := by rw [r.good.len]; exact ix_bound ha
  unfold RS.lt
  rw [List.getD_eq_getElem?_getD, List.getElem?_eq_getElem hl]; exact List.getElem_mem hl
/-- bits that are names' -/
theorem any_bit (r : Rep R L) {g : List Str} (n : g.Nodup) (h : ∀ x ∈ g, x ∈ R.names) {k : Int} (hk : 0 ≤ k) : Builtin.bitAnd k (R.bits g) = 0 ↔ ∀ z ∈ g, k.toNat.testBit (R.ix z) = false := by
  rw [and_zero hk (bits_nn R g)]
  constructor
  · intro q z hz
    cases c : k.toNat.testBit (R.ix z) with
    | false => rfl
    | true => exact absurd ⟨c, by rw [bits_name n h (h z hz)]; exact decide_eq_true hz⟩ (q (R.ix z))
  · rintro q j ⟨c1, c2⟩
    rw [bits_test n h] at c2
    obtain ⟨z, hz, e⟩ := List.mem_map.mp (of_decide_eq_true c2)
    subst e
    rw [q z hz] at c1; cases c1
theorem bits_bnd (r : Rep R L) {g : List Str} (n : g.Nodup) (h : ∀ x ∈ g, x ∈ R.names) : (R.bits g).toNat < 2 ^ R.tg.length := lt_of_bits fun j hj => by
  rw [bits_test n h] at hj
  obtain ⟨z, hz, e⟩ := List.mem_map.mp (of_decide_eq_true hj)
  rw [← e]; exact ix_bound (h z hz)
theorem or_bnd {x y : Int} (hx : 0 ≤ x) (hy : 0 ≤ y) {n : Nat} (h1 : x.toNat < 2 ^ n) (h2 : y.toNat < 2 ^ n) : (Builtin.bitOr x y).toNat < 2 ^ n := lt_of_bits fun j hj => by
  rw [or_test hx hy, Bool.or_eq_true] at hj
  exact hj.elim (bit_lt h1) (bit_lt h2)
theorem Rep.before (r : Rep R L) (ha : a ∈ R.names) (hb : b ∈ R.names) :
    ((R.bef a b).1 = true ↔ ¬ cyc (L ++ [(a, b, true)])) ∧ ((R.bef a b).1 = true → Rep (R.bef a b).2 (L ++ [(a, b, true)])) := by
  unfold RS.bef
  rw [add2_id ha hb]
  have test : (b ∈ R.grp a ∨ R.bf b a = true) ↔ cyc (L ++ [(a, b, true)]) := by
    rw [cyc_snocS, r.gr a ha, r.bf b hb a ha]
    constructor
    · rintro (h | h)
      · exact .inr h.symm.w
      · exact .inr h.w
    · rintro (h | h)
      · exact absurd h r.nc
      · exact h.split.imp Sm.symm id
  by_cases c : b ∈ R.grp a ∨ R.bf b a = true
  · rw [if_pos c]
    exact ⟨⟨fun z => (by cases z), fun z => absurd (test.mp c) z⟩, fun z => (by cases z)⟩
  rw [if_neg c]
  refine ⟨⟨fun _ z => c (test.mpr z), fun _ => rfl⟩, fun _ => ?_⟩
  have nc : ¬ cyc (L ++ [(a, b, true)]) := fun z => c (test.mpr z)
  obtain ⟨p1, _⟩ := grp_ok r.good ha
  obtain ⟨q1, _⟩ := grp_ok r.good hb
  have na := r.gnd a ha
  have nb := r.gnd b hb
  have lb0 := lt_nn r.good hb
  have bb0 := bits_nn R (R.grp b)
  have each : ∀ x ∈ R.names, (R.later.mapIdx (R.befL a b)).getD (R.ix x) 0 = R.befL a b (R.ix x) (R.lt x) := fun x hx => by
    have hl : R.ix x < R.later.length := by rw [r.good.len]; exact ix_bound hx
    unfold RS.lt
    rw [List.getD_eq_getElem?_getD, List.getElem?_mapIdx, List.getElem?_eq_getElem hl, List.getD_eq_getElem?_getD, List.getElem?_eq_getElem hl]; rfl
  have pow0 : ∀ i : Nat, (0 : Int) ≤ 2 ^ i := fun i => Int.pow_nonneg (by decide)
  have cond : ∀ x ∈ R.names, Builtin.bitAnd (Builtin.bitOr (2 ^ R.ix x) (R.lt x)) (R.bits (R.grp a)) = 0 ↔ ¬ W L x a := fun x hx => by
    have x0 := lt_nn r.good hx
    rw [any_bit r na p1 (bit_nn (pow0 _) x0).1]
    have e2 : ((2 : Int) ^ R.ix x).toNat = 2 ^ R.ix x := by
      have : ((2 : Int) ^ R.ix x) = ((2 ^ R.ix x : Nat) : Int) := by push_cast; rfl
      rw [this, Int.toNat_natCast]
    constructor
    · intro q w
      rcases w.split with w | w
      · have hxa : x ∈ R.grp a := (r.gr a ha x).mpr w.symm
        have := q x hxa
        rw [or_test (pow0 _) x0, e2, Nat.testBit_two_pow_self] at this
        simp at this
      · have haa : a ∈ R.grp a := (r.gr a ha a).mpr (Sm.refl a)
        have := q a haa
        rw [or_test (pow0 _) x0, (lt_bit r hx ha).mpr w] at this
        simp at this
    · intro q z hz
      have sz := (r.gr a ha z).mp hz
      rw [or_test (pow0 _) x0, e2, Nat.testBit_two_pow]
      have c1 : ¬ R.ix x = R.ix z := fun e => by
        have := ix_inj hx (p1 z hz) e
        subst this
        exact q sz.symm.w
      rw [decide_eq_false c1, Bool.false_or]
      cases d : (R.lt x).toNat.testBit (R.ix z) with
      | false => rfl
      | true => exact absurd (((lt_bit r hx (p1 z hz)).mp d).right sz.symm.w).w q
  refine ⟨?_, fun k hk => ?_, fun x hx => ?_, fun x hx y hy => ?_, fun x hx y => ?_, fun x hx => r.gnd x hx, nc⟩
  · refine ⟨⟨by simp [r.good.len], fun k hk => ?_, r.good.nd, r.good.few⟩, r.good.gin, r.good.gle⟩
    simp only [List.mem_mapIdx] at hk
    obtain ⟨i, hi, rfl⟩ := hk
    have n0 : 0 ≤ R.later[i] := r.good.nn _ (List.getElem_mem hi)
    unfold RS.befL
    split
    · exact n0
    · exact (bit_nn n0 (bit_nn bb0 lb0).1).1
  · simp only [List.mem_mapIdx] at hk
    obtain ⟨i, hi, rfl⟩ := hk
    have n0 : 0 ≤ R.later[i] := r.good.nn _ (List.getElem_mem hi)
    have b0 := r.bnd _ (List.getElem_mem hi)
    unfold RS.befL
    split
    · exact b0
    · exact or_bnd n0 (bit_nn bb0 lb0).1 b0 (or_bnd bb0 lb0 (bits_bnd r nb q1) (r.bnd _ (lt_mem r hb)))
  · obtain ⟨l, hl, e⟩ := hx
    rcases List.mem_append.mp hl with hl | hl
    · exact r.ends x ⟨l, hl, e⟩
    · simp at hl; subst hl
      rcases e with rfl | rfl
      · exact ha
      · exact hb
  · have hx : x ∈ R.names := hx
    have hy : y ∈ R.names := hy
    have x0 := lt_nn r.good hx
    rw [St_snocS]
    show ((R.later.mapIdx (R.befL a b)).getD (R.ix x) 0).toNat.testBit (R.ix y) = true ↔ _
    rw [each x hx]
    unfold RS.befL
    by_cases w : W L x a
    · rw [if_neg fun z => (cond x hx).mp z w, or_test x0 (bit_nn bb0 lb0).1, or_test bb0 lb0, Bool.or_eq_true, Bool.or_eq_true, lt_bit r hx hy, lt_bit r hb hy, bits_name nb q1 hy, decide_eq_true_eq, r.gr b hb]
      constructor
      · rintro (h | h | h)
        · exact .inl h
        · exact .inr ⟨w, h.w⟩
        · exact .inr ⟨w, h.w⟩
      · rintro (h | ⟨_, h⟩)
        · exact .inl h
        · exact .inr h.split
    · rw [if_pos ((cond x hx).mpr w), lt_bit r hx hy]
      constructor
      · exact .inl
      · rintro (h | ⟨h, _⟩)
        · exact h
        · exact absurd h w
  · rw [Sm_snocS]; exact r.gr x hx y
end
end BR

namespace BR
open PySem BK
section
variable {R : RS} {L : List Ln} {a b x y : Str}
theorem look_putT {t : List (Str × List Str)} {m : Str} {g : List Str} (hm : m ∈ t.map (·.1)) : look (putT t m g) x = if x = m then g else look t x := by
  have em : (t.any fun z => decide (z.1 = m)) = true := by
    obtain ⟨z, hz, e⟩ := List.mem_map.mp hm
    exact List.any_eq_true.mpr ⟨z, hz, by simpa using e⟩
  unfold putT
  rw [if_pos em]
  clear em
  unfold look
  rw [List.find?_map]
  have ef : ((fun z : Str × List Str => decide (z.1 = x)) ∘ fun z : Str × List Str => if z.1 = m then (z.1, g) else z) = fun z => decide (z.1 = x) := by
    funext z
    simp only [Function.comp]
    split <;> rfl
  rw [ef]
  cases f : t.find? (fun z => decide (z.1 = x)) with
  | some z =>
    have ez : z.1 = x := by simpa using List.find?_some f
    simp only [Option.map_some]
    by_cases c : x = m
    · rw [if_pos c, if_pos (ez.trans c)]
    · rw [if_neg c, if_neg (fun q => c (ez ▸ q))]
  | none =>
    simp only [Option.map_none]
    by_cases c : x = m
    · subst c
      obtain ⟨z, hz, e⟩ := List.mem_map.mp hm
      exact absurd (List.find?_eq_none.mp f z hz) (by simp [e])
    · rw [if_neg c]
theorem join_look : ∀ (ms : List Str) (R : RS) (g : List Str) (l : Int), (∀ m ∈ ms, m ∈ R.names) → (R.join g l ms).grp x = if x ∈ ms then g else R.grp x
  | [], R, g, l, _ => by simp [RS.join]
  | m :: ms, R, g, l, h => by
    have hm := h m (by simp)
    have en : RS.names ⟨putT R.tg m g, R.later.set (R.ix m) l⟩ = R.names := putT_names hm
    have ih := join_look ms ⟨putT R.tg m g, R.later.set (R.ix m) l⟩ g l (fun z hz => by rw [en]; exact h z (by simp [hz]))
    show RS.grp (RS.join ⟨putT R.tg m g, R.later.set (R.ix m) l⟩ g l ms) x = _
    rw [ih]
    have e2 : RS.grp ⟨putT R.tg m g, R.later.set (R.ix m) l⟩ x = if x = m then g else R.grp x := look_putT hm
    rw [e2]
    by_cases c : x ∈ ms
    · rw [if_pos c, if_pos (by simp [c])]
    · rw [if_neg c]
      by_cases d : x = m
      · rw [if_pos d, if_pos (by simp [d])]
      · rw [if_neg d, if_neg (by simp [c, d])]
theorem join_lt : ∀ (ms : List Str) (R : RS) (g : List Str) (l : Int), R.later.length = R.tg.length → (∀ m ∈ ms, m ∈ R.names) → x ∈ R.names → (R.join g l ms).lt x = if x ∈ ms then l else R.lt x
  | [], R, g, l, _, _, _ => by simp [RS.join]
  | m :: ms, R, g, l, hl, h, hx => by
    have hm := h m (by simp)
    have en : RS.names ⟨putT R.tg m g, R.later.set (R.ix m) l⟩ = R.names := putT_names hm
    have lt : (putT R.tg m g).length = R.tg.length := by
      have := congrArg List.length en
      simpa [RS.names] using this
    have ih := join_lt ms ⟨putT R.tg m g, R.later.set (R.ix m) l⟩ g l (by simp [hl, lt]) (fun z hz => by rw [en]; exact h z (by simp [hz])) (by rw [en]; exact hx)
    show RS.lt (RS.join ⟨putT R.tg m g, R.later.set (R.ix m) l⟩ g l ms) x = _
    rw [ih]
    have e2 : RS.lt ⟨putT R.tg m g, R.later.set (R.ix m) l⟩ x = if x = m then l else R.lt x := by
      have ei : RS.ix ⟨putT R.tg m g, R.later.set (R.ix m) l⟩ x = R.ix x := congrArg (fun ns => List.idxOf x ns) en
      unfold RS.lt
      rw [ei]
      show (R.later.set (R.ix m) l).getD (R.ix x) 0 = _
      by_cases d : x = m
      · subst d
        have : R.ix x < R.later.length := by rw [hl]; exact ix_bound hx
        rw [if_pos rfl, List.getD_eq_getElem?_getD, List.getElem?_set_self this]; rfl
      · have : R.ix m ≠ R.ix x := fun e => d (ix_inj hx hm e.symm)
        rw [if_neg d, List.getD_eq_getElem?_getD, List.getElem?_set_ne this, List.getD_eq_getElem?_getD]
    rw [e2]
    by_cases c : x ∈ ms
    · rw [if_pos c, if_pos (by simp [c])]
    · rw [if_neg c]
      by_cases d : x = m
      · rw [if_pos d, if_pos (by simp [d])]
      · rw [if_neg d, if_neg (by simp [c, d])]
theorem mem_set {l : List Int} {i : Nat} {z k : Int} (h : k ∈ l.set i z) : k ∈ l ∨ k = z := List.mem_or_eq_of_mem_set h
theorem join_bnd {n : Nat} : ∀ (ms : List Str) (R : RS) (g : List Str) (l : Int), (∀ k ∈ R.later, k.toNat < 2 ^ n) → l.toNat < 2 ^ n → ∀ k ∈ (R.join g l ms).later, k.toNat < 2 ^ n
  | [], _, _, _, h, _ => h
  | m :: ms, R, g, l, h, hl => join_bnd ms _ g l (fun k hk => (mem_set hk).elim (h k) fun e => by rw [e]; exact hl) hl
theorem Rep.with (r : Rep R L) (ha : a ∈ R.names) (hb : b ∈ R.names) (hl : R.tg.length + 2 ≤ 63) :
    ((R.same a b).1 = true ↔ ¬ cyc (L ++ [(a, b, false)])) ∧ ((R.same a b).1 = true → Rep (R.same a b).2 (L ++ [(a, b, false)])) := by
  have sg2 := same_good r.good hl a b
  unfold RS.same at sg2 ⊢
  rw [add2_id ha hb] at sg2 ⊢
  have test : (R.bf a b = true ∨ R.bf b a = true) ↔ cyc (L ++ [(a, b, false)]) := by
    rw [cyc_snocF r.nc, r.bf a ha b hb, r.bf b hb a ha]
  by_cases c : R.bf a b = true ∨ R.bf b a = true
  · rw [if_pos c]
    exact ⟨⟨fun z => (by cases z), fun z => absurd (test.mp c) z⟩, fun z => (by cases z)⟩
  rw [if_neg c] at sg2 ⊢
  refine ⟨⟨fun _ z => c (test.mpr z), fun _ => rfl⟩, fun _ => ?_⟩
  have nc : ¬ cyc (L ++ [(a, b, false)]) := fun z => c (test.mpr z)
  have n1 : ¬ St L a b := fun z => c (.inl ((r.bf a ha b hb).mpr z))
  have n2 : ¬ St L b a := fun z => c (.inr ((r.bf b hb a ha).mpr z))
  have nst : ∀ z, ¬ St L z z := fun z q => r.nc (cyc_iff.mpr ⟨z, q⟩)
  have ing : ∀ z, z ∈ R.sg a b ↔ Sm L a z ∨ Sm L b z := fun z => by
    unfold RS.sg
    rw [BS.mem_sd, List.mem_append, r.gr a ha, r.gr b hb]
  have gin := sg_in r.good ha hb
  have gnd : (R.sg a b).Nodup := (BS.sd_up _).nodup
  have la0 := lt_nn r.good ha
  have lb0 := lt_nn r.good hb
  have l0 : 0 ≤ R.sl a b := (bit_nn la0 lb0).1
  have lbit : ∀ y ∈ R.names, (R.sl a b).toNat.testBit (R.ix y) = true ↔ St L a y ∨ St L b y := fun y hy => by
    unfold RS.sl
    rw [or_test la0 lb0, Bool.or_eq_true, lt_bit r ha hy, lt_bit r hb hy]
  have lbnd : (R.sl a b).toNat < 2 ^ R.tg.length := or_bnd la0 lb0 (r.bnd _ (lt_mem r ha)) (r.bnd _ (lt_mem r hb))
  have jn := join_names (R.sg a b) R (R.sg a b) (R.sl a b) gin
  have tn : (R.tie a b).names = R.names := jn
  have tix : ∀ z, (R.tie a b).ix z = R.ix z := fun z => by unfold RS.ix; rw [tn]
  have tl : (R.tie a b).tg.length = R.tg.length := by rw [← names_len, ← names_len, tn]
  have jlt : ∀ x ∈ R.names, (R.join (R.sg a b) (R.sl a b) (R.sg a b)).lt x = if x ∈ R.sg a b then R.sl a b else R.lt x := fun x hx => join_lt _ R _ _ r.good.len gin hx
  have each : ∀ x ∈ R.names, (R.tie a b).lt x = RS.sameL (R.bits (R.sg a b)) (R.sl a b) (if x ∈ R.sg a b then R.sl a b else R.lt x) := fun x hx => by
    rw [← jlt x hx]
    have ji : (R.join (R.sg a b) (R.sl a b) (R.sg a b)).ix x = R.ix x := by unfold RS.ix; rw [jn]
    have hlen : R.ix x < (R.join (R.sg a b) (R.sl a b) (R.sg a b)).later.length := by rw [join_len, r.good.len]; exact ix_bound hx
    unfold RS.lt
    rw [tix, ji]
    show ((R.join (R.sg a b) (R.sl a b) (R.sg a b)).later.map _).getD (R.ix x) 0 = _
    rw [List.getD_eq_getElem?_getD, List.getElem?_map, List.getD_eq_getElem?_getD, List.getElem?_eq_getElem hlen]; rfl
  have stx := fun u v => St_snocF (a := u) (b := v) n1 n2 r.nc
  refine ⟨sg2.1, fun k hk => ?_, fun x hx => ?_, fun x hx y hy => ?_, fun x hx y => ?_, fun x hx => ?_, nc⟩
  · rw [tl]
    have hk : k ∈ (R.join (R.sg a b) (R.sl a b) (R.sg a b)).later.map (RS.sameL (R.bits (R.sg a b)) (R.sl a b)) := hk
    obtain ⟨z, hz, rfl⟩ := List.mem_map.mp hk
    have zb := join_bnd (R.sg a b) R (R.sg a b) (R.sl a b) r.bnd lbnd z hz
    have few := r.good.few
    have gj := join_ok (R.sg a b) R (R.sg a b) (R.sl a b) r.good gin l0 gin (by have := sg_len r.good ha hb; omega)
    have z0 := gj.nn z hz
    unfold RS.sameL
    split
    · exact zb
    · exact or_bnd (bit_nn z0 (bits_nn _ _)).1 l0 (or_bnd z0 (bits_nn _ _) zb (bits_bnd r gnd gin)) lbnd
  · rw [tn]
    obtain ⟨l, hl, e⟩ := hx
    rcases List.mem_append.mp hl with hl | hl
    · exact r.ends x ⟨l, hl, e⟩
    · simp at hl; subst hl
      rcases e with rfl | rfl
      · exact ha
      · exact hb
  · rw [tn] at hx hy
    rw [stx]
    have bb := bits_nn R (R.sg a b)
    show ((R.tie a b).lt x).toNat.testBit ((R.tie a b).ix y) = true ↔ _
    rw [each x hx, tix]
    by_cases g : x ∈ R.sg a b
    · rw [if_pos g]
      have z0 : Builtin.bitAnd (R.sl a b) (R.bits (R.sg a b)) = 0 := (any_bit r gnd gin l0).mpr fun z hz => by
        cases d : (R.sl a b).toNat.testBit (R.ix z) with
        | false => rfl
        | true =>
          exfalso
          rcases (lbit z (gin z hz)).mp d with q | q
          · rcases (ing z).mp hz with s | s
            · exact nst a (q.right s.symm.w)
            · exact n1 (q.right s.symm.w)
          · rcases (ing z).mp hz with s | s
            · exact n2 (q.right s.symm.w)
            · exact nst b (q.right s.symm.w)
      have e0 : RS.sameL (R.bits (R.sg a b)) (R.sl a b) (R.sl a b) = R.sl a b := if_pos z0
      rw [e0, lbit y hy]
      rcases (ing x).mp g with s | s
      · have sx := s.symm.w
        constructor
        · rintro (h | h)
          · exact .inl (h.left sx)
          · exact .inr (.inr (.inl ⟨sx, h⟩))
        · rintro (h | ⟨h, _⟩ | ⟨_, h⟩ | ⟨h, _⟩ | ⟨_, h⟩)
          · exact .inl (h.left s.w)
          · exact absurd (h.left s.w) (nst a)
          · exact .inr h
          · exact absurd (h.left s.w) n1
          · exact .inl h
      · have sx := s.symm.w
        constructor
        · rintro (h | h)
          · exact .inr (.inr (.inr (.inr ⟨sx, h⟩)))
          · exact .inl (h.left sx)
        · rintro (h | ⟨h, _⟩ | ⟨_, h⟩ | ⟨h, _⟩ | ⟨_, h⟩)
          · exact .inr (h.left s.w)
          · exact absurd (h.left s.w) n2
          · exact .inr h
          · exact absurd (h.left s.w) (nst b)
          · exact .inl h
    · rw [if_neg g]
      have x0 := lt_nn r.good hx
      have cond : Builtin.bitAnd (R.lt x) (R.bits (R.sg a b)) = 0 ↔ ¬ (St L x a ∨ St L x b) := by
        rw [any_bit r gnd gin x0]
        constructor
        · rintro q (h | h)
          · have := q a ((ing a).mpr (.inl (Sm.refl a)))
            rw [(lt_bit r hx ha).mpr h] at this; cases this
          · have := q b ((ing b).mpr (.inr (Sm.refl b)))
            rw [(lt_bit r hx hb).mpr h] at this; cases this
        · intro q z hz
          cases d : (R.lt x).toNat.testBit (R.ix z) with
          | false => rfl
          | true =>
            have h := (lt_bit r hx (gin z hz)).mp d
            exfalso
            rcases (ing z).mp hz with s | s
            · exact q (.inl (h.right s.symm.w))
            · exact q (.inr (h.right s.symm.w))
      have nsa : ¬ Sm L x a := fun s => g ((ing x).mpr (.inl s.symm))
      have nsb : ¬ Sm L x b := fun s => g ((ing x).mpr (.inr s.symm))
      unfold RS.sameL
      by_cases w : St L x a ∨ St L x b
      · rw [if_neg fun z => cond.mp z w, or_test (bit_nn x0 bb).1 l0, or_test x0 bb, Bool.or_eq_true, Bool.or_eq_true, lt_bit r hx hy, lbit y hy, bits_name gnd gin hy, decide_eq_true_eq, ing]
        constructor
        · rintro ((h | h | h) | h | h)
          · exact .inl h
          · rcases w with w | w
            · exact .inl (w.right h.w)
            · exact .inr (.inr (.inr (.inl ⟨w, h.w⟩)))
          · rcases w with w | w
            · exact .inr (.inl ⟨w, h.w⟩)
            · exact .inl (w.right h.w)
          · rcases w with w | w
            · exact .inl (w.right h.w)
            · exact .inr (.inr (.inr (.inr ⟨w.w, h⟩)))
          · rcases w with w | w
            · exact .inr (.inr (.inl ⟨w.w, h⟩))
            · exact .inl (w.right h.w)
        · rintro (h | ⟨_, h⟩ | ⟨_, h⟩ | ⟨_, h⟩ | ⟨_, h⟩)
          · exact .inl (.inl h)
          · exact h.split.elim (fun s => .inl (.inr (.inr s))) fun s => .inr (.inr s)
          · exact .inr (.inr h)
          · exact h.split.elim (fun s => .inl (.inr (.inl s))) fun s => .inr (.inl s)
          · exact .inr (.inl h)
      · rw [if_pos (cond.mpr w), lt_bit r hx hy]
        constructor
        · exact .inl
        · rintro (h | ⟨h, _⟩ | ⟨h, _⟩ | ⟨h, _⟩ | ⟨h, _⟩)
          · exact h
          · exact absurd (.inl h) w
          · exact h.split.elim (fun s => absurd s nsa) fun s => absurd (.inl s) w
          · exact absurd (.inr h) w
          · exact h.split.elim (fun s => absurd s nsb) fun s => absurd (.inr s) w
  · rw [tn] at hx
    have e : (R.tie a b).grp x = if x ∈ R.sg a b then R.sg a b else R.grp x := join_look _ R _ _ gin
    rw [e, Sm_snocF]
    by_cases g : x ∈ R.sg a b
    · rw [if_pos g, ing]
      rcases (ing x).mp g with s | s
      · constructor
        · rintro (h | h)
          · exact .inl (s.symm.trans h)
          · exact .inr (.inl ⟨s.symm, h⟩)
        · rintro (h | ⟨_, h⟩ | ⟨_, h⟩)
          · exact .inl (s.trans h)
          · exact .inr h
          · exact .inl h
      · constructor
        · rintro (h | h)
          · exact .inr (.inr ⟨s.symm, h⟩)
          · exact .inl (s.symm.trans h)
        · rintro (h | ⟨_, h⟩ | ⟨_, h⟩)
          · exact .inr (s.trans h)
          · exact .inr h
          · exact .inl h
    · rw [if_neg g, r.gr x hx]
      constructor
      · exact .inl
      · rintro (h | ⟨h, _⟩ | ⟨h, _⟩)
        · exact h
        · exact absurd ((ing x).mpr (.inl h.symm)) g
        · exact absurd ((ing x).mpr (.inr h.symm)) g
  · rw [tn] at hx
    have e : (R.tie a b).grp x = if x ∈ R.sg a b then R.sg a b else R.grp x := join_look _ R _ _ gin
    rw [e]
    split
    · exact gnd
    · exact r.gnd x hx
end
end BR

namespace BR
open PySem BK
/-- the first link that closes a cycle -/
noncomputable def fc : List Ln → Nat → List Lk → Option Nat
  | _, _, [] => none
  | L, k, l :: r => @ite _ (cyc (L ++ l.toList)) (Classical.propDecidable _) (some k) (fc (L ++ l.toList) (k + 1) r)
theorem fc_no {L : List Ln} {k : Nat} {l : Lk} {r : List Lk} (h : ¬ cyc (L ++ l.toList)) : fc L k (l :: r) = fc (L ++ l.toList) (k + 1) r := if_neg h
theorem fc_yes {L : List Ln} {k : Nat} {l : Lk} {r : List Lk} (h : cyc (L ++ l.toList)) : fc L k (l :: r) = some k := if_pos h
theorem lkOf_ends {p w m a b : Str} {s : Bool} (h : lkOf p w m = some (a, b, s)) : (a = p ∧ b = m) ∨ (a = m ∧ b = p) := by
  unfold lkOf at h
  split at h
  · cases h; exact .inl ⟨rfl, rfl⟩
  · split at h
    · cases h; exact .inr ⟨rfl, rfl⟩
    · split at h
      · cases h; exact .inl ⟨rfl, rfl⟩
      · cases h
theorem chk_fc {M : List Str} (few : (BS.sd M).length ≤ 61) : ∀ (t : Tale) (k : Nat) (R : RS) (L : List Ln) (p : Str), Rep R L → Inn M R → (∀ x ∈ t, x.2 ∈ M) → (p ∈ R.names ∨ startsAt t = true) → chk R k p t = fc L k (lks p t)
  | [], _, _, _, _, _, _, _, _ => rfl
  | (w, m) :: t, k, R, L, p, r, i, hM, hp => by
    have hm : m ∈ M := hM (w, m) (by simp)
    have i1 := i.add few hm
    have l1 := i1.len few
    have r1 := r.add (by have := i.len few; omega) m
    have mm : m ∈ (R.add m).names := mem_add
    have hw : p ∈ R.names ∨ Str.ofString "at" = w := hp.imp id fun h => of_decide_eq_true h
    -- the next place
    have np : ∀ {R' : RS}, (∀ x ∈ (R.add m).names, x ∈ R'.names) → (if moving w then m else p) ∈ R'.names := fun {R'} sub => by
      by_cases c : moving w = true
      · rw [if_pos c]; exact sub m mm
      · rw [if_neg c]
        rcases hw with h | h
        · exact sub p (mem_add_of h)
        · exact absurd (decide_eq_true (.inl h)) c
    simp only [chk, lks]
    cases e : lkOf p w m with
    | none =>
      have nc : ¬ cyc (L ++ (none : Lk).toList) := by simpa using r.nc
      rw [fc_no nc]
      have := chk_fc few t (k + 1) (R.add m) L (if moving w then m else p) r1 i1 (fun x hx => hM x (by simp [hx])) (.inl (np fun x h => h))
      simpa [RS.link] using this
    | some q =>
      obtain ⟨a, b, s⟩ := q
      have pin : p ∈ (R.add m).names := by
        rcases hw with h | h
        · exact mem_add_of h
        · subst h
          obtain ⟨n1, n2, n3⟩ := at_ne
          unfold lkOf at e
          rw [if_neg n1, if_neg n2, if_neg n3] at e
          cases e
      have hab : a ∈ (R.add m).names ∧ b ∈ (R.add m).names := by
        rcases lkOf_ends e with ⟨rfl, rfl⟩ | ⟨rfl, rfl⟩
        · exact ⟨pin, mm⟩
        · exact ⟨mm, pin⟩
      have habM : ∀ a' b' s', (some (a, b, s) : Lk) = some (a', b', s') → a' ∈ M ∧ b' ∈ M := fun a' b' s' h => by
        cases h; exact ⟨i1.sub _ hab.1, i1.sub _ hab.2⟩
      have i2 := i1.link few habM
      have ea := add2_id hab.1 hab.2
      have step : (((R.add m).link (some (a, b, s))).1 = true ↔ ¬ cyc (L ++ [(a, b, s)])) ∧ (((R.add m).link (some (a, b, s))).1 = true → Rep ((R.add m).link (some (a, b, s))).2 (L ++ [(a, b, s)])) ∧ ((R.add m).link (some (a, b, s))).2.names = (R.add m).names := by
        cases s with
        | true =>
          obtain ⟨z1, z2⟩ := r1.before hab.1 hab.2
          have z3 := (bef_good r1.good (by omega) a b).2
          rw [ea] at z3
          exact ⟨z1, z2, z3⟩
        | false =>
          obtain ⟨z1, z2⟩ := r1.with hab.1 hab.2 (by omega)
          have z3 := (same_good r1.good (by omega) a b).2
          rw [ea] at z3
          exact ⟨z1, z2, z3⟩
      obtain ⟨s1, s2, s3⟩ := step
      by_cases c : ((R.add m).link (some (a, b, s))).1 = true
      · have nc : ¬ cyc (L ++ (some (a, b, s) : Lk).toList) := s1.mp c
        rw [if_pos c, fc_no nc]
        exact chk_fc few t (k + 1) _ _ _ (s2 c) i2 (fun x hx => hM x (by simp [hx])) (.inl (np fun x h => by rw [s3]; exact h))
      · have yc : cyc (L ++ (some (a, b, s) : Lk).toList) := Classical.byContradiction fun z => c (s1.mpr z)
        rw [if_neg c, fc_yes yc]
/-- the links of a tale -/
def lnks (t : Tale) : List Ln := (lks "" t).filterMap id
theorem lks_take : ∀ (t : Tale) (p : Str) (n : Nat), lks p (t.take n) = (lks p t).take n
  | [], _, n => by simp [lks]
  | (w, m) :: t, p, 0 => rfl
  | (w, m) :: t, p, n + 1 => by simp [lks, lks_take t]
/-- the first prefix with a cycle -/
noncomputable def dueC (t : Tale) : Nat → Nat → Option Nat
  | _, 0 => none
  | k, n + 1 => @ite _ (cyc (lnks (t.take (k + 1)))) (Classical.propDecidable _) (some k) (dueC t (k + 1) n)
theorem fc_due (t : Tale) : ∀ (n k : Nat), k + n = t.length → fc ((lks "" (t.take k)).filterMap id) k ((lks "" t).drop k) = dueC t k n
  | 0, k, h => by
    have hl : (lks "" t).length = t.length := by
      have go : ∀ (t : Tale) (p : Str), (lks p t).length = t.length := by
        intro t
        induction t with
        | nil => intro p; rfl
        | cons x t ih => intro p; obtain ⟨w, m⟩ := x; simp [lks, ih]
      exact go t _
    rw [List.drop_of_length_le (by omega)]; rfl
  | n + 1, k, h => by
    have hl : (lks "" t).length = t.length := by
      have go : ∀ (t : Tale) (p : Str), (lks p t).length = t.length := by
        intro t
        induction t with
        | nil => intro p; rfl
        | cons x t ih => intro p; obtain ⟨w, m⟩ := x; simp [lks, ih]
      exact go t _
    have hk : k < (lks "" t).length := by omega
    rw [List.drop_eq_getElem_cons hk]
    have e : (lks "" (t.take k)).filterMap id ++ ((lks "" t)[k]).toList = lnks (t.take (k + 1)) := by
      unfold lnks
      rw [lks_take, lks_take, List.take_succ_eq_append_getElem hk, List.filterMap_append]
      congr 1
    have ih := fc_due t n (k + 1) (by omega)
    have e2 : (lks "" (t.take (k + 1))).filterMap id = lnks (t.take (k + 1)) := rfl
    rw [e2] at ih
    show @ite _ (cyc _) (Classical.propDecidable _) _ _ = @ite _ (cyc _) (Classical.propDecidable _) _ _
    rw [e]
    congr 1
theorem chk_due {t : Tale} (few : cntM t ≤ 61) (h : startsAt t = true) : chk RS.nil 0 "" t = dueC t 0 t.length := by
  have few : (BS.sd (t.map (·.2))).length ≤ 61 := few
  rw [chk_fc (M := t.map (·.2)) few t 0 RS.nil [] "" Rep.nil ⟨nil_good, fun x hx => by cases hx⟩ (fun x hx => List.mem_map.mpr ⟨x, hx, rfl⟩) (.inr h)]
  exact fc_due t t.length 0 (Nat.zero_add _)
end BR

namespace BO
open PySem L2 BT BK BZ
def minSD : List D → M Sl := fun ds => match ds with | [.str x, .str y] => (fun ρ => some (.val (.dt (.str (if y.cps.toList < x.cps.toList then y else x))) ρ)) | _ => fun _ => none
theorem cd_minS {X : Cx} {pn : List (Nat × Addr)} {E : XK} : CallD X pn E (fun xs H Q => ∃ x y, xs = [.str x, .str y] ∧ Q (.str (if y.cps.toList < x.cps.toList then y else x)) H) minSD := fun σ G H ρ vs ds Q ok h p => by
  unfold minSD at p
  split at p
  · obtain ⟨v, u, rfl, hv, hu⟩ := h.two
    cases hv; cases hu
    exact ⟨_, _, rfl, p.dt ok (.str _)⟩
  · exact p.elim
theorem sc_law_order : FnScope ["names", "links", "head", "turn", "after", "middle", "one", "other", "strict", "least", "link", "name"] ["names", "links"] (defScope (top 20)) := ⟨rfl, rfl, rfl, by decide +kernel, rfl, by decide +kernel, by decide +kernel⟩
noncomputable def mH : Hd → Rho → Option (SRs × Hd) := forN un1 (seqD (mVar 0)) (bName 3) (forN un1 (seqD (mComp (seqD (mVar 1)) [10] (bName 10) (andT (toB (bin2 (mVar 10) (mC .non) (isNM true))) (notT (toB (bin2 (mVar 10) (mC (.int 2)) ixM)))) (mVar 10))) (bTup 3 (bCons (bName 6) (bCons (bName 7) (bCons (bName 8) (bNil))))) (sqN un1 (setN 9 (vE dat1 (mCall minSD (consA (dgetM (mVar 2) (mVar 6)) (consA (dgetM (mVar 2) (mVar 7)) nilA))))) put2))
noncomputable def mA : MO := forN unO (seqD (mComp (seqD (mVar 1)) [10] (bName 10) (andT (toB (bin2 (mVar 10) (mC .non) (isNM true))) (toB (bin2 (mVar 10) (mC (.int 2)) ixM))) (mVar 10))) (bTup 3 (bCons (bName 6) (bCons (bName 7) (bCons (bName 8) (bNil))))) addZ
noncomputable def mW : MO := forK (bName 5) (forK (bName 6) (ifN unO (vT dat2 (toB (dinM false (mVar 5) (dgetM (mVar 4) (mVar 6))))) updZ nxN))
noncomputable def m_law_order : MS := mk1 (mComp (seqD (mVar 0)) [11] (bName 11) (yesT) (mTup (consA (mVar 11) (consA (mVar 11) (nilA))))) (sqN un1 mH (mk2 (sqN unO mA (sqN unO (lockZ mW) retO))))
section
variable {P : Program} {w : World} {K : PySem.W.Frag} {mg : Str → Option Value} {base : Heap} {C : Addr}
theorem run_law_order {f : Addr} {fd : FuncData} (F : Fun K "_law_order" "_law_order" (top 20) f fd) (T : Tx K mg C) :
    FnOk P w K mg base CX0 1 f fd ["names", "links"] (fun vs H Q _ => SpF K (runB 12 2 [] m_law_order) vs H Q E00) := by
  have sc := sc_law_order
  refine okF [] F sc (fun pn cdv A outer s H E hpn hr => ?_)
  have hu64 := hr.units
  have hu65 := room65 hr
  have hu1 := hu_of hr
  refine psz_mk1 (pnil hpn) (ps_set sc.nd rfl (by first | exact Or.inl rfl | exact Or.inr rfl) (pe_callTy (T := "dict") (call_dictP rfl) (by rfl) T.n_dict (by decide +kernel) (pa_cons (px_lc (own := [("name", 11)]) rfl sc.nd (pix_seq (px_var (pv 0))) (blkOk_by (own := [("name", 11)]) (N := ["names", "links", "head", "turn", "after", "middle", "one", "other", "strict", "least", "link", "name"]) (sc := defScope (top 20)) (by decide +kernel)) (gb_name (np hpn (by decide))) (by decide) (npL hpn (by decide)) (fun _ _ _ _ _ => pg_name (i := 11) sc.nd rfl (by first | exact Or.inl rfl | exact Or.inr rfl)) (fun _ _ _ _ _ => ptsx_nil) (fun _ _ _ _ _ => px_tup (pax_cons (px_var (pv 11)) (pax_cons (px_var (pv 11)) (pax_nil))))) pa_nil))) (fun h => ?_)
  have hp1 : ∀ q ∈ [(2, h)], q.1 ∈ [2] := fun q hq => by simp at hq; subst hq; simp
  exact (psn_cons (fun _ => un1_iff) (psn_for (fun _ => un1_iff) PassesOwn.never rfl (pix_seq (px_var (pv 0))) (pg_name (i := 3) sc.nd rfl (by first | exact Or.inl rfl | exact Or.inr rfl)) (gb_name (np hp1 (by decide))) (psz_one (psn_for (fun _ => un1_iff) PassesOwn.never rfl (pix_seq (px_lc (own := [("link", 10)]) rfl sc.nd (pix_seq (px_var (pv 1))) (blkOk_by (own := [("link", 10)]) (N := ["names", "links", "head", "turn", "after", "middle", "one", "other", "strict", "least", "link", "name"]) (sc := defScope (top 20)) (by decide +kernel)) (gb_name (np hp1 (by decide))) (by decide) (npL hp1 (by decide)) (fun _ _ _ _ _ => pg_name (i := 10) sc.nd rfl (by first | exact Or.inl rfl | exact Or.inr rfl)) (fun _ _ _ _ _ => ptsx_one ((pwx_and (pt_c op_notN od_notN (px_var (pv 10)) (px_non) (nomark _)) (pw_and1 (ptx_not (pt_x (px_ix ix_seq od_ix (px_var (pv 10)) (px_int) (fun _ _ => rfl)))))).pt)) (fun _ _ _ _ _ => px_var (pv 10)))) (pg_tup (by rfl) (pgs_cons (pg_name (i := 6) sc.nd rfl (by first | exact Or.inl rfl | exact Or.inr rfl)) (pgs_cons (pg_name (i := 7) sc.nd rfl (by first | exact Or.inl rfl | exact Or.inr rfl)) (pgs_cons (pg_name (i := 8) sc.nd rfl (by first | exact Or.inl rfl | exact Or.inr rfl)) (pgs_nil))))) (gb_tup (gbs_cons (gb_name (np hp1 (by decide))) (gbs_cons (gb_name (np hp1 (by decide))) (gbs_cons (gb_name (np hp1 (by decide))) (gbs_nil))))) (psn_cons (fun _ => un1_iff) (psn_set (j := 9) (fun q hq => by { simp [Z1] at hq; subst hq; show (2 : Nat) ≠ 9; decide }) sc.nd rfl (by first | exact Or.inl rfl | exact Or.inr rfl) (pen_view (px_callB (BD.call_minS rfl) cd_minS (by rfl) T.n_min (by decide +kernel) (pax_cons (px_dget hu1 (px_var (pv 2)) (px_var (pv 6)) (fun _ _ => rfl)) (pax_cons (px_dget hu1 (px_var (pv 2)) (px_var (pv 7)) (fun _ _ => rfl)) pax_nil))))) (psz_one (psz_put2 (ps_asg (pe_tup (pa_cons (pv 9) (pa_cons (pv 9) pa_nil))) (pg_tup rfl (pgs_cons (pg_sub (pv 2) (pv 6) (BD.set_k hu1)) (pgs_cons (pg_sub (pv 2) (pv 7) (BD.set_k hu1)) pgs_nil)))))))))) (psz_mk2 (ps_set sc.nd rfl (by first | exact Or.inl rfl | exact Or.inr rfl) (pe_callTy (T := "dict") (call_dictP rfl) (by rfl) T.n_dict (by decide +kernel) (pa_cons (pe_lc (own := [("name", 11)]) rfl sc.nd (pix_seq (px_var (pv 0))) (blkOk_by (own := [("name", 11)]) (N := ["names", "links", "head", "turn", "after", "middle", "one", "other", "strict", "least", "link", "name"]) (sc := defScope (top 20)) (by decide +kernel)) (fun _ _ _ _ _ => pg_name (i := 11) sc.nd rfl (by first | exact Or.inl rfl | exact Or.inr rfl)) (fun _ _ _ _ _ => pts_nil) (fun _ _ _ _ _ => pe_tup (pa_cons (pe_dget hu1 (pv 2) (pv 11) (fun _ _ => rfl)) (pa_cons pe_dnewK pa_nil)))) pa_nil))) (fun d as nd => by have hp2 : ∀ q ∈ [(2, h), (4, d)], q.1 ∈ [2, 4] := fun q hq => by { simp at hq; rcases hq with rfl | rfl <;> simp }; exact (psn_cons (fun _ => unO_iff) (psn_for (fun _ => unO_iff) PassesOwn.never rfl (pix_seq (px_lc (own := [("link", 10)]) rfl sc.nd (pix_seq (px_var (pv 1))) (blkOk_by (own := [("link", 10)]) (N := ["names", "links", "head", "turn", "after", "middle", "one", "other", "strict", "least", "link", "name"]) (sc := defScope (top 20)) (by decide +kernel)) (gb_name (np hp2 (by decide))) (by decide) (npL hp2 (by decide)) (fun _ _ _ _ _ => pg_name (i := 10) sc.nd rfl (by first | exact Or.inl rfl | exact Or.inr rfl)) (fun _ _ _ _ _ => ptsx_one ((pwx_and (pt_c op_notN od_notN (px_var (pv 10)) (px_non) (nomark _)) (pw_and1 (pt_x (px_ix ix_seq od_ix (px_var (pv 10)) (px_int) (fun _ _ => rfl))))).pt)) (fun _ _ _ _ _ => px_var (pv 10)))) (pg_tup (by rfl) (pgs_cons (pg_name (i := 6) sc.nd rfl (by first | exact Or.inl rfl | exact Or.inr rfl)) (pgs_cons (pg_name (i := 7) sc.nd rfl (by first | exact Or.inl rfl | exact Or.inr rfl)) (pgs_cons (pg_name (i := 8) sc.nd rfl (by first | exact Or.inl rfl | exact Or.inr rfl)) (pgs_nil))))) (gb_tup (gbs_cons (gb_name (np hp2 (by decide))) (gbs_cons (gb_name (np hp2 (by decide))) (gbs_cons (gb_name (np hp2 (by decide))) (gbs_nil))))) (psz_one (psz_add nd (ps_dput hu1 (pe_dget hu1 (pv 4) (pe_dget hu1 (pv 2) (pv 6) (fun _ _ => rfl)) (fun _ _ => rfl)) (pe_dget hu1 (pv 2) (pv 7) (fun _ _ => rfl)) pe_bl rfl)))) (psn_cons (fun _ => unO_iff) (psz_lock nd (fun od => psz_forK PassesOwn.never rfl (pv 4) (pg_name (i := 5) sc.nd rfl (by first | exact Or.inl rfl | exact Or.inr rfl)) (gb_name (np hp2 (by decide))) (psz_one (psz_forK PassesOwn.never rfl (pv 4) (pg_name (i := 6) sc.nd rfl (by first | exact Or.inl rfl | exact Or.inr rfl)) (gb_name (np hp2 (by decide))) (psz_one (psn_if (fun _ => unO_iff) (ptn_view (pt_din hu1 (px_var (pv 5)) (px_dget hu1 (px_var (pv 4)) (px_var (pv 6)) (fun _ _ => rfl)))) (psz_one (psz_upd nd (ps_expr (BD.pe_dupd (pe_dget hu1 (pv 4) (pv 6) (fun _ _ => rfl)) (pe_dget hu1 (pv 4) (pv 5) (fun _ _ => rfl)) ⟨rfl, rfl, rfl, rfl⟩)))) psn_nil)))))) (psz_one (psz_retO (ps_ret (pe_tup (pa_cons (pv 2) (pa_cons (pv 4) pa_nil)))))))))))
end
end BO

/-! What _law_order computes. -/
namespace BO
open PySem L2 BT BK BZ
theorem vE_val {S : Type} {dat : S → Nat → Option D} {f : M Sl} {s : S} {ρ : Rho} {x : Sl} (hf : frzAll ρ = ρ) (h : f (vwN dat s ρ) = some (.val x (vwN dat s ρ))) (a : atomS x = true) : vE dat f s ρ = some (x, ρ) := by
  unfold vE
  rw [hf, h]
  exact if_pos ⟨rfl, a⟩
theorem vT_val {S : Type} {dat : S → Nat → Option D} {f : M Bool} {s : S} {ρ : Rho} {x : Bool} (hf : frzAll ρ = ρ) (h : f (vwN dat s ρ) = some (.val x (vwN dat s ρ))) : vT dat f s ρ = some (x, ρ) := by
  unfold vT
  rw [hf, h]
  exact if_pos rfl
theorem dlook_hd : ∀ (hd : Hd) (k : Str), dlook (.inr k) (hdD hd) = (lookS hd k).map D.str
  | [], _ => rfl
  | x :: r, k => by
    have ih := dlook_hd r k
    unfold lookS at ih ⊢
    simp only [hdD, List.map_cons, dlook, List.find?_cons] at ih ⊢
    by_cases c : x.1 = k
    · have c' : (Sum.inr x.1 : Key) = Sum.inr k := by rw [c]
      rw [if_pos c', decide_eq_true c]; rfl
    · have c' : ¬ ((Sum.inr x.1 : Key) = Sum.inr k) := fun q => c (Sum.inr.inj q)
      rw [if_neg c', decide_eq_false c]; exact ih
theorem dlook_af : ∀ (af : Af) (k : Str), dlook (.inr k) (afD af) = (lookA af k).map fun ks => D.dic (ksD ks)
  | [], _ => rfl
  | x :: r, k => by
    have ih := dlook_af r k
    simp only [afD, List.map_cons, dlook, lookA] at ih ⊢
    by_cases c : x.1 = k
    · have c' : (Sum.inr x.1 : Key) = Sum.inr k := by rw [c]
      rw [if_pos c', if_pos c]; rfl
    · have c' : ¬ ((Sum.inr x.1 : Key) = Sum.inr k) := fun q => c (Sum.inr.inj q)
      rw [if_neg c', if_neg c]; exact ih
theorem dlook_ks : ∀ (ks : List Str) (k : Str), (dlook (.inr k) (ksD ks)).isSome = decide (k ∈ ks)
  | [], _ => rfl
  | x :: r, k => by
    have ih := dlook_ks r k
    simp only [ksD, List.map_cons, dlook] at ih ⊢
    by_cases c : x = k
    · have c' : (Sum.inr x : Key) = Sum.inr k := by rw [c]
      rw [if_pos c']; subst c; simp
    · have c' : ¬ ((Sum.inr x : Key) = Sum.inr k) := fun q => c (Sum.inr.inj q)
      have c2 : ¬ k = x := fun z => c z.symm
      rw [if_neg c', ih]; simp [c2]
/-- the state: data, and what the loops have left -/
def sO (N L : D) (t m o p s l : Sl) : Rho := [.dt N, .dt L, .un, t, .un, m, o, p, s, l, .un, .un]
def clean (x : Sl) : Prop := frz1 x = x
theorem sO_frz {N L : D} {t m o p s l : Sl} (ht : clean t) (hm : clean m) (ho : clean o) (hp : clean p) (hs : clean s) (hl : clean l) : frzAll (sO N L t m o p s l) = sO N L t m o p s l := by
  unfold clean at *
  simp only [frzAll, sO, List.map_cons, List.map_nil, ht, hm, ho, hp, hs, hl]
  rfl
theorem clean_dt (d : D) : clean (.dt d) := rfl
def lkP (l : Str × Str × Bool) : D := .tup [.str l.1, .str l.2.1, .bl l.2.2]
/-- the links of a kind -/
def ofKind (k : Bool) (ls : List Lk) : List (Str × Str × Bool) := (ls.filterMap id).filter fun l => l.2.2 == k
theorem comp_links2 {N : D} {t m o p s l : Sl} (ls : List Lk) (few : ls.length ≤ 1000) (k : Bool) (tst : M Bool)
    (h : ∀ (x : Lk), tst [.dt N, .dt (.lst (ls.map lkD)), .un, t, .un, m, o, p, s, l, .dt (lkD x), .un] = some (.val (match x with | some (_, _, b) => b == k | none => false) [.dt N, .dt (.lst (ls.map lkD)), .un, t, .un, m, o, p, s, l, .dt (lkD x), .un])) :
    seqD (mComp (seqD (mVar 1)) [10] (bName 10) tst (mVar 10)) (sO N (.lst (ls.map lkD)) t m o p s l) = some (.val ((ofKind k ls).map lkP) (sO N (.lst (ls.map lkD)) t m o p s l)) := by
  have src : seqD (mVar 1) (sO N (.lst (ls.map lkD)) t m o p s l) = some (.val (ls.map lkD) (sO N (.lst (ls.map lkD)) t m o p s l)) := by simp [sO]
  have C := compL_pure (b := bName 10) (t := tst) (e := mVar 10) (vs := [10]) (ρ := sO N (.lst (ls.map lkD)) t m o p s l) (p := fun d => match d with | .tup [_, _, .bl b] => b == k | _ => false) (g := id) (ls.map lkD) []
    (fun d hd => by
      obtain ⟨x, hx, rfl⟩ := List.mem_map.mp hd
      refine ⟨[.dt N, .dt (.lst (ls.map lkD)), .un, t, .un, m, o, p, s, l, .dt (lkD x), .un], by simp [sO], ?_, by simp, by simp [sO], fun _ => ⟨.dt (lkD x), by simp, rfl⟩⟩
      rw [h x]
      cases x with
      | none => rfl
      | some q => obtain ⟨a, b, c⟩ := q; rfl)
    (by simpa using line_big few)
  have F : ((ls.map lkD).filter (fun d => match d with | .tup [_, _, .bl b] => b == k | _ => false)).map id = (ofKind k ls).map lkP := by
    rw [List.map_id]
    unfold ofKind
    clear C src h few
    induction ls with
    | nil => rfl
    | cons x r ih =>
      cases x with
      | none =>
        rw [List.map_cons, List.filter_cons_of_neg (by simp [lkD]), ih]; rfl
      | some q =>
        obtain ⟨a, b, c⟩ := q
        by_cases z : (c == k) = true
        · rw [List.map_cons, List.filter_cons_of_pos (by simpa [lkD] using z), ih]
          simp [z, lkP, lkD]
        · rw [List.map_cons, List.filter_cons_of_neg (by simpa [lkD] using z), ih]
          simp [z]
  rw [F, List.nil_append] at C
  have w1 : noOl (sO N (.lst (ls.map lkD)) t m o p s l) [10] = true := by simp [sO]
  have w2 : wipeR (sO N (.lst (ls.map lkD)) t m o p s l) [10] = sO N (.lst (ls.map lkD)) t m o p s l := by simp [sO]
  have w3 : restR (sO N (.lst (ls.map lkD)) t m o p s l) (sO N (.lst (ls.map lkD)) t m o p s l) [10] = sO N (.lst (ls.map lkD)) t m o p s l := by simp [sO]
  have M : mComp (seqD (mVar 1)) [10] (bName 10) tst (mVar 10) (sO N (.lst (ls.map lkD)) t m o p s l) = some (.val (.ol ((ofKind k ls).map lkP)) (sO N (.lst (ls.map lkD)) t m o p s l)) := by
    simp only [mComp, bindM, src, w1, if_true, w2, C, w3]
  simp only [seqD, bindD, bindM, M, Sl.frz]
end BO

namespace BO
open PySem L2 BT BK BZ
def minS (x y : Str) : Str := if y.cps.toList < x.cps.toList then y else x
def getS (hd : Hd) (k : Str) : Str := (lookS hd k).getD ""
def stepT (hd : Hd) (e : Str × Str × Bool) : Hd := putS (putS hd e.1 (minS (getS hd e.1) (getS hd e.2.1))) e.2.1 (minS (getS hd e.1) (getS hd e.2.1))
def keysH (hd : Hd) : List Str := hd.map (·.1)
theorem lookS_key {hd : Hd} {k : Str} (h : k ∈ keysH hd) : lookS hd k = some (getS hd k) := by
  unfold getS
  cases e : lookS hd k with
  | some v => rfl
  | none =>
    unfold lookS at e
    rw [Option.map_eq_none_iff, List.find?_eq_none] at e
    obtain ⟨x, hx, rfl⟩ := List.mem_map.mp h
    exact absurd (decide_eq_true rfl) (e x hx)
theorem putS_keys {hd : Hd} {k v : Str} (h : k ∈ keysH hd) : keysH (putS hd k v) = keysH hd := by
  unfold putS keysH
  obtain ⟨x, hx, e⟩ := List.mem_map.mp h
  rw [if_pos (List.any_eq_true.mpr ⟨x, hx, by simpa using e⟩), List.map_map]
  apply List.map_congr_left
  intro y _
  simp only [Function.comp]
  split <;> rfl
theorem lookS_put {hd : Hd} {k v j : Str} (h : k ∈ keysH hd) : lookS (putS hd k v) j = if j = k then some v else lookS hd j := by
  unfold putS
  obtain ⟨x, hx, e⟩ := List.mem_map.mp h
  have ea : (hd.any fun x => decide (x.1 = k)) = true := List.any_eq_true.mpr ⟨x, hx, by simpa using e⟩
  rw [if_pos ea]
  clear ea
  unfold lookS
  rw [List.find?_map]
  have ef : ((fun z : Str × Str => decide (z.1 = j)) ∘ fun z : Str × Str => if z.1 = k then (z.1, v) else z) = fun z => decide (z.1 = j) := by
    funext z
    simp only [Function.comp]
    split <;> rfl
  rw [ef]
  cases f : hd.find? (fun z => decide (z.1 = j)) with
  | some z =>
    have ez : z.1 = j := by simpa using List.find?_some f
    simp only [Option.map_some]
    by_cases c : j = k
    · rw [if_pos c, if_pos (ez.trans c)]
    · rw [if_neg c, if_neg (fun q => c (ez ▸ q))]
  | none =>
    by_cases c : j = k
    · subst c
      exact absurd (List.find?_eq_none.mp f x hx) (by simp [e])
    · rw [if_neg c]; rfl
theorem stepT_keys {hd : Hd} {e : Str × Str × Bool} (h1 : e.1 ∈ keysH hd) (h2 : e.2.1 ∈ keysH hd) : keysH (stepT hd e) = keysH hd := by
  unfold stepT
  rw [putS_keys (by rw [putS_keys h1]; exact h2), putS_keys h1]
noncomputable abbrev bodyH : Hd → Rho → Option (SRs × Hd) := sqN un1 (setN 9 (vE dat1 (mCall minSD (consA (dgetM (mVar 2) (mVar 6)) (consA (dgetM (mVar 2) (mVar 7)) nilA))))) put2
section
variable {N L : D} {t m o p s l : Sl}
theorem body_h {hd : Hd} {a b : Str} (h1 : a ∈ keysH hd) (h2 : b ∈ keysH hd) (few : hd.length + 2 ≤ 1000) (ht : clean t) (hm : clean m) (hs : clean s) (hl : clean l) :
    bodyH hd (sO N L t m (.dt (.str a)) (.dt (.str b)) s l) = some (.nx (sO N L t m (.dt (.str a)) (.dt (.str b)) s (.dt (.str (minS (getS hd a) (getS hd b))))), stepT hd (a, b, false)) := by
  have fz := sO_frz (N := N) (L := L) ht hm (clean_dt (.str a)) (clean_dt (.str b)) hs hl
  have vw : vwN dat1 hd (sO N L t m (.dt (.str a)) (.dt (.str b)) s l) = [.dt N, .dt L, .dt (.dic (hdD hd)), t, .un, m, .dt (.str a), .dt (.str b), s, l, .un, .un] := rfl
  have e1 := dlook_hd hd a
  have e2 := dlook_hd hd b
  rw [lookS_key h1] at e1
  rw [lookS_key h2] at e2
  have ev : mCall minSD (consA (dgetM (mVar 2) (mVar 6)) (consA (dgetM (mVar 2) (mVar 7)) nilA)) [.dt N, .dt L, .dt (.dic (hdD hd)), t, .un, m, .dt (.str a), .dt (.str b), s, l, .un, .un] =
      some (.val (.dt (.str (minS (getS hd a) (getS hd b)))) [.dt N, .dt L, .dt (.dic (hdD hd)), t, .un, m, .dt (.str a), .dt (.str b), s, l, .un, .un]) := by
    simp [keyD, e1, e2, minSD, minS]
  have V := vE_val (dat := dat1) (s := hd) (f := mCall minSD (consA (dgetM (mVar 2) (mVar 6)) (consA (dgetM (mVar 2) (mVar 7)) nilA))) (x := .dt (.str (minS (getS hd a) (getS hd b)))) fz (by rw [vw]; exact ev) rfl
  unfold bodyH sqN setN
  rw [V]
  simp only [sO, List.length_cons, List.length_nil]
  simp [un1, unAt, isUn, put2, few, stepT]
theorem loop_h : ∀ (es : List (Str × Str × Bool)) (hd : Hd) (t m o p s l : Sl), (∀ e ∈ es, e.1 ∈ keysH hd ∧ e.2.1 ∈ keysH hd) → hd.length + 2 ≤ 1000 → clean t → clean m → clean o → clean p → clean s → clean l →
    ∃ o' p' s' l', (clean o' ∧ clean p' ∧ clean s' ∧ clean l') ∧ loopN un1 (bTup 3 (bCons (bName 6) (bCons (bName 7) (bCons (bName 8) (bNil))))) bodyH (es.map lkP) hd (sO N L t m o p s l) = some (.nx (sO N L t m o' p' s' l'), es.foldl stepT hd)
  | [], hd, t, m, o, p, s, l, _, _, _, _, ho, hp, hs, hl => ⟨o, p, s, l, ⟨ho, hp, hs, hl⟩, rfl⟩
  | (a, b, k) :: es, hd, t, m, o, p, s, l, hk, few, ht, hm, ho, hp, hs, hl => by
    obtain ⟨h1, h2⟩ := hk (a, b, k) (by simp)
    have B := body_h (N := N) (L := L) (t := t) (m := m) (s := .dt (.bl k)) (l := l) h1 h2 few ht hm (clean_dt _) hl
    have ks : keysH (stepT hd (a, b, false)) = keysH hd := stepT_keys h1 h2
    have len : (stepT hd (a, b, false)).length = hd.length := by have := congrArg List.length ks; simpa [keysH] using this
    obtain ⟨o', p', s', l', c, ih⟩ := loop_h es (stepT hd (a, b, false)) t m (.dt (.str a)) (.dt (.str b)) (.dt (.bl k)) (.dt (.str (minS (getS hd a) (getS hd b)))) (fun e he => by rw [ks]; exact hk e (by simp [he])) (by omega) ht hm (clean_dt _) (clean_dt _) (clean_dt _) (clean_dt _)
    refine ⟨o', p', s', l', c, ?_⟩
    have hb : bTup 3 (bCons (bName 6) (bCons (bName 7) (bCons (bName 8) (bNil)))) (lkP (a, b, k)) (sO N L t m o p s l) = some (sO N L t m (.dt (.str a)) (.dt (.str b)) (.dt (.bl k)) l) := by simp [sO, lkP]
    have u : ∀ {o p s l}, un1 (sO N L t m o p s l) = true := rfl
    simp only [List.map_cons, loopN, hb, u, if_true, B]
    rw [ih]; rfl
end
def rounds (es : List (Str × Str × Bool)) : List Str → Hd → Hd
  | [], hd => hd
  | _ :: ns, hd => rounds es ns (es.foldl stepT hd)
theorem fold_keys : ∀ (es : List (Str × Str × Bool)) (hd : Hd), (∀ e ∈ es, e.1 ∈ keysH hd ∧ e.2.1 ∈ keysH hd) → keysH (es.foldl stepT hd) = keysH hd
  | [], _, _ => rfl
  | e :: es, hd, h => by
    obtain ⟨h1, h2⟩ := h e (by simp)
    have k := stepT_keys h1 h2
    show keysH (es.foldl stepT (stepT hd e)) = _
    rw [fold_keys es (stepT hd e) (fun x hx => by rw [k]; exact h x (by simp [hx])), k]
theorem eq_mH {ns : List Str} {ls : List Lk} (few : ls.length ≤ 1000) : ∀ (ms : List Str) (hd : Hd) (t m o p s l : Sl), (∀ e ∈ ofKind false ls, e.1 ∈ keysH hd ∧ e.2.1 ∈ keysH hd) → hd.length + 2 ≤ 1000 → clean t → clean m → clean o → clean p → clean s → clean l →
    ∃ t' o' p' s' l', (clean t' ∧ clean o' ∧ clean p' ∧ clean s' ∧ clean l') ∧ loopN un1 (bName 3) (forN un1 (seqD (mComp (seqD (mVar 1)) [10] (bName 10) (andT (toB (bin2 (mVar 10) (mC .non) (isNM true))) (notT (toB (bin2 (mVar 10) (mC (.int 2)) ixM)))) (mVar 10))) (bTup 3 (bCons (bName 6) (bCons (bName 7) (bCons (bName 8) (bNil))))) bodyH) (ms.map .str) hd (sO (.lst (ns.map .str)) (.lst (ls.map lkD)) t m o p s l) =
      some (.nx (sO (.lst (ns.map .str)) (.lst (ls.map lkD)) t' m o' p' s' l'), rounds (ofKind false ls) ms hd)
  | [], hd, t, m, o, p, s, l, _, _, ht, _, ho, hp, hs, hl => ⟨t, o, p, s, l, ⟨ht, ho, hp, hs, hl⟩, rfl⟩
  | x :: ms, hd, t, m, o, p, s, l, hk, f2, ht, hm, ho, hp, hs, hl => by
    have src := comp_links2 (N := .lst (ns.map .str)) (t := .dt (.str x)) (m := m) (o := o) (p := p) (s := s) (l := l) ls few false (andT (toB (bin2 (mVar 10) (mC .non) (isNM true))) (notT (toB (bin2 (mVar 10) (mC (.int 2)) ixM)))) (fun y => by
      cases y with
      | none => simp [lkD]
      | some q => obtain ⟨a, b, c⟩ := q; cases c <;> simp [lkD, atI, ixN])
    obtain ⟨o1, p1, s1, l1, ⟨c1, c2, c3, c4⟩, B⟩ := loop_h (N := .lst (ns.map .str)) (L := .lst (ls.map lkD)) (ofKind false ls) hd (.dt (.str x)) m o p s l hk f2 (clean_dt _) hm ho hp hs hl
    have fk := fold_keys (ofKind false ls) hd hk
    have len : ((ofKind false ls).foldl stepT hd).length = hd.length := by have := congrArg List.length fk; simpa [keysH] using this
    obtain ⟨t', o', p', s', l', c, ih⟩ := eq_mH (ns := ns) few ms ((ofKind false ls).foldl stepT hd) (.dt (.str x)) m o1 p1 s1 l1 (fun e he => by rw [fk]; exact hk e he) (by omega) (clean_dt _) hm c1 c2 c3 c4
    refine ⟨t', o', p', s', l', c, ?_⟩
    have hb : bName 3 (.str x) (sO (.lst (ns.map .str)) (.lst (ls.map lkD)) t m o p s l) = some (sO (.lst (ns.map .str)) (.lst (ls.map lkD)) (.dt (.str x)) m o p s l) := by simp [sO]
    have u : ∀ {t m o p s l}, un1 (sO (.lst (ns.map .str)) (.lst (ls.map lkD)) t m o p s l) = true := rfl
    simp only [List.map_cons, loopN, hb, u, if_true, forN, src, B]
    rw [ih]; rfl
end BO

namespace BO
open PySem L2 BT BK BZ
def getA (af : Af) (u : Str) : List Str := (lookA af u).getD []
theorem lookA_key : ∀ {af : Af} {u : Str}, u ∈ keysA af → lookA af u = some (getA af u)
  | [], _, h => by simp [keysA] at h
  | x :: r, u, h => by
    unfold getA lookA
    split
    · rfl
    · rename_i c
      have : u ∈ keysA r := by
        simp only [keysA, List.map_cons, List.mem_cons] at h
        exact h.resolve_left fun z => c z.symm
      have := lookA_key this
      rw [this]; rfl
theorem lookA_set : ∀ {af : Af} {u v : Str} {ks : List Str}, u ∈ keysA af → lookA (setA af u ks) v = if v = u then some ks else lookA af v
  | [], _, _, _, h => by simp [keysA] at h
  | x :: r, u, v, ks, h => by
    unfold setA
    by_cases c : x.1 = u
    · rw [if_pos c]
      unfold lookA
      by_cases d : v = u
      · rw [if_pos d, if_pos (c.trans d.symm)]
      · rw [if_neg d, if_neg (fun z => d (z.symm.trans c)), if_neg (fun z => d (z.symm.trans c))]
    · rw [if_neg c]
      have hr : u ∈ keysA r := by
        simp only [keysA, List.map_cons, List.mem_cons] at h
        exact h.resolve_left fun z => c z.symm
      unfold lookA
      by_cases d : x.1 = v
      · rw [if_pos d, if_pos d, if_neg (fun z => c (d.trans z))]
      · rw [if_neg d, if_neg d]; exact lookA_set hr
theorem getA_set {af : Af} {u v : Str} {ks : List Str} (h : u ∈ keysA af) : getA (setA af u ks) v = if v = u then ks else getA af v := by
  unfold getA
  rw [lookA_set h]
  split <;> rfl
/-- the inner entries stay within U -/
def AOk (U : List Str) (af : Af) : Prop := ∀ u ∈ keysA af, (getA af u).Nodup ∧ ∀ y ∈ getA af u, y ∈ U
theorem AOk.len {U : List Str} {af : Af} (h : AOk U af) (few : U.length ≤ 400) {u : Str} (hu : u ∈ keysA af) : (getA af u).length ≤ 400 := by
  obtain ⟨n, s⟩ := h u hu
  exact Nat.le_trans (BS.len_of_sub n s) few
theorem AOk.set {U : List Str} {af : Af} (h : AOk U af) {u : Str} {ks : List Str} (hu : u ∈ keysA af) (n : ks.Nodup) (s : ∀ y ∈ ks, y ∈ U) : AOk U (setA af u ks) := fun v hv => by
  rw [keys_set] at hv
  rw [getA_set hu]
  split
  · exact ⟨n, s⟩
  · exact h v hv
theorem merge_nd {ms : List Str} : ∀ {ks : List Str}, ks.Nodup → (mergeS ks ms).Nodup := by
  induction ms with
  | nil => intro ks n; exact n
  | cons m r ih => intro ks n; exact ih (addK_nd n m)
def stepA (hd : Hd) (af : Af) (e : Str × Str × Bool) : Af := setA af (getS hd e.1) (addK (getA af (getS hd e.1)) (getS hd e.2.1))
def stepW (m : Str) (af : Af) (o : Str) : Af := if m ∈ getA af o then setA af o (mergeS (getA af o) (getA af m)) else af
def inW (m : Str) (ks : List Str) (af : Af) : Af := ks.foldl (stepW m) af
def outW : List Str → Af → Af
  | [], af => af
  | m :: r, af => outW r (inW m (keysA af) af)
theorem stepW_keys (m : Str) (af : Af) (o : Str) : keysA (stepW m af o) = keysA af := by unfold stepW; split <;> simp [keys_set]
theorem stepW_ok {U : List Str} {m o : Str} {af : Af} (h : AOk U af) (hm : m ∈ keysA af) (ho : o ∈ keysA af) : AOk U (stepW m af o) := by
  unfold stepW
  split
  · exact h.set ho (merge_nd (h o ho).1) fun y hy => (mem_mergeS.mp hy).elim ((h o ho).2 y) ((h m hm).2 y)
  · exact h
section
variable {N L : D} {t m o p s l : Sl}
theorem loop_a {U : List Str} (fewU : U.length ≤ 400) {hd : Hd} : ∀ (es : List (Str × Str × Bool)) (af : Af) (o p s : Sl), (∀ e ∈ es, e.1 ∈ keysH hd ∧ e.2.1 ∈ keysH hd ∧ getS hd e.1 ∈ keysA af ∧ getS hd e.2.1 ∈ U) → AOk U af → clean o → clean p → clean s →
    ∃ o' p' s', (clean o' ∧ clean p' ∧ clean s') ∧ keysA (es.foldl (stepA hd) af) = keysA af ∧ AOk U (es.foldl (stepA hd) af) ∧ loopN unO (bTup 3 (bCons (bName 6) (bCons (bName 7) (bCons (bName 8) (bNil))))) addZ (es.map lkP) (hd, af) (sO N L t m o p s l) = some (.nx (sO N L t m o' p' s' l), (hd, es.foldl (stepA hd) af))
  | [], af, o, p, s, _, ok, ho, hp, hs => ⟨o, p, s, ⟨ho, hp, hs⟩, rfl, ok, rfl⟩
  | (a, b, k) :: es, af, o, p, s, hk, ok, ho, hp, hs => by
    obtain ⟨h1, h2, h3, h4⟩ := hk (a, b, k) (by simp)
    have e1 := lookS_key h1
    have e2 := lookS_key h2
    have e3 := lookA_key h3
    have few := ok.len fewU h3
    have B : addZ (hd, af) (sO N L t m (.dt (.str a)) (.dt (.str b)) (.dt (.bl k)) l) = some (.nx (sO N L t m (.dt (.str a)) (.dt (.str b)) (.dt (.bl k)) l), (hd, stepA hd af (a, b, k))) := by
      unfold addZ
      have lt : (getA af (getS hd a)).length < 1000 := by simp only at few; omega
      simp [sO, e1, e2, e3, lt, stepA]
    have ks : keysA (stepA hd af (a, b, k)) = keysA af := keys_set _ _ _
    have ok2 : AOk U (stepA hd af (a, b, k)) := ok.set h3 (addK_nd (ok _ h3).1 _) fun y hy => (mem_addK.mp hy).elim ((ok _ h3).2 y) fun z => z ▸ h4
    obtain ⟨o', p', s', c, kk, ok3, ih⟩ := loop_a fewU es (stepA hd af (a, b, k)) (.dt (.str a)) (.dt (.str b)) (.dt (.bl k)) (fun e he => by rw [ks]; exact hk e (by simp [he])) ok2 (clean_dt _) (clean_dt _) (clean_dt _)
    refine ⟨o', p', s', c, kk.trans ks, ok3, ?_⟩
    have hb : bTup 3 (bCons (bName 6) (bCons (bName 7) (bCons (bName 8) (bNil)))) (lkP (a, b, k)) (sO N L t m o p s l) = some (sO N L t m (.dt (.str a)) (.dt (.str b)) (.dt (.bl k)) l) := by simp [sO, lkP]
    have u : ∀ {o p s}, unO (sO N L t m o p s l) = true := rfl
    simp only [List.map_cons, loopN, hb, u, if_true, B]
    rw [ih]; rfl
noncomputable abbrev bodyW : Hd × Af → Rho → Option (SRs × (Hd × Af)) := ifN unO (vT dat2 (toB (dinM false (mVar 5) (dgetM (mVar 4) (mVar 6))))) updZ nxN
theorem body_w {U : List Str} (fewU : U.length ≤ 400) {hd : Hd} {af : Af} {x y : Str} (ok : AOk U af) (hx : x ∈ keysA af) (hy : y ∈ keysA af) (ht : clean t) (hp : clean p) (hs : clean s) (hl : clean l) :
    bodyW (hd, af) (sO N L t (.dt (.str x)) (.dt (.str y)) p s l) = some (.nx (sO N L t (.dt (.str x)) (.dt (.str y)) p s l), (hd, stepW x af y)) := by
  have fz := sO_frz (N := N) (L := L) ht (clean_dt (.str x)) (clean_dt (.str y)) hp hs hl
  have vw : vwN dat2 (hd, af) (sO N L t (.dt (.str x)) (.dt (.str y)) p s l) = [.dt N, .dt L, .dt (.dic (hdD hd)), t, .dt (.dic (afD af)), .dt (.str x), .dt (.str y), p, s, l, .un, .un] := rfl
  have e1 := dlook_af af y
  rw [lookA_key hy] at e1
  have e2 := dlook_ks (getA af y) x
  have ev : toB (dinM false (mVar 5) (dgetM (mVar 4) (mVar 6))) [.dt N, .dt L, .dt (.dic (hdD hd)), t, .dt (.dic (afD af)), .dt (.str x), .dt (.str y), p, s, l, .un, .un] =
      some (.val (decide (x ∈ getA af y)) [.dt N, .dt L, .dt (.dic (hdD hd)), t, .dt (.dic (afD af)), .dt (.str x), .dt (.str y), p, s, l, .un, .un]) := by
    simp [keyD, e1, e2]
  have V := vT_val (dat := dat2) (s := (hd, af)) (f := toB (dinM false (mVar 5) (dgetM (mVar 4) (mVar 6)))) (x := decide (x ∈ getA af y)) fz (by rw [vw]; exact ev)
  have u : unO (sO N L t (.dt (.str x)) (.dt (.str y)) p s l) = true := rfl
  unfold bodyW ifN
  rw [V]
  simp only [u, if_true]
  unfold stepW
  by_cases c : x ∈ getA af y
  · rw [if_pos (decide_eq_true c), if_pos c]
    have l1 := ok.len fewU hx
    have l2 := ok.len fewU hy
    have lt : (getA af y).length + (getA af x).length ≤ 1000 := by omega
    unfold updZ
    simp [sO, lookA_key hx, lookA_key hy, lt]
  · rw [if_neg (by simpa using c), if_neg c]; rfl
theorem loop_w {U : List Str} (fewU : U.length ≤ 400) {hd : Hd} {x : Str} (ht : clean t) (hp : clean p) (hs : clean s) (hl : clean l) : ∀ (ks : List Str) (af : Af) (o : Sl), AOk U af → x ∈ keysA af → (∀ k ∈ ks, k ∈ keysA af) → clean o →
    ∃ o', clean o' ∧ keysA (inW x ks af) = keysA af ∧ AOk U (inW x ks af) ∧ loopK (bName 6) bodyW ks (hd, af) (sO N L t (.dt (.str x)) o p s l) = some (.nx (sO N L t (.dt (.str x)) o' p s l), (hd, inW x ks af))
  | [], af, o, ok, _, _, ho => ⟨o, ho, rfl, ok, rfl⟩
  | k :: ks, af, o, ok, hx, hk, ho => by
    have hk0 := hk k (by simp)
    have B := body_w (N := N) (L := L) (hd := hd) (x := x) (y := k) (t := t) (p := p) (s := s) (l := l) fewU ok hx hk0 ht hp hs hl
    have sk := stepW_keys x af k
    obtain ⟨o', c, e1, e2, ih⟩ := loop_w fewU (hd := hd) (x := x) ht hp hs hl ks (stepW x af k) (.dt (.str k)) (stepW_ok ok hx hk0) (by rw [sk]; exact hx) (fun z hz => by rw [sk]; exact hk z (by simp [hz])) (clean_dt _)
    refine ⟨o', c, e1.trans sk, e2, ?_⟩
    have hb : bName 6 (.str k) (sO N L t (.dt (.str x)) o p s l) = some (sO N L t (.dt (.str x)) (.dt (.str k)) p s l) := by simp [sO]
    have u : ∀ {o}, unO (sO N L t (.dt (.str x)) o p s l) = true := rfl
    simp only [loopK, hb, u, if_true, B, sk, and_self]
    exact ih
theorem loop_ww {U : List Str} (fewU : U.length ≤ 400) {hd : Hd} (ht : clean t) (hp : clean p) (hs : clean s) (hl : clean l) : ∀ (ks : List Str) (af : Af) (m o : Sl), AOk U af → (∀ k ∈ ks, k ∈ keysA af) → clean m → clean o →
    ∃ m' o', (clean m' ∧ clean o') ∧ keysA (outW ks af) = keysA af ∧ AOk U (outW ks af) ∧ loopK (bName 5) (forK (bName 6) bodyW) ks (hd, af) (sO N L t m o p s l) = some (.nx (sO N L t m' o' p s l), (hd, outW ks af))
  | [], af, m, o, ok, _, hm, ho => ⟨m, o, ⟨hm, ho⟩, rfl, ok, rfl⟩
  | k :: ks, af, m, o, ok, hk, hm, ho => by
    obtain ⟨o1, c1, k1, ok1, B⟩ := loop_w (N := N) (L := L) (t := t) (p := p) (s := s) (l := l) fewU (hd := hd) (x := k) ht hp hs hl (keysA af) af o ok (hk k (by simp)) (fun z hz => hz) ho
    obtain ⟨m', o', c, e1, e2, ih⟩ := loop_ww fewU (hd := hd) ht hp hs hl ks (inW k (keysA af) af) (.dt (.str k)) o1 ok1 (fun z hz => by rw [k1]; exact hk z (by simp [hz])) (clean_dt _) c1
    refine ⟨m', o', c, e1.trans k1, e2, ?_⟩
    have hb : bName 5 (.str k) (sO N L t m o p s l) = some (sO N L t (.dt (.str k)) o p s l) := by simp [sO]
    have u : ∀ {m o}, unO (sO N L t m o p s l) = true := rfl
    have B' : forK (bName 6) bodyW (hd, af) (sO N L t (.dt (.str k)) o p s l) = some (.nx (sO N L t (.dt (.str k)) o1 p s l), (hd, inW k (keysA af) af)) := B
    simp only [loopK, hb, u, if_true, B', k1, and_self]
    exact ih
end
end BO

namespace BO
open PySem L2 BT BK BZ
def decLk : D → Option Lk
  | .non => some none
  | .tup [.str a, .str b, .bl s] => some (some (a, b, s))
  | _ => none
def decLks : List D → Option (List Lk)
  | [] => some []
  | d :: r => match decLk d, decLks r with | some x, some xs => some (x :: xs) | _, _ => none
theorem decLk_eq {d : D} {x : Lk} (h : decLk d = some x) : d = lkD x := by
  unfold decLk at h
  split at h
  · cases h; rfl
  · cases h; rfl
  · cases h
theorem decLks_eq : ∀ {ds : List D} {xs : List Lk}, decLks ds = some xs → ds = xs.map lkD
  | [], _, h => by cases h; rfl
  | d :: r, xs, h => by
    simp only [decLks] at h
    split at h
    · rename_i x ys h1 h2
      cases h
      rw [decLk_eq h1, decLks_eq h2]; rfl
    · cases h
theorem decLks_map : ∀ xs : List Lk, decLks (xs.map lkD) = some xs
  | [] => rfl
  | none :: r => by simp [decLks, decLk, lkD, decLks_map r]
  | some (a, b, s) :: r => by simp [decLks, decLk, lkD, decLks_map r]
def headOf (ns : List Str) (ls : List Lk) : Hd := rounds (ofKind false ls) ns (idH ns)
def after1 (ns : List Str) (ls : List Lk) : Af := (ofKind true ls).foldl (stepA (headOf ns ls)) (emptyA (ns.map (getS (headOf ns ls))))
def afterOf (ns : List Str) (ls : List Lk) : Af := outW (keysA (after1 ns ls)) (after1 ns ls)
def endsIn (ns : List Str) (ls : List Lk) : Bool := ls.all fun x => match x with | some (a, b, _) => decide (a ∈ ns) && decide (b ∈ ns) | none => true
def F_law_order : Fn := pureF fun ds => match ds with
  | [.lst n, .lst l] => (match decStrs n, decLks l with
    | some ns, some ls => if ns.Nodup ∧ ns.length ≤ 63 ∧ ls.length ≤ 1000 ∧ endsIn ns ls = true then some (.dt (.tup [.dic (hdD (headOf ns ls)), .dic (afD (afterOf ns ls))])) else none
    | _, _ => none)
  | _ => none
theorem kind_ends {ns : List Str} {ls : List Lk} (h : endsIn ns ls = true) {k : Bool} : ∀ e ∈ ofKind k ls, e.1 ∈ ns ∧ e.2.1 ∈ ns := fun e he => by
  unfold ofKind at he
  rw [List.mem_filter, List.mem_filterMap] at he
  obtain ⟨⟨x, hx, ex⟩, _⟩ := he
  simp only [id] at ex
  subst ex
  have := List.all_eq_true.mp h _ hx
  obtain ⟨a, b, c⟩ := e
  simpa using this
theorem rounds_keys {es : List (Str × Str × Bool)} : ∀ (ms : List Str) (hd : Hd), (∀ e ∈ es, e.1 ∈ keysH hd ∧ e.2.1 ∈ keysH hd) → keysH (rounds es ms hd) = keysH hd
  | [], _, _ => rfl
  | m :: ms, hd, h => by
    have k := fold_keys es hd h
    show keysH (rounds es ms (es.foldl stepT hd)) = _
    rw [rounds_keys ms _ (fun e he => by rw [k]; exact h e he), k]
theorem looks_all {hd : Hd} : ∀ {ns : List Str}, (∀ n ∈ ns, n ∈ keysH hd) → looks hd ns = some (ns.map (getS hd))
  | [], _ => rfl
  | n :: r, h => by
    have ih := looks_all (hd := hd) (ns := r) fun m hm => h m (List.mem_cons_of_mem _ hm)
    simp only [looks, lookS_key (h n (by simp)), ih]; rfl
theorem keysA_empty (us : List Str) : keysA (emptyA us) = mergeS [] us := by unfold keysA emptyA; rw [List.map_map]; exact List.map_id _
theorem getA_empty (us : List Str) (u : Str) : getA (emptyA us) u = [] := by
  unfold emptyA
  generalize mergeS [] us = ks
  induction ks with
  | nil => rfl
  | cons k r ih =>
    unfold getA at ih ⊢
    simp only [List.map_cons, lookA]
    split
    · rfl
    · exact ih
theorem eq_law_order (ds : List D) (s : Sl) (h : (match ds with
  | [.lst n, .lst l] => (match decStrs n, decLks l with
    | some ns, some ls => if ns.Nodup ∧ ns.length ≤ 63 ∧ ls.length ≤ 1000 ∧ endsIn ns ls = true then some (Sl.dt (.tup [.dic (hdD (headOf ns ls)), .dic (afD (afterOf ns ls))])) else none
    | _, _ => none)
  | _ => none) = some s) : runB 12 2 [] m_law_order (ds.map .dt) = some (.val s (ds.map .dt)) := by
  split at h
  rotate_left
  · cases h
  rename_i n l
  split at h
  rotate_left
  · cases h
  rename_i ns ls en el
  split at h
  rotate_left
  · cases h
  rename_i c
  cases h
  obtain ⟨nd, fn, fl, ends⟩ := c
  have en := decStrs_eq en
  have el := decLks_eq el
  subst en; subst el
  have big : 1000 ≤ sizeLine := line_big (Nat.le_refl _)
  have kid : keysH (idH ns) = ns := by unfold keysH idH; rw [List.map_map]; exact List.map_id _
  have lid : (idH ns).length = ns.length := List.length_map _
  -- the first comprehension
  have cmp : mComp (seqD (mVar 0)) [11] (bName 11) yesT (mTup (consA (mVar 11) (consA (mVar 11) nilA))) (sO (.lst (ns.map .str)) (.lst (ls.map lkD)) .un .un .un .un .un .un) = some (.val (.ol (ns.map pairD)) (sO (.lst (ns.map .str)) (.lst (ls.map lkD)) .un .un .un .un .un .un)) := by
    have C := compL_map (b := bName 11) (e := mTup (consA (mVar 11) (consA (mVar 11) nilA))) (vs := [11]) (ρ := sO (.lst (ns.map .str)) (.lst (ls.map lkD)) .un .un .un .un .un .un) (g := fun d => .tup [d, d]) (ns.map .str) []
      (fun d hd => by
        have z2 : 2 ≤ sizeLine := by omega
        exact ⟨[.dt (.lst (ns.map .str)), .dt (.lst (ls.map lkD)), .un, .un, .un, .un, .un, .un, .un, .un, .un, .dt d], by simp [sO], by simp, by simp [sO], .dt (.tup [d, d]), by simp [z2], rfl⟩)
      (by simp; omega)
    have F : (ns.map D.str).map (fun d => D.tup [d, d]) = ns.map pairD := by rw [List.map_map]; rfl
    rw [F, List.nil_append] at C
    have src : seqD (mVar 0) (sO (.lst (ns.map .str)) (.lst (ls.map lkD)) .un .un .un .un .un .un) = some (.val (ns.map .str) (sO (.lst (ns.map .str)) (.lst (ls.map lkD)) .un .un .un .un .un .un)) := by simp [sO]
    have w1 : noOl (sO (.lst (ns.map .str)) (.lst (ls.map lkD)) .un .un .un .un .un .un) [11] = true := by simp [sO]
    have w2 : wipeR (sO (.lst (ns.map .str)) (.lst (ls.map lkD)) .un .un .un .un .un .un) [11] = sO (.lst (ns.map .str)) (.lst (ls.map lkD)) .un .un .un .un .un .un := by simp [sO]
    have w3 : restR (sO (.lst (ns.map .str)) (.lst (ls.map lkD)) .un .un .un .un .un .un) (sO (.lst (ns.map .str)) (.lst (ls.map lkD)) .un .un .un .un .un .un) [11] = sO (.lst (ns.map .str)) (.lst (ls.map lkD)) .un .un .un .un .un .un := by simp [sO]
    simp only [mComp, bindM, src, w1, if_true, w2, C, w3]
  have clu : clean .un := rfl
  -- heads
  obtain ⟨t1, o1, p1, s1, l1, ⟨c1, c2, c3, c4, c5⟩, A⟩ := eq_mH (ns := ns) (ls := ls) fl ns (idH ns) .un .un .un .un .un .un (fun e he => by rw [kid]; exact kind_ends ends e he) (by omega) clu clu clu clu clu clu
  have kh : keysH (headOf ns ls) = ns := by unfold headOf; rw [rounds_keys ns _ (fun e he => by rw [kid]; exact kind_ends ends e he), kid]
  have srcN : ∀ {t m o p s l}, seqD (mVar 0) (sO (.lst (ns.map .str)) (.lst (ls.map lkD)) t m o p s l) = some (.val (ns.map .str) (sO (.lst (ns.map .str)) (.lst (ls.map lkD)) t m o p s l)) := by intros; simp [sO]
  have u1 : ∀ {t m o p s l}, un1 (sO (.lst (ns.map .str)) (.lst (ls.map lkD)) t m o p s l) = true := rfl
  have uO : ∀ {t m o p s l}, unO (sO (.lst (ns.map .str)) (.lst (ls.map lkD)) t m o p s l) = true := rfl
  have H1 : mH (idH ns) (sO (.lst (ns.map .str)) (.lst (ls.map lkD)) .un .un .un .un .un .un) = some (.nx (sO (.lst (ns.map .str)) (.lst (ls.map lkD)) t1 .un o1 p1 s1 l1), headOf ns ls) := by
    unfold mH
    simp only [forN, srcN, u1, if_true]
    exact A
  -- the pairs
  have lk := looks_all (hd := headOf ns ls) (ns := ns) (fun n hn => by rw [kh]; exact hn)
  -- after
  have okE : AOk (ns.map (getS (headOf ns ls))) (emptyA (ns.map (getS (headOf ns ls)))) := fun u hu => by rw [getA_empty]; exact ⟨List.nodup_nil, fun y hy => by cases hy⟩
  have fewU : (ns.map (getS (headOf ns ls))).length ≤ 400 := by rw [List.length_map]; omega
  obtain ⟨o2, p2, s2, ⟨d1, d2, d3⟩, ka, oka, B⟩ := loop_a (N := .lst (ns.map .str)) (L := .lst (ls.map lkD)) (t := t1) (m := .un) (l := l1) fewU (hd := headOf ns ls) (ofKind true ls) (emptyA (ns.map (getS (headOf ns ls)))) o1 p1 s1 (fun e he => by
    obtain ⟨e1, e2⟩ := kind_ends ends e he
    refine ⟨by rw [kh]; exact e1, by rw [kh]; exact e2, ?_, List.mem_map.mpr ⟨_, e2, rfl⟩⟩
    rw [keysA_empty, mem_mergeS]
    exact .inr (List.mem_map.mpr ⟨_, e1, rfl⟩)) okE c2 c3 c4
  have src3 := comp_links2 (N := .lst (ns.map .str)) (t := t1) (m := .un) (o := o1) (p := p1) (s := s1) (l := l1) ls fl true (andT (toB (bin2 (mVar 10) (mC .non) (isNM true))) (toB (bin2 (mVar 10) (mC (.int 2)) ixM))) (fun y => by
      cases y with
      | none => simp [lkD]
      | some q => obtain ⟨a, b, c⟩ := q; cases c <;> simp [lkD, atI, ixN])
  have A1 : mA (headOf ns ls, emptyA (ns.map (getS (headOf ns ls)))) (sO (.lst (ns.map .str)) (.lst (ls.map lkD)) t1 .un o1 p1 s1 l1) = some (.nx (sO (.lst (ns.map .str)) (.lst (ls.map lkD)) t1 .un o2 p2 s2 l1), (headOf ns ls, after1 ns ls)) := by
    unfold mA
    simp only [forN, src3, uO, if_true]
    exact B
  obtain ⟨m3, o3, _, kw, okw, C⟩ := loop_ww (N := .lst (ns.map .str)) (L := .lst (ls.map lkD)) (t := t1) (p := p2) (s := s2) (l := l1) fewU (hd := headOf ns ls) c1 d2 d3 c5 (keysA (after1 ns ls)) (after1 ns ls) .un o2 oka (fun k hk => hk) clu d1
  have W1 : lockZ mW (headOf ns ls, after1 ns ls) (sO (.lst (ns.map .str)) (.lst (ls.map lkD)) t1 .un o2 p2 s2 l1) = some (.nx (sO (.lst (ns.map .str)) (.lst (ls.map lkD)) t1 m3 o3 p2 s2 l1), (headOf ns ls, afterOf ns ls)) := by
    have C' : mW (headOf ns ls, after1 ns ls) (sO (.lst (ns.map .str)) (.lst (ls.map lkD)) t1 .un o2 p2 s2 l1) = some (.nx (sO (.lst (ns.map .str)) (.lst (ls.map lkD)) t1 m3 o3 p2 s2 l1), (headOf ns ls, afterOf ns ls)) := C
    have kw' : keysA (afterOf ns ls) = keysA (after1 ns ls) := kw
    unfold lockZ
    rw [C']
    simp only [kw', if_true]
  refine runB_rt (ds := [.lst (ns.map .str), .lst (ls.map lkD)]) (ρ' := sO (.lst (ns.map .str)) (.lst (ls.map lkD)) t1 m3 o3 p2 s2 l1) ?_ rfl (by decide)
  show m_law_order (sO (.lst (ns.map .str)) (.lst (ls.map lkD)) .un .un .un .un .un .un) = _
  have R2 : sqN unO mA (sqN unO (lockZ mW) retO) (headOf ns ls, emptyA (ns.map (getS (headOf ns ls)))) (sO (.lst (ns.map .str)) (.lst (ls.map lkD)) t1 .un o1 p1 s1 l1) = some (.rt (.dt (.tup [.dic (hdD (headOf ns ls)), .dic (afD (afterOf ns ls))])) (sO (.lst (ns.map .str)) (.lst (ls.map lkD)) t1 m3 o3 p2 s2 l1), (headOf ns ls, afterOf ns ls)) := by
    simp only [sqN, A1, uO, if_true, W1]
    rfl
  have R1 : mk2 (sqN unO mA (sqN unO (lockZ mW) retO)) (headOf ns ls) (sO (.lst (ns.map .str)) (.lst (ls.map lkD)) t1 .un o1 p1 s1 l1) = some (.rt (.dt (.tup [.dic (hdD (headOf ns ls)), .dic (afD (afterOf ns ls))])) (sO (.lst (ns.map .str)) (.lst (ls.map lkD)) t1 m3 o3 p2 s2 l1), headOf ns ls) := by
    unfold mk2
    have g0 : (sO (.lst (ns.map .str)) (.lst (ls.map lkD)) t1 .un o1 p1 s1 l1)[0]? = some (.dt (.lst (ns.map .str))) := rfl
    have ln : ns.length ≤ 1000 ∧ 11 < (sO (.lst (ns.map .str)) (.lst (ls.map lkD)) t1 .un o1 p1 s1 l1).length ∧ unO (sO (.lst (ns.map .str)) (.lst (ls.map lkD)) t1 .un o1 p1 s1 l1) = true := ⟨by omega, by simp [sO], rfl⟩
    rw [g0]
    simp only [decStrs_map, lk, if_pos ln, R2]
  unfold m_law_order mk1
  rw [cmp]
  simp only [decPairs_map]
  rw [if_pos ⟨nd, rfl⟩]
  simp only [sqN, H1, u1, if_true, R1]
end BO

/-! Warshall's closing, as the law does it. -/
namespace BR
open PySem BK BO
theorem mem_stepW {m o u v : Str} {af : Af} (ho : o ∈ keysA af) : v ∈ getA (stepW m af o) u ↔ v ∈ getA af u ∨ (u = o ∧ m ∈ getA af o ∧ v ∈ getA af m) := by
  unfold stepW
  by_cases c : m ∈ getA af o
  · rw [if_pos c, getA_set ho]
    by_cases e : u = o
    · subst e
      rw [if_pos rfl, mem_mergeS]
      exact ⟨fun z => z.imp id fun y => ⟨rfl, c, y⟩, fun z => z.imp id fun y => y.2.2⟩
    · rw [if_neg e]
      exact ⟨.inl, fun z => z.elim id fun y => absurd y.1 e⟩
  · rw [if_neg c]
    exact ⟨.inl, fun z => z.elim id fun y => absurd y.2.1 c⟩
theorem mem_inW {m u v : Str} : ∀ (ks : List Str) (af : Af), (∀ k ∈ ks, k ∈ keysA af) → (v ∈ getA (inW m ks af) u ↔ v ∈ getA af u ∨ (u ∈ ks ∧ m ∈ getA af u ∧ v ∈ getA af m))
  | [], af, _ => by simp [inW]
  | k :: ks, af, h => by
    have hk := h k (by simp)
    have ih := mem_inW (m := m) (u := u) (v := v) ks (stepW m af k) (fun z hz => by rw [stepW_keys]; exact h z (by simp [hz]))
    show v ∈ getA (inW m ks (stepW m af k)) u ↔ _
    rw [ih]
    have s1 : ∀ z, z ∈ getA (stepW m af k) m ↔ z ∈ getA af m := fun z => by
      rw [mem_stepW hk]
      exact ⟨fun y => y.elim id fun q => q.2.2, .inl⟩
    have s2 : ∀ z, m ∈ getA (stepW m af k) z ↔ m ∈ getA af z := fun z => by
      rw [mem_stepW hk]
      exact ⟨fun y => y.elim id fun q => q.1 ▸ q.2.1, .inl⟩
    rw [s1, s2, mem_stepW hk]
    constructor
    · rintro ((q | ⟨rfl, q1, q2⟩) | ⟨q1, q2, q3⟩)
      · exact .inl q
      · exact .inr ⟨by simp, q1, q2⟩
      · exact .inr ⟨by simp [q1], q2, q3⟩
    · rintro (q | ⟨q1, q2, q3⟩)
      · exact .inl (.inl q)
      · rcases List.mem_cons.mp q1 with e | e
        · subst e; exact .inl (.inr ⟨rfl, q2, q3⟩)
        · exact .inr ⟨e, q2, q3⟩
theorem inW_keys (m : Str) : ∀ (ks : List Str) (af : Af), keysA (inW m ks af) = keysA af
  | [], _ => rfl
  | k :: ks, af => by
    show keysA (inW m ks (stepW m af k)) = _
    rw [inW_keys m ks, stepW_keys]
theorem outW_keys : ∀ (ms : List Str) (af : Af), keysA (outW ms af) = keysA af
  | [], _ => rfl
  | m :: ms, af => by
    show keysA (outW ms (inW m (keysA af) af)) = _
    rw [outW_keys ms, inW_keys]
/-- what stands in the end is true of every transitive relation that holds at the start -/
theorem outW_sound {R : Str → Str → Prop} (tr : ∀ a b c, R a b → R b c → R a c) : ∀ (ms : List Str) (af : Af), (∀ u ∈ keysA af, ∀ v ∈ getA af u, R u v) → (∀ m ∈ ms, m ∈ keysA af) → ∀ u ∈ keysA af, ∀ v ∈ getA (outW ms af) u, R u v
  | [], _, h, _ => h
  | m :: ms, af, h, hm => by
    have k := inW_keys m (keysA af) af
    have := outW_sound tr ms (inW m (keysA af) af) (fun u hu v hv => by
      rw [k] at hu
      rcases (mem_inW (keysA af) af (fun k hk => hk)).mp hv with q | ⟨_, q1, q2⟩
      · exact h u hu v q
      · exact tr _ _ _ (h u hu m q1) (h m (hm m (by simp)) v q2)) (fun z hz => by rw [k]; exact hm z (by simp [hz]))
    rw [k] at this
    exact this
theorem outW_grow : ∀ (ms : List Str) (af : Af) (u v : Str), v ∈ getA af u → v ∈ getA (outW ms af) u
  | [], _, _, _, h => h
  | m :: ms, af, u, v, h => outW_grow ms _ u v ((mem_inW (keysA af) af (fun k hk => hk)).mpr (.inl h))
theorem getA_none : ∀ {af : Af} {m : Str}, m ∉ keysA af → getA af m = []
  | [], _, _ => rfl
  | x :: r, m, mk => by
    simp only [keysA, List.map_cons, List.mem_cons, not_or] at mk
    have ih := getA_none (af := r) (m := m) mk.2
    unfold getA at ih ⊢
    rw [lookA, if_neg fun z => mk.1 z.symm]
    exact ih
/-- closed at the middles that were met -/
theorem outW_closed : ∀ (ms done : List Str) (af : Af), (∀ u ∈ keysA af, ∀ m ∈ done, ∀ v, m ∈ getA af u → v ∈ getA af m → v ∈ getA af u) → (∀ u ∈ keysA af, ∀ m ∈ ms ++ done, ∀ v, m ∈ getA (outW ms af) u → v ∈ getA (outW ms af) m → v ∈ getA (outW ms af) u)
  | [], done, af, h => by rw [List.nil_append]; exact h
  | m :: ms, done, af, h => by
    have k := inW_keys m (keysA af) af
    have e := fun u v => mem_inW (m := m) (u := u) (v := v) (keysA af) af (fun k hk => hk)
    have ih := outW_closed ms (m :: done) (inW m (keysA af) af) (fun u hu z hz v h1 h2 => by
      rw [k] at hu
      rw [e] at h1 h2 ⊢
      -- z is m or was met before
      by_cases c : z = m
      · subst c
        have mz : z ∈ getA af u := h1.elim id fun q => q.2.1
        rcases h2 with h2 | ⟨_, _, h2⟩
        · exact .inr ⟨hu, mz, h2⟩
        · exact .inr ⟨hu, mz, h2⟩
      · have zd : z ∈ done := (List.mem_cons.mp hz).resolve_left c
        rcases h1 with h1 | ⟨_, h1, h1'⟩
        · rcases h2 with h2 | ⟨_, h2, h2'⟩
          · exact .inl (h u hu z zd v h1 h2)
          · exact .inr ⟨hu, h u hu z zd m h1 h2, h2'⟩
        · rcases h2 with h2 | ⟨_, h2, h2'⟩
          · by_cases mk : m ∈ keysA af
            · exact .inr ⟨hu, h1, h m mk z zd v h1' h2⟩
            · have : getA af m = [] := getA_none mk
              rw [this] at h1'; cases h1'
          · exact .inr ⟨hu, h1, h2'⟩)
    intro u hu z hz v h1 h2
    have := ih u (by rw [k]; exact hu) z (by
      rcases List.mem_append.mp hz with q | q
      · rcases List.mem_cons.mp q with q | q
        · exact List.mem_append_right _ (by simp [q])
        · exact List.mem_append_left _ q
      · exact List.mem_append_right _ (by simp [q])) v h1 h2
    exact this
end BR

/-! The heads: the least of each class. -/
namespace BR
open PySem BK BO BS
theorem filter_lt {α : Type} {p q : α → Bool} : ∀ (l : List α), (∀ x ∈ l, p x = true → q x = true) → (∃ y ∈ l, q y = true ∧ p y = false) → (l.filter p).length < (l.filter q).length
  | [], _, h => by obtain ⟨y, hy, _⟩ := h; cases hy
  | x :: l, h, ⟨y, hy, q1, q2⟩ => by
    have le : (l.filter p).length ≤ (l.filter q).length := by
      rw [← List.countP_eq_length_filter, ← List.countP_eq_length_filter]
      exact List.countP_mono_left fun z hz => h z (by simp [hz])
    rcases List.mem_cons.mp hy with e | e
    · subst e
      rw [List.filter_cons_of_neg (by simp [q2]), List.filter_cons_of_pos q1, List.length_cons]
      omega
    · have ih := filter_lt l (fun z hz => h z (by simp [hz])) ⟨y, e, q1, q2⟩
      by_cases c : p x = true
      · rw [List.filter_cons_of_pos c, List.filter_cons_of_pos (h x (by simp) c), List.length_cons, List.length_cons]; omega
      · rw [List.filter_cons_of_neg c]
        by_cases d : q x = true
        · rw [List.filter_cons_of_pos d, List.length_cons]; omega
        · rw [List.filter_cons_of_neg d]; exact ih
theorem getS_put {hd : Hd} {k v j : Str} (h : k ∈ keysH hd) : getS (putS hd k v) j = if j = k then v else getS hd j := by
  unfold getS
  rw [lookS_put h]
  split <;> rfl
theorem getS_step {hd : Hd} {e : Str × Str × Bool} {z : Str} (h1 : e.1 ∈ keysH hd) (h2 : e.2.1 ∈ keysH hd) : getS (stepT hd e) z = if z = e.1 ∨ z = e.2.1 then minS (getS hd e.1) (getS hd e.2.1) else getS hd z := by
  unfold stepT
  rw [getS_put (by rw [putS_keys h1]; exact h2), getS_put h1]
  by_cases c : z = e.2.1
  · rw [if_pos c, if_pos (.inr c)]
  · rw [if_neg c]
    by_cases d : z = e.1
    · rw [if_pos d, if_pos (.inl d)]
    · rw [if_neg d, if_neg (fun q => q.elim d c)]
theorem minS_or (x y : Str) : minS x y = x ∨ minS x y = y := by unfold minS; split <;> simp
section
variable {ns : List Str} {L : List Ln} {es : List (Str × Str × Bool)}
structure Sit (ns : List Str) (L : List Ln) (es : List (Str × Str × Bool)) : Prop where
  ends : ∀ l ∈ L, l.1 ∈ ns ∧ l.2.1 ∈ ns
  es : ∀ e, e ∈ es ↔ e ∈ L ∧ e.2.2 = false
theorem Sit.sm (S : Sit ns L es) {e : Str × Str × Bool} (h : e ∈ es) : Sm L e.1 e.2.1 := by
  obtain ⟨h1, h2⟩ := (S.es e).mp h
  exact .fwd (s := e.2.2) (mem_weak.mpr ⟨h1, h2⟩) (.refl _)
theorem Sit.inn (S : Sit ns L es) {a b : Str} (h : Sm L a b) (ha : a ∈ ns) : b ∈ ns := by
  rcases h.ends with e | ⟨_, l, hl, e⟩
  · exact e ▸ ha
  · obtain ⟨e1, e2⟩ := S.ends l hl
    rcases e with e | e
    · rw [e]; exact e1
    · rw [e]; exact e2
/-- each head is of the class -/
def Within (ns : List Str) (L : List Ln) (hd : Hd) : Prop := ∀ z ∈ ns, Sm L z (getS hd z)
theorem within_step (S : Sit ns L es) {hd : Hd} (hk : keysH hd = ns) (w : Within ns L hd) {e : Str × Str × Bool} (he : e ∈ es) : Within ns L (stepT hd e) := fun z hz => by
  obtain ⟨e1, e2⟩ := S.ends e ((S.es e).mp he).1
  rw [getS_step (by rw [hk]; exact e1) (by rw [hk]; exact e2)]
  split
  · rename_i c
    have s := S.sm he
    rcases minS_or (getS hd e.1) (getS hd e.2.1) with q | q <;> rw [q]
    · rcases c with c | c
      · subst c; exact w _ e1
      · subst c; exact s.symm.trans (w _ e1)
    · rcases c with c | c
      · subst c; exact s.trans (w _ e2)
      · subst c; exact w _ e2
  · exact w z hz
/-- m is the least of its class -/
structure Least (ns : List Str) (L : List Ln) (m : Str) : Prop where
  mem : m ∈ ns
  le : ∀ z ∈ ns, Sm L m z → ltS z m = false
theorem min_m {m p : Str} (h : ltS p m = false) : minS m p = m ∧ minS p m = m := by
  unfold minS
  unfold ltS at h
  have h' := of_decide_eq_false h
  refine ⟨if_neg h', ?_⟩
  by_cases c : m.cps.toList < p.cps.toList
  · rw [if_pos c]
  · rw [if_neg c]
    rcases ltS_tri p m with q | q | q
    · exact absurd (of_decide_eq_true q) h'
    · exact q
    · exact absurd (of_decide_eq_true q) c
theorem step_T (S : Sit ns L es) {hd : Hd} {m : Str} (M : Least ns L m) (hk : keysH hd = ns) (w : Within ns L hd) {e : Str × Str × Bool} (he : e ∈ es) :
    (∀ z ∈ ns, getS hd z = m → getS (stepT hd e) z = m) ∧ ((getS hd e.1 = m ∨ getS hd e.2.1 = m) → getS (stepT hd e) e.1 = m ∧ getS (stepT hd e) e.2.1 = m) := by
  obtain ⟨e1, e2⟩ := S.ends e ((S.es e).mp he).1
  have s := S.sm he
  have g := fun z => getS_step (hd := hd) (e := e) (z := z) (by rw [hk]; exact e1) (by rw [hk]; exact e2)
  have key : (getS hd e.1 = m ∨ getS hd e.2.1 = m) → minS (getS hd e.1) (getS hd e.2.1) = m := by
    rintro (q | q)
    · have c1 : Sm L m e.1 := by have := (w _ e1).symm; rw [q] at this; exact this
      have c2 : Sm L m (getS hd e.2.1) := (c1.trans s).trans (w _ e2)
      rw [q]
      exact (min_m (M.le _ (S.inn c2 M.mem) c2)).1
    · have c1 : Sm L m e.2.1 := by have := (w _ e2).symm; rw [q] at this; exact this
      have c2 : Sm L m (getS hd e.1) := (c1.trans s.symm).trans (w _ e1)
      rw [q]
      exact (min_m (M.le _ (S.inn c2 M.mem) c2)).2
  refine ⟨fun z hz q => ?_, fun q => ?_⟩
  · rw [g]
    split
    · rename_i c
      rcases c with c | c
      · subst c; exact key (.inl q)
      · subst c; exact key (.inr q)
    · exact q
  · rw [g, g, if_pos (.inl rfl), if_pos (.inr rfl)]
    exact ⟨key q, key q⟩
theorem fold_T (S : Sit ns L es) {m : Str} (M : Least ns L m) : ∀ (fs : List (Str × Str × Bool)) (hd : Hd), (∀ e ∈ fs, e ∈ es) → keysH hd = ns → Within ns L hd →
    keysH (fs.foldl stepT hd) = ns ∧ Within ns L (fs.foldl stepT hd) ∧ (∀ z ∈ ns, getS hd z = m → getS (fs.foldl stepT hd) z = m) ∧ ∀ e ∈ fs, (getS hd e.1 = m ∨ getS hd e.2.1 = m) → getS (fs.foldl stepT hd) e.1 = m ∧ getS (fs.foldl stepT hd) e.2.1 = m
  | [], hd, _, hk, w => ⟨hk, w, fun _ _ h => h, fun e h => by cases h⟩
  | f :: fs, hd, hf, hk, w => by
    have he := hf f (by simp)
    obtain ⟨e1, e2⟩ := S.ends f ((S.es f).mp he).1
    obtain ⟨t1, t2⟩ := step_T S M hk w he
    have k1 : keysH (stepT hd f) = ns := by rw [stepT_keys (by rw [hk]; exact e1) (by rw [hk]; exact e2), hk]
    obtain ⟨a1, a2, a3, a4⟩ := fold_T S M fs (stepT hd f) (fun e h => hf e (by simp [h])) k1 (within_step S hk w he)
    refine ⟨a1, a2, fun z hz q => a3 z hz (t1 z hz q), fun e h q => ?_⟩
    rcases List.mem_cons.mp h with c | c
    · subst c
      obtain ⟨q1, q2⟩ := t2 q
      exact ⟨a3 _ e1 q1, a3 _ e2 q2⟩
    · obtain ⟨g1, g2⟩ := S.ends e ((S.es e).mp (hf e (by simp [c]))).1
      exact a4 e c (q.imp (t1 _ g1) (t1 _ g2))
/-- a walk that leaves a set crosses a link -/
theorem cross {P : Str → Prop} {a b : Str} (h : W (weak L) a b) (pa : P a) (nb : ¬ P b) : ∃ l ∈ weak L, (P l.1 ∧ ¬ P l.2.1) ∨ (P l.2.1 ∧ ¬ P l.1) := by
  induction h with
  | refl a => exact absurd pa nb
  | @fwd a b c s m _ ih =>
    by_cases q : P b
    · exact ih q nb
    · exact ⟨_, m, .inl ⟨pa, q⟩⟩
  | @bwd a b c m _ ih =>
    by_cases q : P b
    · exact ih q nb
    · exact ⟨_, m, .inr ⟨pa, q⟩⟩
theorem rounds_T (S : Sit ns L es) {m : Str} (M : Least ns L m) : ∀ (ms : List Str) (hd : Hd), keysH hd = ns → Within ns L hd → getS hd m = m →
    keysH (rounds es ms hd) = ns ∧ Within ns L (rounds es ms hd) ∧ ((∀ z ∈ ns, Sm L m z → getS (rounds es ms hd) z = m) ∨ ms.length + (ns.filter fun z => decide (getS hd z = m)).length ≤ (ns.filter fun z => decide (getS (rounds es ms hd) z = m)).length)
  | [], hd, hk, w, _ => ⟨hk, w, .inr (by rw [List.length_nil, Nat.zero_add]; exact Nat.le_refl _)⟩
  | x :: ms, hd, hk, w, hm => by
    obtain ⟨a1, a2, a3, a4⟩ := fold_T S M es hd (fun e h => h) hk w
    obtain ⟨b1, b2, b3⟩ := rounds_T S M ms (es.foldl stepT hd) a1 a2 (a3 m M.mem hm)
    refine ⟨b1, b2, ?_⟩
    rcases b3 with b3 | b3
    · exact .inl b3
    · by_cases all : ∀ z ∈ ns, Sm L m z → getS hd z = m
      · -- all stay
        left
        have keep : ∀ (ms : List Str) (hd : Hd), keysH hd = ns → Within ns L hd → (∀ z ∈ ns, Sm L m z → getS hd z = m) → ∀ z ∈ ns, Sm L m z → getS (rounds es ms hd) z = m := by
          intro ms
          induction ms with
          | nil => intro hd _ _ h; exact h
          | cons y ms ih =>
            intro hd hk w h
            obtain ⟨c1, c2, c3, _⟩ := fold_T S M es hd (fun e h => h) hk w
            exact ih _ c1 c2 fun z hz s => c3 z hz (h z hz s)
        exact keep (x :: ms) hd hk w all
      · right
        have ⟨z, hz, sz, nz⟩ : ∃ z ∈ ns, Sm L m z ∧ ¬ getS hd z = m := Classical.byContradiction fun q => all fun z hz s => Classical.byContradiction fun n => q ⟨z, hz, s, n⟩
        obtain ⟨l, hl, cr⟩ := cross (P := fun z => getS hd z = m) sz hm nz
        obtain ⟨l1, l2⟩ := mem_weak.mp hl
        have le : l ∈ es := (S.es l).mpr ⟨l1, l2⟩
        obtain ⟨e1, e2⟩ := S.ends l l1
        have lt := filter_lt (p := fun z => decide (getS hd z = m)) (q := fun z => decide (getS (es.foldl stepT hd) z = m)) ns (fun z hz q => decide_eq_true (a3 z hz (of_decide_eq_true q))) (by
          rcases cr with ⟨c1, c2⟩ | ⟨c1, c2⟩
          · exact ⟨l.2.1, e2, decide_eq_true (a4 l le (.inl c1)).2, decide_eq_false c2⟩
          · exact ⟨l.1, e1, decide_eq_true (a4 l le (.inr c1)).1, decide_eq_false c2⟩)
        show (ms.length + 1) + _ ≤ _
        have b3 : ms.length + (ns.filter fun z => decide (getS (es.foldl stepT hd) z = m)).length ≤ (ns.filter fun z => decide (getS (rounds es (x :: ms) hd) z = m)).length := b3
        omega
end
end BR

namespace BR
open PySem BK BO BS
/-- the least of a class -/
theorem least_ex {P : Str → Prop} : ∀ (l : List Str), (∃ x ∈ l, P x) → ∃ m ∈ l, P m ∧ ∀ z ∈ l, P z → ltS z m = false
  | [], ⟨x, hx, _⟩ => by cases hx
  | x :: l, h => by
    by_cases c : ∃ y ∈ l, P y
    · obtain ⟨m, hm, pm, le⟩ := least_ex l c
      by_cases d : P x ∧ ltS x m = true
      · refine ⟨x, by simp, d.1, fun z hz pz => ?_⟩
        rcases List.mem_cons.mp hz with e | e
        · rw [e]; exact ltS_irrefl x
        · cases q : ltS z x with
          | false => rfl
          | true => have := ltS_trans q d.2; rw [le z e pz] at this; cases this
      · refine ⟨m, by simp [hm], pm, fun z hz pz => ?_⟩
        rcases List.mem_cons.mp hz with e | e
        · subst e
          cases q : ltS z m with
          | false => rfl
          | true => exact absurd ⟨pz, q⟩ d
        · exact le z e pz
    · obtain ⟨y, hy, py⟩ := h
      rcases List.mem_cons.mp hy with e | e
      · subst e
        refine ⟨y, by simp, py, fun z hz pz => ?_⟩
        rcases List.mem_cons.mp hz with e | e
        · rw [e]; exact ltS_irrefl y
        · exact absurd ⟨z, e, pz⟩ c
      · exact absurd ⟨y, e, py⟩ c
theorem idH_keys (ns : List Str) : keysH (idH ns) = ns := by unfold keysH idH; rw [List.map_map]; exact List.map_id _
theorem idH_get : ∀ {ns : List Str} {z : Str}, z ∈ ns → getS (idH ns) z = z
  | [], _, h => by cases h
  | n :: r, z, h => by
    unfold getS lookS idH
    by_cases c : n = z
    · simp [c]
    · have hz : z ∈ r := (List.mem_cons.mp h).resolve_left fun e => c e.symm
      have ih := idH_get hz
      unfold getS lookS idH at ih
      simp only [List.map_cons, List.find?_cons, c, decide_false]
      exact ih
section
variable {ns : List Str} {ls : List Lk}
abbrev Lof (ls : List Lk) : List Ln := ls.filterMap id
theorem sit (h : endsIn ns ls = true) : Sit ns (Lof ls) (ofKind false ls) where
  ends := fun l hl => by
    have : l ∈ ofKind l.2.2 ls := by unfold ofKind; rw [List.mem_filter]; exact ⟨hl, by simp⟩
    exact kind_ends h l this
  es := fun e => by unfold ofKind; rw [List.mem_filter]; simp
/-- equal heads: the same class -/
theorem head_iff (h : endsIn ns ls = true) {a b : Str} (ha : a ∈ ns) (hb : b ∈ ns) : getS (headOf ns ls) a = getS (headOf ns ls) b ↔ Sm (Lof ls) a b := by
  have S := sit h
  have w0 : Within ns (Lof ls) (idH ns) := fun z hz => by rw [idH_get hz]; exact Sm.refl z
  have key : ∀ a ∈ ns, ∃ m, Least ns (Lof ls) m ∧ Sm (Lof ls) m a ∧ Within ns (Lof ls) (headOf ns ls) ∧ ∀ z ∈ ns, Sm (Lof ls) m z → getS (headOf ns ls) z = m := fun a ha => by
    obtain ⟨m, hm, sm, le⟩ := least_ex (P := fun z => Sm (Lof ls) z a) ns ⟨a, ha, Sm.refl a⟩
    have M : Least ns (Lof ls) m := ⟨hm, fun z hz s => le z hz (s.symm.trans sm)⟩
    obtain ⟨b1, b2, b3⟩ := rounds_T S M ns (idH ns) (idH_keys ns) w0 (idH_get hm)
    refine ⟨m, M, sm, b2, ?_⟩
    rcases b3 with b3 | b3
    · exact b3
    · exfalso
      have one : 1 ≤ (ns.filter fun z => decide (getS (idH ns) z = m)).length := by
        have : m ∈ ns.filter fun z => decide (getS (idH ns) z = m) := List.mem_filter.mpr ⟨hm, decide_eq_true (idH_get hm)⟩
        exact List.length_pos_of_mem this
      have top := List.length_filter_le (fun z => decide (getS (rounds (ofKind false ls) ns (idH ns)) z = m)) ns
      omega
  obtain ⟨m, M, sm, w, all⟩ := key a ha
  constructor
  · intro e
    have q := (w a ha).trans (e ▸ (w b hb).symm)
    exact q
  · intro s
    rw [all a ha sm, all b hb (sm.trans s)]
theorem after_keys (ns : List Str) (ls : List Lk) : ∀ u, u ∈ keysA (emptyA (ns.map (getS (headOf ns ls)))) ↔ ∃ a ∈ ns, getS (headOf ns ls) a = u := fun u => by
  rw [keysA_empty, mem_mergeS, List.mem_map]
  simp
/-- the strict steps between heads -/
theorem mem_fold {hd : Hd} {u v : Str} : ∀ (es : List (Str × Str × Bool)) (af : Af), (∀ e ∈ es, getS hd e.1 ∈ keysA af) → (v ∈ getA (es.foldl (stepA hd) af) u ↔ v ∈ getA af u ∨ ∃ e ∈ es, getS hd e.1 = u ∧ getS hd e.2.1 = v)
  | [], af, _ => by simp
  | e :: es, af, h => by
    have he := h e (by simp)
    have ks : keysA (stepA hd af e) = keysA af := keys_set _ _ _
    show v ∈ getA (es.foldl (stepA hd) (stepA hd af e)) u ↔ _
    rw [mem_fold es (stepA hd af e) (fun x hx => by rw [ks]; exact h x (by simp [hx]))]
    have st : v ∈ getA (stepA hd af e) u ↔ v ∈ getA af u ∨ (getS hd e.1 = u ∧ getS hd e.2.1 = v) := by
      unfold stepA
      rw [getA_set he]
      by_cases c : u = getS hd e.1
      · subst c
        rw [if_pos rfl, mem_addK]
        exact ⟨fun z => z.imp id fun q => ⟨rfl, q.symm⟩, fun z => z.imp id fun q => q.2.symm⟩
      · rw [if_neg c]
        exact ⟨.inl, fun z => z.elim id fun q => absurd q.1.symm c⟩
    rw [st]
    constructor
    · rintro ((q | q) | ⟨x, hx, q⟩)
      · exact .inl q
      · exact .inr ⟨e, by simp, q⟩
      · exact .inr ⟨x, by simp [hx], q⟩
    · rintro (q | ⟨x, hx, q⟩)
      · exact .inl (.inl q)
      · rcases List.mem_cons.mp hx with c | c
        · subst c; exact .inl (.inr q)
        · exact .inr ⟨x, c, q⟩
theorem fold_keysA {hd : Hd} : ∀ (es : List (Str × Str × Bool)) (af : Af), keysA (es.foldl (stepA hd) af) = keysA af
  | [], _ => rfl
  | e :: es, af => by
    show keysA (es.foldl (stepA hd) (stepA hd af e)) = _
    rw [fold_keysA es]; exact keys_set _ _ _
/-- THE LAW'S CLOSING: a head behind itself, if and only if there is a cycle -/
theorem closing (h : endsIn ns ls = true) : (∃ u ∈ keysA (afterOf ns ls), u ∈ getA (afterOf ns ls) u) ↔ cyc (Lof ls) := by
  have S := sit h
  have he := fun e (he : e ∈ ofKind true ls) => kind_ends h e he
  have k0 := after_keys ns ls
  have k1 : keysA (after1 ns ls) = keysA (emptyA (ns.map (getS (headOf ns ls)))) := fold_keysA _ _
  have k2 : keysA (afterOf ns ls) = keysA (after1 ns ls) := outW_keys _ _
  have m1 : ∀ u v, v ∈ getA (after1 ns ls) u ↔ ∃ e ∈ ofKind true ls, getS (headOf ns ls) e.1 = u ∧ getS (headOf ns ls) e.2.1 = v := fun u v => by
    have := mem_fold (hd := headOf ns ls) (u := u) (v := v) (ofKind true ls) (emptyA (ns.map (getS (headOf ns ls)))) (fun e q => (k0 _).mpr ⟨_, (he e q).1, rfl⟩)
    rw [getA_empty] at this
    simpa [after1] using this
  have strict : ∀ e, e ∈ ofKind true ls ↔ e ∈ Lof ls ∧ e.2.2 = true := fun e => by unfold ofKind; rw [List.mem_filter]; simp
  constructor
  · rintro ⟨u, hu, q⟩
    rw [k2] at hu
    have sound := outW_sound (R := fun u v => ∃ a b, a ∈ ns ∧ b ∈ ns ∧ getS (headOf ns ls) a = u ∧ getS (headOf ns ls) b = v ∧ St (Lof ls) a b)
      (fun x y z ⟨a, b, ha, hb, e1, e2, s1⟩ ⟨c, d, hc, hd, e3, e4, s2⟩ => ⟨a, d, ha, hd, e1, e4, by
        have sm := (head_iff h hb hc).mp (e2.trans e3.symm)
        exact s1.right (sm.w.trans s2.w)⟩)
      (keysA (after1 ns ls)) (after1 ns ls) (fun x _ v hv => by
        obtain ⟨e, he', e1, e2⟩ := (m1 x v).mp hv
        obtain ⟨s1, s2⟩ := he e he'
        obtain ⟨t1, t2⟩ := (strict e).mp he'
        exact ⟨e.1, e.2.1, s1, s2, e1, e2, e.1, e.2.1, t2 ▸ t1, .refl _, .refl _⟩) (fun k hk => hk) u hu u q
    obtain ⟨a, b, ha, hb, e1, e2, s⟩ := sound
    have sm := (head_iff h hb ha).mp (e2.trans e1.symm)
    exact cyc_iff.mpr ⟨a, s.right sm.w⟩
  · rintro ⟨x, y, mx, w⟩
    obtain ⟨hx, hy⟩ := S.ends _ mx
    have kx : getS (headOf ns ls) x ∈ keysA (after1 ns ls) := by rw [k1]; exact (k0 _).mpr ⟨x, hx, rfl⟩
    have grow : ∀ a b, (a, b, true) ∈ Lof ls → getS (headOf ns ls) b ∈ getA (afterOf ns ls) (getS (headOf ns ls) a) := fun a b m => outW_grow _ _ _ _ ((m1 _ _).mpr ⟨(a, b, true), (strict _).mpr ⟨m, rfl⟩, rfl, rfl⟩)
    have closed := outW_closed (keysA (after1 ns ls)) [] (after1 ns ls) (fun u _ m hm => by cases hm)
    have walk : ∀ {a b : Str}, W (Lof ls) a b → a ∈ ns → getS (headOf ns ls) a ∈ getA (afterOf ns ls) (getS (headOf ns ls) x) → getS (headOf ns ls) b ∈ getA (afterOf ns ls) (getS (headOf ns ls) x) := by
      intro a b w
      induction w with
      | refl a => exact fun _ q => q
      | @fwd a b c s m _ ih =>
        intro ha q
        have hb := (S.ends _ m).2
        refine ih hb ?_
        cases s with
        | true => exact closed _ kx (getS (headOf ns ls) a) (List.mem_append_left _ (by rw [k1]; exact (k0 _).mpr ⟨a, ha, rfl⟩)) _ q (grow a b m)
        | false =>
          have sm : Sm (Lof ls) a b := .fwd (s := false) (mem_weak.mpr ⟨m, rfl⟩) (.refl b)
          rw [← (head_iff h ha hb).mpr sm]; exact q
      | @bwd a b c m _ ih =>
        intro ha q
        have hb := (S.ends _ m).1
        refine ih hb ?_
        have sm : Sm (Lof ls) a b := .bwd (mem_weak.mpr ⟨m, rfl⟩) (.refl b)
        rw [← (head_iff h ha hb).mpr sm]; exact q
    exact ⟨getS (headOf ns ls) x, by rw [k2]; exact kx, walk w hy (grow x y mx)⟩
end
end BR

namespace BK
open PySem L2 BT BO
/-! ### what the law's own defs compute: the model -/
def namesOf (t : Tale) : List Str := BS.sd (t.map (·.2))
def F_law_links : Fn := pureF fun ds => match ds with | [d] => (match decQ d with | some t => if t.length ≤ 1000 then some (.ol ((lks "" t).map lkD)) else none | none => none) | _ => none
def F_law_names : Fn := pureF fun ds => match ds with | [d] => (match decQ d with | some t => if t.length ≤ 1000 ∧ (namesOf t).length ≤ 63 then some (.ol ((namesOf t).map .str)) else none | none => none) | _ => none
def modelD (t : Tale) : D := .tup [.dic (hdD (headOf (namesOf t) (lks "" t))), .dic (afD (afterOf (namesOf t) (lks "" t)))]
def F_law_model : Fn := pureF fun ds => match ds with | [d] => (match decQ d with | some t => if t.length ≤ 1000 ∧ (namesOf t).length ≤ 63 ∧ startsAt t = true then some (.dt (modelD t)) else none | none => none) | _ => none
def fitsB (t : Tale) : Bool := (keysA (afterOf (namesOf t) (lks "" t))).all fun u => !decide (u ∈ getA (afterOf (namesOf t) (lks "" t)) u)
def F_law_fits : Fn := pureF fun ds => match ds with | [d] => (match decQ d with | some t => if t.length ≤ 1000 ∧ (namesOf t).length ≤ 63 ∧ startsAt t = true then some (.dt (.bl (fitsB t))) else none | none => none) | _ => none
/-- short, and of true signs -/
def shortO (d : D) : Bool := shortS d && (match d with | .str x => x.cps.toList.all (fun c => decide (c < 0x110000)) | _ => true)
def shortQ (d : D) : Bool := shortP d && (match d with | .tup ds => ds.all shortO | d => shortO d)
def F_law_is_name : Fn := pureF fun ds => match ds with | [d] => if shortO d = true then some (.dt (.bl (isName d))) else none | _ => none
def F_law_is_sentence : Fn := pureF fun ds => match ds with | [d] => if shortQ d = true then some (.dt (.bl (isSentence d))) else none | _ => none
theorem lks_ends : ∀ (t : Tale) (p : Str) (M : List Str), (p ∈ M ∨ startsAt t = true) → (∀ x ∈ t, x.2 ∈ M) → endsIn M (lks p t) = true
  | [], _, _, _, _ => rfl
  | (w, m) :: t, p, M, hp, hM => by
    have hm : m ∈ M := hM (w, m) (by simp)
    have hw : p ∈ M ∨ Str.ofString "at" = w := hp.imp id fun h => of_decide_eq_true h
    have np : (if moving w then m else p) ∈ M := by
      by_cases c : moving w = true
      · rw [if_pos c]; exact hm
      · rw [if_neg c]
        rcases hw with h | h
        · exact h
        · exact absurd (decide_eq_true (.inl h)) c
    have ih := lks_ends t (if moving w then m else p) M (.inl np) (fun x hx => hM x (by simp [hx]))
    unfold endsIn at ih ⊢
    simp only [lks, List.all_cons, ih, Bool.and_true]
    cases e : lkOf p w m with
    | none => rfl
    | some q =>
      obtain ⟨a, b, s⟩ := q
      obtain ⟨h1, h2⟩ := lkOf_in hw hm a b s e
      simp [h1, h2]
theorem fits_iff {t : Tale} (h : startsAt t = true) : fitsB t = true ↔ ¬ BR.cyc (BR.lnks t) := by
  have e := lks_ends t "" (namesOf t) (.inr h) (fun x hx => BS.mem_sd.mpr (List.mem_map.mpr ⟨x, hx, rfl⟩))
  have c := BR.closing e
  unfold fitsB
  rw [List.all_eq_true]
  show _ ↔ ¬ BR.cyc (BR.Lof (lks "" t))
  rw [← c]
  constructor
  · rintro q ⟨u, hu, m⟩
    have := q u hu
    simp [m] at this
  · intro q u hu
    by_cases m : u ∈ getA (afterOf (namesOf t) (lks "" t)) u
    · exact absurd ⟨u, hu, m⟩ q
    · simp [m]
/-- the law's word of a thing -/
def dueK (t : Tale) : Nat → Nat → Option Nat
  | _, 0 => none
  | k, n + 1 => if fitsB (t.take (k + 1)) = true then dueK t (k + 1) n else some k
theorem take_starts {t : Tale} (h : startsAt t = true) (k : Nat) : startsAt (t.take (k + 1)) = true := by
  cases t with
  | nil => rfl
  | cons x r => exact h
theorem dueK_C {t : Tale} (h : startsAt t = true) : ∀ (n k : Nat), dueK t k n = BR.dueC t k n
  | 0, _ => rfl
  | n + 1, k => by
    have f := fits_iff (take_starts h k)
    by_cases c : BR.cyc (BR.lnks (t.take (k + 1)))
    · show (if fitsB (t.take (k + 1)) = true then _ else _) = @ite _ _ (Classical.propDecidable _) _ _
      rw [if_neg (fun z => f.mp z c), if_pos c]
    · show (if fitsB (t.take (k + 1)) = true then _ else _) = @ite _ _ (Classical.propDecidable _) _ _
      rw [if_pos (f.mpr c), if_neg c]
      exact dueK_C h n (k + 1)
def dueV (d : D) : D := match d with
  | .tup xs => (match badAt 0 xs with | some k => .tup [.str "sentence", .int (k : Nat)] | none => (match decL xs with | some t => cycV (dueK t 0 t.length) | none => .non))
  | _ => .tup [.str "form"]
/-- THE PLAIN LAW: what check_tale computes is what the law asks -/
theorem check_due {d : D} (ok : okC d = true) : checkV d = dueV d := by
  cases d with
  | tup xs =>
    unfold checkV dueV
    simp only
    cases b : badAt 0 xs with
    | some k => rfl
    | none =>
      obtain ⟨t, ht, hs⟩ := badAt_none b
      simp only [ht]
      simp only [okC, ht, Bool.and_eq_true, decide_eq_true_eq] at ok
      rw [BR.chk_due ok.2 (hs rfl), dueK_C (hs rfl)]
  | _ => rfl
def F_law_due : Fn := pureF fun ds => match ds with | [d] => if okC d = true then some (.dt (dueV d)) else none | _ => none
end BK

namespace BK
open PySem L2 BT BO
section
variable {P : Program} {w : World} {K : PySem.W.Frag} {mg : Str → Option Value} {base : Heap} {C : Addr}
/-! ### _law_at -/
def m__law_at : MS := seqS (ifS (toB (bin2 (mVar 1) (mCall lenD (consA (mVar 0) (nilA))) ltD)) (retS (bin2 (mVar 0) (mVar 1) ixM)) (nxS)) (retS (mC (.int 0)))
theorem sc__law_at : FnScope ["script", "k"] ["script", "k"] (defScope (top 15)) := ⟨rfl, rfl, rfl, by decide +kernel, rfl, by decide +kernel, by decide +kernel⟩
theorem run__law_at {f : Addr} {fd : FuncData} (F : Fun K "_law_at" "_law_at" (top 15) f fd) (T : Tx K mg C) :
    FnOk P w K mg base CX0 1 f fd ["script", "k"] (fun vs H Q _ => SpF K (runB 2 2 [] m__law_at) vs H Q E00) := by
  have sc := sc__law_at
  refine okF [] F sc (fun pn cdv A outer s H E hpn hr => ?_)
  have hu64 := hr.units
  have hu65 := room65 hr
  have hu1 := hu_of hr
  exact psx_cons (psx_if (pt_c op_lt od_lt (px_var (pv 1)) (px_callB call_lens cd_len (by rfl) T.n_len PySem.boot_len (pax_cons (px_var (pv 0)) (pax_nil))) (nomark _)) (psx_one (psx_ret (px_ix ix_seq od_ix (px_var (pv 0)) (px_var (pv 1)) (fun _ _ => rfl)))) (psx_nil)) (psx_one (psx_ret (px_int)))
/-! ### _law_mixed -/
def m__law_mixed : MS := seqS (asgS 2 (bin2 (bin2 (bin2 (bin2 (bin2 (mVar 0) (mC (.int 1103515245)) mulD) (bin2 (bin2 (mC (.int 7919)) (mVar 1) mulD) (mVar 1) mulD) addD) (mVar 1) addD) (mC (.int 1)) addD) (mC (.int 2147483647)) modD)) (seqS (asgS 2 (bin2 (bin2 (bin2 (mVar 2) (mVar 2) mulD) (mC (.int 69621)) addD) (mC (.int 2147483629)) modD)) (retS (bin2 (bin2 (mVar 2) (mC (.int 48271)) mulD) (mC (.int 2147483587)) modD)))
theorem sc__law_mixed : FnScope ["cell", "k", "number"] ["cell", "k"] (defScope (top 16)) := ⟨rfl, rfl, rfl, by decide +kernel, rfl, by decide +kernel, by decide +kernel⟩
theorem run__law_mixed {f : Addr} {fd : FuncData} (F : Fun K "_law_mixed" "_law_mixed" (top 16) f fd) (T : Tx K mg C) :
    FnOk P w K mg base CX0 1 f fd ["cell", "k"] (fun vs H Q _ => SpF K (runB 3 2 [] m__law_mixed) vs H Q E00) := by
  have sc := sc__law_mixed
  refine okF [] F sc (fun pn cdv A outer s H E hpn hr => ?_)
  have hu64 := hr.units
  have hu65 := room65 hr
  have hu1 := hu_of hr
  exact psx_cons (psx_set (i := 2) (np hpn (by decide)) sc.nd rfl (by first | exact Or.inl rfl | exact Or.inr rfl) (px_op op_mod od_mod (px_op op_adds od_add (px_op op_adds od_add (px_op op_adds od_add (px_op op_mulW od_mul (px_var (pv 0)) (px_int)) (px_op op_mulW od_mul (px_op op_mulW od_mul (px_int) (px_var (pv 1))) (px_var (pv 1)))) (px_var (pv 1))) (px_int)) (px_int))) (psx_cons (psx_set (i := 2) (np hpn (by decide)) sc.nd rfl (by first | exact Or.inl rfl | exact Or.inr rfl) (px_op op_mod od_mod (px_op op_adds od_add (px_op op_mulW od_mul (px_var (pv 2)) (px_var (pv 2))) (px_int)) (px_int))) (psx_one (psx_ret (px_op op_mod od_mod (px_op op_mulW od_mul (px_var (pv 2)) (px_int)) (px_int)))))
/-! ### _law_purse -/
def m__law_purse : MS := seqS (asgS 2 (callF F_law_at (consA (mVar 0) (consA (mVar 1) (nilA))))) (retS (mLst (consA (bin2 (mCall maxD (consA (bin2 (mVar 2) (bin2 (mC (.int 10)) (mC (.int 18)) powD) subD) (consA (mC (.int 0)) (nilA)))) (bin2 (bin2 (mC (.int 10)) (mC (.int 60)) powD) (mC (.int 10)) powD) modD) (consA (bin2 (mVar 2) (mC (.int 2147483647)) modD) (consA (bin2 (mC (.int 1000)) (mVar 1) mulD) (nilA))))))
theorem sc__law_purse : FnScope ["script", "at", "cell"] ["script", "at"] (defScope (top 17)) := ⟨rfl, rfl, rfl, by decide +kernel, rfl, by decide +kernel, by decide +kernel⟩
theorem run__law_purse {f : Addr} {fd : FuncData} (F : Fun K "_law_purse" "_law_purse" (top 17) f fd) (T : Tx K mg C) {f__law_at : Addr} {fd__law_at : FuncData} (G__law_at : FnOk P w K mg base CX0 1 f__law_at fd__law_at ["script", "k"] (fun vs H Q _ => SpF K (F_law_at) vs H Q E00)) (b__law_at : Binds K fd__law_at ["script", "k"] []) (g__law_at : mg "_law_at" = some (.ref f__law_at)) (k__law_at : PySem.W.keepIn K (.ref f__law_at) = true) :
    FnOk P w K mg base CX0 2 f fd ["script", "at"] (fun vs H Q _ => SpF K (runB 3 2 [] m__law_purse) vs H Q E00) := by
  have sc := sc__law_purse
  refine okF [] F sc (fun pn cdv A outer s H E hpn hr => ?_)
  have hu64 := hr.units
  have hu65 := room65 hr
  have hu1 := hu_of hr
  exact psx_cons (psx_set (i := 2) (np hpn (by decide)) sc.nd rfl (by first | exact Or.inl rfl | exact Or.inr rfl) (px_call G__law_at (hr.mono (by decide)) g__law_at k__law_at b__law_at (pax_cons (px_var (pv 0)) (pax_cons (px_var (pv 1)) (pax_nil))))) (psx_one (psx_ret (px_lst (pax_cons (px_op op_mod od_mod (px_callB (call_max2 rfl) cd_max (by rfl) T.n_max (by decide +kernel) (pax_cons (px_op op_sub od_sub (px_var (pv 2)) (px_op op_powW od_pow (px_int) (px_int))) (pax_cons (px_int) (pax_nil)))) (px_op op_powW od_pow (px_op op_powW od_pow (px_int) (px_int)) (px_int))) (pax_cons (px_op op_mod od_mod (px_var (pv 2)) (px_int)) (pax_cons (px_op op_mulW od_mul (px_int) (px_var (pv 1))) (pax_nil)))))))
/-! ### _law_draw -/
def m__law_draw : MS := seqS (ifS (toB (bin2 (ixO 0 (mC (.int 0))) (mC (.int 0)) gtD)) (seqS (asgS 2 (bin2 (ixO 0 (mC (.int 0))) (mVar 1) modD)) (seqS (putM 0 (mC (.int 0)) (bin2 (ixO 0 (mC (.int 0))) (mVar 1) fdivD)) (retS (mMove 2)))) (nxS)) (seqS (putM 0 (mC (.int 2)) (bin2 (ixO 0 (mC (.int 2))) (mC (.int 1)) addD)) (retS (bin2 (callF F_law_mixed (consA (ixO 0 (mC (.int 1))) (consA (ixO 0 (mC (.int 2))) (nilA)))) (mVar 1) modD)))
theorem sc__law_draw : FnScope ["purse", "out_of", "drawn"] ["purse", "out_of"] (defScope (top 18)) := ⟨rfl, rfl, rfl, by decide +kernel, rfl, by decide +kernel, by decide +kernel⟩
theorem run__law_draw {f : Addr} {fd : FuncData} (F : Fun K "_law_draw" "_law_draw" (top 18) f fd) (T : Tx K mg C) {f__law_mixed : Addr} {fd__law_mixed : FuncData} (G__law_mixed : FnOk P w K mg base CX0 1 f__law_mixed fd__law_mixed ["cell", "k"] (fun vs H Q _ => SpF K (F_law_mixed) vs H Q E00)) (b__law_mixed : Binds K fd__law_mixed ["cell", "k"] []) (g__law_mixed : mg "_law_mixed" = some (.ref f__law_mixed)) (k__law_mixed : PySem.W.keepIn K (.ref f__law_mixed) = true) :
    FnOk P w K mg base CX0 2 f fd ["purse", "out_of"] (fun vs H Q _ => SpF K (runB 3 2 [0] m__law_draw) vs H Q E00) := by
  have sc := sc__law_draw
  refine okF [0] F sc (fun pn cdv A outer s H E hpn hr => ?_)
  have hu64 := hr.units
  have hu65 := room65 hr
  have hu1 := hu_of hr
  exact psx_cons (psx_if (pt_c op_gt od_gt (px_ixO (pv 0) (px_int) (fun _ _ => rfl)) (px_int) (nomark _)) (psx_cons (psx_set (i := 2) (np hpn (by decide)) sc.nd rfl (by first | exact Or.inl rfl | exact Or.inr rfl) (px_op op_mod od_mod (px_ixO (pv 0) (px_int) (fun _ _ => rfl)) (px_var (pv 1)))) (psx_cons (psx_put (pv 0) (px_int) (px_op op_fdiv od_fdiv (px_ixO (pv 0) (px_int) (fun _ _ => rfl)) (px_var (pv 1))) (fun a b c => ps_asg c (pg_sub a b set_list))) (psx_one (psx_ret (px_move (np hpn (by decide)) (pv 2)))))) (psx_nil)) (psx_cons (psx_put (pv 0) (px_int) (px_op op_adds od_add (px_ixO (pv 0) (px_int) (fun _ _ => rfl)) (px_int)) (fun a b c => ps_asg c (pg_sub a b set_list))) (psx_one (psx_ret (px_op op_mod od_mod (px_call G__law_mixed (hr.mono (by decide)) g__law_mixed k__law_mixed b__law_mixed (pax_cons (px_ixO (pv 0) (px_int) (fun _ _ => rfl)) (pax_cons (px_ixO (pv 0) (px_int) (fun _ _ => rfl)) (pax_nil)))) (px_var (pv 1))))))
/-! ### _law_links -/
def m__law_links : MS := seqS (asgS 1 (mLst (nilA))) (seqS (asgS 2 (mC (.str ""))) (seqS (forS (seqD (mVar 0)) (bTup 2 (bCons (bName 3) (bCons (bName 4) (bNil)))) (seqS (ifS (toB (bin2 (mVar 3) (mTup (consA (mC (.str "then")) (consA (mC (.str "later")) (nilA)))) (inM false))) (dropS (appM 1 (mTup (consA (mVar 2) (consA (mVar 4) (consA (mC (.bl true)) (nilA))))))) (ifS (toB (bin2 (mVar 3) (mTup (consA (mC (.str "back")) (consA (mC (.str "earlier")) (nilA)))) (inM false))) (dropS (appM 1 (mTup (consA (mVar 4) (consA (mVar 2) (consA (mC (.bl true)) (nilA))))))) (ifS (toB (bin2 (mVar 3) (mC (.str "with")) eqM)) (dropS (appM 1 (mTup (consA (mVar 2) (consA (mVar 4) (consA (mC (.bl false)) (nilA))))))) (dropS (appM 1 (mC .non)))))) (ifS (toB (bin2 (mVar 3) (mTup (consA (mC (.str "at")) (consA (mC (.str "then")) (consA (mC (.str "back")) (nilA))))) (inM false))) (asgS 2 (mVar 4)) (nxS)))) (retS (mMove 1))))
theorem sc__law_links : FnScope ["sentences", "found", "place", "word", "moment"] ["sentences"] (defScope (top 19)) := ⟨rfl, rfl, rfl, by decide +kernel, rfl, by decide +kernel, by decide +kernel⟩
theorem run__law_links {f : Addr} {fd : FuncData} (F : Fun K "_law_links" "_law_links" (top 19) f fd) (T : Tx K mg C) :
    FnOk P w K mg base CX0 1 f fd ["sentences"] (fun vs H Q _ => SpF K (runB 5 1 [] m__law_links) vs H Q E00) := by
  have sc := sc__law_links
  refine okF [] F sc (fun pn cdv A outer s H E hpn hr => ?_)
  have hu64 := hr.units
  have hu65 := room65 hr
  have hu1 := hu_of hr
  exact psx_cons (psx_set (i := 1) (np hpn (by decide)) sc.nd rfl (by first | exact Or.inl rfl | exact Or.inr rfl) (px_lst (pax_nil))) (psx_cons (psx_set (i := 2) (np hpn (by decide)) sc.nd rfl (by first | exact Or.inl rfl | exact Or.inr rfl) (px_str)) (psx_cons (psx_for PassesOwn.never rfl (pix_seq (px_var (pv 0))) (pg_tup (by rfl) (pgs_cons (pg_name (i := 3) sc.nd rfl (by first | exact Or.inl rfl | exact Or.inr rfl)) (pgs_cons (pg_name (i := 4) sc.nd rfl (by first | exact Or.inl rfl | exact Or.inr rfl)) (pgs_nil)))) (gb_tup (gbs_cons (gb_name (np hpn (by decide))) (gbs_cons (gb_name (np hpn (by decide))) (gbs_nil)))) (psx_cons (psx_if (pt_c (op_ins hu65) od_in (px_var (pv 3)) (px_tup (pax_cons (px_str) (pax_cons (px_str) (pax_nil)))) (by rfl)) (psx_one (psx_expr (px_append (pv 1) (px_tup (pax_cons (px_var (pv 2)) (pax_cons (px_var (pv 4)) (pax_cons (px_bl) (pax_nil))))) (fun a b => pe_bm PySem.F.plainAttrs_list PySem.F.slot_list_append PySem.F.type_list_append mt_append a b)))) (psx_one (psx_if (pt_c (op_ins hu65) od_in (px_var (pv 3)) (px_tup (pax_cons (px_str) (pax_cons (px_str) (pax_nil)))) (by rfl)) (psx_one (psx_expr (px_append (pv 1) (px_tup (pax_cons (px_var (pv 4)) (pax_cons (px_var (pv 2)) (pax_cons (px_bl) (pax_nil))))) (fun a b => pe_bm PySem.F.plainAttrs_list PySem.F.slot_list_append PySem.F.type_list_append mt_append a b)))) (psx_one (psx_if (pt_c (op_eqs hu64) od_eq (px_var (pv 3)) (px_str) (nomark _)) (psx_one (psx_expr (px_append (pv 1) (px_tup (pax_cons (px_var (pv 2)) (pax_cons (px_var (pv 4)) (pax_cons (px_bl) (pax_nil))))) (fun a b => pe_bm PySem.F.plainAttrs_list PySem.F.slot_list_append PySem.F.type_list_append mt_append a b)))) (psx_one (psx_expr (px_append (pv 1) (px_non) (fun a b => pe_bm PySem.F.plainAttrs_list PySem.F.slot_list_append PySem.F.type_list_append mt_append a b))))))))) (psx_one (psx_if (pt_c (op_ins hu65) od_in (px_var (pv 3)) (px_tup (pax_cons (px_str) (pax_cons (px_str) (pax_cons (px_str) (pax_nil))))) (by rfl)) (psx_one (psx_set (i := 2) (np hpn (by decide)) sc.nd rfl (by first | exact Or.inl rfl | exact Or.inr rfl) (px_var (pv 4)))) (psx_nil))))) (psx_one (psx_ret (px_move (np hpn (by decide)) (pv 1))))))
/-! ### _law_names -/
def m__law_names : MS := retS (BS.sortM (mComp (seqD (mVar 0)) [1, 2] (bTup 2 (bCons (bName 1) (bCons (bName 2) (bNil)))) (yesT) (mVar 2)))
theorem sc__law_names : FnScope ["sentences", "word", "moment"] ["sentences"] (defScope (top 21)) := ⟨rfl, rfl, rfl, by decide +kernel, rfl, by decide +kernel, by decide +kernel⟩
theorem run__law_names {f : Addr} {fd : FuncData} (F : Fun K "_law_names" "_law_names" (top 21) f fd) (T : Tx K mg C) :
    FnOk P w K mg base CX0 1 f fd ["sentences"] (fun vs H Q _ => SpF K (runB 3 1 [] m__law_names) vs H Q E00) := by
  have sc := sc__law_names
  refine okF [] F sc (fun pn cdv A outer s H E hpn hr => ?_)
  have hu64 := hr.units
  have hu65 := room65 hr
  have hu1 := hu_of hr
  exact psx_one (psx_ret (BS.px_sortSet rfl (px_lc (own := [("word", 1), ("moment", 2)]) rfl sc.nd (pix_seq (px_var (pv 0))) (blkOk_by (own := [("word", 1), ("moment", 2)]) (N := ["sentences", "word", "moment"]) (sc := defScope (top 21)) (by decide +kernel)) (gb_tup (gbs_cons (gb_name (np hpn (by decide))) (gbs_cons (gb_name (np hpn (by decide))) (gbs_nil)))) (by decide) (npL hpn (by decide)) (fun _ _ _ _ _ => pg_tup (by rfl) (pgs_cons (pg_name (i := 1) sc.nd rfl (by first | exact Or.inl rfl | exact Or.inr rfl)) (pgs_cons (pg_name (i := 2) sc.nd rfl (by first | exact Or.inl rfl | exact Or.inr rfl)) (pgs_nil)))) (fun _ _ _ _ _ => ptsx_nil) (fun _ _ _ _ _ => px_var (pv 2))) T.n_sorted T.n_set))
/-! ### _law_model -/
def m__law_model : MS := retS (callF F_law_order (consA (callF F_law_names (consA (mVar 0) (nilA))) (consA (callF F_law_links (consA (mVar 0) (nilA))) (nilA))))
theorem sc__law_model : FnScope ["sentences"] ["sentences"] (defScope (top 22)) := ⟨rfl, rfl, rfl, by decide +kernel, rfl, by decide +kernel, by decide +kernel⟩
theorem run__law_model {f : Addr} {fd : FuncData} (F : Fun K "_law_model" "_law_model" (top 22) f fd) (T : Tx K mg C) {f__law_order : Addr} {fd__law_order : FuncData} (G__law_order : FnOk P w K mg base CX0 1 f__law_order fd__law_order ["names", "links"] (fun vs H Q _ => SpF K (F_law_order) vs H Q E00)) (b__law_order : Binds K fd__law_order ["names", "links"] []) {f__law_names : Addr} {fd__law_names : FuncData} (G__law_names : FnOk P w K mg base CX0 1 f__law_names fd__law_names ["sentences"] (fun vs H Q _ => SpF K (F_law_names) vs H Q E00)) (b__law_names : Binds K fd__law_names ["sentences"] []) {f__law_links : Addr} {fd__law_links : FuncData} (G__law_links : FnOk P w K mg base CX0 1 f__law_links fd__law_links ["sentences"] (fun vs H Q _ => SpF K (F_law_links) vs H Q E00)) (b__law_links : Binds K fd__law_links ["sentences"] []) (g__law_order : mg "_law_order" = some (.ref f__law_order)) (k__law_order : PySem.W.keepIn K (.ref f__law_order) = true) (g__law_names : mg "_law_names" = some (.ref f__law_names)) (k__law_names : PySem.W.keepIn K (.ref f__law_names) = true) (g__law_links : mg "_law_links" = some (.ref f__law_links)) (k__law_links : PySem.W.keepIn K (.ref f__law_links) = true) :
    FnOk P w K mg base CX0 2 f fd ["sentences"] (fun vs H Q _ => SpF K (runB 1 1 [] m__law_model) vs H Q E00) := by
  have sc := sc__law_model
  refine okF [] F sc (fun pn cdv A outer s H E hpn hr => ?_)
  have hu64 := hr.units
  have hu65 := room65 hr
  have hu1 := hu_of hr
  exact psx_one (psx_ret (px_call G__law_order (hr.mono (by decide)) g__law_order k__law_order b__law_order (pax_cons (px_call G__law_names (hr.mono (by decide)) g__law_names k__law_names b__law_names (pax_cons (px_var (pv 0)) (pax_nil))) (pax_cons (px_call G__law_links (hr.mono (by decide)) g__law_links k__law_links b__law_links (pax_cons (px_var (pv 0)) (pax_nil))) (pax_nil)))))
/-! ### _law_is_name -/
def m__law_is_name : MS := seqS (ifS (orT (notT (toB (isiM "str" (mVar 0)))) (notT (toB (chain3 (mC (.int 1)) (mCall lenD (consA (mVar 0) (nilA))) (mC (.int 8)) (iiB (fun i j => decide (i ≤ j))) (iiB (fun i j => decide (i ≤ j))))))) (retS (mC (.bl false))) (nxS)) (retS (bin2 (mComp (seqD (mVar 0)) [1] (bName 1) (toB (bin2 (mVar 1) (mC (.str "abcdefghijklmnopqrstuvwxyz")) (inM true))) (mVar 1)) (mLst (nilA)) eqM))
theorem sc__law_is_name : FnScope ["value", "sign"] ["value"] (defScope (top 27)) := ⟨rfl, rfl, rfl, by decide +kernel, rfl, by decide +kernel, by decide +kernel⟩
theorem run__law_is_name {f : Addr} {fd : FuncData} (F : Fun K "_law_is_name" "_law_is_name" (top 27) f fd) (T : Tx K mg C) :
    FnOk P w K mg base CX0 1 f fd ["value"] (fun vs H Q _ => SpF K (runB 2 1 [] m__law_is_name) vs H Q E00) := by
  have sc := sc__law_is_name
  refine okF [] F sc (fun pn cdv A outer s H E hpn hr => ?_)
  have hu64 := hr.units
  have hu65 := room65 hr
  have hu1 := hu_of hr
  exact psx_cons (psx_if ((pwx_or (ptx_not (pt_x (px_isi kit_str (px_var (pv 0)) T.n_isinstance T.n_str (by decide +kernel)))) (pw_or1 (ptx_not (ptx_chain op_le op_le (px_int) (px_callB call_lens cd_len (by rfl) T.n_len PySem.boot_len (pax_cons (px_var (pv 0)) (pax_nil))) (px_int))))).pt) (psx_one (psx_ret (px_bl))) (psx_nil)) (psx_one (psx_ret (px_cmp (op_eqs hu64) od_eq (px_lc (own := [("sign", 1)]) rfl sc.nd (pix_seq (px_var (pv 0))) (blkOk_by (own := [("sign", 1)]) (N := ["value", "sign"]) (sc := defScope (top 27)) (by decide +kernel)) (gb_name (np hpn (by decide))) (by decide) (npL hpn (by decide)) (fun _ _ _ _ _ => pg_name (i := 1) sc.nd rfl (by first | exact Or.inl rfl | exact Or.inr rfl)) (fun _ _ _ _ _ => ptsx_one (pt_c (op_notIns hu65) od_in (px_var (pv 1)) (px_str) (by rfl))) (fun _ _ _ _ _ => px_var (pv 1))) (px_lst (pax_nil)) (nomark _))))
/-! ### _law_is_sentence -/
def m__law_is_sentence : MS := seqS (ifS (orT (notT (toB (isiM "tuple" (mVar 0)))) (orT (toB (bin2 (mCall lenD (consA (mVar 0) (nilA))) (mC (.int 2)) neM)) (notT (toB (isiM "str" (bin2 (mVar 0) (mC (.int 0)) ixM)))))) (retS (mC (.bl false))) (nxS)) (retS (andV (bin2 (bin2 (mVar 0) (mC (.int 0)) ixM) (mTup (consA (mC (.str "at")) (consA (mC (.str "then")) (consA (mC (.str "back")) (consA (mC (.str "later")) (consA (mC (.str "earlier")) (consA (mC (.str "with")) (nilA)))))))) (inM false)) (callF F_law_is_name (consA (bin2 (mVar 0) (mC (.int 1)) ixM) (nilA)))))
theorem sc__law_is_sentence : FnScope ["value"] ["value"] (defScope (top 28)) := ⟨rfl, rfl, rfl, by decide +kernel, rfl, by decide +kernel, by decide +kernel⟩
theorem run__law_is_sentence {f : Addr} {fd : FuncData} (F : Fun K "_law_is_sentence" "_law_is_sentence" (top 28) f fd) (T : Tx K mg C) {f__law_is_name : Addr} {fd__law_is_name : FuncData} (G__law_is_name : FnOk P w K mg base CX0 1 f__law_is_name fd__law_is_name ["value"] (fun vs H Q _ => SpF K (F_law_is_name) vs H Q E00)) (b__law_is_name : Binds K fd__law_is_name ["value"] []) (g__law_is_name : mg "_law_is_name" = some (.ref f__law_is_name)) (k__law_is_name : PySem.W.keepIn K (.ref f__law_is_name) = true) :
    FnOk P w K mg base CX0 2 f fd ["value"] (fun vs H Q _ => SpF K (runB 1 1 [] m__law_is_sentence) vs H Q E00) := by
  have sc := sc__law_is_sentence
  refine okF [] F sc (fun pn cdv A outer s H E hpn hr => ?_)
  have hu64 := hr.units
  have hu65 := room65 hr
  have hu1 := hu_of hr
  exact psx_cons (psx_if ((pwx_or (ptx_not (pt_x (px_isi kit_tuple (px_var (pv 0)) T.n_isinstance T.n_tuple (by decide +kernel)))) (pwx_or (pt_c (op_nes hu64) od_ne (px_callB call_lens cd_len (by rfl) T.n_len PySem.boot_len (pax_cons (px_var (pv 0)) (pax_nil))) (px_int) (nomark _)) (pw_or1 (ptx_not (pt_x (px_isi kit_str (px_ix ix_seq od_ix (px_var (pv 0)) (px_int) (fun _ _ => rfl)) T.n_isinstance T.n_str (by decide +kernel))))))).pt) (psx_one (psx_ret (px_bl))) (psx_nil)) (psx_one (psx_ret (px_and (px_cmp (op_ins hu65) od_in (px_ix ix_seq od_ix (px_var (pv 0)) (px_int) (fun _ _ => rfl)) (px_tup (pax_cons (px_str) (pax_cons (px_str) (pax_cons (px_str) (pax_cons (px_str) (pax_cons (px_str) (pax_cons (px_str) (pax_nil)))))))) (by rfl)) (pe_one (px_call G__law_is_name (hr.mono (by decide)) g__law_is_name k__law_is_name b__law_is_name (pax_cons (px_ix ix_seq od_ix (px_var (pv 0)) (px_int) (fun _ _ => rfl)) (pax_nil)))))))
/-! ### _law_odd -/
def m__law_odd : MS := seqS (asgS 1 (mLst (consA (mC .non) (consA (mC (.bl true)) (consA (mC (.int 0)) (consA (mC (.int 7)) (consA (mC (.str "")) (consA (mC (.str "a")) (consA (mC (.str "at")) (consA (mC (.str "then")) (consA (mC (.str "with")) (consA (mC (.str "At")) (consA (mC (.str "until")) (consA (mC (.str "nineletrs")) (consA (mC (.str "x1")) (consA (mC (.str "a b")) (consA (mLst (nilA)) (consA (mTup (nilA)) (nilA))))))))))))))))))) (seqS (asgS 1 (bin2 (mVar 1) (mLst (consA (mC (.str " a")) (consA (mC (.str "a ")) (consA (mC (.str " ")) (consA (mC (.str "a{")) (consA (mC (.str "a~b")) (consA (mC (.str "then ")) (consA (mC (.str " with")) (nilA))))))))) addD)) (seqS (asgS 1 (bin2 (mVar 1) (mLst (consA (mTup (consA (mC (.str "at")) (nilA))) (consA (mTup (consA (mC (.str "at")) (consA (mC (.str "a")) (nilA)))) (consA (mLst (consA (mC (.str "at")) (consA (mC (.str "a")) (nilA)))) (consA (mTup (consA (mC (.str "then")) (consA (mC (.str "b")) (consA (mC (.str "c")) (nilA))))) (nilA)))))) addD)) (seqS (asgS 1 (bin2 (mVar 1) (mLst (consA (mTup (consA (mC (.str "a")) (consA (mC (.str "at")) (nilA)))) (consA (mTup (consA (mC (.str "back")) (consA (mC (.str "m")) (nilA)))) (consA (mTup (consA (mC (.str "with")) (consA (mC .non) (nilA)))) (nilA))))) addD)) (retS (bin2 (mVar 1) (callO F_law_draw 0 (consA (mCall lenD (consA (mVar 1) (nilA))) (nilA))) ixM)))))
theorem sc__law_odd : FnScope ["purse", "some"] ["purse"] (defScope (top 30)) := ⟨rfl, rfl, rfl, by decide +kernel, rfl, by decide +kernel, by decide +kernel⟩
theorem run__law_odd {f : Addr} {fd : FuncData} (F : Fun K "_law_odd" "_law_odd" (top 30) f fd) (T : Tx K mg C) {f__law_draw : Addr} {fd__law_draw : FuncData} (G__law_draw : FnOk P w K mg base CX0 2 f__law_draw fd__law_draw ["purse", "out_of"] (fun vs H Q _ => SpF K (F_law_draw) vs H Q E00)) (b__law_draw : Binds K fd__law_draw ["purse", "out_of"] []) (g__law_draw : mg "_law_draw" = some (.ref f__law_draw)) (k__law_draw : PySem.W.keepIn K (.ref f__law_draw) = true) :
    FnOk P w K mg base CX0 3 f fd ["purse"] (fun vs H Q _ => SpF K (runB 2 1 [0] m__law_odd) vs H Q E00) := by
  have sc := sc__law_odd
  refine okF [0] F sc (fun pn cdv A outer s H E hpn hr => ?_)
  have hu64 := hr.units
  have hu65 := room65 hr
  have hu1 := hu_of hr
  exact psx_cons (psx_set (i := 1) (np hpn (by decide)) sc.nd rfl (by first | exact Or.inl rfl | exact Or.inr rfl) (px_lst (pax_cons (px_non) (pax_cons (px_bl) (pax_cons (px_int) (pax_cons (px_int) (pax_cons (px_str) (pax_cons (px_str) (pax_cons (px_str) (pax_cons (px_str) (pax_cons (px_str) (pax_cons (px_str) (pax_cons (px_str) (pax_cons (px_str) (pax_cons (px_str) (pax_cons (px_str) (pax_cons (px_lst (pax_nil)) (pax_cons (px_tup (pax_nil)) (pax_nil))))))))))))))))))) (psx_cons (psx_set (i := 1) (np hpn (by decide)) sc.nd rfl (by first | exact Or.inl rfl | exact Or.inr rfl) (px_op op_adds od_add (px_var (pv 1)) (px_lst (pax_cons (px_str) (pax_cons (px_str) (pax_cons (px_str) (pax_cons (px_str) (pax_cons (px_str) (pax_cons (px_str) (pax_cons (px_str) (pax_nil))))))))))) (psx_cons (psx_set (i := 1) (np hpn (by decide)) sc.nd rfl (by first | exact Or.inl rfl | exact Or.inr rfl) (px_op op_adds od_add (px_var (pv 1)) (px_lst (pax_cons (px_tup (pax_cons (px_str) (pax_nil))) (pax_cons (px_tup (pax_cons (px_str) (pax_cons (px_str) (pax_nil)))) (pax_cons (px_lst (pax_cons (px_str) (pax_cons (px_str) (pax_nil)))) (pax_cons (px_tup (pax_cons (px_str) (pax_cons (px_str) (pax_cons (px_str) (pax_nil))))) (pax_nil)))))))) (psx_cons (psx_set (i := 1) (np hpn (by decide)) sc.nd rfl (by first | exact Or.inl rfl | exact Or.inr rfl) (px_op op_adds od_add (px_var (pv 1)) (px_lst (pax_cons (px_tup (pax_cons (px_str) (pax_cons (px_str) (pax_nil)))) (pax_cons (px_tup (pax_cons (px_str) (pax_cons (px_str) (pax_nil)))) (pax_cons (px_tup (pax_cons (px_str) (pax_cons (px_non) (pax_nil)))) (pax_nil))))))) (psx_one (psx_ret (px_ix ix_seq od_ix (px_var (pv 1)) (px_callO G__law_draw (hr.mono (by decide)) g__law_draw k__law_draw b__law_draw (pv 0) (pax_cons (px_callB call_lens cd_len (by rfl) T.n_len PySem.boot_len (pax_cons (px_var (pv 1)) (pax_nil))) (pax_nil))) (fun _ _ => rfl)))))))
/-! ### _law_drawn -/
def m__law_drawn : MS := seqS (asgS 1 (sliceM (mLst (consA (mC (.str "m")) (consA (mC (.str "b")) (consA (mC (.str "ab")) (consA (mC (.str "c")) (consA (mC (.str "z")) (consA (mC (.str "d")) (consA (mC (.str "momentum")) (nilA))))))))) (noP) (someP (bin2 (mC (.int 1)) (callO F_law_draw 0 (consA (mC (.int 7)) (nilA))) addD)))) (seqS (asgS 2 (mLst (consA (mC (.str "then")) (consA (mC (.str "then")) (consA (mC (.str "back")) (consA (mC (.str "later")) (consA (mC (.str "earlier")) (consA (mC (.str "with")) (consA (mC (.str "at")) (nilA)))))))))) (seqS (asgS 3 (mLst (consA (mTup (consA (mC (.str "at")) (consA (bin2 (mVar 1) (mC (.int 0)) ixM) (nilA)))) (nilA)))) (seqS (forS (rangeM1 (consA (callO F_law_draw 0 (consA (mC (.int 14)) (nilA))) (nilA))) (bName 4) (dropS (appM 3 (mTup (consA (bin2 (mVar 2) (callO F_law_draw 0 (consA (mC (.int 7)) (nilA))) ixM) (consA (bin2 (mVar 1) (callO F_law_draw 0 (consA (mCall lenD (consA (mVar 1) (nilA))) (nilA))) ixM) (nilA))))))) (retS (mCall tupleD (consA (mVar 3) (nilA)))))))
theorem sc__law_drawn : FnScope ["purse", "names", "words", "found", "turn"] ["purse"] (defScope (top 32)) := ⟨rfl, rfl, rfl, by decide +kernel, rfl, by decide +kernel, by decide +kernel⟩
theorem run__law_drawn {f : Addr} {fd : FuncData} (F : Fun K "_law_drawn" "_law_drawn" (top 32) f fd) (T : Tx K mg C) {f__law_draw : Addr} {fd__law_draw : FuncData} (G__law_draw : FnOk P w K mg base CX0 2 f__law_draw fd__law_draw ["purse", "out_of"] (fun vs H Q _ => SpF K (F_law_draw) vs H Q E00)) (b__law_draw : Binds K fd__law_draw ["purse", "out_of"] []) (g__law_draw : mg "_law_draw" = some (.ref f__law_draw)) (k__law_draw : PySem.W.keepIn K (.ref f__law_draw) = true) :
    FnOk P w K mg base CX0 3 f fd ["purse"] (fun vs H Q _ => SpF K (runB 5 1 [0] m__law_drawn) vs H Q E00) := by
  have sc := sc__law_drawn
  refine okF [0] F sc (fun pn cdv A outer s H E hpn hr => ?_)
  have hu64 := hr.units
  have hu65 := room65 hr
  have hu1 := hu_of hr
  exact psx_cons (psx_set (i := 1) (np hpn (by decide)) sc.nd rfl (by first | exact Or.inl rfl | exact Or.inr rfl) (px_slice (px_lst (pax_cons (px_str) (pax_cons (px_str) (pax_cons (px_str) (pax_cons (px_str) (pax_cons (px_str) (pax_cons (px_str) (pax_cons (px_str) (pax_nil))))))))) (pox_none) (pox_some (px_op op_adds od_add (px_int) (px_callO G__law_draw (hr.mono (by decide)) g__law_draw k__law_draw b__law_draw (pv 0) (pax_cons (px_int) (pax_nil))))))) (psx_cons (psx_set (i := 2) (np hpn (by decide)) sc.nd rfl (by first | exact Or.inl rfl | exact Or.inr rfl) (px_lst (pax_cons (px_str) (pax_cons (px_str) (pax_cons (px_str) (pax_cons (px_str) (pax_cons (px_str) (pax_cons (px_str) (pax_cons (px_str) (pax_nil)))))))))) (psx_cons (psx_set (i := 3) (np hpn (by decide)) sc.nd rfl (by first | exact Or.inl rfl | exact Or.inr rfl) (px_lst (pax_cons (px_tup (pax_cons (px_str) (pax_cons (px_ix ix_seq od_ix (px_var (pv 1)) (px_int) (fun _ _ => rfl)) (pax_nil)))) (pax_nil)))) (psx_cons (psx_for PassesOwn.never rfl (pix_range1 T.n_range (pax_cons (px_callO G__law_draw (hr.mono (by decide)) g__law_draw k__law_draw b__law_draw (pv 0) (pax_cons (px_int) (pax_nil))) (pax_nil))) (pg_name (i := 4) sc.nd rfl (by first | exact Or.inl rfl | exact Or.inr rfl)) (gb_name (np hpn (by decide))) (psx_one (psx_expr (px_append (pv 3) (px_tup (pax_cons (px_ix ix_seq od_ix (px_var (pv 2)) (px_callO G__law_draw (hr.mono (by decide)) g__law_draw k__law_draw b__law_draw (pv 0) (pax_cons (px_int) (pax_nil))) (fun _ _ => rfl)) (pax_cons (px_ix ix_seq od_ix (px_var (pv 1)) (px_callO G__law_draw (hr.mono (by decide)) g__law_draw k__law_draw b__law_draw (pv 0) (pax_cons (px_callB call_lens cd_len (by rfl) T.n_len PySem.boot_len (pax_cons (px_var (pv 1)) (pax_nil))) (pax_nil))) (fun _ _ => rfl)) (pax_nil)))) (fun a b => pe_bm PySem.F.plainAttrs_list PySem.F.slot_list_append PySem.F.type_list_append mt_append a b))))) (psx_one (psx_ret (px_callTy call_tuple_of cd_tuple (by rfl) T.n_tuple (by decide +kernel) (pax_cons (px_var (pv 3)) (pax_nil))))))))
end
end BK

namespace BK
open PySem L2 BT BO
abbrev bodyL : MS := (seqS (ifS (toB (bin2 (mVar 3) (mTup (consA (mC (.str "then")) (consA (mC (.str "later")) (nilA)))) (inM false))) (dropS (appM 1 (mTup (consA (mVar 2) (consA (mVar 4) (consA (mC (.bl true)) (nilA))))))) (ifS (toB (bin2 (mVar 3) (mTup (consA (mC (.str "back")) (consA (mC (.str "earlier")) (nilA)))) (inM false))) (dropS (appM 1 (mTup (consA (mVar 4) (consA (mVar 2) (consA (mC (.bl true)) (nilA))))))) (ifS (toB (bin2 (mVar 3) (mC (.str "with")) eqM)) (dropS (appM 1 (mTup (consA (mVar 2) (consA (mVar 4) (consA (mC (.bl false)) (nilA))))))) (dropS (appM 1 (mC .non)))))) (ifS (toB (bin2 (mVar 3) (mTup (consA (mC (.str "at")) (consA (mC (.str "then")) (consA (mC (.str "back")) (nilA))))) (inM false))) (asgS 2 (mVar 4)) (nxS)))
theorem body_l (d : D) (acc : List D) (p w m : Str) (few : acc.length < 1000) : bodyL [.dt d, .ol acc, .dt (.str p), .dt (.str w), .dt (.str m)] = some (.nx [.dt d, .ol (acc ++ [lkD (lkOf p w m)]), .dt (.str (if moving w then m else p)), .dt (.str w), .dt (.str m)]) := by
  have z2 : 2 ≤ sizeLine := line_big (by decide)
  have z3 : 3 ≤ sizeLine := line_big (by decide)
  have hz : acc.length < sizeLine := line_lt (by omega)
  have mv : moving w = decide (Str.ofString "at" = w ∨ Str.ofString "then" = w ∨ Str.ofString "back" = w) := rfl
  by_cases c0 : Str.ofString "at" = w ∨ Str.ofString "then" = w ∨ Str.ofString "back" = w
  · have cm : moving w = true := decide_eq_true c0
    by_cases c1 : Str.ofString "then" = w ∨ Str.ofString "later" = w
    · simp [bodyL, lkOf, c1, c0, cm, z2, z3, hz, lkD]
    · by_cases c2 : Str.ofString "back" = w ∨ Str.ofString "earlier" = w
      · simp [bodyL, lkOf, c1, c2, c0, cm, z2, z3, hz, lkD]
      · by_cases c3 : w = Str.ofString "with"
        · subst c3
          simp [bodyL, lkOf, c1, c2, c0, cm, z2, z3, hz, lkD]
        · simp [bodyL, lkOf, c1, c2, c3, c0, cm, z2, z3, hz, lkD]
  · have cm : moving w = false := decide_eq_false c0
    by_cases c1 : Str.ofString "then" = w ∨ Str.ofString "later" = w
    · simp [bodyL, lkOf, c1, c0, cm, z2, z3, hz, lkD]
    · by_cases c2 : Str.ofString "back" = w ∨ Str.ofString "earlier" = w
      · simp [bodyL, lkOf, c1, c2, c0, cm, z2, z3, hz, lkD]
      · by_cases c3 : w = Str.ofString "with"
        · subst c3
          simp [bodyL, lkOf, c1, c2, c0, cm, z2, z3, hz, lkD]
        · simp [bodyL, lkOf, c1, c2, c3, c0, cm, z2, z3, hz, lkD]
theorem loop_l : ∀ (t : Tale) (d : D) (acc : List D) (p : Str) (x y : Sl), acc.length + t.length ≤ 1000 → ∃ p' x' y', loopS (bTup 2 (bCons (bName 3) (bCons (bName 4) (bNil)))) bodyL (t.map encS) [.dt d, .ol acc, .dt (.str p), x, y] = some (.nx [.dt d, .ol (acc ++ (lks p t).map lkD), p', x', y'])
  | [], d, acc, p, x, y, _ => ⟨_, x, y, by simp [loopS, lks]; rfl⟩
  | (w, m) :: t, d, acc, p, x, y, h => by
    simp only [List.length_cons] at h
    have B := body_l d acc p w m (by omega)
    obtain ⟨p', x', y', ih⟩ := loop_l t d (acc ++ [lkD (lkOf p w m)]) (if moving w then m else p) (.dt (.str w)) (.dt (.str m)) (by simp; omega)
    refine ⟨p', x', y', ?_⟩
    have hb : bTup 2 (bCons (bName 3) (bCons (bName 4) (bNil))) (encS (w, m)) [.dt d, .ol acc, .dt (.str p), x, y] = some [.dt d, .ol acc, .dt (.str p), .dt (.str w), .dt (.str m)] := by simp [encS]
    simp only [List.map_cons, loopS, hb, B, lks]
    rw [ih]; simp
theorem eq_law_links (ds : List D) (s : Sl) (h : (match ds with | [d] => (match decQ d with | some t => if t.length ≤ 1000 then some (Sl.ol ((lks "" t).map lkD)) else none | none => none) | _ => none) = some s) :
    runB 5 1 [] m__law_links (ds.map .dt) = some (.val s (ds.map .dt)) := by
  split at h
  rotate_left
  · cases h
  rename_i d
  split at h
  rotate_left
  · cases h
  rename_i t hd
  split at h
  rotate_left
  · cases h
  rename_i c
  cases h
  obtain ⟨p', x', y', L⟩ := loop_l t d [] (Str.ofString "") .un .un (by simpa using c)
  have e : seqD (mVar 0) [.dt d, .ol [], .dt (.str ""), .un, .un] = some (.val (t.map encS) [.dt d, .ol [], .dt (.str ""), .un, .un]) := by
    rcases decQ_eq hd with rfl | rfl <;> simp
  refine runB_rt (ds := [d]) (ρ' := [.dt d, .un, p', x', y']) ?_ rfl (by decide)
  show m__law_links [.dt d, .un, .un, .un, .un] = _
  unfold m__law_links
  rw [seq_nx (ρ' := [.dt d, .ol [], .un, .un, .un]) (asg_val (ρ' := [.dt d, .un, .un, .un, .un]) rfl (by simp)), seq_nx (ρ' := [.dt d, .ol [], .dt (.str ""), .un, .un]) (asg_val (ρ' := [.dt d, .ol [], .un, .un, .un]) rfl (by simp)), seq_nx ((fors_val e).trans L)]
  rfl
theorem eq_law_names (ds : List D) (s : Sl) (h : (match ds with | [d] => (match decQ d with | some t => if t.length ≤ 1000 ∧ (namesOf t).length ≤ 63 then some (Sl.ol ((namesOf t).map .str)) else none | none => none) | _ => none) = some s) :
    runB 3 1 [] m__law_names (ds.map .dt) = some (.val s (ds.map .dt)) := by
  split at h
  rotate_left
  · cases h
  rename_i d
  split at h
  rotate_left
  · cases h
  rename_i t hd
  split at h
  rotate_left
  · cases h
  rename_i c
  cases h
  have C := compL_map (b := bTup 2 (bCons (bName 1) (bCons (bName 2) (bNil)))) (e := mVar 2) (vs := [1, 2]) (ρ := [.dt d, .un, .un]) (g := fun x => match x with | .tup [_, y] => y | _ => .non) (t.map encS) []
    (fun x hx => by
      obtain ⟨y, hy, rfl⟩ := List.mem_map.mp hx
      exact ⟨[.dt d, .dt (.str y.1), .dt (.str y.2)], by simp [encS], by simp, by simp, .dt (.str y.2), by simp, rfl⟩)
    (by simpa using line_big c.1)
  have F : (t.map encS).map (fun x => match x with | .tup [_, y] => y | _ => .non) = (t.map (·.2)).map D.str := by rw [List.map_map, List.map_map]; rfl
  rw [F, List.nil_append] at C
  have e : seqD (mVar 0) [.dt d, .un, .un] = some (.val (t.map encS) [.dt d, .un, .un]) := by
    rcases decQ_eq hd with rfl | rfl <;> simp
  have w1 : noOl [Sl.dt d, .un, .un] [1, 2] = true := by simp
  have w2 : wipeR [Sl.dt d, .un, .un] [1, 2] = [.dt d, .un, .un] := by simp
  have w3 : restR [Sl.dt d, .un, .un] [.dt d, .un, .un] [1, 2] = [.dt d, .un, .un] := by simp
  have M : mComp (seqD (mVar 0)) [1, 2] (bTup 2 (bCons (bName 1) (bCons (bName 2) (bNil)))) yesT (mVar 2) [.dt d, .un, .un] = some (.val (.ol ((t.map (·.2)).map .str)) [.dt d, .un, .un]) := by
    simp only [mComp, bindM, e, w1, if_true, w2, C, w3]
  refine runB_rt (ds := [d]) (ρ' := [.dt d, .un, .un]) ?_ rfl (by decide)
  show m__law_names [.dt d, .un, .un] = _
  unfold m__law_names
  refine ret_val ?_
  simp only [BS.sortM, bindD, bindM, M, Sl.frz, BS.setM, decStrs_map]
  rw [if_pos ⟨by rw [List.length_map]; omega, Nat.lt_of_le_of_lt c.2 (by decide)⟩]
  rfl
theorem eq_law_model (ds : List D) (s : Sl) (h : (match ds with | [d] => (match decQ d with | some t => if t.length ≤ 1000 ∧ (namesOf t).length ≤ 63 ∧ startsAt t = true then some (Sl.dt (modelD t)) else none | none => none) | _ => none) = some s) :
    runB 1 1 [] m__law_model (ds.map .dt) = some (.val s (ds.map .dt)) := by
  split at h
  rotate_left
  · cases h
  rename_i d
  split at h
  rotate_left
  · cases h
  rename_i t hd
  split at h
  rotate_left
  · cases h
  rename_i c
  cases h
  obtain ⟨c1, c2, c3⟩ := c
  have ends := lks_ends t "" (namesOf t) (.inr c3) (fun x hx => BS.mem_sd.mpr (List.mem_map.mpr ⟨x, hx, rfl⟩))
  have ll : ∀ (t : Tale) (p : Str), (lks p t).length = t.length := by
    intro t
    induction t with
    | nil => intro p; rfl
    | cons x t ih => intro p; obtain ⟨w, m⟩ := x; simp [lks, ih]
  have n1 : F_law_names [.dt d] = some (.val (.ol ((namesOf t).map .str)) [.dt d]) := by simp [F_law_names, pureF, hd, c1, c2]
  have n2 : F_law_links [.dt d] = some (.val (.ol ((lks "" t).map lkD)) [.dt d]) := by simp [F_law_links, pureF, hd, c1]
  have cond : (namesOf t).Nodup ∧ (namesOf t).length ≤ 63 ∧ (lks "" t).length ≤ 1000 ∧ endsIn (namesOf t) (lks "" t) = true := ⟨(BS.sd_up _).nodup, c2, by rw [ll]; exact c1, ends⟩
  have n3 : F_law_order [.dt (.lst ((namesOf t).map .str)), .dt (.lst ((lks "" t).map lkD))] = some (.val (.dt (modelD t)) [.dt (.lst ((namesOf t).map .str)), .dt (.lst ((lks "" t).map lkD))]) := by
    simp only [F_law_order, pureF, dts, Option.map_some, decStrs_map, decLks_map]
    rw [if_pos cond]; rfl
  refine runB_rt (ds := [d]) (ρ' := [.dt d]) ?_ rfl (by decide)
  show m__law_model [.dt d] = _
  unfold m__law_model
  refine ret_val ?_
  simp only [callF, bindM, consA, bindD, mVar, List.getElem?_cons_zero, Sl.frz, nilA, List.map_cons, List.map_nil, n1, n2, n3]
end BK

namespace BK
open PySem L2 BT BO
theorem eq_law_at (ds : List D) (s : Sl) (h : (match ds with | [.lst l, .int k] => (match asInts l with | some l => if 0 ≤ k ∧ l.length ≤ 1000 then some (Sl.dt (.int (l.getD k.toNat 0))) else none | none => none) | _ => none) = some s) :
    runB 2 2 [] m__law_at (ds.map .dt) = some (.val s (ds.map .dt)) := by
  split at h
  rotate_left
  · cases h
  rename_i l k
  split at h
  rotate_left
  · cases h
  rename_i is hi
  split at h
  rotate_left
  · cases h
  rename_i c
  cases h
  have el := asInts_eq hi
  subst el
  obtain ⟨n, rfl⟩ := Int.eq_ofNat_of_zero_le c.1
  refine runB_rt (ds := [.lst (is.map .int), .int n]) (ρ' := [.dt (.lst (is.map .int)), .dt (.int n)]) ?_ rfl (by decide)
  show m__law_at [.dt (.lst (is.map .int)), .dt (.int n)] = _
  by_cases lt : n < is.length
  · have a1 : atI (is.map D.int) ((n : Nat) : Int) = some (.int is[n]) := atI_nat (by rw [List.getElem?_map, List.getElem?_eq_getElem lt]; rfl)
    have lt' : ((n : Int) < (is.length : Int)) := by omega
    simp [m__law_at, lt', a1, List.getD_eq_getElem?_getD, List.getElem?_eq_getElem lt]
  · have lt' : ¬ ((n : Int) < (is.length : Int)) := by omega
    have g : is[n]? = none := List.getElem?_eq_none (by omega)
    simp [m__law_at, lt', g]
theorem log_le {n k : Nat} (h : n < 2 ^ k) (hk : 0 < k) : n.log2 < k := by
  by_cases c : n = 0
  · subst c; simpa using hk
  · exact (Nat.log2_lt c).mpr h
theorem eq_law_mixed (ds : List D) (s : Sl) (h : (match ds with | [.int c, .int k] => if 0 ≤ c ∧ c < 2147483648 ∧ 0 ≤ k ∧ k < 2147483648 then some (Sl.dt (.int (mix c k))) else none | _ => none) = some s) :
    runB 3 2 [] m__law_mixed (ds.map .dt) = some (.val s (ds.map .dt)) := by
  split at h
  rotate_left
  · cases h
  rename_i c k
  split at h
  rotate_left
  · cases h
  rename_i q
  cases h
  obtain ⟨c0, c1, k0, k1⟩ := q
  have small : ∀ {x : Int}, 0 ≤ x → x < 2 ^ 100 → x.natAbs.log2 < 100 := fun {x} a b => log_le (by omega) (by decide)
  have n1 : 0 ≤ (c * 1103515245 + 7919 * k * k + k + 1) % 2147483647 := Int.emod_nonneg _ (by decide)
  have n2 : (c * 1103515245 + 7919 * k * k + k + 1) % 2147483647 < 2147483647 := Int.emod_lt_of_pos _ (by decide)
  have n3 := Int.emod_nonneg (((c * 1103515245 + 7919 * k * k + k + 1) % 2147483647) * ((c * 1103515245 + 7919 * k * k + k + 1) % 2147483647) + 69621) (show (2147483629 : Int) ≠ 0 by decide)
  have n4 := Int.emod_lt_of_pos (((c * 1103515245 + 7919 * k * k + k + 1) % 2147483647) * ((c * 1103515245 + 7919 * k * k + k + 1) % 2147483647) + 69621) (show (0 : Int) < 2147483629 by decide)
  have m1 : c.natAbs.log2 + (1103515245 : Int).natAbs.log2 < 1000000 := by
    have := small c0 (by omega); have := small (show (0 : Int) ≤ 1103515245 by decide) (by decide); omega
  have m2 : (7919 : Int).natAbs.log2 + k.natAbs.log2 < 1000000 := by
    have := small k0 (by omega); have := small (show (0 : Int) ≤ 7919 by decide) (by decide); omega
  have m3 : (7919 * k).natAbs.log2 + k.natAbs.log2 < 1000000 := by
    have := small k0 (by omega); have := small (x := 7919 * k) (by omega) (by omega); omega
  have m4 : ((c * 1103515245 + 7919 * k * k + k + 1) % 2147483647).natAbs.log2 + ((c * 1103515245 + 7919 * k * k + k + 1) % 2147483647).natAbs.log2 < 1000000 := by
    have := small n1 (by omega); omega
  have m5 : ((((c * 1103515245 + 7919 * k * k + k + 1) % 2147483647) * ((c * 1103515245 + 7919 * k * k + k + 1) % 2147483647) + 69621) % 2147483629).natAbs.log2 + (48271 : Int).natAbs.log2 < 1000000 := by
    have := small n3 (by omega); have := small (show (0 : Int) ≤ 48271 by decide) (by decide); omega
  refine runB_rt (ds := [.int c, .int k]) (ρ' := [.dt (.int c), .dt (.int k), .dt (.int ((((c * 1103515245 + 7919 * k * k + k + 1) % 2147483647) * ((c * 1103515245 + 7919 * k * k + k + 1) % 2147483647) + 69621) % 2147483629))]) ?_ rfl (by decide)
  show m__law_mixed [.dt (.int c), .dt (.int k), .un] = _
  have m1' : c.natAbs.log2 + Nat.log2 1103515245 < 1000000 := m1
  have m2' : Nat.log2 7919 + k.natAbs.log2 < 1000000 := m2
  have m5' : ((((c * 1103515245 + 7919 * k * k + k + 1) % 2147483647) * ((c * 1103515245 + 7919 * k * k + k + 1) % 2147483647) + 69621) % 2147483629).natAbs.log2 + Nat.log2 48271 < 1000000 := m5
  simp [m__law_mixed, m1', m2', m3, m4, m5', mix]
end BK

namespace BK
open PySem L2 BT BO
theorem decP_eq {xs : List D} {p : Pz} (h : decP xs = some p) : xs = p.L := by
  unfold decP at h
  split at h
  · cases h; rfl
  · cases h
theorem eq_law_draw (xs ds : List D) (s : Sl) (ys : List D) (h : (match decP xs, ds with | some p, [.int n] => if p.ok 1 ∧ 0 < n ∧ n < 1000000 then some (Sl.dt (.int (p.r n)), (p.n n).L) else none | _, _ => none) = some (s, ys)) :
    runB 3 2 [0] m__law_draw (.ol xs :: ds.map .dt) = some (.val s (.ol ys :: ds.map .dt)) := by
  split at h
  rotate_left
  · cases h
  rename_i p n hp
  split at h
  rotate_left
  · cases h
  rename_i c
  cases h
  have ex := decP_eq hp
  subst ex
  obtain ⟨⟨h1, h2, h3, h4, h5⟩, n0, n1⟩ := c
  have big : n < 1073741824 := by omega
  have a0 : atI [D.int p.a, .int p.b, .int p.c] 0 = some (.int p.a) := rfl
  have a1 : atI [D.int p.a, .int p.b, .int p.c] 1 = some (.int p.b) := rfl
  have a2 : atI [D.int p.a, .int p.b, .int p.c] 2 = some (.int p.c) := rfl
  by_cases c : 0 < p.a
  · have r : p.r n = p.a % n := if_pos c
    have q : p.n n = ⟨p.a / n, p.b, p.c⟩ := if_pos c
    rw [r, q]
    simp [runB, m__law_draw, Pz.L, a0, c, n0, big, ixN]
  · have r : p.r n = mix p.b (p.c + 1) % n := if_neg c
    have q : p.n n = ⟨p.a, p.b, p.c + 1⟩ := if_neg c
    have b1 : atI [D.int p.a, .int p.b, .int (p.c + 1)] 1 = some (.int p.b) := rfl
    have b2 : atI [D.int p.a, .int p.b, .int (p.c + 1)] 2 = some (.int (p.c + 1)) := rfl
    have cond : 0 ≤ p.b ∧ p.b < 2147483648 ∧ 0 ≤ p.c + 1 ∧ p.c + 1 < 2147483648 := ⟨h2, h3, by omega, by omega⟩
    have M : F_law_mixed [.dt (.int p.b), .dt (.int (p.c + 1))] = some (.val (.dt (.int (mix p.b (p.c + 1)))) [.dt (.int p.b), .dt (.int (p.c + 1))]) := by
      simp [F_law_mixed, pureF, cond]
    rw [r, q]
    simp [runB, m__law_draw, Pz.L, a0, a2, b1, b2, c, n0, callF, M, ixN]
end BK

namespace BK
open PySem L2 BT BO
theorem F_at_app {is : List Int} {n : Nat} (h : is.length ≤ 1000) : F_law_at [.dt (.lst (is.map .int)), .dt (.int n)] = some (.val (.dt (.int (is.getD n 0))) [.dt (.lst (is.map .int)), .dt (.int n)]) := by
  simp [F_law_at, pureF, asInts_mapI, h]
theorem signs_ok (l : List Nat) (h : ∀ c ∈ l, c < 0x110000) : PyData.canLayAll0 (toPyL (l.map fun c => D.str ⟨#[c]⟩)) = true ∧ PyData.depthAll (toPyL (l.map fun c => D.str ⟨#[c]⟩)) = 0 := by
  induction l with
  | nil => exact ⟨rfl, rfl⟩
  | cons c l ih =>
    obtain ⟨i1, i2⟩ := ih fun x hx => h x (by simp [hx])
    have hc := h c (by simp)
    refine ⟨?_, ?_⟩
    · simp only [List.map_cons, toPyL, toPy, PyData.canLayAll0, i1, Bool.and_true]
      simp [PyData.canLay0, PyData.strOk, hc]
    · simp only [List.map_cons, toPyL, toPy, PyData.depthAll, i2]
      rfl
theorem eqM_nil (l : List Nat) (h : ∀ c ∈ l, c < 0x110000) (ρ : Rho) : eqM (.lst (l.map fun c => D.str ⟨#[c]⟩)) (.lst []) ρ = some (.val (.dt (.bl l.isEmpty)) ρ) := by
  obtain ⟨h1, h2⟩ := signs_ok l h
  have o1 : okD (.lst (l.map fun c => D.str ⟨#[c]⟩)) = true := by
    unfold okD SeqAt.shaped
    simp only [toPy, PyData.canLay0, PyData.depth, h1, h2]
    decide
  have o2 : okD (.lst []) = true := by decide
  have e : eqD (.lst (l.map fun c => D.str ⟨#[c]⟩)) (.lst []) = l.isEmpty := by
    cases l <;> rfl
  simp only [eqM]
  rw [if_pos ⟨o1, o2⟩, e]
theorem bin2_ol {f g : M Sl} {k : D → D → M Sl} {xs ys : List D} {ρ : Rho} (h1 : f ρ = some (.val (.ol xs) ρ)) (h2 : g ρ = some (.val (.ol ys) ρ)) : bin2 f g k ρ = k (.lst xs) (.lst ys) ρ := by
  simp only [bin2, bindD, bindM, h1, h2, Sl.frz]
theorem eq_law_is_name (ds : List D) (s : Sl) (h : (match ds with | [d] => if shortO d = true then some (Sl.dt (.bl (isName d))) else none | _ => none) = some s) :
    runB 2 1 [] m__law_is_name (ds.map .dt) = some (.val s (ds.map .dt)) := by
  split at h
  · rename_i d
    split at h
    · rename_i hs
      cases h
      unfold shortO at hs
      rw [Bool.and_eq_true] at hs
      obtain ⟨hs, hx⟩ := hs
      cases d with
      | str x =>
        have hl : x.length ≤ sizeLine := line_big (by simpa [shortS] using hs)
        have hx : ∀ c ∈ x.cps.toList, c < 0x110000 := fun c hc => by
          have := List.all_eq_true.mp hx c hc
          simpa using this
        have C := compL_pure (b := bName 1) (t := toB (bin2 (mVar 1) (mC (.str abc)) (inM true))) (e := mVar 1) (vs := [1]) (ρ := [.dt (.str x), .un]) (p := fun d => match d with | .str y => (match y.cps.toList with | [c] => !decide (c ∈ abc.cps.toList) | _ => false) | _ => false) (g := id) (signsD x) [] (fun d hd => by
            simp only [signsD, List.mem_map] at hd
            obtain ⟨c, hc, rfl⟩ := hd
            exact ⟨[.dt (.str x), .dt (.str ⟨#[c]⟩)], by simp, by simp, by simp, by simp, fun _ => ⟨_, by simp; rfl, rfl⟩⟩) (by rw [signs_len]; simpa using hl)
        have F : ((signsD x).filter (fun d => match d with | .str y => (match y.cps.toList with | [c] => !decide (c ∈ abc.cps.toList) | _ => false) | _ => false)).map id = (x.cps.toList.filter fun c => !decide (c ∈ abc.cps.toList)).map fun c => D.str ⟨#[c]⟩ := by
          rw [List.map_id]
          unfold signsD
          rw [List.filter_map]
          rfl
        rw [F, List.nil_append] at C
        have E := eqM_nil (x.cps.toList.filter fun c => !decide (c ∈ abc.cps.toList)) (fun c hc => hx c (List.mem_filter.mp hc).1)
        have A : (x.cps.toList.filter fun c => !decide (c ∈ abc.cps.toList)).isEmpty = x.cps.toList.all fun c => decide (c ∈ abc.cps.toList) := by
          rw [Bool.eq_iff_iff, List.isEmpty_iff, List.filter_eq_nil_iff, List.all_eq_true]
          simp
        by_cases c1 : (1 : Int) ≤ (x.length : Int)
        · by_cases c2 : (x.length : Int) ≤ 8
          · have n1 : 1 ≤ x.length := by omega
            have n2 : x.length ≤ 8 := by omega
            have T : orT (notT (toB (isiM "str" (mVar 0)))) (notT (toB (chain3 (mC (.int 1)) (mCall lenD (consA (mVar 0) (nilA))) (mC (.int 8)) (iiB (fun i j => decide (i ≤ j))) (iiB (fun i j => decide (i ≤ j)))))) [.dt (.str x), .un] = some (.val false [.dt (.str x), .un]) := by simp [hl, c1, c2]
            refine runB_rt (ds := [.str x]) (ρ' := [.dt (.str x), .un]) ?_ rfl (by decide)
            show m__law_is_name [.dt (.str x), .un] = _
            unfold m__law_is_name
            rw [seq_nx (ρ' := [.dt (.str x), .un]) ((ifs_val T).trans rfl)]
            refine ret_val ?_
            have src : seqD (mVar 0) [.dt (.str x), .un] = some (.val (signsD x) [.dt (.str x), .un]) := by simp
            have w1 : noOl [Sl.dt (.str x), .un] [1] = true := by simp
            have w2 : wipeR [Sl.dt (.str x), .un] [1] = [.dt (.str x), .un] := by simp
            have w3 : restR [Sl.dt (.str x), .un] [.dt (.str x), .un] [1] = [.dt (.str x), .un] := by simp
            have M : mComp (seqD (mVar 0)) [1] (bName 1) (toB (bin2 (mVar 1) (mC (.str abc)) (inM true))) (mVar 1) [.dt (.str x), .un] = some (.val (.ol ((x.cps.toList.filter fun c => !decide (c ∈ abc.cps.toList)).map fun c => D.str ⟨#[c]⟩)) [.dt (.str x), .un]) := by
              simp only [mComp, bindM, src, w1, if_true, w2, C, w3]
            have z0 : mLst nilA [Sl.dt (.str x), .un] = some (.val (.ol []) [.dt (.str x), .un]) := by simp
            have V : isName (.str x) = x.cps.toList.all fun c => decide (c ∈ abc.cps.toList) := by simp [isName, n1, n2]
            rw [V, ← A]
            exact (bin2_ol M z0).trans (E _)
          · have n2 : ¬ x.length ≤ 8 := by omega
            simp [runB, m__law_is_name, hl, c1, c2, n2, isName]
        · have n1 : ¬ 1 ≤ x.length := by omega
          simp [runB, m__law_is_name, hl, c1, n1, isName]
      | ins _ _ => simp [shortS] at hs
      | _ => simp [runB, m__law_is_name, isName]
    · cases h
  · cases h
end BK

namespace BK
open PySem L2 BT BO
theorem F_lname_app (d : D) (h : shortO d = true) : F_law_is_name [.dt d] = some (.val (.dt (.bl (isName d))) [.dt d]) := by simp [F_law_is_name, pureF, h]
theorem eq_law_is_sentence (ds : List D) (s : Sl) (h : (match ds with | [d] => if shortQ d = true then some (Sl.dt (.bl (isSentence d))) else none | _ => none) = some s) :
    runB 1 1 [] m__law_is_sentence (ds.map .dt) = some (.val s (ds.map .dt)) := by
  split at h
  · rename_i d
    split at h
    · rename_i hs
      cases h
      unfold shortQ at hs
      rw [Bool.and_eq_true] at hs
      obtain ⟨hs, hq⟩ := hs
      cases d with
      | tup xs =>
        match xs with
        | [] => simp [runB, m__law_is_sentence, isSentence]
        | [a] => simp [runB, m__law_is_sentence, isSentence]
        | a :: b :: c :: r =>
          have : ¬ ((r.length : Int) + 1 + 1 + 1 = 2) := by omega
          simp [runB, m__law_is_sentence, isSentence, this]
        | [a, b] =>
          have h2 : shortO b = true := by simp at hq; exact hq.2
          have h1 : shortS a = true := by simp [shortP] at hs; exact hs.1
          have z6 : 6 ≤ sizeLine := line_big (by decide)
          cases a with
          | str x =>
            by_cases c : Str.ofString "at" = x ∨ Str.ofString "then" = x ∨ Str.ofString "back" = x ∨ Str.ofString "later" = x ∨ Str.ofString "earlier" = x ∨ Str.ofString "with" = x
            · have cw : isWord (.str x) = true := by simp [isWord]; exact c
              simp [runB, m__law_is_sentence, isSentence, atI, ixN, cw, callF, F_lname_app b h2, c, z6]
            · have cw : isWord (.str x) = false := by simp [isWord]; simpa using c
              simp [runB, m__law_is_sentence, isSentence, atI, ixN, cw, c, z6]
          | ins _ _ => simp [shortS] at h1
          | _ => simp [runB, m__law_is_sentence, isSentence, atI, ixN, isWord]
      | ins _ _ => simp [shortP, shortS] at hs
      | _ => simp [runB, m__law_is_sentence, isSentence]
    · cases h
  · cases h
end BK

namespace BK
open PySem L2 BT BO
theorem eq_law_purse (ds : List D) (s : Sl) (h : (match ds with | [.lst l, .int k] => (match asInts l with | some l => if 0 ≤ k ∧ k < 1000 ∧ l.length ≤ 1000 then some (Sl.ol (purse l k).L) else none | none => none) | _ => none) = some s) :
    runB 3 2 [] m__law_purse (ds.map .dt) = some (.val s (ds.map .dt)) := by
  split at h
  rotate_left
  · cases h
  rename_i l k
  split at h
  rotate_left
  · cases h
  rename_i is hi
  split at h
  rotate_left
  · cases h
  rename_i c
  cases h
  have el := asInts_eq hi
  subst el
  obtain ⟨k0, k1, hl⟩ := c
  obtain ⟨n, rfl⟩ := Int.eq_ofNat_of_zero_le k0
  have p1 : ∀ ρ, powD (.int 10) (.int 18) ρ = some (.val (.dt (.int (10 ^ 18))) ρ) := fun ρ => rfl
  have b2 : (Builtin.Int.intBits 10 : Int) * 60 ≤ 2 ^ 27 := by decide +kernel
  have b3 : (Builtin.Int.intBits (10 ^ 60) : Int) * 10 ≤ 2 ^ 27 := by decide +kernel
  have p2 : ∀ ρ, powD (.int 10) (.int 60) ρ = some (.val (.dt (.int (10 ^ 60))) ρ) := fun ρ => by
    show (optD (if 0 ≤ (60 : Int) ∧ (Builtin.Int.intBits 10 : Int) * 60 ≤ 2 ^ 27 then some (.int (10 ^ 60)) else none)) ρ = _
    rw [if_pos ⟨by decide, b2⟩]; rfl
  have p3 : ∀ ρ, powD (.int (10 ^ 60)) (.int 10) ρ = some (.val (.dt (.int ((10 ^ 60) ^ 10))) ρ) := fun ρ => by
    show (optD (if 0 ≤ (10 : Int) ∧ (Builtin.Int.intBits (10 ^ 60) : Int) * 10 ≤ 2 ^ 27 then some (.int ((10 ^ 60) ^ 10)) else none)) ρ = _
    rw [if_pos ⟨by decide, b3⟩]; rfl
  refine runB_rt (ds := [.lst (is.map .int), .int n]) (ρ' := [.dt (.lst (is.map .int)), .dt (.int n), .dt (.int (is.getD n 0))]) ?_ rfl (by decide)
  show m__law_purse [.dt (.lst (is.map .int)), .dt (.int n), .un] = _
  generalize hρ : [Sl.dt (.lst (is.map .int)), .dt (.int n), .un] = ρ0
  generalize hρ' : [Sl.dt (.lst (is.map .int)), .dt (.int n), .dt (.int (is.getD n 0))] = ρ1
  have A : callF F_law_at (consA (mVar 0) (consA (mVar 1) nilA)) ρ0 = some (.val (.dt (.int (is.getD n 0))) ρ0) := by
    subst hρ
    simp [callF, F_at_app hl]
  unfold m__law_purse
  rw [seq_nx (ρ' := ρ1) ((asg_val A (by subst hρ; simp)).trans (by subst hρ hρ'; rfl))]
  refine ret_val ?_
  have v1 : mVar 1 ρ1 = some (.val (.dt (.int n)) ρ1) := var_val (by subst hρ'; rfl)
  have v2 : mVar 2 ρ1 = some (.val (.dt (.int (is.getD n 0))) ρ1) := var_val (by subst hρ'; rfl)
  have ci : ∀ i : Int, mC (.int i) ρ1 = some (.val (.dt (.int i)) ρ1) := fun i => rfl
  have e1 := (bin2_val (k := powD) (ci 10) (ci 18)).trans (p1 ρ1)
  have e2 := (bin2_val (k := powD) (ci 10) (ci 60)).trans (p2 ρ1)
  have e3 := (bin2_val (k := powD) e2 (ci 10)).trans (p3 ρ1)
  have e4 : bin2 (mVar 2) (bin2 (mC (.int 10)) (mC (.int 18)) powD) subD ρ1 = some (.val (.dt (.int (is.getD n 0 - 10 ^ 18))) ρ1) := (bin2_val (k := subD) v2 e1).trans rfl
  have e5 : mCall maxD (consA (bin2 (mVar 2) (bin2 (mC (.int 10)) (mC (.int 18)) powD) subD) (consA (mC (.int 0)) nilA)) ρ1 = some (.val (.dt (.int (if 0 > is.getD n 0 - 10 ^ 18 then 0 else is.getD n 0 - 10 ^ 18))) ρ1) := by
    simp only [mCall, consA, bindD, bindM, e4, Sl.frz, nilA, ci]
    rfl
  have pos : (0 : Int) < (10 ^ 60) ^ 10 := by decide +kernel
  have e6 := (bin2_val (k := modD) e5 e3).trans (show _ = some (.val (.dt (.int ((if 0 > is.getD n 0 - 10 ^ 18 then 0 else is.getD n 0 - 10 ^ 18) % (10 ^ 60) ^ 10))) ρ1) from by
    show (optD (if 0 < ((10 : Int) ^ 60) ^ 10 then some (.int ((if 0 > is.getD n 0 - 10 ^ 18 then 0 else is.getD n 0 - 10 ^ 18) % (10 ^ 60) ^ 10)) else none)) ρ1 = _
    rw [if_pos pos]; rfl)
  have e7 := (bin2_val (k := modD) v2 (ci 2147483647)).trans (show _ = some (.val (.dt (.int (is.getD n 0 % 2147483647))) ρ1) from rfl)
  have lg : (1000 : Int).natAbs.log2 + (n : Int).natAbs.log2 < 1000000 := by
    have : n.log2 < 20 := log_le (by omega) (by decide)
    have : (1000 : Int).natAbs.log2 < 20 := log_le (by decide) (by decide)
    show _ + n.log2 < _
    omega
  have e8 := (bin2_val (k := mulD) (ci 1000) v1).trans (show _ = some (.val (.dt (.int (1000 * (n : Int)))) ρ1) from by
    show (optD (if (1000 : Int).natAbs.log2 + (n : Int).natAbs.log2 < 1000000 then some (.int (1000 * (n : Int))) else none)) ρ1 = _
    rw [if_pos lg]; rfl)
  have z3 : 3 ≤ sizeLine := line_big (by decide)
  have g : purse is (n : Int) = ⟨(if 0 > is.getD n 0 - 10 ^ 18 then 0 else is.getD n 0 - 10 ^ 18) % (10 ^ 60) ^ 10, is.getD n 0 % 2147483647, 1000 * n⟩ := rfl
  rw [g]
  simp only [mLst, consA, bindD, bindM, e6, e7, e8, nilA, Sl.frz]
  simp only [shortL, List.length_cons, List.length_nil]
  rw [if_pos z3]
  rfl
end BK

namespace BK
open PySem L2 BT BO
def odds : List D := [.non, .bl true, .int 0, .int 7, .str "", .str "a", .str "at", .str "then", .str "with", .str "At", .str "until", .str "nineletrs", .str "x1", .str "a b", .lst [], .tup [],
  .str " a", .str "a ", .str " ", .str "a{", .str "a~b", .str "then ", .str " with",
  .tup [.str "at"], .tup [.str "at", .str "a"], .lst [.str "at", .str "a"], .tup [.str "then", .str "b", .str "c"],
  .tup [.str "a", .str "at"], .tup [.str "back", .str "m"], .tup [.str "with", .non]]
theorem odds_len : odds.length = 30 := rfl
/-- the law's draw of an odd thing -/
def oddD (p : Pz) : D := odds.getD (p.r 30).toNat .non
def F_law_odd : Fn := ownF fun xs ds => match decP xs, ds with | some p, [] => if p.ok 1 then some (.dt (oddD p), (p.n 30).L) else none | _, _ => none
theorem F_draw_app {p : Pz} {n : Int} (h : p.ok 1) (n0 : 0 < n) (n1 : n < 1000000) : F_law_draw [.ol p.L, .dt (.int n)] = some (.val (.dt (.int (p.r n))) [.ol (p.n n).L, .dt (.int n)]) := by
  simp [F_law_draw, ownF, dts, decP, Pz.L, h, n0, n1]
theorem atI_odd (p : Pz) : atI odds (p.r 30) = some (oddD p) := by
  obtain ⟨a, b⟩ := Pz.r_lt p (n := 30) (by decide)
  obtain ⟨k, hk⟩ := Int.eq_ofNat_of_zero_le a
  have l : k < odds.length := by rw [odds_len]; omega
  rw [hk]
  have e : oddD p = odds[k] := by
    unfold oddD
    rw [hk]
    show odds.getD k .non = _
    rw [List.getD_eq_getElem?_getD, List.getElem?_eq_getElem l]; rfl
  rw [e]
  exact atI_nat (List.getElem?_eq_getElem l)
theorem eq_law_odd (xs ds : List D) (s : Sl) (ys : List D) (h : (match decP xs, ds with | some p, [] => if p.ok 1 then some (Sl.dt (oddD p), (p.n 30).L) else none | _, _ => none) = some (s, ys)) :
    runB 2 1 [0] m__law_odd (.ol xs :: ds.map .dt) = some (.val s (.ol ys :: ds.map .dt)) := by
  split at h
  rotate_left
  · cases h
  rename_i p hp
  split at h
  rotate_left
  · cases h
  rename_i c
  cases h
  have ex := decP_eq hp
  subst ex
  have z1 : 1 ≤ sizeLine := line_big (by decide)
  have z2 : 2 ≤ sizeLine := line_big (by decide)
  have z3 : 3 ≤ sizeLine := line_big (by decide)
  have z16 : 16 ≤ sizeLine := line_big (by decide)
  have z7 : 7 ≤ sizeLine := line_big (by decide)
  have z4 : 4 ≤ sizeLine := line_big (by decide)
  have z23 : 23 ≤ sizeLine := line_big (by decide)
  have z27 : 27 ≤ sizeLine := line_big (by decide)
  have z30 : 30 ≤ sizeLine := line_big (by decide)
  have key : m__law_odd [.ol p.L, .un] = some (.rt (.dt (oddD p)) [.ol (p.n 30).L, .dt (.lst odds)]) := by
    unfold m__law_odd
    have A := atI_odd p
    rw [seq_nx (ρ' := [.ol p.L, .ol (odds.take 16)]) (by simp [z16, odds]),
      seq_nx (ρ' := [.ol p.L, .ol (odds.take 23)]) (by simp [z7, z23, odds]),
      seq_nx (ρ' := [.ol p.L, .ol (odds.take 27)]) (by simp [z4, z27, z1, z2, z3, odds]),
      seq_nx (ρ' := [.ol p.L, .ol odds]) (by simp [z3, z30, z2, odds])]
    refine ret_val ?_
    have D := F_draw_app (p := p) (n := 30) c (by decide) (by decide)
    have e1 : mCall lenD (consA (mVar 1) nilA) [.ol p.L, .dt (.lst odds)] = some (.val (.dt (.int 30)) [.ol p.L, .dt (.lst odds)]) := by simp [odds_len, z30]
    have e2 : callO F_law_draw 0 (consA (mCall lenD (consA (mVar 1) nilA)) nilA) [.ol p.L, .dt (.lst odds)] = some (.val (.dt (.int (p.r 30))) [.ol (p.n 30).L, .dt (.lst odds)]) := by
      simp only [callO, List.getElem?_cons_zero, bindM, one_arg e1, List.map_cons, List.map_nil, D]
      rfl
    have e0 : mVar 1 [Sl.ol p.L, .ol odds] = some (.val (.dt (.lst odds)) [.ol p.L, .dt (.lst odds)]) := by simp
    refine (show _ = ixM (.lst odds) (.int (p.r 30)) [.ol (p.n 30).L, .dt (.lst odds)] from ?_).trans ?_
    · simp only [bin2, bindD, bindM, e0, e2, Sl.frz]
    · simp only [ixM, A, optD]
  unfold runB
  simp only [List.map_nil, List.length_singleton, List.replicate_succ, List.replicate_zero, Nat.reduceSub, List.singleton_append]
  rw [key]
  rfl
end BK

namespace BK
open PySem L2 BT BO
def nms : List Str := ["m", "b", "ab", "c", "z", "d", "momentum"]
def wds : List Str := ["then", "then", "back", "later", "earlier", "with", "at"]
def pick (l : List Str) (i : Int) : Str := l.getD i.toNat ""
theorem atI_pick {l : List Str} {i : Int} (h0 : 0 ≤ i) (h1 : i < l.length) : atI (l.map D.str) i = some (.str (pick l i)) := by
  obtain ⟨k, rfl⟩ := Int.eq_ofNat_of_zero_le h0
  have lt : k < l.length := by omega
  refine atI_nat ?_
  rw [List.getElem?_map, List.getElem?_eq_getElem lt]
  show some (D.str _) = some (D.str (l.getD k ""))
  rw [List.getD_eq_getElem?_getD, List.getElem?_eq_getElem lt]
  rfl
def drawS (ns : List Str) : Nat → Pz → Tale × Pz
  | 0, p => ([], p)
  | k + 1, p => ((pick wds (p.r 7), pick ns ((p.n 7).r ns.length)) :: (drawS ns k ((p.n 7).n ns.length)).1, (drawS ns k ((p.n 7).n ns.length)).2)
theorem drawS_len (ns : List Str) : ∀ (k : Nat) (p : Pz), (drawS ns k p).1.length = k
  | 0, p => rfl
  | k + 1, p => by simp [drawS, drawS_len ns k]
theorem drawS_ok {ns : List Str} (hn : 0 < ns.length) : ∀ (k : Nat) (p : Pz) (j : Nat), p.ok (2 * k + j) → (drawS ns k p).2.ok j
  | 0, p, j, h => by show p.ok j; simpa using h
  | k + 1, p, j, h => by
    have h1 : (p.n 7).ok (2 * k + j + 1) := Pz.ok.next (p := p) (k := 2 * k + j + 1) (by have e : 2 * (k + 1) + j = 2 * k + j + 1 + 1 := by omega
                                                                                         rw [← e]; exact h) 7 (by decide)
    exact drawS_ok hn k _ j (h1.next ns.length (by omega))
def nmsOf (p : Pz) : List Str := nms.take (1 + p.r 7).toNat
def drawnT (p : Pz) : Tale := ("at", pick (nmsOf p) 0) :: (drawS (nmsOf p) ((p.n 7).r 14).toNat ((p.n 7).n 14)).1
def drawnP (p : Pz) : Pz := (drawS (nmsOf p) ((p.n 7).r 14).toNat ((p.n 7).n 14)).2
def F_law_drawn : Fn := ownF fun xs ds => match decP xs, ds with | some p, [] => if p.ok 30 then some (.dt (.tup ((drawnT p).map encS)), (drawnP p).L) else none | _, _ => none
def isL (l : List D) (s : Sl) : Prop := s = .ol l ∨ s = .dt (.lst l)
theorem mVar_isL {l : List D} {i : Nat} {s : Sl} {ρ : Rho} (h : isL l s) (hi : ρ[i]? = some s) : mVar i ρ = some (.val (.dt (.lst l)) (ρ.set i (.dt (.lst l)))) := by
  rcases h with rfl | rfl
  · simp [mVar, hi]
  · simp [mVar, hi]
    exact (List.set_getElem_self (by exact (List.getElem?_eq_some_iff.mp hi).1)).symm.trans (by congr 1; exact ((List.getElem?_eq_some_iff.mp hi).2))
def bodyDr : MS := dropS (appM 3 (mTup (consA (bin2 (mVar 2) (callO F_law_draw 0 (consA (mC (.int 7)) (nilA))) ixM) (consA (bin2 (mVar 1) (callO F_law_draw 0 (consA (mCall lenD (consA (mVar 1) (nilA))) (nilA))) ixM) (nilA)))))
theorem body_dr {p : Pz} {ns : List Str} {acc : List D} {s2 s4 : Sl} (h : p.ok 2) (hn : 0 < ns.length) (hn' : ns.length ≤ 7) (hl : acc.length < 1000) (h2 : isL (wds.map .str) s2) :
    bodyDr [.ol p.L, .dt (.lst (ns.map .str)), s2, .ol acc, s4] = some (.nx [.ol ((p.n 7).n ns.length).L, .dt (.lst (ns.map .str)), .dt (.lst (wds.map .str)), .ol (acc ++ [encS (pick wds (p.r 7), pick ns ((p.n 7).r ns.length))]), s4]) := by
  have z2 : 2 ≤ sizeLine := line_big (by decide)
  have zn : (ns.map D.str).length ≤ sizeLine := by rw [List.length_map]; exact Nat.le_trans hn' (line_big (by decide))
  have hz : acc.length < sizeLine := line_lt (by omega)
  have hk : (p.n 7).ok 1 := Pz.ok.next h 7 (by decide)
  have D1 := F_draw_app (p := p) (n := 7) (h.le (by decide)) (by decide) (by decide)
  have D2 := F_draw_app (p := p.n 7) (n := ns.length) hk (by omega) (by omega)
  obtain ⟨a1, a2⟩ := Pz.r_lt p (n := 7) (by decide)
  obtain ⟨b1, b2⟩ := Pz.r_lt (p.n 7) (n := ns.length) (by omega)
  have A1 : atI (wds.map D.str) (p.r 7) = some (.str (pick wds (p.r 7))) := atI_pick a1 (by exact a2)
  have A2 : atI (ns.map D.str) ((p.n 7).r ns.length) = some (.str (pick ns ((p.n 7).r ns.length))) := atI_pick b1 b2
  have zn' : ns.length ≤ sizeLine := by simpa using zn
  rcases h2 with rfl | rfl <;> simp [bodyDr, D1, A1, D2, A2, z2, zn', hz, encS]
theorem loop_dr {ns : List Str} (hn : 0 < ns.length) (hn' : ns.length ≤ 7) : ∀ (ds : List D) (p : Pz) (acc : List D) (s2 s4 : Sl), (∀ d ∈ ds, ∃ i, d = D.int i) → p.ok (2 * ds.length) → acc.length + ds.length ≤ 1000 → isL (wds.map .str) s2 →
    ∃ s2' s4', loopS (bName 4) bodyDr ds [.ol p.L, .dt (.lst (ns.map .str)), s2, .ol acc, s4] = some (.nx [.ol (drawS ns ds.length p).2.L, .dt (.lst (ns.map .str)), s2', .ol (acc ++ (drawS ns ds.length p).1.map encS), s4'])
  | [], p, acc, s2, s4, _, _, _, _ => ⟨s2, s4, by simp [loopS, drawS]⟩
  | d :: ds, p, acc, s2, s4, hd, h, hl, h2 => by
    simp only [List.length_cons] at hl h
    have h1 : p.ok (2 * ds.length + 1 + 1) := h.le (by omega)
    have hb := body_dr (s4 := .dt d) (h.le (by omega)) hn hn' (acc := acc) (by omega) h2
    obtain ⟨x, y, ih⟩ := loop_dr hn hn' ds ((p.n 7).n ns.length) (acc ++ [encS (pick wds (p.r 7), pick ns ((p.n 7).r ns.length))]) (.dt (.lst (wds.map .str))) (.dt d) (fun e he => hd e (by simp [he])) ((h1.next 7 (by decide)).next ns.length (by omega)) (by simp; omega) (.inr rfl)
    refine ⟨x, y, ?_⟩
    have e : bName 4 d [Sl.ol p.L, .dt (.lst (ns.map .str)), s2, .ol acc, s4] = some [Sl.ol p.L, .dt (.lst (ns.map .str)), s2, .ol acc, .dt d] := by simp
    rw [loopS]
    simp only [e, hb]
    rw [ih]
    simp [drawS]
end BK

namespace BK
open PySem L2 BT BO
theorem cut_nms {r : Int} (h0 : 0 ≤ r) (h1 : r < 7) : cutD (nms.map D.str) none (some (1 + r)) = (nms.take (1 + r).toNat).map D.str := by
  obtain ⟨k, rfl⟩ := Int.eq_ofNat_of_zero_le h0
  have : k < 7 := by omega
  rcases k with _ | _ | _ | _ | _ | _ | _ | k
  all_goals first | rfl | omega
theorem eq_law_drawn (xs ds : List D) (s : Sl) (ys : List D) (h : (match decP xs, ds with | some p, [] => if p.ok 30 then some (Sl.dt (.tup ((drawnT p).map encS)), (drawnP p).L) else none | _, _ => none) = some (s, ys)) :
    runB 5 1 [0] m__law_drawn (.ol xs :: ds.map .dt) = some (.val s (.ol ys :: ds.map .dt)) := by
  split at h
  rotate_left
  · cases h
  rename_i p hp
  split at h
  rotate_left
  · cases h
  rename_i c
  cases h
  have ex := decP_eq hp
  subst ex
  have z1 : 1 ≤ sizeLine := line_big (by decide)
  have z2 : 2 ≤ sizeLine := line_big (by decide)
  have z7 : 7 ≤ sizeLine := line_big (by decide)
  obtain ⟨r0, r1⟩ := Pz.r_lt p (n := 7) (by decide)
  have D1 := F_draw_app (p := p) (n := 7) (c.le (by decide)) (by decide) (by decide)
  have c1 : (p.n 7).ok 29 := Pz.ok.next c 7 (by decide)
  have D2 := F_draw_app (p := p.n 7) (n := 14) (c1.le (by decide)) (by decide) (by decide)
  have c2 : ((p.n 7).n 14).ok 28 := c1.next 14 (by decide)
  obtain ⟨q0, q1⟩ := Pz.r_lt (p.n 7) (n := 14) (by decide)
  have ln : (nmsOf p).length = (1 + p.r 7).toNat := by
    unfold nmsOf
    rw [List.length_take]
    have : nms.length = 7 := rfl
    omega
  have hn : 0 < (nmsOf p).length := by omega
  have hn' : (nmsOf p).length ≤ 7 := by omega
  have key : ∃ ρ', m__law_drawn [.ol p.L, .un, .un, .un, .un] = some (.rt (.dt (.tup ((drawnT p).map encS))) (.ol (drawnP p).L :: ρ')) := by
    unfold m__law_drawn
    have C := cut_nms r0 r1
    have s1 : ∀ f : M Sl, f [.ol p.L, .un, .un, .un, .un] = some (.val (.ol ((nmsOf p).map D.str)) [.ol (p.n 7).L, .un, .un, .un, .un]) → asgS 1 f [.ol p.L, .un, .un, .un, .un] = some (.nx [.ol (p.n 7).L, .ol ((nmsOf p).map D.str), .un, .un, .un]) := fun f hf => (asg_val hf (by simp)).trans rfl
    have C' : cutD [D.str (Str.ofString "m"), .str (Str.ofString "b"), .str (Str.ofString "ab"), .str (Str.ofString "c"), .str (Str.ofString "z"), .str (Str.ofString "d"), .str (Str.ofString "momentum")] none (some (1 + p.r 7)) = (nmsOf p).map D.str := C
    have A0 : atI ((nmsOf p).map D.str) 0 = some (.str (pick (nmsOf p) 0)) := atI_pick (by decide) (by omega)
    have w : wds.map D.str = [D.str (Str.ofString "then"), .str (Str.ofString "then"), .str (Str.ofString "back"), .str (Str.ofString "later"), .str (Str.ofString "earlier"), .str (Str.ofString "with"), .str (Str.ofString "at")] := rfl
    rw [seq_nx (s1 _ (by simp [z7, D1, C'])),
      seq_nx (ρ' := [.ol (p.n 7).L, .ol ((nmsOf p).map D.str), .ol (wds.map .str), .un, .un]) (by simp [z7, w]),
      seq_nx (ρ' := [.ol (p.n 7).L, .dt (.lst ((nmsOf p).map D.str)), .ol (wds.map .str), .ol [encS ("at", pick (nmsOf p) 0)], .un]) (by simp [z2, z1, A0, encS])]
    have src : rangeM1 (consA (callO F_law_draw 0 (consA (mC (.int 14)) (nilA))) (nilA)) [.ol (p.n 7).L, .dt (.lst ((nmsOf p).map D.str)), .ol (wds.map .str), .ol [encS ("at", pick (nmsOf p) 0)], .un] = some (.val (rangeD 0 ((p.n 7).r 14).toNat) [.ol ((p.n 7).n 14).L, .dt (.lst ((nmsOf p).map D.str)), .ol (wds.map .str), .ol [encS ("at", pick (nmsOf p) 0)], .un]) := by
      have b1 : -(2 ^ 62 : Int) ≤ (p.n 7).r 14 := by omega
      have b2 : (p.n 7).r 14 < 2 ^ 62 := by omega
      have b1' : -4611686018427387904 ≤ (p.n 7).r 14 := by omega
      have b2' : (p.n 7).r 14 < 4611686018427387904 := by omega
      simp [D2, b1', b2']
    have lr : (rangeD 0 ((p.n 7).r 14).toNat).length = ((p.n 7).r 14).toNat := by simp [rangeD]
    obtain ⟨s2', s4', L⟩ := loop_dr hn hn' (rangeD 0 ((p.n 7).r 14).toNat) ((p.n 7).n 14) [encS ("at", pick (nmsOf p) 0)] (.ol (wds.map .str)) .un (fun d hd => by
      simp only [rangeD, List.mem_map] at hd
      obtain ⟨k, _, rfl⟩ := hd
      exact ⟨_, rfl⟩) (c2.le (by rw [lr]; omega)) (by rw [lr]; simp; omega) (.inl rfl)
    rw [lr] at L
    refine ⟨[.dt (.lst ((nmsOf p).map D.str)), s2', .dt (.lst ((drawnT p).map encS)), s4'], ?_⟩
    refine (seq_nx ((fors_val src).trans L)).trans ?_
    refine ret_val ?_
    simp [drawnT, drawnP]
  obtain ⟨ρ', key⟩ := key
  unfold runB
  simp only [List.map_nil, List.length_singleton, List.replicate_succ, List.replicate_zero, Nat.reduceSub, List.singleton_append]
  rw [key]
  rfl
end BK

namespace BK
open PySem L2 BT BO
/-- moments of true signs -/
def wideS (x : Str) : Bool := x.cps.toList.all fun c => decide (c < 0x110000)
def wideT (t : Tale) : Bool := t.all fun x => wideS x.2
def F_fits : Fn := pureF fun ds => match ds with | [d] => (match decQ d with | some t => if t.length ≤ 1000 ∧ (namesOf t).length ≤ 63 ∧ startsAt t = true ∧ wideT t = true then some (.dt (.bl (fitsB t))) else none | none => none) | _ => none
def okQ (d : D) : Bool := match d with | .tup xs => xs.all shortQ | _ => true
def F_due : Fn := pureF fun ds => match ds with | [d] => if okC d = true ∧ okQ d = true then some (.dt (dueV d)) else none | _ => none
theorem strs_ok (l : List Str) (h : ∀ x ∈ l, wideS x = true) : PyData.canLayAll0 (toPyL (l.map D.str)) = true ∧ PyData.depthAll (toPyL (l.map D.str)) = 0 := by
  induction l with
  | nil => exact ⟨rfl, rfl⟩
  | cons c l ih =>
    obtain ⟨i1, i2⟩ := ih fun x hx => h x (by simp [hx])
    have hc := h c (by simp)
    refine ⟨?_, ?_⟩
    · simp only [List.map_cons, toPyL, toPy, PyData.canLayAll0, i1, Bool.and_true]
      unfold wideS at hc
      simp only [PyData.canLay0, PyData.strOk]
      simpa using hc
    · simp only [List.map_cons, toPyL, toPy, PyData.depthAll, i2]
      rfl
theorem eqM_nilS (l : List Str) (h : ∀ x ∈ l, wideS x = true) (ρ : Rho) : eqM (.lst (l.map D.str)) (.lst []) ρ = some (.val (.dt (.bl l.isEmpty)) ρ) := by
  obtain ⟨h1, h2⟩ := strs_ok l h
  have o1 : okD (.lst (l.map D.str)) = true := by
    unfold okD SeqAt.shaped
    simp only [toPy, PyData.canLay0, PyData.depth, h1, h2]
    decide
  have o2 : okD (.lst []) = true := by decide
  have e : eqD (.lst (l.map D.str)) (.lst []) = l.isEmpty := by
    cases l <;> rfl
  simp only [eqM]
  rw [if_pos ⟨o1, o2⟩, e]
theorem name_wide {x : Str} (h : isName (.str x) = true) : wideS x = true := by
  simp only [isName, Bool.and_eq_true] at h
  have h2 := h.2
  unfold wideS
  rw [List.all_eq_true] at h2 ⊢
  intro c hc
  have m := of_decide_eq_true (h2 c hc)
  have all : ∀ c ∈ abc.cps.toList, c < 0x110000 := by decide
  exact decide_eq_true (all c m)
end BK

namespace BK
open PySem L2 BT BO
section
variable {P : Program} {w : World} {K : PySem.W.Frag} {mg : Str → Option Value} {base : Heap} {C : Addr}
/-! ### _law_fits -/
def m__law_fits : MS := seqS (asgG (bTup 2 (bCons (bName 1) (bCons (bName 2) (bNil)))) (callF F_law_model (consA (mVar 0) (nilA)))) (retS (bin2 (mComp (keysM 2) [3] (bName 3) (toB (dinM false (mVar 3) (dgetM (mVar 2) (mVar 3)))) (mVar 3)) (mLst (nilA)) eqM))
theorem sc__law_fits : FnScope ["sentences", "head", "after", "one"] ["sentences"] (defScope (top 23)) := ⟨rfl, rfl, rfl, by decide +kernel, rfl, by decide +kernel, by decide +kernel⟩
theorem run__law_fits {f : Addr} {fd : FuncData} (F : Fun K "_law_fits" "_law_fits" (top 23) f fd) (T : Tx K mg C) {f__law_model : Addr} {fd__law_model : FuncData} (G__law_model : FnOk P w K mg base CX0 3 f__law_model fd__law_model ["sentences"] (fun vs H Q _ => SpF K (F_law_model) vs H Q E00)) (b__law_model : Binds K fd__law_model ["sentences"] []) (g__law_model : mg "_law_model" = some (.ref f__law_model)) (k__law_model : PySem.W.keepIn K (.ref f__law_model) = true) :
    FnOk P w K mg base CX0 4 f fd ["sentences"] (fun vs H Q _ => SpF K (runB 4 1 [] m__law_fits) vs H Q E00) := by
  have sc := sc__law_fits
  refine okF [] F sc (fun pn cdv A outer s H E hpn hr => ?_)
  have hu64 := hr.units
  have hu65 := room65 hr
  have hu1 := hu_of hr
  exact psx_cons (psx_asg (gb_tup (gbs_cons (gb_name (np hpn (by decide))) (gbs_cons (gb_name (np hpn (by decide))) (gbs_nil)))) (pg_tup (by rfl) (pgs_cons (pg_name (i := 1) sc.nd rfl (by first | exact Or.inl rfl | exact Or.inr rfl)) (pgs_cons (pg_name (i := 2) sc.nd rfl (by first | exact Or.inl rfl | exact Or.inr rfl)) (pgs_nil)))) (px_call G__law_model (hr.mono (by decide)) g__law_model k__law_model b__law_model (pax_cons (px_var (pv 0)) (pax_nil)))) (psx_one (psx_ret (px_cmp (op_eqs hu64) od_eq (px_lcK (own := [("one", 3)]) rfl sc.nd (pv 2) (blkOk_by (own := [("one", 3)]) (N := ["sentences", "head", "after", "one"]) (sc := defScope (top 23)) (by decide +kernel)) (gb_name (np hpn (by decide))) (by decide) (npL hpn (by decide)) (fun _ _ _ _ _ => pg_name (i := 3) sc.nd rfl (by first | exact Or.inl rfl | exact Or.inr rfl)) (fun _ _ _ _ _ => ptsx_one (pt_din hu1 (px_var (pv 3)) (px_dget hu1 (px_var (pv 2)) (px_var (pv 3)) (fun _ _ => rfl)))) (fun _ _ _ _ _ => px_var (pv 3))) (px_lst (pax_nil)) (nomark _))))
/-! ### _law_due -/
def m__law_due : MS := seqS (ifS (notT (toB (isiM "tuple" (mVar 0)))) (retS (mTup (consA (mC (.str "form")) (nilA)))) (nxS)) (seqS (forS (enumM (consA (mVar 0) (nilA))) (bTup 2 (bCons (bName 1) (bCons (bName 2) (bNil)))) (ifS (orT (notT (toB (callF F_law_is_sentence (consA (mVar 2) (nilA))))) (andT (toB (bin2 (mVar 1) (mC (.int 0)) eqM)) (toB (bin2 (bin2 (mVar 2) (mC (.int 0)) ixM) (mC (.str "at")) neM)))) (retS (mTup (consA (mC (.str "sentence")) (consA (mVar 1) (nilA))))) (nxS))) (seqS (forS (rangeM1 (consA (mCall lenD (consA (mVar 0) (nilA))) (nilA))) (bName 1) (ifS (notT (toB (callF F_fits (consA (sliceM (mVar 0) (noP) (someP (bin2 (mVar 1) (mC (.int 1)) addD))) (nilA))))) (retS (mTup (consA (mC (.str "cycle")) (consA (mVar 1) (nilA))))) (nxS))) (retS (mC .non))))
theorem sc__law_due : FnScope ["value", "k", "item"] ["value"] (defScope (top 29)) := ⟨rfl, rfl, rfl, by decide +kernel, rfl, by decide +kernel, by decide +kernel⟩
theorem run__law_due {f : Addr} {fd : FuncData} (F : Fun K "_law_due" "_law_due" (top 29) f fd) (T : Tx K mg C) {f__law_fits : Addr} {fd__law_fits : FuncData} (G__law_fits : FnOk P w K mg base CX0 4 f__law_fits fd__law_fits ["sentences"] (fun vs H Q _ => SpF K (F_fits) vs H Q E00)) (b__law_fits : Binds K fd__law_fits ["sentences"] []) {f__law_is_sentence : Addr} {fd__law_is_sentence : FuncData} (G__law_is_sentence : FnOk P w K mg base CX0 2 f__law_is_sentence fd__law_is_sentence ["value"] (fun vs H Q _ => SpF K (F_law_is_sentence) vs H Q E00)) (b__law_is_sentence : Binds K fd__law_is_sentence ["value"] []) (g__law_fits : mg "_law_fits" = some (.ref f__law_fits)) (k__law_fits : PySem.W.keepIn K (.ref f__law_fits) = true) (g__law_is_sentence : mg "_law_is_sentence" = some (.ref f__law_is_sentence)) (k__law_is_sentence : PySem.W.keepIn K (.ref f__law_is_sentence) = true) :
    FnOk P w K mg base CX0 5 f fd ["value"] (fun vs H Q _ => SpF K (runB 3 1 [] m__law_due) vs H Q E00) := by
  have sc := sc__law_due
  refine okF [] F sc (fun pn cdv A outer s H E hpn hr => ?_)
  have hu64 := hr.units
  have hu65 := room65 hr
  have hu1 := hu_of hr
  exact psx_cons (psx_if (ptx_not (pt_x (px_isi kit_tuple (px_var (pv 0)) T.n_isinstance T.n_tuple (by decide +kernel)))) (psx_one (psx_ret (px_tup (pax_cons (px_str) (pax_nil))))) (psx_nil)) (psx_cons (psx_for PassesOwn.never rfl (pix_enum T.n_enumerate (pax_cons (px_var (pv 0)) (pax_nil))) (pg_tup (by rfl) (pgs_cons (pg_name (i := 1) sc.nd rfl (by first | exact Or.inl rfl | exact Or.inr rfl)) (pgs_cons (pg_name (i := 2) sc.nd rfl (by first | exact Or.inl rfl | exact Or.inr rfl)) (pgs_nil)))) (gb_tup (gbs_cons (gb_name (np hpn (by decide))) (gbs_cons (gb_name (np hpn (by decide))) (gbs_nil)))) (psx_one (psx_if ((pwx_or (ptx_not (pt_x (px_call G__law_is_sentence (hr.mono (by decide)) g__law_is_sentence k__law_is_sentence b__law_is_sentence (pax_cons (px_var (pv 2)) (pax_nil))))) (pw_or1 ((pwx_and (pt_c (op_eqs hu64) od_eq (px_var (pv 1)) (px_int) (nomark _)) (pw_and1 (pt_c (op_nes hu64) od_ne (px_ix ix_seq od_ix (px_var (pv 2)) (px_int) (fun _ _ => rfl)) (px_str) (nomark _)))).pt))).pt) (psx_one (psx_ret (px_tup (pax_cons (px_str) (pax_cons (px_var (pv 1)) (pax_nil)))))) (psx_nil)))) (psx_cons (psx_for PassesOwn.never rfl (pix_range1 T.n_range (pax_cons (px_callB call_lens cd_len (by rfl) T.n_len PySem.boot_len (pax_cons (px_var (pv 0)) (pax_nil))) (pax_nil))) (pg_name (i := 1) sc.nd rfl (by first | exact Or.inl rfl | exact Or.inr rfl)) (gb_name (np hpn (by decide))) (psx_one (psx_if (ptx_not (pt_x (px_call G__law_fits (hr.mono (by decide)) g__law_fits k__law_fits b__law_fits (pax_cons (px_slice (px_var (pv 0)) (pox_none) (pox_some (px_op op_adds od_add (px_var (pv 1)) (px_int)))) (pax_nil))))) (psx_one (psx_ret (px_tup (pax_cons (px_str) (pax_cons (px_var (pv 1)) (pax_nil)))))) (psx_nil)))) (psx_one (psx_ret (px_non)))))
end
end BK

namespace BK
open PySem L2 BT BO
theorem head_in {ns : List Str} {ls : List Lk} (h : endsIn ns ls = true) {a : Str} (ha : a ∈ ns) : getS (headOf ns ls) a ∈ ns := by
  have S := BR.sit h
  obtain ⟨m, hm, sm, le⟩ := BR.least_ex (P := fun z => BR.Sm (BR.Lof ls) z a) ns ⟨a, ha, BR.Sm.refl a⟩
  obtain ⟨_, b2, _⟩ := BR.rounds_T S ⟨hm, fun z hz s => le z hz (s.symm.trans sm)⟩ ns (idH ns) (BR.idH_keys ns) (fun z hz => by rw [BR.idH_get hz]; exact BR.Sm.refl z) (BR.idH_get hm)
  exact S.inn (b2 a ha) ha
theorem after_in {ns : List Str} {ls : List Lk} (h : endsIn ns ls = true) : (∀ u ∈ keysA (afterOf ns ls), u ∈ ns) ∧ (keysA (afterOf ns ls)).Nodup := by
  have k1 : keysA (after1 ns ls) = keysA (emptyA (ns.map (getS (headOf ns ls)))) := BR.fold_keysA _ _
  have k2 : keysA (afterOf ns ls) = keysA (after1 ns ls) := BR.outW_keys _ _
  rw [k2, k1]
  constructor
  · intro u hu
    obtain ⟨a, ha, e⟩ := (BR.after_keys ns ls u).mp hu
    rw [← e]; exact head_in h ha
  · rw [keysA_empty]; exact merge_nd List.nodup_nil
theorem eq_law_fits (ds : List D) (s : Sl) (h : (match ds with | [d] => (match decQ d with | some t => if t.length ≤ 1000 ∧ (namesOf t).length ≤ 63 ∧ startsAt t = true ∧ wideT t = true then some (Sl.dt (.bl (fitsB t))) else none | none => none) | _ => none) = some s) :
    runB 4 1 [] m__law_fits (ds.map .dt) = some (.val s (ds.map .dt)) := by
  split at h
  rotate_left
  · cases h
  rename_i d
  split at h
  rotate_left
  · cases h
  rename_i t hd
  split at h
  rotate_left
  · cases h
  rename_i c
  cases h
  obtain ⟨c1, c2, c3, c4⟩ := c
  have z0 : 0 ≤ sizeLine := Nat.zero_le _
  have A : F_law_model [.dt d] = some (.val (.dt (modelD t)) [.dt d]) := by simp [F_law_model, pureF, hd, c1, c2, c3]
  unfold modelD at A
  unfold fitsB
  generalize hH : headOf (namesOf t) (lks "" t) = hdx at A ⊢
  generalize hA : afterOf (namesOf t) (lks "" t) = af at A ⊢
  refine runB_rt (ds := [d]) (ρ' := [.dt d, .dt (.dic (hdD hdx)), .dt (.dic (afD af)), .un]) ?_ rfl (by decide)
  show m__law_fits [.dt d, .un, .un, .un] = _
  unfold m__law_fits
  have e1 : asgG (bTup 2 (bCons (bName 1) (bCons (bName 2) (bNil)))) (callF F_law_model (consA (mVar 0) (nilA))) [.dt d, .un, .un, .un] = some (.nx [.dt d, .dt (.dic (hdD hdx)), .dt (.dic (afD af)), .un]) := by simp [callF, A]
  rw [seq_nx e1]
  generalize hρ : [Sl.dt d, .dt (.dic (hdD hdx)), .dt (.dic (afD af)), .un] = ρ1
  have ends := lks_ends t "" (namesOf t) (.inr c3) (fun x hx => BS.mem_sd.mpr (List.mem_map.mpr ⟨x, hx, rfl⟩))
  obtain ⟨in1, nd⟩ := after_in ends
  rw [hA] at in1 nd
  have hk : ∀ u ∈ keysA af, wideS u = true := fun u hu => by
    obtain ⟨x, hx, e⟩ := List.mem_map.mp (BS.mem_sd.mp (in1 u hu))
    rw [← e]
    exact List.all_eq_true.mp c4 x hx
  have few : (keysA af).length ≤ 63 := Nat.le_trans (BS.len_of_sub nd in1) c2
  have src : keysM 2 ρ1 = some (.val ((keysA af).map D.str) ρ1) := by
    subst hρ
    unfold keysM
    simp [afD, keysA, kD]
  have C := compL_pure (b := bName 3) (t := toB (dinM false (mVar 3) (dgetM (mVar 2) (mVar 3)))) (e := mVar 3) (vs := [3]) (ρ := ρ1) (p := fun d => match d with | .str u => decide (u ∈ getA af u) | _ => false) (g := id) ((keysA af).map D.str) [] (fun d hd => by
      obtain ⟨u, hu, rfl⟩ := List.mem_map.mp hd
      have L := lookA_key hu
      subst hρ
      refine ⟨[.dt d, .dt (.dic (hdD hdx)), .dt (.dic (afD af)), .dt (.str u)], by simp, ?_, by simp, by simp, fun _ => ⟨.dt (.str u), by simp, rfl⟩⟩
      simp [keyD, dlook_af, L, dlook_ks]) (by simpa using line_big (by omega : (keysA af).length ≤ 1000))
  have F : (((keysA af).map D.str).filter fun d => match d with | .str u => decide (u ∈ getA af u) | _ => false).map id = ((keysA af).filter fun u => decide (u ∈ getA af u)).map D.str := by
    rw [List.map_id, List.filter_map]; rfl
  rw [F, List.nil_append] at C
  have w1 : noOl ρ1 [3] = true := by subst hρ; simp
  have w2 : wipeR ρ1 [3] = ρ1 := by subst hρ; simp
  have w3 : restR ρ1 ρ1 [3] = ρ1 := by subst hρ; simp
  have M : mComp (keysM 2) [3] (bName 3) (toB (dinM false (mVar 3) (dgetM (mVar 2) (mVar 3)))) (mVar 3) ρ1 = some (.val (.ol (((keysA af).filter fun u => decide (u ∈ getA af u)).map D.str)) ρ1) := by
    simp only [mComp, bindM, src, w1, if_true, w2, C, w3]
  have zz : mLst nilA ρ1 = some (.val (.ol []) ρ1) := by simp
  refine ret_val ((bin2_ol M zz).trans ((eqM_nilS _ (fun x hx => hk x (List.mem_filter.mp hx).1) ρ1).trans ?_))
  congr 4
  rw [Bool.eq_iff_iff, List.isEmpty_iff, List.filter_eq_nil_iff, List.all_eq_true]
  simp
end BK

namespace BK
open PySem L2 BT BO
theorem cut_to {α : Type} (xs : List α) (n : Nat) : cutD xs none (some (n : Int)) = xs.take n := by
  unfold cutD
  rw [HT.sIx_none, HT.sIx_nat, List.drop_zero, Nat.sub_zero]
  rcases Nat.le_total n xs.length with h | h
  · rw [Nat.min_eq_left h]
  · rw [Nat.min_eq_right h, List.take_length, List.take_of_length_le h]
theorem cut_from {α : Type} (xs : List α) (n : Nat) : cutD xs (some (n : Int)) none = xs.drop n := by
  unfold cutD
  rw [HT.sIx_none, HT.sIx_nat]
  rcases Nat.le_total n xs.length with h | h
  · rw [Nat.min_eq_left h, List.take_of_length_le (by rw [List.length_drop]; omega)]
  · rw [Nat.min_eq_right h, List.drop_length, List.take_nil, List.drop_eq_nil_of_le h]
theorem cut_mid {α : Type} (xs : List α) (n k : Nat) : cutD xs (some (n : Int)) (some ((n + k : Nat) : Int)) = (xs.drop n).take k := by
  unfold cutD
  rw [HT.sIx_nat, HT.sIx_nat]
  rcases Nat.le_total n xs.length with h | h
  · rw [Nat.min_eq_left h]
    rcases Nat.le_total (n + k) xs.length with h2 | h2
    · rw [Nat.min_eq_left h2, show n + k - n = k by omega]
    · rw [Nat.min_eq_right h2, List.take_of_length_le (l := xs.drop n) (by rw [List.length_drop]; omega), List.take_of_length_le (l := xs.drop n) (by rw [List.length_drop]; omega)]
  · rw [Nat.min_eq_right h, List.drop_length, List.drop_eq_nil_of_le h, List.take_nil, List.take_nil]
theorem F_lsent_app {d : D} (h : shortQ d = true) : F_law_is_sentence [.dt d] = some (.val (.dt (.bl (isSentence d))) [.dt d]) := by simp [F_law_is_sentence, pureF, h]
abbrev bodyS : MS := ifS (orT (notT (toB (callF F_law_is_sentence (consA (mVar 2) (nilA))))) (andT (toB (bin2 (mVar 1) (mC (.int 0)) eqM)) (toB (bin2 (bin2 (mVar 2) (mC (.int 0)) ixM) (mC (.str "at")) neM)))) (retS (mTup (consA (mC (.str "sentence")) (consA (mVar 1) (nilA))))) (nxS)
theorem body_s (d : D) (i : Nat) (x : D) (hx : shortQ x = true) : bodyS [.dt d, .dt (.int (i : Nat)), .dt x] = if (isSentence x && (decide (i ≠ 0) || isAt x)) = true then some (.nx [.dt d, .dt (.int (i : Nat)), .dt x]) else some (.rt (.dt (.tup [.str "sentence", .int (i : Nat)])) [.dt d, .dt (.int (i : Nat)), .dt x]) := by
  have z2 : 2 ≤ sizeLine := line_big (by decide)
  have e := F_lsent_app hx
  cases c : isSentence x with
  | false =>
    rw [c] at e
    simp [callF, e, z2]
  | true =>
    rw [c] at e
    obtain ⟨w, m, rfl, _, _⟩ := sentence_shape c
    simp only [encS] at e c ⊢
    by_cases i0 : i = 0
    · subst i0
      by_cases cw : Str.ofString "at" = w
      · subst cw
        simp [callF, e, c, z2, isAt, atI, ixN]
      · have cw' : ¬ w = Str.ofString "at" := fun q => cw q.symm
        simp [callF, e, c, z2, isAt, atI, ixN, cw, cw']
    · have i1 : ¬ ((i : Int) = 0) := by omega
      simp [callF, e, c, z2, i0, i1]
theorem loop_s (d : D) : ∀ (xs : List D) (k : Nat) (s t : Sl), (∀ x ∈ xs, shortQ x = true) → ∃ s' t', loopS (bTup 2 (bCons (bName 1) (bCons (bName 2) (bNil)))) bodyS (xs.mapIdx fun i d => .tup [.int ((k + i : Nat)), d]) [.dt d, s, t] =
    match badAt k xs with | some k => some (.rt (.dt (.tup [.str "sentence", .int (k : Nat)])) [.dt d, s', t']) | none => some (.nx [.dt d, s', t'])
  | [], k, s, t, _ => ⟨s, t, rfl⟩
  | x :: xs, k, s, t, h => by
    have hx := h x (by simp)
    have e := body_s d k x hx
    obtain ⟨s', t', ih⟩ := loop_s d xs (k + 1) (.dt (.int (k : Nat))) (.dt x) (fun y hy => h y (by simp [hy]))
    have e2 : (fun (i : Nat) (d : D) => D.tup [.int ((k + 1 + i : Nat)), d]) = fun (i : Nat) (d : D) => D.tup [.int ((k + (i + 1) : Nat)), d] := by
      funext i d; rw [show k + 1 + i = k + (i + 1) by omega]
    rw [e2] at ih
    have hb : bTup 2 (bCons (bName 1) (bCons (bName 2) (bNil))) (.tup [.int ((k : Nat)), x]) [.dt d, s, t] = some [.dt d, .dt (.int (k : Nat)), .dt x] := by simp
    simp only [List.mapIdx_cons, Nat.add_zero, loopS, hb, badAt]
    rw [e]
    by_cases c : (isSentence x && (decide (k ≠ 0) || isAt x)) = true
    · refine ⟨s', t', ?_⟩
      simp only [if_pos c]
      exact ih
    · refine ⟨.dt (.int (k : Nat)), .dt x, ?_⟩
      simp only [if_neg c]
abbrev bodyF : MS := ifS (notT (toB (callF F_fits (consA (sliceM (mVar 0) (noP) (someP (bin2 (mVar 1) (mC (.int 1)) addD))) (nilA))))) (retS (mTup (consA (mC (.str "cycle")) (consA (mVar 1) (nilA))))) (nxS)
theorem F_fits_app {t : Tale} (hl : t.length ≤ 1000) (hn : (namesOf t).length ≤ 63) (hs : startsAt t = true) (hw : wideT t = true) : F_fits [.dt (.tup (t.map encS))] = some (.val (.dt (.bl (fitsB t))) [.dt (.tup (t.map encS))]) := by
  simp only [F_fits, pureF, dts, Option.map_some, decQ, decL_map]
  rw [if_pos ⟨hl, hn, hs, hw⟩]
theorem body_f {t : Tale} (hl : t.length ≤ 1000) (hn : ∀ k, (namesOf (t.take k)).length ≤ 63) (hs : startsAt t = true) (hw : wideT t = true) (k : Nat) (s : Sl) :
    bodyF [.dt (.tup (t.map encS)), .dt (.int (k : Nat)), s] = if fitsB (t.take (k + 1)) = true then some (.nx [.dt (.tup (t.map encS)), .dt (.int (k : Nat)), s]) else some (.rt (.dt (.tup [.str "cycle", .int (k : Nat)])) [.dt (.tup (t.map encS)), .dt (.int (k : Nat)), s]) := by
  have z2 : 2 ≤ sizeLine := line_big (by decide)
  have A := F_fits_app (t := t.take (k + 1)) (by rw [List.length_take]; omega) (hn _) (take_starts hs k) (List.all_eq_true.mpr fun x hx => List.all_eq_true.mp hw x (List.mem_of_mem_take hx))
  have c : cutD (t.map encS) none (some ((k : Int) + 1)) = (t.map encS).take (k + 1) := cut_to (t.map encS) (k + 1)
  rw [List.map_take] at A
  cases e : fitsB (t.take (k + 1)) with
  | false =>
    rw [e] at A
    simp [callF, c, A, z2]
  | true =>
    rw [e] at A
    simp [callF, c, A]
theorem loop_f {t : Tale} (hl : t.length ≤ 1000) (hn : ∀ k, (namesOf (t.take k)).length ≤ 63) (hs : startsAt t = true) (hw : wideT t = true) (s2 : Sl) : ∀ (n k : Nat) (s : Sl), ∃ s', loopS (bName 1) bodyF ((List.range n).map fun i => .int ((k + i : Nat))) [.dt (.tup (t.map encS)), s, s2] =
    match dueK t k n with | some k => some (.rt (.dt (.tup [.str "cycle", .int (k : Nat)])) [.dt (.tup (t.map encS)), s', s2]) | none => some (.nx [.dt (.tup (t.map encS)), s', s2])
  | 0, k, s => ⟨s, rfl⟩
  | n + 1, k, s => by
    have e := body_f hl hn hs hw k s2
    obtain ⟨s', ih⟩ := loop_f hl hn hs hw s2 n (k + 1) (.dt (.int (k : Nat)))
    have e2 : (List.range (n + 1)).map (fun i => D.int ((k + i : Nat))) = .int (k : Nat) :: (List.range n).map fun i => D.int ((k + 1 + i : Nat)) := by
      rw [List.range_succ_eq_map, List.map_cons, List.map_map]
      congr 1
      apply List.map_congr_left
      intro i _
      show D.int ((k + (i + 1) : Nat)) = _
      rw [show k + (i + 1) = k + 1 + i by omega]
    have hb : bName 1 (.int ((k : Nat))) [.dt (.tup (t.map encS)), s, s2] = some [.dt (.tup (t.map encS)), .dt (.int (k : Nat)), s2] := by simp
    rw [e2]
    simp only [loopS, hb, dueK]
    rw [e]
    by_cases c : fitsB (t.take (k + 1)) = true
    · refine ⟨s', ?_⟩
      simp only [if_pos c]
      exact ih
    · refine ⟨.dt (.int (k : Nat)), ?_⟩
      simp only [if_neg c]
theorem names_take (t : Tale) (k : Nat) : (namesOf (t.take k)).length ≤ (namesOf t).length := by
  unfold namesOf
  refine BS.len_of_sub (BS.sd_up _).nodup fun x hx => BS.mem_sd.mpr ?_
  obtain ⟨y, hy, e⟩ := List.mem_map.mp (BS.mem_sd.mp hx)
  exact List.mem_map.mpr ⟨y, List.mem_of_mem_take hy, e⟩
theorem bad_names : ∀ {xs : List D} {k : Nat} {t : Tale}, badAt k xs = none → decL xs = some t → wideT t = true
  | [], _, _, _, h => by cases h; rfl
  | x :: xs, k, t, b, h => by
    unfold badAt at b
    split at b
    · rename_i c
      simp only [Bool.and_eq_true] at c
      obtain ⟨w, m, rfl, _, hm⟩ := sentence_shape c.1
      obtain ⟨r, hr, _⟩ := badAt_none b
      simp only [decL, decS, encS, hr] at h
      cases h
      have := bad_names b hr
      unfold wideT at this ⊢
      rw [List.all_cons, this, Bool.and_true]
      exact name_wide hm
    · cases b
theorem small62 {n : Nat} (h : n ≤ 1000) : -(2 ^ 62) ≤ (n : Int) ∧ (n : Int) < 2 ^ 62 := ⟨by omega, by omega⟩
theorem rangeM1_val {f : M Sl} {ρ : Rho} {n : Nat} (h : f ρ = some (.val (.dt (.int (n : Nat))) ρ)) (c : -(2 ^ 62) ≤ (n : Int) ∧ (n : Int) < 2 ^ 62) : rangeM1 (consA f nilA) ρ = some (.val (rangeD 0 n) ρ) := by
  show (bindM (consA f nilA) _) ρ = _
  unfold bindM
  rw [one_arg h]
  exact if_pos c
theorem range_len {xs : List D} (h : xs.length ≤ 1000) (s t : Sl) : rangeM1 (consA (mCall lenD (consA (mVar 0) (nilA))) (nilA)) [.dt (.tup xs), s, t] = some (.val ((List.range xs.length).map fun i => .int ((i : Nat))) [.dt (.tup xs), s, t]) := by
  have zl : xs.length ≤ sizeLine := line_big h
  have e : rangeD 0 xs.length = (List.range xs.length).map fun i => D.int ((i : Nat)) := by unfold rangeD; simp
  have e1 : mCall lenD (consA (mVar 0) nilA) [.dt (.tup xs), s, t] = some (.val (.dt (.int (xs.length : Nat))) [.dt (.tup xs), s, t]) := by simp [zl]
  rw [← e]
  exact rangeM1_val e1 (small62 h)
theorem eq_law_due (ds : List D) (s : Sl) (h : (match ds with | [d] => if okC d = true ∧ okQ d = true then some (Sl.dt (dueV d)) else none | _ => none) = some s) : runB 3 1 [] m__law_due (ds.map .dt) = some (.val s (ds.map .dt)) := by
  split at h
  rotate_left
  · cases h
  rename_i d
  split at h
  rotate_left
  · cases h
  rename_i ok
  cases h
  obtain ⟨ok, oq⟩ := ok
  have one : 1 ≤ sizeLine := line_big (by decide)
  have other : ∀ d : D, isiM "tuple" (mVar 0) [.dt d, .un, .un] = some (.val (.dt (.bl false)) [.dt d, .un, .un]) → dueV d = .tup [.str "form"] → runB 3 1 [] m__law_due ([d].map .dt) = some (.val (.dt (dueV d)) ([d].map .dt)) := fun d hi hv => by
    refine runB_rt (ds := [d]) (ρ' := [.dt d, .un, .un]) ?_ rfl (by decide)
    show m__law_due [.dt d, .un, .un] = _
    have T : notT (toB (isiM "tuple" (mVar 0))) [.dt d, .un, .un] = some (.val true [.dt d, .un, .un]) := by
      have := toB_val hi
      simp only [notT, bindM, this]; rfl
    unfold m__law_due
    rw [seq_rt (ρ' := [.dt d, .un, .un]) (s := .dt (.tup [.str "form"])) ((ifs_val T).trans (by simp [one])), hv]
  cases d with
  | ins _ _ => cases ok
  | tup xs =>
    simp only [okC, Bool.and_eq_true, decide_eq_true_eq] at ok
    obtain ⟨⟨o1, o2⟩, o3⟩ := ok
    have oq' : ∀ x ∈ xs, shortQ x = true := List.all_eq_true.mp oq
    have T : notT (toB (isiM "tuple" (mVar 0))) [.dt (.tup xs), .un, .un] = some (.val false [.dt (.tup xs), .un, .un]) := by simp
    have src : enumM (consA (mVar 0) nilA) [.dt (.tup xs), .un, .un] = some (.val (enumL xs) [.dt (.tup xs), .un, .un]) := by simp
    obtain ⟨s', t', L⟩ := loop_s (.tup xs) xs 0 .un .un oq'
    simp only [Nat.zero_add] at L
    have start : m__law_due ([Sl.dt (D.tup xs)] ++ List.replicate 2 .un) = m__law_due [.dt (.tup xs), .un, .un] := rfl
    cases b : badAt 0 xs with
    | some k =>
      rw [b] at L
      have ev : dueV (.tup xs) = .tup [.str "sentence", .int (k : Nat)] := by simp only [dueV, b]
      rw [ev]
      refine runB_rt (ds := [.tup xs]) (ρ' := [.dt (.tup xs), s', t']) (start.trans ?_) rfl (by decide)
      unfold m__law_due
      rw [seq_nx (ρ' := [.dt (.tup xs), .un, .un]) ((ifs_val T).trans rfl), seq_rt ((fors_val src).trans L)]
    | none =>
      rw [b] at L
      obtain ⟨t, ht, hs⟩ := badAt_none b
      have hs := hs rfl
      have hw := bad_names b ht
      have ev : dueV (.tup xs) = cycV (dueK t 0 t.length) := by simp only [dueV, b, ht]
      rw [ev]
      have ex := decL_eq ht
      subst ex
      rw [ht] at o3
      have few : (namesOf t).length ≤ 61 := of_decide_eq_true o3
      have lt : t.length ≤ 1000 := by simpa using o1
      obtain ⟨s3, K⟩ := loop_f lt (fun k => by have := names_take t k; omega) hs hw t' t.length 0 s'
      simp only [Nat.zero_add] at K
      have src2 := range_len (xs := t.map encS) (by simpa using lt) s' t'
      rw [List.length_map] at src2
      cases e : dueK t 0 t.length with
      | some k =>
        rw [e] at K
        refine runB_rt (ds := [.tup (t.map encS)]) (ρ' := [.dt (.tup (t.map encS)), s3, t']) (start.trans ?_) rfl (by decide)
        unfold m__law_due
        rw [seq_nx (ρ' := [.dt (.tup (t.map encS)), .un, .un]) ((ifs_val T).trans rfl), seq_nx ((fors_val src).trans L), seq_rt ((fors_val src2).trans K)]
        rfl
      | none =>
        rw [e] at K
        refine runB_rt (ds := [.tup (t.map encS)]) (ρ' := [.dt (.tup (t.map encS)), s3, t']) (start.trans ?_) rfl (by decide)
        unfold m__law_due
        rw [seq_nx (ρ' := [.dt (.tup (t.map encS)), .un, .un]) ((ifs_val T).trans rfl), seq_nx ((fors_val src).trans L), seq_nx ((fors_val src2).trans K)]
        rfl
  | _ => exact other _ rfl rfl
end BK

namespace BK
open PySem L2 BT BO
/-! ### the things that the law draws and bends: small and shallow -/
def niceS (x : Str) : Bool := decide (x.length ≤ 9) && x.cps.toList.all fun c => decide (c < 128)
def niceA : D → Bool | .non => true | .bl _ => true | .int i => decide (i = 0) || decide (i = 7) | .str x => niceS x | _ => false
def nice (L : Nat) : Nat → D → Bool
  | 0, d => niceA d
  | n + 1, d => match d with
    | .tup xs => decide (xs.length ≤ L) && xs.all (nice L n)
    | .lst xs => decide (xs.length ≤ L) && xs.all (nice L n)
    | d => niceA d
theorem nice_tup {L n : Nat} {xs : List D} : nice L (n + 1) (.tup xs) = true ↔ xs.length ≤ L ∧ ∀ x ∈ xs, nice L n x = true := by
  simp only [nice, Bool.and_eq_true, decide_eq_true_eq, List.all_eq_true]
theorem nice_lst {L n : Nat} {xs : List D} : nice L (n + 1) (.lst xs) = true ↔ xs.length ≤ L ∧ ∀ x ∈ xs, nice L n x = true := by
  simp only [nice, Bool.and_eq_true, decide_eq_true_eq, List.all_eq_true]
theorem nice_up {L L' : Nat} (hL : L ≤ L') : ∀ (n : Nat) {d : D}, nice L n d = true → nice L' (n + 1) d = true
  | 0, d, h => by
    cases d with
    | tup xs => cases h
    | lst xs => cases h
    | dic _ => cases h
    | ins _ _ => cases h
    | _ => exact h
  | n + 1, d, h => by
    cases d with
    | tup xs =>
      obtain ⟨h1, h2⟩ := nice_tup.mp h
      exact nice_tup.mpr ⟨by omega, fun x hx => nice_up hL n (h2 x hx)⟩
    | lst xs =>
      obtain ⟨h1, h2⟩ := nice_lst.mp h
      exact nice_lst.mpr ⟨by omega, fun x hx => nice_up hL n (h2 x hx)⟩
    | dic _ => cases h
    | ins _ _ => cases h
    | _ => exact h
theorem niceS_wide {x : Str} (h : niceS x = true) : wideS x = true := by
  simp only [niceS, Bool.and_eq_true] at h
  unfold wideS
  have h2 := List.all_eq_true.mp h.2
  refine List.all_eq_true.mpr fun c hc => ?_
  have := of_decide_eq_true (h2 c hc)
  exact decide_eq_true (by omega)
mutual
theorem nice_py {L : Nat} : ∀ (n : Nat) {d : D}, nice L n d = true → (toPy d).canLay0 = true ∧ (toPy d).depth ≤ n ∧ (toPy d).showable = true
  | 0, d, h => by
    cases d with
    | tup xs => cases h
    | lst xs => cases h
    | dic _ => cases h
    | ins _ _ => cases h
    | non => exact ⟨rfl, Nat.zero_le _, rfl⟩
    | bl b => exact ⟨rfl, Nat.zero_le _, rfl⟩
    | int i =>
      refine ⟨rfl, Nat.zero_le _, ?_⟩
      have h : (decide (i = 0) || decide (i = 7)) = true := h
      simp only [Bool.or_eq_true, decide_eq_true_eq] at h
      rcases h with rfl | rfl <;> decide
    | str x =>
      refine ⟨?_, Nat.zero_le _, rfl⟩
      have := niceS_wide h
      unfold wideS at this
      simp only [toPy, PyData.canLay0, PyData.strOk]
      simpa using this
  | n + 1, d, h => by
    cases d with
    | tup xs =>
      obtain ⟨h1, h2⟩ := nice_tup.mp h
      obtain ⟨a, b, c⟩ := nice_pyL n xs h2
      exact ⟨by simpa [toPy, PyData.canLay0] using a, by simp only [toPy, PyData.depth]; omega, by simpa [toPy, PyData.showable] using c⟩
    | lst xs =>
      obtain ⟨h1, h2⟩ := nice_lst.mp h
      obtain ⟨a, b, c⟩ := nice_pyL n xs h2
      exact ⟨by simpa [toPy, PyData.canLay0] using a, by simp only [toPy, PyData.depth]; omega, by simpa [toPy, PyData.showable] using c⟩
    | dic _ => cases h
    | ins _ _ => cases h
    | non => exact ⟨rfl, Nat.zero_le _, rfl⟩
    | bl b => exact ⟨rfl, Nat.zero_le _, rfl⟩
    | int i =>
      refine ⟨rfl, Nat.zero_le _, ?_⟩
      have h : (decide (i = 0) || decide (i = 7)) = true := h
      simp only [Bool.or_eq_true, decide_eq_true_eq] at h
      rcases h with rfl | rfl <;> decide
    | str x =>
      refine ⟨?_, Nat.zero_le _, rfl⟩
      have h : niceS x = true := h
      have := niceS_wide h
      unfold wideS at this
      simp only [toPy, PyData.canLay0, PyData.strOk]
      simpa using this
theorem nice_pyL {L : Nat} (n : Nat) : ∀ (xs : List D), (∀ x ∈ xs, nice L n x = true) → PyData.canLayAll0 (toPyL xs) = true ∧ PyData.depthAll (toPyL xs) ≤ n ∧ PyData.showableAll (toPyL xs) = true
  | [], _ => ⟨rfl, Nat.zero_le _, rfl⟩
  | x :: xs, h => by
    obtain ⟨a, b, c⟩ := nice_py n (h x (by simp))
    obtain ⟨a', b', c'⟩ := nice_pyL n xs fun y hy => h y (by simp [hy])
    refine ⟨?_, ?_, ?_⟩
    · simp only [toPyL, PyData.canLayAll0, a, a', Bool.and_self]
    · simp only [toPyL, PyData.depthAll]; omega
    · simp only [toPyL, PyData.showableAll, c, c', Bool.and_self]
end
theorem nice_okD {L n : Nat} (hn : n ≤ 64) {d : D} (h : nice L n d = true) : okD d = true := by
  obtain ⟨a, b, _⟩ := nice_py n h
  unfold okD SeqAt.shaped
  rw [a, Bool.true_and]
  exact decide_eq_true (by omega)
def wt (L : Nat) : Nat → Nat | 0 => 9 | n + 1 => L * (wt L n + 1) + 9
mutual
theorem nice_wt {L : Nat} : ∀ (n : Nat) {d : D}, nice L n d = true → (toPy d).weight ≤ wt L n ∧ (toPy d).intsShort 13 = true
  | 0, d, h => by
    cases d with
    | tup xs => cases h
    | lst xs => cases h
    | dic _ => cases h
    | ins _ _ => cases h
    | non => exact ⟨Nat.zero_le _, rfl⟩
    | bl b => exact ⟨Nat.zero_le _, rfl⟩
    | int i =>
      have h : (decide (i = 0) || decide (i = 7)) = true := h
      simp only [Bool.or_eq_true, decide_eq_true_eq] at h
      rcases h with rfl | rfl
      · exact ⟨Nat.zero_le _, by decide +kernel⟩
      · refine ⟨?_, by decide +kernel⟩
        have : (toPy (.int 7)).weight = 3 := by decide +kernel
        rw [this]; unfold wt; omega
    | str x =>
      have h : niceS x = true := h
      simp only [niceS, Bool.and_eq_true, decide_eq_true_eq] at h
      refine ⟨?_, by simp [toPy, PyData.intsShort]⟩
      simp only [toPy, PyData.weight, wt]
      exact h.1
  | n + 1, d, h => by
    cases d with
    | tup xs =>
      obtain ⟨h1, h2⟩ := nice_tup.mp h
      obtain ⟨a, b⟩ := nice_wtL n xs h2
      have m : xs.length * (wt L n + 1) ≤ L * (wt L n + 1) := Nat.mul_le_mul_right _ h1
      exact ⟨by simp only [toPy, PyData.weight, wt]; omega, by simpa [toPy, PyData.intsShort] using b⟩
    | lst xs =>
      obtain ⟨h1, h2⟩ := nice_lst.mp h
      obtain ⟨a, b⟩ := nice_wtL n xs h2
      have m : xs.length * (wt L n + 1) ≤ L * (wt L n + 1) := Nat.mul_le_mul_right _ h1
      exact ⟨by simp only [toPy, PyData.weight, wt]; omega, by simpa [toPy, PyData.intsShort] using b⟩
    | dic _ => cases h
    | ins _ _ => cases h
    | non => exact ⟨Nat.zero_le _, rfl⟩
    | bl b => exact ⟨Nat.zero_le _, rfl⟩
    | int i =>
      have h : (decide (i = 0) || decide (i = 7)) = true := h
      simp only [Bool.or_eq_true, decide_eq_true_eq] at h
      rcases h with rfl | rfl
      · exact ⟨Nat.zero_le _, by decide +kernel⟩
      · refine ⟨?_, by decide +kernel⟩
        have : (toPy (.int 7)).weight = 3 := by decide +kernel
        rw [this]; unfold wt; omega
    | str x =>
      have h : niceS x = true := h
      simp only [niceS, Bool.and_eq_true, decide_eq_true_eq] at h
      refine ⟨?_, by simp [toPy, PyData.intsShort]⟩
      simp only [toPy, PyData.weight, wt]
      have h1 : x.cps.size ≤ 9 := h.1
      omega
theorem nice_wtL {L : Nat} (n : Nat) : ∀ (xs : List D), (∀ x ∈ xs, nice L n x = true) → PyData.weightAll (toPyL xs) ≤ xs.length * (wt L n + 1) ∧ PyData.intsShortAll 13 (toPyL xs) = true
  | [], _ => ⟨Nat.zero_le _, rfl⟩
  | x :: xs, h => by
    obtain ⟨a, b⟩ := nice_wt n (h x (by simp))
    obtain ⟨a', b'⟩ := nice_wtL n xs fun y hy => h y (by simp [hy])
    refine ⟨?_, ?_⟩
    · simp only [toPyL, PyData.weightAll, List.length_cons, Nat.add_mul, Nat.one_mul] at a' ⊢; omega
    · simp only [toPyL, PyData.intsShortAll, b, b', Bool.and_self]
end
theorem nice_show {d : D} (h : nice 16 4 d = true) : showOk d = true := by
  obtain ⟨a, b, c⟩ := nice_py 4 h
  obtain ⟨e, f⟩ := nice_wt 4 h
  have w : (toPy d).weight ≤ 2 ^ 20 := Nat.le_trans e (by decide)
  have lay : PyData.layable0 (toPy d) = true := by
    show ((toPy d).canLay0 && decide ((toPy d).depth ≤ 64) && decide ((toPy d).weight ≤ 2 ^ 20)) = true
    rw [a, decide_eq_true (by omega), decide_eq_true w]; rfl
  have z := PyData.shown_fits_of_layable0 (B := 13) (by decide) (by decide) lay f
  unfold showOk
  rw [c, nice_okD (by decide) h]
  simp only [Bool.and_self, Bool.true_and]
  refine decide_eq_true ?_
  cases d with
  | str x =>
    have h : niceS x = true := h
    simp only [niceS, Bool.and_eq_true, decide_eq_true_eq] at h
    exact line_big (by show x.length ≤ 1000; omega)
  | _ => exact z
end BK

namespace BK
open PySem L2 BT BO
section
variable {P : Program} {w : World} {K : PySem.W.Frag} {mg : Str → Option Value} {base : Heap} {C : Addr}
/-! ### _law_bent -/
def m__law_bent (Fr : Fn) : MS := seqS (ifS (orT (notT (toB (isiM "tuple" (mVar 1)))) (orT (toB (bin2 (mVar 1) (mTup (nilA)) eqM)) (toB (bin2 (callO F_law_draw 0 (consA (mC (.int 12)) (nilA))) (mC (.int 0)) eqM)))) (retS (callO F_law_odd 0 (nilA))) (nxS)) (seqS (asgS 2 (callO F_law_draw 0 (consA (mCall lenD (consA (mVar 1) (nilA))) (nilA)))) (seqS (asgS 3 (callO F_law_draw 0 (consA (mC (.int 8)) (nilA)))) (seqS (ifS (toB (bin2 (mVar 3) (mC (.int 0)) eqM)) (retS (bin2 (sliceM (mVar 1) (noP) (someP (mVar 2))) (sliceM (mVar 1) (someP (bin2 (mVar 2) (mC (.int 1)) addD)) (noP)) addD)) (nxS)) (seqS (ifS (toB (bin2 (mVar 3) (mC (.int 1)) eqM)) (retS (bin2 (sliceM (mVar 1) (noP) (someP (bin2 (mVar 2) (mC (.int 1)) addD))) (sliceM (mVar 1) (someP (mVar 2)) (noP)) addD)) (nxS)) (seqS (ifS (toB (bin2 (mVar 3) (mC (.int 2)) eqM)) (seqS (asgS 4 (revM (sliceM (mVar 1) (someP (mVar 2)) (someP (bin2 (mVar 2) (mC (.int 2)) addD))))) (retS (bin2 (bin2 (sliceM (mVar 1) (noP) (someP (mVar 2))) (mVar 4) addD) (sliceM (mVar 1) (someP (bin2 (mVar 2) (mC (.int 2)) addD)) (noP)) addD))) (nxS)) (seqS (ifS (toB (bin2 (mVar 3) (mC (.int 3)) eqM)) (retS (mCall listD (consA (mVar 1) (nilA)))) (nxS)) (retS (bin2 (bin2 (sliceM (mVar 1) (noP) (someP (mVar 2))) (mTup (consA (callO Fr 0 (consA (bin2 (mVar 1) (mVar 2) ixM) (nilA))) (nilA))) addD) (sliceM (mVar 1) (someP (bin2 (mVar 2) (mC (.int 1)) addD)) (noP)) addD))))))))
theorem sc__law_bent : FnScope ["purse", "value", "at", "way", "pair"] ["purse", "value"] (defScope (top 31)) := ⟨rfl, rfl, rfl, by decide +kernel, rfl, by decide +kernel, by decide +kernel⟩
theorem run__law_bent {Fr : Fn} {lv : Nat} (hlv : 3 ≤ lv) {f : Addr} {fd : FuncData} (F : Fun K "_law_bent" "_law_bent" (top 31) f fd) (T : Tx K mg C) {f__law_draw : Addr} {fd__law_draw : FuncData} (G__law_draw : FnOk P w K mg base CX0 2 f__law_draw fd__law_draw ["purse", "out_of"] (fun vs H Q _ => SpF K (F_law_draw) vs H Q E00)) (b__law_draw : Binds K fd__law_draw ["purse", "out_of"] []) {f__law_odd : Addr} {fd__law_odd : FuncData} (G__law_odd : FnOk P w K mg base CX0 3 f__law_odd fd__law_odd ["purse"] (fun vs H Q _ => SpF K (F_law_odd) vs H Q E00)) (b__law_odd : Binds K fd__law_odd ["purse"] []) {f__law_bent : Addr} {fd__law_bent : FuncData} (G__law_bent : FnOk P w K mg base CX0 lv f__law_bent fd__law_bent ["purse", "value"] (fun vs H Q _ => SpF K (Fr) vs H Q E00)) (b__law_bent : Binds K fd__law_bent ["purse", "value"] []) (g__law_draw : mg "_law_draw" = some (.ref f__law_draw)) (k__law_draw : PySem.W.keepIn K (.ref f__law_draw) = true) (g__law_odd : mg "_law_odd" = some (.ref f__law_odd)) (k__law_odd : PySem.W.keepIn K (.ref f__law_odd) = true) (g__law_bent : mg "_law_bent" = some (.ref f__law_bent)) (k__law_bent : PySem.W.keepIn K (.ref f__law_bent) = true) :
    FnOk P w K mg base CX0 (lv + 1) f fd ["purse", "value"] (fun vs H Q _ => SpF K (runB 5 2 [0] (m__law_bent Fr)) vs H Q E00) := by
  have sc := sc__law_bent
  refine okF [0] F sc (fun pn cdv A outer s H E hpn hr => ?_)
  have hu64 := hr.units
  have hu65 := room65 hr
  have hu1 := hu_of hr
  exact psx_cons (psx_if ((pwx_or (ptx_not (pt_x (px_isi kit_tuple (px_var (pv 1)) T.n_isinstance T.n_tuple (by decide +kernel)))) (pwx_or (pt_c (op_eqs hu64) od_eq (px_var (pv 1)) (px_tup (pax_nil)) (nomark _)) (pw_or1 (pt_c (op_eqs hu64) od_eq (px_callO G__law_draw (hr.mono (by omega)) g__law_draw k__law_draw b__law_draw (pv 0) (pax_cons (px_int) (pax_nil))) (px_int) (nomark _))))).pt) (psx_one (psx_ret (px_callO G__law_odd (hr.mono (by omega)) g__law_odd k__law_odd b__law_odd (pv 0) (pax_nil)))) (psx_nil)) (psx_cons (psx_set (i := 2) (np hpn (by decide)) sc.nd rfl (by first | exact Or.inl rfl | exact Or.inr rfl) (px_callO G__law_draw (hr.mono (by omega)) g__law_draw k__law_draw b__law_draw (pv 0) (pax_cons (px_callB call_lens cd_len (by rfl) T.n_len PySem.boot_len (pax_cons (px_var (pv 1)) (pax_nil))) (pax_nil)))) (psx_cons (psx_set (i := 3) (np hpn (by decide)) sc.nd rfl (by first | exact Or.inl rfl | exact Or.inr rfl) (px_callO G__law_draw (hr.mono (by omega)) g__law_draw k__law_draw b__law_draw (pv 0) (pax_cons (px_int) (pax_nil)))) (psx_cons (psx_if (pt_c (op_eqs hu64) od_eq (px_var (pv 3)) (px_int) (nomark _)) (psx_one (psx_ret (px_op op_adds od_add (px_slice (px_var (pv 1)) (pox_none) (pox_some (px_var (pv 2)))) (px_slice (px_var (pv 1)) (pox_some (px_op op_adds od_add (px_var (pv 2)) (px_int))) (pox_none))))) (psx_nil)) (psx_cons (psx_if (pt_c (op_eqs hu64) od_eq (px_var (pv 3)) (px_int) (nomark _)) (psx_one (psx_ret (px_op op_adds od_add (px_slice (px_var (pv 1)) (pox_none) (pox_some (px_op op_adds od_add (px_var (pv 2)) (px_int)))) (px_slice (px_var (pv 1)) (pox_some (px_var (pv 2))) (pox_none))))) (psx_nil)) (psx_cons (psx_if (pt_c (op_eqs hu64) od_eq (px_var (pv 3)) (px_int) (nomark _)) (psx_cons (psx_set (i := 4) (np hpn (by decide)) sc.nd rfl (by first | exact Or.inl rfl | exact Or.inr rfl) (px_rev (px_slice (px_var (pv 1)) (pox_some (px_var (pv 2))) (pox_some (px_op op_adds od_add (px_var (pv 2)) (px_int)))))) (psx_one (psx_ret (px_op op_adds od_add (px_op op_adds od_add (px_slice (px_var (pv 1)) (pox_none) (pox_some (px_var (pv 2)))) (px_var (pv 4))) (px_slice (px_var (pv 1)) (pox_some (px_op op_adds od_add (px_var (pv 2)) (px_int))) (pox_none)))))) (psx_nil)) (psx_cons (psx_if (pt_c (op_eqs hu64) od_eq (px_var (pv 3)) (px_int) (nomark _)) (psx_one (psx_ret (px_callTy call_list_of cd_list (by rfl) T.n_list (by decide +kernel) (pax_cons (px_var (pv 1)) (pax_nil))))) (psx_nil)) (psx_one (psx_ret (px_op op_adds od_add (px_op op_adds od_add (px_slice (px_var (pv 1)) (pox_none) (pox_some (px_var (pv 2)))) (px_tup (pax_cons (px_callO G__law_bent (hr.mono (by omega)) g__law_bent k__law_bent b__law_bent (pv 0) (pax_cons (px_ix ix_seq od_ix (px_var (pv 1)) (px_var (pv 2)) (fun _ _ => rfl)) (pax_nil))) (pax_nil)))) (px_slice (px_var (pv 1)) (pox_some (px_op op_adds od_add (px_var (pv 2)) (px_int))) (pox_none)))))))))))
end
end BK

namespace BK
open PySem L2 BT BO
def sD : Sl → D | .un => .non | .dt d => d | .ol l => .lst l
def isD : Sl → Bool | .un => false | _ => true
theorem sD_frz {s : Sl} (h : isD s = true) : s.frz = some (sD s) := by
  cases s with
  | un => cases h
  | _ => rfl
/-- one bending of a thing that is no tuple's own item -/
def wayF (way at_ : Nat) (l : List D) : Sl :=
  if way = 0 then .dt (.tup (l.take at_ ++ l.drop (at_ + 1))) else
  if way = 1 then .dt (.tup (l.take (at_ + 1) ++ l.drop at_)) else
  if way = 2 then .dt (.tup (l.take at_ ++ ((l.drop at_).take 2).reverse ++ l.drop (at_ + 2))) else .ol l
def bentF : Nat → Pz → D → Sl × Pz
  | 0, p, _ => (.dt (oddD p), p.n 30)
  | n + 1, p, d => match d with
    | .tup (x :: xs) =>
      if p.r 12 = 0 then (.dt (oddD (p.n 12)), (p.n 12).n 30) else
      if (((p.n 12).n ((x :: xs).length)).r 8).toNat ≤ 3 then
        (wayF (((p.n 12).n ((x :: xs).length)).r 8).toNat ((p.n 12).r ((x :: xs).length)).toNat (x :: xs), ((p.n 12).n ((x :: xs).length)).n 8)
      else (.dt (.tup ((x :: xs).take ((p.n 12).r ((x :: xs).length)).toNat ++ [sD (bentF n (((p.n 12).n ((x :: xs).length)).n 8) ((x :: xs).getD ((p.n 12).r ((x :: xs).length)).toNat .non)).1] ++ (x :: xs).drop (((p.n 12).r ((x :: xs).length)).toNat + 1))),
        (bentF n (((p.n 12).n ((x :: xs).length)).n 8) ((x :: xs).getD ((p.n 12).r ((x :: xs).length)).toNat .non)).2)
    | _ => (.dt (oddD p), p.n 30)
theorem bent_isD : ∀ (n : Nat) (p : Pz) (d : D), isD (bentF n p d).1 = true
  | 0, _, _ => rfl
  | n + 1, p, d => by
    unfold bentF
    split
    · split
      · rfl
      · split
        · show isD (wayF _ _ _) = true
          unfold wayF
          split
          · rfl
          · split
            · rfl
            · split <;> rfl
        · rfl
    · rfl
theorem bent_ok : ∀ (n : Nat) (p : Pz) (d : D) (k : Nat), p.ok (3 * n + 1 + k) → (bentF n p d).2.ok k
  | 0, p, d, k, h => Pz.ok.next (k := k) (h.le (by omega)) 30 (by decide)
  | n + 1, p, d, k, h => by
    unfold bentF
    split
    · rename_i x xs
      have h1 : (p.n 12).ok (3 * n + 1 + k + 2) := Pz.ok.next (h.le (by omega)) 12 (by decide)
      have h2 : ((p.n 12).n ((x :: xs).length)).ok (3 * n + 1 + k + 1) := Pz.ok.next h1 _ (by simp)
      have h3 : (((p.n 12).n ((x :: xs).length)).n 8).ok (3 * n + 1 + k) := Pz.ok.next h2 8 (by decide)
      split
      · exact Pz.ok.next (h1.le (by omega)) 30 (by decide)
      · split
        · exact h3.le (by omega)
        · exact bent_ok n _ _ k h3
    · exact Pz.ok.next (h.le (by omega)) 30 (by decide)
theorem odds_nice : ∀ d ∈ odds, nice 3 1 d = true := by decide +kernel
theorem odd_nice (p : Pz) : nice 3 1 (oddD p) = true := by
  unfold oddD
  rw [List.getD_eq_getElem?_getD]
  cases e : odds[(p.r 30).toNat]? with
  | none => rfl
  | some d => exact odds_nice d (List.mem_of_getElem? e)
theorem nice_ups {L : Nat} {d : D} (h : nice L 1 d = true) {L' : Nat} (hL : L ≤ L') : ∀ n : Nat, nice L' (n + 1) d = true
  | 0 => by
    cases d with
    | tup xs =>
      obtain ⟨h1, h2⟩ := nice_tup.mp h
      exact nice_tup.mpr ⟨by omega, h2⟩
    | lst xs =>
      obtain ⟨h1, h2⟩ := nice_lst.mp h
      exact nice_lst.mpr ⟨by omega, h2⟩
    | dic _ => cases h
    | ins _ _ => cases h
    | _ => exact h
  | n + 1 => nice_up (Nat.le_refl _) (n + 1) (nice_ups h hL n)
theorem bent_nice {L : Nat} (hL : 3 ≤ L) : ∀ (n : Nat) (p : Pz) (d : D), nice L n d = true → nice (L + 1) (n + 1) (sD (bentF n p d).1) = true
  | 0, p, d, _ => nice_ups (odd_nice p) (by omega) 0
  | n + 1, p, d, h => by
    have odd := fun q : Pz => nice_ups (odd_nice q) (L' := L + 1) (by omega) (n + 1)
    unfold bentF
    split
    · rename_i x xs
      obtain ⟨h1, h2⟩ := nice_tup.mp h
      have up : ∀ y ∈ x :: xs, nice (L + 1) (n + 1) y = true := fun y hy => nice_up (by omega) n (h2 y hy)
      split
      · exact odd _
      · split
        · show nice (L + 1) (n + 1 + 1) (sD (wayF _ _ _)) = true
          unfold wayF
          split
          · refine nice_tup.mpr ⟨by simp only [List.length_append, List.length_take, List.length_drop]; omega, fun y hy => ?_⟩
            rcases List.mem_append.mp hy with m | m
            · exact up y (List.mem_of_mem_take m)
            · exact up y (List.mem_of_mem_drop m)
          · split
            · refine nice_tup.mpr ⟨by simp only [List.length_append, List.length_take, List.length_drop]; omega, fun y hy => ?_⟩
              rcases List.mem_append.mp hy with m | m
              · exact up y (List.mem_of_mem_take m)
              · exact up y (List.mem_of_mem_drop m)
            · split
              · refine nice_tup.mpr ⟨by simp only [List.length_append, List.length_take, List.length_drop, List.length_reverse]; omega, fun y hy => ?_⟩
                rcases List.mem_append.mp hy with m | m
                · rcases List.mem_append.mp m with m | m
                  · exact up y (List.mem_of_mem_take m)
                  · exact up y (List.mem_of_mem_drop (List.mem_of_mem_take (List.mem_reverse.mp m)))
                · exact up y (List.mem_of_mem_drop m)
              · exact nice_lst.mpr ⟨by omega, up⟩
        · refine nice_tup.mpr ⟨by simp only [List.length_append, List.length_take, List.length_drop, List.length_singleton]; omega, fun y hy => ?_⟩
          rcases List.mem_append.mp hy with m | m
          · rcases List.mem_append.mp m with m | m
            · exact up y (List.mem_of_mem_take m)
            · rw [List.mem_singleton.mp m]
              refine bent_nice hL n _ _ ?_
              rw [List.getD_eq_getElem?_getD]
              cases e : (x :: xs)[((p.n 12).r ((x :: xs).length)).toNat]? with
              | none =>
                show nice L n .non = true
                cases n <;> rfl
              | some z => exact h2 z (List.mem_of_getElem? e)
          · exact up y (List.mem_of_mem_drop m)
    · exact odd _
end BK

namespace BK
open PySem L2 BT BO
def F_bent (n : Nat) : Fn := ownF fun xs ds => match decP xs, ds with | some p, [d] => if p.ok (3 * n + 1) ∧ nice 100 n d = true then some ((bentF n p d).1, (bentF n p d).2.L) else none | _, _ => none
theorem callO_at {F : Fn} {j : Nat} {fs : M (List D)} {xs ys es : List D} {s : Sl} {r ρ : Rho} (h0 : ρ[j]? = some (.ol xs)) (h1 : fs ρ = some (.val es ρ)) (h2 : F (.ol xs :: es.map .dt) = some (.val s (.ol ys :: r))) : callO F j fs ρ = some (.val s (ρ.set j (.ol ys))) := by
  simp only [callO, h0, bindM, h1, h2]
theorem F_odd_app {p : Pz} (h : p.ok 1) : F_law_odd [.ol p.L] = some (.val (.dt (oddD p)) [.ol (p.n 30).L]) := by
  simp [F_law_odd, ownF, dts, decP, Pz.L, h]
theorem F_bent_app {n : Nat} {p : Pz} {d : D} (h : p.ok (3 * n + 1)) (hn : nice 100 n d = true) : F_bent n [.ol p.L, .dt d] = some (.val (bentF n p d).1 [.ol (bentF n p d).2.L, .dt d]) := by
  simp [F_bent, ownF, dts, decP, Pz.L, h, hn]
theorem bin2_st {f g : M Sl} {k : D → D → M Sl} {s t : Sl} {d e : D} {ρ ρ' ρ2 : Rho} (h1 : f ρ = some (.val s ρ')) (z1 : s.frz = some d) (h2 : g ρ' = some (.val t ρ2)) (z2 : t.frz = some e) : bin2 f g k ρ = k d e ρ2 := by
  simp only [bin2, bindD, bindM, h1, h2, z1, z2]
theorem orT_f {f g : M Bool} {ρ ρ' : Rho} (h : f ρ = some (.val false ρ')) : orT f g ρ = g ρ' := by simp only [orT, bindM, h]; rfl
theorem orT_t {f g : M Bool} {ρ ρ' : Rho} (h : f ρ = some (.val true ρ')) : orT f g ρ = some (.val true ρ') := by simp only [orT, bindM, h]; rfl
theorem toB_st {f : M Sl} {b : Bool} {ρ ρ' : Rho} (h : f ρ = some (.val (.dt (.bl b)) ρ')) : toB f ρ = some (.val b ρ') := by simp only [toB, bindD, bindM, h, Sl.frz]
theorem sl_to {i a : Nat} {l : List D} {f : M Sl} {ρ : Rho} (h : ρ[i]? = some (.dt (.tup l))) (hf : f ρ = some (.val (.dt (.int (a : Nat))) ρ)) : sliceM (mVar i) noP (someP f) ρ = some (.val (.dt (.tup (l.take a))) ρ) := by
  simp only [sliceM, bindD, bindM, var_val h, Sl.frz, noP, someP, hf, cut_to]
theorem sl_from {i a : Nat} {l : List D} {f : M Sl} {ρ : Rho} (h : ρ[i]? = some (.dt (.tup l))) (hf : f ρ = some (.val (.dt (.int (a : Nat))) ρ)) : sliceM (mVar i) (someP f) noP ρ = some (.val (.dt (.tup (l.drop a))) ρ) := by
  simp only [sliceM, bindD, bindM, var_val h, Sl.frz, noP, someP, hf, cut_from]
theorem sl_mid {i a b : Nat} {l : List D} {f g : M Sl} {ρ : Rho} (h : ρ[i]? = some (.dt (.tup l))) (hf : f ρ = some (.val (.dt (.int (a : Nat))) ρ)) (hg : g ρ = some (.val (.dt (.int ((a + b : Nat) : Int))) ρ)) : sliceM (mVar i) (someP f) (someP g) ρ = some (.val (.dt (.tup ((l.drop a).take b))) ρ) := by
  simp only [sliceM, bindD, bindM, var_val h, Sl.frz, someP, hf, hg, cut_mid]
theorem addT {xs ys : List D} {ρ : Rho} (h : xs.length + ys.length ≤ 1000) : addD (.tup xs) (.tup ys) ρ = some (.val (.dt (.tup (xs ++ ys))) ρ) := if_pos (line_big h)
theorem plus {i a : Nat} {ρ : Rho} (b : Nat) (c : Int) (hc : c = (b : Nat)) (h : ρ[i]? = some (.dt (.int (a : Nat)))) : bin2 (mVar i) (mC (.int c)) addD ρ = some (.val (.dt (.int ((a + b : Nat) : Int))) ρ) := by
  subst hc
  exact (bin2_val (var_val h) rfl).trans (by simp)
theorem eqI {i : Nat} {a : Nat} {ρ : Rho} (b : Nat) (c : Int) (hc : c = (b : Nat)) (h : ρ[i]? = some (.dt (.int (a : Nat)))) : toB (bin2 (mVar i) (mC (.int c)) eqM) ρ = some (.val (decide (a = b)) ρ) := by
  subst hc
  refine toB_val ((bin2_val (var_val h) rfl).trans ?_)
  show some (Rs.val (Sl.dt (D.bl (decide ((a : Int) = (b : Int))))) ρ) = _
  have : decide ((a : Int) = (b : Int)) = decide (a = b) := by rw [decide_eq_decide]; omega
  rw [this]
theorem eqM_unit {x : D} {xs : List D} (h : okD (.tup (x :: xs)) = true) (ρ : Rho) : eqM (.tup (x :: xs)) (.tup []) ρ = some (.val (.dt (.bl false)) ρ) := if_pos ⟨h, by decide⟩
/-- the part of the def behind its first test -/
theorem bent_way {n : Nat} {p : Pz} {x : D} {xs : List D} (hok : p.ok (3 * n + 3)) (hl : (x :: xs).length ≤ 100) (hn : ∀ y ∈ x :: xs, nice 100 n y = true) (t2 t3 t4 : Sl) :
    ∃ ρ', seqS (asgS 2 (callO F_law_draw 0 (consA (mCall lenD (consA (mVar 1) (nilA))) (nilA)))) (seqS (asgS 3 (callO F_law_draw 0 (consA (mC (.int 8)) (nilA)))) (seqS (ifS (toB (bin2 (mVar 3) (mC (.int 0)) eqM)) (retS (bin2 (sliceM (mVar 1) (noP) (someP (mVar 2))) (sliceM (mVar 1) (someP (bin2 (mVar 2) (mC (.int 1)) addD)) (noP)) addD)) (nxS)) (seqS (ifS (toB (bin2 (mVar 3) (mC (.int 1)) eqM)) (retS (bin2 (sliceM (mVar 1) (noP) (someP (bin2 (mVar 2) (mC (.int 1)) addD))) (sliceM (mVar 1) (someP (mVar 2)) (noP)) addD)) (nxS)) (seqS (ifS (toB (bin2 (mVar 3) (mC (.int 2)) eqM)) (seqS (asgS 4 (revM (sliceM (mVar 1) (someP (mVar 2)) (someP (bin2 (mVar 2) (mC (.int 2)) addD))))) (retS (bin2 (bin2 (sliceM (mVar 1) (noP) (someP (mVar 2))) (mVar 4) addD) (sliceM (mVar 1) (someP (bin2 (mVar 2) (mC (.int 2)) addD)) (noP)) addD))) (nxS)) (seqS (ifS (toB (bin2 (mVar 3) (mC (.int 3)) eqM)) (retS (mCall listD (consA (mVar 1) (nilA)))) (nxS)) (retS (bin2 (bin2 (sliceM (mVar 1) (noP) (someP (mVar 2))) (mTup (consA (callO (F_bent n) 0 (consA (bin2 (mVar 1) (mVar 2) ixM) (nilA))) (nilA))) addD) (sliceM (mVar 1) (someP (bin2 (mVar 2) (mC (.int 1)) addD)) (noP)) addD))))))) [.ol p.L, .dt (.tup (x :: xs)), t2, t3, t4] =
      some (.rt (if ((p.n ((x :: xs).length)).r 8).toNat ≤ 3 then wayF ((p.n ((x :: xs).length)).r 8).toNat (p.r ((x :: xs).length)).toNat (x :: xs) else
        (.dt (.tup ((x :: xs).take (p.r ((x :: xs).length)).toNat ++ [sD (bentF n ((p.n ((x :: xs).length)).n 8) ((x :: xs).getD (p.r ((x :: xs).length)).toNat .non)).1] ++ (x :: xs).drop ((p.r ((x :: xs).length)).toNat + 1)))))
        (.ol (if ((p.n ((x :: xs).length)).r 8).toNat ≤ 3 then ((p.n ((x :: xs).length)).n 8) else (bentF n ((p.n ((x :: xs).length)).n 8) ((x :: xs).getD (p.r ((x :: xs).length)).toNat .non)).2).L :: ρ')) := by
  generalize el : x :: xs = l at hl hn ⊢
  have hp : 0 < l.length := by rw [← el]; simp
  have zl : l.length ≤ sizeLine := line_big (by omega)
  obtain ⟨a0, a1⟩ := Pz.r_lt p (n := (l.length : Int)) (by omega)
  obtain ⟨a, ha⟩ := Int.eq_ofNat_of_zero_le a0
  obtain ⟨w0, w1⟩ := Pz.r_lt (p.n l.length) (n := 8) (by decide)
  obtain ⟨w, hw⟩ := Int.eq_ofNat_of_zero_le w0
  have hk1 : (p.n l.length).ok (3 * n + 2) := Pz.ok.next hok _ (by omega)
  have hk2 : ((p.n l.length).n 8).ok (3 * n + 1) := Pz.ok.next hk1 8 (by decide)
  have D1 := F_draw_app (p := p) (n := (l.length : Int)) (hok.le (by omega)) (by omega) (by omega)
  have D2 := F_draw_app (p := p.n l.length) (n := 8) (hk1.le (by omega)) (by decide) (by decide)
  rw [ha] at D1 a1 ⊢
  rw [hw] at D2 w1 ⊢
  rw [Int.toNat_natCast, Int.toNat_natCast]
  have al : a < l.length := by omega
  have wl : w < 8 := by omega
  generalize hq : (p.n l.length).n 8 = q at *
  have e1 : mCall lenD (consA (mVar 1) nilA) [.ol p.L, .dt (.tup l), t2, t3, t4] = some (.val (.dt (.int (l.length : Nat))) [.ol p.L, .dt (.tup l), t2, t3, t4]) := by simp [zl]
  have c1 : callO F_law_draw 0 (consA (mCall lenD (consA (mVar 1) (nilA))) (nilA)) [.ol p.L, .dt (.tup l), t2, t3, t4] = some (.val (.dt (.int (a : Nat))) [.ol (p.n l.length).L, .dt (.tup l), t2, t3, t4]) := callO_at rfl (one_arg e1) D1
  have c2 : callO F_law_draw 0 (consA (mC (.int 8)) nilA) [.ol (p.n l.length).L, .dt (.tup l), .dt (.int (a : Nat)), t3, t4] = some (.val (.dt (.int (w : Nat))) [.ol q.L, .dt (.tup l), .dt (.int (a : Nat)), t3, t4]) := callO_at rfl (one_arg rfl) D2
  refine Exists.imp (fun ρ' h => (seq_nx (ρ' := [.ol (p.n l.length).L, .dt (.tup l), .dt (.int (a : Nat)), t3, t4]) ((asg_val c1 (by simp)).trans rfl)).trans ((seq_nx (ρ' := [.ol q.L, .dt (.tup l), .dt (.int (a : Nat)), .dt (.int (w : Nat)), t4]) ((asg_val c2 (by simp)).trans rfl)).trans h)) ?_
  generalize hρ : ([.ol q.L, .dt (.tup l), .dt (.int (a : Nat)), .dt (.int (w : Nat)), t4] : Rho) = ρ
  have v1 : ρ[1]? = some (.dt (.tup l)) := by subst hρ; rfl
  have v2 : ρ[2]? = some (.dt (.int (a : Nat))) := by subst hρ; rfl
  have v3 : ρ[3]? = some (.dt (.int (w : Nat))) := by subst hρ; rfl
  have f2 : mVar 2 ρ = some (.val (.dt (.int (a : Nat))) ρ) := var_val v2
  have T := sl_to v1 f2
  have T1 := sl_to v1 (plus 1 1 rfl v2)
  have R := sl_from v1 f2
  have R1 := sl_from v1 (plus 1 1 rfl v2)
  have R2 := sl_from v1 (plus 2 2 rfl v2)
  have Mi := sl_mid v1 f2 (plus 2 2 rfl v2)
  have lt : (l.take a).length ≤ 100 := by rw [List.length_take]; omega
  have lt1 : (l.take (a + 1)).length ≤ 100 := by rw [List.length_take]; omega
  have ld : ∀ i, (l.drop i).length ≤ 100 := fun i => by rw [List.length_drop]; omega
  by_cases w0 : w = 0
  · subst w0
    refine ⟨ρ.tail, ?_⟩
    refine (seq_rt ((ifs_val (eqI 0 0 rfl v3)).trans (ret_val (ρ' := ρ) ((bin2_val T R1).trans (addT (by have := ld (a + 1); omega)))))).trans ?_
    subst hρ
    simp [wayF]
  refine Exists.imp (fun ρ' h => (seq_nx (ρ' := ρ) ((ifs_val (eqI 0 0 rfl v3)).trans (by simp [w0]))).trans h) ?_
  by_cases w1' : w = 1
  · subst w1'
    refine ⟨ρ.tail, ?_⟩
    refine (seq_rt ((ifs_val (eqI 1 1 rfl v3)).trans (ret_val (ρ' := ρ) ((bin2_val T1 R).trans (addT (by have := ld a; omega)))))).trans ?_
    subst hρ
    simp [wayF]
  refine Exists.imp (fun ρ' h => (seq_nx (ρ' := ρ) ((ifs_val (eqI 1 1 rfl v3)).trans (by simp [w1']))).trans h) ?_
  by_cases w2 : w = 2
  · subst w2
    have V : revM (sliceM (mVar 1) (someP (mVar 2)) (someP (bin2 (mVar 2) (mC (.int 2)) addD))) ρ = some (.val (.dt (.tup ((l.drop a).take 2).reverse)) ρ) := by
      simp only [revM, bindD, bindM, Mi, Sl.frz, retD]
    have lr : ((l.drop a).take 2).reverse.length ≤ 100 := by rw [List.length_reverse, List.length_take]; omega
    refine ⟨(ρ.set 4 (.dt (.tup ((l.drop a).take 2).reverse))).tail, ?_⟩
    have v1' : (ρ.set 4 (.dt (.tup ((l.drop a).take 2).reverse)))[1]? = some (.dt (.tup l)) := by subst hρ; rfl
    have v2' : (ρ.set 4 (.dt (.tup ((l.drop a).take 2).reverse)))[2]? = some (.dt (.int (a : Nat))) := by subst hρ; rfl
    have v4' : (ρ.set 4 (.dt (.tup ((l.drop a).take 2).reverse)))[4]? = some (.dt (.tup ((l.drop a).take 2).reverse)) := by subst hρ; rfl
    have T' := sl_to v1' (var_val v2')
    have R2' := sl_from v1' (plus 2 2 rfl v2')
    have A1 := (bin2_val (k := addD) T' (var_val v4')).trans (addT (by omega))
    have A2 := (bin2_val (k := addD) A1 R2').trans (addT (by have := ld (a + 2); rw [List.length_append]; omega))
    refine (seq_rt ((ifs_val (eqI 2 2 rfl v3)).trans ((if_pos (by decide)).trans ((seq_nx (asg_val V (by subst hρ; simp))).trans (ret_val A2))))).trans ?_
    subst hρ
    simp [wayF]
  refine Exists.imp (fun ρ' h => (seq_nx (ρ' := ρ) ((ifs_val (eqI 2 2 rfl v3)).trans (by simp [w2]))).trans h) ?_
  by_cases w3 : w = 3
  · subst w3
    refine ⟨ρ.tail, ?_⟩
    refine (seq_rt ((ifs_val (eqI 3 3 rfl v3)).trans (ret_val (s := .ol l) (ρ' := ρ) (by simp only [mCall, bindM, one_arg (var_val v1)]; rfl)))).trans ?_
    subst hρ
    simp [wayF]
  refine Exists.imp (fun ρ' h => (seq_nx (ρ' := ρ) ((ifs_val (eqI 3 3 rfl v3)).trans (by simp [w3]))).trans h) ?_
  have big : ¬ w ≤ 3 := by omega
  rw [if_neg big, if_neg big]
  have it : l[a]? = some (l.getD a .non) := by rw [List.getD_eq_getElem?_getD, List.getElem?_eq_getElem al]; rfl
  have I : bin2 (mVar 1) (mVar 2) ixM ρ = some (.val (.dt (l.getD a .non)) ρ) := (bin2_val (var_val v1) f2).trans (by simp only [ixM, atI_nat it, optD])
  have B := F_bent_app (n := n) (p := q) (d := l.getD a .non) hk2 (hn _ (List.mem_of_getElem? it))
  have ci : callO (F_bent n) 0 (consA (bin2 (mVar 1) (mVar 2) ixM) nilA) ρ = some (.val (bentF n q (l.getD a .non)).1 (ρ.set 0 (.ol (bentF n q (l.getD a .non)).2.L))) := callO_at (by subst hρ; rfl) (one_arg I) B
  have z1 : 1 ≤ sizeLine := line_big (by decide)
  have tt : mTup (consA (callO (F_bent n) 0 (consA (bin2 (mVar 1) (mVar 2) ixM) nilA)) nilA) ρ = some (.val (.dt (.tup [sD (bentF n q (l.getD a .non)).1])) (ρ.set 0 (.ol (bentF n q (l.getD a .non)).2.L))) := by
    simp only [mTup, consA, bindM, bindD, ci, sD_frz (bent_isD n q (l.getD a .non)), nilA, shortL, List.length_singleton]
    rw [if_pos z1]; rfl
  have u1 : (ρ.set 0 (.ol (bentF n q (l.getD a .non)).2.L))[1]? = some (.dt (.tup l)) := by subst hρ; rfl
  have u2 : (ρ.set 0 (.ol (bentF n q (l.getD a .non)).2.L))[2]? = some (.dt (.int (a : Nat))) := by subst hρ; rfl
  have R1' := sl_from u1 (plus 1 1 rfl u2)
  have A1 := (bin2_st (k := addD) T rfl tt rfl).trans (addT (by simp only [List.length_singleton]; omega))
  have A2 := (bin2_st (k := addD) A1 rfl R1' rfl).trans (addT (by have := ld (a + 1); simp only [List.length_append, List.length_singleton]; omega))
  refine ⟨(ρ.set 0 (.ol (bentF n q (l.getD a .non)).2.L)).tail, (ret_val A2).trans ?_⟩
  subst hρ
  rfl
end BK

namespace BK
open PySem L2 BT BO
theorem eqM_none (ρ : Rho) : eqM (.tup []) (.tup []) ρ = some (.val (.dt (.bl true)) ρ) := by
  have o : okD (.tup []) = true := by decide
  simp only [eqM]
  rw [if_pos ⟨o, o⟩]
  rfl
theorem runB_own {m : MS} {xs ys : List D} {d : D} {s : Sl} {ρ' : Rho} (h : m [.ol xs, .dt d, .un, .un, .un] = some (.rt s (.ol ys :: ρ'))) : runB 5 2 [0] m (.ol xs :: [d].map .dt) = some (.val s (.ol ys :: [d].map .dt)) := by
  unfold runB
  simp only [List.map_cons, List.map_nil, List.length_cons, List.length_nil, List.replicate_succ, List.replicate_zero, Nat.reduceSub, Nat.reduceAdd, List.cons_append, List.nil_append]
  rw [h]
  rfl
theorem bent_odd {Fr : Fn} {p : Pz} {d : D} (h : p.ok 1) (T : orT (notT (toB (isiM "tuple" (mVar 1)))) (orT (toB (bin2 (mVar 1) (mTup (nilA)) eqM)) (toB (bin2 (callO F_law_draw 0 (consA (mC (.int 12)) (nilA))) (mC (.int 0)) eqM))) [.ol p.L, .dt d, .un, .un, .un] = some (.val true [.ol p.L, .dt d, .un, .un, .un])) :
    runB 5 2 [0] (m__law_bent Fr) (.ol p.L :: [d].map .dt) = some (.val (.dt (oddD p)) (.ol (p.n 30).L :: [d].map .dt)) := by
  refine runB_own (ρ' := [.dt d, .un, .un, .un]) ?_
  unfold m__law_bent
  have c : callO F_law_odd 0 nilA [.ol p.L, .dt d, .un, .un, .un] = some (.val (.dt (oddD p)) [.ol (p.n 30).L, .dt d, .un, .un, .un]) := callO_at (es := []) rfl rfl (F_odd_app h)
  exact seq_rt ((ifs_val T).trans (ret_val c))
theorem not_tuple {d : D} {ρ : Rho} (h : isiM "tuple" (mVar 1) ρ = some (.val (.dt (.bl false)) ρ)) (f : M Bool) : orT (notT (toB (isiM "tuple" (mVar 1)))) f ρ = some (.val true ρ) := orT_t (by simp only [notT, bindM, toB_val h]; rfl)
theorem eq_law_bent {n : Nat} {Fr : Fn} (hF : ∀ m, n = m + 1 → Fr = F_bent m) (hn : n ≤ 50) (xs ds : List D) (s : Sl) (ys : List D) (h : (match decP xs, ds with | some p, [d] => if p.ok (3 * n + 1) ∧ nice 100 n d = true then some ((bentF n p d).1, (bentF n p d).2.L) else none | _, _ => none) = some (s, ys)) :
    runB 5 2 [0] (m__law_bent Fr) (.ol xs :: ds.map .dt) = some (.val s (.ol ys :: ds.map .dt)) := by
  split at h
  rotate_left
  · cases h
  rename_i p d hp
  split at h
  rotate_left
  · cases h
  rename_i c
  cases h
  obtain ⟨c1, c2⟩ := c
  have ex := decP_eq hp
  subst ex
  have o1 : p.ok 1 := c1.le (by omega)
  have other : isiM "tuple" (mVar 1) [.ol p.L, .dt d, .un, .un, .un] = some (.val (.dt (.bl false)) [.ol p.L, .dt d, .un, .un, .un]) → bentF n p d = (.dt (oddD p), p.n 30) → runB 5 2 [0] (m__law_bent Fr) (.ol p.L :: [d].map .dt) = some (.val (bentF n p d).1 (.ol (bentF n p d).2.L :: [d].map .dt)) := fun hi e => by
    rw [e]
    exact bent_odd o1 (not_tuple (d := d) hi _)
  cases d with
  | tup l =>
    have hi : notT (toB (isiM "tuple" (mVar 1))) [.ol p.L, .dt (.tup l), .un, .un, .un] = some (.val false [.ol p.L, .dt (.tup l), .un, .un, .un]) := by simp
    have z0 : mTup nilA [Sl.ol p.L, .dt (.tup l), .un, .un, .un] = some (.val (.dt (.tup [])) [.ol p.L, .dt (.tup l), .un, .un, .un]) := by simp
    cases n with
    | zero => cases c2
    | succ n =>
      cases l with
      | nil =>
        have e : bentF (n + 1) p (.tup []) = (.dt (oddD p), p.n 30) := rfl
        rw [e]
        refine bent_odd o1 ((orT_f hi).trans (orT_t (toB_val ((bin2_val rfl z0).trans ?_))))
        exact eqM_none _
      | cons x l =>
        obtain ⟨h1, h2⟩ := nice_tup.mp c2
        have ok := nice_okD (n := n + 1) (by omega) c2
        have hk : (p.n 12).ok (3 * n + 3) := Pz.ok.next (c1.le (by omega)) 12 (by decide)
        have D1 := F_draw_app (p := p) (n := 12) o1 (by decide) (by decide)
        have c1' : callO F_law_draw 0 (consA (mC (.int 12)) nilA) [.ol p.L, .dt (.tup (x :: l)), .un, .un, .un] = some (.val (.dt (.int (p.r 12))) [.ol (p.n 12).L, .dt (.tup (x :: l)), .un, .un, .un]) := callO_at rfl (one_arg rfl) D1
        have T : orT (notT (toB (isiM "tuple" (mVar 1)))) (orT (toB (bin2 (mVar 1) (mTup (nilA)) eqM)) (toB (bin2 (callO F_law_draw 0 (consA (mC (.int 12)) (nilA))) (mC (.int 0)) eqM))) [.ol p.L, .dt (.tup (x :: l)), .un, .un, .un] = some (.val (decide (p.r 12 = 0)) [.ol (p.n 12).L, .dt (.tup (x :: l)), .un, .un, .un]) := by
          refine (orT_f hi).trans ((orT_f (toB_val ((bin2_val rfl z0).trans (eqM_unit ok _)))).trans (toB_st ((bin2_st c1' rfl rfl rfl).trans ?_)))
          rfl
        by_cases z : p.r 12 = 0
        · have e : bentF (n + 1) p (.tup (x :: l)) = (.dt (oddD (p.n 12)), (p.n 12).n 30) := if_pos z
          rw [e]
          refine runB_own (ρ' := [.dt (.tup (x :: l)), .un, .un, .un]) ?_
          unfold m__law_bent
          have c : callO F_law_odd 0 nilA [.ol (p.n 12).L, .dt (.tup (x :: l)), .un, .un, .un] = some (.val (.dt (oddD (p.n 12))) [.ol ((p.n 12).n 30).L, .dt (.tup (x :: l)), .un, .un, .un]) := callO_at (es := []) rfl rfl (F_odd_app (hk.le (by omega)))
          exact seq_rt ((ifs_val T).trans ((if_pos (decide_eq_true z)).trans (ret_val c)))
        · obtain ⟨ρ', W⟩ := bent_way (n := n) (p := p.n 12) (x := x) (xs := l) hk h1 h2 .un .un .un
          rw [hF n rfl]
          have e : bentF (n + 1) p (.tup (x :: l)) = if (((p.n 12).n ((x :: l).length)).r 8).toNat ≤ 3 then
              (wayF (((p.n 12).n ((x :: l).length)).r 8).toNat ((p.n 12).r ((x :: l).length)).toNat (x :: l), ((p.n 12).n ((x :: l).length)).n 8)
            else (.dt (.tup ((x :: l).take ((p.n 12).r ((x :: l).length)).toNat ++ [sD (bentF n (((p.n 12).n ((x :: l).length)).n 8) ((x :: l).getD ((p.n 12).r ((x :: l).length)).toNat .non)).1] ++ (x :: l).drop (((p.n 12).r ((x :: l).length)).toNat + 1))),
              (bentF n (((p.n 12).n ((x :: l).length)).n 8) ((x :: l).getD ((p.n 12).r ((x :: l).length)).toNat .non)).2) := if_neg z
          refine runB_own (ρ' := ρ') ?_
          unfold m__law_bent
          refine (seq_nx (ρ' := [.ol (p.n 12).L, .dt (.tup (x :: l)), .un, .un, .un]) ((ifs_val T).trans (by rw [if_neg (by simpa using z)]; rfl))).trans (W.trans ?_)
          rw [e]
          split <;> rfl
  | non => exact other rfl (by cases n <;> rfl)
  | bl b => exact other rfl (by cases n <;> rfl)
  | int i => exact other rfl (by cases n <;> rfl)
  | str x => exact other rfl (by cases n <;> rfl)
  | lst l => exact other rfl (by cases n <;> rfl)
  | dic k => cases n <;> cases c2
  | ins a b => cases n <;> cases c2
end BK

namespace BK
open PySem L2 BT BO
section
variable {P : Program} {w : World} {K : PySem.W.Frag} {mg : Str → Option Value} {base : Heap} {C : Addr}
/-! ### law -/
def m_law : MS := seqS (forS (rangeM1 (consA (bin2 (mC (.int 1)) (mCall minD (consA (mC (.int 4)) (consA (mCall lenD (consA (mVar 0) (nilA))) (nilA)))) addD) (nilA))) (bName 1) (seqS (asgS 6 (callF F_law_purse (consA (mVar 0) (consA (mVar 1) (nilA))))) (forS (rangeM1 (consA (mC (.int 8)) (nilA))) (bName 7) (seqS (asgS 8 (callO F_law_drawn 6 (nilA))) (seqS (forS (rangeM1 (consA (bin2 (mLst (consA (mC (.int 0)) (consA (mC (.int 1)) (consA (mC (.int 2)) (nilA))))) (callO F_law_draw 6 (consA (mC (.int 3)) (nilA))) ixM) (nilA))) (bName 9) (asgS 8 (callO (F_bent 3) 6 (consA (mVar 8) (nilA))))) (seqS (asgS 10 (mCall strD (consA (mVar 8) (nilA)))) (seqS (asgS 11 (callF F_due (consA (mVar 8) (nilA)))) (seqS (asgS 12 (mLst (consA (callF F_check_tale (consA (mVar 8) (nilA))) (consA (callF F_check_tale (consA (mVar 8) (nilA))) (nilA))))) (ifS (orT (toB (bin2 (mVar 12) (mLst (consA (mVar 11) (consA (mVar 11) (nilA)))) neM)) (toB (bin2 (mCall strD (consA (mVar 8) (nilA))) (mVar 10) neM))) (retS (mC (.bl false))) (nxS)))))))))) (seqS (asgS 2 (mLst (nilA))) (seqS (forS (seqD (mC (.str "abcdef"))) (bName 3) (asgS 2 (bin2 (mVar 2) (mComp (seqD (mC (.str "abcdefghij"))) [13] (bName 13) (yesT) (bin2 (mVar 3) (mVar 13) addD)) addD))) (seqS (asgS 4 (bin2 (mTup (consA (mTup (consA (mC (.str "at")) (consA (bin2 (mVar 2) (mC (.int 0)) ixM) (nilA)))) (nilA))) (mCall tupleD (consA (mComp (seqD (sliceM (mVar 2) (someP (mC (.int 1))) (noP))) [14] (bName 14) (yesT) (mTup (consA (mC (.str "then")) (consA (mVar 14) (nilA))))) (nilA))) addD)) (seqS (ifS (orT (toB (bin2 (callF F_check_tale (consA (mVar 4) (nilA))) (mC .non) (isNM true))) (toB (bin2 (callF F_check_tale (consA (bin2 (mVar 4) (mTup (consA (mTup (consA (mC (.str "then")) (consA (bin2 (mVar 2) (mC (.int 0)) ixM) (nilA)))) (nilA))) addD) (nilA))) (mTup (consA (mC (.str "cycle")) (consA (mC (.int 60)) (nilA)))) neM))) (retS (mC (.bl false))) (nxS)) (seqS (asgS 5 (bin2 (mTup (consA (mTup (consA (mC (.str "at")) (consA (mC (.str "a")) (nilA)))) (consA (mTup (consA (mC (.str "then")) (consA (mC (.str "b")) (nilA)))) (nilA)))) (mC (.int 99)) repD)) (seqS (ifS (toB (bin2 (callF F_check_tale (consA (bin2 (mVar 5) (mTup (consA (mTup (consA (mC (.str "at")) (consA (mC (.str "a")) (nilA)))) (consA (mTup (consA (mC (.str "then")) (consA (mC (.str "b")) (nilA)))) (nilA)))) addD) (nilA))) (mC .non) (isNM true))) (retS (mC (.bl false))) (nxS)) (seqS (ifS (toB (bin2 (callF F_check_tale (consA (bin2 (mVar 5) (mTup (consA (mTup (consA (mC (.str "at")) (consA (mC (.str "b")) (nilA)))) (consA (mTup (consA (mC (.str "then")) (consA (mC (.str "a")) (nilA)))) (nilA)))) addD) (nilA))) (mTup (consA (mC (.str "cycle")) (consA (mC (.int 199)) (nilA)))) neM)) (retS (mC (.bl false))) (nxS)) (retS (andV (bin2 (callF F_check_tale (consA (mTup (nilA)) (nilA))) (mC .non) (isNM false)) (bin2 (callF F_check_tale (consA (mTup (consA (mTup (consA (mC (.str "then")) (consA (mC (.str "a")) (nilA)))) (nilA))) (nilA))) (mTup (consA (mC (.str "sentence")) (consA (mC (.int 0)) (nilA)))) eqM))))))))))
theorem sc_law : FnScope ["script", "at", "names", "one", "line", "long", "purse", "turn", "value", "bend", "held", "due", "told", "other", "name"] ["script"] (defScope (top 33)) := ⟨rfl, rfl, rfl, by decide +kernel, rfl, by decide +kernel, by decide +kernel⟩
theorem ps_law (T : Tx K mg C) {f__law_purse : Addr} {fd__law_purse : FuncData} (G__law_purse : FnOk P w K mg base CX0 2 f__law_purse fd__law_purse ["script", "at"] (fun vs H Q _ => SpF K (F_law_purse) vs H Q E00)) (b__law_purse : Binds K fd__law_purse ["script", "at"] []) {f_check_tale : Addr} {fd_check_tale : FuncData} (G_check_tale : FnOk P w K mg base CX0 4 f_check_tale fd_check_tale ["thing"] (fun vs H Q _ => SpF K (F_check_tale) vs H Q E00)) (b_check_tale : Binds K fd_check_tale ["thing"] []) {f__law_drawn : Addr} {fd__law_drawn : FuncData} (G__law_drawn : FnOk P w K mg base CX0 3 f__law_drawn fd__law_drawn ["purse"] (fun vs H Q _ => SpF K (F_law_drawn) vs H Q E00)) (b__law_drawn : Binds K fd__law_drawn ["purse"] []) {f__law_due : Addr} {fd__law_due : FuncData} (G__law_due : FnOk P w K mg base CX0 5 f__law_due fd__law_due ["value"] (fun vs H Q _ => SpF K (F_due) vs H Q E00)) (b__law_due : Binds K fd__law_due ["value"] []) {f__law_bent : Addr} {fd__law_bent : FuncData} (G__law_bent : FnOk P w K mg base CX0 8 f__law_bent fd__law_bent ["purse", "value"] (fun vs H Q _ => SpF K ((F_bent 3)) vs H Q E00)) (b__law_bent : Binds K fd__law_bent ["purse", "value"] []) {f__law_draw : Addr} {fd__law_draw : FuncData} (G__law_draw : FnOk P w K mg base CX0 2 f__law_draw fd__law_draw ["purse", "out_of"] (fun vs H Q _ => SpF K (F_law_draw) vs H Q E00)) (b__law_draw : Binds K fd__law_draw ["purse", "out_of"] []) (g__law_purse : mg "_law_purse" = some (.ref f__law_purse)) (k__law_purse : PySem.W.keepIn K (.ref f__law_purse) = true) (g_check_tale : mg "check_tale" = some (.ref f_check_tale)) (k_check_tale : PySem.W.keepIn K (.ref f_check_tale) = true) (g__law_drawn : mg "_law_drawn" = some (.ref f__law_drawn)) (k__law_drawn : PySem.W.keepIn K (.ref f__law_drawn) = true) (g__law_due : mg "_law_due" = some (.ref f__law_due)) (k__law_due : PySem.W.keepIn K (.ref f__law_due) = true) (g__law_bent : mg "_law_bent" = some (.ref f__law_bent)) (k__law_bent : PySem.W.keepIn K (.ref f__law_bent) = true) (g__law_draw : mg "_law_draw" = some (.ref f__law_draw)) (k__law_draw : PySem.W.keepIn K (.ref f__law_draw) = true)
    (kb_check_tale : ∀ (s : Shared) (ws : List Value), K.In s.heap → ws.length = 1 → BindsTo s fd_check_tale ⟨[], (["thing"] : List Str).zip ws⟩ ((["thing"] : List Str).zip ws))
    (room : Room 9 callerA) (f : Addr) (cdv : Value) (s : Shared) (H : Hp) :
    PSs (cxOf CX0 P w K mg base ["script", "at", "names", "one", "line", "long", "purse", "turn", "value", "bend", "held", "due", "told", "other", "name"] "law" (defScope (top 33)) f cdv callerA [] s H fun _ _ _ => False).nox (defBody (top 33)) (tS K [] E00 m_law) := by
  have sc := sc_law
  have hr : Room 8 (callerA.deeper (PyProof.Rows.envOfC "law" (defScope (top 33)) s.heap.objs.size f cdv)) := room.deeper _
  have hu64 := hr.units
  have hu65 := room65 hr
  have hu1 := hu_of hr
  have hu80 : (callerA.deeper (PyProof.Rows.envOfC "law" (defScope (top 33)) s.heap.objs.size f cdv)).units + 80 < cLine := by have := hr.un; omega
  have hgd : (callerA.deeper (PyProof.Rows.envOfC "law" (defScope (top 33)) s.heap.objs.size f cdv)).guards = some [] := rfl
  have hpn : ∀ q ∈ ([] : List (Nat × Addr)), q.1 ∈ ([] : List Nat) := fun q hq => nomatch hq
  exact psx_cons (psx_for PassesOwn.never rfl (pix_range1 T.n_range (pax_cons (px_op op_adds od_add (px_int) (px_callB (call_min2 rfl) cd_min (by rfl) T.n_min (by decide +kernel) (pax_cons (px_int) (pax_cons (px_callB call_lens cd_len (by rfl) T.n_len PySem.boot_len (pax_cons (px_var (pv 0)) (pax_nil))) (pax_nil))))) (pax_nil))) (pg_name (i := 1) sc.nd rfl (by first | exact Or.inl rfl | exact Or.inr rfl)) (gb_name (np hpn (by decide))) (psx_cons (psx_set (i := 6) (np hpn (by decide)) sc.nd rfl (by first | exact Or.inl rfl | exact Or.inr rfl) (px_call G__law_purse (hr.mono (by decide)) g__law_purse k__law_purse b__law_purse (pax_cons (px_var (pv 0)) (pax_cons (px_var (pv 1)) (pax_nil))))) (psx_one (psx_for PassesOwn.never rfl (pix_range1 T.n_range (pax_cons (px_int) (pax_nil))) (pg_name (i := 7) sc.nd rfl (by first | exact Or.inl rfl | exact Or.inr rfl)) (gb_name (np hpn (by decide))) (psx_cons (psx_set (i := 8) (np hpn (by decide)) sc.nd rfl (by first | exact Or.inl rfl | exact Or.inr rfl) (px_callO G__law_drawn (hr.mono (by decide)) g__law_drawn k__law_drawn b__law_drawn (pv 6) (pax_nil))) (psx_cons (psx_for PassesOwn.never rfl (pix_range1 T.n_range (pax_cons (px_ix ix_seq od_ix (px_lst (pax_cons (px_int) (pax_cons (px_int) (pax_cons (px_int) (pax_nil))))) (px_callO G__law_draw (hr.mono (by decide)) g__law_draw k__law_draw b__law_draw (pv 6) (pax_cons (px_int) (pax_nil))) (fun _ _ => rfl)) (pax_nil))) (pg_name (i := 9) sc.nd rfl (by first | exact Or.inl rfl | exact Or.inr rfl)) (gb_name (np hpn (by decide))) (psx_one (psx_set (i := 8) (np hpn (by decide)) sc.nd rfl (by first | exact Or.inl rfl | exact Or.inr rfl) (px_callO G__law_bent (hr.mono (by decide)) g__law_bent k__law_bent b__law_bent (pv 6) (pax_cons (px_var (pv 8)) (pax_nil)))))) (psx_cons (psx_set (i := 10) (np hpn (by decide)) sc.nd rfl (by first | exact Or.inl rfl | exact Or.inr rfl) (px_callTy (call_strD hgd hu80) cd_str (by rfl) T.n_str (by decide +kernel) (pax_cons (px_var (pv 8)) (pax_nil)))) (psx_cons (psx_set (i := 11) (np hpn (by decide)) sc.nd rfl (by first | exact Or.inl rfl | exact Or.inr rfl) (px_call G__law_due (hr.mono (by decide)) g__law_due k__law_due b__law_due (pax_cons (px_var (pv 8)) (pax_nil)))) (psx_cons (psx_set (i := 12) (np hpn (by decide)) sc.nd rfl (by first | exact Or.inl rfl | exact Or.inr rfl) (px_lst (pax_cons (px_call G_check_tale (hr.mono (by decide)) g_check_tale k_check_tale b_check_tale (pax_cons (px_var (pv 8)) (pax_nil))) (pax_cons (px_callK0 G_check_tale (hr.mono (by decide)) g_check_tale k_check_tale kb_check_tale (pkx_cons (px_var (pv 8)) (pkx_nil))) (pax_nil))))) (psx_one (psx_if ((pwx_or (pt_c (op_nes hu64) od_ne (px_var (pv 12)) (px_lst (pax_cons (px_var (pv 11)) (pax_cons (px_var (pv 11)) (pax_nil)))) (nomark _)) (pw_or1 (pt_c (op_nes hu64) od_ne (px_callTy (call_strD hgd hu80) cd_str (by rfl) T.n_str (by decide +kernel) (pax_cons (px_var (pv 8)) (pax_nil))) (px_var (pv 10)) (nomark _)))).pt) (psx_one (psx_ret (px_bl))) (psx_nil)))))))))))) (psx_cons (psx_set (i := 2) (np hpn (by decide)) sc.nd rfl (by first | exact Or.inl rfl | exact Or.inr rfl) (px_lst (pax_nil))) (psx_cons (psx_for PassesOwn.never rfl (pix_seq (px_str)) (pg_name (i := 3) sc.nd rfl (by first | exact Or.inl rfl | exact Or.inr rfl)) (gb_name (np hpn (by decide))) (psx_one (psx_set (i := 2) (np hpn (by decide)) sc.nd rfl (by first | exact Or.inl rfl | exact Or.inr rfl) (px_op op_adds od_add (px_var (pv 2)) (px_lc (own := [("other", 13)]) rfl sc.nd (pix_seq (px_str)) (blkOk_by (own := [("other", 13)]) (N := ["script", "at", "names", "one", "line", "long", "purse", "turn", "value", "bend", "held", "due", "told", "other", "name"]) (sc := defScope (top 33)) (by decide +kernel)) (gb_name (np hpn (by decide))) (by decide) (npL hpn (by decide)) (fun _ _ _ _ _ => pg_name (i := 13) sc.nd rfl (by first | exact Or.inl rfl | exact Or.inr rfl)) (fun _ _ _ _ _ => ptsx_nil) (fun _ _ _ _ _ => px_op op_adds od_add (px_var (pv 3)) (px_var (pv 13)))))))) (psx_cons (psx_set (i := 4) (np hpn (by decide)) sc.nd rfl (by first | exact Or.inl rfl | exact Or.inr rfl) (px_op op_adds od_add (px_tup (pax_cons (px_tup (pax_cons (px_str) (pax_cons (px_ix ix_seq od_ix (px_var (pv 2)) (px_int) (fun _ _ => rfl)) (pax_nil)))) (pax_nil))) (px_callTy call_tuple_of cd_tuple (by rfl) T.n_tuple (by decide +kernel) (pax_cons (px_lc (own := [("name", 14)]) rfl sc.nd (pix_seq (px_slice (px_var (pv 2)) (pox_some (px_int)) (pox_none))) (blkOk_by (own := [("name", 14)]) (N := ["script", "at", "names", "one", "line", "long", "purse", "turn", "value", "bend", "held", "due", "told", "other", "name"]) (sc := defScope (top 33)) (by decide +kernel)) (gb_name (np hpn (by decide))) (by decide) (npL hpn (by decide)) (fun _ _ _ _ _ => pg_name (i := 14) sc.nd rfl (by first | exact Or.inl rfl | exact Or.inr rfl)) (fun _ _ _ _ _ => ptsx_nil) (fun _ _ _ _ _ => px_tup (pax_cons (px_str) (pax_cons (px_var (pv 14)) (pax_nil))))) (pax_nil))))) (psx_cons (psx_if ((pwx_or (pt_c op_notN od_notN (px_call G_check_tale (hr.mono (by decide)) g_check_tale k_check_tale b_check_tale (pax_cons (px_var (pv 4)) (pax_nil))) (px_non) (nomark _)) (pw_or1 (pt_c (op_nes hu64) od_ne (px_call G_check_tale (hr.mono (by decide)) g_check_tale k_check_tale b_check_tale (pax_cons (px_op op_adds od_add (px_var (pv 4)) (px_tup (pax_cons (px_tup (pax_cons (px_str) (pax_cons (px_ix ix_seq od_ix (px_var (pv 2)) (px_int) (fun _ _ => rfl)) (pax_nil)))) (pax_nil)))) (pax_nil))) (px_tup (pax_cons (px_str) (pax_cons (px_int) (pax_nil)))) (nomark _)))).pt) (psx_one (psx_ret (px_bl))) (psx_nil)) (psx_cons (psx_set (i := 5) (np hpn (by decide)) sc.nd rfl (by first | exact Or.inl rfl | exact Or.inr rfl) (px_op op_repT od_rep (px_tup (pax_cons (px_tup (pax_cons (px_str) (pax_cons (px_str) (pax_nil)))) (pax_cons (px_tup (pax_cons (px_str) (pax_cons (px_str) (pax_nil)))) (pax_nil)))) (px_int))) (psx_cons (psx_if (pt_c op_notN od_notN (px_call G_check_tale (hr.mono (by decide)) g_check_tale k_check_tale b_check_tale (pax_cons (px_op op_adds od_add (px_var (pv 5)) (px_tup (pax_cons (px_tup (pax_cons (px_str) (pax_cons (px_str) (pax_nil)))) (pax_cons (px_tup (pax_cons (px_str) (pax_cons (px_str) (pax_nil)))) (pax_nil))))) (pax_nil))) (px_non) (nomark _)) (psx_one (psx_ret (px_bl))) (psx_nil)) (psx_cons (psx_if (pt_c (op_nes hu64) od_ne (px_call G_check_tale (hr.mono (by decide)) g_check_tale k_check_tale b_check_tale (pax_cons (px_op op_adds od_add (px_var (pv 5)) (px_tup (pax_cons (px_tup (pax_cons (px_str) (pax_cons (px_str) (pax_nil)))) (pax_cons (px_tup (pax_cons (px_str) (pax_cons (px_str) (pax_nil)))) (pax_nil))))) (pax_nil))) (px_tup (pax_cons (px_str) (pax_cons (px_int) (pax_nil)))) (nomark _)) (psx_one (psx_ret (px_bl))) (psx_nil)) (psx_one (psx_ret (px_and (px_cmp op_isN od_isN (px_call G_check_tale (hr.mono (by decide)) g_check_tale k_check_tale b_check_tale (pax_cons (px_tup (pax_nil)) (pax_nil))) (px_non) (nomark _)) (pe_one (px_cmp (op_eqs hu64) od_eq (px_call G_check_tale (hr.mono (by decide)) g_check_tale k_check_tale b_check_tale (pax_cons (px_tup (pax_cons (px_tup (pax_cons (px_str) (pax_cons (px_str) (pax_nil)))) (pax_nil))) (pax_nil))) (px_tup (pax_cons (px_str) (pax_cons (px_int) (pax_nil)))) (nomark _)))))))))))))
end
end BK

namespace BK
open PySem L2 BT BO
theorem nice_le {L L' : Nat} (hL : L ≤ L') : ∀ {m n : Nat} {d : D}, m ≤ n → nice L m d = true → nice L' n d = true
  | m, 0, d, hm, h => by
    have : m = 0 := by omega
    subst this
    exact h
  | m, n + 1, d, hm, h => by
    by_cases c : m = n + 1
    · subst c
      cases d with
      | tup xs =>
        obtain ⟨h1, h2⟩ := nice_tup.mp h
        exact nice_tup.mpr ⟨by omega, fun x hx => nice_le hL (Nat.le_refl n) (h2 x hx)⟩
      | lst xs =>
        obtain ⟨h1, h2⟩ := nice_lst.mp h
        exact nice_lst.mpr ⟨by omega, fun x hx => nice_le hL (Nat.le_refl n) (h2 x hx)⟩
      | dic _ => cases h
      | ins _ _ => cases h
      | _ => exact h
    · exact nice_up (Nat.le_refl _) n (nice_le hL (by omega) h)
theorem bent_nice2 {L : Nat} (hL : 3 ≤ L) : ∀ (n m : Nat) (p : Pz) (d : D), m ≤ n → nice L m d = true → nice (L + 1) (m + 1) (sD (bentF n p d).1) = true
  | 0, m, p, d, _, _ => nice_ups (odd_nice p) (by omega) m
  | n + 1, 0, p, d, _, h => by
    have e : bentF (n + 1) p d = (.dt (oddD p), p.n 30) := by
      cases d with
      | tup xs => cases h
      | _ => rfl
    rw [e]
    exact nice_ups (odd_nice p) (by omega) 0
  | n + 1, m + 1, p, d, hm, h => by
    have odd := fun q : Pz => nice_ups (odd_nice q) (L' := L + 1) (by omega) (m + 1)
    unfold bentF
    split
    · rename_i x xs
      obtain ⟨h1, h2⟩ := nice_tup.mp h
      have up : ∀ y ∈ x :: xs, nice (L + 1) (m + 1) y = true := fun y hy => nice_up (by omega) m (h2 y hy)
      split
      · exact odd _
      · split
        · show nice (L + 1) (m + 1 + 1) (sD (wayF _ _ _)) = true
          unfold wayF
          split
          · refine nice_tup.mpr ⟨by simp only [List.length_append, List.length_take, List.length_drop]; omega, fun y hy => ?_⟩
            rcases List.mem_append.mp hy with m | m
            · exact up y (List.mem_of_mem_take m)
            · exact up y (List.mem_of_mem_drop m)
          · split
            · refine nice_tup.mpr ⟨by simp only [List.length_append, List.length_take, List.length_drop]; omega, fun y hy => ?_⟩
              rcases List.mem_append.mp hy with m | m
              · exact up y (List.mem_of_mem_take m)
              · exact up y (List.mem_of_mem_drop m)
            · split
              · refine nice_tup.mpr ⟨by simp only [List.length_append, List.length_take, List.length_drop, List.length_reverse]; omega, fun y hy => ?_⟩
                rcases List.mem_append.mp hy with m | m
                · rcases List.mem_append.mp m with m | m
                  · exact up y (List.mem_of_mem_take m)
                  · exact up y (List.mem_of_mem_drop (List.mem_of_mem_take (List.mem_reverse.mp m)))
                · exact up y (List.mem_of_mem_drop m)
              · exact nice_lst.mpr ⟨by omega, up⟩
        · refine nice_tup.mpr ⟨by simp only [List.length_append, List.length_take, List.length_drop, List.length_singleton]; omega, fun y hy => ?_⟩
          rcases List.mem_append.mp hy with mm | mm
          · rcases List.mem_append.mp mm with mm | mm
            · exact up y (List.mem_of_mem_take mm)
            · rw [List.mem_singleton.mp mm]
              refine bent_nice2 hL n m _ _ (by omega) ?_
              rw [List.getD_eq_getElem?_getD]
              cases e : (x :: xs)[((p.n 12).r ((x :: xs).length)).toNat]? with
              | none =>
                show nice L m .non = true
                cases m <;> rfl
              | some z => exact h2 z (List.mem_of_getElem? e)
          · exact up y (List.mem_of_mem_drop mm)
    · exact odd _
theorem nice_str {L n : Nat} {x : Str} (h : nice L n (.str x) = true) : niceS x = true := by cases n <;> exact h
theorem nice_shortS {L n : Nat} {d : D} (h : nice L n d = true) : shortS d = true := by
  cases d with
  | str x =>
    have := nice_str h
    simp only [niceS, Bool.and_eq_true, decide_eq_true_eq] at this
    simp only [shortS, decide_eq_true_eq]; omega
  | ins _ _ => cases n <;> cases h
  | _ => rfl
theorem nice_shortP {L n : Nat} (hL : L ≤ 1000) {d : D} (h : nice L n d = true) : shortP d = true := by
  cases d with
  | tup xs =>
    cases n with
    | zero => cases h
    | succ n =>
      obtain ⟨h1, h2⟩ := nice_tup.mp h
      simp only [shortP, Bool.and_eq_true, decide_eq_true_eq, List.all_eq_true]
      exact ⟨by omega, fun x hx => nice_shortS (h2 x hx)⟩
  | lst xs =>
    cases n with
    | zero => cases h
    | succ n =>
      obtain ⟨h1, h2⟩ := nice_lst.mp h
      simp only [shortP, Bool.and_eq_true, decide_eq_true_eq, List.all_eq_true]
      exact ⟨by omega, fun x hx => nice_shortS (h2 x hx)⟩
  | _ => exact nice_shortS h
theorem nice_shortO {L n : Nat} {d : D} (h : nice L n d = true) : shortO d = true := by
  unfold shortO
  rw [nice_shortS h, Bool.true_and]
  cases d with
  | str x => exact niceS_wide (nice_str h)
  | _ => rfl
theorem nice_shortQ {L n : Nat} (hL : L ≤ 1000) {d : D} (h : nice L n d = true) : shortQ d = true := by
  unfold shortQ
  rw [nice_shortP hL h, Bool.true_and]
  cases d with
  | tup xs =>
    cases n with
    | zero => cases h
    | succ n =>
      obtain ⟨h1, h2⟩ := nice_tup.mp h
      exact List.all_eq_true.mpr fun x hx => nice_shortO (h2 x hx)
  | _ => exact nice_shortO h
theorem decL_len : ∀ {xs : List D} {t : Tale}, decL xs = some t → t.length = xs.length := fun {xs t} h => by
  rw [decL_eq h, List.length_map]
theorem cnt_le (t : Tale) : cntM t ≤ t.length := by
  unfold cntM
  have := BS.len_of_sub (BS.sd_up (t.map (·.2))).nodup (m := t.map (·.2)) fun x hx => BS.mem_sd.mp hx
  rwa [List.length_map] at this
theorem nice_okC {d : D} (h : nice 16 4 d = true) : okC d = true ∧ okQ d = true := by
  cases d with
  | tup xs =>
    obtain ⟨h1, h2⟩ := nice_tup.mp h
    refine ⟨?_, List.all_eq_true.mpr fun x hx => nice_shortQ (by omega) (h2 x hx)⟩
    have a : xs.all shortP = true := List.all_eq_true.mpr fun x hx => nice_shortP (by omega) (h2 x hx)
    simp only [okC, a, Bool.and_true, Bool.and_eq_true, decide_eq_true_eq]
    refine ⟨by omega, ?_⟩
    cases e : decL xs with
    | none => rfl
    | some t =>
      have := cnt_le t
      have := decL_len e
      exact decide_eq_true (by omega)
  | ins _ _ => cases h
  | _ => exact ⟨rfl, rfl⟩
/-- the law's words -/
inductive IsDue : D → Prop
  | non : IsDue .non
  | form : IsDue (.tup [.str "form"])
  | sent (k : Nat) : IsDue (.tup [.str "sentence", .int (k : Nat)])
  | cyc (k : Nat) : IsDue (.tup [.str "cycle", .int (k : Nat)])
theorem due_is (d : D) : IsDue (dueV d) := by
  unfold dueV
  split
  · split
    · exact .sent _
    · split
      · cases dueK _ 0 _ with
        | none => exact .non
        | some k => exact .cyc k
      · exact .non
  · exact .form
theorem due_eq {x : D} (h : IsDue x) (ρ : Rho) : neM (.lst [x, x]) (.lst [x, x]) ρ = some (.val (.dt (.bl false)) ρ) := by
  have k1 : okD (.lst [x, x]) = true := by
    cases h with
    | non => decide
    | form => decide +kernel
    | sent k => simp [okD, SeqAt.shaped, toPy, toPyL, PyData.canLay0, PyData.canLayAll0, PyData.depth, PyData.depthAll, PyData.strOk]; decide +kernel
    | cyc k => simp [okD, SeqAt.shaped, toPy, toPyL, PyData.canLay0, PyData.canLayAll0, PyData.depth, PyData.depthAll, PyData.strOk]; decide +kernel
  have k2 : eqD (.lst [x, x]) (.lst [x, x]) = true := SeqAt.eqv_refl _ (SeqAt.canLay_of_shaped k1)
  simp only [neM]
  rw [if_pos ⟨k1, k1⟩, k2]
  rfl
end BK

namespace BK
open PySem L2 BT BO
def RL (S a P t v b h du to : Sl) : Rho := [S, a, .un, .un, .un, .un, P, t, v, b, h, du, to, .un, .un]
theorem callO_st {F : Fn} {j : Nat} {fs : M (List D)} {xs ys zs es : List D} {s : Sl} {r ρ ρ' : Rho} (h0 : ρ[j]? = some (.ol zs)) (h1 : fs ρ = some (.val es ρ')) (h3 : ρ'[j]? = some (.ol xs)) (h2 : F (.ol xs :: es.map .dt) = some (.val s (.ol ys :: r))) : callO F j fs ρ = some (.val s (ρ'.set j (.ol ys))) := by
  simp only [callO, h0, bindM, h1, h3, h2]
theorem var_any {i : Nat} {s : Sl} {ρ : Rho} (h : ρ[i]? = some s) (hs : isD s = true) : mVar i ρ = some (.val (.dt (sD s)) (ρ.set i (.dt (sD s)))) := by
  cases s with
  | un => cases hs
  | dt d =>
    simp only [mVar, h, sD]
    rw [show ρ.set i (.dt d) = ρ from by
      have := (List.getElem?_eq_some_iff.mp h).2
      conv => rhs; rw [← List.set_getElem_self (List.getElem?_eq_some_iff.mp h).1]
      rw [this]]
  | ol l => simp only [mVar, h, sD]
theorem one_st {f : M Sl} {s : Sl} {d : D} {ρ ρ' : Rho} (h : f ρ = some (.val s ρ')) (z : s.frz = some d) : consA f nilA ρ = some (.val [d] ρ') := by simp only [consA, bindD, bindM, h, z, nilA]
section
variable {S a t : Sl}
theorem drawn_nice (p : Pz) : nice 14 2 (.tup ((drawnT p).map encS)) = true := by
  have w : ∀ (l : List Str) (i : Int), (∀ x ∈ l, niceS x = true) → niceS (pick l i) = true := fun l i h => by
    unfold pick
    rw [List.getD_eq_getElem?_getD]
    cases e : l[i.toNat]? with
    | none => decide
    | some x => exact h x (List.mem_of_getElem? e)
  have hn : ∀ x ∈ nmsOf p, niceS x = true := fun x hx => by
    have all : ∀ x ∈ nms, niceS x = true := by decide +kernel
    exact all x (List.mem_of_mem_take hx)
  have hw : ∀ x ∈ wds, niceS x = true := by decide +kernel
  have hd : ∀ (k : Nat) (q : Pz), ∀ x ∈ (drawS (nmsOf p) k q).1, niceS x.1 = true ∧ niceS x.2 = true := by
    intro k
    induction k with
    | zero => intro q x hx; cases hx
    | succ k ih =>
      intro q x hx
      simp only [drawS, List.mem_cons] at hx
      rcases hx with rfl | hx
      · exact ⟨w _ _ hw, w _ _ hn⟩
      · exact ih _ x hx
  have each : ∀ x ∈ drawnT p, niceS x.1 = true ∧ niceS x.2 = true := fun x hx => by
    unfold drawnT at hx
    rcases List.mem_cons.mp hx with rfl | hx
    · exact ⟨(by decide : niceS ("at" : Str) = true), w _ _ hn⟩
    · exact hd _ _ x hx
  refine nice_tup.mpr ⟨?_, fun y hy => ?_⟩
  · obtain ⟨_, q1⟩ := Pz.r_lt (p.n 7) (n := 14) (by decide)
    rw [List.length_map]
    unfold drawnT
    rw [List.length_cons, drawS_len]
    omega
  · obtain ⟨x, hx, rfl⟩ := List.mem_map.mp hy
    obtain ⟨h1, h2⟩ := each x hx
    refine nice_tup.mpr ⟨by simp, fun z hz => ?_⟩
    simp only [List.mem_cons, List.not_mem_nil, or_false] at hz
    rcases hz with rfl | rfl
    · exact h1
    · exact h2
theorem drawn_ok {p : Pz} {j : Nat} (h : p.ok (30 + j)) : (drawnP p).ok j := by
  have h1 : (p.n 7).ok (29 + j) := Pz.ok.next (h.le (by omega)) 7 (by decide)
  have h2 : ((p.n 7).n 14).ok (28 + j) := Pz.ok.next (h1.le (by omega)) 14 (by decide)
  obtain ⟨r0, r1⟩ := Pz.r_lt p (n := 7) (by decide)
  obtain ⟨_, q1⟩ := Pz.r_lt (p.n 7) (n := 14) (by decide)
  have hn : 0 < (nmsOf p).length := by
    unfold nmsOf
    rw [List.length_take]
    have : nms.length = 7 := rfl
    omega
  exact drawS_ok hn _ _ j (h2.le (by omega))
theorem loopS_nx {b : D → Rho → Option Rho} {body : MS} {d : D} {ds : List D} {ρ ρ1 ρ2 : Rho} (h1 : b d ρ = some ρ1) (h2 : body ρ1 = some (.nx ρ2)) : loopS b body (d :: ds) ρ = loopS b body ds ρ2 := by simp only [loopS, h1, h2]
def bodyB : MS := asgS 8 (callO (F_bent 3) 6 (consA (mVar 8) (nilA)))
theorem body_b {p : Pz} {v b h du to : Sl} {L m j : Nat} (hp : p.ok (10 + j)) (hv : isD v = true) (hL : 3 ≤ L) (hL2 : L ≤ 90) (hm : m ≤ 3) (hn : nice L m (sD v) = true) :
    ∃ (q : Pz) (v' : Sl), bodyB (RL S a (.ol p.L) t v b h du to) = some (.nx (RL S a (.ol q.L) t v' b h du to)) ∧ q.ok j ∧ isD v' = true ∧ nice (L + 1) (m + 1) (sD v') = true := by
  refine ⟨(bentF 3 p (sD v)).2, (bentF 3 p (sD v)).1, ?_, bent_ok 3 p (sD v) j hp, bent_isD 3 p (sD v), bent_nice2 hL 3 m p (sD v) hm hn⟩
  have B := F_bent_app (n := 3) (p := p) (d := sD v) (hp.le (by omega)) (nice_le (by omega) hm hn)
  have c : callO (F_bent 3) 6 (consA (mVar 8) nilA) (RL S a (.ol p.L) t v b h du to) = some (.val (bentF 3 p (sD v)).1 (RL S a (.ol (bentF 3 p (sD v)).2.L) t (.dt (sD v)) b h du to)) :=
    callO_st (ρ' := RL S a (.ol p.L) t (.dt (sD v)) b h du to) rfl (one_st (var_any (i := 8) rfl hv) rfl) rfl B
  exact asg_val c (by simp [RL])
theorem loop_b : ∀ (ds : List D) {p : Pz} {v b h du to : Sl} {L m j : Nat}, p.ok (10 * ds.length + j) → isD v = true → 3 ≤ L → L + ds.length ≤ 90 → m + ds.length ≤ 4 → nice L m (sD v) = true →
    ∃ (q : Pz) (v' b' : Sl), loopS (bName 9) bodyB ds (RL S a (.ol p.L) t v b h du to) = some (.nx (RL S a (.ol q.L) t v' b' h du to)) ∧ q.ok j ∧ isD v' = true ∧ nice (L + ds.length) (m + ds.length) (sD v') = true
  | [], p, v, b, h, du, to, L, m, j, hp, hv, hL, hL2, hm, hn => ⟨p, v, b, rfl, hp.le (by omega), hv, hn⟩
  | d :: ds, p, v, b, h, du, to, L, m, j, hp, hv, hL, hL2, hm, hn => by
    simp only [List.length_cons] at hp hL2 hm
    obtain ⟨q, v', e, q1, q2, q3⟩ := body_b (S := S) (a := a) (t := t) (b := .dt d) (h := h) (du := du) (to := to) (j := 10 * ds.length + j) (hp.le (by omega)) hv hL (by omega) (by omega) hn
    obtain ⟨r, v2, b2, e2, r1, r2, r3⟩ := loop_b ds (b := .dt d) (h := h) (du := du) (to := to) (L := L + 1) (m := m + 1) (j := j) q1 q2 (by omega) (by omega) (by omega) q3
    refine ⟨r, v2, b2, ?_, r1, r2, by simpa [Nat.add_assoc, Nat.add_comm 1] using r3⟩
    exact (loopS_nx (ρ1 := RL S a (.ol p.L) t v (.dt d) h du to) (by simp [bName, RL]) e).trans e2
abbrev bodyT : MS := seqS (asgS 8 (callO F_law_drawn 6 (nilA))) (seqS (forS (rangeM1 (consA (bin2 (mLst (consA (mC (.int 0)) (consA (mC (.int 1)) (consA (mC (.int 2)) (nilA))))) (callO F_law_draw 6 (consA (mC (.int 3)) (nilA))) ixM) (nilA))) (bName 9) (asgS 8 (callO (F_bent 3) 6 (consA (mVar 8) (nilA))))) (seqS (asgS 10 (mCall strD (consA (mVar 8) (nilA)))) (seqS (asgS 11 (callF F_due (consA (mVar 8) (nilA)))) (seqS (asgS 12 (mLst (consA (callF F_check_tale (consA (mVar 8) (nilA))) (consA (callF F_check_tale (consA (mVar 8) (nilA))) (nilA))))) (ifS (orT (toB (bin2 (mVar 12) (mLst (consA (mVar 11) (consA (mVar 11) (nilA)))) neM)) (toB (bin2 (mCall strD (consA (mVar 8) (nilA))) (mVar 10) neM))) (retS (mC (.bl false))) (nxS))))))
theorem F_drawn_app {p : Pz} (h : p.ok 30) : F_law_drawn [.ol p.L] = some (.val (.dt (.tup ((drawnT p).map encS))) [.ol (drawnP p).L]) := by
  simp [F_law_drawn, ownF, dts, decP, Pz.L, h]
theorem callF_val {F : Fn} {fs : M (List D)} {ds : List D} {s : Sl} {r ρ ρ' : Rho} (h1 : fs ρ = some (.val ds ρ')) (h2 : F (ds.map .dt) = some (.val s r)) : callF F fs ρ = some (.val s ρ') := by
  simp only [callF, bindM, h1, h2]
/-- what a thing's reading gives, to its end -/
theorem turn_end {p : Pz} {d : D} (hd : nice 16 4 d = true) (b h du to : Sl) :
    ∃ h' du' to', seqS (asgS 10 (mCall strD (consA (mVar 8) (nilA)))) (seqS (asgS 11 (callF F_due (consA (mVar 8) (nilA)))) (seqS (asgS 12 (mLst (consA (callF F_check_tale (consA (mVar 8) (nilA))) (consA (callF F_check_tale (consA (mVar 8) (nilA))) (nilA))))) (ifS (orT (toB (bin2 (mVar 12) (mLst (consA (mVar 11) (consA (mVar 11) (nilA)))) neM)) (toB (bin2 (mCall strD (consA (mVar 8) (nilA))) (mVar 10) neM))) (retS (mC (.bl false))) (nxS)))) (RL S a (.ol p.L) t (.dt d) b h du to) =
      some (.nx (RL S a (.ol p.L) t (.dt d) b h' du' to')) := by
  obtain ⟨ok, oq⟩ := nice_okC hd
  have sh := nice_show hd
  have z2 : 2 ≤ sizeLine := line_big (by decide)
  have str : ∀ h du to, mCall strD (consA (mVar 8) nilA) (RL S a (.ol p.L) t (.dt d) b h du to) = some (.val (.dt (.str (strT (toPy d)))) (RL S a (.ol p.L) t (.dt d) b h du to)) := fun h du to => by
    have o := one_arg (f := mVar 8) (d := d) (ρ := RL S a (.ol p.L) t (.dt d) b h du to) rfl
    simp only [mCall, bindM, o, strD]
    rw [if_pos sh]
  have FD : F_due [.dt d] = some (.val (.dt (dueV d)) [.dt d]) := by simp [F_due, pureF, dts, ok, oq]
  have FC : F_check_tale [.dt d] = some (.val (.dt (dueV d)) [.dt d]) := by
    rw [← check_due ok]
    simp [F_check_tale, pureF, dts, ok]
  have due : ∀ h du to, callF F_due (consA (mVar 8) nilA) (RL S a (.ol p.L) t (.dt d) b h du to) = some (.val (.dt (dueV d)) (RL S a (.ol p.L) t (.dt d) b h du to)) := fun h du to => callF_val (one_arg (f := mVar 8) (d := d) rfl) FD
  have chk : ∀ h du to, callF F_check_tale (consA (mVar 8) nilA) (RL S a (.ol p.L) t (.dt d) b h du to) = some (.val (.dt (dueV d)) (RL S a (.ol p.L) t (.dt d) b h du to)) := fun h du to => callF_val (one_arg (f := mVar 8) (d := d) rfl) FC
  have told : ∀ h du to, mLst (consA (callF F_check_tale (consA (mVar 8) (nilA))) (consA (callF F_check_tale (consA (mVar 8) (nilA))) (nilA))) (RL S a (.ol p.L) t (.dt d) b h du to) = some (.val (.ol [dueV d, dueV d]) (RL S a (.ol p.L) t (.dt d) b h du to)) := fun h du to => by
    have C := chk h du to
    simp only [mLst, bindM, consA, bindD, C, Sl.frz, nilA, shortL, List.length_cons, List.length_nil]
    rw [if_pos z2]
  refine ⟨.dt (.str (strT (toPy d))), .dt (dueV d), .dt (.lst [dueV d, dueV d]), ?_⟩
  refine (seq_nx (ρ' := RL S a (.ol p.L) t (.dt d) b (.dt (.str (strT (toPy d)))) du to) (asg_val (str h du to) (by simp [RL]))).trans ?_
  refine (seq_nx (ρ' := RL S a (.ol p.L) t (.dt d) b (.dt (.str (strT (toPy d)))) (.dt (dueV d)) to) (asg_val (due _ du to) (by simp [RL]))).trans ?_
  refine (seq_nx (ρ' := RL S a (.ol p.L) t (.dt d) b (.dt (.str (strT (toPy d)))) (.dt (dueV d)) (.ol [dueV d, dueV d])) (asg_val (told _ _ to) (by simp [RL]))).trans ?_
  have v12 : mVar 12 (RL S a (.ol p.L) t (.dt d) b (.dt (.str (strT (toPy d)))) (.dt (dueV d)) (.ol [dueV d, dueV d])) = some (.val (.dt (.lst [dueV d, dueV d])) (RL S a (.ol p.L) t (.dt d) b (.dt (.str (strT (toPy d)))) (.dt (dueV d)) (.dt (.lst [dueV d, dueV d])))) := var_any (s := .ol [dueV d, dueV d]) rfl rfl
  have l11 : mLst (consA (mVar 11) (consA (mVar 11) (nilA))) (RL S a (.ol p.L) t (.dt d) b (.dt (.str (strT (toPy d)))) (.dt (dueV d)) (.dt (.lst [dueV d, dueV d]))) = some (.val (.ol [dueV d, dueV d]) (RL S a (.ol p.L) t (.dt d) b (.dt (.str (strT (toPy d)))) (.dt (dueV d)) (.dt (.lst [dueV d, dueV d])))) := by
    have V : mVar 11 (RL S a (.ol p.L) t (.dt d) b (.dt (.str (strT (toPy d)))) (.dt (dueV d)) (.dt (.lst [dueV d, dueV d]))) = some (.val (.dt (dueV d)) (RL S a (.ol p.L) t (.dt d) b (.dt (.str (strT (toPy d)))) (.dt (dueV d)) (.dt (.lst [dueV d, dueV d])))) := rfl
    simp only [mLst, bindM, consA, bindD, V, Sl.frz, nilA, shortL, List.length_cons, List.length_nil]
    rw [if_pos z2]
  have t1 := toB_st ((bin2_st (k := neM) v12 rfl l11 rfl).trans (due_eq (due_is d) _))
  have t2 : toB (bin2 (mCall strD (consA (mVar 8) (nilA))) (mVar 10) neM) (RL S a (.ol p.L) t (.dt d) b (.dt (.str (strT (toPy d)))) (.dt (dueV d)) (.dt (.lst [dueV d, dueV d]))) = some (.val false (RL S a (.ol p.L) t (.dt d) b (.dt (.str (strT (toPy d)))) (.dt (dueV d)) (.dt (.lst [dueV d, dueV d])))) := by
    refine toB_st ((bin2_st (k := neM) (str _ _ _) rfl (var_val (i := 10) (d := .str (strT (toPy d))) rfl) rfl).trans ?_)
    simp [neM]
  exact (ifs_val ((orT_f t1).trans t2)).trans rfl
theorem seq_same {f g : MS} {ρ ρ' : Rho} (h : f ρ = f ρ') : seqS f g ρ = seqS f g ρ' := by simp only [seqS, h]
theorem body_t {p : Pz} {j : Nat} (hp : p.ok (60 + j)) (v b h du to : Sl) : ∃ (q : Pz) (v' b' h' du' to' : Sl), bodyT (RL S a (.ol p.L) t v b h du to) = some (.nx (RL S a (.ol q.L) t v' b' h' du' to')) ∧ q.ok j := by
  have hd := drawn_nice p
  have h1 := drawn_ok (p := p) (j := 30 + j) (hp.le (by omega))
  have FD := F_drawn_app (p := p) (hp.le (by omega))
  have c1 : callO F_law_drawn 6 nilA (RL S a (.ol p.L) t v b h du to) = some (.val (.dt (.tup ((drawnT p).map encS))) (RL S a (.ol (drawnP p).L) t v b h du to)) := callO_at (es := []) rfl rfl FD
  have n0 : asgS 8 (callO F_law_drawn 6 nilA) (RL S a (.ol p.L) t v b h du to) = some (.nx (RL S a (.ol (drawnP p).L) t (.dt (.tup ((drawnT p).map encS))) b h du to)) := asg_val c1 (by simp [RL])
  generalize drawnP p = q at h1 n0
  generalize (drawnT p).map encS = xs at hd n0
  have D3 := F_draw_app (p := q) (n := 3) (h1.le (by omega)) (by decide) (by decide)
  obtain ⟨r0, r1⟩ := Pz.r_lt q (n := 3) (by decide)
  obtain ⟨k, hk⟩ := Int.eq_ofNat_of_zero_le r0
  rw [hk] at D3 r1
  have kl : k < 3 := by omega
  have h2 : (q.n 3).ok (29 + j) := Pz.ok.next (h1.le (by omega)) 3 (by decide)
  generalize q.n 3 = q2 at D3 h2
  have z3 : 3 ≤ sizeLine := line_big (by decide)
  have c2 : callO F_law_draw 6 (consA (mC (.int 3)) nilA) (RL S a (.ol q.L) t (.dt (.tup xs)) b h du to) = some (.val (.dt (.int (k : Nat))) (RL S a (.ol q2.L) t (.dt (.tup xs)) b h du to)) := callO_at rfl (one_arg rfl) D3
  have l3 : mLst (consA (mC (.int 0)) (consA (mC (.int 1)) (consA (mC (.int 2)) (nilA)))) (RL S a (.ol q.L) t (.dt (.tup xs)) b h du to) = some (.val (.ol [.int 0, .int 1, .int 2]) (RL S a (.ol q.L) t (.dt (.tup xs)) b h du to)) := by
    simp only [mLst, bindM, consA, bindD, mC, Sl.frz, nilA, shortL, List.length_cons, List.length_nil]
    rw [if_pos z3]
  have ix : bin2 (mLst (consA (mC (.int 0)) (consA (mC (.int 1)) (consA (mC (.int 2)) (nilA))))) (callO F_law_draw 6 (consA (mC (.int 3)) (nilA))) ixM (RL S a (.ol q.L) t (.dt (.tup xs)) b h du to) = some (.val (.dt (.int (k : Nat))) (RL S a (.ol q2.L) t (.dt (.tup xs)) b h du to)) := by
    refine (bin2_st (k := ixM) l3 rfl c2 rfl).trans ?_
    have it : ([.int 0, .int 1, .int 2] : List D)[k]? = some (.int (k : Nat)) := by
      rcases k with _ | _ | _ | k
      all_goals first | rfl | omega
    simp only [ixM, atI_nat it, optD]
  have src : rangeM1 (consA (bin2 (mLst (consA (mC (.int 0)) (consA (mC (.int 1)) (consA (mC (.int 2)) (nilA))))) (callO F_law_draw 6 (consA (mC (.int 3)) (nilA))) ixM) nilA) (RL S a (.ol q.L) t (.dt (.tup xs)) b h du to) = some (.val (rangeD 0 k) (RL S a (.ol q2.L) t (.dt (.tup xs)) b h du to)) := by
    show (bindM (consA _ nilA) _) _ = _
    unfold bindM
    rw [one_st ix rfl]
    exact if_pos (small62 (by omega))
  have lr : (rangeD 0 k).length = k := by simp [rangeD]
  obtain ⟨q3, v', b', L, o3, v1, v2⟩ := loop_b (S := S) (a := a) (t := t) (rangeD 0 k) (p := q2) (v := .dt (.tup xs)) (b := b) (h := h) (du := du) (to := to) (L := 14) (m := 2) (j := j) (h2.le (by rw [lr]; omega)) rfl (by decide) (by rw [lr]; omega) (by rw [lr]; omega) hd
  rw [lr] at v2
  have v3 : nice 16 4 (sD v') = true := nice_le (by omega) (by omega) v2
  have fin : ∃ h' du' to', seqS (asgS 10 (mCall strD (consA (mVar 8) (nilA)))) (seqS (asgS 11 (callF F_due (consA (mVar 8) (nilA)))) (seqS (asgS 12 (mLst (consA (callF F_check_tale (consA (mVar 8) (nilA))) (consA (callF F_check_tale (consA (mVar 8) (nilA))) (nilA))))) (ifS (orT (toB (bin2 (mVar 12) (mLst (consA (mVar 11) (consA (mVar 11) (nilA)))) neM)) (toB (bin2 (mCall strD (consA (mVar 8) (nilA))) (mVar 10) neM))) (retS (mC (.bl false))) (nxS)))) (RL S a (.ol q3.L) t v' b' h du to) =
      some (.nx (RL S a (.ol q3.L) t (.dt (sD v')) b' h' du' to')) := by
    obtain ⟨h', du', to', E⟩ := turn_end (S := S) (a := a) (t := t) (p := q3) v3 b' h du to
    refine ⟨h', du', to', ?_⟩
    cases v' with
    | un => cases v1
    | dt d => exact E
    | ol l => exact (seq_same (ρ' := RL S a (.ol q3.L) t (.dt (.lst l)) b' h du to) rfl).trans E
  obtain ⟨h', du', to', E⟩ := fin
  refine ⟨q3, .dt (sD v'), b', h', du', to', ?_, o3⟩
  exact (seq_nx n0).trans ((seq_nx ((fors_val src).trans L)).trans E)
end
end BK

namespace BK
open PySem L2 BT BO
theorem loop_t {S a : Sl} : ∀ (ds : List D) {p : Pz} {j : Nat} (t v b h du to : Sl), p.ok (60 * ds.length + j) → ∃ (P t' v' b' h' du' to' : Sl), loopS (bName 7) bodyT ds (RL S a (.ol p.L) t v b h du to) = some (.nx (RL S a P t' v' b' h' du' to'))
  | [], p, j, t, v, b, h, du, to, _ => ⟨.ol p.L, t, v, b, h, du, to, rfl⟩
  | d :: ds, p, j, t, v, b, h, du, to, hp => by
    simp only [List.length_cons] at hp
    obtain ⟨q, v1, b1, h1, du1, to1, E, oq⟩ := body_t (S := S) (a := a) (t := .dt d) (p := p) (j := 60 * ds.length + j) (hp.le (by omega)) v b h du to
    obtain ⟨P, t2, v2, b2, h2, du2, to2, E2⟩ := loop_t ds (p := q) (.dt d) v1 b1 h1 du1 to1 oq
    exact ⟨P, t2, v2, b2, h2, du2, to2, (loopS_nx (ρ1 := RL S a (.ol p.L) (.dt d) v b h du to) (by simp [bName, RL]) E).trans E2⟩
theorem purse_ok (l : List Int) {k : Int} (h0 : 0 ≤ k) (h1 : k < 1000) : (purse l k).ok 1000 := by
  have e : purse l k = ⟨(if 0 > l.getD k.toNat 0 - 10 ^ 18 then 0 else l.getD k.toNat 0 - 10 ^ 18) % (10 ^ 60) ^ 10, l.getD k.toNat 0 % 2147483647, 1000 * k⟩ := rfl
  rw [e]
  have pos : (0 : Int) < (10 ^ 60) ^ 10 := by decide +kernel
  refine ⟨Int.emod_nonneg _ (Int.ne_of_gt pos), Int.emod_nonneg _ (by decide), ?_, ?_, ?_⟩
  · show l.getD k.toNat 0 % 2147483647 < 2147483648
    have := Int.emod_lt_of_pos (l.getD k.toNat 0) (b := 2147483647) (by decide)
    omega
  · show 0 ≤ 1000 * k
    omega
  · show 1000 * k + 1000 < 1000000000
    omega
theorem F_purse_app {l : List Int} {k : Int} (h0 : 0 ≤ k) (h1 : k < 1000) (hl : l.length ≤ 1000) : F_law_purse [.dt (.lst (l.map .int)), .dt (.int k)] = some (.val (.ol (purse l k).L) [.dt (.lst (l.map .int)), .dt (.int k)]) := by
  simp [F_law_purse, pureF, dts, asInts_mapI, h0, h1, hl]
abbrev bodyA : MS := seqS (asgS 6 (callF F_law_purse (consA (mVar 0) (consA (mVar 1) (nilA))))) (forS (rangeM1 (consA (mC (.int 8)) (nilA))) (bName 7) bodyT)
theorem body_a {l : List Int} (hl : l.length ≤ 1000) {k : Int} (h0 : 0 ≤ k) (h1 : k < 1000) (P t v b h du to : Sl) :
    ∃ (P' t' v' b' h' du' to' : Sl), bodyA (RL (.dt (.lst (l.map .int))) (.dt (.int k)) P t v b h du to) = some (.nx (RL (.dt (.lst (l.map .int))) (.dt (.int k)) P' t' v' b' h' du' to')) := by
  have two : consA (mVar 0) (consA (mVar 1) nilA) (RL (.dt (.lst (l.map .int))) (.dt (.int k)) P t v b h du to) = some (.val [.lst (l.map .int), .int k] (RL (.dt (.lst (l.map .int))) (.dt (.int k)) P t v b h du to)) := rfl
  have c := callF_val two (F_purse_app h0 h1 hl)
  have src : rangeM1 (consA (mC (.int 8)) nilA) (RL (.dt (.lst (l.map .int))) (.dt (.int k)) (.ol (purse l k).L) t v b h du to) = some (.val (rangeD 0 8) (RL (.dt (.lst (l.map .int))) (.dt (.int k)) (.ol (purse l k).L) t v b h du to)) := rangeM1_val (n := 8) rfl (small62 (by decide))
  obtain ⟨P', t', v', b', h', du', to', E⟩ := loop_t (S := .dt (.lst (l.map .int))) (a := .dt (.int k)) (rangeD 0 8) (p := purse l k) (j := 0) t v b h du to ((purse_ok l h0 h1).le (by simp [rangeD]))
  exact ⟨P', t', v', b', h', du', to', (seq_nx (ρ' := RL (.dt (.lst (l.map .int))) (.dt (.int k)) (.ol (purse l k).L) t v b h du to) (asg_val c (by simp [RL]))).trans ((fors_val src).trans E)⟩
theorem loop_at {l : List Int} (hl : l.length ≤ 1000) : ∀ (ds : List D), (∀ d ∈ ds, ∃ k : Int, d = .int k ∧ 0 ≤ k ∧ k < 1000) → ∀ (a P t v b h du to : Sl),
    ∃ (a' P' t' v' b' h' du' to' : Sl), loopS (bName 1) bodyA ds (RL (.dt (.lst (l.map .int))) a P t v b h du to) = some (.nx (RL (.dt (.lst (l.map .int))) a' P' t' v' b' h' du' to'))
  | [], _, a, P, t, v, b, h, du, to => ⟨a, P, t, v, b, h, du, to, rfl⟩
  | d :: ds, hd, a, P, t, v, b, h, du, to => by
    obtain ⟨k, rfl, h0, h1⟩ := hd d (by simp)
    obtain ⟨P1, t1, v1, b1, h1', du1, to1, E⟩ := body_a hl h0 h1 P t v b h du to
    obtain ⟨a2, P2, t2, v2, b2, h2, du2, to2, E2⟩ := loop_at hl ds (fun x hx => hd x (by simp [hx])) (.dt (.int k)) P1 t1 v1 b1 h1' du1 to1
    exact ⟨a2, P2, t2, v2, b2, h2, du2, to2, (loopS_nx (ρ1 := RL (.dt (.lst (l.map .int))) (.dt (.int k)) P t v b h du to) (by simp [bName, RL]) E).trans E2⟩
theorem cons_val {f : M Sl} {g : M (List D)} {d : D} {ds : List D} {ρ : Rho} (h1 : f ρ = some (.val (.dt d) ρ)) (h2 : g ρ = some (.val ds ρ)) : consA f g ρ = some (.val (d :: ds) ρ) := by simp only [consA, bindD, bindM, h1, Sl.frz, h2]
theorem src_at {l : List Int} (hl : l.length ≤ 1000) (a P t v b h du to : Sl) : ∃ n : Nat, n ≤ 5 ∧ rangeM1 (consA (bin2 (mC (.int 1)) (mCall minD (consA (mC (.int 4)) (consA (mCall lenD (consA (mVar 0) (nilA))) (nilA)))) addD) (nilA)) (RL (.dt (.lst (l.map .int))) a P t v b h du to) = some (.val (rangeD 0 n) (RL (.dt (.lst (l.map .int))) a P t v b h du to)) := by
  have zl : l.length ≤ sizeLine := line_big hl
  have e1 : mCall lenD (consA (mVar 0) nilA) (RL (.dt (.lst (l.map .int))) a P t v b h du to) = some (.val (.dt (.int (l.length : Nat))) (RL (.dt (.lst (l.map .int))) a P t v b h du to)) := by
    have o := one_arg (f := mVar 0) (d := .lst (l.map .int)) (ρ := RL (.dt (.lst (l.map .int))) a P t v b h du to) rfl
    simp only [mCall, bindM, o]
    simp [zl]
  have e2 : ∃ m : Nat, m ≤ 4 ∧ mCall minD (consA (mC (.int 4)) (consA (mCall lenD (consA (mVar 0) (nilA))) (nilA))) (RL (.dt (.lst (l.map .int))) a P t v b h du to) = some (.val (.dt (.int (m : Nat))) (RL (.dt (.lst (l.map .int))) a P t v b h du to)) := by
    have two := cons_val (f := mC (.int 4)) (d := .int 4) (ρ := RL (.dt (.lst (l.map .int))) a P t v b h du to) rfl (one_arg e1)
    have e : mCall minD (consA (mC (.int 4)) (consA (mCall lenD (consA (mVar 0) (nilA))) (nilA))) (RL (.dt (.lst (l.map .int))) a P t v b h du to) = some (.val (.dt (.int (if (l.length : Int) < 4 then (l.length : Int) else 4))) (RL (.dt (.lst (l.map .int))) a P t v b h du to)) := by
      simp only [mCall, bindM, two]
      rfl
    rw [e]
    by_cases c : l.length < 4
    · have c' : (l.length : Int) < 4 := by omega
      exact ⟨l.length, by omega, by rw [if_pos c']⟩
    · have c' : ¬ (l.length : Int) < 4 := by omega
      exact ⟨4, by omega, by rw [if_neg c']; rfl⟩
  obtain ⟨m, hm, e3⟩ := e2
  refine ⟨m + 1, by omega, rangeM1_val (n := m + 1) ((bin2_val (d := .int 1) rfl e3).trans ?_) (small62 (by omega))⟩
  show some (Rs.val (Sl.dt (D.int (1 + (m : Int)))) _) = _
  rw [show (1 : Int) + (m : Int) = ((m + 1 : Nat) : Int) by omega]
end BK

namespace BK
open PySem L2 BT BO
/-! ### the law's own tales -/
def signs1 (x : Str) : List Str := x.cps.toList.map fun c => ⟨#[c]⟩
def names60 : List Str := (signs1 "abcdef").flatMap fun a => (signs1 "abcdefghij").map fun b => a ++ b
def line60 : Tale := ("at", names60.headD "") :: (names60.drop 1).map fun n => ("then", n)
def line61 : Tale := line60 ++ [(("then" : Str), names60.headD "")]
def long200 (a b : Str) : Tale := (List.replicate 99 ([("at", "a"), ("then", "b")] : Tale)).flatten ++ ([("at", a), ("then", b)] : Tale)
structure Says (t : Tale) (r : D) : Prop where
  ok : okC (.tup (t.map encS)) = true
  val : checkV (.tup (t.map encS)) = r
theorem says {t : Tale} {r : Option Nat} (h1 : t.length ≤ 1000) (h2 : (t.map encS).all shortP = true) (h3 : cntM t ≤ 61) (h4 : badAt 0 (t.map encS) = none) (h5 : chk RS.nil 0 "" t = r) : Says t (cycV r) := by
  constructor
  · simp only [okC, h2, decL_map, List.length_map, Bool.and_true, Bool.and_eq_true, decide_eq_true_eq]
    exact ⟨h1, h3⟩
  · simp only [checkV, h4, decL_map, h5]
theorem says60 : Says line60 .non := says (by decide +kernel) (by decide +kernel) (by decide +kernel) (by decide +kernel) (r := none) (by decide +kernel)
theorem says61 : Says line61 (.tup [.str "cycle", .int 60]) := says (by decide +kernel) (by decide +kernel) (by decide +kernel) (by decide +kernel) (r := some 60) (by decide +kernel)
theorem saysA : Says (long200 "a" "b") .non := says (by decide +kernel) (by decide +kernel) (by decide +kernel) (by decide +kernel) (r := none) (by decide +kernel)
theorem saysB : Says (long200 "b" "a") (.tup [.str "cycle", .int 199]) := says (by decide +kernel) (by decide +kernel) (by decide +kernel) (by decide +kernel) (r := some 199) (by decide +kernel)
theorem Says.app {t : Tale} {r : D} (h : Says t r) : F_check_tale [.dt (.tup (t.map encS))] = some (.val (.dt r) [.dt (.tup (t.map encS))]) := by
  simp only [F_check_tale, pureF, dts, Option.map_some]
  rw [if_pos h.ok, h.val]
theorem F_check_nil : F_check_tale [.dt (.tup [])] = some (.val (.dt .non) [.dt (.tup [])]) := rfl
theorem F_check_one : F_check_tale [.dt (.tup [.tup [.str "then", .str "a"]])] = some (.val (.dt (.tup [.str "sentence", .int 0])) [.dt (.tup [.tup [.str "then", .str "a"]])]) := by
  have ok : okC (.tup [.tup [.str "then", .str "a"]]) = true := by decide +kernel
  have b : badAt 0 [.tup [.str "then", .str "a"]] = some 0 := by decide +kernel
  have v : checkV (.tup [.tup [.str "then", .str "a"]]) = .tup [.str "sentence", .int 0] := by simp only [checkV, b]; rfl
  simp only [F_check_tale, pureF, dts, Option.map_some]
  rw [if_pos ok, v]
theorem names_len : names60.length = 60 := by decide +kernel
end BK

namespace BK
open PySem L2 BT BO
section
variable {S a P t v b h du to : Sl}
def TR (S a P t v b h du to n2 n3 n4 n5 : Sl) : Rho := [S, a, n2, n3, n4, n5, P, t, v, b, h, du, to, .un, .un]
abbrev bodyN : MS := asgS 2 (bin2 (mVar 2) (mComp (seqD (mC (.str "abcdefghij"))) [13] (bName 13) (yesT) (bin2 (mVar 3) (mVar 13) addD)) addD)
theorem signsD_eq (x : Str) : signsD x = (signs1 x).map .str := by unfold signsD signs1; rw [List.map_map]; rfl
theorem addL {xs ys : List D} {ρ : Rho} (h : xs.length + ys.length ≤ 1000) : addD (.lst xs) (.lst ys) ρ = some (.val (.ol (xs ++ ys)) ρ) := if_pos (line_big h)
theorem addS {x y : Str} {ρ : Rho} (h : x.length + y.length ≤ 1000) : addD (.str x) (.str y) ρ = some (.val (.dt (.str (x ++ y))) ρ) := by
  show (if x.length + y.length ≤ sizeLine then retD (.str (x ++ y)) else fun _ => none) ρ = _
  rw [if_pos (line_big h)]; rfl
theorem body_n {L : List Str} (hL : L.length ≤ 100) {c : Str} (hc : c.length ≤ 10) (n4 n5 : Sl) :
    bodyN (TR S a P t v b h du to (.ol (L.map .str)) (.dt (.str c)) n4 n5) = some (.nx (TR S a P t v b h du to (.ol ((L ++ (signs1 "abcdefghij").map (c ++ ·)).map .str)) (.dt (.str c)) n4 n5)) := by
  have v2 : mVar 2 (TR S a P t v b h du to (.ol (L.map .str)) (.dt (.str c)) n4 n5) = some (.val (.dt (.lst (L.map .str))) (TR S a P t v b h du to (.dt (.lst (L.map .str))) (.dt (.str c)) n4 n5)) := rfl
  have C := compL_map (b := bName 13) (e := bin2 (mVar 3) (mVar 13) addD) (vs := [13]) (ρ := TR S a P t v b h du to (.dt (.lst (L.map .str))) (.dt (.str c)) n4 n5) (g := fun d => match d with | .str y => .str (c ++ y) | _ => .non) (signsD "abcdefghij") []
    (fun d hd => by
      rw [signsD_eq] at hd
      obtain ⟨y, hy, rfl⟩ := List.mem_map.mp hd
      have ly : y.length ≤ 10 := by
        have all : ∀ y ∈ signs1 "abcdefghij", y.length ≤ 10 := by decide +kernel
        exact all y hy
      exact ⟨(TR S a P t v b h du to (.dt (.lst (L.map .str))) (.dt (.str c)) n4 n5).set 13 (.dt (.str y)), rfl, rfl, rfl, .dt (.str (c ++ y)), (bin2_val rfl rfl).trans (addS (by omega)), rfl⟩)
    (line_big (by decide +kernel))
  have F : (signsD "abcdefghij").map (fun d => match d with | .str y => D.str (c ++ y) | _ => .non) = ((signs1 "abcdefghij").map (c ++ ·)).map .str := by
    rw [signsD_eq, List.map_map, List.map_map]; rfl
  rw [F, List.nil_append] at C
  have M : mComp (seqD (mC (.str "abcdefghij"))) [13] (bName 13) yesT (bin2 (mVar 3) (mVar 13) addD) (TR S a P t v b h du to (.dt (.lst (L.map .str))) (.dt (.str c)) n4 n5) = some (.val (.ol (((signs1 "abcdefghij").map (c ++ ·)).map .str)) (TR S a P t v b h du to (.dt (.lst (L.map .str))) (.dt (.str c)) n4 n5)) := by
    have src : seqD (mC (.str "abcdefghij")) (TR S a P t v b h du to (.dt (.lst (L.map .str))) (.dt (.str c)) n4 n5) = some (.val (signsD "abcdefghij") (TR S a P t v b h du to (.dt (.lst (L.map .str))) (.dt (.str c)) n4 n5)) := rfl
    have w1 : noOl (TR S a P t v b h du to (.dt (.lst (L.map .str))) (.dt (.str c)) n4 n5) [13] = true := rfl
    have w2 : wipeR (TR S a P t v b h du to (.dt (.lst (L.map .str))) (.dt (.str c)) n4 n5) [13] = TR S a P t v b h du to (.dt (.lst (L.map .str))) (.dt (.str c)) n4 n5 := rfl
    have w3 : restR (TR S a P t v b h du to (.dt (.lst (L.map .str))) (.dt (.str c)) n4 n5) (TR S a P t v b h du to (.dt (.lst (L.map .str))) (.dt (.str c)) n4 n5) [13] = TR S a P t v b h du to (.dt (.lst (L.map .str))) (.dt (.str c)) n4 n5 := rfl
    simp only [mComp, bindM, src, w1, if_true, w2, C, w3]
  have l10 : (signs1 "abcdefghij").length = 10 := by decide +kernel
  have A := (bin2_st (k := addD) v2 rfl M rfl).trans (addL (by simp only [List.length_map, l10]; omega))
  rw [← List.map_append] at A
  exact asg_val A (by simp [TR])
theorem loop_n {n4 n5 : Sl} : ∀ (cs L : List Str) (n3 : Sl), L.length + 10 * cs.length ≤ 100 → (∀ c ∈ cs, c.length ≤ 10) →
    ∃ n3', loopS (bName 3) bodyN (cs.map .str) (TR S a P t v b h du to (.ol (L.map .str)) n3 n4 n5) = some (.nx (TR S a P t v b h du to (.ol ((L ++ cs.flatMap fun c => (signs1 "abcdefghij").map (c ++ ·)).map .str)) n3' n4 n5))
  | [], L, n3, _, _ => ⟨n3, by simp [loopS]⟩
  | c :: cs, L, n3, hl, hc => by
    have l10 : (signs1 "abcdefghij").length = 10 := by decide +kernel
    simp only [List.length_cons] at hl
    have E := body_n (S := S) (a := a) (P := P) (t := t) (v := v) (b := b) (h := h) (du := du) (to := to) (L := L) (by omega) (hc c (by simp)) n4 n5
    obtain ⟨n3', E2⟩ := loop_n (n4 := n4) (n5 := n5) cs (L ++ (signs1 "abcdefghij").map (c ++ ·)) (.dt (.str c)) (by rw [List.length_append, List.length_map, l10]; omega) (fun x hx => hc x (by simp [hx]))
    refine ⟨n3', (loopS_nx (ρ1 := TR S a P t v b h du to (.ol (L.map .str)) (.dt (.str c)) n4 n5) rfl E).trans (E2.trans ?_)⟩
    rw [List.flatMap_cons, List.append_assoc]
theorem names_it (n4 n5 n3 : Sl) : ∃ n3', forS (seqD (mC (.str "abcdef"))) (bName 3) bodyN (TR S a P t v b h du to (.ol []) n3 n4 n5) = some (.nx (TR S a P t v b h du to (.ol (names60.map .str)) n3' n4 n5)) := by
  obtain ⟨n3', E⟩ := loop_n (S := S) (a := a) (P := P) (t := t) (v := v) (b := b) (h := h) (du := du) (to := to) (n4 := n4) (n5 := n5) (signs1 "abcdef") [] n3 (by decide +kernel) (by decide +kernel)
  rw [← signsD_eq] at E
  exact ⟨n3', (fors_val rfl).trans E⟩
theorem tup1 {f : M Sl} {s : Sl} {d : D} {ρ ρ' : Rho} (h : f ρ = some (.val s ρ')) (z : s.frz = some d) : mTup (consA f nilA) ρ = some (.val (.dt (.tup [d])) ρ') := by
  have z1 : 1 ≤ sizeLine := line_big (by decide)
  simp only [mTup, bindM, one_st h z, shortL, List.length_singleton]
  rw [if_pos z1]; rfl
theorem tup2 {f g : M Sl} {s : Sl} {d e : D} {ρ ρ' : Rho} (h1 : f ρ = some (.val (.dt d) ρ)) (h2 : g ρ = some (.val s ρ')) (z : s.frz = some e) : mTup (consA f (consA g nilA)) ρ = some (.val (.dt (.tup [d, e])) ρ') := by
  have z2 : 2 ≤ sizeLine := line_big (by decide)
  have c : consA f (consA g nilA) ρ = some (.val [d, e] ρ') := by
    have o := one_st h2 z
    show (bindD f fun d => bindM (consA g nilA) fun ds ρ => some (.val (d :: ds) ρ)) ρ = _
    simp only [bindD, bindM, h1, Sl.frz, o]
  simp only [mTup, bindM, c, shortL, List.length_cons, List.length_nil]
  rw [if_pos z2]; rfl
theorem head_it {n3 n4 n5 : Sl} {w : Str} {s2 : Sl} (h2 : s2 = .ol (names60.map .str) ∨ s2 = .dt (.lst (names60.map .str))) : mTup (consA (mTup (consA (mC (.str w)) (consA (bin2 (mVar 2) (mC (.int 0)) ixM) (nilA)))) (nilA)) (TR S a P t v b h du to s2 n3 n4 n5) = some (.val (.dt (.tup [encS (w, names60.headD "")])) (TR S a P t v b h du to (.dt (.lst (names60.map .str))) n3 n4 n5)) := by
  have z1 : 1 ≤ sizeLine := line_big (by decide)
  have z2 : 2 ≤ sizeLine := line_big (by decide)
  have it : (names60.map D.str)[0]? = some (.str (names60.headD "")) := by
    rw [List.getElem?_map]
    cases e : names60 with
    | nil => have := names_len; rw [e] at this; cases this
    | cons x r => rfl
  have V : mVar 2 (TR S a P t v b h du to s2 n3 n4 n5) = some (.val (.dt (.lst (names60.map .str))) (TR S a P t v b h du to (.dt (.lst (names60.map .str))) n3 n4 n5)) := by
    rcases h2 with rfl | rfl <;> rfl
  have I : bin2 (mVar 2) (mC (.int 0)) ixM (TR S a P t v b h du to s2 n3 n4 n5) = some (.val (.dt (.str (names60.headD ""))) (TR S a P t v b h du to (.dt (.lst (names60.map .str))) n3 n4 n5)) := by
    refine (bin2_st (k := ixM) (e := .int 0) V rfl rfl rfl).trans ?_
    have : atI (names60.map D.str) 0 = some (.str (names60.headD "")) := atI_nat it
    simp only [ixM, this, optD]
  exact tup1 (tup2 rfl I rfl) rfl
end
end BK

namespace BK
open PySem L2 BT BO
section
variable {S a P t v b h du to : Sl}
abbrev N60 : List D := names60.map D.str
theorem line_eq : [encS ("at", names60.headD "")] ++ (N60.drop 1).map (fun d => D.tup [.str "then", d]) = line60.map encS := by
  unfold line60 N60
  rw [← List.map_drop, List.map_map, List.map_cons, List.map_map]
  rfl
theorem line_it (n3 n4 n5 : Sl) : asgS 4 (bin2 (mTup (consA (mTup (consA (mC (.str "at")) (consA (bin2 (mVar 2) (mC (.int 0)) ixM) (nilA)))) (nilA))) (mCall tupleD (consA (mComp (seqD (sliceM (mVar 2) (someP (mC (.int 1))) (noP))) [14] (bName 14) (yesT) (mTup (consA (mC (.str "then")) (consA (mVar 14) (nilA))))) (nilA))) addD) (TR S a P t v b h du to (.ol N60) n3 n4 n5) =
    some (.nx (TR S a P t v b h du to (.dt (.lst N60)) n3 (.dt (.tup (line60.map encS))) n5)) := by
  have f := head_it (S := S) (a := a) (P := P) (t := t) (v := v) (b := b) (h := h) (du := du) (to := to) (n3 := n3) (n4 := n4) (n5 := n5) (w := "at") (s2 := .ol N60) (.inl rfl)
  generalize hρ : TR S a P t v b h du to (.dt (.lst (names60.map .str))) n3 n4 n5 = ρ at f
  have V : mVar 2 ρ = some (.val (.dt (.lst N60)) ρ) := by subst hρ; rfl
  have ln : N60.length = 60 := by rw [List.length_map, names_len]
  have src : seqD (sliceM (mVar 2) (someP (mC (.int 1))) (noP)) ρ = some (.val (N60.drop 1) ρ) := by
    have c : cutD N60 (some 1) none = N60.drop 1 := cut_from N60 1
    simp only [seqD, sliceM, bindD, bindM, V, someP, mC, noP, Sl.frz, c]
  have C := compL_map (b := bName 14) (e := mTup (consA (mC (.str "then")) (consA (mVar 14) (nilA)))) (vs := [14]) (ρ := ρ) (g := fun d => .tup [.str "then", d]) (N60.drop 1) []
    (fun d hd => ⟨ρ.set 14 (.dt d), by subst hρ; rfl, by subst hρ; rfl, by subst hρ; rfl, .dt (.tup [.str "then", d]), tup2 rfl (s := .dt d) (by subst hρ; rfl) rfl, rfl⟩)
    (line_big (by rw [List.length_drop, ln]; decide))
  rw [List.nil_append] at C
  have w1 : noOl ρ [14] = true := by subst hρ; rfl
  have w2 : wipeR ρ [14] = ρ := by subst hρ; rfl
  have w3 : restR ρ ρ [14] = ρ := by subst hρ; rfl
  have M : mComp (seqD (sliceM (mVar 2) (someP (mC (.int 1))) (noP))) [14] (bName 14) (yesT) (mTup (consA (mC (.str "then")) (consA (mVar 14) (nilA)))) ρ = some (.val (.ol ((N60.drop 1).map fun d => .tup [.str "then", d])) ρ) := by
    simp only [mComp, bindM, src, w1, if_true, w2, C, w3]
  have T : mCall tupleD (consA (mComp (seqD (sliceM (mVar 2) (someP (mC (.int 1))) (noP))) [14] (bName 14) (yesT) (mTup (consA (mC (.str "then")) (consA (mVar 14) (nilA))))) nilA) ρ = some (.val (.dt (.tup ((N60.drop 1).map fun d => .tup [.str "then", d]))) ρ) := by
    have o := one_st M rfl
    simp only [mCall, bindM, o]
    rfl
  have A := (bin2_st (k := addD) f rfl T rfl).trans (addT (by rw [List.length_singleton, List.length_map, List.length_drop, ln]; decide))
  rw [line_eq] at A
  refine (asg_val A (by subst hρ; simp [TR])).trans ?_
  subst hρ
  rfl
theorem ne_same {xs : List D} {ρ : Rho} (o : okD (.tup xs) = true) : neM (.tup xs) (.tup xs) ρ = some (.val (.dt (.bl false)) ρ) := by
  have k2 : eqD (.tup xs) (.tup xs) = true := SeqAt.eqv_refl _ (SeqAt.canLay_of_shaped o)
  simp only [neM]
  rw [if_pos ⟨o, o⟩, k2]
  rfl
theorem not_none {f : M Sl} {ρ : Rho} (h : f ρ = some (.val (.dt .non) ρ)) : toB (bin2 f (mC .non) (isNM true)) ρ = some (.val false ρ) := toB_st ((bin2_st (k := isNM true) (e := .non) h rfl rfl rfl).trans rfl)
theorem is_none {f : M Sl} {ρ : Rho} (h : f ρ = some (.val (.dt .non) ρ)) : bin2 f (mC .non) (isNM false) ρ = some (.val (.dt (.bl true)) ρ) := (bin2_st (k := isNM false) (e := .non) h rfl rfl rfl).trans rfl
theorem line61_eq : line60.map encS ++ [encS ("then", names60.headD "")] = line61.map encS := by unfold line61; rw [List.map_append]; rfl
theorem if1 (n3 n5 : Sl) : ifS (orT (toB (bin2 (callF F_check_tale (consA (mVar 4) (nilA))) (mC .non) (isNM true))) (toB (bin2 (callF F_check_tale (consA (bin2 (mVar 4) (mTup (consA (mTup (consA (mC (.str "then")) (consA (bin2 (mVar 2) (mC (.int 0)) ixM) (nilA)))) (nilA))) addD) (nilA))) (mTup (consA (mC (.str "cycle")) (consA (mC (.int 60)) (nilA)))) neM))) (retS (mC (.bl false))) (nxS) (TR S a P t v b h du to (.dt (.lst N60)) n3 (.dt (.tup (line60.map encS))) n5) =
    some (.nx (TR S a P t v b h du to (.dt (.lst N60)) n3 (.dt (.tup (line60.map encS))) n5)) := by
  have f := head_it (S := S) (a := a) (P := P) (t := t) (v := v) (b := b) (h := h) (du := du) (to := to) (n3 := n3) (n4 := .dt (.tup (line60.map encS))) (n5 := n5) (w := "then") (s2 := .dt (.lst N60)) (.inr rfl)
  generalize hρ : TR S a P t v b h du to (.dt (.lst (names60.map .str))) n3 (.dt (.tup (line60.map encS))) n5 = ρ at f ⊢
  have V : mVar 4 ρ = some (.val (.dt (.tup (line60.map encS))) ρ) := by subst hρ; rfl
  have c1 := callF_val (one_arg V) says60.app
  have ll : line60.length = 60 := by decide +kernel
  have A := (bin2_st (k := addD) V rfl f rfl).trans (addT (by rw [List.length_singleton, List.length_map, ll]; decide))
  rw [line61_eq] at A
  have c2 := callF_val (one_arg A) says61.app
  have o : okD (.tup [.str "cycle", .int 60]) = true := by decide +kernel
  have t2 := toB_st ((bin2_st (k := neM) c2 rfl (tup2 (f := mC (.str "cycle")) (g := mC (.int 60)) (ρ := ρ) rfl rfl rfl) rfl).trans (ne_same o))
  exact (ifs_val ((orT_f (not_none c1)).trans t2)).trans rfl
abbrev prs (x y : Str) : M Sl := mTup (consA (mTup (consA (mC (.str "at")) (consA (mC (.str x)) (nilA)))) (consA (mTup (consA (mC (.str "then")) (consA (mC (.str y)) (nilA)))) (nilA)))
theorem prs_val (x y : Str) (ρ : Rho) : prs x y ρ = some (.val (.dt (.tup [encS ("at", x), encS ("then", y)])) ρ) := tup2 (tup2 rfl rfl rfl) (tup2 rfl rfl rfl) rfl
theorem rep_it {ρ : Rho} : bin2 (prs "a" "b") (mC (.int 99)) repD ρ = some (.val (.dt (.tup ((List.replicate 99 ([("at", "a"), ("then", "b")] : Tale)).flatten.map encS))) ρ) := by
  refine (bin2_st (k := repD) (e := .int 99) (prs_val "a" "b" ρ) rfl rfl rfl).trans ?_
  have e : (List.replicate (99 : Int).toNat [encS ("at", "a"), encS ("then", "b")]).flatten = (List.replicate 99 ([("at", "a"), ("then", "b")] : Tale)).flatten.map encS := by
    rw [List.map_flatten, List.map_replicate]; rfl
  have c : [encS ("at", "a"), encS ("then", "b")] ≠ [] ∧ (2 : Int) ≤ 99 ∧ (99 : Int) ≤ 1000 ∧ [encS ("at", "a"), encS ("then", "b")].length ≤ 1000 := ⟨by simp, by decide, by decide, by decide⟩
  simp only [repD]
  rw [if_pos c, e]
theorem long_it {n2 n3 n4 : Sl} (x y : Str) : bin2 (mVar 5) (prs x y) addD (TR S a P t v b h du to n2 n3 n4 (.dt (.tup ((List.replicate 99 ([("at", "a"), ("then", "b")] : Tale)).flatten.map encS)))) = some (.val (.dt (.tup ((long200 x y).map encS))) (TR S a P t v b h du to n2 n3 n4 (.dt (.tup ((List.replicate 99 ([("at", "a"), ("then", "b")] : Tale)).flatten.map encS))))) := by
  refine (bin2_st (k := addD) (d := .tup ((List.replicate 99 ([("at", "a"), ("then", "b")] : Tale)).flatten.map encS)) rfl rfl (prs_val x y _) rfl).trans ?_
  have e : (List.replicate 99 ([("at", "a"), ("then", "b")] : Tale)).flatten.map encS ++ [encS ("at", x), encS ("then", y)] = (long200 x y).map encS := by unfold long200; rw [List.map_append]; rfl
  rw [← e]
  have l198 : (List.replicate 99 ([("at", "a"), ("then", "b")] : Tale)).flatten.length = 198 := by decide +kernel
  exact addT (by rw [List.length_map, l198]; show 198 + 2 ≤ 1000; decide)
theorem tail_it {n2 n3 n4 n5 : Sl} : seqS (asgS 5 (bin2 (prs "a" "b") (mC (.int 99)) repD)) (seqS (ifS (toB (bin2 (callF F_check_tale (consA (bin2 (mVar 5) (prs "a" "b") addD) (nilA))) (mC .non) (isNM true))) (retS (mC (.bl false))) (nxS)) (seqS (ifS (toB (bin2 (callF F_check_tale (consA (bin2 (mVar 5) (prs "b" "a") addD) (nilA))) (mTup (consA (mC (.str "cycle")) (consA (mC (.int 199)) (nilA)))) neM)) (retS (mC (.bl false))) (nxS)) (retS (andV (bin2 (callF F_check_tale (consA (mTup (nilA)) (nilA))) (mC .non) (isNM false)) (bin2 (callF F_check_tale (consA (mTup (consA (mTup (consA (mC (.str "then")) (consA (mC (.str "a")) (nilA)))) (nilA))) (nilA))) (mTup (consA (mC (.str "sentence")) (consA (mC (.int 0)) (nilA)))) eqM))))) (TR S a P t v b h du to n2 n3 n4 n5) =
    some (.rt (.dt (.bl true)) (TR S a P t v b h du to n2 n3 n4 (.dt (.tup ((List.replicate 99 ([("at", "a"), ("then", "b")] : Tale)).flatten.map encS))))) := by
  have s1 := seq_nx (g := (seqS (ifS (toB (bin2 (callF F_check_tale (consA (bin2 (mVar 5) (prs "a" "b") addD) (nilA))) (mC .non) (isNM true))) (retS (mC (.bl false))) (nxS)) (seqS (ifS (toB (bin2 (callF F_check_tale (consA (bin2 (mVar 5) (prs "b" "a") addD) (nilA))) (mTup (consA (mC (.str "cycle")) (consA (mC (.int 199)) (nilA)))) neM)) (retS (mC (.bl false))) (nxS)) (retS (andV (bin2 (callF F_check_tale (consA (mTup (nilA)) (nilA))) (mC .non) (isNM false)) (bin2 (callF F_check_tale (consA (mTup (consA (mTup (consA (mC (.str "then")) (consA (mC (.str "a")) (nilA)))) (nilA))) (nilA))) (mTup (consA (mC (.str "sentence")) (consA (mC (.int 0)) (nilA)))) eqM)))))) (asg_val (i := 5) (rep_it (ρ := TR S a P t v b h du to n2 n3 n4 n5)) (by simp [TR]))
  refine s1.trans ?_
  show seqS _ _ (TR S a P t v b h du to n2 n3 n4 (.dt (.tup ((List.replicate 99 ([("at", "a"), ("then", "b")] : Tale)).flatten.map encS)))) = _
  have cA := callF_val (one_arg (long_it (S := S) (a := a) (P := P) (t := t) (v := v) (b := b) (h := h) (du := du) (to := to) (n2 := n2) (n3 := n3) (n4 := n4) "a" "b")) saysA.app
  have cB := callF_val (one_arg (long_it (S := S) (a := a) (P := P) (t := t) (v := v) (b := b) (h := h) (du := du) (to := to) (n2 := n2) (n3 := n3) (n4 := n4) "b" "a")) saysB.app
  generalize TR S a P t v b h du to n2 n3 n4 (.dt (.tup ((List.replicate 99 ([("at", "a"), ("then", "b")] : Tale)).flatten.map encS))) = ρ at cA cB ⊢
  refine (seq_nx (ρ' := ρ) ((ifs_val (not_none cA)).trans rfl)).trans ?_
  have o : okD (.tup [.str "cycle", .int 199]) = true := by decide +kernel
  have tB := toB_st ((bin2_st (k := neM) cB rfl (tup2 (f := mC (.str "cycle")) (g := mC (.int 199)) (ρ := ρ) rfl rfl rfl) rfl).trans (ne_same o))
  refine (seq_nx (ρ' := ρ) ((ifs_val tB).trans rfl)).trans ?_
  have z0 : mTup nilA ρ = some (.val (.dt (.tup [])) ρ) := by simp
  have i1 := is_none (callF_val (one_arg z0) F_check_nil)
  have p1 : mTup (consA (mTup (consA (mC (.str "then")) (consA (mC (.str "a")) (nilA)))) (nilA)) ρ = some (.val (.dt (.tup [.tup [.str "then", .str "a"]])) ρ) := tup1 (tup2 (f := mC (.str "then")) (g := mC (.str "a")) rfl rfl rfl) rfl
  have c3 := callF_val (one_arg p1) F_check_one
  have o3 : okD (.tup [.str "sentence", .int 0]) = true := by decide +kernel
  have i2 : bin2 (callF F_check_tale (consA (mTup (consA (mTup (consA (mC (.str "then")) (consA (mC (.str "a")) (nilA)))) (nilA))) (nilA))) (mTup (consA (mC (.str "sentence")) (consA (mC (.int 0)) (nilA)))) eqM ρ = some (.val (.dt (.bl true)) ρ) := by
    refine (bin2_st (k := eqM) c3 rfl (tup2 (f := mC (.str "sentence")) (g := mC (.int 0)) (ρ := ρ) rfl rfl rfl) rfl).trans ?_
    have k2 : eqD (.tup [.str "sentence", .int 0]) (.tup [.str "sentence", .int 0]) = true := SeqAt.eqv_refl _ (SeqAt.canLay_of_shaped o3)
    simp only [eqM]
    rw [if_pos ⟨o3, o3⟩, k2]
  refine ret_val ?_
  simp only [andV, bindD, bindM, i1, Sl.frz]
  exact i2
end
end BK

namespace BK
open PySem L2 BT BO
theorem law_true {l : List Int} (hl : l.length ≤ 1000) : ∃ ρ', m_law ([Sl.dt (.lst (l.map .int))] ++ List.replicate 14 .un) = some (.rt (.dt (.bl true)) ρ') := by
  show ∃ ρ', m_law (RL (.dt (.lst (l.map .int))) .un .un .un .un .un .un .un .un) = _
  obtain ⟨n, hn, src⟩ := src_at hl .un .un .un .un .un .un .un .un
  obtain ⟨a, P, t, v, b, h, du, to, L⟩ := loop_at hl (rangeD 0 n) (fun d hd => by
    simp only [rangeD, List.mem_map, List.mem_range] at hd
    obtain ⟨k, hk, rfl⟩ := hd
    exact ⟨_, rfl, by omega, by omega⟩) .un .un .un .un .un .un .un .un
  obtain ⟨n3, N⟩ := names_it (S := .dt (.lst (l.map .int))) (a := a) (P := P) (t := t) (v := v) (b := b) (h := h) (du := du) (to := to) .un .un .un
  have z0 : mLst nilA (RL (.dt (.lst (l.map .int))) a P t v b h du to) = some (.val (.ol []) (RL (.dt (.lst (l.map .int))) a P t v b h du to)) := by simp
  refine ⟨TR (.dt (.lst (l.map .int))) a P t v b h du to (.dt (.lst N60)) n3 (.dt (.tup (line60.map encS))) (.dt (.tup ((List.replicate 99 ([("at", "a"), ("then", "b")] : Tale)).flatten.map encS))), ?_⟩
  unfold m_law
  refine (seq_nx ((fors_val src).trans L)).trans ?_
  refine (seq_nx (ρ' := TR (.dt (.lst (l.map .int))) a P t v b h du to (.ol []) .un .un .un) ((asg_val z0 (by simp [RL])).trans rfl)).trans ?_
  refine (seq_nx N).trans ?_
  refine (seq_nx (line_it n3 .un .un)).trans ?_
  refine (seq_nx (if1 n3 .un)).trans ?_
  exact tail_it
end BK

namespace BK
open PySem L2 BT BO
theorem room9 : Room 9 callerA := ⟨rfl, by decide, by decide⟩
/-- what law's body owes, from all defs of the text -/
theorem body_at {P : Program} {w : World} {K : PySem.W.Frag} {mg : Str → Option Value} {C : Addr} (T : Tx K mg C)
    {f_init : Addr} {fd_init : FuncData} (F_m_init : Fun K "__init__" "Relations.__init__" (inClass (top 2) 0) f_init fd_init)
    {f_add : Addr} {fd_add : FuncData} (F_m_add : Fun K "add" "Relations.add" (inClass (top 2) 1) f_add fd_add)
    (m_add : Meth K C "add" f_add)
    {f_is_before : Addr} {fd_is_before : FuncData} (F_m_is_before : Fun K "is_before" "Relations.is_before" (inClass (top 2) 2) f_is_before fd_is_before)
    (m_is_before : Meth K C "is_before" f_is_before)
    {f_bits_of : Addr} {fd_bits_of : FuncData} (F_m_bits_of : Fun K "bits_of" "Relations.bits_of" (inClass (top 2) 3) f_bits_of fd_bits_of)
    (m_bits_of : Meth K C "bits_of" f_bits_of)
    {f_add_same : Addr} {fd_add_same : FuncData} (F_m_add_same : Fun K "add_same" "Relations.add_same" (inClass (top 2) 4) f_add_same fd_add_same)
    (m_add_same : Meth K C "add_same" f_add_same)
    {f_add_before : Addr} {fd_add_before : FuncData} (F_m_add_before : Fun K "add_before" "Relations.add_before" (inClass (top 2) 5) f_add_before fd_add_before)
    (m_add_before : Meth K C "add_before" f_add_before)
    {f_add_link : Addr} {fd_add_link : FuncData} (F_m_add_link : Fun K "add_link" "Relations.add_link" (inClass (top 2) 6) f_add_link fd_add_link)
    (m_add_link : Meth K C "add_link" f_add_link)
    (M_init : Mk K C f_init) (g_Relations : mg "Relations" = some (.ref C))
    {f_is_name : Addr} {fd_is_name : FuncData} (D_is_name : Fun K "is_name" "is_name" (top 8) f_is_name fd_is_name) (g_is_name : mg "is_name" = some (.ref f_is_name))
    {f_is_sentence : Addr} {fd_is_sentence : FuncData} (D_is_sentence : Fun K "is_sentence" "is_sentence" (top 9) f_is_sentence fd_is_sentence) (g_is_sentence : mg "is_sentence" = some (.ref f_is_sentence))
    {f_link_of : Addr} {fd_link_of : FuncData} (D_link_of : Fun K "link_of" "link_of" (top 10) f_link_of fd_link_of) (g_link_of : mg "link_of" = some (.ref f_link_of))
    {f_stands_of : Addr} {fd_stands_of : FuncData} (D_stands_of : Fun K "stands_of" "stands_of" (top 11) f_stands_of fd_stands_of) (g_stands_of : mg "stands_of" = some (.ref f_stands_of))
    {f_links_of : Addr} {fd_links_of : FuncData} (D_links_of : Fun K "links_of" "links_of" (top 12) f_links_of fd_links_of) (g_links_of : mg "links_of" = some (.ref f_links_of))
    {f__law_at : Addr} {fd__law_at : FuncData} (D__law_at : Fun K "_law_at" "_law_at" (top 15) f__law_at fd__law_at) (g__law_at : mg "_law_at" = some (.ref f__law_at))
    {f__law_mixed : Addr} {fd__law_mixed : FuncData} (D__law_mixed : Fun K "_law_mixed" "_law_mixed" (top 16) f__law_mixed fd__law_mixed) (g__law_mixed : mg "_law_mixed" = some (.ref f__law_mixed))
    {f__law_purse : Addr} {fd__law_purse : FuncData} (D__law_purse : Fun K "_law_purse" "_law_purse" (top 17) f__law_purse fd__law_purse) (g__law_purse : mg "_law_purse" = some (.ref f__law_purse))
    {f__law_draw : Addr} {fd__law_draw : FuncData} (D__law_draw : Fun K "_law_draw" "_law_draw" (top 18) f__law_draw fd__law_draw) (g__law_draw : mg "_law_draw" = some (.ref f__law_draw))
    {f__law_links : Addr} {fd__law_links : FuncData} (D__law_links : Fun K "_law_links" "_law_links" (top 19) f__law_links fd__law_links) (g__law_links : mg "_law_links" = some (.ref f__law_links))
    {f__law_order : Addr} {fd__law_order : FuncData} (D__law_order : Fun K "_law_order" "_law_order" (top 20) f__law_order fd__law_order) (g__law_order : mg "_law_order" = some (.ref f__law_order))
    {f__law_names : Addr} {fd__law_names : FuncData} (D__law_names : Fun K "_law_names" "_law_names" (top 21) f__law_names fd__law_names) (g__law_names : mg "_law_names" = some (.ref f__law_names))
    {f__law_model : Addr} {fd__law_model : FuncData} (D__law_model : Fun K "_law_model" "_law_model" (top 22) f__law_model fd__law_model) (g__law_model : mg "_law_model" = some (.ref f__law_model))
    {f__law_fits : Addr} {fd__law_fits : FuncData} (D__law_fits : Fun K "_law_fits" "_law_fits" (top 23) f__law_fits fd__law_fits) (g__law_fits : mg "_law_fits" = some (.ref f__law_fits))
    {f__law_is_name : Addr} {fd__law_is_name : FuncData} (D__law_is_name : Fun K "_law_is_name" "_law_is_name" (top 27) f__law_is_name fd__law_is_name) (g__law_is_name : mg "_law_is_name" = some (.ref f__law_is_name))
    {f__law_is_sentence : Addr} {fd__law_is_sentence : FuncData} (D__law_is_sentence : Fun K "_law_is_sentence" "_law_is_sentence" (top 28) f__law_is_sentence fd__law_is_sentence) (g__law_is_sentence : mg "_law_is_sentence" = some (.ref f__law_is_sentence))
    {f__law_due : Addr} {fd__law_due : FuncData} (D__law_due : Fun K "_law_due" "_law_due" (top 29) f__law_due fd__law_due) (g__law_due : mg "_law_due" = some (.ref f__law_due))
    {f__law_odd : Addr} {fd__law_odd : FuncData} (D__law_odd : Fun K "_law_odd" "_law_odd" (top 30) f__law_odd fd__law_odd) (g__law_odd : mg "_law_odd" = some (.ref f__law_odd))
    {f__law_drawn : Addr} {fd__law_drawn : FuncData} (D__law_drawn : Fun K "_law_drawn" "_law_drawn" (top 32) f__law_drawn fd__law_drawn) (g__law_drawn : mg "_law_drawn" = some (.ref f__law_drawn))
    {f_check_tale : Addr} {fd_check_tale : FuncData} (D_check_tale : Fun K "check_tale" "check_tale" (top 13) f_check_tale fd_check_tale) (g_check_tale : mg "check_tale" = some (.ref f_check_tale))
    {f__law_bent : Addr} {fd__law_bent : FuncData} (D__law_bent : Fun K "_law_bent" "_law_bent" (top 31) f__law_bent fd__law_bent) (g__law_bent : mg "_law_bent" = some (.ref f__law_bent))
    (kb : ∀ (s : Shared) (ws : List Value), K.In s.heap → ws.length = 1 → BindsTo s fd_check_tale ⟨[], (["thing"] : List Str).zip ws⟩ ((["thing"] : List Str).zip ws))
    (f a : Addr) (ns : List Int) (hl : ns.length ≤ 63) : BodyAt P w K mg ["script", "at", "names", "one", "line", "long", "purse", "turn", "value", "bend", "held", "due", "told", "other", "name"] "law" "law" (top 33) f a ns := by
  intro base cdv s H inB nsB hS
  have b_init := F_m_init.binds (ps := ["self"]) fun _ _ _ _ _ _ us hl => match us, hl with | [_], _ => rfl
  have b_add := F_m_add.binds (ps := ["self", "moment"]) fun _ _ _ _ _ _ us hl => match us, hl with | [_, _], _ => rfl
  have b_is_before := F_m_is_before.binds (ps := ["self", "one", "other"]) fun _ _ _ _ _ _ us hl => match us, hl with | [_, _, _], _ => rfl
  have b_bits_of := F_m_bits_of.binds (ps := ["self", "group"]) fun _ _ _ _ _ _ us hl => match us, hl with | [_, _], _ => rfl
  have b_add_same := F_m_add_same.binds (ps := ["self", "one", "other"]) fun _ _ _ _ _ _ us hl => match us, hl with | [_, _, _], _ => rfl
  have b_add_before := F_m_add_before.binds (ps := ["self", "one", "other"]) fun _ _ _ _ _ _ us hl => match us, hl with | [_, _, _], _ => rfl
  have b_add_link := F_m_add_link.binds (ps := ["self", "link"]) fun _ _ _ _ _ _ us hl => match us, hl with | [_, _], _ => rfl
  have G_init := ok_init (P := P) (w := w) (base := base) F_m_init T
  have G_add := ok_add (P := P) (w := w) (base := base) F_m_add T
  have G_is_before : FnOk P w K mg base CX0 1 f_is_before fd_is_before ["self", "one", "other"] (fun vs H Q _ => SpF K (F_is_before C) vs H Q E00) := (run_Relations_is_before F_m_is_before T).imp fun vs H Q E h => SpF.imp (pureF_of eq_is_before) h
  have G_bits_of : FnOk P w K mg base CX0 1 f_bits_of fd_bits_of ["self", "group"] (fun vs H Q _ => SpF K (F_bits_of C) vs H Q E00) := (run_Relations_bits_of F_m_bits_of T).imp fun vs H Q E h => SpF.imp (pureF_of eq_bits_of) h
  have G_add_same : FnOk P w K mg base CX0 2 f_add_same fd_add_same ["self", "one", "other"] (SpR K C F_add_same) := (run_Relations_add_same F_m_add_same T G_bits_of b_bits_of m_bits_of G_is_before b_is_before m_is_before G_add b_add m_add).imp fun vs H Q E h => SpR.imp F_add_same_le h
  have G_add_before : FnOk P w K mg base CX0 2 f_add_before fd_add_before ["self", "one", "other"] (SpR K C F_add_before) := (run_Relations_add_before F_m_add_before T G_bits_of b_bits_of m_bits_of G_is_before b_is_before m_is_before G_add b_add m_add).imp fun vs H Q E h => SpR.imp F_add_before_le h
  have G_add_link : FnOk P w K mg base CX0 3 f_add_link fd_add_link ["self", "link"] (SpR K C F_add_link) := (run_Relations_add_link F_m_add_link T G_add_before b_add_before m_add_before G_add_same b_add_same m_add_same).imp fun vs H Q E h => SpR.imp F_add_link_le h
  have b_is_name := D_is_name.binds (ps := ["thing"]) fun _ _ _ _ _ _ us hl => match us, hl with | [_], _ => rfl
  have G_is_name : FnOk P w K mg base CX0 1 f_is_name fd_is_name ["thing"] (fun vs H Q _ => SpF K F_is_name vs H Q E00) := (run_is_name D_is_name T  ).imp fun vs H Q E h => SpF.imp (pureF_of eq_is_name) h
  have b_is_sentence := D_is_sentence.binds (ps := ["thing"]) fun _ _ _ _ _ _ us hl => match us, hl with | [_], _ => rfl
  have G_is_sentence : FnOk P w K mg base CX0 2 f_is_sentence fd_is_sentence ["thing"] (fun vs H Q _ => SpF K F_is_sentence vs H Q E00) := (run_is_sentence D_is_sentence T G_is_name b_is_name g_is_name D_is_name.kp).imp fun vs H Q E h => SpF.imp (pureF_of eq_is_sentence) h
  have b_link_of := D_link_of.binds (ps := ["stand", "sentence"]) fun _ _ _ _ _ _ us hl => match us, hl with | [_, _], _ => rfl
  have G_link_of : FnOk P w K mg base CX0 1 f_link_of fd_link_of ["stand", "sentence"] (fun vs H Q _ => SpF K F_link_of vs H Q E00) := (run_link_of D_link_of T  ).imp fun vs H Q E h => SpF.imp (pureF_of eq_link_of) h
  have b_stands_of := D_stands_of.binds (ps := ["sentences"]) fun _ _ _ _ _ _ us hl => match us, hl with | [_], _ => rfl
  have G_stands_of : FnOk P w K mg base CX0 1 f_stands_of fd_stands_of ["sentences"] (fun vs H Q _ => SpF K F_stands_of vs H Q E00) := (run_stands_of D_stands_of T  ).imp fun vs H Q E h => SpF.imp (pureF_of eq_stands_of) h
  have b_links_of := D_links_of.binds (ps := ["sentences"]) fun _ _ _ _ _ _ us hl => match us, hl with | [_], _ => rfl
  have G_links_of : FnOk P w K mg base CX0 2 f_links_of fd_links_of ["sentences"] (fun vs H Q _ => SpF K F_links_of vs H Q E00) := (run_links_of D_links_of T G_stands_of b_stands_of G_link_of b_link_of g_stands_of D_stands_of.kp g_link_of D_link_of.kp).imp fun vs H Q E h => SpF.imp (pureF_of eq_links_of) h
  have b__law_at := D__law_at.binds (ps := ["script", "k"]) fun _ _ _ _ _ _ us hl => match us, hl with | [_, _], _ => rfl
  have G__law_at : FnOk P w K mg base CX0 1 f__law_at fd__law_at ["script", "k"] (fun vs H Q _ => SpF K F_law_at vs H Q E00) := (run__law_at D__law_at T  ).imp fun vs H Q E h => SpF.imp (pureF_of eq_law_at) h
  have b__law_mixed := D__law_mixed.binds (ps := ["cell", "k"]) fun _ _ _ _ _ _ us hl => match us, hl with | [_, _], _ => rfl
  have G__law_mixed : FnOk P w K mg base CX0 1 f__law_mixed fd__law_mixed ["cell", "k"] (fun vs H Q _ => SpF K F_law_mixed vs H Q E00) := (run__law_mixed D__law_mixed T  ).imp fun vs H Q E h => SpF.imp (pureF_of eq_law_mixed) h
  have b__law_purse := D__law_purse.binds (ps := ["script", "at"]) fun _ _ _ _ _ _ us hl => match us, hl with | [_, _], _ => rfl
  have G__law_purse : FnOk P w K mg base CX0 2 f__law_purse fd__law_purse ["script", "at"] (fun vs H Q _ => SpF K F_law_purse vs H Q E00) := (run__law_purse D__law_purse T G__law_at b__law_at g__law_at D__law_at.kp).imp fun vs H Q E h => SpF.imp (pureF_of eq_law_purse) h
  have b__law_draw := D__law_draw.binds (ps := ["purse", "out_of"]) fun _ _ _ _ _ _ us hl => match us, hl with | [_, _], _ => rfl
  have G__law_draw : FnOk P w K mg base CX0 2 f__law_draw fd__law_draw ["purse", "out_of"] (fun vs H Q _ => SpF K F_law_draw vs H Q E00) := (run__law_draw D__law_draw T G__law_mixed b__law_mixed g__law_mixed D__law_mixed.kp).imp fun vs H Q E h => SpF.imp (ownF_of eq_law_draw) h
  have b__law_links := D__law_links.binds (ps := ["sentences"]) fun _ _ _ _ _ _ us hl => match us, hl with | [_], _ => rfl
  have G__law_links : FnOk P w K mg base CX0 1 f__law_links fd__law_links ["sentences"] (fun vs H Q _ => SpF K F_law_links vs H Q E00) := (run__law_links D__law_links T  ).imp fun vs H Q E h => SpF.imp (pureF_of eq_law_links) h
  have b__law_order := D__law_order.binds (ps := ["names", "links"]) fun _ _ _ _ _ _ us hl => match us, hl with | [_, _], _ => rfl
  have G__law_order : FnOk P w K mg base CX0 1 f__law_order fd__law_order ["names", "links"] (fun vs H Q _ => SpF K F_law_order vs H Q E00) := (BO.run_law_order D__law_order T  ).imp fun vs H Q E h => SpF.imp (pureF_of eq_law_order) h
  have b__law_names := D__law_names.binds (ps := ["sentences"]) fun _ _ _ _ _ _ us hl => match us, hl with | [_], _ => rfl
  have G__law_names : FnOk P w K mg base CX0 1 f__law_names fd__law_names ["sentences"] (fun vs H Q _ => SpF K F_law_names vs H Q E00) := (run__law_names D__law_names T  ).imp fun vs H Q E h => SpF.imp (pureF_of eq_law_names) h
  have b__law_model := D__law_model.binds (ps := ["sentences"]) fun _ _ _ _ _ _ us hl => match us, hl with | [_], _ => rfl
  have G__law_model : FnOk P w K mg base CX0 2 f__law_model fd__law_model ["sentences"] (fun vs H Q _ => SpF K F_law_model vs H Q E00) := (run__law_model D__law_model T G__law_order b__law_order G__law_names b__law_names G__law_links b__law_links g__law_order D__law_order.kp g__law_names D__law_names.kp g__law_links D__law_links.kp).imp fun vs H Q E h => SpF.imp (pureF_of eq_law_model) h
  have b__law_fits := D__law_fits.binds (ps := ["sentences"]) fun _ _ _ _ _ _ us hl => match us, hl with | [_], _ => rfl
  have G__law_fits : FnOk P w K mg base CX0 4 f__law_fits fd__law_fits ["sentences"] (fun vs H Q _ => SpF K F_fits vs H Q E00) := (run__law_fits D__law_fits T (G__law_model.mono (by decide)) b__law_model g__law_model D__law_model.kp).imp fun vs H Q E h => SpF.imp (pureF_of eq_law_fits) h
  have b__law_is_name := D__law_is_name.binds (ps := ["value"]) fun _ _ _ _ _ _ us hl => match us, hl with | [_], _ => rfl
  have G__law_is_name : FnOk P w K mg base CX0 1 f__law_is_name fd__law_is_name ["value"] (fun vs H Q _ => SpF K F_law_is_name vs H Q E00) := (run__law_is_name D__law_is_name T  ).imp fun vs H Q E h => SpF.imp (pureF_of eq_law_is_name) h
  have b__law_is_sentence := D__law_is_sentence.binds (ps := ["value"]) fun _ _ _ _ _ _ us hl => match us, hl with | [_], _ => rfl
  have G__law_is_sentence : FnOk P w K mg base CX0 2 f__law_is_sentence fd__law_is_sentence ["value"] (fun vs H Q _ => SpF K F_law_is_sentence vs H Q E00) := (run__law_is_sentence D__law_is_sentence T G__law_is_name b__law_is_name g__law_is_name D__law_is_name.kp).imp fun vs H Q E h => SpF.imp (pureF_of eq_law_is_sentence) h
  have b__law_due := D__law_due.binds (ps := ["value"]) fun _ _ _ _ _ _ us hl => match us, hl with | [_], _ => rfl
  have G__law_due : FnOk P w K mg base CX0 5 f__law_due fd__law_due ["value"] (fun vs H Q _ => SpF K F_due vs H Q E00) := (run__law_due D__law_due T G__law_fits b__law_fits G__law_is_sentence b__law_is_sentence g__law_fits D__law_fits.kp g__law_is_sentence D__law_is_sentence.kp).imp fun vs H Q E h => SpF.imp (pureF_of eq_law_due) h
  have b__law_odd := D__law_odd.binds (ps := ["purse"]) fun _ _ _ _ _ _ us hl => match us, hl with | [_], _ => rfl
  have G__law_odd : FnOk P w K mg base CX0 3 f__law_odd fd__law_odd ["purse"] (fun vs H Q _ => SpF K F_law_odd vs H Q E00) := (run__law_odd D__law_odd T G__law_draw b__law_draw g__law_draw D__law_draw.kp).imp fun vs H Q E h => SpF.imp (ownF_of eq_law_odd) h
  have b__law_drawn := D__law_drawn.binds (ps := ["purse"]) fun _ _ _ _ _ _ us hl => match us, hl with | [_], _ => rfl
  have G__law_drawn : FnOk P w K mg base CX0 3 f__law_drawn fd__law_drawn ["purse"] (fun vs H Q _ => SpF K F_law_drawn vs H Q E00) := (run__law_drawn D__law_drawn T G__law_draw b__law_draw g__law_draw D__law_draw.kp).imp fun vs H Q E h => SpF.imp (ownF_of eq_law_drawn) h
  have b_check_tale := D_check_tale.binds (ps := ["thing"]) fun _ _ _ _ _ _ us hl => match us, hl with | [_], _ => rfl
  have G_check_tale : FnOk P w K mg base CX0 4 f_check_tale fd_check_tale ["thing"] (fun vs H Q _ => SpF K F_check_tale vs H Q E00) := (run_check_tale D_check_tale T G_links_of b_links_of G_is_sentence b_is_sentence G_init M_init b_init g_Relations G_add b_add m_add G_add_link b_add_link m_add_link g_links_of D_links_of.kp g_is_sentence D_is_sentence.kp).imp fun vs H Q E h => SpF.imp (pureF_of eq_check_tale) h
  have b__law_bent := D__law_bent.binds (ps := ["purse", "value"]) fun _ _ _ _ _ _ us hl => match us, hl with | [_, _], _ => rfl
  have G_none : FnOk P w K mg base CX0 4 f__law_bent fd__law_bent ["purse", "value"] (fun vs H Q _ => SpF K (fun _ => none) vs H Q E00) := ⟨fun vs H Q E ⟨_, _, _, z⟩ => z.elim, fun _ _ _ _ _ _ _ _ _ _ _ _ _ ⟨_, _, _, z⟩ => z.elim⟩
  have G_bent0 : FnOk P w K mg base CX0 5 f__law_bent fd__law_bent ["purse", "value"] (fun vs H Q _ => SpF K (F_bent 0) vs H Q E00) := (run__law_bent (lv := 4) (by decide) D__law_bent T G__law_draw b__law_draw G__law_odd b__law_odd G_none b__law_bent g__law_draw D__law_draw.kp g__law_odd D__law_odd.kp g__law_bent D__law_bent.kp).imp fun vs H Q E h => SpF.imp (ownF_of (eq_law_bent (n := 0) (fun m z => by cases z) (by decide))) h
  have G_bent1 : FnOk P w K mg base CX0 6 f__law_bent fd__law_bent ["purse", "value"] (fun vs H Q _ => SpF K (F_bent 1) vs H Q E00) := (run__law_bent (lv := 5) (by decide) D__law_bent T G__law_draw b__law_draw G__law_odd b__law_odd G_bent0 b__law_bent g__law_draw D__law_draw.kp g__law_odd D__law_odd.kp g__law_bent D__law_bent.kp).imp fun vs H Q E h => SpF.imp (ownF_of (eq_law_bent (n := 1) (fun m z => by cases z; rfl) (by decide))) h
  have G_bent2 : FnOk P w K mg base CX0 7 f__law_bent fd__law_bent ["purse", "value"] (fun vs H Q _ => SpF K (F_bent 2) vs H Q E00) := (run__law_bent (lv := 6) (by decide) D__law_bent T G__law_draw b__law_draw G__law_odd b__law_odd G_bent1 b__law_bent g__law_draw D__law_draw.kp g__law_odd D__law_odd.kp g__law_bent D__law_bent.kp).imp fun vs H Q E h => SpF.imp (ownF_of (eq_law_bent (n := 2) (fun m z => by cases z; rfl) (by decide))) h
  have G_bent3 : FnOk P w K mg base CX0 8 f__law_bent fd__law_bent ["purse", "value"] (fun vs H Q _ => SpF K (F_bent 3) vs H Q E00) := (run__law_bent (lv := 7) (by decide) D__law_bent T G__law_draw b__law_draw G__law_odd b__law_odd G_bent2 b__law_bent g__law_draw D__law_draw.kp g__law_odd D__law_odd.kp g__law_bent D__law_bent.kp).imp fun vs H Q E h => SpF.imp (ownF_of (eq_law_bent (n := 3) (fun m z => by cases z; rfl) (by decide))) h
  have PSL := ps_law T G__law_purse b__law_purse G_check_tale b_check_tale G__law_drawn b__law_drawn G__law_due b__law_due G_bent3 b__law_bent G__law_draw b__law_draw g__law_purse D__law_purse.kp g_check_tale D_check_tale.kp g__law_drawn D__law_drawn.kp g__law_due D__law_due.kp g__law_bent D__law_bent.kp g__law_draw D__law_draw.kp kb room9 f cdv s H
  obtain ⟨ρ', E⟩ := law_true (l := ns) (by omega)
  have R : runB 15 1 [] m_law ([D.lst (ns.map .int)].map .dt) = some (.val (.dt (.bl true)) ([D.lst (ns.map .int)].map .dt)) := runB_rt (ds := [.lst (ns.map .int)]) E rfl (by decide)
  have dtInts : ∀ (G : Hp) (ns : List Int), DtL K G (ns.map V.int) (ns.map D.int) := fun G ns => by
    induction ns with
    | nil => exact .nil
    | cons n ns ih => exact .cons (.int n) ih
  have hv : DtL K H [.ref a] [D.lst (ns.map .int)] := .cons (.lst hS (dtInts H ns)) .nil
  have sp : SpF K (runB 15 1 [] m_law) [.ref a] H (fun v _ => v = .bl true) E00 := by
    refine ⟨H, [D.lst (ns.map .int)].map .dt, EnvOk.args (Same.refl H) hv, ?_⟩
    rw [R]
    intro v G' H' ok' _
    obtain ⟨u, e1, e2⟩ := ok'.dt 1 (.bl true) rfl
    have e3 : u = v := by cases e1; rfl
    subst e3
    cases e2
    rfl
  obtain ⟨pn, hpn, t⟩ := body_of (N := ["script", "at", "names", "one", "line", "long", "purse", "turn", "value", "bend", "held", "due", "told", "other", "name"]) (ps := ["script"]) sp
  have e := pnil hpn
  subst e
  exact ⟨_, PSL, t⟩
end BK

namespace BK
open PySem L2 BT BO
theorem all_mk {P : Program} {w : World} {K : PySem.W.Frag} {h : Heap} {mg : Str → Option Value} {fa C aW aM f_minit f_madd f_mis_before f_mbits_of f_madd_same f_madd_before f_madd_link f_is_name f_is_sentence f_link_of f_stands_of f_links_of f_check_tale f__law_at f__law_mixed f__law_purse f__law_draw f__law_links f__law_order f__law_names f__law_model f__law_fits f__law_is_name f__law_is_sentence f__law_due f__law_odd f__law_drawn f__law_bent f_law : Addr} (X : K.In h) (G : h.Ns mainGlobals mg) (hfa : mg "law" = some (.ref fa))
    (aC : PySem.W.nsIn K mainGlobals "Relations" = some (some (.ref C)))
    (a_minit : PySem.W.findIn K (.ref C) "__init__" = some (some (.ref f_minit)))
    (i_minit : PySem.W.isFn K (.ref f_minit) = true)
    {od_minit an_minit : Option Addr} {sl_minit : Array (Option Value)} {oc_minit kV_minit dc_minit pm_minit cd_minit ct_minit : Value}
    (l_minit : K.lookup f_minit = some ⟨oc_minit, od_minit, .func (PySem.W.fnOf "__init__" "Relations.__init__" (defArgs (inClass (top 2) 0)) (defBody (inClass (top 2) 0)) (defScope (inClass (top 2) 0)) .none kV_minit dc_minit pm_minit an_minit cd_minit ct_minit), sl_minit⟩) (c_minit : PySem.W.codeIn K cd_minit "Relations.__init__" = true) (k_minit : PySem.W.keepIn K (.ref f_minit) = true)
    (a_madd : PySem.W.findIn K (.ref C) "add" = some (some (.ref f_madd)))
    (i_madd : PySem.W.isFn K (.ref f_madd) = true)
    {od_madd an_madd : Option Addr} {sl_madd : Array (Option Value)} {oc_madd kV_madd dc_madd pm_madd cd_madd ct_madd : Value}
    (l_madd : K.lookup f_madd = some ⟨oc_madd, od_madd, .func (PySem.W.fnOf "add" "Relations.add" (defArgs (inClass (top 2) 1)) (defBody (inClass (top 2) 1)) (defScope (inClass (top 2) 1)) .none kV_madd dc_madd pm_madd an_madd cd_madd ct_madd), sl_madd⟩) (c_madd : PySem.W.codeIn K cd_madd "Relations.add" = true) (k_madd : PySem.W.keepIn K (.ref f_madd) = true)
    (a_mis_before : PySem.W.findIn K (.ref C) "is_before" = some (some (.ref f_mis_before)))
    (i_mis_before : PySem.W.isFn K (.ref f_mis_before) = true)
    {od_mis_before an_mis_before : Option Addr} {sl_mis_before : Array (Option Value)} {oc_mis_before kV_mis_before dc_mis_before pm_mis_before cd_mis_before ct_mis_before : Value}
    (l_mis_before : K.lookup f_mis_before = some ⟨oc_mis_before, od_mis_before, .func (PySem.W.fnOf "is_before" "Relations.is_before" (defArgs (inClass (top 2) 2)) (defBody (inClass (top 2) 2)) (defScope (inClass (top 2) 2)) .none kV_mis_before dc_mis_before pm_mis_before an_mis_before cd_mis_before ct_mis_before), sl_mis_before⟩) (c_mis_before : PySem.W.codeIn K cd_mis_before "Relations.is_before" = true) (k_mis_before : PySem.W.keepIn K (.ref f_mis_before) = true)
    (a_mbits_of : PySem.W.findIn K (.ref C) "bits_of" = some (some (.ref f_mbits_of)))
    (i_mbits_of : PySem.W.isFn K (.ref f_mbits_of) = true)
    {od_mbits_of an_mbits_of : Option Addr} {sl_mbits_of : Array (Option Value)} {oc_mbits_of kV_mbits_of dc_mbits_of pm_mbits_of cd_mbits_of ct_mbits_of : Value}
    (l_mbits_of : K.lookup f_mbits_of = some ⟨oc_mbits_of, od_mbits_of, .func (PySem.W.fnOf "bits_of" "Relations.bits_of" (defArgs (inClass (top 2) 3)) (defBody (inClass (top 2) 3)) (defScope (inClass (top 2) 3)) .none kV_mbits_of dc_mbits_of pm_mbits_of an_mbits_of cd_mbits_of ct_mbits_of), sl_mbits_of⟩) (c_mbits_of : PySem.W.codeIn K cd_mbits_of "Relations.bits_of" = true) (k_mbits_of : PySem.W.keepIn K (.ref f_mbits_of) = true)
    (a_madd_same : PySem.W.findIn K (.ref C) "add_same" = some (some (.ref f_madd_same)))
    (i_madd_same : PySem.W.isFn K (.ref f_madd_same) = true)
    {od_madd_same an_madd_same : Option Addr} {sl_madd_same : Array (Option Value)} {oc_madd_same kV_madd_same dc_madd_same pm_madd_same cd_madd_same ct_madd_same : Value}
    (l_madd_same : K.lookup f_madd_same = some ⟨oc_madd_same, od_madd_same, .func (PySem.W.fnOf "add_same" "Relations.add_same" (defArgs (inClass (top 2) 4)) (defBody (inClass (top 2) 4)) (defScope (inClass (top 2) 4)) .none kV_madd_same dc_madd_same pm_madd_same an_madd_same cd_madd_same ct_madd_same), sl_madd_same⟩) (c_madd_same : PySem.W.codeIn K cd_madd_same "Relations.add_same" = true) (k_madd_same : PySem.W.keepIn K (.ref f_madd_same) = true)
    (a_madd_before : PySem.W.findIn K (.ref C) "add_before" = some (some (.ref f_madd_before)))
    (i_madd_before : PySem.W.isFn K (.ref f_madd_before) = true)
    {od_madd_before an_madd_before : Option Addr} {sl_madd_before : Array (Option Value)} {oc_madd_before kV_madd_before dc_madd_before pm_madd_before cd_madd_before ct_madd_before : Value}
    (l_madd_before : K.lookup f_madd_before = some ⟨oc_madd_before, od_madd_before, .func (PySem.W.fnOf "add_before" "Relations.add_before" (defArgs (inClass (top 2) 5)) (defBody (inClass (top 2) 5)) (defScope (inClass (top 2) 5)) .none kV_madd_before dc_madd_before pm_madd_before an_madd_before cd_madd_before ct_madd_before), sl_madd_before⟩) (c_madd_before : PySem.W.codeIn K cd_madd_before "Relations.add_before" = true) (k_madd_before : PySem.W.keepIn K (.ref f_madd_before) = true)
    (a_madd_link : PySem.W.findIn K (.ref C) "add_link" = some (some (.ref f_madd_link)))
    (i_madd_link : PySem.W.isFn K (.ref f_madd_link) = true)
    {od_madd_link an_madd_link : Option Addr} {sl_madd_link : Array (Option Value)} {oc_madd_link kV_madd_link dc_madd_link pm_madd_link cd_madd_link ct_madd_link : Value}
    (l_madd_link : K.lookup f_madd_link = some ⟨oc_madd_link, od_madd_link, .func (PySem.W.fnOf "add_link" "Relations.add_link" (defArgs (inClass (top 2) 6)) (defBody (inClass (top 2) 6)) (defScope (inClass (top 2) 6)) .none kV_madd_link dc_madd_link pm_madd_link an_madd_link cd_madd_link ct_madd_link), sl_madd_link⟩) (c_madd_link : PySem.W.codeIn K cd_madd_link "Relations.add_link" = true) (k_madd_link : PySem.W.keepIn K (.ref f_madd_link) = true)
    (a_is_name : PySem.W.nsIn K mainGlobals "is_name" = some (some (.ref f_is_name)))
    {od_is_name an_is_name : Option Addr} {sl_is_name : Array (Option Value)} {oc_is_name kV_is_name dc_is_name pm_is_name cd_is_name ct_is_name : Value}
    (l_is_name : K.lookup f_is_name = some ⟨oc_is_name, od_is_name, .func (PySem.W.fnOf "is_name" "is_name" (defArgs (top 8)) (defBody (top 8)) (defScope (top 8)) .none kV_is_name dc_is_name pm_is_name an_is_name cd_is_name ct_is_name), sl_is_name⟩) (c_is_name : PySem.W.codeIn K cd_is_name "is_name" = true) (k_is_name : PySem.W.keepIn K (.ref f_is_name) = true)
    (a_is_sentence : PySem.W.nsIn K mainGlobals "is_sentence" = some (some (.ref f_is_sentence)))
    {od_is_sentence an_is_sentence : Option Addr} {sl_is_sentence : Array (Option Value)} {oc_is_sentence kV_is_sentence dc_is_sentence pm_is_sentence cd_is_sentence ct_is_sentence : Value}
    (l_is_sentence : K.lookup f_is_sentence = some ⟨oc_is_sentence, od_is_sentence, .func (PySem.W.fnOf "is_sentence" "is_sentence" (defArgs (top 9)) (defBody (top 9)) (defScope (top 9)) .none kV_is_sentence dc_is_sentence pm_is_sentence an_is_sentence cd_is_sentence ct_is_sentence), sl_is_sentence⟩) (c_is_sentence : PySem.W.codeIn K cd_is_sentence "is_sentence" = true) (k_is_sentence : PySem.W.keepIn K (.ref f_is_sentence) = true)
    (a_link_of : PySem.W.nsIn K mainGlobals "link_of" = some (some (.ref f_link_of)))
    {od_link_of an_link_of : Option Addr} {sl_link_of : Array (Option Value)} {oc_link_of kV_link_of dc_link_of pm_link_of cd_link_of ct_link_of : Value}
    (l_link_of : K.lookup f_link_of = some ⟨oc_link_of, od_link_of, .func (PySem.W.fnOf "link_of" "link_of" (defArgs (top 10)) (defBody (top 10)) (defScope (top 10)) .none kV_link_of dc_link_of pm_link_of an_link_of cd_link_of ct_link_of), sl_link_of⟩) (c_link_of : PySem.W.codeIn K cd_link_of "link_of" = true) (k_link_of : PySem.W.keepIn K (.ref f_link_of) = true)
    (a_stands_of : PySem.W.nsIn K mainGlobals "stands_of" = some (some (.ref f_stands_of)))
    {od_stands_of an_stands_of : Option Addr} {sl_stands_of : Array (Option Value)} {oc_stands_of kV_stands_of dc_stands_of pm_stands_of cd_stands_of ct_stands_of : Value}
    (l_stands_of : K.lookup f_stands_of = some ⟨oc_stands_of, od_stands_of, .func (PySem.W.fnOf "stands_of" "stands_of" (defArgs (top 11)) (defBody (top 11)) (defScope (top 11)) .none kV_stands_of dc_stands_of pm_stands_of an_stands_of cd_stands_of ct_stands_of), sl_stands_of⟩) (c_stands_of : PySem.W.codeIn K cd_stands_of "stands_of" = true) (k_stands_of : PySem.W.keepIn K (.ref f_stands_of) = true)
    (a_links_of : PySem.W.nsIn K mainGlobals "links_of" = some (some (.ref f_links_of)))
    {od_links_of an_links_of : Option Addr} {sl_links_of : Array (Option Value)} {oc_links_of kV_links_of dc_links_of pm_links_of cd_links_of ct_links_of : Value}
    (l_links_of : K.lookup f_links_of = some ⟨oc_links_of, od_links_of, .func (PySem.W.fnOf "links_of" "links_of" (defArgs (top 12)) (defBody (top 12)) (defScope (top 12)) .none kV_links_of dc_links_of pm_links_of an_links_of cd_links_of ct_links_of), sl_links_of⟩) (c_links_of : PySem.W.codeIn K cd_links_of "links_of" = true) (k_links_of : PySem.W.keepIn K (.ref f_links_of) = true)
    (a_check_tale : PySem.W.nsIn K mainGlobals "check_tale" = some (some (.ref f_check_tale)))
    {od_check_tale an_check_tale : Option Addr} {sl_check_tale : Array (Option Value)} {oc_check_tale kV_check_tale dc_check_tale pm_check_tale cd_check_tale ct_check_tale : Value}
    (l_check_tale : K.lookup f_check_tale = some ⟨oc_check_tale, od_check_tale, .func (PySem.W.fnOf "check_tale" "check_tale" (defArgs (top 13)) (defBody (top 13)) (defScope (top 13)) .none kV_check_tale dc_check_tale pm_check_tale an_check_tale cd_check_tale ct_check_tale), sl_check_tale⟩) (c_check_tale : PySem.W.codeIn K cd_check_tale "check_tale" = true) (k_check_tale : PySem.W.keepIn K (.ref f_check_tale) = true)
    (a__law_at : PySem.W.nsIn K mainGlobals "_law_at" = some (some (.ref f__law_at)))
    {od__law_at an__law_at : Option Addr} {sl__law_at : Array (Option Value)} {oc__law_at kV__law_at dc__law_at pm__law_at cd__law_at ct__law_at : Value}
    (l__law_at : K.lookup f__law_at = some ⟨oc__law_at, od__law_at, .func (PySem.W.fnOf "_law_at" "_law_at" (defArgs (top 15)) (defBody (top 15)) (defScope (top 15)) .none kV__law_at dc__law_at pm__law_at an__law_at cd__law_at ct__law_at), sl__law_at⟩) (c__law_at : PySem.W.codeIn K cd__law_at "_law_at" = true) (k__law_at : PySem.W.keepIn K (.ref f__law_at) = true)
    (a__law_mixed : PySem.W.nsIn K mainGlobals "_law_mixed" = some (some (.ref f__law_mixed)))
    {od__law_mixed an__law_mixed : Option Addr} {sl__law_mixed : Array (Option Value)} {oc__law_mixed kV__law_mixed dc__law_mixed pm__law_mixed cd__law_mixed ct__law_mixed : Value}
    (l__law_mixed : K.lookup f__law_mixed = some ⟨oc__law_mixed, od__law_mixed, .func (PySem.W.fnOf "_law_mixed" "_law_mixed" (defArgs (top 16)) (defBody (top 16)) (defScope (top 16)) .none kV__law_mixed dc__law_mixed pm__law_mixed an__law_mixed cd__law_mixed ct__law_mixed), sl__law_mixed⟩) (c__law_mixed : PySem.W.codeIn K cd__law_mixed "_law_mixed" = true) (k__law_mixed : PySem.W.keepIn K (.ref f__law_mixed) = true)
    (a__law_purse : PySem.W.nsIn K mainGlobals "_law_purse" = some (some (.ref f__law_purse)))
    {od__law_purse an__law_purse : Option Addr} {sl__law_purse : Array (Option Value)} {oc__law_purse kV__law_purse dc__law_purse pm__law_purse cd__law_purse ct__law_purse : Value}
    (l__law_purse : K.lookup f__law_purse = some ⟨oc__law_purse, od__law_purse, .func (PySem.W.fnOf "_law_purse" "_law_purse" (defArgs (top 17)) (defBody (top 17)) (defScope (top 17)) .none kV__law_purse dc__law_purse pm__law_purse an__law_purse cd__law_purse ct__law_purse), sl__law_purse⟩) (c__law_purse : PySem.W.codeIn K cd__law_purse "_law_purse" = true) (k__law_purse : PySem.W.keepIn K (.ref f__law_purse) = true)
    (a__law_draw : PySem.W.nsIn K mainGlobals "_law_draw" = some (some (.ref f__law_draw)))
    {od__law_draw an__law_draw : Option Addr} {sl__law_draw : Array (Option Value)} {oc__law_draw kV__law_draw dc__law_draw pm__law_draw cd__law_draw ct__law_draw : Value}
    (l__law_draw : K.lookup f__law_draw = some ⟨oc__law_draw, od__law_draw, .func (PySem.W.fnOf "_law_draw" "_law_draw" (defArgs (top 18)) (defBody (top 18)) (defScope (top 18)) .none kV__law_draw dc__law_draw pm__law_draw an__law_draw cd__law_draw ct__law_draw), sl__law_draw⟩) (c__law_draw : PySem.W.codeIn K cd__law_draw "_law_draw" = true) (k__law_draw : PySem.W.keepIn K (.ref f__law_draw) = true)
    (a__law_links : PySem.W.nsIn K mainGlobals "_law_links" = some (some (.ref f__law_links)))
    {od__law_links an__law_links : Option Addr} {sl__law_links : Array (Option Value)} {oc__law_links kV__law_links dc__law_links pm__law_links cd__law_links ct__law_links : Value}
    (l__law_links : K.lookup f__law_links = some ⟨oc__law_links, od__law_links, .func (PySem.W.fnOf "_law_links" "_law_links" (defArgs (top 19)) (defBody (top 19)) (defScope (top 19)) .none kV__law_links dc__law_links pm__law_links an__law_links cd__law_links ct__law_links), sl__law_links⟩) (c__law_links : PySem.W.codeIn K cd__law_links "_law_links" = true) (k__law_links : PySem.W.keepIn K (.ref f__law_links) = true)
    (a__law_order : PySem.W.nsIn K mainGlobals "_law_order" = some (some (.ref f__law_order)))
    {od__law_order an__law_order : Option Addr} {sl__law_order : Array (Option Value)} {oc__law_order kV__law_order dc__law_order pm__law_order cd__law_order ct__law_order : Value}
    (l__law_order : K.lookup f__law_order = some ⟨oc__law_order, od__law_order, .func (PySem.W.fnOf "_law_order" "_law_order" (defArgs (top 20)) (defBody (top 20)) (defScope (top 20)) .none kV__law_order dc__law_order pm__law_order an__law_order cd__law_order ct__law_order), sl__law_order⟩) (c__law_order : PySem.W.codeIn K cd__law_order "_law_order" = true) (k__law_order : PySem.W.keepIn K (.ref f__law_order) = true)
    (a__law_names : PySem.W.nsIn K mainGlobals "_law_names" = some (some (.ref f__law_names)))
    {od__law_names an__law_names : Option Addr} {sl__law_names : Array (Option Value)} {oc__law_names kV__law_names dc__law_names pm__law_names cd__law_names ct__law_names : Value}
    (l__law_names : K.lookup f__law_names = some ⟨oc__law_names, od__law_names, .func (PySem.W.fnOf "_law_names" "_law_names" (defArgs (top 21)) (defBody (top 21)) (defScope (top 21)) .none kV__law_names dc__law_names pm__law_names an__law_names cd__law_names ct__law_names), sl__law_names⟩) (c__law_names : PySem.W.codeIn K cd__law_names "_law_names" = true) (k__law_names : PySem.W.keepIn K (.ref f__law_names) = true)
    (a__law_model : PySem.W.nsIn K mainGlobals "_law_model" = some (some (.ref f__law_model)))
    {od__law_model an__law_model : Option Addr} {sl__law_model : Array (Option Value)} {oc__law_model kV__law_model dc__law_model pm__law_model cd__law_model ct__law_model : Value}
    (l__law_model : K.lookup f__law_model = some ⟨oc__law_model, od__law_model, .func (PySem.W.fnOf "_law_model" "_law_model" (defArgs (top 22)) (defBody (top 22)) (defScope (top 22)) .none kV__law_model dc__law_model pm__law_model an__law_model cd__law_model ct__law_model), sl__law_model⟩) (c__law_model : PySem.W.codeIn K cd__law_model "_law_model" = true) (k__law_model : PySem.W.keepIn K (.ref f__law_model) = true)
    (a__law_fits : PySem.W.nsIn K mainGlobals "_law_fits" = some (some (.ref f__law_fits)))
    {od__law_fits an__law_fits : Option Addr} {sl__law_fits : Array (Option Value)} {oc__law_fits kV__law_fits dc__law_fits pm__law_fits cd__law_fits ct__law_fits : Value}
    (l__law_fits : K.lookup f__law_fits = some ⟨oc__law_fits, od__law_fits, .func (PySem.W.fnOf "_law_fits" "_law_fits" (defArgs (top 23)) (defBody (top 23)) (defScope (top 23)) .none kV__law_fits dc__law_fits pm__law_fits an__law_fits cd__law_fits ct__law_fits), sl__law_fits⟩) (c__law_fits : PySem.W.codeIn K cd__law_fits "_law_fits" = true) (k__law_fits : PySem.W.keepIn K (.ref f__law_fits) = true)
    (a__law_is_name : PySem.W.nsIn K mainGlobals "_law_is_name" = some (some (.ref f__law_is_name)))
    {od__law_is_name an__law_is_name : Option Addr} {sl__law_is_name : Array (Option Value)} {oc__law_is_name kV__law_is_name dc__law_is_name pm__law_is_name cd__law_is_name ct__law_is_name : Value}
    (l__law_is_name : K.lookup f__law_is_name = some ⟨oc__law_is_name, od__law_is_name, .func (PySem.W.fnOf "_law_is_name" "_law_is_name" (defArgs (top 27)) (defBody (top 27)) (defScope (top 27)) .none kV__law_is_name dc__law_is_name pm__law_is_name an__law_is_name cd__law_is_name ct__law_is_name), sl__law_is_name⟩) (c__law_is_name : PySem.W.codeIn K cd__law_is_name "_law_is_name" = true) (k__law_is_name : PySem.W.keepIn K (.ref f__law_is_name) = true)
    (a__law_is_sentence : PySem.W.nsIn K mainGlobals "_law_is_sentence" = some (some (.ref f__law_is_sentence)))
    {od__law_is_sentence an__law_is_sentence : Option Addr} {sl__law_is_sentence : Array (Option Value)} {oc__law_is_sentence kV__law_is_sentence dc__law_is_sentence pm__law_is_sentence cd__law_is_sentence ct__law_is_sentence : Value}
    (l__law_is_sentence : K.lookup f__law_is_sentence = some ⟨oc__law_is_sentence, od__law_is_sentence, .func (PySem.W.fnOf "_law_is_sentence" "_law_is_sentence" (defArgs (top 28)) (defBody (top 28)) (defScope (top 28)) .none kV__law_is_sentence dc__law_is_sentence pm__law_is_sentence an__law_is_sentence cd__law_is_sentence ct__law_is_sentence), sl__law_is_sentence⟩) (c__law_is_sentence : PySem.W.codeIn K cd__law_is_sentence "_law_is_sentence" = true) (k__law_is_sentence : PySem.W.keepIn K (.ref f__law_is_sentence) = true)
    (a__law_due : PySem.W.nsIn K mainGlobals "_law_due" = some (some (.ref f__law_due)))
    {od__law_due an__law_due : Option Addr} {sl__law_due : Array (Option Value)} {oc__law_due kV__law_due dc__law_due pm__law_due cd__law_due ct__law_due : Value}
    (l__law_due : K.lookup f__law_due = some ⟨oc__law_due, od__law_due, .func (PySem.W.fnOf "_law_due" "_law_due" (defArgs (top 29)) (defBody (top 29)) (defScope (top 29)) .none kV__law_due dc__law_due pm__law_due an__law_due cd__law_due ct__law_due), sl__law_due⟩) (c__law_due : PySem.W.codeIn K cd__law_due "_law_due" = true) (k__law_due : PySem.W.keepIn K (.ref f__law_due) = true)
    (a__law_odd : PySem.W.nsIn K mainGlobals "_law_odd" = some (some (.ref f__law_odd)))
    {od__law_odd an__law_odd : Option Addr} {sl__law_odd : Array (Option Value)} {oc__law_odd kV__law_odd dc__law_odd pm__law_odd cd__law_odd ct__law_odd : Value}
    (l__law_odd : K.lookup f__law_odd = some ⟨oc__law_odd, od__law_odd, .func (PySem.W.fnOf "_law_odd" "_law_odd" (defArgs (top 30)) (defBody (top 30)) (defScope (top 30)) .none kV__law_odd dc__law_odd pm__law_odd an__law_odd cd__law_odd ct__law_odd), sl__law_odd⟩) (c__law_odd : PySem.W.codeIn K cd__law_odd "_law_odd" = true) (k__law_odd : PySem.W.keepIn K (.ref f__law_odd) = true)
    (a__law_drawn : PySem.W.nsIn K mainGlobals "_law_drawn" = some (some (.ref f__law_drawn)))
    {od__law_drawn an__law_drawn : Option Addr} {sl__law_drawn : Array (Option Value)} {oc__law_drawn kV__law_drawn dc__law_drawn pm__law_drawn cd__law_drawn ct__law_drawn : Value}
    (l__law_drawn : K.lookup f__law_drawn = some ⟨oc__law_drawn, od__law_drawn, .func (PySem.W.fnOf "_law_drawn" "_law_drawn" (defArgs (top 32)) (defBody (top 32)) (defScope (top 32)) .none kV__law_drawn dc__law_drawn pm__law_drawn an__law_drawn cd__law_drawn ct__law_drawn), sl__law_drawn⟩) (c__law_drawn : PySem.W.codeIn K cd__law_drawn "_law_drawn" = true) (k__law_drawn : PySem.W.keepIn K (.ref f__law_drawn) = true)
    (a__law_bent : PySem.W.nsIn K mainGlobals "_law_bent" = some (some (.ref f__law_bent)))
    {od__law_bent an__law_bent : Option Addr} {sl__law_bent : Array (Option Value)} {oc__law_bent kV__law_bent dc__law_bent pm__law_bent cd__law_bent ct__law_bent : Value}
    (l__law_bent : K.lookup f__law_bent = some ⟨oc__law_bent, od__law_bent, .func (PySem.W.fnOf "_law_bent" "_law_bent" (defArgs (top 31)) (defBody (top 31)) (defScope (top 31)) .none kV__law_bent dc__law_bent pm__law_bent an__law_bent cd__law_bent ct__law_bent), sl__law_bent⟩) (c__law_bent : PySem.W.codeIn K cd__law_bent "_law_bent" = true) (k__law_bent : PySem.W.keepIn K (.ref f__law_bent) = true)
    (a_law : PySem.W.nsIn K mainGlobals "law" = some (some (.ref f_law)))
    {od_law an_law : Option Addr} {sl_law : Array (Option Value)} {oc_law kV_law dc_law pm_law cd_law ct_law : Value}
    (l_law : K.lookup f_law = some ⟨oc_law, od_law, .func (PySem.W.fnOf "law" "law" (defArgs (top 33)) (defBody (top 33)) (defScope (top 33)) .none kV_law dc_law pm_law an_law cd_law ct_law), sl_law⟩) (c_law : PySem.W.codeIn K cd_law "law" = true) (k_law : PySem.W.keepIn K (.ref f_law) = true)
    (pg : PySem.W.plainGet K C Str.empty = true)
    (hd : PySem.W.hasDictIn K C = true)
    (po : PySem.W.plainOver K C = true)
    (sa : PySem.W.findIn K (.ref C) "__setattr__" = some (some (.builtin "object.__setattr__")))
    (mk : PySem.W.makesIn K C = true)
    (kc : PySem.W.keepIn K (.ref C) = true)
    (n_together : PySem.W.findIn K (.ref C) "together" = some none)
    (n_numbers : PySem.W.findIn K (.ref C) "numbers" = some none)
    (n_later : PySem.W.findIn K (.ref C) "later" = some none)
    (z_len : PySem.W.nsIn K mainGlobals "len" = some none)
    (z_sum : PySem.W.nsIn K mainGlobals "sum" = some none)
    (z_any : PySem.W.nsIn K mainGlobals "any" = some none)
    (z_all : PySem.W.nsIn K mainGlobals "all" = some none)
    (z_tuple : PySem.W.nsIn K mainGlobals "tuple" = some none)
    (z_list : PySem.W.nsIn K mainGlobals "list" = some none)
    (z_int : PySem.W.nsIn K mainGlobals "int" = some none)
    (z_str : PySem.W.nsIn K mainGlobals "str" = some none)
    (z_max : PySem.W.nsIn K mainGlobals "max" = some none)
    (z_min : PySem.W.nsIn K mainGlobals "min" = some none)
    (z_isinstance : PySem.W.nsIn K mainGlobals "isinstance" = some none)
    (z_range : PySem.W.nsIn K mainGlobals "range" = some none)
    (z_enumerate : PySem.W.nsIn K mainGlobals "enumerate" = some none)
    (z_sorted : PySem.W.nsIn K mainGlobals "sorted" = some none)
    (z_set : PySem.W.nsIn K mainGlobals "set" = some none)
    (z_dict : PySem.W.nsIn K mainGlobals "dict" = some none)
    (z_zip : PySem.W.nsIn K mainGlobals "zip" = some none)
    {t1 t2 : Tok}
    (gL : PySem.W.nsIn K mainGlobals "LETTERS" = some (some (.str "abcdefghijklmnopqrstuvwxyz" t1)))
    (gN : PySem.W.nsIn K mainGlobals "MOST_LETTERS" = some (some (.int 8 t2)))
    {dW : Option Addr} {sW : Array (Option Value)} {itW : Array Value} {nW : Nat}
    (gW : PySem.W.nsIn K mainGlobals "WORDS" = some (some (.ref aW)))
    (lW : K.lookup aW = some ⟨.type "tuple", dW, .seq itW nW, sW⟩)
    (qW : itW.size ≤ sizeLine ∧ valsStr itW.toList = some (["at", "then", "back", "later", "earlier", "with"] : List Str))
    {dM : Option Addr} {sM : Array (Option Value)} {itM : Array Value} {nM : Nat}
    (gM : PySem.W.nsIn K mainGlobals "MOVING" = some (some (.ref aM)))
    (lM : K.lookup aM = some ⟨.type "tuple", dM, .seq itM nM, sM⟩)
    (qM : itM.size ≤ sizeLine ∧ valsStr itM.toList = some (["at", "then", "back"] : List Str)) :
    ∃ fd : FuncData, Fun K "law" "law" (top 33) fa fd ∧ (∀ (s : Shared) (u : Value), BindsTo s fd ⟨[u], []⟩ [("script", u)]) ∧ ∀ (a : Addr) (ns : List Int), ns.length ≤ 63 → BodyAt P w K mg ["script", "at", "names", "one", "line", "long", "purse", "turn", "value", "bend", "held", "due", "told", "other", "name"] "law" "law" (top 33) fa a ns := by
  have e := hfa.symm.trans (PySem.W.mg_of X G a_law)
  cases e
  have D_is_name := fun_mk (st := (top 8)) l_is_name c_is_name k_is_name
  have g_is_name := PySem.W.mg_of X G a_is_name
  have D_is_sentence := fun_mk (st := (top 9)) l_is_sentence c_is_sentence k_is_sentence
  have g_is_sentence := PySem.W.mg_of X G a_is_sentence
  have D_link_of := fun_mk (st := (top 10)) l_link_of c_link_of k_link_of
  have g_link_of := PySem.W.mg_of X G a_link_of
  have D_stands_of := fun_mk (st := (top 11)) l_stands_of c_stands_of k_stands_of
  have g_stands_of := PySem.W.mg_of X G a_stands_of
  have D_links_of := fun_mk (st := (top 12)) l_links_of c_links_of k_links_of
  have g_links_of := PySem.W.mg_of X G a_links_of
  have D_check_tale := fun_mk (st := (top 13)) l_check_tale c_check_tale k_check_tale
  have g_check_tale := PySem.W.mg_of X G a_check_tale
  have D__law_at := fun_mk (st := (top 15)) l__law_at c__law_at k__law_at
  have g__law_at := PySem.W.mg_of X G a__law_at
  have D__law_mixed := fun_mk (st := (top 16)) l__law_mixed c__law_mixed k__law_mixed
  have g__law_mixed := PySem.W.mg_of X G a__law_mixed
  have D__law_purse := fun_mk (st := (top 17)) l__law_purse c__law_purse k__law_purse
  have g__law_purse := PySem.W.mg_of X G a__law_purse
  have D__law_draw := fun_mk (st := (top 18)) l__law_draw c__law_draw k__law_draw
  have g__law_draw := PySem.W.mg_of X G a__law_draw
  have D__law_links := fun_mk (st := (top 19)) l__law_links c__law_links k__law_links
  have g__law_links := PySem.W.mg_of X G a__law_links
  have D__law_order := fun_mk (st := (top 20)) l__law_order c__law_order k__law_order
  have g__law_order := PySem.W.mg_of X G a__law_order
  have D__law_names := fun_mk (st := (top 21)) l__law_names c__law_names k__law_names
  have g__law_names := PySem.W.mg_of X G a__law_names
  have D__law_model := fun_mk (st := (top 22)) l__law_model c__law_model k__law_model
  have g__law_model := PySem.W.mg_of X G a__law_model
  have D__law_fits := fun_mk (st := (top 23)) l__law_fits c__law_fits k__law_fits
  have g__law_fits := PySem.W.mg_of X G a__law_fits
  have D__law_is_name := fun_mk (st := (top 27)) l__law_is_name c__law_is_name k__law_is_name
  have g__law_is_name := PySem.W.mg_of X G a__law_is_name
  have D__law_is_sentence := fun_mk (st := (top 28)) l__law_is_sentence c__law_is_sentence k__law_is_sentence
  have g__law_is_sentence := PySem.W.mg_of X G a__law_is_sentence
  have D__law_due := fun_mk (st := (top 29)) l__law_due c__law_due k__law_due
  have g__law_due := PySem.W.mg_of X G a__law_due
  have D__law_odd := fun_mk (st := (top 30)) l__law_odd c__law_odd k__law_odd
  have g__law_odd := PySem.W.mg_of X G a__law_odd
  have D__law_drawn := fun_mk (st := (top 32)) l__law_drawn c__law_drawn k__law_drawn
  have g__law_drawn := PySem.W.mg_of X G a__law_drawn
  have D__law_bent := fun_mk (st := (top 31)) l__law_bent c__law_bent k__law_bent
  have g__law_bent := PySem.W.mg_of X G a__law_bent
  have D_law := fun_mk (st := (top 33)) l_law c_law k_law
  have F_init := fun_mk (st := (inClass (top 2) 0)) l_minit c_minit k_minit
  have F_add := fun_mk (st := (inClass (top 2) 1)) l_madd c_madd k_madd
  have F_is_before := fun_mk (st := (inClass (top 2) 2)) l_mis_before c_mis_before k_mis_before
  have F_bits_of := fun_mk (st := (inClass (top 2) 3)) l_mbits_of c_mbits_of k_mbits_of
  have F_add_same := fun_mk (st := (inClass (top 2) 4)) l_madd_same c_madd_same k_madd_same
  have F_add_before := fun_mk (st := (inClass (top 2) 5)) l_madd_before c_madd_before k_madd_before
  have F_add_link := fun_mk (st := (inClass (top 2) 6)) l_madd_link c_madd_link k_madd_link
  have T : Tx K mg C := ⟨⟨pg, hd, po, sa⟩, n_together, n_numbers, n_later, PySem.W.mg_none_of X G z_len, PySem.W.mg_none_of X G z_sum, PySem.W.mg_none_of X G z_any, PySem.W.mg_none_of X G z_all, PySem.W.mg_none_of X G z_tuple, PySem.W.mg_none_of X G z_list, PySem.W.mg_none_of X G z_int, PySem.W.mg_none_of X G z_str, PySem.W.mg_none_of X G z_max, PySem.W.mg_none_of X G z_min, PySem.W.mg_none_of X G z_isinstance, PySem.W.mg_none_of X G z_range, PySem.W.mg_none_of X G z_enumerate, PySem.W.mg_none_of X G z_sorted, PySem.W.mg_none_of X G z_set, PySem.W.mg_none_of X G z_dict, PySem.W.mg_none_of X G z_zip, GC.str (PySem.W.mg_of X G gL), GC.strs (xs := ["at", "then", "back", "later", "earlier", "with"]) (PySem.W.mg_of X G gW) lW rfl rfl qW.1 qW.2, GC.strs (xs := ["at", "then", "back"]) (PySem.W.mg_of X G gM) lM rfl rfl qM.1 qM.2, GC.int (PySem.W.mg_of X G gN)⟩
  exact ⟨_, D_law, fun s v => .of_eq rfl, fun a ns hl => body_at T F_init F_add ⟨a_madd, i_madd, k_madd⟩ F_is_before ⟨a_mis_before, i_mis_before, k_mis_before⟩ F_bits_of ⟨a_mbits_of, i_mbits_of, k_mbits_of⟩ F_add_same ⟨a_madd_same, i_madd_same, k_madd_same⟩ F_add_before ⟨a_madd_before, i_madd_before, k_madd_before⟩ F_add_link ⟨a_madd_link, i_madd_link, k_madd_link⟩ ⟨mk, a_minit, i_minit, kc⟩ (PySem.W.mg_of X G aC) D_is_name g_is_name D_is_sentence g_is_sentence D_link_of g_link_of D_stands_of g_stands_of D_links_of g_links_of D__law_at g__law_at D__law_mixed g__law_mixed D__law_purse g__law_purse D__law_draw g__law_draw D__law_links g__law_links D__law_order g__law_order D__law_names g__law_names D__law_model g__law_model D__law_fits g__law_fits D__law_is_name g__law_is_name D__law_is_sentence g__law_is_sentence D__law_due g__law_due D__law_odd g__law_odd D__law_drawn g__law_drawn D_check_tale g_check_tale D__law_bent g__law_bent (fun s ws _ hl => match ws, hl with | [_], _ => .of_eq rfl) fa a ns hl⟩
theorem walk {l : PySem.W.OpenLaw} {q : Program} {loose : List Str} {XP : (Str → Option Value) → Heap → Prop} {YP : World → Heap → Prop} {d : DefRec} {K : Params → PySem.W.Frag} (most : l.most = some 63) (plain : d.params.defaults = [])
    (given : ∀ (w : World) (h : Heap), YP w h → (K w.params).In h)
    (made : ∀ (w : World) (mg : Str → Option Value) (f : Addr) (h : Heap), (K w.params).In h → h.Ns mainGlobals mg → mg d.name = some (.ref f) →
      ∃ fd : FuncData, Fun (K w.params) "law" "law" (top 33) f fd ∧ (∀ (s : Shared) (u : Value), BindsTo s fd ⟨[u], []⟩ [("script", u)]) ∧ ∀ (a : Addr) (ns : List Int), ns.length ≤ 63 → BodyAt l.prog w (K w.params) mg ["script", "at", "names", "one", "line", "long", "purse", "turn", "value", "bend", "held", "due", "told", "other", "name"] "law" "law" (top 33) f a ns) :
    PySem.W.WalkO q loose XP YP l.row.toRowW d [] (fun f vs => PySem.call f vs) :=
  walk_at most (by decide) plain room9 sc_law given made
end BK

open PySem PySem.W PyProof.Rows in
set_option maxHeartbeats 0 in
theorem PySem.Challenge.cw_backthen_k01_tales_checked_holds : PySem.Challenge.rw_backthen_k01_tales_checked.Holds := by
  w_on; o_law; k_head; (case hw => w_witness2)
  k_fill
  refine BK.walk (l := PySem.Challenge.rw_backthen_k01_tales_checked) rfl rfl (fun w h Y => PySem.W.kIn_of Y) ?F
  case F =>
    intro w mg fa h KX G hmg
    refine' BK.all_mk KX G hmg ?aC ?a_minit ?i_minit ?l_minit ?c_minit ?k_minit ?a_madd ?i_madd ?l_madd ?c_madd ?k_madd ?a_mis_before ?i_mis_before ?l_mis_before ?c_mis_before ?k_mis_before ?a_mbits_of ?i_mbits_of ?l_mbits_of ?c_mbits_of ?k_mbits_of ?a_madd_same ?i_madd_same ?l_madd_same ?c_madd_same ?k_madd_same ?a_madd_before ?i_madd_before ?l_madd_before ?c_madd_before ?k_madd_before ?a_madd_link ?i_madd_link ?l_madd_link ?c_madd_link ?k_madd_link ?a_is_name ?l_is_name ?c_is_name ?k_is_name ?a_is_sentence ?l_is_sentence ?c_is_sentence ?k_is_sentence ?a_link_of ?l_link_of ?c_link_of ?k_link_of ?a_stands_of ?l_stands_of ?c_stands_of ?k_stands_of ?a_links_of ?l_links_of ?c_links_of ?k_links_of ?a_check_tale ?l_check_tale ?c_check_tale ?k_check_tale ?a__law_at ?l__law_at ?c__law_at ?k__law_at ?a__law_mixed ?l__law_mixed ?c__law_mixed ?k__law_mixed ?a__law_purse ?l__law_purse ?c__law_purse ?k__law_purse ?a__law_draw ?l__law_draw ?c__law_draw ?k__law_draw ?a__law_links ?l__law_links ?c__law_links ?k__law_links ?a__law_order ?l__law_order ?c__law_order ?k__law_order ?a__law_names ?l__law_names ?c__law_names ?k__law_names ?a__law_model ?l__law_model ?c__law_model ?k__law_model ?a__law_fits ?l__law_fits ?c__law_fits ?k__law_fits ?a__law_is_name ?l__law_is_name ?c__law_is_name ?k__law_is_name ?a__law_is_sentence ?l__law_is_sentence ?c__law_is_sentence ?k__law_is_sentence ?a__law_due ?l__law_due ?c__law_due ?k__law_due ?a__law_odd ?l__law_odd ?c__law_odd ?k__law_odd ?a__law_drawn ?l__law_drawn ?c__law_drawn ?k__law_drawn ?a__law_bent ?l__law_bent ?c__law_bent ?k__law_bent ?a_law ?l_law ?c_law ?k_law ?pg ?hd ?po ?sa ?mk ?kc ?n_together ?n_numbers ?n_later ?z_len ?z_sum ?z_any ?z_all ?z_tuple ?z_list ?z_int ?z_str ?z_max ?z_min ?z_isinstance ?z_range ?z_enumerate ?z_sorted ?z_set ?z_dict ?z_zip ?gL ?gN ?gW ?lW ?qW ?gM ?lM ?qM
    (case aC => k_is)
    (case a_minit => k_is)
    (case i_minit => k_is)
    (case l_minit => k_is)
    (case c_minit => k_is)
    (case k_minit => k_is)
    (case a_madd => k_is)
    (case i_madd => k_is)
    (case l_madd => k_is)
    (case c_madd => k_is)
    (case k_madd => k_is)
    (case a_mis_before => k_is)
    (case i_mis_before => k_is)
    (case l_mis_before => k_is)
    (case c_mis_before => k_is)
    (case k_mis_before => k_is)
    (case a_mbits_of => k_is)
    (case i_mbits_of => k_is)
    (case l_mbits_of => k_is)
    (case c_mbits_of => k_is)
    (case k_mbits_of => k_is)
    (case a_madd_same => k_is)
    (case i_madd_same => k_is)
    (case l_madd_same => k_is)
    (case c_madd_same => k_is)
    (case k_madd_same => k_is)
    (case a_madd_before => k_is)
    (case i_madd_before => k_is)
    (case l_madd_before => k_is)
    (case c_madd_before => k_is)
    (case k_madd_before => k_is)
    (case a_madd_link => k_is)
    (case i_madd_link => k_is)
    (case l_madd_link => k_is)
    (case c_madd_link => k_is)
    (case k_madd_link => k_is)
    (case a_is_name => k_is)
    (case l_is_name => k_is)
    (case c_is_name => k_is)
    (case k_is_name => k_is)
    (case a_is_sentence => k_is)
    (case l_is_sentence => k_is)
    (case c_is_sentence => k_is)
    (case k_is_sentence => k_is)
    (case a_link_of => k_is)
    (case l_link_of => k_is)
    (case c_link_of => k_is)
    (case k_link_of => k_is)
    (case a_stands_of => k_is)
    (case l_stands_of => k_is)
    (case c_stands_of => k_is)
    (case k_stands_of => k_is)
    (case a_links_of => k_is)
    (case l_links_of => k_is)
    (case c_links_of => k_is)
    (case k_links_of => k_is)
    (case a_check_tale => k_is)
    (case l_check_tale => k_is)
    (case c_check_tale => k_is)
    (case k_check_tale => k_is)
    (case a__law_at => k_is)
    (case l__law_at => k_is)
    (case c__law_at => k_is)
    (case k__law_at => k_is)
    (case a__law_mixed => k_is)
    (case l__law_mixed => k_is)
    (case c__law_mixed => k_is)
    (case k__law_mixed => k_is)
    (case a__law_purse => k_is)
    (case l__law_purse => k_is)
    (case c__law_purse => k_is)
    (case k__law_purse => k_is)
    (case a__law_draw => k_is)
    (case l__law_draw => k_is)
    (case c__law_draw => k_is)
    (case k__law_draw => k_is)
    (case a__law_links => k_is)
    (case l__law_links => k_is)
    (case c__law_links => k_is)
    (case k__law_links => k_is)
    (case a__law_order => k_is)
    (case l__law_order => k_is)
    (case c__law_order => k_is)
    (case k__law_order => k_is)
    (case a__law_names => k_is)
    (case l__law_names => k_is)
    (case c__law_names => k_is)
    (case k__law_names => k_is)
    (case a__law_model => k_is)
    (case l__law_model => k_is)
    (case c__law_model => k_is)
    (case k__law_model => k_is)
    (case a__law_fits => k_is)
    (case l__law_fits => k_is)
    (case c__law_fits => k_is)
    (case k__law_fits => k_is)
    (case a__law_is_name => k_is)
    (case l__law_is_name => k_is)
    (case c__law_is_name => k_is)
    (case k__law_is_name => k_is)
    (case a__law_is_sentence => k_is)
    (case l__law_is_sentence => k_is)
    (case c__law_is_sentence => k_is)
    (case k__law_is_sentence => k_is)
    (case a__law_due => k_is)
    (case l__law_due => k_is)
    (case c__law_due => k_is)
    (case k__law_due => k_is)
    (case a__law_odd => k_is)
    (case l__law_odd => k_is)
    (case c__law_odd => k_is)
    (case k__law_odd => k_is)
    (case a__law_drawn => k_is)
    (case l__law_drawn => k_is)
    (case c__law_drawn => k_is)
    (case k__law_drawn => k_is)
    (case a__law_bent => k_is)
    (case l__law_bent => k_is)
    (case c__law_bent => k_is)
    (case k__law_bent => k_is)
    (case a_law => k_is)
    (case l_law => k_is)
    (case c_law => k_is)
    (case k_law => k_is)
    (case pg => k_is)
    (case hd => k_is)
    (case po => k_is)
    (case sa => k_is)
    (case mk => k_is)
    (case kc => k_is)
    (case n_together => k_is)
    (case n_numbers => k_is)
    (case n_later => k_is)
    (case z_len => k_is)
    (case z_sum => k_is)
    (case z_any => k_is)
    (case z_all => k_is)
    (case z_tuple => k_is)
    (case z_list => k_is)
    (case z_int => k_is)
    (case z_str => k_is)
    (case z_max => k_is)
    (case z_min => k_is)
    (case z_isinstance => k_is)
    (case z_range => k_is)
    (case z_enumerate => k_is)
    (case z_sorted => k_is)
    (case z_set => k_is)
    (case z_dict => k_is)
    (case z_zip => k_is)
    (case gL => k_is)
    (case gN => k_is)
    (case gW => k_is)
    (case lW => k_is)
    (case qW => exact ⟨by decide, rfl⟩)
    (case gM => k_is)
    (case lM => k_is)
    (case qM => exact ⟨by decide, rfl⟩)
#print axioms PySem.Challenge.cw_backthen_k01_tales_checked_holds
