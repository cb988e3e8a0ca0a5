import PyProof.Rows.All
import Wide.All
import OpenK.AllK
import Wide.FinOn
import HandS.ForMost
import HandS.ForExc
import HandS.Deep
import HandS.IsInst
import HandS.ExcInit
import HandS.ExcValue
import HandS.Wide
import HandS.Text
import HandS.TupAny
import KE.GoesMore
import KE.GoesEnum
import PyProof.ReprRoads
import PyProof.CallStr
import HandS.TupMul
import HandS.Ends
import HandS.SetTxt0
import HandS.SetFor
import HandS.More
import HandS.Strs
import HandS.Dict
import HandS.ExcOwn
import HandS.WordsExc
import HandS.ExcField
import KE.KExcIs
import HandS.Zip
import KE.KSortTupG
import HandS.TupSets
import HandS.ExcBuiltin
import PySem.Challenge.RW_backthen_k04_errors_and_their_fields
import HandS.Defaults
set_option Elab.async false
set_option linter.all false
set_option maxRecDepth 100000
set_option maxHeartbeats 4000000
/-! The value layer: data, slots, states. -/
namespace BT
open PySem L2

/-- data -/
inductive D where
  | non | bl (b : Bool) | int (i : Int) | str (x : Str)
  | tup (xs : List D) | lst (xs : List D)
  | dic (kvs : List (Key × D))
  | ins (C : Addr) (fs : List (Str × D))
  | exn (c : Addr) (fs : List (Str × D))
/-- an exception that is held: its class, its own dict -/
def xob (c : Value) (d : Option Addr) (a : Addr) : HO := .ext fun h => ∃ (oe : Obj) (vs : Array Value), h.get? a = some oe ∧ Zc c d oe ∧ oe.data = .fields vs

mutual
inductive Dt (K : PySem.W.Frag) (H : Hp) : V → D → Prop
  | non : Dt K H .non .non
  | bl (b : Bool) : Dt K H (.bl b) (.bl b)
  | int (i : Int) : Dt K H (.int i) (.int i)
  | str (x : Str) : Dt K H (.str x) (.str x)
  | tup {a : Addr} {xs : List V} {ds : List D} : SqT K H a xs → DtL K H xs ds → Dt K H (.ref a) (.tup ds)
  | lst {a : Addr} {xs : List V} {ds : List D} : SqL K H a xs → DtL K H xs ds → Dt K H (.ref a) (.lst ds)
  | dic {a : Addr} {kvs : List (Key × V)} {ds : List (Key × D)} : Rd H a (.dK kvs) → DtK K H kvs ds → Dt K H (.ref a) (.dic ds)
  | ins {a C dx : Addr} {fs : List (Str × V)} {ds : List (Str × D)} : H a = some (.ins C dx fs) → H dx = some (.own a) → DtF K H fs ds → Dt K H (.ref a) (.ins C ds)
  | exn {a dx c : Addr} {fs : List (Str × V)} {ds : List (Str × D)} : H a = some (xob (.ref c) (some dx) a) → H dx = some (.xd fs) → DtF K H fs ds → Dt K H (.ref a) (.exn c ds)
  | exn0 {a c : Addr} : H a = some (xob (.ref c) none a) → Dt K H (.ref a) (.exn c [])
inductive DtL (K : PySem.W.Frag) (H : Hp) : List V → List D → Prop
  | nil : DtL K H [] []
  | cons {v : V} {vs : List V} {d : D} {ds : List D} : Dt K H v d → DtL K H vs ds → DtL K H (v :: vs) (d :: ds)
inductive DtK (K : PySem.W.Frag) (H : Hp) : List (Key × V) → List (Key × D) → Prop
  | nil : DtK K H [] []
  | cons {k : Key} {v : V} {vs : List (Key × V)} {d : D} {ds : List (Key × D)} : Dt K H v d → DtK K H vs ds → DtK K H ((k, v) :: vs) ((k, d) :: ds)
inductive DtF (K : PySem.W.Frag) (H : Hp) : List (Str × V) → List (Str × D) → Prop
  | nil : DtF K H [] []
  | cons {k : Str} {v : V} {vs : List (Str × V)} {d : D} {ds : List (Str × D)} : Dt K H v d → DtF K H vs ds → DtF K H ((k, v) :: vs) ((k, d) :: ds)
end

section
variable {K : PySem.W.Frag} {H H' : Hp}
theorem Same.rd {a : Addr} {o : HO} (k : Same H H') (h : Rd H a o) : Rd H' a o := by
  rcases h with h | ⟨u, h⟩
  · exact .inl (k _ _ h)
  · exact .inr ⟨u, k _ _ h⟩
theorem Same.sqT {a : Addr} {xs : List V} (e : Same H H') (h : SqT K H a xs) : SqT K H' a xs := by
  rcases h with h | h
  · exact .inl (Same.rd e h)
  · exact .inr h
mutual
theorem Dt.mono (k : Same H H') : ∀ {v : V} {d : D}, Dt K H v d → Dt K H' v d
  | _, _, .non => .non
  | _, _, .bl b => .bl b
  | _, _, .int i => .int i
  | _, _, .str x => .str x
  | _, _, .tup h hs => .tup (Same.sqT k h) (DtL.mono k hs)
  | _, _, .lst h hs => .lst (k.seq h) (DtL.mono k hs)
  | _, _, .dic h hs => .dic (Same.rd k h) (DtK.mono k hs)
  | _, _, .ins h h2 hs => .ins (k _ _ h) (k _ _ h2) (DtF.mono k hs)
  | _, _, .exn h h2 hs => .exn (k _ _ h) (k _ _ h2) (DtF.mono k hs)
  | _, _, .exn0 h => .exn0 (k _ _ h)
theorem DtL.mono (k : Same H H') : ∀ {v : List V} {d : List D}, DtL K H v d → DtL K H' v d
  | _, _, .nil => .nil
  | _, _, .cons h hs => .cons (Dt.mono k h) (DtL.mono k hs)
theorem DtK.mono (k : Same H H') : ∀ {v : List (Key × V)} {d : List (Key × D)}, DtK K H v d → DtK K H' v d
  | _, _, .nil => .nil
  | _, _, .cons h hs => .cons (Dt.mono k h) (DtK.mono k hs)
theorem DtF.mono (k : Same H H') : ∀ {v : List (Str × V)} {d : List (Str × D)}, DtF K H v d → DtF K H' v d
  | _, _, .nil => .nil
  | _, _, .cons h hs => .cons (Dt.mono k h) (DtF.mono k hs)
end
theorem DtL.length : ∀ {v : List V} {d : List D}, DtL K H v d → v.length = d.length
  | _, _, .nil => rfl
  | _, _, .cons _ hs => by rw [List.length_cons, List.length_cons, DtL.length hs]
theorem DtL.get : ∀ {v : List V} {d : List D} {i : Nat} {x : V}, DtL K H v d → v[i]? = some x → ∃ y, d[i]? = some y ∧ Dt K H x y
  | _, _, _, _, .nil, e => by simp at e
  | _, _, 0, _, .cons h hs, e => by
    simp at e; subst e; exact ⟨_, rfl, h⟩
  | _, _, i + 1, _, .cons h hs, e => by
    simp at e; obtain ⟨y, h1, h2⟩ := DtL.get hs e; exact ⟨y, by simpa using h1, h2⟩
theorem DtL.getD : ∀ {v : List V} {d : List D} {i : Nat} {y : D}, DtL K H v d → d[i]? = some y → ∃ x, v[i]? = some x ∧ Dt K H x y
  | _, _, _, _, .nil, e => by simp at e
  | _, _, 0, _, .cons h hs, e => by
    simp at e; subst e; exact ⟨_, rfl, h⟩
  | _, _, i + 1, _, .cons h hs, e => by
    simp at e; obtain ⟨y, h1, h2⟩ := DtL.getD hs e; exact ⟨y, by simpa using h1, h2⟩
theorem DtL.append : ∀ {v w : List V} {d e : List D}, DtL K H v d → DtL K H w e → DtL K H (v ++ w) (d ++ e)
  | _, _, _, _, .nil, h => h
  | _, _, _, _, .cons h hs, g => .cons h (DtL.append hs g)
theorem DtL.drop : ∀ {v : List V} {d : List D} (n : Nat), DtL K H v d → DtL K H (v.drop n) (d.drop n)
  | _, _, 0, h => h
  | _, _, n + 1, .nil => .nil
  | _, _, n + 1, .cons _ hs => DtL.drop n hs
theorem DtL.take : ∀ {v : List V} {d : List D} (n : Nat), DtL K H v d → DtL K H (v.take n) (d.take n)
  | _, _, 0, _ => .nil
  | _, _, n + 1, .nil => .nil
  | _, _, n + 1, .cons h hs => .cons h (DtL.take n hs)
end
end BT

namespace BT
open PySem L2

inductive Sl where | un | dt (d : D) | ol (ds : List D)
abbrev Rho := List Sl
structure Ex where
  cls : Addr
  fs : List (Str × D)
inductive Rs (α : Type) where | val (a : α) (ρ : Rho) | exc (x : Ex) (ρ : Rho)
abbrev M (α : Type) := Rho → Option (Rs α)
@[simp] def bindM {α β : Type} (f : M α) (k : α → M β) : M β := fun ρ => match f ρ with
  | some (.val a ρ') => k a ρ'
  | some (.exc x ρ') => some (.exc x ρ')
  | none => none
@[simp] def Sl.frz : Sl → Option D | .un => none | .dt d => some d | .ol ds => some (.lst ds)
@[simp] def bindD {β : Type} (f : M Sl) (k : D → M β) : M β := fun ρ => (bindM f fun s => match s.frz with | some d => k d | none => fun _ => none) ρ
@[simp] def retM {α : Type} (a : α) : M α := fun ρ => some (.val a ρ)
@[simp] def retD (d : D) : M Sl := fun ρ => some (.val (.dt d) ρ)
@[simp] def optM {α : Type} (o : Option α) : M α := fun ρ => match o with | some a => some (.val a ρ) | none => none
@[simp] def optD (o : Option D) : M Sl := fun ρ => match o with | some a => some (.val (.dt a) ρ) | none => none
@[simp] def optL (o : Option (List D)) : M Sl := fun ρ => match o with | some a => some (.val (.ol a) ρ) | none => none

def OwnAt (σ : St) (ρ : Rho) (a : Addr) : Prop := ∃ (i : Nat) (ds : List D), ρ[i]? = some (.ol ds) ∧ σ[i]? = some (some (.ref a))

structure EnvOk (K : PySem.W.Frag) (pn : List (Nat × Addr)) (G H : Hp) (σ : St) (ρ : Rho) : Prop where
  sub : Same G H
  len : σ.length = ρ.length
  dt : ∀ (i : Nat) (d : D), ρ[i]? = some (.dt d) → ∃ v, σ[i]? = some (some v) ∧ Dt K G v d
  ol : ∀ (i : Nat) (ds : List D), ρ[i]? = some (.ol ds) → ∃ p vs, σ[i]? = some (some (.ref p)) ∧ H p = some (.lst vs) ∧ G p = none ∧ DtL K G vs ds
  inj : ∀ (i j : Nat) (ds es : List D) (p : Addr), ρ[i]? = some (.ol ds) → ρ[j]? = some (.ol es) → σ[i]? = some (some (.ref p)) → σ[j]? = some (some (.ref p)) → i = j
  pins : ∀ q ∈ pn, σ[q.1]? = some (some (.ref q.2))

structure Ext (G H : Hp) (O : Addr → Prop) (G' H' : Hp) (O' : Addr → Prop) : Prop where
  grow : Same G G'
  fresh : ∀ a, G' a ≠ none → G a ≠ none ∨ H a = none ∨ O a
  keep : ∀ a o, H a = some o → ¬ O a → H' a = some o
  own : ∀ a, O' a → O a ∨ H a = none

theorem Ext.refl {G H : Hp} {O : Addr → Prop} : Ext G H O G H O := ⟨Same.refl _, fun _ h => .inl h, fun _ _ h _ => h, fun _ h => .inl h⟩
theorem Ext.trans {G H G1 H1 G2 H2 : Hp} {O O1 O2 : Addr → Prop} (x : Ext G H O G1 H1 O1) (y : Ext G1 H1 O1 G2 H2 O2) : Ext G H O G2 H2 O2 := by
  have back : ∀ a, H1 a = none → H a = none ∨ O a := fun a h => by
    cases e : H a with
    | none => exact .inl rfl
    | some o =>
      by_cases c : O a
      · exact .inr c
      · rw [x.keep a o e c] at h; cases h
  refine ⟨x.grow.trans y.grow, fun a h => ?_, fun a o h c => ?_, fun a h => ?_⟩
  · rcases y.fresh a h with h | h | h
    · exact x.fresh a h
    · rcases back a h with h | h
      · exact .inr (.inl h)
      · exact .inr (.inr h)
    · rcases x.own a h with h | h
      · exact .inr (.inr h)
      · exact .inr (.inl h)
  · refine y.keep a o (x.keep a o h c) fun c' => ?_
    rcases x.own a c' with q | q
    · exact c q
    · rw [q] at h; cases h
  · rcases y.own a h with h | h
    · exact x.own a h
    · exact (back a h).symm

/-- how an exception lies -/
def XOk (K : PySem.W.Frag) (G H : Hp) (d : Option Addr) (x : Ex) : Prop := match x.fs with
  | [] => d = none
  | [(f, y)] => ∃ a v, d = some a ∧ G a = some (.xd [(f, v)]) ∧ Dt K G v y
  | _ => False

section
variable (K : PySem.W.Frag) (pn : List (Nat × Addr)) (E : XK) (σ : St)
def Post (G0 H0 : Hp) (O0 : Addr → Prop) (r : Option (Rs Sl)) (Q : VK) : Prop := match r with
  | some (.val s ρ') => ∀ v G' H', EnvOk K pn G' H' (σ ++ [some v]) (ρ' ++ [s]) → Ext G0 H0 O0 G' H' (OwnAt (σ ++ [some v]) (ρ' ++ [s])) → Q v H'
  | some (.exc x ρ') => ∀ d G' H', EnvOk K pn G' H' σ ρ' → Ext G0 H0 O0 G' H' (OwnAt σ ρ') → XOk K G' H' d x → E (.ref x.cls) d H'
  | none => False
def tE (f : M Sl) : TE := fun σ H Q => ∃ G ρ, EnvOk K pn G H σ ρ ∧ Post K pn E σ G H (OwnAt σ ρ) (f ρ) Q
end

section
variable {K : PySem.W.Frag} {pn : List (Nat × Addr)} {E : XK} {σ : St} {G H : Hp} {ρ : Rho} {O : Addr → Prop}
theorem Post.mono {G0 H0 : Hp} {O0 : Addr → Prop} {r : Option (Rs Sl)} {Q Q' : VK} (h : Post K pn E σ G0 H0 O0 r Q) (q : ∀ v H, Q v H → Q' v H) : Post K pn E σ G0 H0 O0 r Q' := by
  unfold Post at h ⊢
  split at h
  · exact fun v G' H' a b => q _ _ (h v G' H' a b)
  · exact h
  · exact h
theorem Post.at {G0 H0 : Hp} {O0 : Addr → Prop} {r : Option (Rs Sl)} {Q : VK} (h : Post K pn E σ G0 H0 O0 r Q) (x : Ext G0 H0 O0 G H O) : Post K pn E σ G H O r Q := by
  unfold Post at h ⊢
  split at h
  · exact fun v G' H' a b => h v G' H' a (x.trans b)
  · exact fun d G' H' a b => h d G' H' a (x.trans b)
  · exact h

theorem get_append_lt {α : Type} {l r : List α} {i : Nat} (h : i < l.length) : (l ++ r)[i]? = l[i]? := List.getElem?_append_left h
theorem get_append_eq {α : Type} {l : List α} {x : α} : (l ++ [x])[l.length]? = some x := by simp
theorem get_append1 {α : Type} {l : List α} {x y : α} {i : Nat} (h : (l ++ [x])[i]? = some y) : (i < l.length ∧ l[i]? = some y) ∨ (i = l.length ∧ x = y) := by
  by_cases c : i < l.length
  · exact .inl ⟨c, by rw [get_append_lt c] at h; exact h⟩
  · by_cases e : i = l.length
    · subst e; rw [get_append_eq] at h; exact .inr ⟨rfl, Option.some.inj h⟩
    · rw [List.getElem?_eq_none (by simp; omega)] at h; cases h
theorem lt_of_get {α : Type} {l : List α} {x : α} {i : Nat} (h : l[i]? = some x) : i < l.length := (List.getElem?_eq_some_iff.mp h).1

/-- the temp forgotten -/
theorem EnvOk.pop {v : Option V} {s : Sl} (ok : EnvOk K pn G H (σ ++ [v]) (ρ ++ [s])) (hp : ∀ q ∈ pn, q.1 < σ.length) : EnvOk K pn G H σ ρ := by
  have hl : σ.length = ρ.length := by have := ok.len; simpa using this
  have up : ∀ {i : Nat} {x : Sl}, ρ[i]? = some x → (ρ ++ [s])[i]? = some x := fun h => by rw [get_append_lt (lt_of_get h)]; exact h
  have dn : ∀ {i : Nat} {x : Sl} , ρ[i]? = some x → (σ ++ [v])[i]? = σ[i]? := fun h => get_append_lt (by rw [hl]; exact lt_of_get h)
  refine ⟨ok.sub, hl, fun i d h => ?_, fun i ds h => ?_, fun i j ds es p h1 h2 h3 h4 => ?_, fun q hq => ?_⟩
  · obtain ⟨w, a, b⟩ := ok.dt i d (up h); exact ⟨w, by rw [dn h] at a; exact a, b⟩
  · obtain ⟨p, vs, a, b⟩ := ok.ol i ds (up h); exact ⟨p, vs, by rw [dn h] at a; exact a, b⟩
  · exact ok.inj i j ds es p (up h1) (up h2) (by rw [dn h1]; exact h3) (by rw [dn h2]; exact h4)
  · have := ok.pins q hq; rw [get_append_lt (hp q hq)] at this; exact this
theorem own_up {v : Option V} {s : Sl} (hl : σ.length = ρ.length) {a : Addr} (h : OwnAt σ ρ a) : OwnAt (σ ++ [v]) (ρ ++ [s]) a := by
  obtain ⟨i, ds, h1, h2⟩ := h
  exact ⟨i, ds, by rw [get_append_lt (lt_of_get h1)]; exact h1, by rw [get_append_lt (lt_of_get h2)]; exact h2⟩
theorem own_dn {v : Option V} {s : Sl} (hl : σ.length = ρ.length) {a : Addr} (h : OwnAt (σ ++ [v]) (ρ ++ [s]) a) : OwnAt σ ρ a ∨ (v = some (.ref a) ∧ ∃ ds, s = .ol ds) := by
  obtain ⟨i, ds, h1, h2⟩ := h
  rcases get_append1 h1 with ⟨c, e⟩ | ⟨c, e⟩
  · rw [get_append_lt (by omega)] at h2; exact .inl ⟨i, ds, e, h2⟩
  · subst c; rw [← hl, get_append_eq] at h2; exact .inr ⟨Option.some.inj h2, ds, e⟩

theorem EnvOk.push_dt {v : V} {d : D} (ok : EnvOk K pn G H σ ρ) (h : Dt K G v d) : EnvOk K pn G H (σ ++ [some v]) (ρ ++ [.dt d]) := by
  have hl := ok.len
  refine ⟨ok.sub, by simp [hl], fun i d' h' => ?_, fun i ds h' => ?_, fun i j ds es p h1 h2 h3 h4 => ?_, fun q hq => ?_⟩
  · rcases get_append1 h' with ⟨c, e⟩ | ⟨c, e⟩
    · obtain ⟨w, a, b⟩ := ok.dt i d' e
      exact ⟨w, by rw [get_append_lt (by omega)]; exact a, b⟩
    · subst c; cases e
      exact ⟨v, by rw [← hl, get_append_eq], h⟩
  · rcases get_append1 h' with ⟨c, e⟩ | ⟨c, e⟩
    · obtain ⟨p, vs, a, b⟩ := ok.ol i ds e
      exact ⟨p, vs, by rw [get_append_lt (by omega)]; exact a, b⟩
    · cases e
  · rcases get_append1 h1 with ⟨c1, e1⟩ | ⟨c1, e1⟩
    · rcases get_append1 h2 with ⟨c2, e2⟩ | ⟨c2, e2⟩
      · rw [get_append_lt (by omega)] at h3 h4
        exact ok.inj i j ds es p e1 e2 h3 h4
      · cases e2
    · cases e1
  · have := ok.pins q hq
    rw [get_append_lt (lt_of_get this)]; exact this
theorem own_push_dt {v : V} {d : D} (hl : σ.length = ρ.length) {a : Addr} (h : OwnAt (σ ++ [some v]) (ρ ++ [.dt d]) a) : OwnAt σ ρ a := by
  rcases own_dn hl h with h | ⟨_, _, h⟩
  · exact h
  · cases h

/-- a heap that grows by a frozen object -/
theorem EnvOk.alloc {p : Addr} {o : HO} (ok : EnvOk K pn G H σ ρ) (hp : H p = none) : EnvOk K pn (upd G p o) (upd H p o) σ ρ := by
  have gp : G p = none := Same.free ok.sub hp
  have gs : Same G (upd G p o) := fun b u e => by rw [upd_ne (ne_of_none e gp)]; exact e
  refine ⟨fun b u e => ?_, ok.len, fun i d h => ?_, fun i ds h => ?_, ok.inj, ok.pins⟩
  · by_cases c : b = p
    · subst c; rw [upd_same] at e ⊢; exact e
    · rw [upd_ne c] at e ⊢; exact ok.sub b u e
  · obtain ⟨v, a, b⟩ := ok.dt i d h; exact ⟨v, a, b.mono gs⟩
  · obtain ⟨q, vs, a, b, c, e⟩ := ok.ol i ds h
    have n := ne_of_none b hp
    exact ⟨q, vs, a, by rw [upd_ne n]; exact b, by rw [upd_ne n]; exact c, e.mono gs⟩
theorem Ext.alloc {p : Addr} {o : HO} (hs : Same G H) (hp : H p = none) : Ext G H O (upd G p o) (upd H p o) O := by
  have gp : G p = none := Same.free hs hp
  refine ⟨fun b u e => by rw [upd_ne (ne_of_none e gp)]; exact e, fun a h => ?_, fun a u h _ => by rw [upd_ne (ne_of_none h hp)]; exact h, fun _ h => .inl h⟩
  by_cases c : a = p
  · subst c; exact .inr (.inl hp)
  · rw [upd_ne c] at h; exact .inl h
theorem same_alloc {p : Addr} {o : HO} (gp : G p = none) : Same G (upd G p o) := fun b u e => by rw [upd_ne (ne_of_none e gp)]; exact e

/-- a new list that is one's own, as a temp -/
theorem EnvOk.push_new {p : Addr} {vs : List V} {ds : List D} (ok : EnvOk K pn G H σ ρ) (hp : H p = none) (h : DtL K G vs ds) :
    EnvOk K pn G (upd H p (.lst vs)) (σ ++ [some (.ref p)]) (ρ ++ [.ol ds]) := by
  have hl := ok.len
  have gp : G p = none := Same.free ok.sub hp
  refine ⟨fun b u e => by rw [upd_ne (ne_of_none e gp)]; exact ok.sub b u e, by simp [hl], fun i d' h' => ?_, fun i ds' h' => ?_, fun i j ds1 es q h1 h2 h3 h4 => ?_, fun q hq => ?_⟩
  · rcases get_append1 h' with ⟨c, e⟩ | ⟨c, e⟩
    · obtain ⟨w, a, b⟩ := ok.dt i d' e
      exact ⟨w, by rw [get_append_lt (by omega)]; exact a, b⟩
    · cases e
  · rcases get_append1 h' with ⟨c, e⟩ | ⟨c, e⟩
    · obtain ⟨q, ws, a, b, b2, b3⟩ := ok.ol i ds' e
      exact ⟨q, ws, by rw [get_append_lt (by omega)]; exact a, by rw [upd_ne (ne_of_none b hp)]; exact b, b2, b3⟩
    · subst c; cases e
      exact ⟨p, vs, by rw [← hl, get_append_eq], upd_same, gp, h⟩
  · have side : ∀ {k : Nat} {xs : List D}, ρ[k]? = some (.ol xs) → σ[k]? = some (some (.ref p)) → False := fun a b => by
      obtain ⟨q', ws, a', b', _⟩ := ok.ol _ _ a
      rw [b] at a'; cases a'
      rw [hp] at b'; cases b'
    rcases get_append1 h1 with ⟨c1, e1⟩ | ⟨c1, e1⟩
    · rw [get_append_lt (by omega)] at h3
      rcases get_append1 h2 with ⟨c2, e2⟩ | ⟨c2, e2⟩
      · rw [get_append_lt (by omega)] at h4
        exact ok.inj i j ds1 es q e1 e2 h3 h4
      · subst c2; rw [← hl, get_append_eq] at h4; cases h4
        exact (side e1 h3).elim
    · subst c1; rw [← hl, get_append_eq] at h3; cases h3
      rcases get_append1 h2 with ⟨c2, e2⟩ | ⟨c2, e2⟩
      · rw [get_append_lt (by omega)] at h4
        exact (side e2 h4).elim
      · exact c2.symm
  · have := ok.pins q hq
    rw [get_append_lt (lt_of_get this)]; exact this
theorem Ext.push_new {p : Addr} {vs : List V} {ds : List D} (hl : σ.length = ρ.length) (hp : H p = none) :
    Ext G H (OwnAt σ ρ) G (upd H p (.lst vs)) (OwnAt (σ ++ [some (.ref p)]) (ρ ++ [.ol ds])) := by
  refine ⟨Same.refl _, fun _ h => .inl h, fun a u h _ => by rw [upd_ne (ne_of_none h hp)]; exact h, fun a h => ?_⟩
  rcases own_dn hl h with h | ⟨h, _⟩
  · exact .inl h
  · cases h; exact .inr hp
theorem Ext.push_dt {v : V} {d : D} {G' H' : Hp} {O' : Addr → Prop} (hl : σ.length = ρ.length) (x : Ext G H O G' H' (OwnAt σ ρ)) : Ext G H O G' H' (OwnAt (σ ++ [some v]) (ρ ++ [.dt d])) :=
  ⟨x.grow, x.fresh, x.keep, fun a h => x.own a (own_push_dt hl h)⟩

/-- the temp frozen -/
theorem EnvOk.freeze {v : V} {s : Sl} {d : D} (ok : EnvOk K pn G H (σ ++ [some v]) (ρ ++ [s])) (hp : ∀ q ∈ pn, q.1 < σ.length) (hs : s.frz = some d) :
    ∃ G2, EnvOk K pn G2 H σ ρ ∧ Dt K G2 v d ∧ Ext G H (OwnAt (σ ++ [some v]) (ρ ++ [s])) G2 H (OwnAt σ ρ) := by
  have hl : σ.length = ρ.length := by have := ok.len; simpa using this
  cases s with
  | un => cases hs
  | dt d' =>
    cases hs
    refine ⟨G, ok.pop hp, ?_, Same.refl _, fun _ h => .inl h, fun _ _ h _ => h, fun a h => .inl (own_up hl h)⟩
    obtain ⟨w, a, b⟩ := ok.dt ρ.length _ get_append_eq
    rw [← hl, get_append_eq] at a
    cases a; exact b
  | ol ds =>
    cases hs
    obtain ⟨p, vs, a, b, c, e⟩ := ok.ol ρ.length ds get_append_eq
    rw [← hl, get_append_eq] at a
    cases a
    have gs : Same G (upd G p (.lst vs)) := same_alloc c
    have ok' := ok.pop hp
    have nown : ∀ {i : Nat} {es : List D} {q : Addr}, ρ[i]? = some (.ol es) → σ[i]? = some (some (.ref q)) → q ≠ p := fun {i es q} h1 h2 z => by
      subst z
      have := ok.inj i ρ.length es ds q (by rw [get_append_lt (lt_of_get h1)]; exact h1) get_append_eq (by rw [get_append_lt (lt_of_get h2)]; exact h2) (by rw [← hl]; exact get_append_eq)
      have := lt_of_get h1
      omega
    refine ⟨upd G p (.lst vs), ⟨fun x u h => ?_, hl, fun i d h => ?_, fun i es h => ?_, ok'.inj, ok'.pins⟩, .lst (SqL.of upd_same) (e.mono gs), gs, fun x h => ?_, fun _ _ h _ => h, fun x h => .inl (own_up hl h)⟩
    · by_cases z : x = p
      · subst z; rw [upd_same] at h; cases h; exact b
      · rw [upd_ne z] at h; exact ok.sub x u h
    · obtain ⟨w, h1, h2⟩ := ok'.dt i d h; exact ⟨w, h1, h2.mono gs⟩
    · obtain ⟨q, ws, h1, h2, h3, h4⟩ := ok'.ol i es h
      exact ⟨q, ws, h1, h2, by rw [upd_ne (nown h h1)]; exact h3, h4.mono gs⟩
    · by_cases z : x = p
      · subst z
        exact .inr (.inr ⟨ρ.length, ds, get_append_eq, by rw [← hl]; exact get_append_eq⟩)
      · rw [upd_ne z] at h; exact .inl h

theorem EnvOk.pinLt (ok : EnvOk K pn G H σ ρ) : ∀ q ∈ pn, q.1 < σ.length := fun q hq => lt_of_get (ok.pins q hq)

/-- one operand, then the rest -/
theorem Post.bindD {f : M Sl} {k : D → M Sl} {Q : VK} (ok : EnvOk K pn G H σ ρ) (h : Post K pn E σ G H (OwnAt σ ρ) (bindD f k ρ) Q) :
    Post K pn E σ G H (OwnAt σ ρ) (f ρ) (fun v H1 => ∃ G1 ρ1 d, EnvOk K pn G1 H1 σ ρ1 ∧ Same G G1 ∧ Dt K G1 v d ∧ Post K pn E σ G1 H1 (OwnAt σ ρ1) (k d ρ1) Q) := by
  unfold BT.bindD BT.bindM at h
  cases e : f ρ with
  | none => rw [e] at h; exact h
  | some r =>
    rw [e] at h
    cases r with
    | exc x ρ' => exact h
    | val s ρ' =>
      intro v G' H' ok' x'
      cases es : s.frz with
      | none => simp only [es] at h; exact h.elim
      | some d =>
        simp only [es] at h
        obtain ⟨G2, ok2, dt2, x2⟩ := ok'.freeze ok.pinLt es
        have xx := x'.trans x2
        exact ⟨G2, ρ', d, ok2, xx.grow, dt2, h.at xx⟩

theorem Post.dt {v : V} {d : D} {Q : VK} (h : Post K pn E σ G H (OwnAt σ ρ) (some (.val (.dt d) ρ)) Q) (ok : EnvOk K pn G H σ ρ) (hd : Dt K G v d) : Q v H :=
  h v G H (ok.push_dt hd) (Ext.push_dt (O' := OwnAt σ ρ) ok.len Ext.refl)
theorem Post.lst {vs : List V} {ds : List D} {p : Addr} {Q : VK} (h : Post K pn E σ G H (OwnAt σ ρ) (some (.val (.ol ds) ρ)) Q) (ok : EnvOk K pn G H σ ρ) (hd : DtL K G vs ds) (hp : H p = none) : Q (.ref p) (upd H p (.lst vs)) :=
  h _ G _ (ok.push_new hp hd) (Ext.push_new ok.len hp)
theorem Post.tup {vs : List V} {ds : List D} {p : Addr} {Q : VK} (h : Post K pn E σ G H (OwnAt σ ρ) (some (.val (.dt (.tup ds)) ρ)) Q) (ok : EnvOk K pn G H σ ρ) (hd : DtL K G vs ds) (hp : H p = none) : Q (.ref p) (upd H p (.tup vs)) := by
  have gp : G p = none := Same.free ok.sub hp
  have ok' := ok.alloc (o := .tup vs) hp
  exact h _ _ _ (ok'.push_dt (.tup (SqT.of upd_same) (hd.mono (same_alloc gp)))) (Ext.push_dt (O' := OwnAt σ ρ) ok.len (Ext.alloc ok.sub hp))
end

section
variable {X : Cx} {pn : List (Nat × Addr)} {E : XK}
theorem _root_.L2.PE.imp {e : Expr} {t t' : TE} (h : PE X e t) (i : ∀ σ H Q, t' σ H Q → t σ H Q) : PE X e t' := ⟨fun pins s σ H Q I hw => h.run pins s σ H Q I (i σ H Q hw)⟩
theorem _root_.L2.PT.imp {e : Expr} {t t' : TT} (h : PT X e t) (i : ∀ σ H Q, t' σ H Q → t σ H Q) : PT X e t' := ⟨fun pins s σ H Q I hw => h.run pins s σ H Q I (i σ H Q hw)⟩
theorem _root_.L2.PW.imp {e : Expr} {t t' : TT} (h : PW X e t) (i : ∀ σ H Q, t' σ H Q → t σ H Q) : PW X e t' := ⟨fun w pins s σ H Q I hw => h.run w pins s σ H Q I (i σ H Q hw)⟩
theorem _root_.L2.PS.imp {e : Stmt} {t t' : TS} (h : PS X e t) (i : ∀ D σ H, t' D σ H → t D σ H) : PS X e t' := ⟨fun pins s σ H D I hw => h.run pins s σ H D I (i D σ H hw)⟩
theorem _root_.L2.PSs.imp {e : List Stmt} {t t' : TS} (h : PSs X e t) (i : ∀ D σ H, t' D σ H → t D σ H) : PSs X e t' := ⟨fun pins s σ H D I hw => h.run pins s σ H D I (i D σ H hw)⟩
theorem _root_.L2.PA.imp {e : List Expr} {t t' : TA} (h : PA X e t) (i : ∀ σ H Q, t' σ H Q → t σ H Q) : PA X e t' := ⟨fun pos pins s σ H Q I hw => h.run pos pins s σ H Q I (i σ H Q hw)⟩

/-! ### constants, names -/
@[simp] def mC (d : D) : M Sl := fun ρ => some (.val (.dt d) ρ)
theorem px_int {i j pos} : PE X (.Constant (.int i) j pos) (tE X.K pn E (mC (.int i))) := pe_int.imp fun σ H Q ⟨G, ρ, ok, h⟩ => h.dt ok (.int i)
theorem px_bl {b j pos} : PE X (.Constant (.bool b) j pos) (tE X.K pn E (mC (.bl b))) := pe_bl.imp fun σ H Q ⟨G, ρ, ok, h⟩ => h.dt ok (.bl b)
theorem px_non {j pos} : PE X (.Constant .none j pos) (tE X.K pn E (mC .non)) := pe_non.imp fun σ H Q ⟨G, ρ, ok, h⟩ => h.dt ok .non
theorem px_str {x j pos} : PE X (.Constant (.str x) j pos) (tE X.K pn E (mC (.str x))) := pe_str.imp fun σ H Q ⟨G, ρ, ok, h⟩ => h.dt ok (.str x)

/-- a slot read; one's own list is frozen by it -/
@[simp] def mVar (i : Nat) : M Sl := fun ρ => match ρ[i]? with
  | some (.dt d) => some (.val (.dt d) ρ)
  | some (.ol ds) => some (.val (.dt (.lst ds)) (ρ.set i (.dt (.lst ds))))
  | _ => none
theorem EnvOk.frzSlot {K : PySem.W.Frag} {G H : Hp} {σ : St} {ρ : Rho} {i : Nat} {ds : List D} (ok : EnvOk K pn G H σ ρ) (hi : ρ[i]? = some (.ol ds)) :
    ∃ G2 p, σ[i]? = some (some (.ref p)) ∧ EnvOk K pn G2 H σ (ρ.set i (.dt (.lst ds))) ∧ Dt K G2 (.ref p) (.lst ds) ∧ Ext G H (OwnAt σ ρ) G2 H (OwnAt σ (ρ.set i (.dt (.lst ds)))) := by
  obtain ⟨p, vs, a, b, c, e⟩ := ok.ol i ds hi
  have gs : Same G (upd G p (.lst vs)) := same_alloc c
  have hlt := lt_of_get hi
  have hd : Dt K (upd G p (.lst vs)) (.ref p) (.lst ds) := .lst (SqL.of upd_same) (e.mono gs)
  have sub : ∀ {j : Nat} {es : List D}, (ρ.set i (.dt (.lst ds)))[j]? = some (.ol es) → j ≠ i ∧ ρ[j]? = some (.ol es) := fun {j es} h => by
    by_cases z : i = j
    · subst z; rw [List.getElem?_set_self hlt] at h; cases h
    · rw [List.getElem?_set_ne z] at h; exact ⟨fun q => z q.symm, h⟩
  refine ⟨upd G p (.lst vs), p, a, ⟨fun x u h => ?_, by rw [List.length_set]; exact ok.len, fun j d h => ?_, fun j es h => ?_, fun j k es fs q h1 h2 => ?_, ok.pins⟩, hd, gs, fun x h => ?_, fun _ _ h _ => h, fun x ⟨j, es, h1, h2⟩ => .inl ⟨j, es, (sub h1).2, h2⟩⟩
  · by_cases z : x = p
    · subst z; rw [upd_same] at h; cases h; exact b
    · rw [upd_ne z] at h; exact ok.sub x u h
  · by_cases z : i = j
    · subst z; rw [List.getElem?_set_self hlt] at h; cases h
      exact ⟨_, a, hd⟩
    · rw [List.getElem?_set_ne z] at h
      obtain ⟨w, h1, h2⟩ := ok.dt j d h; exact ⟨w, h1, h2.mono gs⟩
  · obtain ⟨n, h⟩ := sub h
    obtain ⟨q, ws, h1, h2, h3, h4⟩ := ok.ol j es h
    have nq : q ≠ p := fun z => by subst z; exact n (ok.inj j i es ds q h hi h1 a)
    exact ⟨q, ws, h1, h2, by rw [upd_ne nq]; exact h3, h4.mono gs⟩
  · exact ok.inj j k es fs q (sub h1).2 (sub h2).2
  · by_cases z : x = p
    · subst z; exact .inr (.inr ⟨i, ds, hi, a⟩)
    · rw [upd_ne z] at h; exact .inl h
theorem px_var {i : Nat} {e : Expr} (h : PE X e (tVar i)) : PE X e (tE X.K pn E (mVar i)) := h.imp fun σ H Q ⟨G, ρ, ok, h⟩ => by
  unfold mVar at h
  split at h
  · rename_i d hi
    obtain ⟨v, a, b⟩ := ok.dt i d hi
    exact ⟨v, a, h.dt ok b⟩
  · rename_i ds hi
    obtain ⟨G2, p, a, ok2, hd, x⟩ := ok.frzSlot hi
    exact ⟨_, a, (h.at x).dt ok2 hd⟩
  · exact h.elim
end
end BT

namespace BT
open PySem L2

section
variable (K : PySem.W.Frag) (pn : List (Nat × Addr)) (E : XK) (σ : St)
/-- behind arguments -/
def PostA (G0 H0 : Hp) (O0 : Addr → Prop) (r : Option (Rs (List D))) (Q : List V → Hp → Prop) : Prop := match r with
  | some (.val ds ρ') => ∀ vs G' H', EnvOk K pn G' H' σ ρ' → Ext G0 H0 O0 G' H' (OwnAt σ ρ') → DtL K G' vs ds → Q vs H'
  | some (.exc x ρ') => ∀ d G' H', EnvOk K pn G' H' σ ρ' → Ext G0 H0 O0 G' H' (OwnAt σ ρ') → XOk K G' H' d x → E (.ref x.cls) d H'
  | none => False
def tA (f : M (List D)) : TA := fun σ H Q => ∃ G ρ, EnvOk K pn G H σ ρ ∧ PostA K pn E σ G H (OwnAt σ ρ) (f ρ) Q
/-- behind a test -/
def PostT (G0 H0 : Hp) (O0 : Addr → Prop) (r : Option (Rs Bool)) (Q : Bool → Hp → Prop) : Prop := match r with
  | some (.val b ρ') => ∀ G' H', EnvOk K pn G' H' σ ρ' → Ext G0 H0 O0 G' H' (OwnAt σ ρ') → Q b H'
  | some (.exc x ρ') => ∀ d G' H', EnvOk K pn G' H' σ ρ' → Ext G0 H0 O0 G' H' (OwnAt σ ρ') → XOk K G' H' d x → E (.ref x.cls) d H'
  | none => False
def tT (f : M Bool) : TT := fun σ H Q => ∃ G ρ, EnvOk K pn G H σ ρ ∧ PostT K pn E σ G H (OwnAt σ ρ) (f ρ) Q
end
@[simp] def nilA : M (List D) := fun ρ => some (.val [] ρ)
@[simp] def consA (f : M Sl) (g : M (List D)) : M (List D) := fun ρ => (bindD f fun d => bindM g fun ds => fun ρ => some (.val (d :: ds) ρ)) ρ
section
variable {K : PySem.W.Frag} {pn : List (Nat × Addr)} {E : XK} {σ : St} {G H : Hp} {ρ : Rho} {O : Addr → Prop}
theorem PostA.at {G0 H0 : Hp} {O0 : Addr → Prop} {r : Option (Rs (List D))} {Q : List V → Hp → Prop} (h : PostA K pn E σ G0 H0 O0 r Q) (x : Ext G0 H0 O0 G H O) : PostA K pn E σ G H O r Q := by
  unfold PostA at h ⊢
  split at h
  · exact fun v G' H' a b => h v G' H' a (x.trans b)
  · exact fun d G' H' a b => h d G' H' a (x.trans b)
  · exact h
theorem PostT.at {G0 H0 : Hp} {O0 : Addr → Prop} {r : Option (Rs Bool)} {Q : Bool → Hp → Prop} (h : PostT K pn E σ G0 H0 O0 r Q) (x : Ext G0 H0 O0 G H O) : PostT K pn E σ G H O r Q := by
  unfold PostT at h ⊢
  split at h
  · exact fun G' H' a b => h G' H' a (x.trans b)
  · exact fun d G' H' a b => h d G' H' a (x.trans b)
  · exact h
theorem PostA.bindD {f : M Sl} {k : D → M (List D)} {Q : List V → Hp → Prop} (ok : EnvOk K pn G H σ ρ) (h : PostA K pn E σ G H (OwnAt σ ρ) (bindD f k ρ) Q) :
    Post K pn E σ G H (OwnAt σ ρ) (f ρ) (fun v H1 => ∃ G1 ρ1 d, EnvOk K pn G1 H1 σ ρ1 ∧ Same G G1 ∧ Dt K G1 v d ∧ PostA K pn E σ G1 H1 (OwnAt σ ρ1) (k d ρ1) Q) := by
  unfold BT.bindD BT.bindM at h
  cases e : f ρ with
  | none => rw [e] at h; exact h
  | some r =>
    rw [e] at h
    cases r with
    | exc x ρ' => exact h
    | val s ρ' =>
      intro v G' H' ok' x'
      cases es : s.frz with
      | none => simp only [es] at h; exact h.elim
      | some d =>
        simp only [es] at h
        obtain ⟨G2, ok2, dt2, x2⟩ := ok'.freeze ok.pinLt es
        have xx := x'.trans x2
        exact ⟨G2, ρ', d, ok2, xx.grow, dt2, h.at xx⟩
theorem PostT.bindD {f : M Sl} {k : D → M Bool} {Q : Bool → Hp → Prop} (ok : EnvOk K pn G H σ ρ) (h : PostT K pn E σ G H (OwnAt σ ρ) (bindD f k ρ) Q) :
    Post K pn E σ G H (OwnAt σ ρ) (f ρ) (fun v H1 => ∃ G1 ρ1 d, EnvOk K pn G1 H1 σ ρ1 ∧ Same G G1 ∧ Dt K G1 v d ∧ PostT K pn E σ G1 H1 (OwnAt σ ρ1) (k d ρ1) Q) := by
  unfold BT.bindD BT.bindM at h
  cases e : f ρ with
  | none => rw [e] at h; exact h
  | some r =>
    rw [e] at h
    cases r with
    | exc x ρ' => exact h
    | val s ρ' =>
      intro v G' H' ok' x'
      cases es : s.frz with
      | none => simp only [es] at h; exact h.elim
      | some d =>
        simp only [es] at h
        obtain ⟨G2, ok2, dt2, x2⟩ := ok'.freeze ok.pinLt es
        have xx := x'.trans x2
        exact ⟨G2, ρ', d, ok2, xx.grow, dt2, h.at xx⟩
theorem PostA.bindA {f : M (List D)} {k : List D → M (List D)} {Q : List V → Hp → Prop} (ok : EnvOk K pn G H σ ρ) (h : PostA K pn E σ G H (OwnAt σ ρ) (bindM f k ρ) Q) :
    PostA K pn E σ G H (OwnAt σ ρ) (f ρ) (fun vs H1 => ∃ G1 ρ1 ds, EnvOk K pn G1 H1 σ ρ1 ∧ Same G G1 ∧ DtL K G1 vs ds ∧ Ext G H (OwnAt σ ρ) G1 H1 (OwnAt σ ρ1) ∧ PostA K pn E σ G1 H1 (OwnAt σ ρ1) (k ds ρ1) Q) := by
  unfold BT.bindM at h
  cases e : f ρ with
  | none => rw [e] at h; exact h
  | some r =>
    rw [e] at h
    cases r with
    | exc x ρ' => exact h
    | val s ρ' => exact fun v G' H' ok' x' d' => ⟨G', ρ', s, ok', x'.grow, d', x', h.at x'⟩
theorem Post.bindA {f : M (List D)} {k : List D → M Sl} {Q : VK} (ok : EnvOk K pn G H σ ρ) (h : Post K pn E σ G H (OwnAt σ ρ) (bindM f k ρ) Q) :
    PostA K pn E σ G H (OwnAt σ ρ) (f ρ) (fun vs H1 => ∃ G1 ρ1 ds, EnvOk K pn G1 H1 σ ρ1 ∧ Same G G1 ∧ DtL K G1 vs ds ∧ Post K pn E σ G1 H1 (OwnAt σ ρ1) (k ds ρ1) Q) := by
  unfold BT.bindM at h
  cases e : f ρ with
  | none => rw [e] at h; exact h
  | some r =>
    rw [e] at h
    cases r with
    | exc x ρ' => exact h
    | val s ρ' => exact fun v G' H' ok' x' d' => ⟨G', ρ', s, ok', x'.grow, d', h.at x'⟩
theorem Post.bindT {f : M Bool} {k : Bool → M Sl} {Q : VK} (ok : EnvOk K pn G H σ ρ) (h : Post K pn E σ G H (OwnAt σ ρ) (bindM f k ρ) Q) :
    PostT K pn E σ G H (OwnAt σ ρ) (f ρ) (fun b H1 => ∃ G1 ρ1, EnvOk K pn G1 H1 σ ρ1 ∧ Same G G1 ∧ Post K pn E σ G1 H1 (OwnAt σ ρ1) (k b ρ1) Q) := by
  unfold BT.bindM at h
  cases e : f ρ with
  | none => rw [e] at h; exact h
  | some r =>
    rw [e] at h
    cases r with
    | exc x ρ' => exact h
    | val s ρ' => exact fun G' H' ok' x' => ⟨G', ρ', ok', x'.grow, h.at x'⟩
theorem PostT.bindT {f : M Bool} {k : Bool → M Bool} {Q : Bool → Hp → Prop} (ok : EnvOk K pn G H σ ρ) (h : PostT K pn E σ G H (OwnAt σ ρ) (bindM f k ρ) Q) :
    PostT K pn E σ G H (OwnAt σ ρ) (f ρ) (fun b H1 => ∃ G1 ρ1, EnvOk K pn G1 H1 σ ρ1 ∧ Same G G1 ∧ PostT K pn E σ G1 H1 (OwnAt σ ρ1) (k b ρ1) Q) := by
  unfold BT.bindM at h
  cases e : f ρ with
  | none => rw [e] at h; exact h
  | some r =>
    rw [e] at h
    cases r with
    | exc x ρ' => exact h
    | val s ρ' => exact fun G' H' ok' x' => ⟨G', ρ', ok', x'.grow, h.at x'⟩
theorem PostT.now {b : Bool} {Q : Bool → Hp → Prop} (h : PostT K pn E σ G H (OwnAt σ ρ) (some (.val b ρ)) Q) (ok : EnvOk K pn G H σ ρ) : Q b H := h G H ok Ext.refl
end

section
variable {X : Cx} {pn : List (Nat × Addr)} {E : XK} {a b c : Expr} {f g f' : M Sl} {pos : Pos}

/-! ### two operands -/
@[simp] def bin2 (f g : M Sl) (k : D → D → M Sl) : M Sl := fun ρ => (bindD f fun d => bindD g fun e => k d e) ρ
def OpD (X : Cx) (pn : List (Nat × Addr)) (E : XK) (r : R2) (k : D → D → M Sl) : Prop := ∀ (σ : St) (G H : Hp) (ρ : Rho) (v u : V) (d e : D) (Q : VK), EnvOk X.K pn G H σ ρ → Dt X.K G v d → Dt X.K G u e →
  Post X.K pn E σ G H (OwnAt σ ρ) (k d e ρ) Q → r v u H Q
theorem tOp_of {r : R2} {k : D → D → M Sl} (h : OpD X pn E r k) (σ : St) (H : Hp) (Q : VK) (w : tE X.K pn E (bin2 f g k) σ H Q) : tOp r (tE X.K pn E f) (tE X.K pn E g) σ H Q := by
  obtain ⟨G, ρ, ok, p⟩ := w
  refine ⟨G, ρ, ok, (Post.bindD ok p).mono fun v H1 ⟨G1, ρ1, d, ok1, s1, d1, p1⟩ => ⟨G1, ρ1, ok1, (Post.bindD ok1 p1).mono fun u H2 ⟨G2, ρ2, e, ok2, s2, d2, p2⟩ => ?_⟩⟩
  exact h σ G2 H2 ρ2 v u d e Q ok2 (d1.mono s2) d2 p2
theorem px_op {op : Operator} {r : R2} {k : D → D → M Sl} (ho : OpR X (binaryOp op) r) (h : OpD X pn E r k) (ha : PE X a (tE X.K pn E f)) (hb : PE X b (tE X.K pn E g)) : PE X (.BinOp a op b pos) (tE X.K pn E (bin2 f g k)) :=
  (pe_op ho ha hb).imp (tOp_of h)
theorem px_cmp {op : CmpOp} {r : R2} {k : D → D → M Sl} (ho : OpR X (compareOp op) r) (h : OpD X pn E r k) (ha : PE X a (tE X.K pn E f)) (hb : PE X b (tE X.K pn E g)) (hm : behindInMarks op b = false) : PE X (.Compare a [op] [b] pos) (tE X.K pn E (bin2 f g k)) :=
  (pe_cmpR ho ha hb hm).imp (tOp_of h)
theorem px_ix {r : R2} {k : D → D → M Sl} (ho : IxR X r) (h : OpD X pn E r k) (ha : PE X a (tE X.K pn E f)) (hb : PE X b (tE X.K pn E g)) (hs : PlainIx b) : PE X (.Subscript a b pos) (tE X.K pn E (bin2 f g k)) :=
  (pe_ix ho ha hb hs).imp (tOp_of h)

/-! ### truth -/
@[simp] def toB (f : M Sl) : M Bool := fun ρ => (bindD f fun d => match d with | .bl b => fun ρ => some (.val b ρ) | _ => fun _ => none) ρ
theorem px_test {t : TE} (i : ∀ σ H Q, tE X.K pn E f σ H Q → t σ H Q) (σ : St) (H : Hp) (Q : Bool → Hp → Prop) (w : tT X.K pn E (toB f) σ H Q) : tB t σ H Q := by
  obtain ⟨G, ρ, ok, p⟩ := w
  refine i _ _ _ ⟨G, ρ, ok, (PostT.bindD ok p).mono fun v H1 ⟨G1, ρ1, d, ok1, s1, d1, p1⟩ => ?_⟩
  cases d1 with
  | bl b => exact ⟨b, rfl, p1.now ok1⟩
  | _ => exact p1.elim
/-- an expression that gives a bool, as a test -/
theorem pt_x (h : PE X a (tE X.K pn E f)) (he : ∀ whole, isTrue a X.env whole = (do let v ← whole; standAt a.pos; holding [v] (truthy v)) := by intro _; rfl) : PT X a (tT X.K pn E (toB f)) :=
  (pt_val h he).imp (px_test fun _ _ _ h => h)
theorem pt_c {op : CmpOp} {r : R2} {k : D → D → M Sl} (ho : OpR X (compareOp op) r) (h : OpD X pn E r k) (ha : PE X a (tE X.K pn E f)) (hb : PE X b (tE X.K pn E g)) (hm : behindInMarks op b = false) : PT X (.Compare a [op] [b] pos) (tT X.K pn E (toB (bin2 f g k))) :=
  (pt_cmpR ho ha hb hm).imp (px_test (tOp_of h))
@[simp] def notT (f : M Bool) : M Bool := fun ρ => (bindM f fun b => fun ρ => some (.val (!b) ρ)) ρ
theorem ptx_not {f : M Bool} (h : PT X a (tT X.K pn E f)) : PT X (.UnaryOp .Not a pos) (tT X.K pn E (notT f)) := (pt_not h).imp fun σ H Q ⟨G, ρ, ok, p⟩ =>
  ⟨G, ρ, ok, by
    have q := PostT.bindT ok p
    unfold PostT at q ⊢
    split
    · rename_i e; rw [e] at q
      intro G' H' a b
      obtain ⟨G1, ρ1, ok1, s1, p1⟩ := q G' H' a b
      exact p1 _ _ ok1 Ext.refl
    · rename_i e; rw [e] at q; exact q
    · rename_i e; rw [e] at q; exact q⟩
theorem PostT.mono {K : PySem.W.Frag} {σ : St} {G0 H0 : Hp} {O0 : Addr → Prop} {r : Option (Rs Bool)} {Q Q' : Bool → Hp → Prop} (h : PostT K pn E σ G0 H0 O0 r Q) (q : ∀ v H, Q v H → Q' v H) : PostT K pn E σ G0 H0 O0 r Q' := by
  unfold PostT at h ⊢
  split at h
  · exact fun G' H' a b => q _ _ (h G' H' a b)
  · exact h
  · exact h
theorem PostA.mono {K : PySem.W.Frag} {σ : St} {G0 H0 : Hp} {O0 : Addr → Prop} {r : Option (Rs (List D))} {Q Q' : List V → Hp → Prop} (h : PostA K pn E σ G0 H0 O0 r Q) (q : ∀ v H, Q v H → Q' v H) : PostA K pn E σ G0 H0 O0 r Q' := by
  unfold PostA at h ⊢
  split at h
  · exact fun v G' H' a b c => q _ _ (h v G' H' a b c)
  · exact h
  · exact h
@[simp] def andT (f g : M Bool) : M Bool := fun ρ => (bindM f fun b => if b = true then g else fun ρ => some (.val false ρ)) ρ
@[simp] def orT (f g : M Bool) : M Bool := fun ρ => (bindM f fun b => if b = true then fun ρ => some (.val true ρ) else g) ρ
variable {rest : List Expr}
theorem pw_x1 {op} {p q : M Bool} (hw : PW X (.BoolOp op [a] pos) (tT X.K pn E p)) : PW X (.BoolOp op [a] pos) (tT X.K pn E p) := hw
theorem pwx_and {p q : M Bool} (ha : PT X a (tT X.K pn E p)) (hb : PW X (.BoolOp .And (b :: rest) pos) (tT X.K pn E q)) : PW X (.BoolOp .And (a :: b :: rest) pos) (tT X.K pn E (andT p q)) :=
  (pw_and ha hb).imp fun σ H Q ⟨G, ρ, ok, h⟩ => ⟨G, ρ, ok, (PostT.bindT ok h).mono fun b H1 ⟨G1, ρ1, ok1, s1, p1⟩ => by
    cases b with
    | true => exact ⟨G1, ρ1, ok1, p1⟩
    | false => exact p1.now ok1⟩
theorem pwx_or {p q : M Bool} (ha : PT X a (tT X.K pn E p)) (hb : PW X (.BoolOp .Or (b :: rest) pos) (tT X.K pn E q)) : PW X (.BoolOp .Or (a :: b :: rest) pos) (tT X.K pn E (orT p q)) :=
  (pw_or ha hb).imp fun σ H Q ⟨G, ρ, ok, h⟩ => ⟨G, ρ, ok, (PostT.bindT ok h).mono fun b H1 ⟨G1, ρ1, ok1, s1, p1⟩ => by
    cases b with
    | true => exact p1.now ok1
    | false => exact ⟨G1, ρ1, ok1, p1⟩⟩
/-- as values -/
@[simp] def andV (f g : M Sl) : M Sl := fun ρ => (bindD f fun d => match d with | .bl b => (if b = true then g else retD (.bl false)) | _ => fun _ => none) ρ
@[simp] def orV (f g : M Sl) : M Sl := fun ρ => (bindD f fun d => match d with | .bl b => (if b = true then retD (.bl true) else g) | _ => fun _ => none) ρ
@[simp] def notV (f : M Sl) : M Sl := fun ρ => (bindD f fun d => match d with | .bl b => retD (.bl (!b)) | _ => fun _ => none) ρ
theorem px_and (ha : PE X a (tE X.K pn E f)) (hb : PE X (.BoolOp .And (b :: rest) pos) (tE X.K pn E g)) : PE X (.BoolOp .And (a :: b :: rest) pos) (tE X.K pn E (andV f g)) :=
  (pe_and ha hb).imp fun σ H Q ⟨G, ρ, ok, h⟩ => ⟨G, ρ, ok, (Post.bindD ok h).mono fun v H1 ⟨G1, ρ1, d, ok1, s1, d1, p1⟩ => by
    cases d1 with
    | bl b =>
      refine ⟨b, rfl, ?_⟩
      cases b with
      | true => exact ⟨G1, ρ1, ok1, p1⟩
      | false => exact p1.dt ok1 (.bl false)
    | _ => exact p1.elim⟩
theorem px_or (ha : PE X a (tE X.K pn E f)) (hb : PE X (.BoolOp .Or (b :: rest) pos) (tE X.K pn E g)) : PE X (.BoolOp .Or (a :: b :: rest) pos) (tE X.K pn E (orV f g)) :=
  (pe_or ha hb).imp fun σ H Q ⟨G, ρ, ok, h⟩ => ⟨G, ρ, ok, (Post.bindD ok h).mono fun v H1 ⟨G1, ρ1, d, ok1, s1, d1, p1⟩ => by
    cases d1 with
    | bl b =>
      refine ⟨b, rfl, ?_⟩
      cases b with
      | false => exact ⟨G1, ρ1, ok1, p1⟩
      | true => exact p1.dt ok1 (.bl true)
    | _ => exact p1.elim⟩
theorem px_not (ha : PE X a (tE X.K pn E f)) : PE X (.UnaryOp .Not a pos) (tE X.K pn E (notV f)) :=
  (pe_not ha).imp fun σ H Q ⟨G, ρ, ok, h⟩ => ⟨G, ρ, ok, (Post.bindD ok h).mono fun v H1 ⟨G1, ρ1, d, ok1, s1, d1, p1⟩ => by
    cases d1 with
    | bl b => exact ⟨b, rfl, p1.dt ok1 (.bl (!b))⟩
    | _ => exact p1.elim⟩
@[simp] def iteV (t : M Bool) (f g : M Sl) : M Sl := fun ρ => (bindM t fun b => if b = true then f else g) ρ
theorem px_ite {p : M Bool} (hc : PT X c (tT X.K pn E p)) (ha : PE X a (tE X.K pn E f)) (hb : PE X b (tE X.K pn E g)) : PE X (.IfExp c a b pos) (tE X.K pn E (iteV p f g)) :=
  (pe_ifExp hc ha hb).imp fun σ H Q ⟨G, ρ, ok, h⟩ => ⟨G, ρ, ok, (Post.bindT ok h).mono fun b H1 ⟨G1, ρ1, ok1, s1, p1⟩ => by
    cases b with
    | true => exact ⟨G1, ρ1, ok1, p1⟩
    | false => exact ⟨G1, ρ1, ok1, p1⟩⟩

/-! ### arguments, displays -/
theorem pax_nil : PA X [] (tA X.K pn E nilA) := pa_nil.imp fun σ H Q ⟨G, ρ, ok, h⟩ => h [] G H ok Ext.refl .nil
theorem pax_cons {e : Expr} {es : List Expr} {fs : M (List D)} (ha : PE X e (tE X.K pn E f)) (hr : PA X es (tA X.K pn E fs)) (hs : starEach (e :: es) X.env = (false, eval e X.env) :: starEach es X.env := by rfl) : PA X (e :: es) (tA X.K pn E (consA f fs)) :=
  (pa_cons ha hr hs).imp fun σ H Q ⟨G, ρ, ok, h⟩ => ⟨G, ρ, ok, (PostA.bindD ok h).mono fun v H1 ⟨G1, ρ1, d, ok1, s1, d1, p1⟩ =>
    ⟨G1, ρ1, ok1, (PostA.bindA ok1 p1).mono fun vs H2 ⟨G2, ρ2, ds, ok2, s2, d2, x2, p2⟩ => p2 _ G2 H2 ok2 Ext.refl (.cons (d1.mono s2) d2)⟩⟩
@[simp] def shortL (ds : List D) (k : M Sl) : M Sl := fun ρ => (if ds.length ≤ sizeLine then k else fun _ => none) ρ
@[simp] def mTup (fs : M (List D)) : M Sl := fun ρ => (bindM fs fun ds => shortL ds (retD (.tup ds))) ρ
@[simp] def mLst (fs : M (List D)) : M Sl := fun ρ => (bindM fs fun ds => shortL ds fun ρ => some (.val (.ol ds) ρ)) ρ
theorem px_tup {es : List Expr} {x1} {fs : M (List D)} (h : PA X es (tA X.K pn E fs)) : PE X (.Tuple es x1 pos) (tE X.K pn E (mTup fs)) :=
  (pe_tup h).imp fun σ H Q ⟨G, ρ, ok, h⟩ => ⟨G, ρ, ok, (Post.bindA ok h).mono fun vs H1 ⟨G1, ρ1, ds, ok1, s1, d1, p1⟩ => by
    unfold shortL at p1
    split at p1
    · rename_i hz
      exact ⟨by rw [d1.length]; exact hz, fun p hp => p1.tup ok1 d1 hp⟩
    · exact p1.elim⟩
theorem px_lst {es : List Expr} {fs : M (List D)} (h : PA X es (tA X.K pn E fs)) : PE X (.List es pos) (tE X.K pn E (mLst fs)) :=
  (pe_lst h).imp fun σ H Q ⟨G, ρ, ok, h⟩ => ⟨G, ρ, ok, (Post.bindA ok h).mono fun vs H1 ⟨G1, ρ1, ds, ok1, s1, d1, p1⟩ => by
    unfold shortL at p1
    split at p1
    · rename_i hz
      exact ⟨by rw [d1.length]; exact hz, fun p hp => p1.lst ok1 d1 hp⟩
    · exact p1.elim⟩

/-! ### calls of built-ins -/
def CallD (X : Cx) (pn : List (Nat × Addr)) (E : XK) (r : List V → Hp → VK → Prop) (k : List D → M Sl) : Prop := ∀ (σ : St) (G H : Hp) (ρ : Rho) (vs : List V) (ds : List D) (Q : VK), EnvOk X.K pn G H σ ρ → DtL X.K G vs ds →
  Post X.K pn E σ G H (OwnAt σ ρ) (k ds ρ) Q → r vs H Q
@[simp] def mCall (k : List D → M Sl) (fs : M (List D)) : M Sl := fun ρ => (bindM fs k) ρ
theorem px_callB {x : Str} {id : String} {r : List V → Hp → VK → Prop} {k : List D → M Sl} {p : Pos} {e : Expr} {es : List Expr} {fs : M (List D)} (hc : CallR X (.builtin id) r) (h : CallD X pn E r k) (hg : Gl X x) (hm : X.mg x = none) (hv : bootBuiltins x = some (.builtin id)) (ha : PA X (e :: es) (tA X.K pn E fs))
    (hn : x ≠ "__name__" := by decide) (hdb : (x == ("__debug__" : Str)) = false := by decide) (he : starEach (e :: es) X.env = (false, eval e X.env) :: starEach es X.env := by rfl) (hpl : (backTo pos (starEach es X.env)).any (·.1) = false := by rfl) :
    PE X (.Call (.Name x p) (e :: es) [] pos) (tE X.K pn E (mCall k fs)) :=
  (pe_callB hc hg hm hv ha hn hdb he hpl).imp fun σ H Q ⟨G, ρ, ok, w⟩ => ⟨G, ρ, ok, (Post.bindA ok w).mono fun vs H1 ⟨G1, ρ1, ds, ok1, s1, d1, p1⟩ => h σ G1 H1 ρ1 vs ds Q ok1 d1 p1⟩
theorem px_callTy {x : Str} {T : String} {r : List V → Hp → VK → Prop} {k : List D → M Sl} {p : Pos} {e : Expr} {es : List Expr} {fs : M (List D)} (hc : CallR X (.type T) r) (h : CallD X pn E r k) (hg : Gl X x) (hm : X.mg x = none) (hv : bootBuiltins x = some (.type T)) (ha : PA X (e :: es) (tA X.K pn E fs))
    (hn : x ≠ "__name__" := by decide) (hdb : (x == ("__debug__" : Str)) = false := by decide) (he : starEach (e :: es) X.env = (false, eval e X.env) :: starEach es X.env := by rfl) (hpl : (backTo pos (starEach es X.env)).any (·.1) = false := by rfl) :
    PE X (.Call (.Name x p) (e :: es) [] pos) (tE X.K pn E (mCall k fs)) :=
  (pe_callTy hc hg hm hv ha hn hdb he hpl).imp fun σ H Q ⟨G, ρ, ok, w⟩ => ⟨G, ρ, ok, (Post.bindA ok w).mono fun vs H1 ⟨G1, ρ1, ds, ok1, s1, d1, p1⟩ => h σ G1 H1 ρ1 vs ds Q ok1 d1 p1⟩
end
end BT

namespace BT
open PySem L2

inductive SRs where | nx (ρ : Rho) | rt (s : Sl) (ρ : Rho) | bk (ρ : Rho) | ct (ρ : Rho) | exc (x : Ex) (ρ : Rho)
abbrev MS := Rho → Option SRs
section
variable (K : PySem.W.Frag) (pn : List (Nat × Addr)) (E : XK)
def PostS (G0 H0 : Hp) (O0 : Addr → Prop) (r : Option SRs) (D : Ends) : Prop := match r with
  | some (.nx ρ') => ∀ σ' G' H', EnvOk K pn G' H' σ' ρ' → Ext G0 H0 O0 G' H' (OwnAt σ' ρ') → D.nx σ' H'
  | some (.bk ρ') => ∀ σ' G' H', EnvOk K pn G' H' σ' ρ' → Ext G0 H0 O0 G' H' (OwnAt σ' ρ') → D.bk σ' H'
  | some (.ct ρ') => ∀ σ' G' H', EnvOk K pn G' H' σ' ρ' → Ext G0 H0 O0 G' H' (OwnAt σ' ρ') → D.ct σ' H'
  | some (.rt s ρ') => ∀ v σ' G' H', EnvOk K pn G' H' (σ' ++ [some v]) (ρ' ++ [s]) → Ext G0 H0 O0 G' H' (OwnAt (σ' ++ [some v]) (ρ' ++ [s])) → D.rt v H'
  | some (.exc x ρ') => ∀ d σ' G' H', EnvOk K pn G' H' σ' ρ' → Ext G0 H0 O0 G' H' (OwnAt σ' ρ') → XOk K G' H' d x → E (.ref x.cls) d H'
  | none => False
def tS (f : MS) : TS := fun D σ H => ∃ G ρ, EnvOk K pn G H σ ρ ∧ PostS K pn E G H (OwnAt σ ρ) (f ρ) D
end
@[simp] def bindES {α : Type} (f : M α) (k : α → MS) : MS := fun ρ => match f ρ with
  | some (.val s ρ') => k s ρ'
  | some (.exc x ρ') => some (.exc x ρ')
  | none => none
@[simp] def seqS (f g : MS) : MS := fun ρ => match f ρ with
  | some (.nx ρ') => g ρ'
  | r => r
@[simp] def nxS : MS := fun ρ => some (.nx ρ)

section
variable {K : PySem.W.Frag} {pn : List (Nat × Addr)} {E : XK} {σ : St} {G H : Hp} {ρ : Rho} {O : Addr → Prop} {D : Ends}
theorem PostS.at {G0 H0 : Hp} {O0 : Addr → Prop} {r : Option SRs} (h : PostS K pn E G0 H0 O0 r D) (x : Ext G0 H0 O0 G H O) : PostS K pn E G H O r D := by
  unfold PostS at h ⊢
  split at h
  · exact fun s G' H' a b => h s G' H' a (x.trans b)
  · exact fun s G' H' a b => h s G' H' a (x.trans b)
  · exact fun s G' H' a b => h s G' H' a (x.trans b)
  · exact fun v s G' H' a b => h v s G' H' a (x.trans b)
  · exact fun d s G' H' a b => h d s G' H' a (x.trans b)
  · exact h
theorem PostS.bindE {f : M Sl} {k : Sl → MS} (ok : EnvOk K pn G H σ ρ) (h : PostS K pn E G H (OwnAt σ ρ) (bindES f k ρ) D) :
    Post K pn E σ G H (OwnAt σ ρ) (f ρ) (fun v H1 => ∃ G1 ρ1 s, EnvOk K pn G1 H1 (σ ++ [some v]) (ρ1 ++ [s]) ∧ PostS K pn E G1 H1 (OwnAt (σ ++ [some v]) (ρ1 ++ [s])) (k s ρ1) D) := by
  unfold bindES at h
  cases e : f ρ with
  | none => rw [e] at h; exact h
  | some r =>
    rw [e] at h
    cases r with
    | exc x ρ' => exact fun d G' H' a b c => h d σ G' H' a b c
    | val s ρ' => exact fun v G' H' a b => ⟨G', ρ', s, a, h.at b⟩
theorem PostS.bindT {f : M Bool} {k : Bool → MS} (ok : EnvOk K pn G H σ ρ) (h : PostS K pn E G H (OwnAt σ ρ) (bindES f k ρ) D) :
    PostT K pn E σ G H (OwnAt σ ρ) (f ρ) (fun b H1 => ∃ G1 ρ1, EnvOk K pn G1 H1 σ ρ1 ∧ PostS K pn E G1 H1 (OwnAt σ ρ1) (k b ρ1) D) := by
  unfold bindES at h
  cases e : f ρ with
  | none => rw [e] at h; exact h
  | some r =>
    rw [e] at h
    cases r with
    | exc x ρ' => exact fun d G' H' a b c => h d σ G' H' a b c
    | val s ρ' => exact fun G' H' a b => ⟨G', ρ', a, h.at b⟩

theorem EnvOk.setSlot {v : V} {s : Sl} {i : Nat} (ok : EnvOk K pn G H (σ ++ [some v]) (ρ ++ [s])) (hi : i < ρ.length) (hp : ∀ q ∈ pn, q.1 ≠ i ∧ q.1 < σ.length) :
    EnvOk K pn G H (σ.set i (some v)) (ρ.set i s) ∧ ∀ a, OwnAt (σ.set i (some v)) (ρ.set i s) a → OwnAt (σ ++ [some v]) (ρ ++ [s]) a := by
  have hl : σ.length = ρ.length := by have := ok.len; simpa using this
  -- where a slot of the new state stood
  have src : ∀ {j : Nat} {t : Sl}, (ρ.set i s)[j]? = some t → ∃ k, (ρ ++ [s])[k]? = some t ∧ (σ ++ [some v])[k]? = (σ.set i (some v))[j]? ∧ (k = if j = i then ρ.length else j) := fun {j t} h => by
    by_cases z : i = j
    · subst z
      rw [List.getElem?_set_self hi] at h; cases h
      exact ⟨ρ.length, get_append_eq, by rw [← hl, get_append_eq, List.getElem?_set_self (by omega)], by rw [if_pos rfl]⟩
    · rw [List.getElem?_set_ne z] at h
      have := lt_of_get h
      exact ⟨j, by rw [get_append_lt this]; exact h, by rw [get_append_lt (by omega), List.getElem?_set_ne z], by rw [if_neg (fun q => z q.symm)]⟩
  refine ⟨⟨ok.sub, by simp [hl], fun j d h => ?_, fun j ds h => ?_, fun j k ds es p h1 h2 h3 h4 => ?_, fun q hq => ?_⟩, fun a ⟨j, ds, h1, h2⟩ => ?_⟩
  · obtain ⟨k, e1, e2, _⟩ := src h
    obtain ⟨w, a, b⟩ := ok.dt k d e1
    exact ⟨w, by rw [← e2]; exact a, b⟩
  · obtain ⟨k, e1, e2, _⟩ := src h
    obtain ⟨p, vs, a, b⟩ := ok.ol k ds e1
    exact ⟨p, vs, by rw [← e2]; exact a, b⟩
  · obtain ⟨k1, a1, a2, a3⟩ := src h1
    obtain ⟨k2, b1, b2, b3⟩ := src h2
    have := ok.inj k1 k2 ds es p a1 b1 (by rw [a2]; exact h3) (by rw [b2]; exact h4)
    rw [a3, b3] at this
    have l1 := lt_of_get h1
    have l2 := lt_of_get h2
    rw [List.length_set] at l1 l2
    split at this <;> split at this <;> omega
  · obtain ⟨n, l⟩ := hp q hq
    have := ok.pins q hq
    rw [get_append_lt l] at this
    rw [List.getElem?_set_ne (fun z => n z.symm)]; exact this
  · obtain ⟨k, e1, e2, _⟩ := src h1
    exact ⟨k, ds, e1, by rw [e2]; exact h2⟩
theorem Ext.sub {G' H' : Hp} {O' O2 : Addr → Prop} (x : Ext G H O G' H' O') (h : ∀ a, O2 a → O' a) : Ext G H O G' H' O2 := ⟨x.grow, x.fresh, x.keep, fun a q => x.own a (h a q)⟩
end

section
variable {X : Cx} {pn : List (Nat × Addr)} {E : XK} {pos : Pos}
abbrev NoPin (pn : List (Nat × Addr)) (i : Nat) : Prop := ∀ q ∈ pn, q.1 ≠ i
theorem np {own : List Nat} {i : Nat} (h : ∀ q ∈ pn, q.1 ∈ own) (d : i ∉ own) : NoPin pn i := fun q hq e => d (e ▸ h q hq)

theorem psx_nil : PSs X [] (tS X.K pn E nxS) := pss_nil.imp fun D σ H ⟨G, ρ, ok, h⟩ => h σ G H ok Ext.refl
theorem psx_cons {st : Stmt} {rest : List Stmt} {f g : MS} (h1 : PS X st (tS X.K pn E f)) (h2 : PSs X rest (tS X.K pn E g)) : PSs X (st :: rest) (tS X.K pn E (seqS f g)) :=
  (pss_cons h1 h2).imp fun D σ H ⟨G, ρ, ok, h⟩ => by
    refine ⟨G, ρ, ok, ?_⟩
    unfold seqS at h
    cases e : f ρ with
    | none => rw [e] at h; exact h
    | some r =>
      rw [e] at h
      cases r with
      | nx ρ' => exact fun s G' H' a b => ⟨G', ρ', a, h.at b⟩
      | rt _ _ => exact h
      | bk _ => exact h
      | ct _ => exact h
      | exc _ _ => exact h
theorem psx_one {st : Stmt} {f : MS} (h1 : PS X st (tS X.K pn E f)) : PSs X [st] (tS X.K pn E f) := pss_one h1
theorem psx_pass : PS X (.Pass pos) (tS X.K pn E nxS) := ps_pass.imp fun D σ H ⟨G, ρ, ok, h⟩ => h σ G H ok Ext.refl
theorem psx_break : PS X (.Break pos) (tS X.K pn E fun ρ => some (.bk ρ)) := ps_break.imp fun D σ H ⟨G, ρ, ok, h⟩ => h σ G H ok Ext.refl
theorem psx_cont : PS X (.Continue pos) (tS X.K pn E fun ρ => some (.ct ρ)) := ps_continue.imp fun D σ H ⟨G, ρ, ok, h⟩ => h σ G H ok Ext.refl
@[simp] def ifS (t : M Bool) (f g : MS) : MS := fun ρ => (bindES t fun b => if b = true then f else g) ρ
theorem psx_if {c : Expr} {a b : List Stmt} {t : M Bool} {f g : MS} (hc : PT X c (tT X.K pn E t)) (ha : PSs X a (tS X.K pn E f)) (hb : PSs X b (tS X.K pn E g)) : PS X (.If c a b pos) (tS X.K pn E (ifS t f g)) :=
  (ps_if hc ha hb).imp fun D σ H ⟨G, ρ, ok, h⟩ => ⟨G, ρ, ok, (PostS.bindT ok h).mono fun b H1 ⟨G1, ρ1, ok1, p1⟩ => by
    cases b with
    | true => exact ⟨G1, ρ1, ok1, p1⟩
    | false => exact ⟨G1, ρ1, ok1, p1⟩⟩
@[simp] def dropS (f : M Sl) : MS := fun ρ => (bindES f fun _ ρ => some (.nx ρ)) ρ
theorem psx_expr {e : Expr} {f : M Sl} (he : PE X e (tE X.K pn E f)) (hs : swapsWith e none pos.line X.env = pure false := by rfl) : PS X (.Expr e pos) (tS X.K pn E (dropS f)) :=
  (ps_expr he hs).imp fun D σ H ⟨G, ρ, ok, h⟩ => ⟨G, ρ, ok, (PostS.bindE ok h).mono fun v H1 ⟨G1, ρ1, s, ok1, p1⟩ => by
    have ok2 := ok1.pop ok.pinLt
    exact p1 σ G1 H1 ok2 ((Ext.refl (O := OwnAt (σ ++ [some v]) (ρ1 ++ [s]))).sub fun a h => own_up ok2.len h)⟩
@[simp] def retS (f : M Sl) : MS := fun ρ => (bindES f fun s ρ => some (.rt s ρ)) ρ
theorem psx_ret {e : Expr} {f : M Sl} (he : PE X e (tE X.K pn E f)) : PS X (.Return (some e) pos) (tS X.K pn E (retS f)) :=
  (ps_ret he).imp fun D σ H ⟨G, ρ, ok, h⟩ => ⟨G, ρ, ok, (PostS.bindE ok h).mono fun v H1 ⟨G1, ρ1, s, ok1, p1⟩ => p1 v σ G1 H1 ok1 Ext.refl⟩
theorem psx_retN : PS X (.Return none pos) (tS X.K pn E fun ρ => some (.rt (.dt .non) ρ)) :=
  ps_retN.imp fun D σ H ⟨G, ρ, ok, h⟩ => h .non σ G H (ok.push_dt .non) (Ext.push_dt (O' := OwnAt σ ρ) ok.len Ext.refl)
/-- x = e, a slot -/
@[simp] def asgS (i : Nat) (f : M Sl) : MS := fun ρ => (bindES f fun s ρ => if i < ρ.length then some (.nx (ρ.set i s)) else none) ρ
theorem asg_of {i : Nat} {f : M Sl} (hp : NoPin pn i) (D : Ends) (σ : St) (H : Hp) (w : tS X.K pn E (asgS i f) D σ H) : tAsg (tE X.K pn E f) (gName i) D σ H := by
  obtain ⟨G, ρ, ok, h⟩ := w
  refine ⟨G, ρ, ok, (PostS.bindE ok h).mono fun v H1 ⟨G1, ρ1, s, ok1, p1⟩ => ?_⟩
  show D.nx (σ.set i (some v)) H1
  by_cases c : i < ρ1.length
  · rw [if_pos c] at p1
    obtain ⟨ok2, sub⟩ := ok1.setSlot c fun q hq => ⟨hp q hq, ok.pinLt q hq⟩
    exact p1 _ G1 H1 ok2 ((Ext.refl (O := OwnAt (σ ++ [some v]) (ρ1 ++ [s]))).sub sub)
  · rw [if_neg c] at p1; exact p1.elim
theorem psx_set {i : Nat} {x : Str} {e : Expr} {f : M Sl} {pos' : Pos} (hp : NoPin pn i) (hN : X.N.Nodup) (hi : X.N[i]? = some x) (hx : Loc X.env.scope x) (he : PE X e (tE X.K pn E f)) (hs : swapsWith e (some (.Name x pos')) pos.line X.env = pure false := by rfl)
    (hf : X.fn x = true ∨ X.env.scope.names.lookup x = some .local := by first | exact .inl rfl | exact .inr rfl | assumption) : PS X (.Assign [.Name x pos'] e pos) (tS X.K pn E (asgS i f)) :=
  (ps_set hN hi hx he hs hf).imp (asg_of hp)

/-! ### targets -/
def GB (K : PySem.W.Frag) (pn : List (Nat × Addr)) (g : TG) (b : D → Rho → Option Rho) (bs : List Nat) : Prop := ∀ (v : V) (d : D) (σ : St) (G H : Hp) (ρ : Rho) (Q : St → Hp → Prop), EnvOk K pn G H σ ρ → Dt K G v d →
  (match b d ρ with | some ρ' => ∀ σ', (σ'.length = σ.length ∧ ∀ j : Nat, j ∉ bs → σ'[j]? = σ[j]?) → EnvOk K pn G H σ' ρ' → (∀ a, OwnAt σ' ρ' a → OwnAt σ ρ a) → Q σ' H | none => False) → g v σ H Q
@[simp] def bName (i : Nat) : D → Rho → Option Rho := fun d ρ => if i < ρ.length then some (ρ.set i (.dt d)) else none
theorem gb_name {K : PySem.W.Frag} {i : Nat} (hp : NoPin pn i) : GB K pn (gName i) (bName i) [i] := fun v d σ G H ρ Q ok hd h => by
  unfold bName at h
  by_cases c : i < ρ.length
  · simp only [if_pos c] at h
    have ok' := ok.push_dt hd
    obtain ⟨ok2, sub⟩ := ok'.setSlot c fun q hq => ⟨hp q hq, ok.pinLt q hq⟩
    exact h _ ⟨by rw [List.length_set], fun j hj => List.getElem?_set_ne (fun z => hj (by simp [z]))⟩ ok2 fun a q => own_push_dt ok.len (sub a q)
  · simp only [if_neg c] at h
def GBs (K : PySem.W.Frag) (pn : List (Nat × Addr)) (g : TGs) (b : List D → Rho → Option Rho) (bs : List Nat) : Prop := ∀ (vs : List V) (ds : List D) (σ : St) (G H : Hp) (ρ : Rho) (Q : St → Hp → Prop), EnvOk K pn G H σ ρ → DtL K G vs ds →
  (match b ds ρ with | some ρ' => ∀ σ', (σ'.length = σ.length ∧ ∀ j : Nat, j ∉ bs → σ'[j]? = σ[j]?) → EnvOk K pn G H σ' ρ' → (∀ a, OwnAt σ' ρ' a → OwnAt σ ρ a) → Q σ' H | none => False) → g vs σ H Q
@[simp] def bNil : List D → Rho → Option Rho := fun ds ρ => match ds with | [] => some ρ | _ => none
@[simp] def bCons (b : D → Rho → Option Rho) (c : List D → Rho → Option Rho) : List D → Rho → Option Rho := fun ds ρ => match ds with
  | [] => none
  | d :: r => match b d ρ with | some ρ' => c r ρ' | none => none
theorem gbs_nil {K : PySem.W.Frag} : GBs K pn gNil bNil [] := fun vs ds σ G H ρ Q ok hd h => by
  cases hd with
  | nil => exact ⟨rfl, h σ ⟨rfl, fun _ _ => rfl⟩ ok fun _ q => q⟩
  | cons _ _ => exact h.elim
theorem gbs_cons {K : PySem.W.Frag} {g : TG} {u : TGs} {b : D → Rho → Option Rho} {c : List D → Rho → Option Rho} {bs cs : List Nat} (h1 : GB K pn g b bs) (h2 : GBs K pn u c cs) : GBs K pn (gCons g u) (bCons b c) (bs ++ cs) := fun vs ds σ G H ρ Q ok hd h => by
  cases hd with
  | nil => exact h.elim
  | cons hx hr =>
    rename_i v vr d dr
    refine ⟨_, _, rfl, h1 _ _ σ G H ρ _ ok hx ?_⟩
    simp only [bCons] at h
    cases e : b d ρ with
    | none => rw [e] at h; exact h
    | some ρ' =>
      rw [e] at h
      intro σ' hl ok' sub
      refine h2 _ _ σ' G H ρ' Q ok' hr ?_
      simp only at h ⊢
      cases e2 : c dr ρ' with
      | none => rw [e2] at h; exact h
      | some ρ2 =>
        rw [e2] at h
        exact fun σ2 hl2 ok2 sub2 => h σ2 ⟨hl2.1.trans hl.1, fun j hj => (hl2.2 j fun z => hj (List.mem_append_right _ z)).trans (hl.2 j fun z => hj (List.mem_append_left _ z))⟩ ok2 fun a q => sub a (sub2 a q)
@[simp] def bTup (n : Nat) (b : List D → Rho → Option Rho) : D → Rho → Option Rho := fun d ρ => match d with
  | .tup ds => if ds.length = n then b ds ρ else none
  | _ => none
theorem gb_tup {K : PySem.W.Frag} {n : Nat} {u : TGs} {b : List D → Rho → Option Rho} {bs : List Nat} (h1 : GBs K pn u b bs) : GB K pn (gTup K n u) (bTup n b) bs := fun v d σ G H ρ Q ok hd h => by
  cases hd with
  | tup hs ha =>
    rename_i a xs ds
    simp only [bTup] at h
    by_cases c : ds.length = n
    · rw [if_pos c] at h
      refine ⟨_, _, rfl, ?_, by rw [ha.length]; exact c, h1 _ _ σ G H ρ Q ok ha h⟩
      exact Same.sqT ok.sub hs
    · rw [if_neg c] at h; exact h.elim
  | _ => exact h.elim
/-- target = e, the target of any form -/
@[simp] def asgG (b : D → Rho → Option Rho) (f : M Sl) : MS := fun ρ => (bindES f fun s ρ => match s.frz with
  | some d => (match b d ρ with | some ρ' => some (.nx ρ') | none => none)
  | none => none) ρ
theorem asgG_of {g : TG} {b : D → Rho → Option Rho} {f : M Sl} {bs : List Nat} (hg : GB X.K pn g b bs) (D : Ends) (σ : St) (H : Hp) (w : tS X.K pn E (asgG b f) D σ H) : tAsg (tE X.K pn E f) g D σ H := by
  obtain ⟨G, ρ, ok, h⟩ := w
  refine ⟨G, ρ, ok, (PostS.bindE ok h).mono fun v H1 ⟨G1, ρ1, s, ok1, p1⟩ => ?_⟩
  cases es : s.frz with
  | none => simp only [es] at p1; exact p1.elim
  | some d =>
    simp only [es] at p1
    obtain ⟨G2, ok2, d2, x2⟩ := ok1.freeze ok.pinLt es
    refine hg v d σ G2 H1 ρ1 _ ok2 d2 ?_
    cases e : b d ρ1 with
    | none => rw [e] at p1; exact p1
    | some ρ2 =>
      rw [e] at p1
      exact fun σ' hl ok' sub => p1 σ' G2 H1 ok' (x2.sub sub)
theorem psx_asg {tg e : Expr} {g : TG} {b : D → Rho → Option Rho} {f : M Sl} {bs : List Nat} (hg : GB X.K pn g b bs) (ht : PG X tg g) (he : PE X e (tE X.K pn E f)) (hs : swapsWithSole [tg] e pos.line X.env = pure false := by rfl) (hw : swappedStores [tg] e X.env = pure none := by rfl)
    (h1 : (assignEach [tg] X.env).map (·.2) = [assign tg X.env] := by rfl) :
    PS X (.Assign [tg] e pos) (tS X.K pn E (asgG b f)) := (ps_asg he ht hs hw h1).imp (asgG_of hg)

/-! ### walks -/
/-- an iterator that yields these data -/
structure Yields (K : PySem.W.Frag) (J : It) (G : Hp) (ds : List D) : Prop where
  stop : ∀ H, Same G H → J.stop ds.length H
  go : ∀ (i : Nat) (d : D) H, Same G H → ds[i]? = some d → J.go i H
  yld : ∀ (i : Nat) (d : D) H x H', Same G H → ds[i]? = some d → J.yld i H x H' → (H' = H ∧ Dt K G x d) ∨ (∃ p vs es, H p = none ∧ H' = upd H p (.tup vs) ∧ x = .ref p ∧ d = .tup es ∧ DtL K G vs es)
def PostI (K : PySem.W.Frag) (pn : List (Nat × Addr)) (E : XK) (σ : St) (G0 H0 : Hp) (O0 : Addr → Prop) (r : Option (Rs (List D))) (R : It → Hp → Prop) : Prop := match r with
  | some (.val ds ρ') => ∀ J G' H', EnvOk K pn G' H' σ ρ' → Ext G0 H0 O0 G' H' (OwnAt σ ρ') → Yields K J G' ds → R J H'
  | some (.exc x ρ') => ∀ d G' H', EnvOk K pn G' H' σ ρ' → Ext G0 H0 O0 G' H' (OwnAt σ ρ') → XOk K G' H' d x → E (.ref x.cls) d H'
  | none => False
def tI (K : PySem.W.Frag) (pn : List (Nat × Addr)) (E : XK) (f : M (List D)) : TI := fun σ H R => ∃ G ρ, EnvOk K pn G H σ ρ ∧ PostI K pn E σ G H (OwnAt σ ρ) (f ρ) R
def loopS (b : D → Rho → Option Rho) (body : MS) : List D → MS
  | [] => nxS
  | d :: ds => fun ρ => match b d ρ with
    | none => none
    | some ρ1 => match body ρ1 with
      | some (.nx ρ2) => loopS b body ds ρ2
      | some (.ct ρ2) => loopS b body ds ρ2
      | some (.bk ρ2) => some (.nx ρ2)
      | some (.rt s ρ2) => some (.rt s ρ2)
      | some (.exc x ρ2) => some (.exc x ρ2)
      | none => none
@[simp] def forS (src : M (List D)) (b : D → Rho → Option Rho) (body : MS) : MS := fun ρ => (bindES src fun ds => loopS b body ds) ρ
theorem Yields.mono {K : PySem.W.Frag} {J : It} {G G' : Hp} {ds : List D} (y : Yields K J G ds) (k : Same G G') : Yields K J G' ds :=
  ⟨fun H h => y.stop H (k.trans h), fun i d H h e => y.go i d H (k.trans h) e, fun i d H x H' h e q => (y.yld i d H x H' (k.trans h) e q).elim (fun ⟨a, b⟩ => .inl ⟨a, b.mono k⟩) fun ⟨p, vs, es, a, b, c, d, f⟩ => .inr ⟨p, vs, es, a, b, c, d, f.mono k⟩⟩
/-- an item has come -/
theorem Yields.item {K : PySem.W.Frag} {J : It} {G H H' : Hp} {ds : List D} {i : Nat} {d : D} {x : V} {σ : St} {ρ : Rho} (y : Yields K J G ds) (ok : EnvOk K pn G H σ ρ) (e : ds[i]? = some d) (q : J.yld i H x H') :
    ∃ G', EnvOk K pn G' H' σ ρ ∧ Dt K G' x d ∧ Ext G H (OwnAt σ ρ) G' H' (OwnAt σ ρ) := by
  rcases y.yld i d H x H' ok.sub e q with ⟨rfl, h⟩ | ⟨p, vs, es, hp, rfl, rfl, rfl, h⟩
  · exact ⟨G, ok, h, Ext.refl⟩
  · exact ⟨_, ok.alloc hp, .tup (SqT.of upd_same) (h.mono (same_alloc (Same.free ok.sub hp))), Ext.alloc ok.sub hp⟩
theorem PostS.bindI {K : PySem.W.Frag} {σ : St} {G H : Hp} {ρ : Rho} {D : Ends} {f : M (List BT.D)} {k : List BT.D → MS} (ok : EnvOk K pn G H σ ρ) (h : PostS K pn E G H (OwnAt σ ρ) (bindES f k ρ) D) :
    PostI K pn E σ G H (OwnAt σ ρ) (f ρ) (fun J H1 => ∃ G1 ρ1 ds, EnvOk K pn G1 H1 σ ρ1 ∧ Yields K J G1 ds ∧ PostS K pn E G1 H1 (OwnAt σ ρ1) (k ds ρ1) D) := by
  unfold bindES at h
  cases e : f ρ with
  | none => rw [e] at h; exact h
  | some r =>
    rw [e] at h
    cases r with
    | exc x ρ' => exact fun d G' H' a b c => h d σ G' H' a b c
    | val s ρ' => exact fun J G' H' a b c => ⟨G', ρ', s, a, c, h.at b⟩
theorem PostI.mono {K : PySem.W.Frag} {σ : St} {G0 H0 : Hp} {O0 : Addr → Prop} {r : Option (Rs (List D))} {Q Q' : It → Hp → Prop} (h : PostI K pn E σ G0 H0 O0 r Q) (q : ∀ v H, Q v H → Q' v H) : PostI K pn E σ G0 H0 O0 r Q' := by
  unfold PostI at h ⊢
  split at h
  · exact fun v G' H' a b c => q _ _ (h v G' H' a b c)
  · exact h
  · exact h
theorem psx_for {tg iter : Expr} {body : List Stmt} {src : M (List D)} {g : TG} {b : D → Rho → Option Rho} {f : MS} (hp : PassesOwn (model X.prog X.w) X.A X.env X.xe) (hc : X.calm = true) (hi : PI X tg iter (tI X.K pn E src)) {bs : List Nat} (hg : PG X tg g) (hb : GB X.K pn g b bs) (hbody : PSs X body (tS X.K pn E f))
    (hs : ∀ x, foldedSetIterable iter X.env x = pure x := by intro _; rfl) : PS X (.For tg iter body [] pos) (tS X.K pn E (forS src b f)) :=
  (ps_for hp hc hi hg hbody hs).imp fun D σ H ⟨G, ρ, ok, h⟩ => by
    refine ⟨G, ρ, ok, (PostS.bindI ok h).mono fun J H1 ⟨G1, ρ1, ds, ok1, y1, p1⟩ => ?_⟩
    refine ⟨fun i m σ H => m = ds.length - i ∧ i ≤ ds.length ∧ ∃ G ρ, EnvOk X.K pn G H σ ρ ∧ Yields X.K J G ds ∧ PostS X.K pn E G H (OwnAt σ ρ) (loopS b f (ds.drop i) ρ) D, ⟨ds.length, rfl, Nat.zero_le _, G1, ρ1, ok1, y1, p1⟩, ?_⟩
    rintro i m σ H ⟨rfl, hi, G, ρ, ok, y, p⟩
    by_cases hlt : i < ds.length
    · have e : ds[i]? = some ds[i] := List.getElem?_eq_getElem hlt
      rw [List.drop_eq_getElem_cons hlt] at p
      refine .inr ⟨y.go i _ H ok.sub e, fun σ' H' => ∃ G ρ, EnvOk X.K pn G H' σ' ρ ∧ Yields X.K J G ds ∧ PostS X.K pn E G H' (OwnAt σ' ρ) (loopS b f (ds.drop (i + 1)) ρ) D, fun σ' H' ⟨G', ρ', a, b, c⟩ => ⟨ds.length - (i + 1), by omega, rfl, hlt, G', ρ', a, b, c⟩, fun x H' q => ?_⟩
      obtain ⟨G2, ok2, d2, x2⟩ := y.item ok e q
      refine hb x _ σ G2 H' ρ _ ok2 d2 ?_
      simp only [loopS] at p
      cases eb : b ds[i] ρ with
      | none => rw [eb] at p; exact p
      | some ρ3 =>
        rw [eb] at p
        intro σ3 hl ok3 sub3
        have x3 : Ext G H (OwnAt σ ρ) G2 H' (OwnAt σ3 ρ3) := x2.sub sub3
        refine ⟨G2, ρ3, ok3, ?_⟩
        simp only at p
        have p' := PostS.at p x3
        have y2 := y.mono x2.grow
        cases ef : f ρ3 with
        | none => rw [ef] at p'; exact p'
        | some r =>
          rw [ef] at p'
          cases r with
          | nx ρ4 => exact fun s G' H'' a x => ⟨G', ρ4, a, y2.mono x.grow, PostS.at p' x⟩
          | ct ρ4 => exact fun s G' H'' a x => ⟨G', ρ4, a, y2.mono x.grow, PostS.at p' x⟩
          | bk ρ4 => exact fun s G' H'' a x => p' s G' H'' a x
          | rt s ρ4 => exact p'
          | exc x ρ4 => exact p'
    · have e : i = ds.length := by omega
      subst e
      rw [List.drop_length] at p
      exact .inl ⟨y.stop H ok.sub, p σ G H ok Ext.refl⟩
end
end BT

namespace BT
open PySem L2
open PyProof.Rows (envOfC)

/-! ### a def's contract -/
abbrev Fn := List Sl → Option (Rs Sl)
def SpF (K : PySem.W.Frag) (F : Fn) : Sp := fun vs H Q E => ∃ G ρ, EnvOk K [] G H (vs.map some) ρ ∧ Post K [] E (vs.map some) G H (OwnAt (vs.map some) ρ) (F ρ) Q
@[simp] def Sl.isOl : Sl → Bool | .ol _ => true | _ => false
@[simp] def backA : Nat → List Sl → Rho → List Sl
  | _, [], _ => []
  | i, a :: as, ρ => (if a.isOl = true then ρ.getD i .un else a) :: backA (i + 1) as ρ
@[simp] def modeOk (own : List Nat) : Nat → List Sl → Bool
  | _, [] => true
  | i, a :: as => (!a.isOl || own.contains i) && modeOk own (i + 1) as
def runB (n np : Nat) (own : List Nat) (body : MS) : Fn := fun args =>
  if args.length = np ∧ np ≤ n ∧ modeOk own 0 args = true then
    match body (args ++ List.replicate (n - np) .un) with
    | some (.nx ρ) => some (.val (.dt .non) (backA 0 args ρ))
    | some (.rt s ρ) => some (.val s (backA 0 args ρ))
    | some (.exc x ρ) => some (.exc x (backA 0 args ρ))
    | _ => none
  else none

theorem backA_length : ∀ (as : List Sl) (i : Nat) (ρ : Rho), (backA i as ρ).length = as.length
  | [], _, _ => rfl
  | a :: as, i, ρ => by simp [backA, backA_length as]
theorem backA_get : ∀ (as : List Sl) (i : Nat) (ρ : Rho) (j : Nat), (backA i as ρ)[j]? = as[j]?.map fun a => if a.isOl = true then ρ.getD (i + j) .un else a
  | [], _, _, j => by simp [backA]
  | a :: as, i, ρ, 0 => by simp [backA]
  | a :: as, i, ρ, j + 1 => by simp only [backA, List.getElem?_cons_succ]; rw [backA_get as (i + 1) ρ j]; simp only [Nat.add_assoc, Nat.add_comm 1 j]
theorem modeOk_get {own : List Nat} : ∀ (as : List Sl) (i : Nat), modeOk own i as = true → ∀ (j : Nat) (ds : List D), as[j]? = some (.ol ds) → i + j ∈ own
  | [], _, _, j, ds, h => by simp at h
  | a :: as, i, e, 0, ds, h => by
    simp at h; subst h
    simp [modeOk, Sl.isOl] at e
    exact e.1
  | a :: as, i, e, j + 1, ds, h => by
    simp [modeOk] at e
    have := modeOk_get as (i + 1) e.2 j ds (by simpa using h)
    rw [show i + 1 + j = i + (j + 1) by omega] at this
    exact this

/-- the pins of the arguments -/
def pinsOf : Nat → List V → List Sl → List (Nat × Addr)
  | i, .ref a :: vs, .ol _ :: as => (i, a) :: pinsOf (i + 1) vs as
  | i, _ :: vs, _ :: as => pinsOf (i + 1) vs as
  | _, _, _ => []
theorem pinsOf_mem : ∀ (vs : List V) (as : List Sl) (i : Nat) (q : Nat × Addr), q ∈ pinsOf i vs as → ∃ (j : Nat) (ds : List D), q.1 = i + j ∧ vs[j]? = some (.ref q.2) ∧ as[j]? = some (.ol ds)
  | [], as, i, q, h => by cases as <;> simp [pinsOf] at h
  | v :: vs, [], i, q, h => by cases v <;> simp [pinsOf] at h
  | v :: vs, a :: as, i, q, h => by
    have step : q ∈ pinsOf (i + 1) vs as → ∃ (j : Nat) (ds : List D), q.1 = i + j ∧ (v :: vs)[j]? = some (.ref q.2) ∧ (a :: as)[j]? = some (.ol ds) := fun h => by
      obtain ⟨j, ds, h1, h2, h3⟩ := pinsOf_mem vs as (i + 1) q h
      exact ⟨j + 1, ds, by omega, by simpa using h2, by simpa using h3⟩
    cases v with
    | ref b =>
      cases a with
      | ol es =>
        simp only [pinsOf, List.mem_cons] at h
        rcases h with rfl | h
        · exact ⟨0, es, rfl, rfl, rfl⟩
        · exact step h
      | _ => exact step h
    | _ => exact step (by cases a <;> exact h)
theorem pinsOf_of : ∀ (vs : List V) (as : List Sl) (i j : Nat) (p : Addr) (ds : List D), vs[j]? = some (.ref p) → as[j]? = some (.ol ds) → (i + j, p) ∈ pinsOf i vs as
  | [], _, _, j, _, _, h, _ => by simp at h
  | _ :: _, [], _, j, _, _, _, h => by simp at h
  | v :: vs, a :: as, i, 0, p, ds, h, g => by
    simp at h g; subst h g
    simp [pinsOf]
  | v :: vs, a :: as, i, j + 1, p, ds, h, g => by
    have := pinsOf_of vs as (i + 1) j p ds (by simpa using h) (by simpa using g)
    rw [show i + 1 + j = i + (j + 1) by omega] at this
    cases v with
    | ref b =>
      cases a with
      | ol es => simp only [pinsOf, List.mem_cons]; exact .inr this
      | _ => exact this
    | _ => cases a <;> exact this

theorem EnvOk.start {K : PySem.W.Frag} {pn : List (Nat × Addr)} {G H : Hp} {σ : St} {ρ : Rho} (ok : EnvOk K pn G H σ ρ) (k : Nat) : EnvOk K pn G H (σ ++ List.replicate k none) (ρ ++ List.replicate k .un) := by
  have hl := ok.len
  have g : ∀ {i : Nat} {s : Sl}, (ρ ++ List.replicate k .un)[i]? = some s → (i < ρ.length ∧ ρ[i]? = some s) ∨ s = .un := fun {i s} h => by
    by_cases c : i < ρ.length
    · rw [get_append_lt c] at h; exact .inl ⟨c, h⟩
    · rw [List.getElem?_append_right (by omega)] at h
      have := List.mem_of_getElem? h
      exact .inr (List.eq_of_mem_replicate this)
  refine ⟨ok.sub, by simp [hl], fun i d h => ?_, fun i ds h => ?_, fun i j ds es p h1 h2 h3 h4 => ?_, fun q hq => ?_⟩
  · rcases g h with ⟨c, h⟩ | h
    · obtain ⟨v, a, b⟩ := ok.dt i d h
      exact ⟨v, by rw [get_append_lt (by omega)]; exact a, b⟩
    · cases h
  · rcases g h with ⟨c, h⟩ | h
    · obtain ⟨p, vs, a, b⟩ := ok.ol i ds h
      exact ⟨p, vs, by rw [get_append_lt (by omega)]; exact a, b⟩
    · cases h
  · rcases g h1 with ⟨c1, h1⟩ | h1
    · rcases g h2 with ⟨c2, h2⟩ | h2
      · rw [get_append_lt (by omega)] at h3 h4
        exact ok.inj i j ds es p h1 h2 h3 h4
      · cases h2
    · cases h1
  · have := ok.pins q hq
    rw [get_append_lt (lt_of_get this)]; exact this
theorem own_start {σ : St} {ρ : Rho} (hl : σ.length = ρ.length) (k : Nat) {a : Addr} : OwnAt (σ ++ List.replicate k none) (ρ ++ List.replicate k .un) a ↔ OwnAt σ ρ a := by
  constructor
  · rintro ⟨i, ds, h1, h2⟩
    by_cases c : i < ρ.length
    · rw [get_append_lt c] at h1
      rw [get_append_lt (by omega)] at h2
      exact ⟨i, ds, h1, h2⟩
    · rw [List.getElem?_append_right (by omega)] at h1
      have := List.eq_of_mem_replicate (List.mem_of_getElem? h1)
      cases this
  · rintro ⟨i, ds, h1, h2⟩
    exact ⟨i, ds, by rw [get_append_lt (lt_of_get h1)]; exact h1, by rw [get_append_lt (lt_of_get h2)]; exact h2⟩

section
variable {K : PySem.W.Frag} {G H G' H' : Hp} {vs : List V} {args : List Sl} {σ' : St} {ρ' : Rho} {n : Nat}
/-- the way out of a body: the temps at its end -/
theorem EnvOk.out {tv : List (Option V)} {ts : List Sl} (ok : EnvOk K [] G H (vs.map some) args) (ok' : EnvOk K (pinsOf 0 vs args) G' H' (σ' ++ tv) (ρ' ++ ts)) (ht : tv.length = ts.length) (grow : Same G G') :
    EnvOk K [] G' H' (vs.map some ++ tv) (backA 0 args ρ' ++ ts) ∧ ∀ a, OwnAt (vs.map some ++ tv) (backA 0 args ρ' ++ ts) a → OwnAt (σ' ++ tv) (ρ' ++ ts) a := by
  have hl : vs.length = args.length := by have := ok.len; simpa using this
  have hl' : σ'.length = ρ'.length := by have := ok'.len; simp at this; omega
  have bl := backA_length args 0 ρ'
  -- where a slot of the way out stands in the body's state, if it is one's own
  have src : ∀ {j : Nat} {s : Sl}, (backA 0 args ρ' ++ ts)[j]? = some s → (∃ d, s = .dt d ∧ args[j]? = some (.dt d) ∧ j < args.length) ∨ s = .un ∨
      ∃ k, (ρ' ++ ts)[k]? = some s ∧ (σ' ++ tv)[k]? = (vs.map some ++ tv)[j]? ∧ k = (if j < args.length then j else ρ'.length + (j - args.length)) := fun {j s} h => by
    by_cases c : j < args.length
    · rw [get_append_lt (by omega), backA_get] at h
      cases e : args[j]? with
      | none => rw [e] at h; cases h
      | some a =>
        rw [e] at h
        simp only [Option.map_some, Option.some.injEq, Nat.zero_add] at h
        by_cases ca : a.isOl = true
        · rw [if_pos ca] at h
          cases a with
          | ol ds =>
            -- one's own argument: pinned
            obtain ⟨p, ws, h1, h2, h3⟩ := ok.ol j ds e
            have h1' : vs[j]? = some (.ref p) := by
              rw [List.getElem?_map] at h1
              cases q : vs[j]? with
              | none => rw [q] at h1; cases h1
              | some v => rw [q] at h1; cases h1; rfl
            have pm := pinsOf_of vs args 0 j p ds h1' e
            rw [Nat.zero_add] at pm
            have pin := ok'.pins _ pm
            by_cases cr : j < ρ'.length
            · refine .inr (.inr ⟨j, ?_, ?_, by rw [if_pos c]⟩)
              · rw [get_append_lt cr, ← h, List.getD_eq_getElem?_getD, List.getElem?_eq_getElem cr]; rfl
              · rw [pin, get_append_lt (by simp; omega), h1]
            · right; left
              rw [← h, List.getD_eq_getElem?_getD, List.getElem?_eq_none (by omega)]; rfl
          | un => cases ca
          | dt d => cases ca
        · rw [if_neg ca] at h
          cases a with
          | un => exact .inr (.inl h.symm)
          | dt d => subst h; exact .inl ⟨d, rfl, rfl, c⟩
          | ol ds => exact absurd rfl ca
    · rw [List.getElem?_append_right (by omega), bl] at h
      refine .inr (.inr ⟨ρ'.length + (j - args.length), ?_, ?_, by rw [if_neg c]⟩)
      · rw [List.getElem?_append_right (by omega), show ρ'.length + (j - args.length) - ρ'.length = j - args.length by omega]; exact h
      · rw [List.getElem?_append_right (by omega), List.getElem?_append_right (by simp; omega), List.length_map, hl, hl', show ρ'.length + (j - args.length) - ρ'.length = j - args.length by omega]
  refine ⟨⟨ok'.sub, by simp [bl, hl, ht], fun j d h => ?_, fun j ds h => ?_, fun i j ds es p h1 h2 h3 h4 => ?_, fun q hq => by simp at hq⟩, fun a ⟨j, ds, h1, h2⟩ => ?_⟩
  · rcases src h with ⟨d', e1, e2, c⟩ | e | ⟨k, e1, e2, _⟩
    · cases e1
      obtain ⟨v, a, b⟩ := ok.dt j d e2
      exact ⟨v, by rw [get_append_lt (by simp; omega)]; exact a, b.mono grow⟩
    · cases e
    · obtain ⟨v, a, b⟩ := ok'.dt k d e1
      exact ⟨v, by rw [← e2]; exact a, b⟩
  · rcases src h with ⟨d', e1, e2, c⟩ | e | ⟨k, e1, e2, _⟩
    · cases e1
    · cases e
    · obtain ⟨p, ws, a, b⟩ := ok'.ol k ds e1
      exact ⟨p, ws, by rw [← e2]; exact a, b⟩
  · rcases src h1 with ⟨d', e1, _⟩ | e | ⟨k1, a1, a2, a3⟩
    · cases e1
    · cases e
    · rcases src h2 with ⟨d', e1, _⟩ | e | ⟨k2, b1, b2, b3⟩
      · cases e1
      · cases e
      · have z := ok'.inj k1 k2 ds es p a1 b1 (by rw [a2]; exact h3) (by rw [b2]; exact h4)
        -- an own argument's slot lies in the body's slots
        have lim : ∀ {j : Nat} {s : List D} {k : Nat}, (backA 0 args ρ' ++ ts)[j]? = some (.ol s) → j < args.length → j < ρ'.length := fun {j s k} h c => by
          rw [get_append_lt (by omega), backA_get] at h
          cases e : args[j]? with
          | none => rw [e] at h; cases h
          | some a =>
            rw [e] at h
            simp only [Option.map_some, Option.some.injEq, Nat.zero_add] at h
            by_cases ca : a.isOl = true
            · rw [if_pos ca] at h
              by_cases cr : j < ρ'.length
              · exact cr
              · rw [List.getD_eq_getElem?_getD, List.getElem?_eq_none (by omega)] at h; cases h
            · rw [if_neg ca] at h; subst h; exact absurd rfl ca
        rw [a3, b3] at z
        by_cases c1 : i < args.length
        · by_cases c2 : j < args.length
          · rw [if_pos c1, if_pos c2] at z; exact z
          · rw [if_pos c1, if_neg c2] at z
            have := lim (k := 0) h1 c1
            omega
        · by_cases c2 : j < args.length
          · rw [if_neg c1, if_pos c2] at z
            have := lim (k := 0) h2 c2
            omega
          · rw [if_neg c1, if_neg c2] at z; omega
  · rcases src h1 with ⟨d', e1, _⟩ | e | ⟨k, e1, e2, _⟩
    · cases e1
    · cases e
    · exact ⟨k, ds, e1, by rw [e2]; exact h2⟩
end

section
variable {P : Program} {w : World} {K : PySem.W.Frag} {mg : Str → Option Value} {base : Heap}
/-- what the body's reading is, from the contract's -/
theorem body_of {N ps : List Str} {own : List Nat} {f : MS} {vs : List V} {H : Hp} {Q : VK} {E : XK} (h : SpF K (runB N.length ps.length own f) vs H Q E) :
    ∃ pn, (∀ q ∈ pn, q.1 ∈ own) ∧ tS K pn E f { nx := fun _ H' => Q .non H', rt := Q } (start N vs) H := by
  obtain ⟨G, args, ok, p⟩ := h
  have hl : vs.length = args.length := by have := ok.len; simpa using this
  unfold runB at p
  by_cases c : args.length = ps.length ∧ ps.length ≤ N.length ∧ modeOk own 0 args = true
  · rw [if_pos c] at p
    obtain ⟨c1, c2, c3⟩ := c
    refine ⟨pinsOf 0 vs args, fun q hq => ?_, G, args ++ List.replicate (N.length - ps.length) .un, ?_, ?_⟩
    · obtain ⟨j, ds, h1, h2, h3⟩ := pinsOf_mem vs args 0 q hq
      have := modeOk_get args 0 c3 j ds h3
      rw [h1]; exact this
    · have ok0 : EnvOk K (pinsOf 0 vs args) G H (vs.map some) args := ⟨ok.sub, ok.len, ok.dt, ok.ol, ok.inj, fun q hq => by
        obtain ⟨j, ds, h1, h2, h3⟩ := pinsOf_mem vs args 0 q hq
        rw [h1, Nat.zero_add, List.getElem?_map, h2]; rfl⟩
      have := ok0.start (N.length - ps.length)
      unfold L2.start
      rw [hl, c1]; exact this
    · have e : L2.start N vs = vs.map some ++ List.replicate (N.length - ps.length) none := by unfold L2.start; rw [hl, c1]
      rw [e]
      have hO : ∀ a, OwnAt (vs.map some ++ List.replicate (N.length - ps.length) none) (args ++ List.replicate (N.length - ps.length) .un) a ↔ OwnAt (vs.map some) args a := fun a => own_start ok.len _
      have conv : ∀ {G' H' : Hp} {O' : Addr → Prop}, Ext G H (OwnAt (vs.map some ++ List.replicate (N.length - ps.length) none) (args ++ List.replicate (N.length - ps.length) .un)) G' H' O' → Ext G H (OwnAt (vs.map some) args) G' H' O' := fun x =>
        ⟨x.grow, fun a q => (x.fresh a q).elim .inl fun h => h.elim (fun h => .inr (.inl h)) fun h => .inr (.inr ((hO a).mp h)), fun a o q n => x.keep a o q fun z => n ((hO a).mp z), fun a q => (x.own a q).imp (hO a).mp id⟩
      cases eb : f (args ++ List.replicate (N.length - ps.length) .un) with
      | none => rw [eb] at p; exact p
      | some r =>
        rw [eb] at p
        cases r with
        | nx ρ' =>
          intro σ' G' H' ok' x'
          have ok2 := ok'.push_dt (v := .non) (d := .non) .non
          obtain ⟨ok3, sub⟩ := ok.out ok2 rfl x'.grow
          exact p .non G' H' ok3 ((conv (Ext.push_dt (O' := OwnAt σ' ρ') ok'.len x')).sub sub)
        | rt s ρ' =>
          intro v σ' G' H' ok' x'
          obtain ⟨ok3, sub⟩ := ok.out ok' rfl x'.grow
          exact p v G' H' ok3 ((conv x').sub sub)
        | bk _ => exact p.elim
        | ct _ => exact p.elim
        | exc x ρ' =>
          intro d σ' G' H' ok' x' xo
          obtain ⟨ok3, sub⟩ := ok.out (tv := []) (ts := []) (by rw [List.append_nil, List.append_nil]; exact ok') rfl x'.grow
          rw [List.append_nil, List.append_nil] at ok3 sub
          rw [List.append_nil, List.append_nil] at sub
          exact p d G' H' ok3 ((conv x').sub sub) xo
  · rw [if_neg c] at p; exact p.elim
theorem runB_len {n np : Nat} {own : List Nat} {f : MS} (vs : List V) (H : Hp) (Q : VK) (E : XK) (h : SpF K (runB n np own f) vs H Q E) : vs.length = np := by
  obtain ⟨G, args, ok, p⟩ := h
  have hl : vs.length = args.length := by have := ok.len; simpa using this
  unfold runB at p
  by_cases c : args.length = np ∧ np ≤ n ∧ modeOk own 0 args = true
  · rw [hl]; exact c.1
  · rw [if_neg c] at p; exact p.elim
/-- a def that raises nothing -/
theorem okF {x qual : Str} {st : Stmt} {f : Addr} {fd : FuncData} {N ps : List Str} {k : Nat} (own : List Nat) {m : MS} (F : Fun K x qual st f fd) (S : FnScope N ps (defScope st))
    (body : ∀ (pn : List (Nat × Addr)) (cdv : Value) (A : Around) (outer : List Env) (s : Shared) (H : Hp) (E : XK), (∀ q ∈ pn, q.1 ∈ own) → Room k (A.deeper (envOfC qual (defScope st) s.heap.objs.size f cdv)) →
      PSs (cxOf CX0 P w K mg base N qual (defScope st) f cdv A outer s H E).nox (defBody st) (tS K pn (fun _ _ _ => False) m)) :
    FnOk P w K mg base CX0 (k + 1) f fd ps (fun vs H Q _ => SpF K (runB N.length ps.length own m) vs H Q (fun _ _ _ => False)) := by
  refine F.ok S (fun vs H Q E h => runB_len vs H Q _ h) (fun cdv A outer s H vs Q E hr h => ?_)
  obtain ⟨pn, hp, q⟩ := body_of h
  exact ⟨_, body pn cdv A outer s H E hp hr, q⟩
end

/-! ### calls of defs -/
def callF (F : Fn) (fs : M (List D)) : M Sl := bindM fs fun ds ρ => match F (ds.map .dt) with
  | some (.val s _) => some (.val s ρ)
  | some (.exc x _) => some (.exc x ρ)
  | none => none
section
variable {K : PySem.W.Frag} {pn : List (Nat × Addr)} {G H : Hp} {σ : St} {ρ : Rho}
theorem noOwn_dts {vs : List (Option V)} {ds : List D} {a : Addr} (h : OwnAt vs (ds.map .dt) a) : False := by
  obtain ⟨i, es, h1, _⟩ := h
  rw [List.getElem?_map] at h1
  cases e : ds[i]? with
  | none => rw [e] at h1; cases h1
  | some d => rw [e] at h1; cases h1
theorem EnvOk.args {vs : List V} {ds : List D} (sub : Same G H) (h : DtL K G vs ds) : EnvOk K [] G H (vs.map some) (ds.map .dt) := by
  have hl := h.length
  refine ⟨sub, by simp [hl], fun i d e => ?_, fun i es e => ?_, fun i j es fs p h1 => ?_, fun q hq => by simp at hq⟩
  · rw [List.getElem?_map] at e
    cases e2 : ds[i]? with
    | none => rw [e2] at e; cases e
    | some d' =>
      rw [e2] at e; cases e
      obtain ⟨v, a, b⟩ := h.getD e2
      exact ⟨v, by rw [List.getElem?_map, a]; rfl, b⟩
  · rw [List.getElem?_map] at e
    cases e2 : ds[i]? with
    | none => rw [e2] at e; cases e
    | some d' => rw [e2] at e; cases e
  · rw [List.getElem?_map] at h1
    cases e2 : ds[i]? with
    | none => rw [e2] at h1; cases h1
    | some d' => rw [e2] at h1; cases h1
/-- behind a call with no argument of one's own: the caller's state -/
theorem EnvOk.back {G' H' : Hp} (ok : EnvOk K pn G H σ ρ) (x : ∀ a, G' a ≠ none → G a ≠ none ∨ H a = none) (grow : Same G G') (keep : Same H H') (sub : Same G' H') : EnvOk K pn G' H' σ ρ := by
  refine ⟨sub, ok.len, fun i d h => ?_, fun i ds h => ?_, ok.inj, ok.pins⟩
  · obtain ⟨v, a, b⟩ := ok.dt i d h; exact ⟨v, a, b.mono grow⟩
  · obtain ⟨p, vs, a, b, c, d⟩ := ok.ol i ds h
    refine ⟨p, vs, a, keep _ _ b, ?_, d.mono grow⟩
    cases e : G' p with
    | none => rfl
    | some o =>
      rcases x p (by rw [e]; simp) with h | h
      · exact absurd c h
      · rw [b] at h; cases h
theorem EnvOk.push_any {v : V} {s : Sl} {τ : St} {κ : Rho} (ok : EnvOk K pn G H σ ρ) (ok2 : EnvOk K [] G H (τ ++ [some v]) (κ ++ [s])) (hl2 : τ.length = κ.length) (ne : ∀ a, v = .ref a → (∃ ds, s = .ol ds) → ¬ OwnAt σ ρ a) : EnvOk K pn G H (σ ++ [some v]) (ρ ++ [s]) := by
  cases s with
  | dt d =>
    obtain ⟨w, a, b⟩ := ok2.dt κ.length d get_append_eq
    rw [← hl2, get_append_eq] at a; cases a
    exact ok.push_dt b
  | un =>
    have hl := ok.len
    have g : ∀ {i : Nat} {t : Sl}, (ρ ++ [.un])[i]? = some t → (i < ρ.length ∧ ρ[i]? = some t) ∨ t = .un := fun h => by
      rcases get_append1 h with h | ⟨_, h⟩
      · exact .inl h
      · exact .inr h.symm
    refine ⟨ok.sub, by simp [hl], fun i d h => ?_, fun i ds h => ?_, fun i j ds es p h1 h2 h3 h4 => ?_, fun q hq => ?_⟩
    · rcases g h with ⟨c, h⟩ | h
      · obtain ⟨v, a, b⟩ := ok.dt i d h
        exact ⟨v, by rw [get_append_lt (by omega)]; exact a, b⟩
      · cases h
    · rcases g h with ⟨c, h⟩ | h
      · obtain ⟨p, vs, a, b⟩ := ok.ol i ds h
        exact ⟨p, vs, by rw [get_append_lt (by omega)]; exact a, b⟩
      · cases h
    · rcases g h1 with ⟨c1, h1⟩ | h1
      · rcases g h2 with ⟨c2, h2⟩ | h2
        · rw [get_append_lt (by omega)] at h3 h4
          exact ok.inj i j ds es p h1 h2 h3 h4
        · cases h2
      · cases h1
    · have := ok.pins q hq
      rw [get_append_lt (lt_of_get this)]; exact this
  | ol ds =>
    have hl := ok.len
    obtain ⟨p, vs, a, b, c, e⟩ := ok2.ol κ.length ds get_append_eq
    rw [← hl2, get_append_eq] at a; cases a
    have nn := ne p rfl ⟨ds, rfl⟩
    refine ⟨ok.sub, by simp [hl], fun i d h => ?_, fun i es h => ?_, fun i j ds1 es q h1 h2 h3 h4 => ?_, fun q hq => ?_⟩
    · rcases get_append1 h with ⟨c, h⟩ | ⟨_, h⟩
      · obtain ⟨v, a, b⟩ := ok.dt i d h
        exact ⟨v, by rw [get_append_lt (by omega)]; exact a, b⟩
      · cases h
    · rcases get_append1 h with ⟨c1, h5⟩ | ⟨c1, h5⟩
      · obtain ⟨q, ws, h1, h2⟩ := ok.ol i es h5
        exact ⟨q, ws, by rw [get_append_lt (by omega)]; exact h1, h2⟩
      · subst c1; injection h5 with h5; subst h5
        exact ⟨p, vs, by rw [← hl, get_append_eq], b, c, e⟩
    · rcases get_append1 h1 with ⟨c1, e1⟩ | ⟨c1, e1⟩
      · rw [get_append_lt (by omega)] at h3
        rcases get_append1 h2 with ⟨c2, e2⟩ | ⟨c2, e2⟩
        · rw [get_append_lt (by omega)] at h4
          exact ok.inj i j ds1 es q e1 e2 h3 h4
        · subst c2; rw [← hl, get_append_eq] at h4; cases h4
          exact (nn ⟨i, ds1, e1, h3⟩).elim
      · subst c1; rw [← hl, get_append_eq] at h3; cases h3
        rcases get_append1 h2 with ⟨c2, e2⟩ | ⟨c2, e2⟩
        · rw [get_append_lt (by omega)] at h4
          exact (nn ⟨j, es, e2, h4⟩).elim
        · exact c2.symm
    · have := ok.pins q hq
      rw [get_append_lt (lt_of_get this)]; exact this
theorem spF_of {E : XK} {F : Fn} {vs : List V} {ds : List D} {Q : VK} (ok : EnvOk K pn G H σ ρ) (h : DtL K G vs ds)
    (p : Post K pn E σ G H (OwnAt σ ρ) (match F (ds.map .dt) with | some (.val s _) => some (.val s ρ) | some (.exc x _) => some (.exc x ρ) | none => none) Q) : SpF K F vs H Q E := by
  have hl := h.length
  refine ⟨G, ds.map .dt, EnvOk.args ok.sub h, ?_⟩
  cases e : F (ds.map .dt) with
  | none => rw [e] at p; exact p
  | some r =>
    rw [e] at p
    have ko : ∀ {G' H' : Hp} {O' : Addr → Prop}, Ext G H (OwnAt (vs.map some) (ds.map .dt)) G' H' O' → (∀ a, G' a ≠ none → G a ≠ none ∨ H a = none) ∧ Same H H' ∧ ∀ a, O' a → H a = none := fun x =>
      ⟨fun a q => (x.fresh a q).elim .inl fun h => h.elim .inr fun h => (noOwn_dts h).elim, fun a o q => x.keep a o q fun z => noOwn_dts z, fun a q => by exact (x.own a q).elim (fun h => (noOwn_dts h).elim) id⟩
    cases r with
    | val s ρ' =>
      intro v G' H' ok' x'
      obtain ⟨k1, k2, k3⟩ := ko x'
      have okb := ok.back k1 x'.grow k2 ok'.sub
      have hl2 : (vs.map some).length = ρ'.length := by have := ok'.len; simpa using this
      have last : ∀ a, v = .ref a → (∃ es, s = .ol es) → OwnAt (vs.map some ++ [some v]) (ρ' ++ [s]) a := fun a e1 ⟨es, e2⟩ => by
        subst e1 e2
        exact ⟨ρ'.length, es, get_append_eq, by rw [← hl2]; exact get_append_eq⟩
      refine p v G' H' (okb.push_any ok' hl2 fun a e1 e2 z => ?_) ⟨x'.grow, fun a q => (k1 a q).imp id .inl, fun a o q _ => k2 a o q, fun a q => ?_⟩
      · have := k3 a (last a e1 e2)
        obtain ⟨i, es, h1, h2⟩ := z
        obtain ⟨p', ws, h3, h4, _⟩ := ok.ol i es h1
        rw [h2] at h3; cases h3
        rw [h4] at this; cases this
      · rcases own_dn ok.len q with q | ⟨q1, q2⟩
        · exact .inl q
        · exact .inr (k3 a (last a (Option.some.inj q1) q2))
    | exc x ρ' =>
      intro d G' H' ok' x' xo
      obtain ⟨k1, k2, k3⟩ := ko x'
      exact p d G' H' (ok.back k1 x'.grow k2 ok'.sub) ⟨x'.grow, fun a q => (k1 a q).imp id .inl, fun a o q _ => k2 a o q, fun a q => .inl q⟩ xo
end
section
variable {X : Cx} {pn : List (Nat × Addr)} {E : XK} {pos : Pos}
theorem tCall_of {F : Fn} {sp : Sp} {fs : M (List D)} {E' : XK} (hsp : ∀ vs H Q, SpF X.K F vs H Q E → sp vs H Q E') (σ : St) (H : Hp) (Q : VK) (w : tE X.K pn E (callF F fs) σ H Q) : tCall sp [] E' (tA X.K pn E fs) σ H Q := by
  obtain ⟨G, ρ, ok, p⟩ := w
  exact ⟨G, ρ, ok, (Post.bindA ok p).mono fun vs H1 ⟨G1, ρ1, ds, ok1, s1, d1, p1⟩ => by rw [List.append_nil]; exact hsp _ _ _ (spF_of ok1 d1 p1)⟩
/-- a call of a def that raises nothing, its arguments data -/
theorem px_call {F : Fn} {k : Nat} {f : Addr} {fd : FuncData} {ps : List Str} {x : Str} {p : Pos} {e : Expr} {es : List Expr} {fs : M (List D)} (G : FnOk X.prog X.w X.K X.mg X.base CX0 k f fd ps (fun vs H Q _ => SpF X.K F vs H Q (fun _ _ _ => False))) (hr : Room k X.A) (hm : X.mg x = some (.ref f)) (hk : PySem.W.keepIn X.K (.ref f) = true) (hb : Binds X.K fd ps [])
    (ha : PA X (e :: es) (tA X.K pn (fun _ _ _ => False) fs)) (hg : Gl X x := by rfl) (hdb : (x == ("__debug__" : Str)) = false := by decide) (he : starEach (e :: es) X.env = (false, eval e X.env) :: starEach es X.env := by rfl) (hpl : (backTo pos (starEach es X.env)).any (·.1) = false := by rfl) :
    PE X (.Call (.Name x p) (e :: es) [] pos) (tE X.K pn (fun _ _ _ => False) (callF F fs)) :=
  (pe_call G hr hg hm hk hb .nil pass0 ha hdb he hpl).imp (tCall_of fun _ _ _ h => h)
end
end BT

namespace BT
open PySem L2
open PyProof.Rows (envOfC)

/-! ### walks over data -/
section
variable {K : PySem.W.Frag} {G H : Hp} {a : Addr} {xs : List V} {ds : List D}
theorem yields_list (h : SqL K G a xs) (hd : DtL K G xs ds) : Yields K (Itl K a) G ds := by
  have hl := hd.length
  refine ⟨fun H k => ⟨xs, k.seq h, by omega⟩, fun i d H k e => ?_, fun i d H x H' k e q => ?_⟩
  · obtain ⟨x, e1, _⟩ := hd.getD e
    exact ⟨xs, x, k.seq h, e1⟩
  · obtain ⟨x', e1, e2⟩ := hd.getD e
    obtain ⟨rfl, q⟩ := q
    have := q xs (k.seq h)
    rw [e1] at this; cases this
    exact .inl ⟨rfl, e2⟩
theorem yields_tup (h : SqT K G a xs) (hd : DtL K G xs ds) : Yields K (Itt K a) G ds := by
  have hl := hd.length
  refine ⟨fun H k => ⟨xs, Same.sqT k h, by omega⟩, fun i d H k e => ?_, fun i d H x H' k e q => ?_⟩
  · obtain ⟨x, e1, _⟩ := hd.getD e
    exact ⟨xs, x, Same.sqT k h, e1⟩
  · obtain ⟨x', e1, e2⟩ := hd.getD e
    obtain ⟨rfl, q⟩ := q
    have := q xs (Same.sqT k h)
    rw [e1] at this; cases this
    exact .inl ⟨rfl, e2⟩
def rangeD (lo : Int) (n : Nat) : List D := (List.range n).map fun k => .int (lo + (k : Nat))
theorem yields_range {lo : Int} {n : Nat} : Yields K (Itr lo n) G (rangeD lo n) := by
  unfold rangeD
  refine ⟨fun H k => ?_, fun i d H k e => ?_, fun i d H x H' k e q => ?_⟩
  · show n ≤ _
    simp
  · have := lt_of_get e
    show i < n
    simpa using this
  · obtain ⟨rfl, rfl⟩ := q
    have hlt : i < n := by have := lt_of_get e; simpa using this
    rw [List.getElem?_map, List.getElem?_range hlt] at e
    cases e
    exact .inl ⟨rfl, .int _⟩
def signsD (z : Str) : List D := z.cps.toList.map fun c => .str ⟨#[c]⟩
theorem yields_str {z : Str} : Yields K (Its z) G (signsD z) := by
  unfold signsD
  refine ⟨fun H k => ?_, fun i d H k e => ?_, fun i d H x H' k e q => ?_⟩
  · show z.cps.size ≤ _
    simp
  · have := lt_of_get e
    show i < z.cps.size
    simpa using this
  · obtain ⟨rfl, c, hc, rfl⟩ := q
    rw [List.getElem?_map] at e
    rw [show z.cps.toList[i]? = some c by simpa using hc] at e
    cases e
    exact .inl ⟨rfl, .str _⟩
end
@[simp] def seqD (f : M Sl) : M (List D) := fun ρ => (bindD f fun d => match d with
  | .lst ds => fun ρ => some (.val ds ρ)
  | .tup ds => fun ρ => some (.val ds ρ)
  | .str z => fun ρ => some (.val (signsD z) ρ)
  | _ => fun _ => none) ρ
section
variable {X : Cx} {pn : List (Nat × Addr)} {E : XK} {pos : Pos} {tg : Expr}
theorem PI.imp {e : Expr} {t t' : TI} (h : PI X tg e t) (i : ∀ σ H R, t' σ H R → t σ H R) : PI X tg e t' := ⟨fun pins s σ H Q I hw => h.run pins s σ H Q I (i σ H Q hw)⟩
def iSeq (K : PySem.W.Frag) (tl : TE) : TI := fun σ H R => tl σ H fun x H1 => (∃ a, x = .ref a ∧ (∃ xs, SqL K H1 a xs) ∧ R (Itl K a) H1) ∨ (∃ a, x = .ref a ∧ (∃ xs, SqT K H1 a xs) ∧ R (Itt K a) H1) ∨ ∃ z, x = .str z ∧ R (Its z) H1
theorem pi_seq {l : Expr} {tl : TE} (hl : PE X l tl) : PI X tg l (iSeq X.K tl) := by
  refine ⟨fun pins s σ H R I h => ?_⟩
  refine thn (hl.run pins s σ H _ I h) fun v s1 ⟨x, H1, I1, r1, q1⟩ => ?_
  rcases q1 with ⟨a, e, ⟨xs, hq⟩, q⟩ | ⟨a, e, ⟨xs, hq⟩, q⟩ | ⟨z, e, q⟩
  · subst e
    cases r1
    obtain ⟨its, rv, p, hz⟩ := I1.list hq
    refine wpAny_pyIter_list p.isList ?_
    refine ⟨s1.heap.objs.size, [s1.heap.objs.size], _, _, H1, rfl, I1.kept (t' := s1.toks) fun b o e => Heap.get?_push_of_some _ e, turn_list a _, ⟨_, Heap.get?_push_size _ rfl, rfl, rfl⟩, fun b hb => ?_, q⟩
    have e : b = s1.heap.objs.size := by simpa using hb
    subst e
    exact I1.fpOk (Nat.le_refl _) (I1.hok.fresh (Nat.le_refl _))
  · subst e
    cases r1
    obtain ⟨its, rv, p, hz⟩ := I1.tuple hq
    refine wpAny_pyIter_tuple (show s1.heap.IsTuple a its.toArray from p) ?_
    refine ⟨s1.heap.objs.size, [s1.heap.objs.size], _, _, H1, rfl, I1.kept (t' := s1.toks) fun b o e => Heap.get?_push_of_some _ e, turn_tuple a _, ⟨_, Heap.get?_push_size _ rfl, rfl, rfl⟩, fun b hb => ?_, q⟩
    have e : b = s1.heap.objs.size := by simpa using hb
    subst e
    exact I1.fpOk (Nat.le_refl _) (I1.hok.fresh (Nat.le_refl _))
  · subst e
    obtain ⟨t, rfl⟩ := r1
    cases ha : z.cps.all (· < 128)
    · exact wpAny_pyIter_wide ha (pi_one (tk := s1.toks) I1 _ (turn_str _ z t "str_iterator" (.inr rfl)) ⟨_, Heap.get?_push_size _ rfl, rfl, rfl⟩ q)
    · exact wpAny_pyIter_ascii ha (pi_one (tk := s1.toks) I1 _ (turn_str _ z t "str_ascii_iterator" (.inl rfl)) ⟨_, Heap.get?_push_size _ rfl, rfl, rfl⟩ q)
theorem PostI.bindD {K : PySem.W.Frag} {σ : St} {G H : Hp} {ρ : Rho} {f : M Sl} {k : D → M (List D)} {R : It → Hp → Prop} (ok : EnvOk K pn G H σ ρ) (h : PostI K pn E σ G H (OwnAt σ ρ) (bindD f k ρ) R) :
    Post K pn E σ G H (OwnAt σ ρ) (f ρ) (fun v H1 => ∃ G1 ρ1 d, EnvOk K pn G1 H1 σ ρ1 ∧ Same G G1 ∧ Dt K G1 v d ∧ PostI K pn E σ G1 H1 (OwnAt σ ρ1) (k d ρ1) R) := by
  have conv : ∀ {G1 H1 : Hp} {O1 : Addr → Prop} {r : Option (Rs (List D))}, PostI K pn E σ G H (OwnAt σ ρ) r R → Ext G H (OwnAt σ ρ) G1 H1 O1 → PostI K pn E σ G1 H1 O1 r R := fun h x => by
    unfold PostI at h ⊢
    split at h
    · exact fun J G' H' a b => h J G' H' a (x.trans b)
    · exact fun d G' H' a b => h d G' H' a (x.trans b)
    · exact h
  unfold BT.bindD BT.bindM at h
  cases e : f ρ with
  | none => rw [e] at h; exact h
  | some r =>
    rw [e] at h
    cases r with
    | exc x ρ' => exact h
    | val s ρ' =>
      intro v G' H' ok' x'
      cases es : s.frz with
      | none => simp only [es] at h; exact h.elim
      | some d =>
        simp only [es] at h
        obtain ⟨G2, ok2, dt2, x2⟩ := ok'.freeze ok.pinLt es
        have xx := x'.trans x2
        exact ⟨G2, ρ', d, ok2, xx.grow, dt2, conv h xx⟩
theorem PostI.bindA {K : PySem.W.Frag} {σ : St} {G H : Hp} {ρ : Rho} {f : M (List D)} {k : List D → M (List D)} {R : It → Hp → Prop} (ok : EnvOk K pn G H σ ρ) (h : PostI K pn E σ G H (OwnAt σ ρ) (bindM f k ρ) R) :
    PostA K pn E σ G H (OwnAt σ ρ) (f ρ) (fun vs H1 => ∃ G1 ρ1 ds, EnvOk K pn G1 H1 σ ρ1 ∧ Same G G1 ∧ DtL K G1 vs ds ∧ PostI K pn E σ G1 H1 (OwnAt σ ρ1) (k ds ρ1) R) := by
  have conv : ∀ {G1 H1 : Hp} {O1 : Addr → Prop} {r : Option (Rs (List D))}, PostI K pn E σ G H (OwnAt σ ρ) r R → Ext G H (OwnAt σ ρ) G1 H1 O1 → PostI K pn E σ G1 H1 O1 r R := fun h x => by
    unfold PostI at h ⊢
    split at h
    · exact fun J G' H' a b => h J G' H' a (x.trans b)
    · exact fun d G' H' a b => h d G' H' a (x.trans b)
    · exact h
  unfold BT.bindM at h
  cases e : f ρ with
  | none => rw [e] at h; exact h
  | some r =>
    rw [e] at h
    cases r with
    | exc x ρ' => exact h
    | val s ρ' => exact fun v G' H' ok' x' d' => ⟨G', ρ', s, ok', x'.grow, d', conv h x'⟩
/-- a walk over a list, a tuple or a text -/
theorem pix_seq {l : Expr} {f : M Sl} (hl : PE X l (tE X.K pn E f)) : PI X tg l (tI X.K pn E (seqD f)) :=
  PI.imp (pi_seq hl) fun σ H R ⟨G, ρ, ok, h⟩ => ⟨G, ρ, ok, (PostI.bindD ok h).mono fun v H1 ⟨G1, ρ1, d, ok1, s1, d1, p1⟩ => by
    cases d1 with
    | lst hs ha => exact .inl ⟨_, rfl, ⟨_, ok1.sub.seq hs⟩, p1 _ G1 H1 ok1 Ext.refl (yields_list hs ha)⟩
    | tup hs ha => exact .inr (.inl ⟨_, rfl, ⟨_, Same.sqT ok1.sub hs⟩, p1 _ G1 H1 ok1 Ext.refl (yields_tup hs ha)⟩)
    | str z => exact .inr (.inr ⟨z, rfl, p1 _ G1 H1 ok1 Ext.refl yields_str⟩)
    | _ => exact p1.elim⟩
@[simp] def rangeM1 (fs : M (List D)) : M (List D) := fun ρ => (bindM fs fun ds => match ds with
  | [.int j] => fun ρ => if -(2 ^ 62) ≤ j ∧ j < 2 ^ 62 then some (.val (rangeD 0 j.toNat) ρ) else none
  | _ => fun _ => none) ρ
@[simp] def rangeM2 (fs : M (List D)) : M (List D) := fun ρ => (bindM fs fun ds => match ds with
  | [.int i, .int j] => fun ρ => if -(2 ^ 62) ≤ i ∧ i < 2 ^ 62 ∧ -(2 ^ 62) ≤ j ∧ j < 2 ^ 62 then some (.val (rangeD i (j - i).toNat) ρ) else none
  | _ => fun _ => none) ρ
theorem DtL.int1 {K : PySem.W.Frag} {G : Hp} {vs : List V} {j : Int} (h : DtL K G vs [.int j]) : vs = [.int j] := by
  cases h with
  | cons h1 h2 => cases h1; cases h2; rfl
theorem DtL.int2 {K : PySem.W.Frag} {G : Hp} {vs : List V} {i j : Int} (h : DtL K G vs [.int i, .int j]) : vs = [.int i, .int j] := by
  cases h with
  | cons h1 h2 =>
    cases h1
    cases h2 with
    | cons h3 h4 => cases h3; cases h4; rfl
theorem pix_range1 {a : Expr} {fs : M (List D)} {p : Pos} (hm : X.mg "range" = none) (ha : PA X [a] (tA X.K pn E fs)) (hg : Gl X "range" := by rfl) (hs : starEach [a] X.env = [(false, eval a X.env)] := by rfl) : PI X tg (.Call (.Name "range" p) [a] [] pos) (tI X.K pn E (rangeM1 fs)) :=
  PI.imp (pi_range1 hg hm ha hs) fun σ H R ⟨G, ρ, ok, h⟩ => ⟨G, ρ, ok, (PostI.bindA ok h).mono fun vs H1 ⟨G1, ρ1, ds, ok1, s1, d1, p1⟩ => by
    split at p1
    · rename_i j
      by_cases c : -(2 ^ 62) ≤ j ∧ j < 2 ^ 62
      · rw [if_pos c] at p1
        exact ⟨j, d1.int1, c.1, c.2, p1 _ G1 H1 ok1 Ext.refl yields_range⟩
      · rw [if_neg c] at p1; exact p1.elim
    · exact p1.elim⟩
theorem pix_range2 {a b : Expr} {fs : M (List D)} {p : Pos} (hm : X.mg "range" = none) (ha : PA X [a, b] (tA X.K pn E fs)) (hg : Gl X "range" := by rfl) (hs : starEach [a, b] X.env = [(false, eval a X.env), (false, eval b X.env)] := by rfl) (hs2 : starEach [b] X.env = [(false, eval b X.env)] := by rfl) : PI X tg (.Call (.Name "range" p) [a, b] [] pos) (tI X.K pn E (rangeM2 fs)) :=
  PI.imp (pi_range2 hg hm ha hs hs2) fun σ H R ⟨G, ρ, ok, h⟩ => ⟨G, ρ, ok, (PostI.bindA ok h).mono fun vs H1 ⟨G1, ρ1, ds, ok1, s1, d1, p1⟩ => by
    split at p1
    · rename_i i j
      by_cases c : -(2 ^ 62) ≤ i ∧ i < 2 ^ 62 ∧ -(2 ^ 62) ≤ j ∧ j < 2 ^ 62
      · rw [if_pos c] at p1
        exact ⟨i, j, d1.int2, c, p1 _ G1 H1 ok1 Ext.refl yields_range⟩
      · rw [if_neg c] at p1; exact p1.elim
    · exact p1.elim⟩
end

/-! ### comprehensions -/
@[simp] def wipeR (ρ : Rho) : List Nat → Rho
  | [] => ρ
  | v :: vs => (wipeR ρ vs).set v .un
@[simp] def noOl (ρ : Rho) (vs : List Nat) : Bool := vs.all fun v => match ρ[v]? with | some (.ol _) => false | _ => true
@[simp] def restR (ρ0 ρ : Rho) : List Nat → Rho
  | [] => ρ
  | v :: vs => (restR ρ0 ρ vs).set v (ρ0.getD v .un)
def compL (b : D → Rho → Option Rho) (t : M Bool) (e : M Sl) (vs : List Nat) : List D → List D → Rho → Option (List D × Rho)
  | [], acc, ρ => some (acc, ρ)
  | d :: ds, acc, ρ => match b d ρ with
    | none => none
    | some ρ1 => match t ρ1 with
      | some (.val true ρ2) => (match e ρ2 with
        | some (.val s ρ3) => (match s.frz with
          | some y => if acc.length < sizeLine ∧ noOl ρ3 vs = true then compL b t e vs ds (acc ++ [y]) (wipeR ρ3 vs) else none
          | none => none)
        | _ => none)
      | some (.val false ρ2) => if noOl ρ2 vs = true then compL b t e vs ds acc (wipeR ρ2 vs) else none
      | _ => none
@[simp] def mComp (src : M (List D)) (vs : List Nat) (b : D → Rho → Option Rho) (t : M Bool) (e : M Sl) : M Sl := fun ρ => (bindM src fun ds ρ =>
  if noOl ρ vs = true then
    match compL b t e vs ds [] (wipeR ρ vs) with
    | some (acc, ρ') => some (.val (.ol acc) (restR ρ ρ' vs))
    | none => none
  else none) ρ
theorem wipeR_len (ρ : Rho) : ∀ vs, (wipeR ρ vs).length = ρ.length
  | [] => rfl
  | v :: vs => by simp [wipeR, wipeR_len ρ vs]
theorem restR_len (ρ0 ρ : Rho) : ∀ vs, (restR ρ0 ρ vs).length = ρ.length
  | [] => rfl
  | v :: vs => by simp [restR, restR_len ρ0 ρ vs]
theorem wipeR_get {ρ : Rho} {i : Nat} {s : Sl} : ∀ {vs : List Nat}, (wipeR ρ vs)[i]? = some s → s = .un ∨ (i ∉ vs ∧ ρ[i]? = some s)
  | [], h => .inr ⟨by simp, h⟩
  | v :: vs, h => by
    simp only [wipeR] at h
    by_cases z : v = i
    · subst z
      rw [List.getElem?_set_self' ] at h
      cases e : (wipeR ρ vs)[v]? with
      | none => rw [e] at h; cases h
      | some _ => rw [e] at h; cases h; exact .inl rfl
    · rw [List.getElem?_set_ne z] at h
      rcases wipeR_get h with h | ⟨h1, h2⟩
      · exact .inl h
      · exact .inr ⟨by simp only [List.mem_cons, not_or]; exact ⟨fun q => z q.symm, h1⟩, h2⟩
theorem wipe_get {σ : St} {i : Nat} : ∀ {vs : List Nat}, i ∉ vs → (wipe σ vs)[i]? = σ[i]?
  | [], _ => rfl
  | v :: vs, h => by
    simp only [List.mem_cons, not_or] at h
    simp only [wipe]
    rw [List.getElem?_set_ne (fun q => h.1 q.symm)]
    exact wipe_get h.2
theorem wipe_in {σ : St} {i : Nat} : ∀ {vs : List Nat}, i ∈ vs → (wipe σ vs)[i]? = if i < σ.length then some none else none
  | v :: vs, h => by
    simp only [wipe]
    by_cases z : v = i
    · subst z
      by_cases c : v < σ.length
      · rw [if_pos c, List.getElem?_set_self (by rw [wipe_length]; exact c)]
      · rw [if_neg c, List.getElem?_eq_none (by rw [List.length_set, wipe_length]; omega)]
    · rw [List.getElem?_set_ne z]
      rcases List.mem_cons.mp h with h | h
      · exact absurd h.symm z
      · exact wipe_in h
theorem wipe_same {σ σ2 : St} {vs : List Nat} (hl : σ2.length = σ.length) (h : ∀ j : Nat, j ∉ vs → σ2[j]? = (wipe σ vs)[j]?) : wipe σ2 vs = wipe σ vs := by
  apply List.ext_getElem?
  intro i
  by_cases c : i ∈ vs
  · rw [wipe_in c, wipe_in c, hl]
  · rw [wipe_get c, h i c]
theorem restR_get {ρ0 ρ : Rho} {i : Nat} {s : Sl} : ∀ {vs : List Nat}, (restR ρ0 ρ vs)[i]? = some s → (i ∈ vs ∧ ρ0.getD i .un = s) ∨ (i ∉ vs ∧ ρ[i]? = some s)
  | [], h => .inr ⟨by simp, h⟩
  | v :: vs, h => by
    simp only [restR] at h
    by_cases z : v = i
    · subst z
      rw [List.getElem?_set_self'] at h
      cases e : (restR ρ0 ρ vs)[v]? with
      | none => rw [e] at h; cases h
      | some _ => rw [e] at h; cases h; exact .inl ⟨by simp, rfl⟩
    · rw [List.getElem?_set_ne z] at h
      rcases restR_get h with ⟨h1, h2⟩ | ⟨h1, h2⟩
      · exact .inl ⟨List.mem_cons_of_mem _ h1, h2⟩
      · exact .inr ⟨by simp only [List.mem_cons, not_or]; exact ⟨fun q => z q.symm, h1⟩, h2⟩
theorem noOl_get {ρ : Rho} {vs : List Nat} {i : Nat} {ds : List D} (h : noOl ρ vs = true) (hi : i ∈ vs) (e : ρ[i]? = some (.ol ds)) : False := by
  have := List.all_eq_true.mp h i hi
  rw [e] at this; cases this

section
variable {K : PySem.W.Frag} {pn : List (Nat × Addr)} {E : XK} {σ : St} {G H : Hp} {ρ : Rho} {vs : List Nat}
theorem own_wipe {a : Addr} (h : OwnAt (wipe σ vs) (wipeR ρ vs) a) : OwnAt σ ρ a := by
  obtain ⟨i, ds, h1, h2⟩ := h
  rcases wipeR_get h1 with h | ⟨n, h⟩
  · cases h
  · rw [wipe_get n] at h2; exact ⟨i, ds, h, h2⟩
theorem own_wiped {a : Addr} (hn : noOl ρ vs = true) (h : OwnAt σ ρ a) : OwnAt (wipe σ vs) (wipeR ρ vs) a := by
  obtain ⟨i, ds, h1, h2⟩ := h
  have n : i ∉ vs := fun q => noOl_get hn q h1
  refine ⟨i, ds, ?_, by rw [wipe_get n]; exact h2⟩
  have get : ∀ {ws : List Nat}, i ∉ ws → (wipeR ρ ws)[i]? = ρ[i]? := fun {ws} => by
    induction ws with
    | nil => exact fun _ => rfl
    | cons v ws ih =>
      intro n
      simp only [List.mem_cons, not_or] at n
      simp only [wipeR]
      rw [List.getElem?_set_ne (fun q => n.1 q.symm)]
      exact ih n.2
  rw [get n]; exact h1
theorem EnvOk.wipe (ok : EnvOk K pn G H σ ρ) (hp : ∀ q ∈ pn, q.1 ∉ vs) : EnvOk K pn G H (wipe σ vs) (wipeR ρ vs) := by
  refine ⟨ok.sub, by rw [wipe_length, wipeR_len]; exact ok.len, fun i d h => ?_, fun i ds h => ?_, fun i j ds es p h1 h2 h3 h4 => ?_, fun q hq => ?_⟩
  · rcases wipeR_get h with h | ⟨n, h⟩
    · cases h
    · obtain ⟨v, a, b⟩ := ok.dt i d h; exact ⟨v, by rw [wipe_get n]; exact a, b⟩
  · rcases wipeR_get h with h | ⟨n, h⟩
    · cases h
    · obtain ⟨p, ws, a, b⟩ := ok.ol i ds h; exact ⟨p, ws, by rw [wipe_get n]; exact a, b⟩
  · rcases wipeR_get h1 with h | ⟨n1, h1⟩
    · cases h
    · rcases wipeR_get h2 with h | ⟨n2, h2⟩
      · cases h
      · rw [wipe_get n1] at h3; rw [wipe_get n2] at h4
        exact ok.inj i j ds es p h1 h2 h3 h4
  · rw [wipe_get (hp q hq)]; exact ok.pins q hq
theorem EnvOk.rest {G' H' : Hp} {ρ' : Rho} (ok : EnvOk K pn G H σ ρ) (ok' : EnvOk K pn G' H' (L2.wipe σ vs) ρ') (grow : Same G G') (hn : noOl ρ vs = true) : EnvOk K pn G' H' σ (restR ρ ρ' vs) ∧ ∀ a, OwnAt σ (restR ρ ρ' vs) a → OwnAt (L2.wipe σ vs) ρ' a := by
  have own : ∀ {i : Nat} {ds : List D}, (restR ρ ρ' vs)[i]? = some (.ol ds) → i ∉ vs ∧ ρ'[i]? = some (.ol ds) := fun {i ds} h => by
    rcases restR_get h with ⟨h1, h2⟩ | h
    · rw [List.getD_eq_getElem?_getD] at h2
      cases e : ρ[i]? with
      | none => rw [e] at h2; cases h2
      | some s => rw [e] at h2; have h2 : s = _ := h2; subst h2; exact (noOl_get hn h1 e).elim
    · exact h
  have hl : σ.length = ρ'.length := by have := ok'.len; rw [wipe_length] at this; exact this
  refine ⟨⟨ok'.sub, by rw [restR_len]; exact hl, fun i d h => ?_, fun i ds h => ?_, fun i j ds es p h1 h2 h3 h4 => ?_, ok.pins⟩, fun a ⟨i, ds, h1, h2⟩ => ?_⟩
  · rcases restR_get h with ⟨h1, h2⟩ | ⟨n, h⟩
    · rw [List.getD_eq_getElem?_getD] at h2
      cases e : ρ[i]? with
      | none => rw [e] at h2; cases h2
      | some s =>
        rw [e] at h2; have h2 : s = _ := h2; subst h2
        obtain ⟨v, a, b⟩ := ok.dt i d e; exact ⟨v, a, b.mono grow⟩
    · obtain ⟨v, a, b⟩ := ok'.dt i d h; exact ⟨v, by rw [wipe_get n] at a; exact a, b⟩
  · obtain ⟨n, h⟩ := own h
    obtain ⟨p, ws, a, b⟩ := ok'.ol i ds h; exact ⟨p, ws, by rw [wipe_get n] at a; exact a, b⟩
  · obtain ⟨n1, h1⟩ := own h1
    obtain ⟨n2, h2⟩ := own h2
    exact ok'.inj i j ds es p h1 h2 (by rw [wipe_get n1]; exact h3) (by rw [wipe_get n2]; exact h4)
  · obtain ⟨n, h⟩ := own h1
    exact ⟨i, ds, h, by rw [wipe_get n]; exact h2⟩
/-- a list of one's own that stands aside -/
structure Aside (K : PySem.W.Frag) (G H : Hp) (O : Addr → Prop) (p : Addr) (ds : List D) : Prop where
  ls : ∃ vs, H p = some (.lst vs) ∧ DtL K G vs ds
  no : G p = none
  nown : ¬ O p
theorem Aside.ext {O O' : Addr → Prop} {G' H' : Hp} {p : Addr} {ds : List D} (a : Aside K G H O p ds) (x : Ext G H O G' H' O') : Aside K G' H' O' p ds := by
  obtain ⟨⟨vs, h1, h2⟩, h3, h4⟩ := a
  refine ⟨⟨vs, x.keep _ _ h1 h4, h2.mono x.grow⟩, ?_, fun q => ?_⟩
  · cases e : G' p with
    | none => rfl
    | some o =>
      rcases x.fresh p (by rw [e]; simp) with h | h | h
      · exact absurd h3 h
      · rw [h1] at h; cases h
      · exact absurd h h4
  · rcases x.own p q with h | h
    · exact h4 h
    · rw [h1] at h; cases h
theorem EnvOk.touch {p : Addr} {o : HO} (ok : EnvOk K pn G H σ ρ) (hg : G p = none) (hn : ¬ OwnAt σ ρ p) : EnvOk K pn G (upd H p o) σ ρ := by
  refine ⟨fun b u e => by rw [upd_ne (ne_of_none e hg)]; exact ok.sub b u e, ok.len, ok.dt, fun i ds h => ?_, ok.inj, ok.pins⟩
  obtain ⟨q, vs, a, b, c⟩ := ok.ol i ds h
  have n : q ≠ p := fun z => by subst z; exact hn ⟨i, ds, h, a⟩
  exact ⟨q, vs, a, by rw [upd_ne n]; exact b, c⟩
theorem Ext.touch {G' H' : Hp} {O O' : Addr → Prop} {p : Addr} {o : HO} (x : Ext G H O G' H' O') (hp : H p = none) : Ext G H O G' (upd H' p o) O' :=
  ⟨x.grow, x.fresh, fun a u h n => by rw [upd_ne (ne_of_none h hp)]; exact x.keep a u h n, x.own⟩
theorem EnvOk.push_own {p : Addr} {ds : List D} (ok : EnvOk K pn G H σ ρ) (a : Aside K G H (OwnAt σ ρ) p ds) : EnvOk K pn G H (σ ++ [some (.ref p)]) (ρ ++ [.ol ds]) := by
  have hl := ok.len
  obtain ⟨⟨vs, b, e⟩, c, nn⟩ := a
  refine ⟨ok.sub, by simp [hl], fun i d h => ?_, fun i es h => ?_, fun i j ds1 es q h1 h2 h3 h4 => ?_, fun q hq => ?_⟩
  · rcases get_append1 h with ⟨c, h⟩ | ⟨_, h⟩
    · obtain ⟨v, a, b⟩ := ok.dt i d h
      exact ⟨v, by rw [get_append_lt (by omega)]; exact a, b⟩
    · cases h
  · rcases get_append1 h with ⟨c1, h5⟩ | ⟨c1, h5⟩
    · obtain ⟨q, ws, h1, h2⟩ := ok.ol i es h5
      exact ⟨q, ws, by rw [get_append_lt (by omega)]; exact h1, h2⟩
    · subst c1; injection h5 with h5; subst h5
      exact ⟨p, vs, by rw [← hl, get_append_eq], b, c, e⟩
  · rcases get_append1 h1 with ⟨c1, e1⟩ | ⟨c1, e1⟩
    · rw [get_append_lt (by omega)] at h3
      rcases get_append1 h2 with ⟨c2, e2⟩ | ⟨c2, e2⟩
      · rw [get_append_lt (by omega)] at h4
        exact ok.inj i j ds1 es q e1 e2 h3 h4
      · subst c2; rw [← hl, get_append_eq] at h4; cases h4
        exact (nn ⟨i, ds1, e1, h3⟩).elim
    · subst c1; rw [← hl, get_append_eq] at h3; cases h3
      rcases get_append1 h2 with ⟨c2, e2⟩ | ⟨c2, e2⟩
      · rw [get_append_lt (by omega)] at h4
        exact (nn ⟨j, es, e2, h4⟩).elim
      · exact c2.symm
  · have := ok.pins q hq
    rw [get_append_lt (lt_of_get this)]; exact this
end
end BT

namespace BT
open PySem L2
open PyProof.Rows (envOfC)
abbrev E00 : XK := fun _ _ _ => False

section
variable {X : Cx} {pn : List (Nat × Addr)} {E : XK} {pos : Pos}
/-- the reading of a comprehension -/
theorem lc_of {src : M (List D)} {vs : List Nat} {b : D → Rho → Option Rho} {bs : List Nat} {t : M Bool} {e : M Sl} {g : TG} {K : PySem.W.Frag} (hb : GB K pn g b bs) (hbs : ∀ i ∈ bs, i ∈ vs) (hpn : ∀ q ∈ pn, q.1 ∉ vs)
    (σ : St) (H : Hp) (Q : VK) (w : tE K pn E (mComp src vs b t e) σ H Q) : tLc (tI K pn E src) g (tT K pn E00 t) (tE K pn E00 e) vs σ H Q := by
  obtain ⟨G, ρ, ok, p⟩ := w
  refine ⟨G, ρ, ok, ?_⟩
  unfold mComp bindM at p
  cases es : src ρ with
  | none => rw [es] at p; exact p
  | some r =>
    rw [es] at p
    cases r with
    | exc x ρ' => exact p
    | val ds ρ1 =>
      intro J G1 H1 ok1 x1 y1 D hD
      simp only at p
      by_cases hn : noOl ρ1 vs = true
      · rw [if_pos hn] at p
        have p := Post.at p x1
        -- the state between turns
        refine ⟨fun i m H => m = ds.length - i ∧ i ≤ ds.length ∧ ∃ G ρw acc, EnvOk K pn G H (wipe σ vs) ρw ∧ Yields K J G ds ∧ Aside K G H (OwnAt (wipe σ vs) ρw) D acc ∧ Ext G1 H1 (OwnAt σ ρ1) G H (OwnAt (wipe σ vs) ρw) ∧
          Post K pn E σ G1 H1 (OwnAt σ ρ1) (match compL b t e vs (ds.drop i) acc ρw with | some (acc, ρ') => some (.val (.ol acc) (restR ρ1 ρ' vs)) | none => none) Q, ⟨ds.length, rfl, Nat.zero_le _, G1, wipeR ρ1 vs, [], ?_, y1, ?_, ?_, p⟩, ?_⟩
        · have gD : G1 D = none := Same.free ok1.sub hD
          refine (ok1.wipe hpn).touch gD fun z => ?_
          obtain ⟨i, es, h1, h2⟩ := own_wipe z
          obtain ⟨q, ws, h3, h4, _⟩ := ok1.ol i es h1
          rw [h2] at h3; cases h3
          rw [hD] at h4; cases h4
        · refine ⟨⟨[], upd_same, .nil⟩, Same.free ok1.sub hD, fun z => ?_⟩
          obtain ⟨i, es, h1, h2⟩ := own_wipe z
          obtain ⟨q, ws, h3, h4, _⟩ := ok1.ol i es h1
          rw [h2] at h3; cases h3
          rw [hD] at h4; cases h4
        · exact ((Ext.refl (O := OwnAt σ ρ1)).sub fun a z => own_wipe z).touch hD
        · rintro i m H ⟨rfl, hi, G, ρw, acc, ok, y, as, x, p⟩
          by_cases hlt : i < ds.length
          · have ed : ds[i]? = some ds[i] := List.getElem?_eq_getElem hlt
            rw [List.drop_eq_getElem_cons hlt] at p
            refine .inr ⟨y.go i _ H ok.sub ed, fun H' => ∃ G ρw acc, EnvOk K pn G H' (wipe σ vs) ρw ∧ Yields K J G ds ∧ Aside K G H' (OwnAt (wipe σ vs) ρw) D acc ∧ Ext G1 H1 (OwnAt σ ρ1) G H' (OwnAt (wipe σ vs) ρw) ∧
              Post K pn E σ G1 H1 (OwnAt σ ρ1) (match compL b t e vs (ds.drop (i + 1)) acc ρw with | some (acc, ρ') => some (.val (.ol acc) (restR ρ1 ρ' vs)) | none => none) Q,
              fun H' ⟨G', ρ', acc', a1, a2, a3, a4, a5⟩ => ⟨ds.length - (i + 1), by omega, rfl, hlt, G', ρ', acc', a1, a2, a3, a4, a5⟩, fun v H' q => ?_⟩
            obtain ⟨G2, ok2, d2, x2⟩ := y.item ok ed q
            refine hb v _ _ G2 H' ρw _ ok2 d2 ?_
            simp only [compL] at p
            cases eb : b ds[i] ρw with
            | none => rw [eb] at p; exact p
            | some ρ3 =>
              rw [eb] at p
              intro σ3 hl ok3 sub3
              have x3 : Ext G H (OwnAt (wipe σ vs) ρw) G2 H' (OwnAt σ3 ρ3) := x2.sub sub3
              have as3 := as.ext x3
              have y3 := y.mono x3.grow
              have hw : wipe σ3 vs = wipe σ vs := wipe_same (hl.1.trans (wipe_length σ vs)) fun j hj => hl.2 j fun z => hj (hbs j z)
              refine ⟨hw, G2, ρ3, ok3, ?_⟩
              simp only at p
              cases et : t ρ3 with
              | none => rw [et] at p; exact p
              | some r =>
                rw [et] at p
                cases r with
                | exc _ _ => exact p.elim
                | val bb ρ4 =>
                  intro G4 H4 ok4 x4
                  have x04 := (x.trans x3).trans x4
                  have as4 := as3.ext x4
                  have y4 := y3.mono x4.grow
                  cases bb with
                  | false =>
                    simp only at p
                    by_cases hn4 : noOl ρ4 vs = true
                    · rw [if_pos hn4] at p
                      have ok5 := ok4.wipe (vs := vs) hpn
                      have as5 : Aside K G4 H4 (OwnAt (wipe σ3 vs) (wipeR ρ4 vs)) D acc := ⟨as4.ls, as4.no, fun z => as4.nown (own_wipe z)⟩
                      have x5 := x04.sub (O2 := OwnAt (wipe σ3 vs) (wipeR ρ4 vs)) fun a z => own_wipe z
                      rw [hw] at ok5 as5 x5
                      exact ⟨G4, wipeR ρ4 vs, acc, ok5, y4, as5, x5, p⟩
                    · rw [if_neg hn4] at p; exact p.elim
                  | true =>
                    simp only at p
                    refine ⟨G4, ρ4, ok4, ?_⟩
                    cases ee : e ρ4 with
                    | none => rw [ee] at p; exact p
                    | some r =>
                      rw [ee] at p
                      cases r with
                      | exc _ _ => exact p.elim
                      | val s ρ5 =>
                        intro u G5 H5 ok5 x5
                        simp only at p
                        cases ef : s.frz with
                        | none => simp only [ef] at p; exact p.elim
                        | some yd =>
                          simp only [ef] at p
                          by_cases c : acc.length < sizeLine ∧ noOl ρ5 vs = true
                          · rw [if_pos c] at p
                            obtain ⟨G6, ok6, d6, x6⟩ := ok5.freeze ok4.pinLt ef
                            have x46 := x5.trans x6
                            have as6 := as4.ext x46
                            have y6 := y4.mono x46.grow
                            obtain ⟨⟨accv, h1, h2⟩, h3, h4⟩ := as6
                            refine ⟨accv, h1, by rw [h2.length]; exact c.1, G6, wipeR ρ5 vs, acc ++ [yd], ?_, y6, ?_, ?_, p⟩
                            · have := (ok6.touch (o := .lst (accv ++ [u])) h3 h4).wipe (vs := vs) hpn
                              rw [hw] at this; exact this
                            · have : ¬ OwnAt (wipe σ3 vs) (wipeR ρ5 vs) D := fun z => h4 (own_wipe z)
                              rw [hw] at this
                              exact ⟨⟨_, upd_same, h2.append (.cons d6 .nil)⟩, h3, this⟩
                            · have := ((x04.trans x46).sub (O2 := OwnAt (wipe σ3 vs) (wipeR ρ5 vs)) fun a z => own_wipe z).touch (o := .lst (accv ++ [u])) hD
                              rw [hw] at this; exact this
                          · rw [if_neg c] at p; exact p.elim
          · have e : i = ds.length := by omega
            subst e
            rw [List.drop_length] at p
            refine .inl ⟨y.stop H ok.sub, ?_⟩
            simp only [compL] at p
            obtain ⟨okr, subr⟩ := ok1.rest ok x.grow hn
            have asr : Aside K G H (OwnAt σ (restR ρ1 ρw vs)) D acc := ⟨as.ls, as.no, fun z => as.nown (subr _ z)⟩
            refine p _ G H (okr.push_own asr) ⟨x.grow, x.fresh, x.keep, fun a z => ?_⟩
            rcases own_dn okr.len z with z | ⟨z, _⟩
            · exact x.own a (subr a z)
            · cases z; exact .inr hD
      · rw [if_neg hn] at p; exact p.elim
theorem px_lc {elt tg iter : Expr} {ifs : List Expr} {scope : Scope} {own : List (Str × Nat)} {src : M (List D)} {b : D → Rho → Option Rho} {bs : List Nat} {t : M Bool} {e : M Sl} {g : TG} (hc : X.calm = true) (hN : X.N.Nodup) (hi : PI X tg iter (tI X.K pn E src)) (ok : BlkOk X.N X.env.scope scope own)
    (hb : GB X.K pn g b bs) (hbs : ∀ i ∈ bs, i ∈ own.map (·.2)) (hpn : ∀ q ∈ pn, q.1 ∉ own.map (·.2))
    (hg : ∀ (s : Shared) (H : Hp) (C : Addr) (cl : List (Str × Addr)) (fp : List Addr), PG (X.blk s H scope (compEnvC scope cl C X.env) fp) tg g) (ht : ∀ (s : Shared) (H : Hp) (C : Addr) (cl : List (Str × Addr)) (fp : List Addr), PTs (X.blk s H scope (compEnvC scope cl C X.env) fp) ifs (tT X.K pn E00 t))
    (he : ∀ (s : Shared) (H : Hp) (C : Addr) (cl : List (Str × Addr)) (fp : List Addr), PE (X.blk s H scope (compEnvC scope cl C X.env) fp) elt (tE X.K pn E00 e)) (hs : ∀ x, foldedSetIterable iter X.env x = pure x := by intro _; rfl) :
    PE X (.ListComp elt [⟨tg, iter, ifs, 0⟩] scope pos) (tE X.K pn E (mComp src (own.map (·.2)) b t e)) :=
  (pe_lc hc hN hi ok hg ht he hs).imp (lc_of hb hbs hpn)
theorem psx_setLc {i : Nat} {y : Str} {py : Pos} {elt tg iter : Expr} {ifs : List Expr} {scope : Scope} {own : List (Str × Nat)} {spos : Pos} {src : M (List D)} {b : D → Rho → Option Rho} {bs : List Nat} {t : M Bool} {e : M Sl} {g : TG} (hp : NoPin pn i) (hc : X.calm = true) (hN : X.N.Nodup) (hy : X.N[i]? = some y) (hyl : X.env.scope.names.lookup y = some .local)
    (hsw : swapsWith (.ListComp elt [⟨tg, iter, ifs, 0⟩] scope pos) (some (.Name y py)) spos.line X.env = pure true) (hi : PI X tg iter (tI X.K pn E src)) (ok : BlkOk X.N X.env.scope scope own)
    (hb : GB X.K pn g b bs) (hbs : ∀ i ∈ bs, i ∈ own.map (·.2)) (hpn : ∀ q ∈ pn, q.1 ∉ own.map (·.2))
    (hg : ∀ (s : Shared) (H : Hp) (C : Addr) (cl : List (Str × Addr)) (fp : List Addr), PG (X.blk s H scope (compEnvC scope cl C X.env) fp) tg g) (ht : ∀ (s : Shared) (H : Hp) (C : Addr) (cl : List (Str × Addr)) (fp : List Addr), PTs (X.blk s H scope (compEnvC scope cl C X.env) fp) ifs (tT X.K pn E00 t))
    (he : ∀ (s : Shared) (H : Hp) (C : Addr) (cl : List (Str × Addr)) (fp : List Addr), PE (X.blk s H scope (compEnvC scope cl C X.env) fp) elt (tE X.K pn E00 e)) (hs : ∀ x, foldedSetIterable iter X.env x = pure x := by intro _; rfl) :
    PS X (.Assign [.Name y py] (.ListComp elt [⟨tg, iter, ifs, 0⟩] scope pos) spos) (tS X.K pn E (asgS i (mComp src (own.map (·.2)) b t e))) := by
  refine (ps_setLc hc hN hy hyl hsw hi ok hg ht he hs).imp fun D σ H w => ?_
  obtain ⟨G, ρ, ok, h⟩ := w
  have h' := PostS.bindE ok h
  refine lc_of (E := E) hb hbs hpn σ H _ ⟨G, ρ, ok, h'.mono fun v H1 ⟨G1, ρ1, s, ok1, p1⟩ => ?_⟩
  show D.nx (σ.set i (some v)) H1
  by_cases c : i < ρ1.length
  · rw [if_pos c] at p1
    obtain ⟨ok2, sub⟩ := ok1.setSlot c fun q hq => ⟨hp q hq, ok.pinLt q hq⟩
    exact p1 _ G1 H1 ok2 ((Ext.refl (O := OwnAt (σ ++ [some v]) (ρ1 ++ [s]))).sub sub)
  · rw [if_neg c] at p1; exact p1.elim
@[simp] def yesT : M Bool := fun ρ => some (.val true ρ)
theorem ptsx_nil : PTs X [] (tT X.K pn E yesT) := ⟨fun pins s σ H Q I ⟨G, ρ, ok, h⟩ => pts_nil.run pins s σ H Q I (h G H ok Ext.refl)⟩
theorem ptsx_one {c : Expr} {t : M Bool} (h : PT X c (tT X.K pn E t)) : PTs X [c] (tT X.K pn E t) := pts_one h
end

/-! ### one's own lists -/
section
variable {K : PySem.W.Frag} {pn : List (Nat × Addr)} {E : XK} {σ : St} {G H : Hp} {ρ : Rho}
theorem PostS.bindE' {D : Ends} {f : M Sl} {k : Sl → MS} (ok : EnvOk K pn G H σ ρ) (h : PostS K pn E G H (OwnAt σ ρ) (bindES f k ρ) D) :
    Post K pn E σ G H (OwnAt σ ρ) (f ρ) (fun v H1 => ∃ G1 ρ1 s, EnvOk K pn G1 H1 (σ ++ [some v]) (ρ1 ++ [s]) ∧ Same G G1 ∧ PostS K pn E G1 H1 (OwnAt (σ ++ [some v]) (ρ1 ++ [s])) (k s ρ1) D) := by
  unfold bindES at h
  cases e : f ρ with
  | none => rw [e] at h; exact h
  | some r =>
    rw [e] at h
    cases r with
    | exc x ρ' => exact fun d G' H' a b c => h d σ G' H' a b c
    | val s ρ' => exact fun v G' H' a b => ⟨G', ρ', s, a, b.grow, h.at b⟩
theorem EnvOk.putOl {i : Nat} {p : Addr} {ds : List D} {ws : List V} {es : List D} (ok : EnvOk K pn G H σ ρ) (hi : ρ[i]? = some (.ol ds)) (hp : σ[i]? = some (some (.ref p))) (hd : DtL K G ws es) :
    EnvOk K pn G (upd H p (.lst ws)) σ (ρ.set i (.ol es)) ∧ Ext G H (OwnAt σ ρ) G (upd H p (.lst ws)) (OwnAt σ (ρ.set i (.ol es))) := by
  obtain ⟨q, vs, a, b, c, e⟩ := ok.ol i ds hi
  rw [hp] at a; cases a
  have hlt := lt_of_get hi
  have own : ∀ {j : Nat} {fs : List D}, (ρ.set i (.ol es))[j]? = some (.ol fs) → ∃ gs, ρ[j]? = some (.ol gs) ∧ (j ≠ i → gs = fs) := fun {j fs} h => by
    by_cases z : i = j
    · subst z; exact ⟨ds, hi, fun q => absurd rfl q⟩
    · rw [List.getElem?_set_ne z] at h; exact ⟨fs, h, fun _ => rfl⟩
  refine ⟨⟨fun b u e => by rw [upd_ne (ne_of_none e c)]; exact ok.sub b u e, by rw [List.length_set]; exact ok.len, fun j d h => ?_, fun j fs h => ?_, fun j k fs gs q h1 h2 h3 h4 => ?_, ok.pins⟩, Same.refl _, fun _ h => .inl h, fun a u h n => ?_, fun a ⟨j, fs, h1, h2⟩ => ?_⟩
  · by_cases z : i = j
    · subst z; rw [List.getElem?_set_self hlt] at h; cases h
    · rw [List.getElem?_set_ne z] at h; exact ok.dt j d h
  · by_cases z : i = j
    · subst z; rw [List.getElem?_set_self hlt] at h; cases h
      exact ⟨_, ws, hp, upd_same, c, hd⟩
    · rw [List.getElem?_set_ne z] at h
      obtain ⟨q, us, h1, h2, h3, h4⟩ := ok.ol j fs h
      have n : q ≠ p := fun y => by subst y; exact z (ok.inj i j ds fs q hi h hp h1)
      exact ⟨q, us, h1, by rw [upd_ne n]; exact h2, h3, h4⟩
  · obtain ⟨fs', h1', _⟩ := own h1
    obtain ⟨gs', h2', _⟩ := own h2
    exact ok.inj j k fs' gs' q h1' h2' h3 h4
  · by_cases z : a = p
    · subst z; exact absurd ⟨i, ds, hi, hp⟩ n
    · rw [upd_ne z]; exact h
  · obtain ⟨gs, h1', _⟩ := own h1
    exact .inl ⟨j, gs, h1', h2⟩
theorem Post.own {i : Nat} {p : Addr} {ds : List D} {ws : List V} {es : List D} {v : V} {d : D} {Q : VK} (h : Post K pn E σ G H (OwnAt σ ρ) (some (.val (.dt d) (ρ.set i (.ol es)))) Q) (ok : EnvOk K pn G H σ ρ)
    (hi : ρ[i]? = some (.ol ds)) (hp : σ[i]? = some (some (.ref p))) (hd : DtL K G ws es) (hv : Dt K G v d) : Q v (upd H p (.lst ws)) := by
  obtain ⟨ok2, x2⟩ := ok.putOl hi hp hd
  exact h v G _ (ok2.push_dt hv) (Ext.push_dt (O' := OwnAt σ (ρ.set i (.ol es))) ok2.len x2)
end
@[simp] def appM (i : Nat) (f : M Sl) : M Sl := fun ρ => match ρ[i]? with
  | some (.ol _) => bindD f (fun d ρ => match ρ[i]? with
    | some (.ol ds) => if ds.length < sizeLine then some (.val (.dt .non) (ρ.set i (.ol (ds ++ [d])))) else none
    | _ => none) ρ
  | _ => none
@[simp] def putM (i : Nat) (ix f : M Sl) : MS := fun ρ => (bindES f fun s ρ => match s.frz, ρ[i]? with
  | some d, some (.ol _) => bindES ix (fun k ρ => match k, ρ[i]? with
    | .dt (.int k), some (.ol ds) => (match ixN ds.length k with | some j => some (.nx (ρ.set i (.ol (ds.set j d)))) | none => none)
    | _, _ => none) ρ
  | _, _ => none) ρ
section
variable {X : Cx} {pn : List (Nat × Addr)} {E : XK} {pos apos : Pos}
/-- x.append(e), x's list one's own -/
theorem px_append {i : Nat} {o e : Expr} {f : M Sl} (ho : PE X o (tVar i)) (he : PE X e (tE X.K pn E f)) (h : ∀ {T : TE} {U : TA}, PE X o T → PA X [e] U → PE X (.Call (.Attribute o "append" apos) [e] [] pos) (tBM X.K "list" rAppend T U)) (hs : starEach [e] X.env = (false, eval e X.env) :: starEach [] X.env := by rfl) :
    PE X (.Call (.Attribute o "append" apos) [e] [] pos) (tE X.K pn E (appM i f)) :=
  (h ho (pa_cons he pa_nil hs)).imp fun σ H Q ⟨G, ρ, ok, p⟩ => by
    unfold appM at p
    split at p
    · rename_i ds0 hi0
      obtain ⟨q, ws, a, b, c, d⟩ := ok.ol i ds0 hi0
      refine ⟨_, a, .inl ⟨rfl, _, SqL.of b⟩, G, ρ, ok, (Post.bindD ok p).mono fun v H1 ⟨G1, ρ1, d1, ok1, s1, h1, p1⟩ => ?_⟩
      split at p1
      · rename_i ds hi
        obtain ⟨q', ws', a', b', c', d'⟩ := ok1.ol i ds hi
        rw [a] at a'; cases a'
        by_cases z : ds.length < sizeLine
        · rw [if_pos z] at p1
          exact ⟨_, ws', v, rfl, rfl, b', by rw [d'.length]; exact z, p1.own ok1 hi a (d'.append (.cons h1 .nil)) .non⟩
        · rw [if_neg z] at p1; exact p1.elim
      · exact p1.elim
    · exact p.elim
theorem DtL.set {K : PySem.W.Frag} {H : Hp} {x : V} {y : D} (h : Dt K H x y) : ∀ {v : List V} {d : List D} (n : Nat), DtL K H v d → DtL K H (v.set n x) (d.set n y)
  | _, _, _, .nil => .nil
  | _, _, 0, .cons _ hs => .cons h hs
  | _, _, n + 1, .cons g hs => .cons g (DtL.set h n hs)
/-- x[i] = e, x's list one's own -/
theorem psx_put {i : Nat} {o k e : Expr} {ix f : M Sl} {tpos : Pos} (ho : PE X o (tVar i)) (hk : PE X k (tE X.K pn E ix)) (he : PE X e (tE X.K pn E f))
    (h : ∀ {T U W : TE}, PE X o T → PE X k U → PE X e W → PS X (.Assign [.Subscript o k tpos] e pos) (tAsg W (gSub T U rSetL))) :
    PS X (.Assign [.Subscript o k tpos] e pos) (tS X.K pn E (putM i ix f)) :=
  (h ho hk he).imp fun D σ H ⟨G, ρ, ok, p⟩ => by
    refine ⟨G, ρ, ok, (PostS.bindE ok p).mono fun v H1 ⟨G1, ρ1, s, ok1, p1⟩ => ?_⟩
    split at p1
    · rename_i d ds0 ef hi0
      obtain ⟨G2, ok2, d2, x2⟩ := ok1.freeze ok.pinLt ef
      obtain ⟨q, ws, a, b, c, dd⟩ := ok2.ol i ds0 hi0
      refine ⟨_, a, G2, ρ1, ok2, (PostS.bindE' ok2 (p1.at x2)).mono fun u H3 ⟨G3, ρ3, s3, ok3, x34, p3⟩ => ?_⟩
      split at p3
      · rename_i kk ds hi
        have ok4 := ok3.pop ok2.pinLt
        obtain ⟨q', ws', a', b', c', d'⟩ := ok4.ol i ds hi
        rw [a] at a'; cases a'
        obtain ⟨w, e1, e2⟩ := ok3.dt ρ3.length (.int kk) get_append_eq
        have hl := ok4.len
        rw [← hl, get_append_eq] at e1; cases e1
        cases e2
        have p5 := p3.at (O := OwnAt σ ρ3) ((Ext.refl (G := G3) (H := H3) (O := OwnAt (σ ++ [some (V.int kk)]) (ρ3 ++ [.dt (.int kk)]))).sub fun a h => own_up hl h)
        split at p5
        · rename_i j ej
          obtain ⟨ok6, x6⟩ := ok4.putOl hi a (d'.set (d2.mono x34) j)
          exact ⟨_, ws', kk, j, rfl, rfl, b', by rw [d'.length]; exact ej, p5 _ _ _ ok6 x6⟩
        · exact p5.elim
      · exact p3.elim
    · exact p1.elim
end
end BT

namespace BT
open PySem L2
open PyProof.Rows (envOfC)

/-! ### a dict read while it is locked -/
section
variable {K : PySem.W.Frag} {G G' : Hp}
/-- the same but for a lock -/
structure Via (G G' : Hp) : Prop where
  rd : ∀ a o, (∀ ob q, o ≠ HO.frz ob q) → Rd G a o → Rd G' a o
  ins : ∀ a C dx fs, G a = some (.ins C dx fs) → G' a = some (.ins C dx fs)
  own : ∀ a b, G a = some (.own b) → G' a = some (.own b)
  ext : ∀ a φ, G a = some (.ext φ) → G' a = some (.ext φ)
  xd : ∀ a fs, G a = some (.xd fs) → G' a = some (.xd fs)
theorem Via.sqT {a : Addr} {xs : List V} (k : Via G G') (h : SqT K G a xs) : SqT K G' a xs := h.imp (k.rd _ _ (fun _ _ z => nomatch z)) id
theorem Via.sqL {a : Addr} {xs : List V} (k : Via G G') (h : SqL K G a xs) : SqL K G' a xs := h.imp (k.rd _ _ (fun _ _ z => nomatch z)) id
theorem Via.dic {a : Addr} {kvs : List (Key × V)} (k : Via G G') (h : Rd G a (.dK kvs)) : Rd G' a (.dK kvs) := k.rd _ _ (fun _ _ z => nomatch z) h
mutual
theorem Dt.via (k : Via G G') : ∀ {v : V} {d : D}, Dt K G v d → Dt K G' v d
  | _, _, .non => .non
  | _, _, .bl b => .bl b
  | _, _, .int i => .int i
  | _, _, .str x => .str x
  | _, _, .tup h hs => .tup (k.sqT h) (DtL.via k hs)
  | _, _, .lst h hs => .lst (k.sqL h) (DtL.via k hs)
  | _, _, .dic h hs => .dic (k.dic h) (DtK.via k hs)
  | _, _, .ins h h2 hs => .ins (k.ins _ _ _ _ h) (k.own _ _ h2) (DtF.via k hs)
  | _, _, .exn h h2 hs => .exn (k.ext _ _ h) (k.xd _ _ h2) (DtF.via k hs)
  | _, _, .exn0 h => .exn0 (k.ext _ _ h)
theorem DtL.via (k : Via G G') : ∀ {v : List V} {d : List D}, DtL K G v d → DtL K G' v d
  | _, _, .nil => .nil
  | _, _, .cons h hs => .cons (Dt.via k h) (DtL.via k hs)
theorem DtK.via (k : Via G G') : ∀ {v : List (Key × V)} {d : List (Key × D)}, DtK K G v d → DtK K G' v d
  | _, _, .nil => .nil
  | _, _, .cons h hs => .cons (Dt.via k h) (DtK.via k hs)
theorem DtF.via (k : Via G G') : ∀ {v : List (Str × V)} {d : List (Str × D)}, DtF K G v d → DtF K G' v d
  | _, _, .nil => .nil
  | _, _, .cons h hs => .cons (Dt.via k h) (DtF.via k hs)
end
end
section
variable {K : PySem.W.Frag} {G G' H H' : Hp} {d : Addr} {od : Obj} {u : List (Key × V)} {pn : List (Nat × Addr)} {σ : St} {ρ : Rho} {O O' : Addr → Prop}
theorem Via.lock (h : G d = some (.dK u)) : Via G (upd G d (.frz od (.dK u))) := by
  refine ⟨fun a o n r => ?_, fun a C dx fs e => ?_, fun a b e => ?_, fun a φ e => ?_, fun a fs e => ?_⟩
  · by_cases c : a = d
    · subst c
      rcases r with r | ⟨o', r⟩
      · rw [h] at r; cases r; exact .inr ⟨od, upd_same⟩
      · rw [h] at r; cases r
    · unfold Rd; rw [upd_ne c]; exact r
  · rw [upd_ne (fun z => by subst z; rw [h] at e; cases e)]; exact e
  · rw [upd_ne (fun z => by subst z; rw [h] at e; cases e)]; exact e
  · rw [upd_ne (fun z => by subst z; rw [h] at e; cases e)]; exact e
  · rw [upd_ne (fun z => by subst z; rw [h] at e; cases e)]; exact e
theorem Via.unlock (h : G d = some (.frz od (.dK u))) : Via G (upd G d (.dK u)) := by
  refine ⟨fun a o n r => ?_, fun a C dx fs e => ?_, fun a b e => ?_, fun a φ e => ?_, fun a fs e => ?_⟩
  · by_cases c : a = d
    · subst c
      rcases r with r | ⟨o', r⟩
      · rw [h] at r; cases r; exact absurd rfl (n _ _)
      · rw [h] at r; cases r; exact .inl upd_same
    · unfold Rd; rw [upd_ne c]; exact r
  · rw [upd_ne (fun z => by subst z; rw [h] at e; cases e)]; exact e
  · rw [upd_ne (fun z => by subst z; rw [h] at e; cases e)]; exact e
  · rw [upd_ne (fun z => by subst z; rw [h] at e; cases e)]; exact e
  · rw [upd_ne (fun z => by subst z; rw [h] at e; cases e)]; exact e
theorem same_upd {o : HO} (s : Same G H) : Same (upd G d o) (upd H d o) := fun b u e => by
  by_cases c : b = d
  · subst c; rw [upd_same] at e ⊢; exact e
  · rw [upd_ne c] at e ⊢; exact s b u e
theorem EnvOk.swap {x o : HO} (ok : EnvOk K pn G H σ ρ) (h : G d = some x) (k : Via G (upd G d o)) : EnvOk K pn (upd G d o) (upd H d o) σ ρ := by
  refine ⟨same_upd ok.sub, ok.len, fun i dd e => ?_, fun i ds e => ?_, ok.inj, ok.pins⟩
  · obtain ⟨v, a, b⟩ := ok.dt i dd e; exact ⟨v, a, b.via k⟩
  · obtain ⟨p, vs, a, b, c, e⟩ := ok.ol i ds e
    have n : p ≠ d := fun z => by subst z; rw [h] at c; cases c
    exact ⟨p, vs, a, by rw [upd_ne n]; exact b, by rw [upd_ne n]; exact c, e.via k⟩
/-- what a locked reading has done, unlocked -/
theorem Ext.unlock (h : G d = some (.dK u)) (hH : H d = some (.dK u)) (x : Ext (upd G d (.frz od (.dK u))) (upd H d (.frz od (.dK u))) O G' H' O') :
    Ext G H O (upd G' d (.dK u)) (upd H' d (.dK u)) O' := by
  refine ⟨fun b o e => ?_, fun a e => ?_, fun a o e n => ?_, fun a o => ?_⟩
  · by_cases c : b = d
    · subst c; rw [upd_same]; rw [h] at e; exact e
    · rw [upd_ne c]; exact x.grow b o (by rw [upd_ne c]; exact e)
  · by_cases c : a = d
    · subst c; exact .inl (by rw [h]; simp)
    · rw [upd_ne c] at e
      have := x.fresh a e
      rw [upd_ne c, upd_ne c] at this; exact this
  · by_cases c : a = d
    · subst c; rw [upd_same]; rw [hH] at e; exact e
    · rw [upd_ne c]; exact x.keep a o (by rw [upd_ne c]; exact e) n
  · rcases x.own a o with z | z
    · exact .inl z
    · by_cases c : a = d
      · subst c; rw [upd_same] at z; cases z
      · rw [upd_ne c] at z; exact .inr z
end
theorem XOk.unlock {dd : Option Addr} {x : Ex} (h : G d = some (.frz od (.dK u))) (hH : H d = some (.frz od (.dK u))) (xo : XOk K G H dd x) : XOk K (upd G d (.dK u)) (upd H d (.dK u)) dd x := by
  unfold XOk at xo ⊢
  split at xo
  · exact xo
  · obtain ⟨a, v, e1, e2, e3⟩ := xo
    exact ⟨a, v, e1, by rw [upd_ne (fun z => by subst z; rw [h] at e2; cases e2)]; exact e2, e3.via (Via.unlock h)⟩
  · exact xo
def kD : Key → D | .inl i => .int i | .inr x => .str x
theorem dt_key {K : PySem.W.Frag} {G : Hp} (k : Key) : Dt K G (kV k) (kD k) := by
  cases k with
  | inl i => exact .int i
  | inr x => exact .str x
theorem DtK.keys {K : PySem.W.Frag} {G : Hp} : ∀ {vs : List (Key × V)} {ds : List (Key × D)}, DtK K G vs ds → vs.map (·.1) = ds.map (·.1)
  | _, _, .nil => rfl
  | _, _, .cons _ hs => by simp [DtK.keys hs]
/-- the keys of the dict of a slot -/
def keysM (i : Nat) : M (List D) := fun ρ => match ρ[i]? with
  | some (.dt (.dic kvs)) => some (.val (kvs.map fun p => kD p.1) ρ)
  | _ => none
theorem yields_keys {K : PySem.W.Frag} {G : Hp} {d : Addr} {o : Obj} {vs : List (Key × V)} {ds : List (Key × D)} (h : G d = some (.frz o (.dK vs))) (k : DtK K G vs ds) : Yields K (Itk d o vs) G (ds.map fun p => kD p.1) := by
  have e : vs.map (·.1) = ds.map (·.1) := k.keys
  have hl : vs.length = ds.length := by have := congrArg List.length e; simpa using this
  refine ⟨fun H s => ⟨s _ _ h, by rw [List.length_map]; omega⟩, fun i x H s q => ⟨s _ _ h, ?_⟩, fun i x H v H' s q y => .inl ?_⟩
  · have := lt_of_get q; rw [List.length_map] at this; omega
  · obtain ⟨e1, kk, vv, e2, e3⟩ := y
    refine ⟨e1, ?_⟩
    have e4 : (vs.map (·.1))[i]? = some kk := by rw [List.getElem?_map, e2]; rfl
    rw [e, List.getElem?_map] at e4
    rw [List.getElem?_map] at q
    cases z : ds[i]? with
    | none => rw [z] at e4; cases e4
    | some p =>
      rw [z] at e4 q
      cases e4; cases q
      rw [e3]; exact dt_key _

section
variable {X : Cx} {pn : List (Nat × Addr)} {pos : Pos}
theorem _root_.L2.PE.or {e : Expr} {s t : TE} (h : PE X e s) (g : PE X e t) : PE X e (fun σ H Q => s σ H Q ∨ t σ H Q) := ⟨fun pins s σ H Q I w => w.elim (h.run pins s σ H Q I) (g.run pins s σ H Q I)⟩
/-- the keys, the dict already locked -/
theorem keys_of {i : Nat} {d : Addr} {o : Obj} {vs : List (Key × V)} {σ : St} {H : Hp} {R : It → Hp → Prop} (hσ : σ[i]? = some (some (.ref d))) (hd : H d = some (.frz o (.dK vs)))
    (w : tI X.K pn E00 (keysM i) σ H R) : iKeys (tVar i) σ H R := by
  obtain ⟨G, ρ, ok, p⟩ := w
  unfold keysM at p
  split at p
  · rename_i ds e
    obtain ⟨v, a, b⟩ := ok.dt i _ e
    rw [hσ] at a; cases a
    refine ⟨.ref d, hσ, d, o, rfl, .inl ⟨vs, hd, ?_⟩⟩
    cases b with
    | dic h k =>
      have h2 := Same.rd ok.sub h
      rcases h with h | ⟨o', h⟩
      · have := ok.sub _ _ h; rw [hd] at this; cases this
      · have := ok.sub _ _ h; rw [hd] at this; cases this
        exact p _ G H ok Ext.refl (yields_keys h k)
  · exact p.elim
theorem tLc_src {wi wi' : TI} {g : TG} {tt : TT} {te : TE} {vs : List Nat} {σ : St} {H : Hp} {Q : VK} (h : ∀ R, wi σ H R → wi' σ H R) (w : tLc wi g tt te vs σ H Q) : tLc wi' g tt te vs σ H Q := h _ w
/-- a comprehension over the keys of a dict that is data -/
theorem px_lcK {i : Nat} {elt tg iter : Expr} {ifs : List Expr} {scope : Scope} {own : List (Str × Nat)} {b : D → Rho → Option Rho} {bs : List Nat} {t : M Bool} {e : M Sl} {g : TG} (hc : X.calm = true) (hN : X.N.Nodup) (hv : PE X iter (tVar i)) (ok : BlkOk X.N X.env.scope scope own)
    (hb : GB X.K pn g b bs) (hbs : ∀ i ∈ bs, i ∈ own.map (·.2)) (hpn : ∀ q ∈ pn, q.1 ∉ own.map (·.2))
    (hg : ∀ (s : Shared) (H : Hp) (C : Addr) (cl : List (Str × Addr)) (fp : List Addr), PG (X.blk s H scope (compEnvC scope cl C X.env) fp) tg g) (ht : ∀ (s : Shared) (H : Hp) (C : Addr) (cl : List (Str × Addr)) (fp : List Addr), PTs (X.blk s H scope (compEnvC scope cl C X.env) fp) ifs (tT X.K pn E00 t))
    (he : ∀ (s : Shared) (H : Hp) (C : Addr) (cl : List (Str × Addr)) (fp : List Addr), PE (X.blk s H scope (compEnvC scope cl C X.env) fp) elt (tE X.K pn E00 e)) (hs : ∀ x, foldedSetIterable iter X.env x = pure x := by intro _; rfl) :
    PE X (.ListComp elt [⟨tg, iter, ifs, 0⟩] scope pos) (tE X.K pn E00 (mComp (keysM i) (own.map (·.2)) b t e)) := by
  have base := pe_lc (pos := pos) hc hN (pi_keys (tg := tg) hv) ok hg ht he hs
  refine (base.or (pe_lock base)).imp fun σ H Q w => ?_
  obtain ⟨G, ρ, okE, p⟩ := w
  -- the dict
  have hd : ∃ ds, ρ[i]? = some (.dt (.dic ds)) := by
    unfold mComp bindM keysM at p
    cases q : ρ[i]? with
    | none => simp only [q] at p; exact p.elim
    | some s =>
      simp only [q] at p
      cases s with
      | dt dd =>
        cases dd with
        | dic ds => exact ⟨ds, rfl⟩
        | _ => exact p.elim
      | _ => exact p.elim
  obtain ⟨ds, hρ⟩ := hd
  obtain ⟨v, hσ, hv'⟩ := okE.dt i _ hρ
  cases hv' with
  | @dic a vs _ h k =>
    have lcw := fun (G : Hp) (H : Hp) (okE : EnvOk X.K pn G H σ ρ) (Q : VK) p => lc_of (E := E00) (K := X.K) (src := keysM i) (vs := own.map (·.2)) (b := b) (t := t) (e := e) hb hbs hpn σ H Q ⟨G, ρ, okE, p⟩
    rcases h with h | ⟨o, h⟩
    · right
      have hH := okE.sub _ _ h
      refine ⟨a, .dK vs, hH, trivial, fun od => ?_⟩
      have ok2 := okE.swap (o := .frz od (.dK vs)) h (Via.lock h)
      refine tLc_src (fun R => keys_of hσ upd_same) (lcw _ _ ok2 _ ?_)
      unfold Post at p ⊢
      split at p
      · intro v G' H' ok' x'
        have ga : G' a = some (.frz od (.dK vs)) := x'.grow _ _ upd_same
        have ok3 := ok'.swap (o := .dK vs) ga (Via.unlock ga)
        exact ⟨ok'.sub _ _ ga, p v _ _ ok3 (Ext.unlock h hH x')⟩
      · intro dd G' H' ok' x' xo
        have ga : G' a = some (.frz od (.dK vs)) := x'.grow _ _ upd_same
        have ok3 := ok'.swap (o := .dK vs) ga (Via.unlock ga)
        have := p dd _ _ ok3 (Ext.unlock h hH x') (XOk.unlock ga (ok'.sub _ _ ga) xo)
        exact this
      · exact p
    · left
      exact tLc_src (fun R => keys_of hσ (okE.sub _ _ h)) (lcw _ _ okE _ p)
end
end BT

namespace BT
open PySem L2
open PyProof.Rows (envOfC)

/-! ### data as the library's -/
mutual
def toPy : D → PyData
  | .non => .none | .bl b => .bool b | .int i => .int i | .str x => .str x
  | .tup xs => .tuple (toPyL xs) | .lst xs => .list (toPyL xs)
  | .dic _ => .dict [] | .ins _ _ => .dict [] | .exn _ _ => .dict []
def toPyL : List D → List PyData
  | [] => []
  | d :: ds => toPy d :: toPyL ds
end
def okD (d : D) : Bool := SeqAt.shaped (toPy d)
def eqD (d e : D) : Bool := PyData.eqv (toPy d) (toPy e)
mutual
theorem Dt.toDp {K : PySem.W.Frag} {H : Hp} : ∀ {v : V} {d : D}, Dt K H v d → PyData.canLay0 (toPy d) = true → Dp K H v (toPy d)
  | _, _, .non, _ => by simp only [toPy]; exact .non
  | _, _, .bl b, _ => by simp only [toPy]; exact .bl b
  | _, _, .int i, _ => by simp only [toPy]; exact .int i
  | _, _, .str x, _ => by simp only [toPy]; exact .str x
  | _, _, .tup h hs, c => by simp only [toPy, PyData.canLay0] at c ⊢; exact .tup h (DtL.toDp hs c)
  | _, _, .lst h hs, c => by simp only [toPy, PyData.canLay0] at c ⊢; exact .lst h (DtL.toDp hs c)
  | _, _, .dic h hs, c => by simp [toPy, PyData.canLay0] at c
  | _, _, .ins h h2 hs, c => by simp [toPy, PyData.canLay0] at c
  | _, _, .exn h h2 hs, c => by simp [toPy, PyData.canLay0] at c
  | _, _, .exn0 h, c => by simp [toPy, PyData.canLay0] at c
theorem DtL.toDp {K : PySem.W.Frag} {H : Hp} : ∀ {v : List V} {d : List D}, DtL K H v d → PyData.canLayAll0 (toPyL d) = true → DpAll K H v (toPyL d)
  | _, _, .nil, _ => .nil
  | _, _, .cons h hs, c => by
    simp only [toPyL, PyData.canLayAll0, Bool.and_eq_true] at c
    exact .cons (Dt.toDp h c.1) (DtL.toDp hs c.2)
end

section
variable {X : Cx} {pn : List (Nat × Addr)} {E : XK}
/-! ### whole numbers -/
@[simp] def intM (k : Int → Int → Option D) : D → D → M Sl := fun d e => match d, e with | .int i, .int j => optD (k i j) | _, _ => fun _ => none
theorem opd_int {C : Int → Int → Prop} {g : Int → Int → V} {k : Int → Int → Option D} (hk : ∀ i j z, k i j = some z → C i j ∧ ∀ K G, Dt K G (g i j) z) : OpD X pn E (rI C g) (intM k) := fun σ G H ρ v u d e Q ok hv hu p => by
  cases hv with
  | int i =>
    cases hu with
    | int j =>
      simp only [intM, optD] at p
      cases ek : k i j with
      | none => rw [ek] at p; exact p.elim
      | some z =>
        rw [ek] at p
        obtain ⟨c, dt⟩ := hk i j z ek
        exact ⟨i, j, rfl, rfl, c, p.dt ok (dt _ _)⟩
    | _ => exact p.elim
  | _ => exact p.elim
theorem opd_int0 {g : Int → Int → V} {k : Int → Int → D} (hk : ∀ i j K G, Dt K G (g i j) (k i j)) : OpD X pn E (rI0 g) (intM fun i j => some (k i j)) := fun σ G H ρ v u d e Q ok hv hu p => by
  cases hv with
  | int i =>
    cases hu with
    | int j => exact ⟨i, j, rfl, rfl, p.dt ok (hk i j _ _)⟩
    | _ => exact p.elim
  | _ => exact p.elim
@[simp] def subD : D → D → M Sl := fun d e => (intM fun i j => some (.int (i - j))) d e
@[simp] def mulD : D → D → M Sl := fun d e => (intM fun i j => if i.natAbs.log2 + j.natAbs.log2 < 1000000 then some (.int (i * j)) else none) d e
@[simp] def modD : D → D → M Sl := fun d e => (intM fun i j => if 0 < j then some (.int (i % j)) else none) d e
@[simp] def fdivD : D → D → M Sl := fun d e => (intM fun i j => if 0 < j ∧ j < 1073741824 then some (.int (i / j)) else none) d e
@[simp] def shlD : D → D → M Sl := fun d e => (intM fun i j => if 0 ≤ j ∧ j ≤ 1000000 ∧ i.natAbs < 2 ^ 64 then some (.int (i * 2 ^ j.toNat)) else none) d e
@[simp] def shrD : D → D → M Sl := fun d e => (intM fun i j => if 0 ≤ j then some (.int (i / 2 ^ j.toNat)) else none) d e
@[simp] def andD : D → D → M Sl := fun d e => (intM fun i j => some (.int (Builtin.bitAnd i j))) d e
@[simp] def orD : D → D → M Sl := fun d e => (intM fun i j => some (.int (Builtin.bitOr i j))) d e
@[simp] def ltD : D → D → M Sl := fun d e => (intM fun i j => some (.bl (decide (i < j)))) d e
@[simp] def leD : D → D → M Sl := fun d e => (intM fun i j => some (.bl (decide (i ≤ j)))) d e
@[simp] def gtD : D → D → M Sl := fun d e => (intM fun i j => some (.bl (decide (j < i)))) d e
@[simp] def geD : D → D → M Sl := fun d e => (intM fun i j => some (.bl (decide (j ≤ i)))) d e
theorem od_sub : OpD X pn E (rI0 fun i j => .int (i - j)) subD := opd_int0 fun _ _ _ _ => .int _
theorem od_and : OpD X pn E (rI0 fun i j => .int (Builtin.bitAnd i j)) andD := opd_int0 fun _ _ _ _ => .int _
theorem od_or : OpD X pn E (rI0 fun i j => .int (Builtin.bitOr i j)) orD := opd_int0 fun _ _ _ _ => .int _
theorem od_lt : OpD X pn E (rI0 fun i j => .bl (decide (i < j))) ltD := opd_int0 fun _ _ _ _ => .bl _
theorem od_le : OpD X pn E (rI0 fun i j => .bl (decide (i ≤ j))) leD := opd_int0 fun _ _ _ _ => .bl _
theorem od_gt : OpD X pn E (rI0 fun i j => .bl (decide (j < i))) gtD := opd_int0 fun _ _ _ _ => .bl _
theorem od_ge : OpD X pn E (rI0 fun i j => .bl (decide (j ≤ i))) geD := opd_int0 fun _ _ _ _ => .bl _
theorem od_mul : OpD X pn E (rI CMulW fun i j => .int (i * j)) mulD := opd_int fun i j z h => by
  split at h
  · cases h; exact ⟨by assumption, fun _ _ => .int _⟩
  · cases h
theorem od_mod : OpD X pn E (rI (fun _ j => 0 < j) fun i j => .int (i % j)) modD := opd_int fun i j z h => by
  split at h
  · cases h; exact ⟨by assumption, fun _ _ => .int _⟩
  · cases h
theorem od_fdiv : OpD X pn E (rI CDiv fun i j => .int (i / j)) fdivD := opd_int fun i j z h => by
  split at h
  · cases h; exact ⟨by assumption, fun _ _ => .int _⟩
  · cases h
theorem od_shl : OpD X pn E (rI CPow fun i j => .int (i * 2 ^ j.toNat)) shlD := opd_int fun i j z h => by
  split at h
  · cases h; exact ⟨by assumption, fun _ _ => .int _⟩
  · cases h
theorem od_shr : OpD X pn E (rI (fun _ j => 0 ≤ j) fun i j => .int (i / 2 ^ j.toNat)) shrD := opd_int fun i j z h => by
  split at h
  · cases h; exact ⟨by assumption, fun _ _ => .int _⟩
  · cases h
/-- powers, of any size that fits -/
def CPowW (i j : Int) : Prop := 0 ≤ j ∧ (Builtin.Int.intBits i : Int) * j ≤ 2 ^ 27
theorem op_powW : OpR X (binaryOp .Pow) (rI CPowW fun i j => .int (i ^ j.toNat)) := opI fun _ _ _ _ _ _ _ hc q => PyProof.Rows.pow_int hc.1 hc.2 q
@[simp] def powD : D → D → M Sl := fun d e => (intM fun i j => if 0 ≤ j ∧ (Builtin.Int.intBits i : Int) * j ≤ 2 ^ 27 then some (.int (i ^ j.toNat)) else none) d e
theorem od_pow : OpD X pn E (rI CPowW fun i j => .int (i ^ j.toNat)) powD := opd_int fun i j z h => by
  split at h
  · cases h; exact ⟨by assumption, fun _ _ => .int _⟩
  · cases h

/-! ### + of numbers, texts, lists, tuples -/
def rCatL (K : PySem.W.Frag) : R2 := fun x y H Q => ∃ l b xs zs, x = .ref l ∧ y = .ref b ∧ SqL K H l xs ∧ SqL K H b zs ∧ xs.length + zs.length ≤ sizeLine ∧ ∀ p, H p = none → Q (.ref p) (upd H p (.lst (xs ++ zs)))
theorem op_catL : OpR X (binaryOp .Add) (rCatL X.K) := by
  intro pins s σ H x y v u Q I rx ry h
  obtain ⟨l, b, xs, zs, rfl, rfl, hH, hB, hz, q⟩ := h
  cases rx
  cases ry
  obtain ⟨its, r, p, z⟩ := I.list hH
  obtain ⟨its2, r2, p2, z2⟩ := I.list hB
  obtain ⟨⟨c1, d1, dt1, sl1⟩, n1, ho1, hc1, hd1, hdt1⟩ := p
  obtain ⟨⟨c2, d2, dt2, sl2⟩, n2, ho2, hc2, hd2, hdt2⟩ := p2
  simp only at hc1 hd1 hdt1 hc2 hd2 hdt2
  subst hc1 hd1 hdt1 hc2 hd2 hdt2
  have hl := r.length
  have hl2 := r2.length
  have ea : its.toArray ++ its2.toArray = (its ++ its2).toArray := by simp
  refine PySem.concat_meets ⟨_, ho1, rfl⟩ ⟨_, ho2, rfl⟩ PySem.noFill_list_add PySem.seq_list_add PySem.F.slot_list_add PySem.F.entry_list_add (PySem.F.args_list_add_2 _ _) (PyProof.Rows.list_addW l b its.toArray its2.toArray n1 n2 none none sl1 sl2 (by rw [List.size_toArray, List.size_toArray]; omega)) ⟨ho1, ho2, ?_⟩
  rw [ea]
  exact ⟨.ref _, _, I.lnew (t' := s.toks) (r.append r2) (by rw [List.length_append]; omega), rfl, q _ I.fresh⟩
def rAdds (K : PySem.W.Frag) : R2 := fun x y H Q => (∃ i j, x = .int i ∧ y = .int j ∧ Q (.int (i + j)) H) ∨ (∃ i j, x = .str i ∧ y = .str j ∧ i.length + j.length ≤ sizeLine ∧ Q (.str (i ++ j)) H) ∨ rCatL K x y H Q ∨ rCatA K x y H Q
theorem op_adds : OpR X (binaryOp .Add) (rAdds X.K) := op_add.or (op_add_str.or (op_catL.or op_catA))
@[simp] def addD : D → D → M Sl := fun d e => match d, e with
  | .int i, .int j => retD (.int (i + j))
  | .str i, .str j => if i.length + j.length ≤ sizeLine then retD (.str (i ++ j)) else fun _ => none
  | .lst xs, .lst ys => fun ρ => if xs.length + ys.length ≤ sizeLine then some (.val (.ol (xs ++ ys)) ρ) else none
  | .tup xs, .tup ys => fun ρ => if xs.length + ys.length ≤ sizeLine then some (.val (.dt (.tup (xs ++ ys))) ρ) else none
  | _, _ => fun _ => none
theorem od_add : OpD X pn E (rAdds X.K) addD := fun σ G H ρ v u d e Q ok hv hu p => by
  cases hv with
  | int i =>
    cases hu with
    | int j => exact .inl ⟨i, j, rfl, rfl, p.dt ok (.int _)⟩
    | _ => exact p.elim
  | str i =>
    cases hu with
    | str j =>
      simp only [addD] at p
      by_cases c : i.length + j.length ≤ sizeLine
      · rw [if_pos c] at p
        exact .inr (.inl ⟨i, j, rfl, rfl, c, p.dt ok (.str _)⟩)
      · rw [if_neg c] at p; exact p.elim
    | _ => exact p.elim
  | lst h hs =>
    cases hu with
    | lst h' hs' =>
      simp only [addD] at p
      split at p
      · rename_i c
        exact .inr (.inr (.inl ⟨_, _, _, _, rfl, rfl, ok.sub.seq h, ok.sub.seq h', by rw [hs.length, hs'.length]; exact c, fun q hq => p.lst ok (hs.append hs') hq⟩))
      · exact p.elim
    | _ => exact p.elim
  | tup h hs =>
    cases hu with
    | tup h' hs' =>
      rename_i a xs ds b ys es
      simp only [addD] at p
      by_cases c : ds.length + es.length ≤ sizeLine
      · rw [if_pos c] at p
        have l1 := hs.length
        have l2 := hs'.length
        refine .inr (.inr (.inr ⟨_, _, _, _, rfl, rfl, Same.sqT ok.sub h, Same.sqT ok.sub h', by omega, fun z => ?_, fun _ z => ?_, fun _ _ q hq => p.tup ok (hs.append hs') hq⟩))
        · subst z
          have : ds = [] := List.eq_nil_of_length_eq_zero (by simpa using l1.symm)
          subst this
          exact p.dt ok (.tup h' hs')
        · subst z
          have : es = [] := List.eq_nil_of_length_eq_zero (by simpa using l2.symm)
          subst this
          rw [List.append_nil] at p
          exact p.dt ok (.tup h hs)
      · rw [if_neg c] at p; exact p.elim
    | _ => exact p.elim
  | _ => exact p.elim

/-! ### == and != -/
def rEqs (K : PySem.W.Frag) : R2 := fun x y H Q => rEq x y H Q ∨ rEqD K x y H Q
def rNes (K : PySem.W.Frag) : R2 := fun x y H Q => rNe x y H Q ∨ rNeD K x y H Q
theorem op_eqs (hu : X.A.units + 64 < cLine) : OpR X (compareOp .Eq) (rEqs X.K) := op_eq.or (op_eqD hu)
theorem op_nes (hu : X.A.units + 64 < cLine) : OpR X (compareOp .NotEq) (rNes X.K) := op_ne.or (op_neD hu)
@[simp] def eqM : D → D → M Sl := fun d e => match d, e with
  | .str x, .str y => retD (.bl (decide (x = y)))
  | .int x, .int y => retD (.bl (decide (x = y)))
  | .bl x, .bl y => retD (.bl (decide (x = y)))
  | .non, .non => retD (.bl true)
  | _, _ => fun ρ => if okD d = true ∧ okD e = true then some (.val (.dt (.bl (eqD d e))) ρ) else none
@[simp] def neM : D → D → M Sl := fun d e => match d, e with
  | .str x, .str y => retD (.bl (!decide (x = y)))
  | .int x, .int y => retD (.bl (!decide (x = y)))
  | .bl x, .bl y => retD (.bl (!decide (x = y)))
  | .non, .non => retD (.bl false)
  | _, _ => fun ρ => if okD d = true ∧ okD e = true then some (.val (.dt (.bl (!eqD d e))) ρ) else none
theorem eqD_of {K : PySem.W.Frag} {σ : St} {G H : Hp} {ρ : Rho} {v u : V} {d e : D} {Q : VK} (ok : EnvOk K pn G H σ ρ) (hv : Dt K G v d) (hu : Dt K G u e)
    (p : Post K pn E σ G H (OwnAt σ ρ) (if okD d = true ∧ okD e = true then some (.val (.dt (.bl (eqD d e))) ρ) else none) Q) : rEqs K v u H Q := by
  by_cases c : okD d = true ∧ okD e = true
  · rw [if_pos c] at p
    exact .inr ⟨_, _, (hv.mono ok.sub).toDp (SeqAt.canLay_of_shaped c.1), (hu.mono ok.sub).toDp (SeqAt.canLay_of_shaped c.2), c.1, c.2, p.dt ok (.bl _)⟩
  · rw [if_neg c] at p; exact p.elim
theorem neD_of {K : PySem.W.Frag} {σ : St} {G H : Hp} {ρ : Rho} {v u : V} {d e : D} {Q : VK} (ok : EnvOk K pn G H σ ρ) (hv : Dt K G v d) (hu : Dt K G u e)
    (p : Post K pn E σ G H (OwnAt σ ρ) (if okD d = true ∧ okD e = true then some (.val (.dt (.bl (!eqD d e))) ρ) else none) Q) : rNes K v u H Q := by
  by_cases c : okD d = true ∧ okD e = true
  · rw [if_pos c] at p
    exact .inr ⟨_, _, (hv.mono ok.sub).toDp (SeqAt.canLay_of_shaped c.1), (hu.mono ok.sub).toDp (SeqAt.canLay_of_shaped c.2), c.1, c.2, p.dt ok (.bl _)⟩
  · rw [if_neg c] at p; exact p.elim
theorem decV_str (x y : Str) : decide (V.str x = V.str y) = decide (x = y) := by simp
theorem decV_int (x y : Int) : decide (V.int x = V.int y) = decide (x = y) := by simp
theorem decV_bl (x y : Bool) : decide (V.bl x = V.bl y) = decide (x = y) := by simp
theorem od_eq : OpD X pn E (rEqs X.K) eqM := fun σ G H ρ v u d e Q ok hv hu p => by
  unfold eqM at p
  split at p
  · cases hv; cases hu; exact .inl ⟨rfl, by rw [decV_str]; exact p.dt ok (.bl _)⟩
  · cases hv; cases hu; exact .inl ⟨rfl, by rw [decV_int]; exact p.dt ok (.bl _)⟩
  · cases hv; cases hu; exact .inl ⟨rfl, by rw [decV_bl]; exact p.dt ok (.bl _)⟩
  · cases hv; cases hu; exact .inl ⟨rfl, p.dt ok (.bl _)⟩
  · exact eqD_of ok hv hu p
theorem od_ne : OpD X pn E (rNes X.K) neM := fun σ G H ρ v u d e Q ok hv hu p => by
  unfold neM at p
  split at p
  · cases hv; cases hu; exact .inl ⟨rfl, by rw [decV_str]; exact p.dt ok (.bl _)⟩
  · cases hv; cases hu; exact .inl ⟨rfl, by rw [decV_int]; exact p.dt ok (.bl _)⟩
  · cases hv; cases hu; exact .inl ⟨rfl, by rw [decV_bl]; exact p.dt ok (.bl _)⟩
  · cases hv; cases hu; exact .inl ⟨rfl, p.dt ok (.bl _)⟩
  · exact neD_of ok hv hu p
/-- is None -/
@[simp] def isNon : D → Bool | .non => true | _ => false
@[simp] def isNM (neg : Bool) : D → D → M Sl := fun d e => match e with | .non => retD (.bl (if neg then !isNon d else isNon d)) | _ => fun _ => none
theorem isNon_dec {K : PySem.W.Frag} {G : Hp} {v : V} {d : D} (h : Dt K G v d) : decide (v = .non) = isNon d := by
  cases h <;> rfl
theorem od_isN : OpD X pn E (fun x y H Q => y = .non ∧ Q (.bl (decide (x = .non))) H) (isNM false) := fun σ G H ρ v u d e Q ok hv hu p => by
  cases hu with
  | non => exact ⟨rfl, by rw [isNon_dec hv]; exact p.dt ok (.bl _)⟩
  | _ => exact p.elim
theorem od_notN : OpD X pn E (fun x y H Q => y = .non ∧ Q (.bl (!decide (x = .non))) H) (isNM true) := fun σ G H ρ v u d e Q ok hv hu p => by
  cases hu with
  | non => exact ⟨rfl, by rw [isNon_dec hv]; exact p.dt ok (.bl _)⟩
  | _ => exact p.elim

/-! ### in -/
def rInTD (K : PySem.W.Frag) (neg : Bool) : R2 := fun x y H Q => ∃ d ds, Dp K H x d ∧ Dp K H y (.tuple ds) ∧ SeqAt.shaped d = true ∧ SeqAt.shaped (.tuple ds) = true ∧ Q (.bl (if neg then !ds.any fun z => PyData.eqv z d else ds.any fun z => PyData.eqv z d)) H
def rInLD (K : PySem.W.Frag) (neg : Bool) : R2 := fun x y H Q => ∃ d ds, Dp K H x d ∧ Dp K H y (.list ds) ∧ SeqAt.shaped d = true ∧ SeqAt.shaped (.list ds) = true ∧ Q (.bl (if neg then !ds.any fun z => PyData.eqv z d else ds.any fun z => PyData.eqv z d)) H
theorem op_inLD (hu : X.A.units + 65 < cLine) : OpR X (compareOp .In) (rInLD X.K false) := by
  intro pins s σ H x y v u Q I rx ry h
  obtain ⟨d, ds, hd, he, sd, se, q⟩ := h
  obtain ⟨as, r1⟩ := Dp.reads I d x v hd rx
  obtain ⟨bs, r2⟩ := Dp.reads I (.list ds) y u he ry
  exact SeqAt.in_list_reads r2 r1 (SeqAt.canLay_of_shaped se) (SeqAt.canLay_of_shaped sd) (PyProof.Rows.room_in_shaped sd hu) ⟨.bl _, H, I, rfl, q⟩
theorem op_notInLD (hu : X.A.units + 65 < cLine) : OpR X (compareOp .NotIn) (rInLD X.K true) := by
  intro pins s σ H x y v u Q I rx ry h
  obtain ⟨d, ds, hd, he, sd, se, q⟩ := h
  obtain ⟨as, r1⟩ := Dp.reads I d x v hd rx
  obtain ⟨bs, r2⟩ := Dp.reads I (.list ds) y u he ry
  exact SeqAt.notIn_list_reads r2 r1 (SeqAt.canLay_of_shaped se) (SeqAt.canLay_of_shaped sd) (PyProof.Rows.room_in_shaped sd hu) ⟨.bl _, H, I, rfl, q⟩
theorem op_inTD (hu : X.A.units + 65 < cLine) : OpR X (compareOp .In) (rInTD X.K false) := by
  intro pins s σ H x y v u Q I rx ry h
  obtain ⟨d, ds, hd, he, sd, se, q⟩ := h
  obtain ⟨as, r1⟩ := Dp.reads I d x v hd rx
  obtain ⟨bs, r2⟩ := Dp.reads I (.tuple ds) y u he ry
  exact SeqAt.in_tuple_reads r2 r1 (SeqAt.canLay_of_shaped se) (SeqAt.canLay_of_shaped sd) (PyProof.Rows.room_in_shaped sd hu) ⟨.bl _, H, I, rfl, q⟩
theorem op_notInTD (hu : X.A.units + 65 < cLine) : OpR X (compareOp .NotIn) (rInTD X.K true) := by
  intro pins s σ H x y v u Q I rx ry h
  obtain ⟨d, ds, hd, he, sd, se, q⟩ := h
  obtain ⟨as, r1⟩ := Dp.reads I d x v hd rx
  obtain ⟨bs, r2⟩ := Dp.reads I (.tuple ds) y u he ry
  exact SeqAt.notIn_tuple_reads r2 r1 (SeqAt.canLay_of_shaped se) (SeqAt.canLay_of_shaped sd) (PyProof.Rows.room_in_shaped sd hu) ⟨.bl _, H, I, rfl, q⟩
/-- a sign in a text -/
def rInS (neg : Bool) : R2 := fun x y H Q => ∃ (c : Nat) (z : Str), x = .str ⟨#[c]⟩ ∧ y = .str z ∧ Q (.bl (if neg then !decide (c ∈ z.cps.toList) else decide (c ∈ z.cps.toList))) H
theorem op_inS : OpR X (compareOp .In) (rInS false) := op_in_sign
theorem op_notInS : OpR X (compareOp .NotIn) (rInS true) := op_notIn_sign
def rIns (K : PySem.W.Frag) (neg : Bool) : R2 := fun x y H Q => rIn K neg x y H Q ∨ rInLD K neg x y H Q ∨ rInTD K neg x y H Q ∨ rInS neg x y H Q
theorem op_ins (hu : X.A.units + 65 < cLine) : OpR X (compareOp .In) (rIns X.K false) := op_in_seq.or ((op_inLD hu).or ((op_inTD hu).or op_inS))
theorem op_notIns (hu : X.A.units + 65 < cLine) : OpR X (compareOp .NotIn) (rIns X.K true) := op_notIn_seq.or ((op_notInLD hu).or ((op_notInTD hu).or op_notInS))
@[simp] def flatD : D → Bool | .non => true | .bl _ => true | .int _ => true | .str _ => true | _ => false
@[simp] def eqF : D → D → Bool
  | .non, .non => true
  | .bl a, .bl b => a == b
  | .bl a, .int b => (if a then 1 else 0) == b
  | .int a, .bl b => a == (if b then 1 else 0)
  | .int a, .int b => a == b
  | .str a, .str b => a == b
  | _, _ => false
theorem flat_of {K : PySem.W.Frag} {G : Hp} {v : V} {d : D} (h : Dt K G v d) (f : flatD d = true) : flatV v = true := by cases h <;> first | rfl | cases f
theorem eqF_of {K : PySem.W.Frag} {G : Hp} {v u : V} {d e : D} (h : Dt K G v d) (g : Dt K G u e) (f : flatD d = true) (f' : flatD e = true) : eqV v u = eqF d e := by
  cases h <;> cases g <;> first | rfl | cases f | cases f'
theorem flat_all {K : PySem.W.Frag} {G : Hp} : ∀ {vs : List V} {ds : List D}, DtL K G vs ds → ds.all flatD = true → vs.all flatV = true
  | _, _, .nil, _ => rfl
  | _, _, .cons h hs, f => by
    simp only [List.all_cons, Bool.and_eq_true] at f ⊢
    exact ⟨flat_of h f.1, flat_all hs f.2⟩
theorem any_eqF {K : PySem.W.Frag} {G : Hp} {x : V} {d : D} (hx : Dt K G x d) (fx : flatD d = true) : ∀ {vs : List V} {ds : List D}, DtL K G vs ds → ds.all flatD = true → (vs.any fun y => eqV y x) = ds.any fun e => eqF e d
  | _, _, .nil, _ => rfl
  | _, _, .cons h hs, f => by
    simp only [List.all_cons, Bool.and_eq_true] at f
    simp only [List.any_cons]
    rw [eqF_of h hx f.1 fx, any_eqF hx fx hs f.2]
theorem toPyL_map : ∀ ds : List D, toPyL ds = ds.map toPy
  | [] => rfl
  | d :: ds => by simp only [toPyL, List.map_cons, toPyL_map ds]
@[simp] def inM (neg : Bool) : D → D → M Sl := fun d e => match e with
  | .lst ds => fun ρ => if flatD d = true ∧ ds.all flatD = true then some (.val (.dt (.bl (if neg then !ds.any fun z => eqF z d else ds.any fun z => eqF z d))) ρ)
      else if okD d = true ∧ okD (.lst ds) = true then some (.val (.dt (.bl (if neg then !ds.any fun z => eqD z d else ds.any fun z => eqD z d))) ρ) else none
  | .tup ds => fun ρ => if flatD d = true ∧ ds.all flatD = true then some (.val (.dt (.bl (if neg then !ds.any fun z => eqF z d else ds.any fun z => eqF z d))) ρ)
      else if okD d = true ∧ okD (.tup ds) = true then some (.val (.dt (.bl (if neg then !ds.any fun z => eqD z d else ds.any fun z => eqD z d))) ρ) else none
  | .str z => fun ρ => match d with
    | .str x => (match x.cps.toList with | [c] => some (.val (.dt (.bl (if neg then !decide (c ∈ z.cps.toList) else decide (c ∈ z.cps.toList)))) ρ) | _ => none)
    | _ => none
  | _ => fun _ => none
theorem od_in {neg : Bool} : OpD X pn E (rIns X.K neg) (inM neg) := fun σ G H ρ v u d e Q ok hv hu p => by
  unfold inM at p
  cases hu with
  | lst h hs =>
    simp only at p
    split at p
    · rename_i c
      refine .inl ⟨_, _, rfl, .inl (ok.sub.seq h), flat_of hv c.1, flat_all hs c.2, ?_⟩
      have e1 := any_eqF hv c.1 hs c.2
      unfold inV
      rw [e1]; exact p.dt ok (.bl _)
    · split at p
      · rename_i c
        have h2 := (hv.mono ok.sub).toDp (SeqAt.canLay_of_shaped c.1)
        have h3 := ((Dt.lst h hs).mono ok.sub).toDp (SeqAt.canLay_of_shaped c.2)
        refine .inr (.inl ⟨_, _, h2, by simpa only [toPy] using h3, c.1, by simpa only [okD, toPy] using c.2, ?_⟩)
        rw [toPyL_map, List.any_map]
        exact p.dt ok (.bl _)
      · exact p.elim
  | tup h hs =>
    simp only at p
    split at p
    · rename_i c
      refine .inl ⟨_, _, rfl, .inr (Same.sqT ok.sub h), flat_of hv c.1, flat_all hs c.2, ?_⟩
      have e1 := any_eqF hv c.1 hs c.2
      unfold inV
      rw [e1]; exact p.dt ok (.bl _)
    · split at p
      · rename_i c
        have h2 := (hv.mono ok.sub).toDp (SeqAt.canLay_of_shaped c.1)
        have h3 := ((Dt.tup h hs).mono ok.sub).toDp (SeqAt.canLay_of_shaped c.2)
        refine .inr (.inr (.inl ⟨_, _, h2, by simpa only [toPy] using h3, c.1, by simpa only [okD, toPy] using c.2, ?_⟩))
        rw [toPyL_map, List.any_map]
        exact p.dt ok (.bl _)
      · exact p.elim
  | str z =>
    simp only at p
    cases hv with
    | str x =>
      simp only at p
      split at p
      · rename_i c e
        have ex : x = ⟨#[c]⟩ := by
          cases x with
          | mk a => cases a with
            | mk l => simp only at e; subst e; rfl
        subst ex
        exact .inr (.inr (.inr ⟨c, z, rfl, rfl, p.dt ok (.bl _)⟩))
      · exact p.elim
    | _ => exact p.elim
  | _ => exact p.elim

/-! ### o[i] of lists, tuples, texts -/
theorem atI_dt {K : PySem.W.Frag} {G : Hp} {vs : List V} {ds : List D} {i : Int} {d : D} (h : DtL K G vs ds) (e : atI ds i = some d) : ∃ v, atI vs i = some v ∧ Dt K G v d := by
  unfold atI at e ⊢
  rw [h.length]
  cases q : ixN ds.length i with
  | none => rw [q] at e; cases e
  | some j => rw [q] at e; exact h.getD e
@[simp] def ixM : D → D → M Sl := fun d e => match d, e with
  | .lst ds, .int i => optD (atI ds i)
  | .tup ds, .int i => optD (atI ds i)
  | .str z, .int i => fun ρ => if z.length ≤ sizeLine then (match atI z.cps.toList i with | some c => some (.val (.dt (.str ⟨#[c]⟩)) ρ) | none => none) else none
  | _, _ => fun _ => none
theorem od_ix : OpD X pn E (rIx X.K) ixM := fun σ G H ρ v u d e Q ok hv hu p => by
  unfold ixM at p
  cases hu with
  | int i =>
    cases hv with
    | lst h hs =>
      simp only [optD] at p
      split at p
      · rename_i z e
        obtain ⟨w, e1, e2⟩ := atI_dt hs e
        exact .inl ⟨_, _, i, w, rfl, rfl, ok.sub.seq h, e1, p.dt ok e2⟩
      · exact p.elim
    | tup h hs =>
      simp only [optD] at p
      split at p
      · rename_i z e
        obtain ⟨w, e1, e2⟩ := atI_dt hs e
        exact .inr (.inl ⟨_, _, i, w, rfl, rfl, Same.sqT ok.sub h, e1, p.dt ok e2⟩)
      · exact p.elim
    | str z =>
      simp only at p
      split at p
      · rename_i c
        split at p
        · rename_i c' e
          exact .inr (.inr ⟨z, i, c', rfl, rfl, c, e, p.dt ok (.str _)⟩)
        · exact p.elim
      · exact p.elim
    | _ => exact p.elim
  | _ => cases d <;> exact p.elim

/-! ### built-ins -/
theorem DtL.one {K : PySem.W.Frag} {G : Hp} {vs : List V} {d : D} (h : DtL K G vs [d]) : ∃ v, vs = [v] ∧ Dt K G v d := by
  cases h with
  | cons h1 h2 => cases h2; exact ⟨_, rfl, h1⟩
theorem DtL.two {K : PySem.W.Frag} {G : Hp} {vs : List V} {d e : D} (h : DtL K G vs [d, e]) : ∃ v u, vs = [v, u] ∧ Dt K G v d ∧ Dt K G u e := by
  cases h with
  | cons h1 h2 =>
    cases h2 with
    | cons h3 h4 => cases h4; exact ⟨_, _, rfl, h1, h3⟩
@[simp] def fun1 (k : D → M Sl) : List D → M Sl := fun ds => match ds with | [d] => k d | _ => fun _ => none
@[simp] def fun2 (k : D → D → M Sl) : List D → M Sl := fun ds => match ds with | [d, e] => k d e | _ => fun _ => none
def rLens (K : PySem.W.Frag) : List V → Hp → VK → Prop := fun xs H Q => (∃ p ys, xs = [.ref p] ∧ (SqL K H p ys ∨ SqT K H p ys) ∧ Q (.int ys.length) H) ∨ ∃ z, xs = [.str z] ∧ z.length ≤ sizeLine ∧ Q (.int z.length) H
theorem call_lens : CallR X (.builtin "len") (rLens X.K) := call_len_seq.or call_len_str
@[simp] def lenD : List D → M Sl := fun ds => (fun1 fun d => match d with
  | .lst ds => retD (.int ds.length)
  | .tup ds => retD (.int ds.length)
  | .str z => fun ρ => if z.length ≤ sizeLine then some (.val (.dt (.int z.length)) ρ) else none
  | _ => fun _ => none) ds
theorem cd_len : CallD X pn E (rLens X.K) lenD := fun σ G H ρ vs ds Q ok h p => by
  unfold lenD fun1 at p
  split at p
  · obtain ⟨v, rfl, hv⟩ := h.one
    cases hv with
    | lst h9 hs => exact .inl ⟨_, _, rfl, .inl (ok.sub.seq h9), by rw [hs.length]; exact p.dt ok (.int _)⟩
    | tup h9 hs => exact .inl ⟨_, _, rfl, .inr (Same.sqT ok.sub h9), by rw [hs.length]; exact p.dt ok (.int _)⟩
    | str z =>
      simp only at p
      split at p
      · rename_i c; exact .inr ⟨z, rfl, c, p.dt ok (.int _)⟩
      · exact p.elim
    | _ => exact p.elim
  · exact p.elim
@[simp] def asInts : List D → Option (List Int)
  | [] => some []
  | .int i :: ds => (asInts ds).map (i :: ·)
  | _ => none
@[simp] def asBls : List D → Option (List Bool)
  | [] => some []
  | .bl i :: ds => (asBls ds).map (i :: ·)
  | _ => none
theorem asInts_dt {K : PySem.W.Frag} {G : Hp} : ∀ {vs : List V} {ds : List D} {ns : List Int}, DtL K G vs ds → asInts ds = some ns → vs = ns.map V.int
  | _, _, _, .nil, e => by cases e; rfl
  | _, _, _, .cons h hs, e => by
    cases h with
    | int i =>
      simp only [asInts] at e
      cases q : asInts _ with
      | none => rw [q] at e; cases e
      | some ms => rw [q] at e; cases e; rw [asInts_dt hs q]; rfl
    | _ => cases e
theorem asBls_dt {K : PySem.W.Frag} {G : Hp} : ∀ {vs : List V} {ds : List D} {ns : List Bool}, DtL K G vs ds → asBls ds = some ns → vs = ns.map V.bl
  | _, _, _, .nil, e => by cases e; rfl
  | _, _, _, .cons h hs, e => by
    cases h with
    | bl i =>
      simp only [asBls] at e
      cases q : asBls _ with
      | none => rw [q] at e; cases e
      | some ms => rw [q] at e; cases e; rw [asBls_dt hs q]; rfl
    | _ => cases e
@[simp] def sumD : List D → M Sl := fun ds => (fun1 fun d => match d with | .lst ds => optD ((asInts ds).map fun ns => .int ns.sum) | _ => fun _ => none) ds
@[simp] def anyD : List D → M Sl := fun ds => (fun1 fun d => match d with | .lst ds => optD ((asBls ds).map fun bs => .bl (bs.any id)) | _ => fun _ => none) ds
@[simp] def allD : List D → M Sl := fun ds => (fun1 fun d => match d with | .lst ds => optD ((asBls ds).map fun bs => .bl (bs.all id)) | _ => fun _ => none) ds
theorem cd_sum : CallD X pn E (rSum X.K) sumD := fun σ G H ρ vs ds Q ok h p => by
  unfold sumD fun1 at p
  split at p
  · obtain ⟨v, rfl, hv⟩ := h.one
    cases hv with
    | lst h hs =>
      simp only [optD] at p
      split at p
      · rename_i z e
        cases q : asInts _ with
        | none => rw [q] at e; cases e
        | some ns =>
          rw [q] at e; cases e
          have := asInts_dt hs q
          subst this
          exact ⟨_, ns, rfl, ok.sub.seq h, p.dt ok (.int _)⟩
      · exact p.elim
    | _ => exact p.elim
  · exact p.elim
theorem cd_any : CallD X pn E (rAny X.K) anyD := fun σ G H ρ vs ds Q ok h p => by
  unfold anyD fun1 at p
  split at p
  · obtain ⟨v, rfl, hv⟩ := h.one
    cases hv with
    | lst h hs =>
      simp only [optD] at p
      split at p
      · rename_i z e
        cases q : asBls _ with
        | none => rw [q] at e; cases e
        | some ns =>
          rw [q] at e; cases e
          have := asBls_dt hs q
          subst this
          exact ⟨_, ns, rfl, ok.sub.seq h, p.dt ok (.bl _)⟩
      · exact p.elim
    | _ => exact p.elim
  · exact p.elim
theorem cd_all : CallD X pn E (rAll X.K) allD := fun σ G H ρ vs ds Q ok h p => by
  unfold allD fun1 at p
  split at p
  · obtain ⟨v, rfl, hv⟩ := h.one
    cases hv with
    | lst h hs =>
      simp only [optD] at p
      split at p
      · rename_i z e
        cases q : asBls _ with
        | none => rw [q] at e; cases e
        | some ns =>
          rw [q] at e; cases e
          have := asBls_dt hs q
          subst this
          exact ⟨_, ns, rfl, ok.sub.seq h, p.dt ok (.bl _)⟩
      · exact p.elim
    | _ => exact p.elim
  · exact p.elim
/-- tuple(x), list(x) -/
@[simp] def tupleD : List D → M Sl := fun ds => (fun1 fun d => match d with | .lst ds => retD (.tup ds) | .tup ds => retD (.tup ds) | _ => fun _ => none) ds
@[simp] def listD : List D → M Sl := fun ds => (fun1 fun d => match d with | .lst ds => (fun ρ => some (.val (.ol ds) ρ)) | .tup ds => (fun ρ => some (.val (.ol ds) ρ)) | _ => fun _ => none) ds
theorem cd_tuple : CallD X pn E (fun xs H Q => ∃ p ys, xs = [.ref p] ∧ ((SqL X.K H p ys ∧ ∀ l, H l = none → Q (.ref l) (upd H l (.tup ys))) ∨ (SqT X.K H p ys ∧ Q (.ref p) H))) tupleD := fun σ G H ρ vs ds Q ok h p => by
  unfold tupleD fun1 at p
  split at p
  · obtain ⟨v, rfl, hv⟩ := h.one
    cases hv with
    | lst h9 hs => exact ⟨_, _, rfl, .inl ⟨ok.sub.seq h9, fun l hl => p.tup ok hs hl⟩⟩
    | tup h9 hs => exact ⟨_, _, rfl, .inr ⟨Same.sqT ok.sub h9, p.dt ok (.tup h9 hs)⟩⟩
    | _ => exact p.elim
  · exact p.elim
theorem cd_list : CallD X pn E (fun xs H Q => ∃ p ys, xs = [.ref p] ∧ (SqL X.K H p ys ∨ SqT X.K H p ys) ∧ ∀ l, H l = none → Q (.ref l) (upd H l (.lst ys))) listD := fun σ G H ρ vs ds Q ok h p => by
  unfold listD fun1 at p
  split at p
  · obtain ⟨v, rfl, hv⟩ := h.one
    cases hv with
    | lst h9 hs => exact ⟨_, _, rfl, .inl (ok.sub.seq h9), fun l hl => p.lst ok hs hl⟩
    | tup h9 hs => exact ⟨_, _, rfl, .inr (Same.sqT ok.sub h9), fun l hl => p.lst ok hs hl⟩
    | _ => exact p.elim
  · exact p.elim
/-- max(i, j), min(i, j) -/
@[simp] def maxD : List D → M Sl := fun ds => (fun2 (intM fun i j => some (.int (if j > i then j else i)))) ds
@[simp] def minD : List D → M Sl := fun ds => (fun2 (intM fun i j => some (.int (if j < i then j else i)))) ds
theorem cd_max : CallD X pn E (fun xs H Q => ∃ i j, xs = [.int i, .int j] ∧ Q (.int (if j > i then j else i)) H) maxD := fun σ G H ρ vs ds Q ok h p => by
  unfold maxD fun2 at p
  split at p
  · obtain ⟨v, u, rfl, hv, hu⟩ := h.two
    cases hv with
    | int i =>
      cases hu with
      | int j => exact ⟨i, j, rfl, p.dt ok (.int _)⟩
      | _ => exact p.elim
    | _ => exact p.elim
  · exact p.elim
theorem cd_min : CallD X pn E (fun xs H Q => ∃ i j, xs = [.int i, .int j] ∧ Q (.int (if j < i then j else i)) H) minD := fun σ G H ρ vs ds Q ok h p => by
  unfold minD fun2 at p
  split at p
  · obtain ⟨v, u, rfl, hv, hu⟩ := h.two
    cases hv with
    | int i =>
      cases hu with
      | int j => exact ⟨i, j, rfl, p.dt ok (.int _)⟩
      | _ => exact p.elim
    | _ => exact p.elim
  · exact p.elim
/-- int(b) -/
@[simp] def intD : List D → M Sl := fun ds => (fun1 fun d => match d with | .int i => retD (.int i) | .bl b => retD (.int (if b then 1 else 0)) | _ => fun _ => none) ds
theorem cd_int : CallD X pn E (fun xs H Q => (∃ i, xs = [.int i] ∧ Q (.int i) H) ∨ ∃ k, xs = [.bl k] ∧ Q (.int (if k then 1 else 0)) H) intD := fun σ G H ρ vs ds Q ok h p => by
  unfold intD fun1 at p
  split at p
  · obtain ⟨v, rfl, hv⟩ := h.one
    cases hv with
    | int i => exact .inl ⟨i, rfl, p.dt ok (.int _)⟩
    | bl i => exact .inr ⟨i, rfl, p.dt ok (.int _)⟩
    | _ => exact p.elim
  · exact p.elim

/-! ### isinstance -/
@[simp] def tyD : D → Option String
  | .non => some "NoneType" | .bl _ => some "bool" | .int _ => some "int" | .str _ => some "str" | .tup _ => some "tuple" | .lst _ => some "list" | .dic _ => some "dict" | .ins _ _ => none | .exn _ _ => none
@[simp] def isT (T t : String) : Bool := t == T || (T == "int" && t == "bool")
@[simp] def isiM (T : String) (f : M Sl) : M Sl := fun ρ => (bindD f fun d => optD ((tyD d).map fun t => .bl (isT T t))) ρ
theorem tyx_of {K : PySem.W.Frag} {H : Hp} {v : V} {d : D} {t : String} (h : Dt K H v d) (e : tyD d = some t) : TyX K H v (.type t) := by
  cases h with
  | non => cases e; exact .base .non
  | bl b => cases e; exact .base (.bl b)
  | int b => cases e; exact .base (.int b)
  | str b => cases e; exact .base (.str b)
  | tup h _ =>
    cases e
    rcases h with (h | ⟨o, h⟩) | ⟨o, its, n, h1, h2, _⟩
    · exact .base (.tup h)
    · exact .fTuple h
    · exact .kTuple h1 h2
  | lst h _ =>
    cases e
    rcases h with (h | ⟨o, h⟩) | ⟨o, its, n, h1, h2, _⟩
    · exact .base (.lst h)
    · exact .base (.frz h)
    · exact .kList h1 h2
  | dic h _ =>
    cases e
    rcases h with h | ⟨o, h⟩
    · exact .base (.dK h)
    · exact .fDict h
  | ins _ _ _ => cases e
  | exn _ _ _ => cases e
  | exn0 _ => cases e
def KitT (T : String) : Prop := kitB "NoneType" T = some (isT T "NoneType") ∧ kitB "bool" T = some (isT T "bool") ∧ kitB "int" T = some (isT T "int") ∧ kitB "str" T = some (isT T "str") ∧ kitB "tuple" T = some (isT T "tuple") ∧ kitB "list" T = some (isT T "list") ∧ kitB "dict" T = some (isT T "dict")
theorem kit_tuple : KitT "tuple" := ⟨by decide +kernel, by decide +kernel, by decide +kernel, by decide +kernel, by decide +kernel, by decide +kernel, by decide +kernel⟩
theorem kit_str : KitT "str" := ⟨by decide +kernel, by decide +kernel, by decide +kernel, by decide +kernel, by decide +kernel, by decide +kernel, by decide +kernel⟩
theorem kit_int : KitT "int" := ⟨by decide +kernel, by decide +kernel, by decide +kernel, by decide +kernel, by decide +kernel, by decide +kernel, by decide +kernel⟩
theorem kit_bool : KitT "bool" := ⟨by decide +kernel, by decide +kernel, by decide +kernel, by decide +kernel, by decide +kernel, by decide +kernel, by decide +kernel⟩
theorem kit_list : KitT "list" := ⟨by decide +kernel, by decide +kernel, by decide +kernel, by decide +kernel, by decide +kernel, by decide +kernel, by decide +kernel⟩
theorem KitT.at {T t : String} {d : D} (h : KitT T) (e : tyD d = some t) : kitB t T = some (isT T t) := by
  obtain ⟨h1, h2, h3, h4, h5, h6, h7⟩ := h
  cases d <;> cases e <;> assumption
theorem px_isi {T : String} {x : Str} {p p2 pos : Pos} {e : Expr} {f : M Sl} (hk : KitT T) (he : PE X e (tE X.K pn E f)) (hm1 : X.mg "isinstance" = none) (hm2 : X.mg x = none) (hv : bootBuiltins x = some (.type T)) (hg1 : Gl X "isinstance" := by rfl) (hg2 : Gl X x := by rfl)
    (hn : x ≠ "__name__" := by decide) (hd : (x == ("__debug__" : Str)) = false := by decide) (hs1 : starEach [e, .Name x p2] X.env = (false, eval e X.env) :: starEach [.Name x p2] X.env := by rfl) (hs2 : starEach [.Name x p2] X.env = (false, eval (.Name x p2) X.env) :: starEach [] X.env := by rfl) (hpl : (backTo pos (starEach [.Name x p2] X.env)).any (·.1) = false := by rfl) :
    PE X (.Call (.Name "isinstance" p) [e, .Name x p2] [] pos) (tE X.K pn E (isiM T f)) :=
  (pe_callB call_isi hg1 hm1 (by decide +kernel) (pa_cons he (pa_cons (pe_bltn (v := .ty T) hg2 hm2 hv rfl hn hd) pa_nil hs2) hs1) (by decide) (by decide) hs1 hpl).imp fun σ H Q ⟨G, ρ, ok, w⟩ => ⟨G, ρ, ok, (Post.bindD ok w).mono fun v H1 ⟨G1, ρ1, d, ok1, s1, d1, p1⟩ => by
    simp only [optD] at p1
    cases et : tyD d with
    | none => rw [et] at p1; exact p1.elim
    | some t =>
      rw [et] at p1
      exact ⟨v, .ty T, .type t, .type T, isT T t, rfl, .ty T, tyx_of (d1.mono ok1.sub) et, kit_ty (hk.at et), p1.dt ok1 (.bl _)⟩⟩
end
end BT

namespace PySem
open Builtin Builtin.Str
section
variable {prog : Program} {w : World} {A : Around} {E : Value → Shared → Prop} {s : Shared}
theorem bt_meets_enumT (l : Addr) (items : Array Value) (o : Obj) :
    Meets (Builtin.«enumerate.__new__» ⟨[.type "enumerate", .ref l], []⟩) (fun _ R s => (s.heap.get? l = some o ∧ s.heap.IsTuple l items) ∧
      R (.ok (.ret (.ref (s.heap.push { cls := .type "tuple_iterator", data := .fields #[.ref l, .int 0 0] }).objs.size)))
        { s with heap := (s.heap.push { cls := .type "tuple_iterator", data := .fields #[.ref l, .int 0 0] }).push { cls := .type "enumerate", data := .fields #[.none, .bool false, .ref s.heap.objs.size, rawInt 0, .none, .none] } }) :=
  .of_wp fun prog w A R s h => by
    obtain ⟨hp, g, d, tk, os⟩ := s; obtain ⟨⟨hl, hL⟩, h⟩ := h
    have hsub := sub_enumerate
    wp_walk using AutoSeq1.wpAny_loadPart' hl
    refine wpAny_stack_any fun st => wpAny_pure ?_
    split
    · rename_i c _ _ _ _ _
      cases (c == Value.type "enumerate")
      · wp_walk using AutoSeq1.wpAny_loadPart' hl, wpAny_pyIter_tuple hL
        exact ⟨_, rfl, h⟩
      · wp_walk using AutoSeq1.wpAny_loadPart' hl, wpAny_pyIter_tuple hL
        exact ⟨_, rfl, h⟩
    · wp_walk using AutoSeq1.wpAny_loadPart' hl, wpAny_pyIter_tuple hL
      exact ⟨_, rfl, h⟩
theorem bt_call_enumT {l : Addr} {items : Array Value} {Q : Value → Shared → Prop} (hL : s.heap.IsTuple l items)
    (h : ∀ h', IsEnum h' (s.heap.objs.size + 1) s.heap.objs.size 0 .none → h'.IsTupleIter s.heap.objs.size l 0 → h'.objs.size = s.heap.objs.size + 2 →
      (∀ b o, s.heap.get? b = some o → h'.get? b = some o) → Q (.ref (s.heap.objs.size + 1)) { s with heap := h' }) :
    wpAny (model prog w) A (call (.type "enumerate") [.ref l]) Q E s := by
  obtain ⟨o, hl, _⟩ := id hL
  refine callType_new F.called_enumerate (by decide) (F.typeCall_enumerate_1 _) (F.newCall_enumerate_1 _) (fun obj => F.args_object_init_2 obj _) F.entry_enumerate_new
    (bt_meets_enumT l items o) ⟨⟨hl, hL⟩, ?_⟩
  have hz : (s.heap.push { cls := .type "tuple_iterator", data := .fields #[.ref l, .int 0 0] }).objs.size = s.heap.objs.size + 1 := Heap.size_push ..
  show _ ∧ _
  rw [hz]
  have he : IsEnum ((s.heap.push { cls := .type "tuple_iterator", data := .fields #[.ref l, .int 0 0] }).push
      { cls := .type "enumerate", data := .fields #[.none, .bool false, .ref s.heap.objs.size, rawInt 0, .none, .none] }) (s.heap.objs.size + 1) s.heap.objs.size 0 .none := by
    have := Heap.get?_push_size (s.heap.push { cls := .type "tuple_iterator", data := .fields #[.ref l, .int 0 0] })
      (o := { cls := .type "enumerate", data := .fields #[.none, .bool false, .ref s.heap.objs.size, rawInt 0, .none, .none] }) rfl
    rw [hz] at this; exact this
  refine ⟨⟨_, he, rfl⟩, h _ he ⟨_, Heap.get?_push_of_some _ (Heap.get?_push_size _ rfl), rfl, rfl⟩ (by rw [Heap.size_push, hz]) fun b o x => Heap.get?_push_of_some _ (Heap.get?_push_of_some _ x)⟩
end
end PySem

namespace L2
open PySem PySem.Spec PyProof.Rows
/-- the tuple at a, each item in a new pair -/
def IteT (K : PySem.W.Frag) (a : Addr) : It :=
  ⟨fun i H => ∃ (xs : List V) (x : V), SqT K H a xs ∧ xs[i]? = some x, fun i H v H' => ∃ T x, v = .ref T ∧ H T = none ∧ H' = upd H T (.tup [.int (i : Nat), x]) ∧ ∀ xs, SqT K H a xs → xs[i]? = some x, fun i H => ∃ xs : List V, SqT K H a xs ∧ xs.length ≤ i⟩
theorem turn_enumT {P : Program} {w : World} {K : PySem.W.Frag} {elts : List Expr} {kk : Nat} {tpos : Pos} (a e it : Addr) (hai : a ≠ it) (hae : a ≠ e) :
    Turn P w K (.Tuple elts kk tpos) (IteT K a) [e, it] e (fun i h => (∃ old, IsEnum h e it ((i : Nat) : Int) old) ∧ h.IsTupleIter it a i ∧ e ≠ it) where
  mem := by simp
  obj := fun i h st b hb => by
    obtain ⟨⟨old, he⟩, ⟨o, ho, hc, hd⟩, _⟩ := st
    have e' : b = e ∨ b = it := by simpa using hb
    rcases e' with z | z
    · rw [z]; exact ⟨_, he, fun v q => nomatch q⟩
    · rw [z]; exact ⟨o, ho, fun v q => by rw [hd] at q; cases q⟩
  keep := fun i h h' st k => let ⟨⟨old, he⟩, hi, hne⟩ := st; ⟨⟨old, k e (by simp) _ he⟩, hi.at fun o q => k it (by simp) o q, hne⟩
  item := by
    intro X hP hw hK hc i pins s σ H E I hf st hg
    subst hP hw hK
    obtain ⟨⟨old, he⟩, hit, hne⟩ := st
    obtain ⟨xs, x, hq, hx⟩ := hg
    obtain ⟨its, rv, p, hz⟩ := I.tuple hq
    obtain ⟨u, hu, ru⟩ := rv.get hx
    have hel : e < s.heap.objs.size := Heap.lt_size he
    have hil : it < s.heap.objs.size := by obtain ⟨_, q, _⟩ := hit; exact Heap.lt_size q
    have hlt : i < its.toArray.size := by
      have := (List.getElem?_eq_some_iff.mp hu).1
      simpa using this
    refine wpAny_pyNext_enum_itemD (Draws.tuple (A := X.A.in1) (by first | exact I.ok.hd hc) it a hai its.toArray) he ⟨hit, p⟩ hlt hne (by simp [hae.symm, hne]) fun x' h' tk hP' ho hst' hT hsz hk => ?_
    obtain ⟨hit', ht'⟩ := hst'
    have ex : x' = u := by
      have h1 : its.toArray[i]? = some x' := hP'
      rw [show its.toArray[i]? = some u by simpa using hu] at h1
      exact (Option.some.inj h1).symm
    subst ex
    refine ⟨_, rfl, wpAny_letOwnedTupleGo_enum (s := { s with heap := h', toks := tk + 1 }) ho fun h'' he' sb => ?_⟩
    have hT2 : h''.get? s.heap.objs.size = some { cls := .type "tuple", data := .seq #[.int i tk, x'] } := (sb.2 _ (Nat.ne_of_gt hel)).trans hT
    have new : ObjOk X.prog X.w (upd H s.heap.objs.size (.tup [.int (i : Nat), x])) h'' s.heap.objs.size (.tup [.int (i : Nat), x]) :=
      ⟨by show 2 ≤ sizeLine; decide, [.int i tk, x'], .cons ⟨_, rfl⟩ (.cons ru .nil), ⟨_, hT2, rfl, _, rfl⟩⟩
    have I1 : Inv X pins σ (upd H s.heap.objs.size (.tup [.int (i : Nat), x])) { s with heap := h'', toks := tk + 1 } :=
      I.turnedNew (ch := [e, it]) (fun b ob hb q => (sb.2 b (fun z => hb (by simp [z]))).trans (hk b ob (fun z => hb (by simp [z])) (fun z => hb (by simp [z])) q)) hf (Nat.le_refl _) new
    refine ⟨.ref s.heap.objs.size, _, I1, rfl, ⟨_, x, rfl, I.hok.fresh (Nat.le_refl _), rfl, fun ys hy => by rw [I.tuple_inj hy hq]; exact hx⟩, ⟨⟨x', ?_⟩, hit'.at fun o q => (sb.2 it (Ne.symm hne)).trans q, hne⟩, fun b hb => ?_⟩
    · have e1 : ((i + 1 : Nat) : Int) = (i : Int) + 1 := by omega
      rw [e1]; exact he'
    · have hb' : b < s.heap.objs.size := by
        have e' : b = e ∨ b = it := by simpa using hb
        rcases e' with z | z
        · rw [z]; exact hel
        · rw [z]; exact hil
      rw [upd_ne (Nat.ne_of_lt hb')]
      exact (hf b hb).1
  done := by
    intro X hP hw hK hc i pins s σ H E I hf st hg
    subst hP hw hK
    obtain ⟨⟨old, he⟩, hit, hne⟩ := st
    obtain ⟨xs, hq, hx⟩ := hg
    obtain ⟨its, rv, p, hz⟩ := I.tuple hq
    obtain ⟨f0, f1, f2, f3, f4, f5⟩ := hf it (by simp)
    have hl := rv.length
    unfold pyNext
    have hT : s.TypeIs (.ref e) "enumerate" := ⟨_, he, rfl⟩
    refine wpAny_bind (wpAny_attempt (wpAny_callSpecial?_slot (name := Str.ofString "__next__") hT F.slot_enumerate_next
      (wpAny_call_entry F.slot_enumerate_next hT F.entry_enumerate_next ?_ (F.args_enumerate_next_1 _))))
    show wpAny _ _ (field (.ref e) 2 >>= _) _ _ _
    refine wpAny_bind (wpAny_field he rfl (x := .ref it) rfl ?_)
    refine wpAny_bind (PySem.wpAny_nextOf_tuple_end (I.ok.hd hc) hit p (by simp; omega) fun h' x he' hx' => ?_)
    obtain ⟨o, ho, hc'⟩ := hx'
    refine wpAny_bind (wpAny_isInstance (T := "StopIteration") (b := true) ⟨o, ho, hc'⟩ PySem.isSubtype_stop ?_)
    exact wpAny_pure ⟨rfl, I.turned (t' := s.toks) (fun b o hb q => he' b o hb q) f0 f1 f3 f4 f5⟩
  self := fun A i s Q E st h => let ⟨⟨_, he⟩, _⟩ := st; wpAny_pyIter_enum he h
def iEnums (K : PySem.W.Frag) (ta : TA) : TI := fun σ H R => ta σ H fun vs H1 => ∃ a xs, vs = [.ref a] ∧ ((SqL K H1 a xs ∧ R (Ite K a) H1) ∨ (SqT K H1 a xs ∧ R (IteT K a) H1))
theorem pi_enums {X : Cx} {e : Expr} {ta : TA} {p pos tpos : Pos} {elts : List Expr} {kk : Nat} (hg : Gl X "enumerate") (hm : X.mg "enumerate" = none) (ha : PA X [e] ta) (hs : starEach [e] X.env = [(false, eval e X.env)] := by rfl) :
    PI X (.Tuple elts kk tpos) (.Call (.Name "enumerate" p) [e] [] pos) (iEnums X.K ta) := by
  refine ⟨fun pins s σ H R I h => ?_⟩
  refine Call_ (ld_blt I hg hm boot_enumerate (PyProof.Rows.callWith_type1 (thn (ha.run pos pins s σ H _ I h) fun us s1 ⟨vs, H1, I1, r1, q1⟩ => ?_) hs rfl))
  obtain ⟨a, xs, ex, q1⟩ := q1
  subst ex
  cases r1 with
  | cons r rr =>
    cases rr
    cases r
    have fp : ∀ b ∈ [s1.heap.objs.size + 1, s1.heap.objs.size], FpOk X pins H1 b := fun b hb => by
      have e' : b = s1.heap.objs.size + 1 ∨ b = s1.heap.objs.size := by simpa using hb
      have hle : s1.heap.objs.size ≤ b := by
        rcases e' with z | z
        · rw [z]; exact Nat.le_add_right _ _
        · rw [z]; exact Nat.le_refl _
      exact I1.fpOk hle (I1.hok.fresh hle)
    rcases q1 with ⟨hq, q⟩ | ⟨hq, q⟩
    · obtain ⟨its, rv, p', hz⟩ := I1.list hq
      refine call_enumerate_list p'.isList fun h' he hit hsz hk => wpAny_pyIter_enum he ?_
      have I2 : Inv X pins σ H1 { s1 with heap := h' } := I1.kept (t' := s1.toks) hk
      exact ⟨s1.heap.objs.size + 1, [s1.heap.objs.size + 1, s1.heap.objs.size], _, _, H1, rfl, I2, turn_enum a (s1.heap.objs.size + 1) s1.heap.objs.size, ⟨⟨.none, he⟩, hit, Nat.succ_ne_self _⟩, fp, q⟩
    · obtain ⟨its, rv, p', hz⟩ := I1.tuple hq
      obtain ⟨o, ho, _⟩ := id p'
      have hlt : a < s1.heap.objs.size := Heap.lt_size ho
      refine bt_call_enumT (show s1.heap.IsTuple a its.toArray from p') fun h' he hit hsz hk => wpAny_pyIter_enum he ?_
      have I2 : Inv X pins σ H1 { s1 with heap := h' } := I1.kept (t' := s1.toks) hk
      exact ⟨s1.heap.objs.size + 1, [s1.heap.objs.size + 1, s1.heap.objs.size], _, _, H1, rfl, I2, turn_enumT a (s1.heap.objs.size + 1) s1.heap.objs.size (Nat.ne_of_lt hlt) (Nat.ne_of_lt (Nat.lt_succ_of_lt hlt)), ⟨⟨.none, he⟩, hit, Nat.succ_ne_self _⟩, fp, q⟩
end L2

namespace BT
open PySem L2
open PyProof.Rows (envOfC)

def enumL (ds : List D) : List D := ds.mapIdx fun i d => .tup [.int (i : Nat), d]
@[simp] def enumM (fs : M (List D)) : M (List D) := fun ρ => (bindM fs fun ds => match ds with
  | [.lst ds] => fun ρ => some (.val (enumL ds) ρ)
  | [.tup ds] => fun ρ => some (.val (enumL ds) ρ)
  | _ => fun _ => none) ρ
section
variable {K : PySem.W.Frag} {G H : Hp} {a : Addr} {xs : List V} {ds : List D}
theorem enumL_get {i : Nat} {d : D} (h : (enumL ds)[i]? = some d) : ∃ e, ds[i]? = some e ∧ d = .tup [.int (i : Nat), e] := by
  unfold enumL at h
  rw [List.getElem?_mapIdx] at h
  cases q : ds[i]? with
  | none => rw [q] at h; cases h
  | some e => rw [q] at h; cases h; exact ⟨e, rfl, rfl⟩
theorem yields_enum (h : SqL K G a xs) (hd : DtL K G xs ds) : Yields K (Ite K a) G (enumL ds) := by
  have hl := hd.length
  have hl2 : (enumL ds).length = ds.length := by simp [enumL]
  refine ⟨fun H k => ⟨xs, k.seq h, by omega⟩, fun i d H k e => ?_, fun i d H x H' k e q => ?_⟩
  · obtain ⟨e', e1, _⟩ := enumL_get e
    obtain ⟨x, e1, _⟩ := hd.getD e1
    exact ⟨xs, x, k.seq h, e1⟩
  · obtain ⟨e', e1, rfl⟩ := enumL_get e
    obtain ⟨x', e1, e2⟩ := hd.getD e1
    obtain ⟨T, y, rfl, hT, rfl, q⟩ := q
    have := q xs (k.seq h)
    rw [e1] at this; cases this
    exact .inr ⟨T, _, _, hT, rfl, rfl, rfl, .cons (.int _) (.cons e2 .nil)⟩
theorem yields_enumT (h : SqT K G a xs) (hd : DtL K G xs ds) : Yields K (IteT K a) G (enumL ds) := by
  have hl := hd.length
  have hl2 : (enumL ds).length = ds.length := by simp [enumL]
  refine ⟨fun H k => ⟨xs, Same.sqT k h, by omega⟩, fun i d H k e => ?_, fun i d H x H' k e q => ?_⟩
  · obtain ⟨e', e1, _⟩ := enumL_get e
    obtain ⟨x, e1, _⟩ := hd.getD e1
    exact ⟨xs, x, Same.sqT k h, e1⟩
  · obtain ⟨e', e1, rfl⟩ := enumL_get e
    obtain ⟨x', e1, e2⟩ := hd.getD e1
    obtain ⟨T, y, rfl, hT, rfl, q⟩ := q
    have := q xs (Same.sqT k h)
    rw [e1] at this; cases this
    exact .inr ⟨T, _, _, hT, rfl, rfl, rfl, .cons (.int _) (.cons e2 .nil)⟩
end
section
variable {X : Cx} {pn : List (Nat × Addr)} {E : XK} {pos : Pos} {tg : Expr}
theorem pix_enum {e : Expr} {fs : M (List D)} {p tpos : Pos} {elts : List Expr} {kk : Nat} (hm : X.mg "enumerate" = none) (ha : PA X [e] (tA X.K pn E fs)) (hg : Gl X "enumerate" := by rfl) (hs : starEach [e] X.env = [(false, eval e X.env)] := by rfl) :
    PI X (.Tuple elts kk tpos) (.Call (.Name "enumerate" p) [e] [] pos) (tI X.K pn E (enumM fs)) :=
  PI.imp (pi_enums hg hm ha hs) fun σ H R ⟨G, ρ, ok, h⟩ => ⟨G, ρ, ok, (PostI.bindA ok h).mono fun vs H1 ⟨G1, ρ1, ds, ok1, s1, d1, p1⟩ => by
    split at p1
    · obtain ⟨v, rfl, hv⟩ := d1.one
      cases hv with
      | lst h9 hs => exact ⟨_, _, rfl, .inl ⟨ok1.sub.seq h9, p1 _ G1 H1 ok1 Ext.refl (yields_enum h9 hs)⟩⟩
    · obtain ⟨v, rfl, hv⟩ := d1.one
      cases hv with
      | tup h9 hs => exact ⟨_, _, rfl, .inr ⟨Same.sqT ok1.sub h9, p1 _ G1 H1 ok1 Ext.refl (yields_enumT h9 hs)⟩⟩
    · exact p1.elim⟩

/-! ### -e; a < b < c; a name of the module -/
@[simp] def negM (f : M Sl) : M Sl := fun ρ => (bindD f fun d => match d with | .int i => retD (.int (-i)) | _ => fun _ => none) ρ
theorem px_neg {a : Expr} {f : M Sl} (ha : PE X a (tE X.K pn E f)) : PE X (.UnaryOp .USub a pos) (tE X.K pn E (negM f)) :=
  (pe_un un_neg ha).imp fun σ H Q ⟨G, ρ, ok, h⟩ => ⟨G, ρ, ok, (Post.bindD ok h).mono fun v H1 ⟨G1, ρ1, d, ok1, s1, d1, p1⟩ => by
    cases d1 with
    | int i => exact ⟨i, rfl, p1.dt ok1 (.int _)⟩
    | _ => exact p1.elim⟩
/-- what a pure comparison gives -/
@[simp] def chain3 (f g h : M Sl) (k k' : D → D → Option Bool) : M Sl := fun ρ => (bindD f fun d => bindD g fun e => match k d e with
  | some true => bindD h fun e' => (match k' e e' with | some b => retD (.bl b) | none => fun _ => none)
  | some false => retD (.bl false)
  | none => fun _ => none) ρ
@[simp] def iiB (p : Int → Int → Bool) : D → D → Option Bool := fun d e => match d, e with | .int i, .int j => some (p i j) | _, _ => none
theorem chain_of {p p' : Int → Int → Bool} {f g h : M Sl} (σ : St) (H : Hp) (Q : VK) (w : tE X.K pn E (chain3 f g h (iiB p) (iiB p')) σ H Q) : tChain (rI0 fun i j => .bl (p i j)) (rI0 fun i j => .bl (p' i j)) (tE X.K pn E f) (tE X.K pn E g) (tE X.K pn E h) σ H Q := by
  obtain ⟨G, ρ, ok, w⟩ := w
  refine ⟨G, ρ, ok, (Post.bindD ok w).mono fun v H1 ⟨G1, ρ1, d, ok1, s1, d1, p1⟩ => ⟨G1, ρ1, ok1, (Post.bindD ok1 p1).mono fun u H2 ⟨G2, ρ2, e, ok2, s2, d2, p2⟩ => ?_⟩⟩
  cases d1 with
  | int i =>
    cases d2 with
    | int j =>
      refine ⟨i, j, rfl, rfl, p i j, rfl, ?_⟩
      simp only [iiB] at p2
      cases c : p i j with
      | false =>
        rw [c] at p2
        rw [if_neg Bool.false_ne_true]
        exact p2.dt ok2 (.bl _)
      | true =>
        rw [c] at p2
        rw [if_pos rfl]
        refine ⟨G2, ρ2, ok2, (Post.bindD ok2 p2).mono fun w H3 ⟨G3, ρ3, e', ok3, s3, d3, p3⟩ => ?_⟩
        cases d3 with
        | int k => exact ⟨j, k, rfl, rfl, p3.dt ok3 (.bl _)⟩
        | _ => exact p3.elim
    | _ => exact p2.elim
  | _ => cases e <;> exact p2.elim
theorem px_chain {op op' : CmpOp} {a b c : Expr} {p p' : Int → Int → Bool} {f g h : M Sl} (ho : OpR X (compareOp op) (rI0 fun i j => .bl (p i j))) (ho' : OpR X (compareOp op') (rI0 fun i j => .bl (p' i j)))
    (ha : PE X a (tE X.K pn E f)) (hb : PE X b (tE X.K pn E g)) (hc : PE X c (tE X.K pn E h)) (hm : lastMarks [op, op'] [b, c] = false := by with_unfolding_all rfl) :
    PE X (.Compare a [op, op'] [b, c] pos) (tE X.K pn E (chain3 f g h (iiB p) (iiB p'))) := (pe_chain ho ho' ha hb hc hm).imp chain_of
theorem ptx_chain {op op' : CmpOp} {a b c : Expr} {p p' : Int → Int → Bool} {f g h : M Sl} (ho : OpR X (compareOp op) (rI0 fun i j => .bl (p i j))) (ho' : OpR X (compareOp op') (rI0 fun i j => .bl (p' i j)))
    (ha : PE X a (tE X.K pn E f)) (hb : PE X b (tE X.K pn E g)) (hc : PE X c (tE X.K pn E h)) (hm : lastMarks [op, op'] [b, c] = false := by with_unfolding_all rfl) :
    PT X (.Compare a [op, op'] [b, c] pos) (tT X.K pn E (toB (chain3 f g h (iiB p) (iiB p')))) := (pt_chain ho ho' ha hb hc hm).imp (px_test chain_of)
structure GC (K : PySem.W.Frag) (mg : Str → Option Value) (x : Str) (d : D) : Prop where
  ex : ∃ v u, mg x = some u ∧ RelV v u ∧ ∀ H, Dt K H v d
theorem px_glob {x : Str} {d : D} (h : GC X.K X.mg x d) (hg : Gl X x := by rfl) (hd : (x == ("__debug__" : Str)) = false := by decide) : PE X (.Name x pos) (tE X.K pn E (mC d)) := by
  obtain ⟨v, u, h1, h2, h3⟩ := h.ex
  exact (pe_glob hg h1 h2 hd).imp fun σ H Q ⟨G, ρ, ok, p⟩ => p.dt ok (h3 G)
theorem GC.int {K : PySem.W.Frag} {mg : Str → Option Value} {x : Str} {i : Int} {t : Tok} (h : mg x = some (.int i t)) : GC K mg x (.int i) := ⟨.int i, _, h, ⟨t, rfl⟩, fun _ => .int i⟩
theorem GC.str {K : PySem.W.Frag} {mg : Str → Option Value} {x : Str} {i : Str} {t : Tok} (h : mg x = some (.str i t)) : GC K mg x (.str i) := ⟨.str i, _, h, ⟨t, rfl⟩, fun _ => .str i⟩
def valsStr : List Value → Option (List Str)
  | [] => some []
  | .str x _ :: r => (valsStr r).map (x :: ·)
  | _ => none
theorem valsStr_ok {K : PySem.W.Frag} {H : Hp} : ∀ {us : List Value} {xs : List Str}, valsStr us = some xs → Vals (xs.map V.str) us ∧ DtL K H (xs.map V.str) (xs.map D.str)
  | [], _, h => by cases h; exact ⟨.nil, .nil⟩
  | u :: r, xs, h => by
    cases u with
    | str x t =>
      simp only [valsStr] at h
      cases q : valsStr r with
      | none => rw [q] at h; cases h
      | some ys => rw [q] at h; cases h; exact ⟨.cons ⟨t, rfl⟩ (valsStr_ok (K := K) (H := H) q).1, .cons (.str x) (valsStr_ok q).2⟩
    | _ => cases h
theorem GC.strs {K : PySem.W.Frag} {mg : Str → Option Value} {x : Str} {a : Addr} {o : Obj} {its : Array Value} {n : Nat} {xs : List Str} (h : mg x = some (.ref a)) (l : K.lookup a = some o) (c : o.cls = .type "tuple") (d : o.data = .seq its n) (z : its.size ≤ sizeLine) (q : valsStr its.toList = some xs) : GC K mg x (.tup (xs.map D.str)) :=
  ⟨.ref a, _, h, rfl, fun H => .tup (.inr ⟨o, its, n, l, c, d, z, (valsStr_ok (K := K) (H := H) q).1⟩) (valsStr_ok q).2⟩

/-! ### slices -/
def cutD {α : Type} (xs : List α) (lo hi : Option Int) : List α := (xs.drop (HT.sIx xs.length 0 lo)).take (HT.sIx xs.length xs.length hi - HT.sIx xs.length 0 lo)
theorem cutD_dt {K : PySem.W.Frag} {G : Hp} {vs : List V} {ds : List D} (h : DtL K G vs ds) (lo hi : Option Int) : DtL K G (cutV vs lo hi) (cutD ds lo hi) := by
  unfold cutV cutD
  rw [h.length]
  exact (h.drop _).take _
abbrev PM := M (Option Int)
@[simp] def noP : PM := fun ρ => some (.val none ρ)
@[simp] def someP (f : M Sl) : PM := fun ρ => (bindD f fun d => match d with | .int i => fun ρ => some (.val (some i) ρ) | _ => fun _ => none) ρ
def PostP (K : PySem.W.Frag) (pn : List (Nat × Addr)) (E : XK) (σ : St) (G0 H0 : Hp) (O0 : Addr → Prop) (r : Option (Rs (Option Int))) (Q : Option Int → Hp → Prop) : Prop := match r with
  | some (.val b ρ') => ∀ G' H', EnvOk K pn G' H' σ ρ' → Ext G0 H0 O0 G' H' (OwnAt σ ρ') → Q b H'
  | some (.exc x ρ') => ∀ d G' H', EnvOk K pn G' H' σ ρ' → Ext G0 H0 O0 G' H' (OwnAt σ ρ') → XOk K G' H' d x → E (.ref x.cls) d H'
  | none => False
def tP (K : PySem.W.Frag) (pn : List (Nat × Addr)) (E : XK) (f : PM) : TO := fun σ H Q => ∃ G ρ, EnvOk K pn G H σ ρ ∧ PostP K pn E σ G H (OwnAt σ ρ) (f ρ) Q
structure POx (X : Cx) (pn : List (Nat × Addr)) (E : XK) (e : Option Expr) (f : PM) : Prop where
  ex : ∃ t : TO, PO X e t ∧ ∀ σ H Q, tP X.K pn E f σ H Q → t σ H Q
theorem pox_none : POx X pn E none noP := ⟨tNoPart, po_none, fun σ H Q ⟨G, ρ, ok, p⟩ => p G H ok Ext.refl⟩
theorem PostP.at {K : PySem.W.Frag} {σ : St} {G H : Hp} {O : Addr → Prop} {G0 H0 : Hp} {O0 : Addr → Prop} {r : Option (Rs (Option Int))} {Q : Option Int → Hp → Prop} (h : PostP K pn E σ G0 H0 O0 r Q) (x : Ext G0 H0 O0 G H O) : PostP K pn E σ G H O r Q := by
  unfold PostP at h ⊢
  split at h
  · exact fun G' H' a b => h G' H' a (x.trans b)
  · exact fun d G' H' a b => h d G' H' a (x.trans b)
  · exact h
theorem pox_some {e : Expr} {f : M Sl} (h : PE X e (tE X.K pn E f)) : POx X pn E (some e) (someP f) := by
  refine ⟨tPart (tE X.K pn E f), po_some h, fun σ H Q ⟨G, ρ, ok, p⟩ => ⟨G, ρ, ok, ?_⟩⟩
  unfold someP bindD bindM at p
  cases e : f ρ with
  | none => rw [e] at p; exact p
  | some r =>
    rw [e] at p
    cases r with
    | exc x ρ' => exact p
    | val s ρ' =>
      intro v G' H' ok' x'
      cases es : s.frz with
      | none => simp only [es] at p; exact p.elim
      | some d =>
        simp only [es] at p
        obtain ⟨G2, ok2, dt2, x2⟩ := ok'.freeze ok.pinLt es
        cases dt2 with
        | int i => exact ⟨i, rfl, p G2 H' ok2 (x'.trans x2)⟩
        | _ => exact p.elim
@[simp] def sliceM (f : M Sl) (lo hi : PM) : M Sl := fun ρ => (bindD f fun d => bindM lo fun l => bindM hi fun h => match d with
  | .lst ds => fun ρ => some (.val (.ol (cutD ds l h)) ρ)
  | .tup ds => fun ρ => some (.val (.dt (.tup (cutD ds l h))) ρ)
  | _ => fun _ => none) ρ
theorem Post.bindP {K : PySem.W.Frag} {σ : St} {G H : Hp} {ρ : Rho} {f : PM} {k : Option Int → M Sl} {Q : VK} (ok : EnvOk K pn G H σ ρ) (h : Post K pn E σ G H (OwnAt σ ρ) (bindM f k ρ) Q) :
    PostP K pn E σ G H (OwnAt σ ρ) (f ρ) (fun b H1 => ∃ G1 ρ1, EnvOk K pn G1 H1 σ ρ1 ∧ Same G G1 ∧ Post K pn E σ G1 H1 (OwnAt σ ρ1) (k b ρ1) Q) := by
  unfold BT.bindM at h
  cases e : f ρ with
  | none => rw [e] at h; exact h
  | some r =>
    rw [e] at h
    cases r with
    | exc x ρ' => exact h
    | val s ρ' => exact fun G' H' ok' x' => ⟨G', ρ', ok', x'.grow, h.at x'⟩
theorem PostP.mono {K : PySem.W.Frag} {σ : St} {G0 H0 : Hp} {O0 : Addr → Prop} {r : Option (Rs (Option Int))} {Q Q' : Option Int → Hp → Prop} (h : PostP K pn E σ G0 H0 O0 r Q) (q : ∀ v H, Q v H → Q' v H) : PostP K pn E σ G0 H0 O0 r Q' := by
  unfold PostP at h ⊢
  split at h
  · exact fun G' H' a b => q _ _ (h G' H' a b)
  · exact h
  · exact h
theorem cut_whole {α : Type} {n : Nat} {ds : List α} {l h : Option Int} (hn : n = ds.length) (z : HT.sIx n 0 l = 0 ∧ HT.sIx n n h = n) : cutD ds l h = ds := by
  subst hn
  unfold cutD
  rw [z.1, z.2, List.drop_zero, Nat.sub_zero, List.take_length]
theorem px_slice {a : Expr} {lo hi : Option Expr} {f : M Sl} {l h : PM} {p2 : Pos} (ha : PE X a (tE X.K pn E f)) (hl : POx X pn E lo l) (hh : POx X pn E hi h) : PE X (.Subscript a (.Slice lo hi none p2) pos) (tE X.K pn E (sliceM f l h)) := by
  obtain ⟨tl, hl, il⟩ := hl.ex
  obtain ⟨th, hh, ih⟩ := hh.ex
  refine (pe_slice ((sl_list (X := X)).or (sl_tupA (X := X))) ha hl hh).imp fun σ H Q ⟨G, ρ, ok, w⟩ => ⟨G, ρ, ok, (Post.bindD ok w).mono fun v H1 ⟨G1, ρ1, d, ok1, s1, d1, p1⟩ => ?_⟩
  refine il _ _ _ ⟨G1, ρ1, ok1, (Post.bindP ok1 p1).mono fun l' H2 ⟨G2, ρ2, ok2, s2, p2⟩ => ?_⟩
  refine ih _ _ _ ⟨G2, ρ2, ok2, (Post.bindP ok2 p2).mono fun h' H3 ⟨G3, ρ3, ok3, s3, p3⟩ => ?_⟩
  have d3 := (d1.mono s2).mono s3
  cases d3 with
  | lst h9 hs => exact .inl ⟨_, _, rfl, ok3.sub.seq h9, fun q hq => p3.lst ok3 (cutD_dt hs l' h') hq⟩
  | tup h9 hs =>
    refine .inr ⟨_, _, rfl, Same.sqT ok3.sub h9, fun z => ?_, fun z q hq => p3.tup ok3 (cutD_dt hs l' h') hq⟩
    have e := cutD_dt hs l' h'
    have e2 : cutD _ l' h' = _ := cut_whole hs.length z
    simp only at p3
    rw [e2] at p3
    exact p3.dt ok3 (.tup h9 hs)
  | _ => exact p3.elim
end
end BT

namespace BT
open PySem L2
open PyProof.Rows (envOfC)

/-! ### contracts said shortly -/
theorem SpF.imp {K : PySem.W.Frag} {F F' : Fn} (h : ∀ args r, F' args = some r → F args = some r) {vs : List V} {H : Hp} {Q : VK} {E : XK} (s : SpF K F' vs H Q E) : SpF K F vs H Q E := by
  obtain ⟨G, ρ, ok, p⟩ := s
  refine ⟨G, ρ, ok, ?_⟩
  cases e : F' ρ with
  | none => rw [e] at p; exact p.elim
  | some r => rw [e] at p; rw [h ρ r e]; exact p
/-- all arguments data -/
@[simp] def dts : List Sl → Option (List D)
  | [] => some []
  | .dt d :: r => (dts r).map (d :: ·)
  | _ => none
theorem dts_eq : ∀ {as : List Sl} {ds : List D}, dts as = some ds → as = ds.map .dt
  | [], _, h => by cases h; rfl
  | .dt d :: r, _, h => by
    simp only [dts] at h
    cases q : dts r with
    | none => rw [q] at h; cases h
    | some es => rw [q] at h; cases h; rw [dts_eq q]; rfl
  | .un :: _, _, h => by cases h
  | .ol _ :: _, _, h => by cases h
@[simp] theorem dts_map (ds : List D) : dts (ds.map .dt) = some ds := by
  induction ds with
  | nil => rfl
  | cons d ds ih => simp only [List.map_cons, dts, ih, Option.map_some]
/-- a pure def -/
def pureF (f : List D → Option Sl) : Fn := fun args => match dts args with
  | some ds => (match f ds with | some s => some (.val s args) | none => none)
  | none => none
theorem pureF_of {f : List D → Option Sl} {F : Fn} (h : ∀ ds s, f ds = some s → F (ds.map .dt) = some (.val s (ds.map .dt))) : ∀ args r, pureF f args = some r → F args = some r := fun args r e => by
  unfold pureF at e
  cases q : dts args with
  | none => rw [q] at e; cases e
  | some ds =>
    rw [q] at e
    simp only at e
    cases q2 : f ds with
    | none => rw [q2] at e; cases e
    | some s => rw [q2] at e; cases e; rw [dts_eq q]; exact h ds s q2
/-- the first argument one's own list, the others data; it hands back the list as it then is -/
def ownF (f : List D → List D → Option (Sl × List D)) : Fn := fun args => match args with
  | .ol xs :: r => (match dts r with
    | some ds => (match f xs ds with | some (s, ys) => some (.val s (.ol ys :: r)) | none => none)
    | none => none)
  | _ => none
theorem ownF_of {f : List D → List D → Option (Sl × List D)} {F : Fn} (h : ∀ xs ds s ys, f xs ds = some (s, ys) → F (.ol xs :: ds.map .dt) = some (.val s (.ol ys :: ds.map .dt))) : ∀ args r, ownF f args = some r → F args = some r := fun args r e => by
  unfold ownF at e
  split at e
  · rename_i xs rr
    cases q : dts rr with
    | none => rw [q] at e; cases e
    | some ds =>
      rw [q] at e
      simp only at e
      cases q2 : f xs ds with
      | none => rw [q2] at e; cases e
      | some sy => obtain ⟨s, ys⟩ := sy; rw [q2] at e; cases e; rw [dts_eq q]; exact h xs ds s ys q2
  · cases e
@[simp] theorem callF_pure (f : List D → Option Sl) (fs : M (List D)) : callF (pureF f) fs = bindM fs fun ds ρ => match f ds with | some s => some (.val s ρ) | none => none := by
  unfold callF
  congr 1
  funext ds ρ
  unfold pureF
  rw [dts_map]
  cases h : f ds <;> simp only [h]

/-! ### a call whose first argument is one's own list in slot j -/
@[simp] def callO (F : Fn) (j : Nat) (fs : M (List D)) : M Sl := fun ρ => match ρ[j]? with
  | some (.ol _) => bindM fs (fun ds ρ => match ρ[j]? with
    | some (.ol xs) => (match F (.ol xs :: ds.map .dt) with
      | some (.val s (.ol ys :: _)) => some (.val s (ρ.set j (.ol ys)))
      | _ => none)
    | _ => none) ρ
  | _ => none
section
variable {K : PySem.W.Frag} {pn : List (Nat × Addr)} {G H : Hp} {σ : St} {ρ : Rho}
theorem spO_of {E : XK} {F : Fn} {vs : List V} {ds : List D} {Q : VK} {j : Nat} {p : Addr} {xs : List D} (ok : EnvOk K pn G H σ ρ) (h : DtL K G vs ds) (hj : ρ[j]? = some (.ol xs)) (hp : σ[j]? = some (some (.ref p)))
    (pp : Post K pn E σ G H (OwnAt σ ρ) (match F (.ol xs :: ds.map .dt) with | some (.val s (.ol ys :: _)) => some (.val s (ρ.set j (.ol ys))) | _ => none) Q) : SpF K F (.ref p :: vs) H Q E := by
  have hl := h.length
  obtain ⟨q, ws, a, b, c, d⟩ := ok.ol j xs hj
  rw [hp] at a; cases a
  have okA : EnvOk K [] G H ((V.ref p :: vs).map some) (.ol xs :: ds.map .dt) := by
    have base := EnvOk.args (K := K) ok.sub h
    refine ⟨ok.sub, by simp [hl], fun i e he => ?_, fun i es he => ?_, fun i k es fs r h1 h2 h3 h4 => ?_, fun q hq => by simp at hq⟩
    · cases i with
      | zero => simp at he
      | succ i => exact base.dt i e (by simpa using he)
    · cases i with
      | zero => simp at he; subst he; exact ⟨p, ws, rfl, b, c, d⟩
      | succ i =>
        obtain ⟨p', ws', h1, h2, h3, h4⟩ := base.ol i es (by simpa using he)
        exact ⟨p', ws', by simpa using h1, h2, h3, h4⟩
    · cases i with
      | zero =>
        cases k with
        | zero => rfl
        | succ k => exact (noOwn_dts (vs := vs.map some) (ds := ds) (a := r) ⟨k, fs, by simpa using h2, by simpa using h4⟩).elim
      | succ i => exact (noOwn_dts (vs := vs.map some) (ds := ds) (a := r) ⟨i, es, by simpa using h1, by simpa using h3⟩).elim
  have ownA : ∀ {r : Addr}, OwnAt ((V.ref p :: vs).map some) (.ol xs :: ds.map .dt) r → r = p := fun {r} ⟨i, es, h1, h2⟩ => by
    cases i with
    | zero => simp at h2; exact h2.symm
    | succ i => exact (noOwn_dts (vs := vs.map some) (ds := ds) (a := r) ⟨i, es, by simpa using h1, by simpa using h2⟩).elim
  have ownP : OwnAt σ ρ p := ⟨j, xs, hj, hp⟩
  refine ⟨G, .ol xs :: ds.map .dt, okA, ?_⟩
  cases e : F (.ol xs :: ds.map .dt) with
  | none => rw [e] at pp; exact pp
  | some r =>
    rw [e] at pp
    cases r with
    | exc _ _ => exact pp.elim
    | val s ρ' =>
      cases ρ' with
      | nil => exact pp.elim
      | cons s0 ρr =>
        cases s0 with
        | un => exact pp.elim
        | dt _ => exact pp.elim
        | ol ys =>
          simp only at pp
          intro v G' H' ok' x'
          -- the caller's state behind the call
          have hpos : ((V.ref p :: vs).map some ++ [some v])[0]? = some (some (V.ref p)) := rfl
          obtain ⟨p', ws', h1, h2, h3, h4⟩ := ok'.ol 0 ys rfl
          rw [hpos] at h1; cases h1
          have k1 : ∀ a, G' a ≠ none → G a ≠ none ∨ H a = none ∨ a = p := fun a q => (x'.fresh a q).elim .inl fun h => h.elim (fun h => .inr (.inl h)) fun h => .inr (.inr (ownA h))
          have k2 : ∀ a o, H a = some o → a ≠ p → H' a = some o := fun a o q n => x'.keep a o q fun z => n (ownA z)
          have k3 : ∀ a, OwnAt ((V.ref p :: vs).map some ++ [some v]) (.ol ys :: ρr ++ [s]) a → a = p ∨ H a = none := fun a q => (x'.own a q).imp ownA id
          have hlt := lt_of_get hj
          have own : ∀ {k : Nat} {fs : List D}, (ρ.set j (.ol ys))[k]? = some (.ol fs) → ∃ gs, ρ[k]? = some (.ol gs) ∧ (k ≠ j → gs = fs) := fun {k fs} h => by
            by_cases z : j = k
            · subst z; exact ⟨xs, hj, fun q => absurd rfl q⟩
            · rw [List.getElem?_set_ne z] at h; exact ⟨fs, h, fun _ => rfl⟩
          have okC : EnvOk K pn G' H' σ (ρ.set j (.ol ys)) := by
            refine ⟨ok'.sub, by rw [List.length_set]; exact ok.len, fun k d h => ?_, fun k fs h => ?_, fun k l fs gs r h1 h2 h3 h4 => ?_, ok.pins⟩
            · by_cases z : j = k
              · subst z; rw [List.getElem?_set_self hlt] at h; cases h
              · rw [List.getElem?_set_ne z] at h
                obtain ⟨v, a, b⟩ := ok.dt k d h; exact ⟨v, a, b.mono x'.grow⟩
            · by_cases z : j = k
              · subst z; rw [List.getElem?_set_self hlt] at h; cases h
                exact ⟨p, ws', hp, h2, h3, h4⟩
              · rw [List.getElem?_set_ne z] at h
                obtain ⟨q, us, e1, e2, e3, e4⟩ := ok.ol k fs h
                have n : q ≠ p := fun y => by subst y; exact z (ok.inj j k xs fs q hj h hp e1)
                refine ⟨q, us, e1, k2 _ _ e2 n, ?_, e4.mono x'.grow⟩
                cases eg : G' q with
                | none => rfl
                | some o =>
                  rcases k1 q (by rw [eg]; simp) with h | h | h
                  · exact absurd e3 h
                  · rw [e2] at h; cases h
                  · exact absurd h n
            · obtain ⟨fs', h1', _⟩ := own h1
              obtain ⟨gs', h2', _⟩ := own h2
              exact ok.inj k l fs' gs' r h1' h2' h3 h4
          have ownC : ∀ a, OwnAt σ (ρ.set j (.ol ys)) a → OwnAt σ ρ a := fun a ⟨k, fs, h1, h2⟩ => by
            obtain ⟨gs, h1', _⟩ := own h1
            exact ⟨k, gs, h1', h2⟩
          have hl2 : ((V.ref p :: vs).map some).length = (Sl.ol ys :: ρr).length := by have := ok'.len; simpa using this
          have last : ∀ a, v = .ref a → (∃ es, s = .ol es) → H a = none := fun a e1 ⟨es, e2⟩ => by
            subst e1 e2
            have z : OwnAt ((V.ref p :: vs).map some ++ [some (V.ref a)]) (.ol ys :: ρr ++ [.ol es]) a := ⟨(Sl.ol ys :: ρr).length, es, get_append_eq, by rw [← hl2]; exact get_append_eq⟩
            rcases k3 a z with h | h
            · subst h
              have := ok'.inj 0 (Sl.ol ys :: ρr).length ys es a rfl get_append_eq rfl (by rw [← hl2]; exact get_append_eq)
              simp at this
            · exact h
          refine pp v G' H' (okC.push_any ok' hl2 fun a e1 e2 z => ?_) ⟨x'.grow, fun a q => ?_, fun a o q n => k2 a o q fun z => n (z ▸ ownP), fun a q => ?_⟩
          · have := last a e1 e2
            obtain ⟨i, es, h1, h2⟩ := ownC a z
            obtain ⟨p', us, h3, h4, _⟩ := ok.ol i es h1
            rw [h2] at h3; cases h3
            rw [h4] at this; cases this
          · rcases k1 a q with h | h | h
            · exact .inl h
            · exact .inr (.inl h)
            · exact .inr (.inr (h ▸ ownP))
          · rcases own_dn okC.len q with q | ⟨q1, q2⟩
            · exact .inl (ownC a q)
            · exact .inr (last a (Option.some.inj q1) q2)
end
section
variable {X : Cx} {pn : List (Nat × Addr)} {pos : Pos}
theorem px_callO {F : Fn} {k j : Nat} {f : Addr} {fd : FuncData} {ps : List Str} {x : Str} {p : Pos} {e : Expr} {es : List Expr} {fs : M (List D)} (G : FnOk X.prog X.w X.K X.mg X.base CX0 k f fd ps (fun vs H Q _ => SpF X.K F vs H Q E00)) (hr : Room k X.A) (hm : X.mg x = some (.ref f)) (hk : PySem.W.keepIn X.K (.ref f) = true) (hb : Binds X.K fd ps [])
    (he : PE X e (tVar j)) (ha : PA X es (tA X.K pn E00 fs)) (hg : Gl X x := by rfl) (hdb : (x == ("__debug__" : Str)) = false := by decide) (hs : starEach (e :: es) X.env = (false, eval e X.env) :: starEach es X.env := by rfl) (hpl : (backTo pos (starEach es X.env)).any (·.1) = false := by rfl) :
    PE X (.Call (.Name x p) (e :: es) [] pos) (tE X.K pn E00 (callO F j fs)) :=
  (pe_call G hr hg hm hk hb .nil pass0 (pa_cons he ha hs) hdb hs hpl).imp fun σ H Q ⟨G, ρ, ok, w⟩ => by
    unfold callO at w
    split at w
    · rename_i xs0 hj0
      obtain ⟨q, ws, a, b, c, d⟩ := ok.ol j xs0 hj0
      refine ⟨_, a, G, ρ, ok, (Post.bindA ok w).mono fun vs H1 ⟨G1, ρ1, ds, ok1, s1, d1, p1⟩ => ?_⟩
      split at p1
      · rename_i xs hj
        rw [List.append_nil]
        exact spO_of ok1 d1 hj a p1
      · exact p1.elim
    · exact w.elim
end
end BT
namespace BT
open PySem L2
theorem npL {pn : List (Nat × Addr)} {own vs : List Nat} (h : ∀ q ∈ pn, q.1 ∈ own) (d : ∀ i ∈ own, i ∉ vs) : ∀ q ∈ pn, q.1 ∉ vs := fun q hq => d _ (h q hq)
theorem room65 {k : Nat} {A : Around} (r : Room k A) : A.units + 65 < cLine := by have := r.un; omega
section
variable {X : Cx} {pn : List (Nat × Addr)} {E : XK} {pos : Pos}
theorem psx_doc {x : Str} {j : Nat} {pos pos' : Pos} : PS X (.Expr (.Constant (.str x) j pos) pos') (tS X.K pn E nxS) := ps_doc.imp fun D σ H ⟨G, ρ, ok, h⟩ => h σ G H ok Ext.refl
/-- a name handed back: one's own list goes with it -/
@[simp] def mMove (i : Nat) : M Sl := fun ρ => match ρ[i]? with
  | some (.dt d) => some (.val (.dt d) ρ)
  | some (.ol ds) => some (.val (.ol ds) (ρ.set i .un))
  | _ => none
theorem px_move {i : Nat} {e : Expr} (hp : NoPin pn i) (h : PE X e (tVar i)) : PE X e (tE X.K pn E (mMove i)) := h.imp fun σ H Q ⟨G, ρ, ok, h⟩ => by
  unfold mMove at h
  split at h
  · rename_i d hi
    obtain ⟨v, a, b⟩ := ok.dt i d hi
    exact ⟨v, a, h.dt ok b⟩
  · rename_i ds hi
    obtain ⟨p, vs, a, b, c, e⟩ := ok.ol i ds hi
    refine ⟨_, a, ?_⟩
    have hlt := lt_of_get hi
    have own : ∀ {k : Nat} {s : Sl}, (ρ.set i .un)[k]? = some s → s = .un ∨ (k ≠ i ∧ ρ[k]? = some s) := fun {k s} h => by
      by_cases z : i = k
      · subst z; rw [List.getElem?_set_self hlt] at h; exact .inl (Option.some.inj h).symm
      · rw [List.getElem?_set_ne z] at h; exact .inr ⟨fun q => z q.symm, h⟩
    have ok2 : EnvOk X.K pn G H σ (ρ.set i .un) := by
      refine ⟨ok.sub, by rw [List.length_set]; exact ok.len, fun k d h => ?_, fun k fs h => ?_, fun k l fs gs r h1 h2 h3 h4 => ?_, ok.pins⟩
      · rcases own h with h | ⟨_, h⟩
        · cases h
        · exact ok.dt k d h
      · rcases own h with h | ⟨_, h⟩
        · cases h
        · exact ok.ol k fs h
      · rcases own h1 with h | ⟨_, h1⟩
        · cases h
        · rcases own h2 with h | ⟨_, h2⟩
          · cases h
          · exact ok.inj k l fs gs r h1 h2 h3 h4
    have nn : ¬ OwnAt σ (ρ.set i .un) p := fun ⟨k, fs, h1, h2⟩ => by
      rcases own h1 with h | ⟨n, h⟩
      · cases h
      · exact n (ok.inj k i fs ds p h hi h2 a)
    refine h _ G H (ok2.push_own ⟨⟨vs, b, e⟩, c, nn⟩) ⟨Same.refl _, fun _ h => .inl h, fun _ _ h _ => h, fun q z => .inl ?_⟩
    rcases own_dn ok2.len z with ⟨k, fs, h1, h2⟩ | ⟨z, _⟩
    · rcases own h1 with h | ⟨_, h⟩
      · cases h
      · exact ⟨k, fs, h, h2⟩
    · cases z; exact ⟨i, ds, hi, a⟩
  · exact h.elim
end
end BT
namespace BT
open PySem L2
section
variable {X : Cx} {pn : List (Nat × Addr)} {E : XK} {pos : Pos}
/-- x[e], x's list one's own: it stays so -/
@[simp] def ixO (i : Nat) (g : M Sl) : M Sl := fun ρ => match ρ[i]? with
  | some (.ol _) => bindD g (fun e ρ => match ρ[i]?, e with
    | some (.ol ds), .int k => (match atI ds k with | some d => some (.val (.dt d) ρ) | none => none)
    | _, _ => none) ρ
  | _ => none
theorem px_ixO {i : Nat} {o e : Expr} {g : M Sl} (ho : PE X o (tVar i)) (he : PE X e (tE X.K pn E g)) (hs : PlainIx e) : PE X (.Subscript o e pos) (tE X.K pn E (ixO i g)) :=
  (pe_ix ix_list ho he hs).imp fun σ H Q ⟨G, ρ, ok, p⟩ => by
    unfold ixO at p
    split at p
    · rename_i ds0 hi0
      obtain ⟨q, ws, a, b, c, d⟩ := ok.ol i ds0 hi0
      refine ⟨_, a, G, ρ, ok, (Post.bindD ok p).mono fun v H1 ⟨G1, ρ1, d1, ok1, s1, h1, p1⟩ => ?_⟩
      split at p1
      · rename_i ds k hi
        obtain ⟨q', ws', a', b', c', d'⟩ := ok1.ol i ds hi
        rw [a] at a'; cases a'
        split at p1
        · rename_i z ez
          obtain ⟨w, e1, e2⟩ := atI_dt d' ez
          cases h1
          exact ⟨_, ws', k, w, rfl, rfl, SqL.of b', e1, p1.dt ok1 e2⟩
        · exact p1.elim
      · exact p1.elim
    · exact p.elim
@[simp] def lenO (i : Nat) : M Sl := fun ρ => match ρ[i]? with
  | some (.ol ds) => some (.val (.dt (.int ds.length)) ρ)
  | _ => none
theorem px_lenO {i : Nat} {o : Expr} {p : Pos} (ho : PE X o (tVar i)) (hm : X.mg "len" = none) (hg : Gl X "len" := by rfl) (he : starEach (o :: []) X.env = (false, eval o X.env) :: starEach [] X.env := by rfl) (hpl : (backTo pos (starEach [] X.env)).any (·.1) = false := by rfl) :
    PE X (.Call (.Name "len" p) [o] [] pos) (tE X.K pn E (lenO i)) :=
  (pe_callB call_len_seq hg hm PySem.boot_len (pa_cons ho pa_nil he) (by decide) (by decide) he hpl).imp fun σ H Q ⟨G, ρ, ok, p⟩ => by
    unfold lenO at p
    split at p
    · rename_i ds hi
      obtain ⟨q, ws, a, b, c, d⟩ := ok.ol i ds hi
      refine ⟨_, a, _, ws, rfl, .inl (SqL.of b), ?_⟩
      rw [d.length]
      exact p.dt ok (.int _)
    · exact p.elim
/-- e in x, e not in x: x's list one's own -/
@[simp] def inO (neg : Bool) (f : M Sl) (i : Nat) : M Sl := bindD f fun d ρ => match ρ[i]? with
  | some (.ol ds) => inM neg d (.lst ds) ρ
  | _ => none
theorem EnvOk.whole {K : PySem.W.Frag} {G H : Hp} {σ : St} {ρ : Rho} {i : Nat} {ds : List D} (ok : EnvOk K pn G H σ ρ) (hi : ρ[i]? = some (.ol ds)) : ∃ p, σ[i]? = some (some (.ref p)) ∧ Dt K H (.ref p) (.lst ds) := by
  obtain ⟨q, ws, a, b, c, d⟩ := ok.ol i ds hi
  exact ⟨q, a, .lst (SqL.of b) (d.mono ok.sub)⟩
theorem in_of {neg : Bool} {K : PySem.W.Frag} {σ : St} {G H : Hp} {ρ : Rho} {v u : V} {d : D} {ds : List D} {Q : VK} (ok : EnvOk K pn G H σ ρ) (hv : Dt K G v d) (hu : Dt K H u (.lst ds))
    (p : Post K pn E σ G H (OwnAt σ ρ) (inM neg d (.lst ds) ρ) Q) : rIns K neg v u H Q := by
  simp only [inM] at p
  cases hu with
  | lst h hs =>
    split at p
    · rename_i c
      refine .inl ⟨_, _, rfl, .inl h, flat_of hv c.1, flat_all hs c.2, ?_⟩
      have e1 := any_eqF (hv.mono ok.sub) c.1 hs c.2
      unfold inV
      rw [e1]; exact p.dt ok (.bl _)
    · split at p
      · rename_i c
        have h2 := (hv.mono ok.sub).toDp (SeqAt.canLay_of_shaped c.1)
        have h3 := (Dt.lst h hs).toDp (SeqAt.canLay_of_shaped c.2)
        refine .inr (.inl ⟨_, _, h2, by simpa only [toPy] using h3, c.1, by simpa only [okD, toPy] using c.2, ?_⟩)
        rw [toPyL_map, List.any_map]
        exact p.dt ok (.bl _)
      · exact p.elim
theorem inO_of {neg : Bool} {f : M Sl} {i : Nat} (σ : St) (H : Hp) (Q : VK) (w : tE X.K pn E (inO neg f i) σ H Q) : tOp (rIns X.K neg) (tE X.K pn E f) (tVar i) σ H Q := by
  obtain ⟨G, ρ, ok, p⟩ := w
  refine ⟨G, ρ, ok, (Post.bindD ok p).mono fun v H1 ⟨G1, ρ1, d, ok1, s1, d1, p1⟩ => ?_⟩
  split at p1
  · rename_i ds hi
    obtain ⟨q, a, h⟩ := ok1.whole hi
    exact ⟨_, a, in_of ok1 d1 h p1⟩
  · exact p1.elim
theorem px_inO {neg : Bool} {op : CmpOp} {a b : Expr} {f : M Sl} {i : Nat} (ho : OpR X (compareOp op) (rIns X.K neg)) (ha : PE X a (tE X.K pn E f)) (hb : PE X b (tVar i)) (hm : behindInMarks op b = false) : PE X (.Compare a [op] [b] pos) (tE X.K pn E (inO neg f i)) :=
  (pe_cmpR ho ha hb hm).imp inO_of
theorem pt_inO {neg : Bool} {op : CmpOp} {a b : Expr} {f : M Sl} {i : Nat} (ho : OpR X (compareOp op) (rIns X.K neg)) (ha : PE X a (tE X.K pn E f)) (hb : PE X b (tVar i)) (hm : behindInMarks op b = false) : PT X (.Compare a [op] [b] pos) (tT X.K pn E (toB (inO neg f i))) :=
  (pt_cmpR ho ha hb hm).imp (px_test inO_of)
end
end BT

namespace BT
open PySem L2
section
variable {X : Cx} {pn : List (Nat × Addr)} {E : XK} {pos : Pos}
/-! ### attributes of frozen instances -/
@[simp] def fldM (C : Addr) (x : Str) (f : M Sl) : M Sl := fun ρ => (bindD f fun d => match d with
  | .ins C' fs => fun ρ => if C' = C then (match fs.lookup x with | some d => some (.val (.dt d) ρ) | none => none) else none
  | _ => fun _ => none) ρ
theorem DtF.look {K : PySem.W.Frag} {H : Hp} {x : Str} {d : D} : ∀ {fs : List (Str × V)} {ds : List (Str × D)}, DtF K H fs ds → ds.lookup x = some d → ∃ v, fs.lookup x = some v ∧ Dt K H v d
  | _, _, .nil, h => by simp at h
  | _, _, .cons (k := k) h hs, e => by
    simp only [List.lookup_cons] at e ⊢
    by_cases c : x == k
    · rw [c] at e ⊢
      cases e; exact ⟨_, rfl, h⟩
    · have c' : (x == k) = false := by simpa using c
      rw [c'] at e ⊢
      exact DtF.look hs e
theorem px_fld {C : Addr} {x : Str} {e : Expr} {f : M Sl} (he : PE X e (tE X.K pn E f)) (c : Cls X.K C) (n : NoAttr X.K C x) (hb : attributeBase e x X.env (eval e X.env) = eval e X.env := by rfl) : PE X (.Attribute e x pos) (tE X.K pn E (fldM C x f)) :=
  (pe_fld he hb).imp fun σ H Q ⟨G, ρ, ok, h⟩ => ⟨G, ρ, ok, (Post.bindD ok h).mono fun v H1 ⟨G1, ρ1, d, ok1, s1, d1, p1⟩ => by
    cases d1 with
    | @ins a C' dx fs ds h1 h2 hs =>
      simp only at p1
      by_cases z : C' = C
      · subst z
        rw [if_pos rfl] at p1
        cases el : ds.lookup x with
        | none => rw [el] at p1; exact p1.elim
        | some d =>
          rw [el] at p1
          obtain ⟨v, e1, e2⟩ := hs.look el
          exact ⟨a, _, dx, fs, v, rfl, ok1.sub _ _ h1, c, n, e1, p1.dt ok1 e2⟩
      · rw [if_neg z] at p1; exact p1.elim
    | _ => exact p1.elim⟩
/-! ### dicts that stand still -/
def keyD : D → Option Key | .int i => some (.inl i) | .str x => some (.inr x) | _ => none
@[simp] def dlook (k : Key) : List (Key × D) → Option D
  | [] => none
  | (j, d) :: r => if j = k then some d else dlook k r
@[simp] def dgetM (f g : M Sl) : M Sl := fun ρ => (bin2 f g fun d e => match d, keyD e with
  | .dic kvs, some k => fun ρ => (match dlook k kvs with | some d => some (.val (.dt d) ρ) | none => none)
  | _, _ => fun _ => none) ρ
@[simp] def dinM (neg : Bool) (g f : M Sl) : M Sl := fun ρ => (bin2 g f fun e d => match d, keyD e with
  | .dic kvs, some k => fun ρ => some (.val (.dt (.bl (if neg then !(dlook k kvs).isSome else (dlook k kvs).isSome))) ρ)
  | _, _ => fun _ => none) ρ
theorem DtK.look {K : PySem.W.Frag} {H : Hp} {k : Key} : ∀ {kvs : List (Key × V)} {ds : List (Key × D)}, DtK K H kvs ds → (dlook k ds = none ∧ valV kvs k = none) ∨ ∃ v d, dlook k ds = some d ∧ valV kvs k = some v ∧ Dt K H v d
  | _, _, .nil => .inl ⟨rfl, by simp [valV]⟩
  | _, _, .cons (k := j) (v := v) (d := d) (vs := vs) h hs => by
    by_cases c : j = k
    · subst c
      refine .inr ⟨_, _, if_pos rfl, ?_, h⟩
      simp [valV]
    · rcases DtK.look (k := k) hs with ⟨h1, h2⟩ | ⟨v', d', h1, h2, h3⟩
      · refine .inl ⟨by simp [c, h1], ?_⟩
        have c' : ¬ k = j := fun q => c q.symm
        simp [valV, c] at h2 ⊢
        first | exact h2 | simpa [c'] using h2
      · refine .inr ⟨v', d', by simp [c, h1], ?_, h3⟩
        have c' : ¬ k = j := fun q => c q.symm
        simp [valV, c] at h2 ⊢
        first | exact h2 | simpa [c'] using h2
theorem keyD_dt {K : PySem.W.Frag} {H : Hp} {v : V} {d : D} {k : Key} (h : Dt K H v d) (e : keyD d = some k) : v = kV k := by
  cases h <;> first | (cases e; rfl) | cases e
theorem px_dget {a b : Expr} {f g : M Sl} (hu : X.A.units + 1 < cLine) (ha : PE X a (tE X.K pn E f)) (hb : PE X b (tE X.K pn E g)) (hs : NoSl b) : PE X (.Subscript a b pos) (tE X.K pn E (dgetM f g)) :=
  (pe_dget hu ha hb hs).imp fun σ H Q w => by
    refine tOp_of (r := fun x y H2 Q => ∃ a v, x = .ref a ∧ DGet H2 a y (some v) ∧ Q v H2) (fun σ G H ρ v u d e Q ok hv hu p => ?_) σ H Q w
    cases hv with
    | dic h hs =>
      cases ek : keyD e with
      | none => simp only [ek] at p; exact p.elim
      | some k =>
        simp only [ek] at p
        rcases hs.look (k := k) with ⟨h1, h2⟩ | ⟨v', d', h1, h2, h3⟩
        · rw [h1] at p; exact p.elim
        · rw [h1] at p
          exact ⟨_, v', rfl, .inl ⟨_, k, Same.rd ok.sub h, keyD_dt hu ek, h2.symm⟩, p.dt ok h3⟩
    | _ => exact p.elim
theorem din_of {neg : Bool} {f g : M Sl} (σ : St) (H : Hp) (Q : VK) (w : tE X.K pn E (dinM neg g f) σ H Q) : tOp (fun y x H2 Q => ∃ a o, x = .ref a ∧ DGet H2 a y o ∧ Q (.bl (if neg then !o.isSome else o.isSome)) H2) (tE X.K pn E g) (tE X.K pn E f) σ H Q := by
  refine tOp_of (r := fun y x H2 Q => ∃ a o, x = .ref a ∧ DGet H2 a y o ∧ Q (.bl (if neg then !o.isSome else o.isSome)) H2) (fun σ G H ρ u v e d Q ok hu hv p => ?_) σ H Q w
  cases hv with
  | dic h hs =>
    cases ek : keyD e with
    | none => simp only [ek] at p; exact p.elim
    | some k =>
      simp only [ek] at p
      rcases hs.look (k := k) with ⟨h1, h2⟩ | ⟨v', d', h1, h2, h3⟩
      · rw [h1] at p
        exact ⟨_, none, rfl, .inl ⟨_, k, Same.rd ok.sub h, keyD_dt hu ek, h2.symm⟩, p.dt ok (.bl _)⟩
      · rw [h1] at p
        exact ⟨_, some v', rfl, .inl ⟨_, k, Same.rd ok.sub h, keyD_dt hu ek, h2.symm⟩, p.dt ok (.bl _)⟩
  | _ => exact p.elim
theorem px_din {a b : Expr} {f g : M Sl} (hu : X.A.units + 1 < cLine) (ha : PE X a (tE X.K pn E g)) (hb : PE X b (tE X.K pn E f)) (hm : behindInMarks .In b = false := by rfl) : PE X (.Compare a [.In] [b] pos) (tE X.K pn E (dinM false g f)) :=
  (pe_cmp (pc_din hu ha hb) hm).imp din_of
theorem px_dnotin {a b : Expr} {f g : M Sl} (hu : X.A.units + 1 < cLine) (ha : PE X a (tE X.K pn E g)) (hb : PE X b (tE X.K pn E f)) (hm : behindInMarks .NotIn b = false := by rfl) : PE X (.Compare a [.NotIn] [b] pos) (tE X.K pn E (dinM true g f)) :=
  (pe_cmp (pc_dnotin hu ha hb) hm).imp din_of
theorem pt_din {a b : Expr} {f g : M Sl} (hu : X.A.units + 1 < cLine) (ha : PE X a (tE X.K pn E g)) (hb : PE X b (tE X.K pn E f)) (hm : behindInMarks .In b = false := by rfl) : PT X (.Compare a [.In] [b] pos) (tT X.K pn E (toB (dinM false g f))) :=
  (pt_cmp (pc_din hu ha hb) hm).imp (px_test din_of)
theorem pt_dnotin {a b : Expr} {f g : M Sl} (hu : X.A.units + 1 < cLine) (ha : PE X a (tE X.K pn E g)) (hb : PE X b (tE X.K pn E f)) (hm : behindInMarks .NotIn b = false := by rfl) : PT X (.Compare a [.NotIn] [b] pos) (tT X.K pn E (toB (dinM true g f))) :=
  (pt_cmp (pc_dnotin hu ha hb) hm).imp (px_test din_of)

/-! ### methods of frozen instances, as pure defs -/
@[simp] def methF (F : Fn) (C : Addr) (m : Str) (f : M Sl) (fs : M (List D)) : M Sl := fun ρ => (bindD f fun d => match d with
  | .ins C' xs => fun ρ => if C' = C ∧ xs.lookup m = none then callF F (consA (mC (.ins C' xs)) fs) ρ else none
  | _ => fun _ => none) ρ
theorem DtF.lookN {K : PySem.W.Frag} {H : Hp} {x : Str} : ∀ {fs : List (Str × V)} {ds : List (Str × D)}, DtF K H fs ds → ds.lookup x = none → fs.lookup x = none
  | _, _, .nil, _ => rfl
  | _, _, .cons (k := k) h hs, e => by
    simp only [List.lookup_cons] at e ⊢
    by_cases c : x == k
    · rw [c] at e; cases e
    · have c' : (x == k) = false := by simpa using c
      rw [c'] at e ⊢
      exact DtF.lookN hs e
theorem px_meth {F : Fn} {C : Addr} {m : Str} {k : Nat} {f : Addr} {fd : FuncData} {ps : List Str} {apos : Pos} {o e : Expr} {es : List Expr} {g : M Sl} {fs : M (List D)} (ho : PE X o (tE X.K pn E00 g)) (c : Cls X.K C) (hm : Meth X.K C m f)
    (G : FnOk X.prog X.w X.K X.mg X.base CX0 k f fd ps (fun vs H Q _ => SpF X.K F vs H Q E00)) (hr : Room k X.A) (hb : Binds X.K fd ps []) (ha : PA X (e :: es) (tA X.K pn E00 fs))
    (h : ∀ {T : TE} {U : TA}, PE X o T → PA X (e :: es) U → PE X (.Call (.Attribute o m apos) (e :: es) [] pos) (tMeth C m (fun vs H Q _ => SpF X.K F vs H Q E00) [] E0 T U)) :
    PE X (.Call (.Attribute o m apos) (e :: es) [] pos) (tE X.K pn E00 (methF F C m g fs)) :=
  (h ho ha).imp fun σ H Q ⟨G, ρ, ok, w⟩ => ⟨G, ρ, ok, (Post.bindD ok w).mono fun v H1 ⟨G1, ρ1, d, ok1, s1, d1, p1⟩ => by
    cases d1 with
    | @ins a C' dx xs ds h1 h2 hs =>
      simp only at p1
      by_cases z : C' = C ∧ ds.lookup m = none
      · rw [if_pos z] at p1
        obtain ⟨z1, z2⟩ := z
        subst z1
        refine ⟨a, dx, xs, rfl, ok1.sub _ _ h1, hs.lookN z2, G1, ρ1, ok1, ?_⟩
        unfold callF at p1
        have p2 := Post.bindA ok1 p1
        unfold consA bindD bindM at p2
        simp only [mC, Sl.frz] at p2
        unfold PostA at p2 ⊢
        cases ef : fs ρ1 with
        | none => rw [ef] at p2; exact p2
        | some r =>
          rw [ef] at p2
          cases r with
          | exc x ρ2 => exact p2
          | val es ρ2 =>
            intro vs G2 H2 ok2 x2 hd
            have hself : Dt X.K G2 (.ref a) (.ins C' ds) := (Dt.ins h1 h2 hs).mono x2.grow
            obtain ⟨G3, ρ3, ds3, ok3, s3, d3, p3⟩ := p2 (.ref a :: vs) G2 H2 ok2 x2 (.cons hself hd)
            rw [List.append_nil]
            exact spF_of ok3 d3 p3
      · rw [if_neg z] at p1; exact p1.elim
    | _ => exact p1.elim⟩
end
end BT

namespace BK
open PySem L2 BT

/-! ### what the defs compute -/
abbrev abc : Str := "abcdefghijklmnopqrstuvwxyz"
def shortS (d : D) : Bool := match d with | .str x => decide (x.length ≤ 1000) | .ins _ _ => false | .exn _ _ => false | _ => true
def isName (d : D) : Bool := match d with | .str x => decide (1 ≤ x.length) && decide (x.length ≤ 8) && x.cps.toList.all fun c => decide (c ∈ abc.cps.toList) | _ => false
def F_is_name : Fn := pureF fun ds => match ds with | [d] => if shortS d = true then some (.dt (.bl (isName d))) else none | _ => none
def isWord (d : D) : Bool := match d with | .str x => ["at", "then", "back", "later", "earlier", "with"].any fun y => (y : Str) == x | _ => false
/-- short texts within a pair -/
def shortP (d : D) : Bool := match d with | .tup ds => decide (ds.length ≤ 1000) && ds.all shortS | .lst ds => decide (ds.length ≤ 1000) && ds.all shortS | d => shortS d
def isSentence (d : D) : Bool := match d with | .tup [a, b] => isWord a && isName b | _ => false
def F_is_sentence : Fn := pureF fun ds => match ds with | [d] => if shortP d = true then some (.dt (.bl (isSentence d))) else none | _ => none
def linkOf (stand : D) (w m : Str) : D :=
  if ("then" : Str) = w ∨ ("later" : Str) = w then .tup [stand, .str m, .bl true]
  else if ("back" : Str) = w ∨ ("earlier" : Str) = w then .tup [.str m, stand, .bl true]
  else if w = "with" then .tup [stand, .str m, .bl false]
  else .non
def F_link_of : Fn := pureF fun ds => match ds with | [s, .tup [.str w, .str m]] => some (.dt (linkOf s w m)) | _ => none
/-- a tale: words and moments -/
abbrev Tale := List (Str × Str)
def encS (x : Str × Str) : D := .tup [.str x.1, .str x.2]
def decS : D → Option (Str × Str) | .tup [.str w, .str m] => some (w, m) | _ => none
def decL : List D → Option Tale
  | [] => some []
  | d :: ds => match decS d, decL ds with | some x, some r => some (x :: r) | _, _ => none
def decQ : D → Option Tale | .tup ds => decL ds | .lst ds => decL ds | _ => none
theorem decS_eq {d : D} {x : Str × Str} (h : decS d = some x) : d = encS x := by
  unfold decS at h
  split at h
  · cases h; rfl
  · cases h
theorem decL_eq : ∀ {ds : List D} {t : Tale}, decL ds = some t → ds = t.map encS
  | [], _, h => by cases h; rfl
  | d :: ds, _, h => by
    simp only [decL] at h
    split at h
    · rename_i x r h1 h2
      cases h; rw [decS_eq h1, decL_eq h2]; rfl
    · cases h
theorem decL_map : ∀ t : Tale, decL (t.map encS) = some t
  | [] => rfl
  | x :: t => by simp [decL, decS, encS, decL_map t]
theorem decQ_eq {d : D} {t : Tale} (h : decQ d = some t) : d = .tup (t.map encS) ∨ d = .lst (t.map encS) := by
  unfold decQ at h
  split at h
  · rw [decL_eq h]; exact .inl rfl
  · rw [decL_eq h]; exact .inr rfl
  · cases h
def moving (w : Str) : Bool := decide (("at" : Str) = w ∨ ("then" : Str) = w ∨ ("back" : Str) = w)
def standsFrom : Str → Tale → List Str
  | _, [] => []
  | p, (w, m) :: r => (if moving w then m else p) :: standsFrom (if moving w then m else p) r
/-- where the tale stands behind each sentence -/
def stands : Tale → List Str
  | [] => []
  | (_, m) :: r => m :: standsFrom m r
def startsAt : Tale → Bool | [] => true | (w, _) :: _ => decide (("at" : Str) = w)
def F_stands_of : Fn := pureF fun ds => match ds with | [d] => (match decQ d with | some t => if startsAt t = true ∧ t.length ≤ 1000 then some (.ol ((stands t).map .str)) else none | none => none) | _ => none
def linksFrom : D → Tale → List D
  | _, [] => []
  | p, (w, m) :: r => linkOf p w m :: linksFrom (if moving w then .str m else p) r
/-- the links of all sentences -/
def links (t : Tale) : List D := linksFrom .non t
def F_links_of : Fn := pureF fun ds => match ds with | [d] => (match decQ d with | some t => if startsAt t = true ∧ t.length ≤ 1000 then some (.ol (links t)) else none | none => none) | _ => none

/-! ### relations: moments with their groups, and the bits of the moments after each -/
structure RS where
  tg : List (Str × List Str)
  later : List Int
def RS.names (R : RS) : List Str := R.tg.map (·.1)
def togD (t : List (Str × List Str)) : List (Key × D) := t.map fun x => (Sum.inr x.1, D.lst (x.2.map D.str))
def numD (ns : List Str) : List (Key × D) := ns.mapIdx fun i n => (Sum.inr n, D.int (i : Nat))
def relD (C : Addr) (R : RS) : D := .ins C [("together", .dic (togD R.tg)), ("numbers", .dic (numD R.names)), ("later", .lst (R.later.map .int))]
def decStrs : List D → Option (List Str)
  | [] => some []
  | .str x :: r => (decStrs r).map (x :: ·)
  | _ => none
theorem decStrs_eq : ∀ {ds : List D} {xs : List Str}, decStrs ds = some xs → ds = xs.map .str
  | [], _, h => by cases h; rfl
  | d :: r, _, h => by
    cases d with
    | str x =>
      simp only [decStrs] at h
      cases q : decStrs r with
      | none => rw [q] at h; cases h
      | some ys => rw [q] at h; cases h; rw [decStrs_eq q]; rfl
    | _ => cases h
theorem decStrs_map : ∀ xs : List Str, decStrs (xs.map .str) = some xs
  | [] => rfl
  | x :: r => by simp [decStrs, decStrs_map r]
def decTog : List (Key × D) → Option (List (Str × List Str))
  | [] => some []
  | (.inr n, .lst ds) :: r => (match decStrs ds, decTog r with | some g, some t => some ((n, g) :: t) | _, _ => none)
  | _ => none
theorem decTog_eq : ∀ {ds : List (Key × D)} {t : List (Str × List Str)}, decTog ds = some t → ds = togD t
  | [], _, h => by cases h; rfl
  | (.inl _, _) :: r, _, h => by simp [decTog] at h
  | (.inr n, d) :: r, _, h => by
    cases d with
    | lst ds =>
      simp only [decTog] at h
      split at h
      · rename_i g t h1 h2
        cases h
        rw [decTog_eq h2, decStrs_eq h1]; rfl
      · cases h
    | _ => simp [decTog] at h
theorem decTog_map : ∀ t : List (Str × List Str), decTog (togD t) = some t
  | [] => rfl
  | (n, g) :: r => by
    have := decTog_map r
    simp only [togD] at this ⊢
    simp [decTog, decStrs_map, this]
def decNum : List (Key × D) → Option (List (Str × Int))
  | [] => some []
  | (.inr n, .int i) :: r => (decNum r).map ((n, i) :: ·)
  | _ => none
theorem decNum_eq : ∀ {ds : List (Key × D)} {t : List (Str × Int)}, decNum ds = some t → ds = t.map fun x => (Sum.inr x.1, D.int x.2)
  | [], _, h => by cases h; rfl
  | (.inl _, _) :: r, _, h => by simp [decNum] at h
  | (.inr n, d) :: r, _, h => by
    cases d with
    | int i =>
      simp only [decNum] at h
      cases q : decNum r with
      | none => rw [q] at h; cases h
      | some ys => rw [q] at h; cases h; rw [decNum_eq q]; rfl
    | _ => simp [decNum] at h
theorem decNum_map : ∀ t : List (Str × Int), decNum (t.map fun x => ((Sum.inr x.1 : Key), D.int x.2)) = some t
  | [] => rfl
  | (n, g) :: r => by simp [decNum, decNum_map r]
theorem asInts_eq : ∀ {ds : List D} {t : List Int}, asInts ds = some t → ds = t.map .int
  | [], _, h => by cases h; rfl
  | d :: r, _, h => by
    cases d with
    | int i =>
      simp only [asInts] at h
      cases q : asInts r with
      | none => rw [q] at h; cases h
      | some ys => rw [q] at h; cases h; rw [asInts_eq q]; rfl
    | _ => simp [asInts] at h
theorem asInts_mapI : ∀ t : List Int, asInts (t.map .int) = some t
  | [] => rfl
  | x :: r => by simp [asInts_mapI r]
def decR (C : Addr) : D → Option RS
  | .ins C' [(f1, .dic tg), (f2, .dic nm), (f3, .lst lt)] => if C' = C ∧ f1 = "together" ∧ f2 = "numbers" ∧ f3 = "later" then
      (match decTog tg, decNum nm, asInts lt with
      | some t, some n, some l => if n = (t.map (·.1)).mapIdx (fun i x => (x, ((i : Nat) : Int))) then some ⟨t, l⟩ else none
      | _, _, _ => none) else none
  | _ => none
theorem numD_eq (ns : List Str) : numD ns = (ns.mapIdx fun i x => (x, ((i : Nat) : Int))).map fun x => (Sum.inr x.1, D.int x.2) := by
  unfold numD
  apply List.ext_getElem?
  intro i
  simp [List.getElem?_mapIdx, Function.comp_def]
theorem decR_eq {C : Addr} {d : D} {R : RS} (h : decR C d = some R) : d = relD C R := by
  unfold decR at h
  split at h
  · split at h
    · rename_i c
      obtain ⟨rfl, rfl, rfl, rfl⟩ := c
      split at h
      · rename_i t n l h1 h2 h3
        split at h
        · rename_i e
          cases h
          rw [decTog_eq h1, decNum_eq h2, asInts_eq h3, e]
          simp only [relD, RS.names, numD_eq]
        · cases h
      · cases h
    · cases h
  · cases h
theorem decR_rel (C : Addr) (R : RS) : decR C (relD C R) = some R := by
  simp only [decR, relD, and_self, if_true, decTog_map, numD_eq, decNum_map, asInts_mapI, RS.names]
/-- the number of a moment -/
def RS.ix (R : RS) (x : Str) : Nat := R.names.idxOf x
def RS.bf (R : RS) (a b : Str) : Bool := (R.later.getD (R.ix a) 0).toNat.testBit (R.ix b)
/-- all that the methods ask -/
structure RS.Ok (R : RS) : Prop where
  len : R.later.length = R.tg.length
  nn : ∀ x ∈ R.later, 0 ≤ x
  nd : R.names.Nodup
  few : R.tg.length ≤ 1000
def RS.okB (R : RS) : Bool := decide (R.later.length = R.tg.length) && R.later.all (fun x => decide (0 ≤ x)) && decide (R.names.Nodup) && decide (R.tg.length ≤ 1000)
theorem RS.okB_iff {R : RS} : R.okB = true ↔ R.Ok := by
  unfold RS.okB
  simp only [Bool.and_eq_true, decide_eq_true_eq, List.all_eq_true]
  constructor
  · rintro ⟨⟨⟨h1, h2⟩, h3⟩, h4⟩; exact ⟨h1, h2, h3, h4⟩
  · rintro ⟨h1, h2, h3, h4⟩; exact ⟨⟨⟨h1, h2⟩, h3⟩, h4⟩
def F_is_before (C : Addr) : Fn := pureF fun ds => match ds with
  | [d, .str a, .str b] => (match decR C d with | some R => if R.okB = true ∧ a ∈ R.names ∧ b ∈ R.names then some (.dt (.bl (R.bf a b))) else none | none => none)
  | _ => none
/-- the bits of a list of moments -/
def RS.bits (R : RS) (g : List Str) : Int := (g.map fun x => (2 : Int) ^ R.ix x).sum
def F_bits_of (C : Addr) : Fn := pureF fun ds => match ds with
  | [d, .lst g] => (match decR C d, decStrs g with | some R, some g => if R.okB = true ∧ (∀ x ∈ g, x ∈ R.names) ∧ g.length ≤ 1000 then some (.dt (.int (R.bits g))) else none | _, _ => none)
  | _ => none

/-! ### comprehensions that store nothing -/
theorem compL_pure {b : D → Rho → Option Rho} {t : M Bool} {e : M Sl} {vs : List Nat} {ρ : Rho} {p : D → Bool} {g : D → D} : ∀ (ds acc : List D),
    (∀ d ∈ ds, ∃ ρ1, b d ρ = some ρ1 ∧ t ρ1 = some (.val (p d) ρ1) ∧ noOl ρ1 vs = true ∧ wipeR ρ1 vs = ρ ∧ (p d = true → ∃ s, e ρ1 = some (.val s ρ1) ∧ s.frz = some (g d))) → acc.length + ds.length ≤ sizeLine →
    compL b t e vs ds acc ρ = some (acc ++ (ds.filter p).map g, ρ)
  | [], acc, _, _ => by simp [compL]
  | d :: ds, acc, h, hl => by
    obtain ⟨ρ1, h1, h2, h3, h4, h5⟩ := h d (by simp)
    have ih := fun acc' (hz : acc'.length + ds.length ≤ sizeLine) => compL_pure (b := b) (t := t) (e := e) (vs := vs) (ρ := ρ) (p := p) (g := g) ds acc' (fun d' m => h d' (List.mem_cons_of_mem _ m)) hz
    simp only [List.length_cons] at hl
    unfold compL
    rw [h1]
    simp only [h2]
    cases c : p d with
    | false =>
      simp only [h3, if_true, h4]
      rw [ih acc (by omega), List.filter_cons_of_neg (by simp [c])]
    | true =>
      obtain ⟨s, h6, h7⟩ := h5 c
      simp only [h6, h7]
      rw [if_pos ⟨by omega, h3⟩, h4, ih _ (by simp; omega), List.filter_cons_of_pos c]
      simp
/-- without a test -/
theorem compL_map {b : D → Rho → Option Rho} {e : M Sl} {vs : List Nat} {ρ : Rho} {g : D → D} (ds acc : List D)
    (h : ∀ d ∈ ds, ∃ ρ1, b d ρ = some ρ1 ∧ noOl ρ1 vs = true ∧ wipeR ρ1 vs = ρ ∧ ∃ s, e ρ1 = some (.val s ρ1) ∧ s.frz = some (g d)) (hl : acc.length + ds.length ≤ sizeLine) :
    compL b yesT e vs ds acc ρ = some (acc ++ ds.map g, ρ) := by
  have := compL_pure (b := b) (t := yesT) (e := e) (vs := vs) (ρ := ρ) (p := fun _ => true) (g := g) ds acc (fun d m => by
    obtain ⟨ρ1, h1, h3, h4, h5⟩ := h d m
    exact ⟨ρ1, h1, rfl, h3, h4, fun _ => h5⟩) hl
  rw [this, List.filter_eq_self.mpr (fun _ _ => rfl)]
theorem asBls_map (f : D → Bool) : ∀ ds : List D, asBls (ds.map fun d => D.bl (f d)) = some (ds.map f)
  | [] => rfl
  | d :: ds => by simp [asBls_map f ds]
theorem asInts_map (f : D → Int) : ∀ ds : List D, asInts (ds.map fun d => D.int (f d)) = some (ds.map f)
  | [] => rfl
  | d :: ds => by simp [asInts_map f ds]
end BK

/-! t[::-1], t * n, str(x) of data, calls by keyword, a law right under its caller -/
namespace BT
open PySem PySem.Spec PyProof.Rows L2

/-! ### t[::-1] -/
section
variable {prog : Program} {w : World} {A : Around} {E : Value → Shared → Prop} {s : Shared}
theorem rev_places (n : Nat) : Builtin.Slice.slicePlaces ((n : Int) - 1) (-1) (-1) = n := by
  unfold Builtin.Slice.slicePlaces
  rw [if_neg (by decide)]
  split
  · have e : (-(-1) : Int) = 1 := by decide
    rw [e, Int.ediv_one]; omega
  · omega
theorem rev_applied {sl : Addr} {t : Tok} {n : Nat} {Q : Int × Int × Nat → Shared → Prop} (hs : s.heap.IsSliceOf sl .none .none (.int (-1) t)) (h : Q ((n : Int) - 1, -1, n) s) : wpAny (model prog w) A (Builtin.Slice.sliceApplied (.ref sl) (pure (n : Int))) Q E s := by
  obtain ⟨o, ho, _, hd⟩ := hs
  unfold Builtin.Slice.sliceApplied Builtin.Slice.sliceFields
  have f0 := fun {R : Value → Shared → Prop} (q : R .none s) => wpAny_field (M := model prog w) (A := A) (E := E) (i := 0) ho hd (x := .none) rfl q
  refine wpAny_bind (wpAny_bind (f0 (wpAny_bind (wpAny_field ho hd (x := .none) rfl (wpAny_bind (wpAny_field ho hd (x := .int (-1) t) rfl (wpAny_pure ?_)))))))
  refine wpAny_bind (HT.slicePart_ (.int (-1) t) ?_)
  show wpAny _ _ (if ((-1 : Int) == 0) = true then _ else _) _ _ s
  rw [if_neg (by decide)]
  refine wpAny_bind (HT.slicePart_ .none (wpAny_bind (HT.slicePart_ .none (wpAny_bind (wpAny_pure ?_)))))
  show wpAny _ _ (pure ((n : Int) - 1, (-1 : Int), Builtin.Slice.slicePlaces ((n : Int) - 1) (-1) (-1))) _ _ s
  rw [rev_places]
  exact wpAny_pure h
theorem fm_congr {α β : Type} {f g : α → Option β} : ∀ {l : List α}, (∀ a ∈ l, f a = g a) → l.filterMap f = l.filterMap g
  | [], _ => rfl
  | a :: l, h => by
    have ih := fm_congr (l := l) fun x hx => h x (by simp [hx])
    simp only [List.filterMap_cons, h a (by simp), ih]
theorem rev_pick (xs : Array Value) : ((List.range xs.size).filterMap fun (k : Nat) => xs[((xs.size : Int) - 1 + (k : Int) * (-1)).toNat]?).toArray = xs.toList.reverse.toArray := by
  congr 1
  have e : ∀ k ∈ List.range xs.size, xs[((xs.size : Int) - 1 + (k : Int) * (-1)).toNat]? = xs.toList.reverse[k]? := fun k hk => by
    rw [List.mem_range] at hk
    have : ((xs.size : Int) - 1 + (k : Int) * (-1)).toNat = xs.size - 1 - k := by omega
    rw [this, List.getElem?_reverse (by simpa using hk)]
    simp
  rw [fm_congr e]
  have := List.filterMap_getElem?_range_length xs.toList.reverse
  simpa using this
theorem getItem_rev {t sl : Addr} {items : Array Value} {tk : Tok} {Q : Value → Shared → Prop} (ht : IsTup s.heap t items) (hs : s.heap.IsSliceOf sl .none .none (.int (-1) tk))
    (h : Q (.ref s.heap.objs.size) { s with heap := s.heap.push { cls := .type "tuple", data := .seq items.toList.reverse.toArray } }) (hz : items.size ≤ sizeLine) : wpAny (model prog w) A (getItem (.ref t) (.ref sl)) Q E s := by
  have ok : sizeOk (.seq items.toList.reverse.toArray) := by
    show items.toList.reverse.toArray.size ≤ sizeLine
    simpa using hz
  obtain ⟨os, hos, hcs, hds⟩ := id hs
  have hT : s.TypeIs (.ref sl) "slice" := ⟨os, hos, hcs⟩
  unfold getItem
  try with_reducible refine wpAny_holding ?_
  try refine wpAny_bind (wpAny_pure ?_)
  refine wpAny_bind (wpAny_sequenceKey ht.typeIs (by decide) (wpAny_bind (wpAny_callSpecial?_slot (name := Str.ofString "__getitem__") ht.typeIs slot_tuple_getitem (wpAny_call_entry slot_tuple_getitem ht.typeIs entry_tuple_getitem ?_ (args_tuple_getitem _ _)))))
  show wpAny _ _ (Builtin.Tuple.tupleItemsOf (.ref t) >>= fun _ => _) _ _ s
  refine wpAny_bind (tupleItemsOf_ ht (wpAny_bind (wpAny_typeOf hT ?_)))
  rw [if_pos (by decide)]
  refine wpAny_bind (rev_applied hs ?_)
  have no : ¬ ((((items.size : Int) - 1 == 0) && ((-1 : Int) == 1) && items.size == items.size) = true) := by
    intro q
    rw [Bool.and_eq_true, Bool.and_eq_true] at q
    exact absurd q.1.2 (by decide)
  show wpAny _ _ (if (((items.size : Int) - 1 == 0) && ((-1 : Int) == 1) && items.size == items.size) = true then _ else _) _ _ s
  rw [if_neg no, rev_pick]
  first
    | exact wpAny_bind (m := Builtin.Tuple.tupleExact _) (wpAny_newObj_type (wpAny_pure ⟨_, rfl, wpAny_pure h⟩) ok)
    | exact wpAny_bind (wpAny_bind (m := Builtin.Tuple.tupleExact _) (wpAny_newObj_type (wpAny_pure ⟨_, rfl, wpAny_pure h⟩) ok))
end
section
variable {X : Cx} {pn : List (Nat × Addr)} {E : XK} {pos p2 : Pos} {e st : Expr} {te : TE} {tk : TO}
def tRev (K : PySem.W.Frag) (te : TE) (tk : TO) : TE := fun σ H Q => te σ H fun x H1 => tk σ H1 fun k H2 => k = some (-1) ∧ ∃ a xs, x = .ref a ∧ SqT K H2 a xs ∧ ∀ p, H2 p = none → Q (.ref p) (upd H2 p (.tup xs.reverse))
theorem pe_rev (he : PE X e te) (hk : PO X (some st) tk) : PE X (.Subscript e (.Slice none none (some st) p2) pos) (tRev X.K te tk) := by
  refine ⟨fun pins s σ H Q I h => ?_⟩
  refine Subscript_ (thn (he.run pins s σ H _ I h) fun v s1 ⟨x, H1, I1, r1, q1⟩ => wpAny_Slice ?_)
  rw [evalPart_none]
  refine wpAny_pure (wpAny_pure (thn (hk.run pins s1 σ H1 _ I1 q1) fun vk s2 ⟨k, H2, I2, pk, ek, a, xs, ex, hx, q⟩ => ?_))
  subst ek ex
  cases pk with
  | int i t =>
  cases r1
  have I3 : Inv X pins σ H2 { s2 with heap := s2.heap.push { cls := .type "slice", data := .fields #[.none, .none, .int (-1) t] } } := I2.kept (t' := s2.toks) fun b ob q => Heap.get?_push_of_some _ q
  obtain ⟨its, r, ht, hz⟩ := I3.tuple hx
  have g := getItem_rev (prog := X.prog) (w := X.w) (A := X.A) (E := X.xe) (Q := EP X pins σ Q) (s := { s2 with heap := s2.heap.push { cls := .type "slice", data := .fields #[.none, .none, .int (-1) t] } }) ht (Heap.IsSliceOf.new ..)
    ⟨.ref _, _, I3.laid (t' := s2.toks) (o := .tup xs.reverse) (fun b ob q => Heap.get?_push_of_some _ q) (Nat.le_refl _) ⟨by rw [List.length_reverse]; exact hz, _, r.reverse, IsTup.new _ _⟩, rfl, q _ (I3.hok.fresh (Nat.le_refl _))⟩ (by rw [List.size_toArray, ← r.length]; exact hz)
  show wpAny (model X.prog X.w) X.A (subscriptTail e (.Slice none none (some st) p2) (.ref a) (.ref s2.heap.objs.size)) (EP X pins σ Q) X.xe { s2 with heap := s2.heap.push { cls := .type "slice", data := .fields #[.none, .none, .int (-1) t] } }
  exact tail_any (ops := [.ref a, .ref s2.heap.objs.size]) ht.typeIs slot_tuple_getitem.lookup g (by with_unfolding_all rfl)
@[simp] def revM (f : M Sl) : M Sl := fun ρ => (bindD f fun d => match d with | .tup ds => retD (.tup ds.reverse) | _ => fun _ => none) ρ
theorem DtL.reverse {K : PySem.W.Frag} {H : Hp} : ∀ {v : List V} {d : List D}, DtL K H v d → DtL K H v.reverse d.reverse
  | _, _, .nil => .nil
  | _, _, .cons h hs => by
    rw [List.reverse_cons, List.reverse_cons]
    exact (DtL.reverse hs).append (.cons h .nil)
theorem px_rev {a : Expr} {f : M Sl} {j : Nat} {p3 p4 : Pos} (ha : PE X a (tE X.K pn E f)) : PE X (.Subscript a (.Slice none none (some (.UnaryOp .USub (.Constant (.int 1) j p3) p4)) p2) pos) (tE X.K pn E (revM f)) :=
  (pe_rev ha (po_some (pe_un un_neg pe_int))).imp fun σ H Q ⟨G, ρ, ok, w⟩ => ⟨G, ρ, ok, (Post.bindD ok w).mono fun v H1 ⟨G1, ρ1, d, ok1, s1, d1, p1⟩ => by
    cases d1 with
    | tup h9 hs => exact ⟨1, rfl, -1, rfl, rfl, _, _, rfl, Same.sqT ok1.sub h9, fun q hq => p1.tup ok1 hs.reverse hq⟩
    | _ => exact p1.elim⟩

/-! ### t * n -/
@[simp] def repD : D → D → M Sl := fun d e => match d, e with
  | .tup xs, .int k => fun ρ => if xs ≠ [] ∧ 2 ≤ k ∧ k ≤ 1000 ∧ xs.length ≤ 1000 then some (.val (.dt (.tup (List.replicate k.toNat xs).flatten)) ρ) else none
  | _, _ => fun _ => none
theorem DtL.rep {K : PySem.W.Frag} {H : Hp} {v : List V} {d : List D} (h : DtL K H v d) : ∀ n : Nat, DtL K H (List.replicate n v).flatten (List.replicate n d).flatten
  | 0 => .nil
  | n + 1 => by
    rw [List.replicate_succ, List.replicate_succ, List.flatten_cons, List.flatten_cons]
    exact h.append (DtL.rep h n)
theorem od_rep : OpD X pn E (rRepT X.K) repD := fun σ G H ρ v u d e Q ok hv hu p => by
  cases hv with
  | tup h hs =>
    cases hu with
    | int k =>
      rename_i a xs ds
      simp only [repD] at p
      by_cases c : ds ≠ [] ∧ 2 ≤ k ∧ k ≤ 1000 ∧ ds.length ≤ 1000
      · rw [if_pos c] at p
        have hl := hs.length
        exact ⟨_, k, _, rfl, rfl, Same.sqT ok.sub h, fun z => c.1 (List.eq_nil_of_length_eq_zero (by rw [← hl, z]; rfl)), c.2.1, c.2.2.1, by omega, fun q hq => p.tup ok (hs.rep _) hq⟩
      · rw [if_neg c] at p; exact p.elim
    | _ => exact p.elim
  | _ => exact p.elim

/-! ### str(x) -/
def strT : PyData → Str | .str x => x | d => d.shown
def showOk (d : D) : Bool := (toPy d).showable && okD d && decide ((strT (toPy d)).length ≤ sizeLine)
theorem call_strD (hg : X.A.guards = some []) (hu : X.A.units + 80 < cLine) : CallR X (.type "str") (fun xs H Q => ∃ x d, xs = [x] ∧ Dp X.K H x d ∧ d.showable = true ∧ SeqAt.shaped d = true ∧ (strT d).length ≤ sizeLine ∧ Q (.str (strT d)) H) := by
  intro pins s σ H xs us Q I r h
  obtain ⟨x, d, rfl, hd, hs, sh, hz, q⟩ := h
  obtain ⟨u, rfl, rx⟩ := vals1 r
  obtain ⟨as, rd⟩ := Dp.reads I d x u hd rx
  have hsm := PyData.noDict_hsm (as := as) (PyData.hasDict_of_canLay d (SeqAt.canLay_of_shaped sh))
  have dp := SeqAt.depth_of_shaped sh
  have fin : ∀ h' (u tk : Tok), (∀ b o, s.heap.get? b = some o → h'.get? b = some o) → EP X pins σ Q (.str (strT d) u) { s with heap := h', toks := tk } := fun h' u tk hk => ⟨.str _, H, I.kept (t' := tk) hk, ⟨_, rfl⟩, q⟩
  cases rd with
  | none => exact PySem.P.str_of_none (fin s.heap _ _ fun _ _ e => e)
  | bool b => exact PySem.P.str_of_bool (fin s.heap _ _ fun _ _ e => e)
  | int i t => exact PySem.P.str_of_int (by simpa [PyData.showable] using hs) (fin s.heap _ _ fun _ _ e => e)
  | str y t => exact PySem.P.str_of_str (fin s.heap t s.toks fun _ _ e => e)
  | list h1 h2 h3 h4 => exact str_of_reads (.list h1 h2 h3 h4) hs hsm hg (by omega) (fun _ _ e => e) (fun h' u tk hk => fin h' u tk hk) hz
  | tuple h1 h2 h3 h4 => exact str_of_reads (.tuple h1 h2 h3 h4) hs hsm hg (by omega) (fun _ _ e => e) (fun h' u tk hk => fin h' u tk hk) hz
  | dict h1 h2 h3 h4 h5 => exact absurd (SeqAt.canLay_of_shaped sh) (by simp [PyData.canLay0])
@[simp] def strD : List D → M Sl := fun ds => match ds with
  | [d] => fun ρ => if showOk d = true then some (.val (.dt (.str (strT (toPy d)))) ρ) else none
  | _ => fun _ => none
theorem cd_str : CallD X pn E (fun xs H Q => ∃ x d, xs = [x] ∧ Dp X.K H x d ∧ d.showable = true ∧ SeqAt.shaped d = true ∧ (strT d).length ≤ sizeLine ∧ Q (.str (strT d)) H) strD := fun σ G H ρ vs ds Q ok hd p => by
  unfold strD at p
  split at p
  · rename_i d
    obtain ⟨v, rfl, hv⟩ := hd.one
    by_cases c : showOk d = true
    · rw [if_pos c] at p
      simp only [showOk, Bool.and_eq_true, decide_eq_true_eq] at c
      exact ⟨v, _, rfl, (hv.mono ok.sub).toDp (SeqAt.canLay_of_shaped c.1.2), c.1.1, c.1.2, c.2, p.dt ok (.str _)⟩
    · rw [if_neg c] at p; exact p.elim
  · exact p.elim

/-! ### f(k = e) -/
theorem tCons_of {f : M Sl} {fs : M (List D)} {K : PySem.W.Frag} {σ : L2.St} {H : Hp} {Q : List V → Hp → Prop} (w : tA K pn E (consA f fs) σ H Q) : tCons (tE K pn E f) (tA K pn E fs) σ H Q := by
  obtain ⟨G, ρ, ok, h⟩ := w
  exact ⟨G, ρ, ok, (PostA.bindD ok h).mono fun v H1 ⟨G1, ρ1, d, ok1, s1, d1, p1⟩ =>
    ⟨G1, ρ1, ok1, (PostA.bindA ok1 p1).mono fun vs H2 ⟨G2, ρ2, ds, ok2, s2, d2, x2, p2⟩ => p2 _ G2 H2 ok2 Ext.refl (.cons (d1.mono s2) d2)⟩⟩
theorem _root_.L2.PK.imp {kws : List Keyword} {t u : TA} (h : PK X kws t) (i : ∀ σ H Q, u σ H Q → t σ H Q) : PK X kws u := ⟨fun pos pins s σ H Q I w => h.run pos pins s σ H Q I (i _ _ _ w)⟩
theorem pkx_nil : PK X [] (tA X.K pn E nilA) := pk_nil.imp fun σ H Q ⟨G, ρ, ok, h⟩ => h [] G H ok Ext.refl .nil
theorem pkx_cons {nm : Option Str} {e : Expr} {kpos : Pos} {kws : List Keyword} {f : M Sl} {fs : M (List D)} (ha : PE X e (tE X.K pn E f)) (hr : PK X kws (tA X.K pn E fs)) : PK X (⟨nm, e, kpos⟩ :: kws) (tA X.K pn E (consA f fs)) := (pk_cons ha hr).imp fun σ H Q w => tCons_of w
theorem pe_callK0 {CX : CXT} {k : Nat} {f : Addr} {fd : FuncData} {ps ks : List Str} {sp : Sp} {E : XK} {x : Str} {p : Pos} {kws : List Keyword} {tk : TA} (F : FnOk X.prog X.w X.K X.mg X.base CX k f fd ps sp) (hr : Room k X.A) (hg : Gl X x) (hm : X.mg x = some (.ref f)) (hk : PySem.W.keepIn X.K (.ref f) = true)
    (hb : ∀ (s : Shared) (ws : List Value), X.K.In s.heap → ws.length = ps.length → BindsTo s fd ⟨[], ks.zip ws⟩ (ps.zip ws)) (hx : Passes CX X E) (hkw : PK X kws tk) (hall : (backToKw pos (keywordEach kws X.env)).all (·.1.isSome) = true := by rfl)
    (hks : (backToKw pos (keywordEach kws X.env)).filterMap (·.1) = ks := by rfl) (hdb : (x == ("__debug__" : Str)) = false := by decide)
    (hpl : ((backTo pos (starEach [] X.env)).any (·.1) || (backToKw pos (keywordEach kws X.env)).any (·.1.isNone)) = false := by rfl) : PE X (.Call (.Name x p) [] kws pos) (fun σ H Q => tk σ H fun zs H2 => sp zs H2 Q E) := by
  refine ⟨fun pins s σ H Q I h => wpAny_Call_Name_kw (ld_glob I hg hm ?_ hdb)⟩
  refine PySem.W.callWith_KW0 (h₀ := X.base) I.ok.mod.kin hk hall (thn (hkw.run pos pins s σ H _ I h) fun ws s2 ⟨zs, H2, I2, rz, q2⟩ => ⟨I2.kIn, ?_⟩) hpl
  rw [hks]
  have hl : ws.length = ps.length := by rw [← rz.length]; exact F.len _ _ _ _ q2
  refine wpAny_call (codeAny_mono (F.run X.A X.stack s2 H2 ⟨[], ks.zip ws⟩ ws zs Q E hr I2.env0 (hb s2 ws I2.kIn hl) rz q2) fun r s' hq => ?_)
  cases r with
  | error e => exact hx pins σ H2 s2 e s' I2 hq
  | ok fl =>
    cases fl with
    | ret u => exact I2.after hq
    | _ => exact False.elim hq
theorem px_callK0 {F : Fn} {k : Nat} {f : Addr} {fd : FuncData} {ps ks : List Str} {x : Str} {p : Pos} {kws : List Keyword} {fs : M (List D)} (G : FnOk X.prog X.w X.K X.mg X.base CX0 k f fd ps (fun vs H Q _ => SpF X.K F vs H Q E00)) (hr : Room k X.A) (hm : X.mg x = some (.ref f)) (hk : PySem.W.keepIn X.K (.ref f) = true)
    (hb : ∀ (s : Shared) (ws : List Value), X.K.In s.heap → ws.length = ps.length → BindsTo s fd ⟨[], ks.zip ws⟩ (ps.zip ws)) (hkw : PK X kws (tA X.K pn E00 fs)) (hg : Gl X x := by rfl) (hall : (backToKw pos (keywordEach kws X.env)).all (·.1.isSome) = true := by rfl)
    (hks : (backToKw pos (keywordEach kws X.env)).filterMap (·.1) = ks := by rfl) (hdb : (x == ("__debug__" : Str)) = false := by decide)
    (hpl : ((backTo pos (starEach [] X.env)).any (·.1) || (backToKw pos (keywordEach kws X.env)).any (·.1.isNone)) = false := by rfl) : PE X (.Call (.Name x p) [] kws pos) (tE X.K pn E00 (callF F fs)) :=
  (pe_callK0 G hr hg hm hk hb pass0 hkw hall hks hdb hpl).imp fun σ H Q w => by
    have := tCall_of (pn := pn) (E := E00) (E' := E00) (F := F) (sp := fun vs H Q _ => SpF X.K F vs H Q E00) (fun _ _ _ h => h) σ H Q w
    unfold tCall at this
    simpa only [List.append_nil] using this
end

/-! ### a law right under its caller -/
section
variable {P : Program} {w : World} {K : PySem.W.Frag} {mg : Str → Option Value} {base : Heap}
theorem run_at {k : Nat} {x qual : Str} {st : Stmt} {f : Addr} {fd : FuncData} {N ps : List Str} {A : Around} {outer : List Env} {s : Shared} {H : Hp} {args : Args} {us : List Value} {vs : List V} {Q : VK} {E : XK}
    (F : Fun K x qual st f fd) (S : FnScope N ps (defScope st)) (room : Room (k + 1) A) (e0 : Env0 P w K mg base A outer s H) (bind : BindsTo s fd args (ps.zip us)) (rel : Vals vs us) (len : vs.length = ps.length)
    (body : ∀ cdv : Value, ∃ t, PSs (cxOf CX0 P w K mg base N qual (defScope st) f cdv A outer s H E).nox (defBody st) t ∧ t { nx := fun _ H' => Q .non H', rt := Q } (start N vs) H) :
    codeAny (model P w) A (.call (.ref f) args) (CR CX0 outer P w H s Q E) s := by
  obtain ⟨oc, od, kV, doc, pm, an, cdv, ct, osl, rfl, lk, code⟩ := F.ex
  have inK := e0.mod.kin.keeps fun b o e => (e0.bs b o e).1
  have nolim := e0.mod.nolimit.keeps fun b o e => (e0.bs b o e).1
  refine codeAny_call_function room.depth (inK _ _ lk) rfl S.co S.gen rfl (PySem.W.codeRec_of inK code) (bind _ _ _ _ (wpAny_newFunctionEnv_cells S.kind (fun ⟨n, v⟩ hy => (S.par n (List.of_mem_zip hy).1).imp id fun q => ⟨q, PySem.W.cellsFrom_some _ _ _ (.inl q)⟩) fun env he s1 y => ?_))
  subst he
  obtain ⟨t, ht, ready⟩ := body cdv
  refine ⟨nolim.keeps y.toInCall.keep, codeAny_func (wpAny_mono (ht.nox.run [] s1 (start N vs) H _ (inv_start S room.hd e0 len rel y) ready) (fun fl s' end_ => ?_) fun e s' end_ => end_)⟩
  cases fl with
  | ret u => exact let ⟨v, _, H', J, rv, q⟩ := end_; ⟨v, H', J.os, J.bare, J.base, J.hok, rv, q⟩
  | next => exact let ⟨_, H', J, q⟩ := end_; ⟨V.non, H', J.os, J.bare, J.base, J.hok, rfl, q⟩
  | brk => exact let ⟨_, _, _, q⟩ := end_; False.elim q
  | cont => exact let ⟨_, _, _, q⟩ := end_; False.elim q
end
end BT

/-! a law's def right under its caller, where no repr is under way -/
namespace BT
open PySem PySem.Spec PyProof.Rows L2
section
variable {P : Program} {w : World} {K : PySem.W.Frag} {mg mb : Str → Option Value}
/-- what the caller asks of the law -/
def Kept (s₁ : Shared) (r : Result) (s' : Shared) : Prop := r = .ok (.ret (.bool true)) ∧ OldK s₁.heap s'.heap ∧ s'.os = s₁.os ∧ AllBare s'.gens
/-- what the body owes: from any base, with the script as data -/
def BodyAt (P : Program) (w : World) (K : PySem.W.Frag) (mg : Str → Option Value) (N : List Str) (x qual : Str) (st : Stmt) (f a : Addr) (ns : List Int) : Prop :=
  ∀ (base : Heap) (cdv : Value) (s : Shared) (H : Hp), K.In base → base.Ns mainGlobals mg → SqL K H a (ns.map V.int) →
    ∃ t, PSs (cxOf CX0 P w K mg base N qual (defScope st) f cdv callerA [] s H fun _ _ _ => False).nox (defBody st) t ∧ t { nx := fun _ _ => V.non = .bl true, rt := fun v _ => v = .bl true } (start N [.ref a]) H
theorem law_one {k : Nat} {f a : Addr} {fd : FuncData} {x y qual : Str} {st : Stmt} {N : List Str} {s₁ : Shared} {vs : List Value} {ns : List Int} {H : Hp} (F : Fun K x qual st f fd) (S : FnScope N [y] (defScope st)) (room : Room (k + 1) callerA)
    (inK : K.In s₁.heap) (nsM : s₁.heap.Ns mainGlobals mg) (nsB : s₁.heap.Ns builtinsNs mb) (boot : ∀ x : Str, x ≠ "__name__" → mb x = bootBuiltins x) (nolim : s₁.heap.NoLimit) (nogen : s₁.gens = #[])
    (at_ : s₁.heap.get? a = some { cls := .type "list", data := .seq vs.toArray }) (bind : ∀ (s : Shared) (u : Value), BindsTo s fd ⟨[u], []⟩ [(y, u)]) (body : BodyAt P w K mg N x qual st f a ns)
    (only : Only H) (seq : SqL K H a (ns.map V.int)) (hok : HOk P w H s₁.heap) (one : ∀ b, H b ≠ none → b = a) (mine : H a ≠ none → K.lookup a = none) :
    codeAny (model P w) callerA (.call (.ref f) ⟨[.ref a], []⟩) (Kept s₁) s₁ := by
  have far : ∀ {b : Addr}, b ≠ a → H b = none := fun {b} n => Classical.byContradiction fun z => n (one b z)
  have isList : ∀ {o : Obj}, s₁.heap.get? a = some o → o.data = .seq vs.toArray := fun e => by rw [at_] at e; cases e; rfl
  have noA : ∀ {b : Addr} {o : Obj} {es : Array DictEntry} {ep : Nat}, s₁.heap.get? b = some o → o.data = .dict es ep → H b = none := fun {b o es ep} e d => far fun z => by
    subst z
    have q := isList e
    rw [d] at q; cases q
  have lift : ∀ {b : Addr} {m : Str → Option Value}, s₁.heap.Ns b m → (hidT s₁.heap H).Ns b m := fun ⟨o, es, ep, e, d, r⟩ => ⟨o, es, ep, hidT_get e (noA e d), d, r⟩
  have inB : K.In (hidT s₁.heap H) := fun b o e => hidT_get (inK b o e) (by
    by_cases c : b = a
    · subst c
      refine Classical.byContradiction fun z => ?_
      rw [mine z] at e; cases e
    · exact far c)
  have e0 : Env0 P w K mg (hidT s₁.heap H) callerA [] s₁ H :=
    ⟨rfl, ⟨inB, lift nsM, ⟨mb, lift nsB, boot⟩, nolim.imp fun mc h => ⟨lift h.1, h.2⟩⟩, fun b o e => of_hidT e, Nat.le_of_eq (hidT_size _ _), trivial, (fun b hb => nomatch hb), hok, .of_eq nogen⟩
  refine codeAny_mono (run_at (us := [.ref a]) (vs := [.ref a]) (Q := fun v _ => v = .bl true) (E := fun _ _ _ => False) F S room e0 (bind s₁ (.ref a)) (.cons rfl .nil) rfl fun cdv => body _ cdv s₁ H inB (lift nsM) seq) fun r s' h => ?_
  match r, h with
  | .error e, h => exact False.elim h
  | .ok .next, h => exact False.elim h
  | .ok .brk, h => exact False.elim h
  | .ok .cont, h => exact False.elim h
  | .ok (.ret u), ⟨v, H', os, bare, un, hok', rel, isT⟩ =>
    have isT' : v = .bl true := isT
    subst isT'
    obtain rfl : u = Value.bool true := rel
    refine ⟨rfl, OldK.of_keep fun b o e => ?_, os, bare⟩
    by_cases c : H b = none
    · exact un.keep b o e c (fun z => nomatch z) (by simp)
    · rcases only b with z | ⟨ob, xs, z⟩
      · exact absurd z c
      · have z1 := (hok b _ z).1
        rw [e] at z1; cases z1
        exact (hok' b _ (un.frzs b _ _ z)).1
theorem law_all {k : Nat} {f a : Addr} {fd : FuncData} {x y qual : Str} {st : Stmt} {N : List Str} {s₁ : Shared} {vs : List Value} {ns : List Int} (F : Fun K x qual st f fd) (S : FnScope N [y] (defScope st)) (room : Room (k + 1) callerA)
    (inK : K.In s₁.heap) (nsM : s₁.heap.Ns mainGlobals mg) (nsB : s₁.heap.Ns builtinsNs mb) (boot : ∀ x : Str, x ≠ "__name__" → mb x = bootBuiltins x) (nolim : s₁.heap.NoLimit) (nogen : s₁.gens = #[])
    (at_ : s₁.heap.get? a = some { cls := .type "list", data := .seq vs.toArray }) (hints : IntsAre vs ns) (short : ns.length ≤ sizeLine) (bind : ∀ (s : Shared) (u : Value), BindsTo s fd ⟨[u], []⟩ [(y, u)]) (body : BodyAt P w K mg N x qual st f a ns) :
    codeAny (model P w) callerA (.call (.ref f) ⟨[.ref a], []⟩) (Kept s₁) s₁ := by
  have rv := vals_ints hints
  have go := fun (H : Hp) => law_one (H := H) F S room inK nsM nsB boot nolim nogen at_ bind body
  by_cases hk : ∃ o, K.lookup a = some o
  · obtain ⟨o, hk⟩ := hk
    have e := inK a o hk
    rw [at_] at e; cases e
    exact go (fun _ => none) (fun _ => .inl rfl) (.inr ⟨_, vs.toArray, _, hk, rfl, rfl, rfl, by rw [List.size_toArray, hints.length]; exact short, by simpa using rv⟩) (fun b u z => nomatch (show (none : Option HO) = some u from z)) (fun b z => absurd rfl z) fun z => absurd rfl z
  · have hn : K.lookup a = none := by
      cases q : K.lookup a with
      | none => rfl
      | some o => exact absurd ⟨o, q⟩ hk
    let H : Hp := fun b => if b = a then some (.frz { cls := .type "list", data := .seq vs.toArray } (.lst (ns.map V.int))) else none
    have Ha : H a = some (.frz { cls := .type "list", data := .seq vs.toArray } (.lst (ns.map V.int))) := if_pos rfl
    have Hn : ∀ {b}, b ≠ a → H b = none := fun c => if_neg c
    refine go H (fun b => ?_) (.inl (.inr ⟨_, Ha⟩)) (fun b u z => ?_) (fun b z => Classical.byContradiction fun c => z (Hn c)) fun _ => hn
    · by_cases c : b = a
      · subst c; exact .inr ⟨_, _, Ha⟩
      · exact .inl (Hn c)
    · by_cases c : b = a
      · subst c
        rw [Ha] at z; cases z
        exact ⟨at_, by rw [List.length_map]; exact short, vs, _, rv, at_⟩
      · rw [Hn c] at z; cases z
end
/-- the goal that k_head leaves -/
theorem walk_at {l : PySem.W.OpenLaw} {n k : Nat} {q : Program} {loose : List Str} {XP : (Str → Option Value) → Heap → Prop} {YP : World → Heap → Prop} {d : DefRec} {K : Params → PySem.W.Frag} {x y qual : Str} {st : Stmt} {N : List Str}
    (most : l.most = some n) (small : n ≤ sizeLine) (plain : d.params.defaults = []) (room : Room (k + 1) callerA) (S : FnScope N [y] (defScope st)) (given : ∀ (w : World) (h : Heap), YP w h → (K w.params).In h)
    (made : ∀ (w : World) (mg : Str → Option Value) (f : Addr) (h : Heap), (K w.params).In h → h.Ns mainGlobals mg → mg d.name = some (.ref f) →
      ∃ fd : FuncData, Fun (K w.params) x qual st f fd ∧ (∀ (s : Shared) (u : Value), BindsTo s fd ⟨[u], []⟩ [(y, u)]) ∧ ∀ (a : Addr) (ns : List Int), ns.length ≤ n → BodyAt l.prog w (K w.params) mg N x qual st f a ns) :
    PySem.W.WalkO q loose XP YP l.row.toRowW d [] (fun f vs => PySem.call f vs) := by
  refine Att.attach_call most plain fun w s₀ s₁ mg mb f o pm cd doc a vs ns G Y ho hd hcd hmg at_ hints len nogen => ?_
  have inK := given w _ Y
  obtain ⟨fd, F, bind, body⟩ := made w mg f _ inK G.T.g hmg
  exact law_all F S room inK G.T.g G.T.b G.T.builtins G.T.nolimit nogen at_ hints (Nat.le_trans len small) bind (body a ns len)
end BT

/-! One object of the class of relations that stands aside of the data: its methods, and the defs that make one. -/
namespace BK
open PySem L2 BT

structure RA where (a dx d1 d2 l : Addr)
def RA.O (r : RA) (b : Addr) : Prop := b = r.a ∨ b = r.dx ∨ b = r.d1 ∨ b = r.d2 ∨ b = r.l
def RA.fs (r : RA) : List (Str × V) := [("together", .ref r.d1), ("numbers", .ref r.d2), ("later", .ref r.l)]
def numV (ns : List Str) : List (Key × V) := ns.mapIdx fun i n => (Sum.inr n, V.int (i : Nat))
structure RelAt (K : PySem.W.Frag) (C : Addr) (G H : Hp) (r : RA) (R : RS) : Prop where
  ia : H r.a = some (.ins C r.dx r.fs)
  id : H r.dx = some (.own r.a)
  h1 : ∃ kvs, H r.d1 = some (.dK kvs) ∧ DtK K G kvs (togD R.tg)
  h2 : H r.d2 = some (.dK (numV R.names))
  hl : H r.l = some (.lst (R.later.map V.int))
  no : ∀ b, r.O b → G b = none
  ne : r.d1 ≠ r.d2
theorem RA.Oa (r : RA) : r.O r.a := .inl rfl
theorem RA.Ox (r : RA) : r.O r.dx := .inr (.inl rfl)
theorem RA.O1 (r : RA) : r.O r.d1 := .inr (.inr (.inl rfl))
theorem RA.O2 (r : RA) : r.O r.d2 := .inr (.inr (.inr (.inl rfl)))
theorem RA.Ol (r : RA) : r.O r.l := .inr (.inr (.inr (.inr rfl)))
section
variable {K : PySem.W.Frag} {C : Addr} {G H G' H' : Hp} {r : RA} {R : RS}
theorem RelAt.some_ (h : RelAt K C G H r R) {b : Addr} (o : r.O b) : H b ≠ none := by
  obtain ⟨kvs, e, _⟩ := h.h1
  rcases o with rfl | rfl | rfl | rfl | rfl
  · rw [h.ia]; simp
  · rw [h.id]; simp
  · rw [e]; simp
  · rw [h.h2]; simp
  · rw [h.hl]; simp
/-- kept through what does not own it -/
theorem RelAt.ext {O O' : Addr → Prop} (h : RelAt K C G H r R) (x : Ext G H O G' H' O') (n : ∀ b, r.O b → ¬ O b) : RelAt K C G' H' r R ∧ ∀ b, r.O b → ¬ O' b := by
  obtain ⟨kvs, e, d⟩ := h.h1
  refine ⟨⟨x.keep _ _ h.ia (n _ r.Oa), x.keep _ _ h.id (n _ r.Ox), ⟨kvs, x.keep _ _ e (n _ r.O1), DtK.mono x.grow d⟩, x.keep _ _ h.h2 (n _ r.O2), x.keep _ _ h.hl (n _ r.Ol), fun b o => ?_, h.ne⟩, fun b o q => ?_⟩
  · cases eg : G' b with
    | none => rfl
    | some u =>
      rcases x.fresh b (by rw [eg]; simp) with q | q | q
      · exact absurd (h.no b o) q
      · exact absurd q (h.some_ o)
      · exact absurd q (n b o)
  · rcases x.own b q with q | q
    · exact n b o q
    · exact h.some_ o q
theorem numV_dt (ns : List Str) : DtK K H (numV ns) (numD ns) := by
  have go : ∀ (ns : List Str) (k : Nat), DtK K H (ns.mapIdx fun i n => ((Sum.inr n : Key), V.int ((k + i : Nat)))) (ns.mapIdx fun i n => ((Sum.inr n : Key), D.int ((k + i : Nat)))) := by
    intro ns
    induction ns with
    | nil => intro k; exact .nil
    | cons n ns ih =>
      intro k
      simp only [List.mapIdx_cons]
      refine .cons (.int _) ?_
      have := ih (k + 1)
      have e1 : (fun (i : Nat) (n : Str) => ((Sum.inr n : Key), V.int ((k + (i + 1) : Nat)))) = fun (i : Nat) (n : Str) => ((Sum.inr n : Key), V.int ((k + 1 + i : Nat))) := by
        funext i n; rw [show k + (i + 1) = k + 1 + i by omega]
      have e2 : (fun (i : Nat) (n : Str) => ((Sum.inr n : Key), D.int ((k + (i + 1) : Nat)))) = fun (i : Nat) (n : Str) => ((Sum.inr n : Key), D.int ((k + 1 + i : Nat))) := by
        funext i n; rw [show k + (i + 1) = k + 1 + i by omega]
      rw [e1, e2]; exact this
  have := go ns 0
  simp only [Nat.zero_add] at this
  exact this
theorem ints_dt : ∀ ns : List Int, DtL K H (ns.map V.int) (ns.map D.int)
  | [] => .nil
  | n :: ns => .cons (.int n) (ints_dt ns)
theorem strs_dt : ∀ ns : List Str, DtL K H (ns.map V.str) (ns.map D.str)
  | [] => .nil
  | n :: ns => .cons (.str n) (strs_dt ns)
/-- read as data -/
theorem RelAt.dt (h : RelAt K C G H r R) (s : Same G H) : Dt K H (.ref r.a) (relD C R) := by
  obtain ⟨kvs, e, d⟩ := h.h1
  exact .ins h.ia h.id (.cons (.dic (.inl e) (DtK.mono s d)) (.cons (.dic (.inl h.h2) (numV_dt _)) (.cons (.lst (SqL.of h.hl) (ints_dt _)) .nil)))

/-! ### data that hangs on no heap -/
def atomD : D → Bool | .non => true | .bl _ => true | .int _ => true | .str _ => true | _ => false
def atomS : Sl → Bool | .un => true | .dt d => atomD d | .ol ds => ds.all atomD
theorem atom_any {v : V} {d : D} (h : Dt K G v d) (a : atomD d = true) : Dt K G' v d := by
  cases h <;> first | exact .non | exact .bl _ | exact .int _ | exact .str _ | cases a
theorem atoms_any : ∀ {vs : List V} {ds : List D}, DtL K G vs ds → ds.all atomD = true → DtL K G' vs ds
  | _, _, .nil, _ => .nil
  | _, _, .cons h hs, a => by
    simp only [List.all_cons, Bool.and_eq_true] at a
    exact .cons (atom_any h a.1) (atoms_any hs a.2)
/-- a state of atoms holds over any frozen part in which its own lists do not stand -/
theorem EnvOk.atoms {pn : List (Nat × Addr)} {σ : St} {ρ : Rho} (ok : EnvOk K pn G H σ ρ) (a : ∀ s ∈ ρ, atomS s = true) (sub : Same G' H) (no : ∀ b, OwnAt σ ρ b → G' b = none) : EnvOk K pn G' H σ ρ := by
  refine ⟨sub, ok.len, fun i d h => ?_, fun i ds h => ?_, ok.inj, ok.pins⟩
  · obtain ⟨v, e, hd⟩ := ok.dt i d h
    exact ⟨v, e, atom_any hd (a _ (List.mem_of_getElem? h))⟩
  · obtain ⟨p, vs, e, h1, h2, h3⟩ := ok.ol i ds h
    exact ⟨p, vs, e, h1, no p ⟨i, ds, h, e⟩, atoms_any h3 (a _ (List.mem_of_getElem? h))⟩
end

/-! ### states with the object in slot i -/
abbrev MR := RS → Rho → Option (SRs × RS)
section
variable (K : PySem.W.Frag) (C : Addr) (i : Nat) (r : RA)
def PostR (G0 H0 : Hp) (O0 : Addr → Prop) (res : Option (SRs × RS)) (D : Ends) : Prop := match res with
  | some (.nx ρ', R') => ∀ σ' G' H', EnvOk K [(i, r.a)] G' H' σ' ρ' → RelAt K C G' H' r R' → (∀ b, r.O b → ¬ OwnAt σ' ρ' b) → Ext G0 H0 O0 G' H' (fun b => OwnAt σ' ρ' b ∨ r.O b) → D.nx σ' H'
  | some (.bk ρ', R') => ∀ σ' G' H', EnvOk K [(i, r.a)] G' H' σ' ρ' → RelAt K C G' H' r R' → (∀ b, r.O b → ¬ OwnAt σ' ρ' b) → Ext G0 H0 O0 G' H' (fun b => OwnAt σ' ρ' b ∨ r.O b) → D.bk σ' H'
  | some (.ct ρ', R') => ∀ σ' G' H', EnvOk K [(i, r.a)] G' H' σ' ρ' → RelAt K C G' H' r R' → (∀ b, r.O b → ¬ OwnAt σ' ρ' b) → Ext G0 H0 O0 G' H' (fun b => OwnAt σ' ρ' b ∨ r.O b) → D.ct σ' H'
  | some (.rt s ρ', R') => ∀ v σ' G' H', EnvOk K [(i, r.a)] G' H' (σ' ++ [some v]) (ρ' ++ [s]) → RelAt K C G' H' r R' → (∀ b, r.O b → ¬ OwnAt (σ' ++ [some v]) (ρ' ++ [s]) b) → Ext G0 H0 O0 G' H' (fun b => OwnAt (σ' ++ [some v]) (ρ' ++ [s]) b ∨ r.O b) → D.rt v H'
  | some (.exc _ _, _) => False
  | none => False
def tR (f : MR) : TS := fun D σ H => ∃ G ρ r R, EnvOk K [(i, r.a)] G H σ ρ ∧ RelAt K C G H r R ∧ (∀ b, r.O b → ¬ OwnAt σ ρ b) ∧ ρ[i]? = some .un ∧ PostR K C i r G H (fun b => OwnAt σ ρ b ∨ r.O b) (f R ρ) D
end
section
variable {K : PySem.W.Frag} {C : Addr} {i : Nat} {r : RA} {G H : Hp} {O : Addr → Prop} {D : Ends}
theorem PostR.at {G0 H0 : Hp} {O0 : Addr → Prop} {res : Option (SRs × RS)} (h : PostR K C i r G0 H0 O0 res D) (x : Ext G0 H0 O0 G H O) : PostR K C i r G H O res D := by
  unfold PostR at h ⊢
  split at h
  · exact fun s G' H' a b c d => h s G' H' a b c (x.trans d)
  · exact fun s G' H' a b c d => h s G' H' a b c (x.trans d)
  · exact fun s G' H' a b c d => h s G' H' a b c (x.trans d)
  · exact fun v s G' H' a b c d => h v s G' H' a b c (x.trans d)
  · exact h
  · exact h
theorem _root_.BT.Ext.wide {G H G' H' : Hp} {O O' P : Addr → Prop} (x : Ext G H O G' H' O') : Ext G H (fun b => O b ∨ P b) G' H' (fun b => O' b ∨ P b) :=
  ⟨x.grow, fun a h => (x.fresh a h).elim .inl fun h => h.elim (fun h => .inr (.inl h)) fun h => .inr (.inr (.inl h)), fun a o h n => x.keep a o h fun q => n (.inl q), fun a h => h.elim (fun h => (x.own a h).elim (fun h => .inl (.inl h)) .inr) fun h => .inl (.inr h)⟩
end
def isUn : Sl → Bool | .un => true | _ => false
def unAt (i : Nat) (ρ : Rho) : Bool := match ρ[i]? with | some s => isUn s | none => false
theorem unAt_iff {i : Nat} {ρ : Rho} : unAt i ρ = true ↔ ρ[i]? = some .un := by
  unfold unAt
  cases e : ρ[i]? with
  | none => simp
  | some s => cases s <;> simp [isUn]
def frmR (i : Nat) (f : MS) : MR := fun R ρ => match f ρ with
  | some (.nx ρ') => if unAt i ρ' = true then some (.nx ρ', R) else none
  | some (.rt s ρ') => some (.rt s ρ', R)
  | _ => none
section
variable {X : Cx} {C : Addr} {i : Nat} {pos : Pos}
theorem psr_frame {st : Stmt} {f : MS} (h : ∀ pn, (∀ q ∈ pn, q.1 ∈ [i]) → PS X st (tS X.K pn E00 f)) : PS X st (tR X.K C i (frmR i f)) := ⟨fun pins s σ H D I ⟨G, ρ, r, R, ok, rel, n, un, p⟩ => by
  refine (h [(i, r.a)] (fun q hq => by simp at hq; simp [hq])).run pins s σ H D I ⟨G, ρ, ok, ?_⟩
  unfold frmR at p
  cases e : f ρ with
  | none => rw [e] at p; exact p
  | some x =>
    rw [e] at p
    cases x with
    | nx ρ' =>
      intro σ' G' H' ok' x'
      simp only at p
      split at p
      · obtain ⟨rel', n'⟩ := rel.ext x' n
        exact p σ' G' H' ok' rel' n' x'.wide
      · exact p.elim
    | rt s ρ' =>
      intro v σ' G' H' ok' x'
      obtain ⟨rel', n'⟩ := rel.ext x' n
      exact p v σ' G' H' ok' rel' n' x'.wide
    | bk _ => exact p.elim
    | ct _ => exact p.elim
    | exc _ _ => exact p.elim⟩
def sqR (i : Nat) (f g : MR) : MR := fun R ρ => match f R ρ with
  | some (.nx ρ', R') => if unAt i ρ' = true then g R' ρ' else none
  | x => x
def nxR : MR := fun R ρ => some (.nx ρ, R)
theorem psr_nil : PSs X [] (tR X.K C i nxR) := pss_nil.imp fun D σ H ⟨G, ρ, r, R, ok, rel, n, un, p⟩ => p σ G H ok rel n Ext.refl
theorem psr_cons {st : Stmt} {rest : List Stmt} {f g : MR} (h1 : PS X st (tR X.K C i f)) (h2 : PSs X rest (tR X.K C i g)) : PSs X (st :: rest) (tR X.K C i (sqR i f g)) :=
  (pss_cons h1 h2).imp fun D σ H ⟨G, ρ, r, R, ok, rel, n, un, p⟩ => by
    refine ⟨G, ρ, r, R, ok, rel, n, un, ?_⟩
    unfold sqR at p
    cases e : f R ρ with
    | none => rw [e] at p; exact p
    | some x =>
      rw [e] at p
      obtain ⟨x, R'⟩ := x
      cases x with
      | nx ρ' =>
        intro σ' G' H' a b c d
        simp only at p
        split at p
        · rename_i z
          exact ⟨G', ρ', r, R', a, b, c, unAt_iff.mp z, p.at d⟩
        · exact p.elim
      | rt _ _ => exact p
      | bk _ => exact p
      | ct _ => exact p
      | exc _ _ => exact p
theorem psr_one {st : Stmt} {f : MR} (h1 : PS X st (tR X.K C i f)) : PSs X [st] (tR X.K C i f) := pss_one h1

/-- a statement that reads the object as data and makes atoms alone -/
def viewR (C : Addr) (i : Nat) (f : MS) : MR := fun R ρ => match f (ρ.set i (.dt (relD C R))) with
  | some (.nx ρ') => if (ρ'.set i .un).all atomS = true then some (.nx (ρ'.set i .un), R) else none
  | some (.rt s ρ') => if i < ρ'.length ∧ atomS s = true ∧ (ρ'.set i .un).all atomS = true then some (.rt s (ρ'.set i .un), R) else none
  | _ => none
theorem EnvOk.unSlot {K : PySem.W.Frag} {pn : List (Nat × Addr)} {G H : Hp} {σ : St} {ρ : Rho} (ok : EnvOk K pn G H σ ρ) (i : Nat) : EnvOk K pn G H σ (ρ.set i .un) ∧ ∀ a, OwnAt σ (ρ.set i .un) a → OwnAt σ ρ a := by
  have g : ∀ {j : Nat} {s : Sl}, (ρ.set i .un)[j]? = some s → s = .un ∨ ρ[j]? = some s := fun {j s} h => by
    by_cases z : i = j
    · subst z
      rw [List.getElem?_set_self'] at h
      cases e : ρ[i]? with
      | none => rw [e] at h; cases h
      | some _ => rw [e] at h; cases h; exact .inl rfl
    · rw [List.getElem?_set_ne z] at h; exact .inr h
  refine ⟨⟨ok.sub, by rw [List.length_set]; exact ok.len, fun j d h => ?_, fun j ds h => ?_, fun j k ds es p h1 h2 => ?_, ok.pins⟩, fun a ⟨j, ds, h1, h2⟩ => ?_⟩
  · rcases g h with h | h
    · cases h
    · exact ok.dt j d h
  · rcases g h with h | h
    · cases h
    · exact ok.ol j ds h
  · rcases g h1 with h | h1
    · cases h
    · rcases g h2 with h | h2
      · cases h
      · exact ok.inj j k ds es p h1 h2
  · rcases g h1 with h | h
    · cases h
    · exact ⟨j, ds, h, h2⟩
theorem EnvOk.putDt {K : PySem.W.Frag} {pn : List (Nat × Addr)} {G H : Hp} {σ : St} {ρ : Rho} {i : Nat} {v : V} {d : D} (ok : EnvOk K pn G H σ ρ) (un : ρ[i]? = some .un) (hv : σ[i]? = some (some v)) (h : Dt K G v d) : EnvOk K pn G H σ (ρ.set i (.dt d)) ∧ ∀ a, OwnAt σ (ρ.set i (.dt d)) a → OwnAt σ ρ a := by
  have hlt := lt_of_get un
  have g : ∀ {j : Nat} {s : Sl}, (ρ.set i (.dt d))[j]? = some s → (j = i ∧ s = .dt d) ∨ ρ[j]? = some s := fun {j s} h => by
    by_cases z : i = j
    · subst z
      rw [List.getElem?_set_self hlt] at h
      exact .inl ⟨rfl, (Option.some.inj h).symm⟩
    · rw [List.getElem?_set_ne z] at h; exact .inr h
  refine ⟨⟨ok.sub, by rw [List.length_set]; exact ok.len, fun j e hj => ?_, fun j ds hj => ?_, fun j k ds es p h1 h2 => ?_, ok.pins⟩, fun a ⟨j, ds, h1, h2⟩ => ?_⟩
  · rcases g hj with ⟨z, hj2⟩ | hj
    · injection hj2 with hj2; subst z hj2; exact ⟨v, hv, h⟩
    · exact ok.dt j e hj
  · rcases g hj with ⟨_, hj2⟩ | hj
    · injection hj2
    · exact ok.ol j ds hj
  · rcases g h1 with ⟨rfl, h⟩ | h1
    · cases h
    · rcases g h2 with ⟨rfl, h⟩ | h2
      · cases h
      · exact ok.inj j k ds es p h1 h2
  · rcases g h1 with ⟨rfl, h⟩ | h
    · cases h
    · exact ⟨j, ds, h, h2⟩
/-- the heap without the addresses of P -/
noncomputable def hide (H : Hp) (P : Addr → Prop) : Hp := fun b => @ite _ (P b) (Classical.propDecidable _) none (H b)
theorem hide_in {H : Hp} {P : Addr → Prop} {b : Addr} (h : P b) : hide H P b = none := by unfold hide; exact if_pos h
theorem hide_out {H : Hp} {P : Addr → Prop} {b : Addr} (h : ¬ P b) : hide H P b = H b := by unfold hide; exact if_neg h
theorem hide_sub {H : Hp} {P : Addr → Prop} : Same (hide H P) H := fun b o e => by
  by_cases c : P b
  · rw [hide_in c] at e; cases e
  · rw [hide_out c] at e; exact e
theorem nown_of {K : PySem.W.Frag} {pn : List (Nat × Addr)} {G H : Hp} {σ : St} {ρ : Rho} (ok : EnvOk K pn G H σ ρ) {b : Addr} {o : HO} (h : G b = some o) : ¬ OwnAt σ ρ b := fun ⟨j, ds, h1, h2⟩ => by
  obtain ⟨p, vs, e, _, h3, _⟩ := ok.ol j ds h1
  rw [h2] at e; cases e
  rw [h] at h3; cases h3
theorem EnvOk.widen {K : PySem.W.Frag} {pn : List (Nat × Addr)} {G H : Hp} {σ : St} {ρ : Rho} (ok : EnvOk K pn G H σ ρ) : EnvOk K pn (hide H (OwnAt σ ρ)) H σ ρ ∧ Same G (hide H (OwnAt σ ρ)) := by
  have gs : Same G (hide H (OwnAt σ ρ)) := fun b o e => by rw [hide_out (nown_of ok e)]; exact ok.sub b o e
  refine ⟨⟨hide_sub, ok.len, fun i d h => ?_, fun i ds h => ?_, ok.inj, ok.pins⟩, gs⟩
  · obtain ⟨v, a, b⟩ := ok.dt i d h; exact ⟨v, a, b.mono gs⟩
  · obtain ⟨p, vs, a, b, c, d⟩ := ok.ol i ds h
    exact ⟨p, vs, a, b, hide_in ⟨i, ds, h, a⟩, d.mono gs⟩
/-- the state in which the object is data -/
theorem view_in {K : PySem.W.Frag} {C : Addr} {i : Nat} {r : RA} {R : RS} {G H : Hp} {σ : St} {ρ : Rho} (ok : EnvOk K [(i, r.a)] G H σ ρ) (rel : RelAt K C G H r R) (n : ∀ b, r.O b → ¬ OwnAt σ ρ b) (un : ρ[i]? = some .un) :
    EnvOk K [(i, r.a)] (hide H (OwnAt σ ρ)) H σ (ρ.set i (.dt (relD C R))) ∧ ∀ a, OwnAt σ (ρ.set i (.dt (relD C R))) a → OwnAt σ ρ a := by
  obtain ⟨ok2, gs⟩ := EnvOk.widen ok
  have hv : σ[i]? = some (some (.ref r.a)) := ok.pins (i, r.a) (by simp)
  obtain ⟨kvs, e, d⟩ := rel.h1
  have at_ : ∀ {b : Addr} {o : HO}, r.O b → H b = some o → hide H (OwnAt σ ρ) b = some o := fun ob h => by rw [hide_out (n _ ob)]; exact h
  have hd : Dt K (hide H (OwnAt σ ρ)) (.ref r.a) (relD C R) :=
    .ins (at_ r.Oa rel.ia) (at_ r.Ox rel.id) (.cons (.dic (.inl (at_ r.O1 e)) (DtK.mono gs d)) (.cons (.dic (.inl (at_ r.O2 rel.h2)) (numV_dt _)) (.cons (.lst (SqL.of (at_ r.Ol rel.hl)) (ints_dt _)) .nil)))
  exact EnvOk.putDt ok2 un hv hd
theorem view_out {K : PySem.W.Frag} {C : Addr} {i : Nat} {r : RA} {R : RS} {G H Gv G' H' : Hp} {σ σ' : St} {ρ ρ' : Rho} {Ov : Addr → Prop} (hs : Same G H) (rel : RelAt K C G H r R) (n : ∀ b, r.O b → ¬ OwnAt σ ρ b) (no : ∀ b, OwnAt σ ρ b → G b = none) (hO : ∀ a, Ov a → OwnAt σ ρ a)
    (ok' : EnvOk K [(i, r.a)] G' H' σ' ρ') (x : Ext Gv H Ov G' H' (OwnAt σ' ρ')) (at_ : ∀ s ∈ ρ'.set i .un, atomS s = true) :
    EnvOk K [(i, r.a)] G H' σ' (ρ'.set i .un) ∧ RelAt K C G H' r R ∧ (∀ b, r.O b → ¬ OwnAt σ' ρ' b) ∧ Ext G H (fun b => OwnAt σ ρ b ∨ r.O b) G H' (fun b => OwnAt σ' (ρ'.set i .un) b ∨ r.O b) := by
  obtain ⟨ok2, sub2⟩ := EnvOk.unSlot ok' i
  have keep : ∀ b o, H b = some o → ¬ OwnAt σ ρ b → H' b = some o := fun b o e q => x.keep b o e fun z => q (hO b z)
  have sub : Same G H' := fun b o e => keep b o (hs b o e) fun z => by rw [no b z] at e; cases e
  have own : ∀ b, OwnAt σ' ρ' b → OwnAt σ ρ b ∨ H b = none := fun b z => (x.own b z).imp (hO b) id
  obtain ⟨kvs, e, d⟩ := rel.h1
  have nn : ∀ b, r.O b → ¬ OwnAt σ' ρ' b := fun b o z => (own b z).elim (n b o) (rel.some_ o)
  refine ⟨EnvOk.atoms ok2 at_ sub fun b z => ?_, ⟨keep _ _ rel.ia (n _ r.Oa), keep _ _ rel.id (n _ r.Ox), ⟨kvs, keep _ _ e (n _ r.O1), d⟩, keep _ _ rel.h2 (n _ r.O2), keep _ _ rel.hl (n _ r.Ol), rel.no, rel.ne⟩, nn, Same.refl _, fun _ h => .inl h, fun b o e q => keep b o e fun z => q (.inl z), fun b z => ?_⟩
  · rcases own b (sub2 b z) with h | h
    · exact no b h
    · exact Same.free hs h
  · rcases z with z | z
    · rcases own b (sub2 b z) with h | h
      · exact .inl (.inl h)
      · exact .inr h
    · exact .inl (.inr z)
end
theorem own_no {K : PySem.W.Frag} {pn : List (Nat × Addr)} {G H : Hp} {σ : St} {ρ : Rho} (ok : EnvOk K pn G H σ ρ) : ∀ b, OwnAt σ ρ b → G b = none := fun b ⟨j, ds, h1, h2⟩ => by
  obtain ⟨p, vs, e, _, h3, _⟩ := ok.ol j ds h1
  rw [h2] at e; cases e; exact h3
section
variable {X : Cx} {C : Addr} {i : Nat} {pos : Pos}
theorem psr_view {st : Stmt} {f : MS} (h : ∀ pn, (∀ q ∈ pn, q.1 ∈ [i]) → PS X st (tS X.K pn E00 f)) : PS X st (tR X.K C i (viewR C i f)) := ⟨fun pins s σ H D I ⟨G, ρ, r, R, ok, rel, n, un, p⟩ => by
  obtain ⟨okv, hO⟩ := view_in ok rel n un
  refine (h [(i, r.a)] (fun q hq => by simp at hq; simp [hq])).run pins s σ H D I ⟨_, _, okv, ?_⟩
  unfold viewR at p
  cases e : f (ρ.set i (.dt (relD C R))) with
  | none => rw [e] at p; exact p
  | some x =>
    rw [e] at p
    cases x with
    | nx ρ' =>
      intro σ' G' H' ok' x'
      simp only at p
      split at p
      · rename_i z
        obtain ⟨a, b, c, d⟩ := view_out ok.sub rel n (own_no ok) hO ok' x' (List.all_eq_true.mp z)
        exact p σ' G H' a b (fun b o q => c b o ((EnvOk.unSlot ok' i).2 b q)) d
      · exact p.elim
    | rt s ρ' =>
      intro v σ' G' H' ok' x'
      simp only at p
      split at p
      · rename_i z
        obtain ⟨z0, z1, z2⟩ := z
        have es : (ρ' ++ [s]).set i .un = ρ'.set i .un ++ [s] := List.set_append_left _ _ z0
        obtain ⟨a, b, c, d⟩ := view_out ok.sub rel n (own_no ok) hO ok' x' (fun t ht => by
          rw [es] at ht
          rcases List.mem_append.mp ht with h | h
          · exact List.all_eq_true.mp z2 t h
          · simp at h; rw [h]; exact z1)
        rw [es] at a d
        refine p v σ' G H' a b (fun b o q => c b o ?_) d
        have := (EnvOk.unSlot ok' i).2 b
        rw [es] at this
        exact this q
      · exact p.elim
    | bk _ => exact p.elim
    | ct _ => exact p.elim
    | exc _ _ => exact p.elim⟩
end
end BK

namespace BK
open PySem L2 BT

/-! ### expressions and tests that may change the object -/
section
variable (K : PySem.W.Frag) (C : Addr) (i : Nat) (r : RA) (σ : St)
def PostER (G0 H0 : Hp) (O0 : Addr → Prop) (res : Option (Sl × Rho × RS)) (Q : VK) : Prop := match res with
  | some (s, ρ', R') => ∀ v G' H', EnvOk K [(i, r.a)] G' H' (σ ++ [some v]) (ρ' ++ [s]) → RelAt K C G' H' r R' → (∀ b, r.O b → ¬ OwnAt (σ ++ [some v]) (ρ' ++ [s]) b) → Ext G0 H0 O0 G' H' (fun b => OwnAt (σ ++ [some v]) (ρ' ++ [s]) b ∨ r.O b) → Q v H'
  | none => False
def PostTR (G0 H0 : Hp) (O0 : Addr → Prop) (res : Option (Bool × Rho × RS)) (Q : Bool → Hp → Prop) : Prop := match res with
  | some (s, ρ', R') => ∀ G' H', EnvOk K [(i, r.a)] G' H' σ ρ' → RelAt K C G' H' r R' → (∀ b, r.O b → ¬ OwnAt σ ρ' b) → Ext G0 H0 O0 G' H' (fun b => OwnAt σ ρ' b ∨ r.O b) → Q s H'
  | none => False
def PostIR (G0 H0 : Hp) (O0 : Addr → Prop) (res : Option (List D × Rho × RS)) (Q : It → Hp → Prop) : Prop := match res with
  | some (ds, ρ', R') => ∀ J G' H', EnvOk K [(i, r.a)] G' H' σ ρ' → RelAt K C G' H' r R' → (∀ b, r.O b → ¬ OwnAt σ ρ' b) → Ext G0 H0 O0 G' H' (fun b => OwnAt σ ρ' b ∨ r.O b) → Yields K J G' ds → Q J H'
  | none => False
end
abbrev ER (α : Type) := RS → Rho → Option (α × Rho × RS)
section
variable (K : PySem.W.Frag) (C : Addr) (i : Nat)
def tER (f : ER Sl) : TE := fun σ H Q => ∃ G ρ r R, EnvOk K [(i, r.a)] G H σ ρ ∧ RelAt K C G H r R ∧ (∀ b, r.O b → ¬ OwnAt σ ρ b) ∧ ρ[i]? = some .un ∧ PostER K C i r σ G H (fun b => OwnAt σ ρ b ∨ r.O b) (f R ρ) Q
def tTR (f : ER Bool) : TT := fun σ H Q => ∃ G ρ r R, EnvOk K [(i, r.a)] G H σ ρ ∧ RelAt K C G H r R ∧ (∀ b, r.O b → ¬ OwnAt σ ρ b) ∧ ρ[i]? = some .un ∧ PostTR K C i r σ G H (fun b => OwnAt σ ρ b ∨ r.O b) (f R ρ) Q
def tIR (f : ER (List D)) : TI := fun σ H Q => ∃ G ρ r R, EnvOk K [(i, r.a)] G H σ ρ ∧ RelAt K C G H r R ∧ (∀ b, r.O b → ¬ OwnAt σ ρ b) ∧ ρ[i]? = some .un ∧ PostIR K C i r σ G H (fun b => OwnAt σ ρ b ∨ r.O b) (f R ρ) Q
end
theorem PostER.mono {K : PySem.W.Frag} {C : Addr} {i : Nat} {r : RA} {σ : St} {G0 H0 : Hp} {O0 : Addr → Prop} {res : Option (Sl × Rho × RS)} {Q Q' : VK} (h : PostER K C i r σ G0 H0 O0 res Q) (q : ∀ v H, Q v H → Q' v H) : PostER K C i r σ G0 H0 O0 res Q' := by
  unfold PostER at h ⊢
  split at h
  · exact fun v G' H' a b c d => q _ _ (h v G' H' a b c d)
  · exact h
theorem PostTR.mono {K : PySem.W.Frag} {C : Addr} {i : Nat} {r : RA} {σ : St} {G0 H0 : Hp} {O0 : Addr → Prop} {res : Option (Bool × Rho × RS)} {Q Q' : Bool → Hp → Prop} (h : PostTR K C i r σ G0 H0 O0 res Q) (q : ∀ v H, Q v H → Q' v H) : PostTR K C i r σ G0 H0 O0 res Q' := by
  unfold PostTR at h ⊢
  split at h
  · exact fun G' H' a b c d => q _ _ (h G' H' a b c d)
  · exact h
/-- a method's contract: the object's state and the arguments give a value and a new state -/
abbrev FR := RS → List D → Option (D × RS)
def SpR (K : PySem.W.Frag) (C : Addr) (F : FR) : Sp := fun vs H Q _ => ∃ G r R ds ws, vs = .ref r.a :: ws ∧ Same G H ∧ RelAt K C G H r R ∧ DtL K G ws ds ∧
  match F R ds with
  | some (d, R') => ∀ v G' H', Same G' H' → RelAt K C G' H' r R' → Dt K G' v d → Ext G H r.O G' H' r.O → Q v H'
  | none => False
def methR (F : FR) (fs : M (List D)) : ER Sl := fun R ρ => match fs ρ with
  | some (.val ds ρ') => (match F R ds with | some (d, R') => some (.dt d, ρ', R') | none => none)
  | _ => none
section
variable {X : Cx} {C : Addr} {i : Nat} {pos : Pos}
theorem relF_no {r : RA} {m : Str} (h : (m == "together") = false ∧ (m == "numbers") = false ∧ (m == "later") = false) : r.fs.lookup m = none := by
  unfold RA.fs
  simp [List.lookup_cons, h.1, h.2.1, h.2.2]
theorem per_meth {F : FR} {m : Str} {k : Nat} {f : Addr} {fd : FuncData} {ps : List Str} {apos : Pos} {o e : Expr} {es : List Expr} {fs : M (List D)} (ho : PE X o (tVar i)) (c : Cls X.K C) (hm : Meth X.K C m f)
    (G : FnOk X.prog X.w X.K X.mg X.base CX0 k f fd ps (SpR X.K C F)) (hr : Room k X.A) (hb : Binds X.K fd ps []) (ha : ∀ pn, (∀ q ∈ pn, q.1 ∈ [i]) → PA X (e :: es) (tA X.K pn E00 fs)) (hn : (m == "together") = false ∧ (m == "numbers") = false ∧ (m == "later") = false)
    (h : ∀ {T : TE} {U : TA}, PE X o T → PA X (e :: es) U → PE X (.Call (.Attribute o m apos) (e :: es) [] pos) (tMeth C m (SpR X.K C F) [] E0 T U)) :
    PE X (.Call (.Attribute o m apos) (e :: es) [] pos) (tER X.K C i (methR F fs)) := ⟨fun pins s σ H Q I ⟨G, ρ, r, R, ok, rel, n, un, p⟩ => by
  refine (h ho (ha [(i, r.a)] fun q hq => by simp at hq; simp [hq])).run pins s σ H Q I ⟨_, ok.pins (i, r.a) (by simp), r.a, r.dx, r.fs, rfl, rel.ia, relF_no hn, G, ρ, ok, ?_⟩
  unfold methR at p
  cases ef : fs ρ with
  | none => rw [ef] at p; exact p
  | some x =>
    rw [ef] at p
    cases x with
    | exc _ _ => exact p.elim
    | val ds ρ' =>
      intro vs G1 H1 ok1 x1 d1
      simp only at p
      cases eF : F R ds with
      | none => rw [eF] at p; exact p.elim
      | some y =>
        obtain ⟨d, R'⟩ := y
        rw [eF] at p
        obtain ⟨rel1, n1⟩ := rel.ext x1 n
        rw [List.append_nil]
        refine ⟨G1, r, R, ds, vs, rfl, ok1.sub, rel1, d1, ?_⟩
        rw [eF]
        intro v G2 H2 sub2 rel2 d2 x2
        have ok2 : EnvOk X.K [(i, r.a)] G2 H2 σ ρ' := by
          refine ⟨sub2, ok1.len, fun j d h => ?_, fun j ds h => ?_, ok1.inj, ok1.pins⟩
          · obtain ⟨v, a, b⟩ := ok1.dt j d h; exact ⟨v, a, b.mono x2.grow⟩
          · obtain ⟨q, ws, a, b, c, d⟩ := ok1.ol j ds h
            have nq : ¬ r.O q := fun o => n1 q o ⟨j, ds, h, a⟩
            refine ⟨q, ws, a, x2.keep _ _ b nq, ?_, d.mono x2.grow⟩
            cases eg : G2 q with
            | none => rfl
            | some u =>
              rcases x2.fresh q (by rw [eg]; simp) with z | z | z
              · exact absurd c z
              · rw [b] at z; cases z
              · exact absurd z nq
        refine p v G2 H2 (ok2.push_dt d2) rel2 (fun b o z => n1 b o (own_push_dt ok2.len z)) ⟨x1.grow.trans x2.grow, fun b hb => ?_, fun b o e q => ?_, fun b z => ?_⟩
        · have w := (x1.wide (P := r.O)).trans (⟨x2.grow, fun b h => (x2.fresh b h).elim .inl fun h => h.elim (fun h => .inr (.inl h)) fun h => .inr (.inr (.inr h)), fun b o e q => x2.keep b o e fun z => q (.inr z), fun b z => z.elim (fun z => .inl (.inl z)) fun z => .inl (.inr z)⟩ : Ext G1 H1 (fun b => OwnAt σ ρ' b ∨ r.O b) G2 H2 (fun b => OwnAt σ ρ' b ∨ r.O b))
          exact w.fresh b hb
        · have w := (x1.wide (P := r.O)).trans (⟨x2.grow, fun b h => (x2.fresh b h).elim .inl fun h => h.elim (fun h => .inr (.inl h)) fun h => .inr (.inr (.inr h)), fun b o e q => x2.keep b o e fun z => q (.inr z), fun b z => z.elim (fun z => .inl (.inl z)) fun z => .inl (.inr z)⟩ : Ext G1 H1 (fun b => OwnAt σ ρ' b ∨ r.O b) G2 H2 (fun b => OwnAt σ ρ' b ∨ r.O b))
          exact w.keep b o e q
        · rcases z with z | z
          · exact ((x1.wide (P := r.O)).own b (.inl (own_push_dt ok2.len z)))
          · exact .inl (.inr z)⟩
def dropR (f : ER Sl) : MR := fun R ρ => match f R ρ with | some (_, ρ', R') => some (.nx ρ', R') | none => none
theorem psr_expr {e : Expr} {f : ER Sl} (he : PE X e (tER X.K C i f)) (hs : swapsWith e none pos.line X.env = pure false := by rfl) : PS X (.Expr e pos) (tR X.K C i (dropR f)) :=
  (ps_expr he hs).imp fun D σ H ⟨G, ρ, r, R, ok, rel, n, un, p⟩ => ⟨G, ρ, r, R, ok, rel, n, un, by
    unfold dropR at p
    cases e : f R ρ with
    | none => rw [e] at p; exact p
    | some x =>
      obtain ⟨s, ρ', R'⟩ := x
      rw [e] at p
      intro v G' H' a b c d
      have a2 := a.pop (ok.pinLt)
      exact p σ G' H' a2 b (fun q o z => c q o (own_up a2.len z)) ⟨d.grow, d.fresh, d.keep, fun q z => d.own q (z.elim (fun z => .inl (own_up a2.len z)) .inr)⟩⟩
def retR (f : ER Sl) : MR := fun R ρ => match f R ρ with | some (s, ρ', R') => some (.rt s ρ', R') | none => none
theorem psr_ret {e : Expr} {f : ER Sl} (he : PE X e (tER X.K C i f)) : PS X (.Return (some e) pos) (tR X.K C i (retR f)) :=
  (ps_ret he).imp fun D σ H ⟨G, ρ, r, R, ok, rel, n, un, p⟩ => ⟨G, ρ, r, R, ok, rel, n, un, by
    unfold retR at p
    cases e : f R ρ with
    | none => rw [e] at p; exact p
    | some x =>
      obtain ⟨s, ρ', R'⟩ := x
      rw [e] at p
      exact fun v G' H' a b c d => p v σ G' H' a b c d⟩
def toBR (f : ER Sl) : ER Bool := fun R ρ => match f R ρ with | some (.dt (.bl b), ρ', R') => some (b, ρ', R') | _ => none
theorem ptr_x {a : Expr} {f : ER Sl} (h : PE X a (tER X.K C i f)) (he : ∀ whole, isTrue a X.env whole = (do let v ← whole; standAt a.pos; holding [v] (truthy v)) := by intro _; rfl) : PT X a (tTR X.K C i (toBR f)) :=
  (pt_val h he).imp fun σ H Q ⟨G, ρ, r, R, ok, rel, n, un, p⟩ => ⟨G, ρ, r, R, ok, rel, n, un, by
    unfold toBR at p
    cases e : f R ρ with
    | none => rw [e] at p; exact p
    | some x =>
      obtain ⟨s, ρ', R'⟩ := x
      rw [e] at p
      intro v G' H' a b c d
      cases s with
      | dt y =>
        cases y with
        | bl k =>
          have a2 := a.pop (ok.pinLt)
          obtain ⟨w, e1, e2⟩ := a.dt ρ'.length (.bl k) get_append_eq
          rw [← a2.len, get_append_eq] at e1; cases e1
          cases e2
          exact ⟨k, rfl, p G' H' a2 b (fun q o z => c q o (own_up a2.len z)) ⟨d.grow, d.fresh, d.keep, fun q z => d.own q (z.elim (fun z => .inl (own_up a2.len z)) .inr)⟩⟩
        | _ => exact p.elim
      | _ => exact p.elim⟩
def notR (f : ER Bool) : ER Bool := fun R ρ => match f R ρ with | some (b, x) => some (!b, x) | none => none
theorem ptr_not {a : Expr} {f : ER Bool} (h : PT X a (tTR X.K C i f)) : PT X (.UnaryOp .Not a pos) (tTR X.K C i (notR f)) :=
  (pt_not h).imp fun σ H Q ⟨G, ρ, r, R, ok, rel, n, un, p⟩ => ⟨G, ρ, r, R, ok, rel, n, un, by
    unfold notR at p
    cases e : f R ρ with
    | none => rw [e] at p; exact p
    | some x =>
      obtain ⟨s, ρ', R'⟩ := x
      rw [e] at p
      exact fun G' H' a b c d => p G' H' a b c d⟩
def ifR (i : Nat) (t : ER Bool) (f g : MR) : MR := fun R ρ => match t R ρ with
  | some (b, ρ', R') => if unAt i ρ' = true then (if b = true then f R' ρ' else g R' ρ') else none
  | none => none
theorem psr_if {c : Expr} {a b : List Stmt} {t : ER Bool} {f g : MR} (hc : PT X c (tTR X.K C i t)) (ha : PSs X a (tR X.K C i f)) (hb : PSs X b (tR X.K C i g)) : PS X (.If c a b pos) (tR X.K C i (ifR i t f g)) :=
  (ps_if hc ha hb).imp fun D σ H ⟨G, ρ, r, R, ok, rel, n, un, p⟩ => ⟨G, ρ, r, R, ok, rel, n, un, by
    unfold ifR at p
    cases e : t R ρ with
    | none => rw [e] at p; exact p
    | some x =>
      obtain ⟨s, ρ', R'⟩ := x
      rw [e] at p
      intro G' H' a b c d
      simp only at p
      split at p
      · rename_i z
        cases s with
        | true => exact ⟨G', ρ', r, R', a, b, c, unAt_iff.mp z, p.at d⟩
        | false => exact ⟨G', ρ', r, R', a, b, c, unAt_iff.mp z, p.at d⟩
      · exact p.elim⟩
/-- a test that reads the object as data -/
def viewT (C : Addr) (i : Nat) (f : M Bool) : ER Bool := fun R ρ => match f (ρ.set i (.dt (relD C R))) with
  | some (.val b ρ') => if (ρ'.set i .un).all atomS = true then some (b, ρ'.set i .un, R) else none
  | _ => none
theorem ptr_view {a : Expr} {f : M Bool} (h : ∀ pn, (∀ q ∈ pn, q.1 ∈ [i]) → PT X a (tT X.K pn E00 f)) : PT X a (tTR X.K C i (viewT C i f)) := ⟨fun pins s σ H Q I ⟨G, ρ, r, R, ok, rel, n, un, p⟩ => by
  obtain ⟨okv, hO⟩ := view_in ok rel n un
  refine (h [(i, r.a)] (fun q hq => by simp at hq; simp [hq])).run pins s σ H Q I ⟨_, _, okv, ?_⟩
  unfold viewT at p
  cases e : f (ρ.set i (.dt (relD C R))) with
  | none => rw [e] at p; exact p
  | some x =>
    rw [e] at p
    cases x with
    | exc _ _ => exact p.elim
    | val bb ρ' =>
      intro G' H' ok' x'
      simp only at p
      split at p
      · rename_i z
        obtain ⟨a, b, c, d⟩ := view_out ok.sub rel n (own_no ok) hO ok' x' (List.all_eq_true.mp z)
        exact p G H' a b (fun b o q => c b o ((EnvOk.unSlot ok' i).2 b q)) d
      · exact p.elim⟩
/-- an expression that reads the object as data and gives an atom (or a list of atoms) -/
def viewE (C : Addr) (i : Nat) (f : M Sl) : ER Sl := fun R ρ => match f (ρ.set i (.dt (relD C R))) with
  | some (.val s ρ') => if i < ρ'.length ∧ atomS s = true ∧ (ρ'.set i .un).all atomS = true then some (s, ρ'.set i .un, R) else none
  | _ => none
theorem per_view {a : Expr} {f : M Sl} (h : ∀ pn, (∀ q ∈ pn, q.1 ∈ [i]) → PE X a (tE X.K pn E00 f)) : PE X a (tER X.K C i (viewE C i f)) := ⟨fun pins s σ H Q I ⟨G, ρ, r, R, ok, rel, n, un, p⟩ => by
  obtain ⟨okv, hO⟩ := view_in ok rel n un
  refine (h [(i, r.a)] (fun q hq => by simp at hq; simp [hq])).run pins s σ H Q I ⟨_, _, okv, ?_⟩
  unfold viewE at p
  cases e : f (ρ.set i (.dt (relD C R))) with
  | none => rw [e] at p; exact p
  | some x =>
    rw [e] at p
    cases x with
    | exc _ _ => exact p.elim
    | val s ρ' =>
      intro v G' H' ok' x'
      simp only at p
      split at p
      · rename_i z
        obtain ⟨z0, z1, z2⟩ := z
        have es : (ρ' ++ [s]).set i .un = ρ'.set i .un ++ [s] := List.set_append_left _ _ z0
        obtain ⟨a, b, c, d⟩ := view_out ok.sub rel n (own_no ok) hO ok' x' (fun t ht => by
          rw [es] at ht
          rcases List.mem_append.mp ht with h | h
          · exact List.all_eq_true.mp z2 t h
          · simp at h; rw [h]; exact z1)
        rw [es] at a d
        refine p v G H' a b (fun b o q => c b o ?_) d
        have := (EnvOk.unSlot ok' i).2 b
        rw [es] at this
        exact this q
      · exact p.elim⟩
end
end BK

namespace BK
open PySem L2 BT

/-! ### loops with the object aside -/
theorem lkT (r : RA) : r.fs.lookup ("together" : Str) = some (.ref r.d1) := by simp [RA.fs, List.lookup_cons]
theorem lkN (r : RA) : r.fs.lookup ("numbers" : Str) = some (.ref r.d2) := by
  have h1 : ((Str.ofString "numbers") == (Str.ofString "together")) = false := by decide +kernel
  simp [RA.fs, List.lookup_cons, h1]
theorem lkL (r : RA) : r.fs.lookup ("later" : Str) = some (.ref r.l) := by
  have h1 : ((Str.ofString "later") == (Str.ofString "together")) = false := by decide +kernel
  have h2 : ((Str.ofString "later") == (Str.ofString "numbers")) = false := by decide +kernel
  simp [RA.fs, List.lookup_cons, h1, h2]
def loopR (i : Nat) (b : D → Rho → Option Rho) (body : MR) : List D → MR
  | [] => nxR
  | d :: ds => fun R ρ => match b d ρ with
    | none => none
    | some ρ1 => if unAt i ρ1 = true then (match body R ρ1 with
      | some (.nx ρ2, R2) => if unAt i ρ2 = true then loopR i b body ds R2 ρ2 else none
      | some (.rt s ρ2, R2) => some (.rt s ρ2, R2)
      | _ => none) else none
def forR (i : Nat) (src : ER (List D)) (b : D → Rho → Option Rho) (body : MR) : MR := fun R ρ => match src R ρ with
  | some (ds, ρ', R') => if unAt i ρ' = true then loopR i b body ds R' ρ' else none
  | none => none
section
variable {X : Cx} {C : Addr} {i : Nat} {pos : Pos}
theorem psr_for {tg iter : Expr} {body : List Stmt} {src : ER (List D)} {g : TG} {b : D → Rho → Option Rho} {bs : List Nat} {f : MR} (hp : PassesOwn (model X.prog X.w) X.A X.env X.xe) (hc : X.calm = true) (hi : PI X tg iter (tIR X.K C i src)) (hg : PG X tg g) (hb : ∀ pn, (∀ q ∈ pn, q.1 ∈ [i]) → GB X.K pn g b bs) (hbody : PSs X body (tR X.K C i f))
    (hs : ∀ x, foldedSetIterable iter X.env x = pure x := by intro _; rfl) : PS X (.For tg iter body [] pos) (tR X.K C i (forR i src b f)) :=
  (ps_for hp hc hi hg hbody hs).imp fun D σ H ⟨G, ρ, r, R, ok, rel, n, un, p⟩ => ⟨G, ρ, r, R, ok, rel, n, un, by
    unfold forR at p
    cases e : src R ρ with
    | none => rw [e] at p; exact p
    | some x =>
      obtain ⟨ds, ρ0, R0⟩ := x
      rw [e] at p
      intro J G1 H1 ok1 rel1 n1 x1 y1
      simp only at p
      split at p
      rotate_left
      · exact p.elim
      rename_i un1
      have p := p.at x1
      refine ⟨fun k m σ H => m = ds.length - k ∧ k ≤ ds.length ∧ ∃ G ρ R, EnvOk X.K [(i, r.a)] G H σ ρ ∧ RelAt X.K C G H r R ∧ (∀ b, r.O b → ¬ OwnAt σ ρ b) ∧ unAt i ρ = true ∧ Yields X.K J G ds ∧ PostR X.K C i r G H (fun b => OwnAt σ ρ b ∨ r.O b) (loopR i b f (ds.drop k) R ρ) D,
        ⟨ds.length, rfl, Nat.zero_le _, G1, ρ0, R0, ok1, rel1, n1, un1, y1, p⟩, ?_⟩
      rintro k m σ H ⟨rfl, hk, G, ρ, R, ok, rel, n, un, y, p⟩
      by_cases hlt : k < ds.length
      · have ed : ds[k]? = some ds[k] := List.getElem?_eq_getElem hlt
        rw [List.drop_eq_getElem_cons hlt] at p
        refine .inr ⟨y.go k _ H ok.sub ed, fun σ' H' => ∃ G ρ R, EnvOk X.K [(i, r.a)] G H' σ' ρ ∧ RelAt X.K C G H' r R ∧ (∀ b, r.O b → ¬ OwnAt σ' ρ b) ∧ unAt i ρ = true ∧ Yields X.K J G ds ∧ PostR X.K C i r G H' (fun b => OwnAt σ' ρ b ∨ r.O b) (loopR i b f (ds.drop (k + 1)) R ρ) D,
          fun σ' H' ⟨G', ρ', R', a1, a2, a3, a4, a5, a6⟩ => ⟨ds.length - (k + 1), by omega, rfl, hlt, G', ρ', R', a1, a2, a3, a4, a5, a6⟩, fun v H' q => ?_⟩
        obtain ⟨G2, ok2, d2, x2⟩ := y.item ok ed q
        obtain ⟨rel2, n2⟩ := rel.ext x2 n
        refine (hb [(i, r.a)] (fun q hq => by simp at hq; simp [hq])) v _ σ G2 H' ρ _ ok2 d2 ?_
        simp only [loopR] at p
        cases eb : b ds[k] ρ with
        | none => rw [eb] at p; exact p
        | some ρ3 =>
          rw [eb] at p
          intro σ3 hl ok3 sub3
          simp only at p
          split at p
          rotate_left
          · exact p.elim
          rename_i un3
          have x3 : Ext G H (OwnAt σ ρ) G2 H' (OwnAt σ3 ρ3) := x2.sub sub3
          have p' := p.at (x3.wide (P := r.O))
          have y2 := y.mono x2.grow
          refine ⟨G2, ρ3, r, R, ok3, rel2, fun b o z => n2 b o (sub3 b z), unAt_iff.mp un3, ?_⟩
          cases ef : f R ρ3 with
          | none => rw [ef] at p'; exact p'
          | some z =>
            obtain ⟨z, R4⟩ := z
            rw [ef] at p'
            cases z with
            | nx ρ4 =>
              intro σ' G' H'' a b c d
              simp only at p'
              split at p'
              · rename_i un4
                exact ⟨G', ρ4, R4, a, b, c, un4, y2.mono d.grow, p'.at d⟩
              · exact p'.elim
            | rt s ρ4 => exact p'
            | ct _ => exact p'.elim
            | bk _ => exact p'.elim
            | exc _ _ => exact p'.elim
      · have e : k = ds.length := by omega
        subst e
        rw [List.drop_length] at p
        exact .inl ⟨y.stop H ok.sub, p σ G H ok rel n Ext.refl⟩⟩
def frmI (f : M (List D)) : ER (List D) := fun R ρ => match f ρ with | some (.val ds ρ') => some (ds, ρ', R) | _ => none
theorem pir_frame {tg e : Expr} {f : M (List D)} (h : ∀ pn, (∀ q ∈ pn, q.1 ∈ [i]) → PI X tg e (tI X.K pn E00 f)) : PI X tg e (tIR X.K C i (frmI f)) := ⟨fun pins s σ H Q I ⟨G, ρ, r, R, ok, rel, n, un, p⟩ => by
  refine (h [(i, r.a)] (fun q hq => by simp at hq; simp [hq])).run pins s σ H Q I ⟨G, ρ, ok, ?_⟩
  unfold frmI at p
  cases e : f ρ with
  | none => rw [e] at p; exact p
  | some x =>
    rw [e] at p
    cases x with
    | exc _ _ => exact p.elim
    | val ds ρ' =>
      intro J G' H' ok' x' y'
      obtain ⟨rel', n'⟩ := rel.ext x' n
      exact p J G' H' ok' rel' n' x'.wide y'⟩
def enumLater : ER (List D) := fun R ρ => some (enumL (R.later.map .int), ρ, R)
theorem pir_enumLater {o : Expr} {p1 p2 p3 pos tpos : Pos} {elts : List Expr} {kk : Nat} (ho : PE X o (tVar i)) (c : Cls X.K C) (nl : NoAttr X.K C "later") (hm : X.mg "enumerate" = none) (hml : X.mg "list" = none) (hg : Gl X "enumerate" := by rfl) (hgl : Gl X "list" := by rfl)
    (hb : attributeBase o "later" X.env (eval o X.env) = eval o X.env := by rfl) (hs : starEach [Expr.Call (.Name "list" p2) [.Attribute o "later" p3] [] pos] X.env = [(false, eval (Expr.Call (.Name "list" p2) [.Attribute o "later" p3] [] pos) X.env)] := by rfl)
    (hs1 : starEach [Expr.Attribute o "later" p3] X.env = (false, eval (Expr.Attribute o "later" p3) X.env) :: starEach [] X.env := by rfl) (hpl : (backTo pos (starEach [] X.env)).any (·.1) = false := by rfl) {pos2 : Pos} :
    PI X (.Tuple elts kk tpos) (.Call (.Name "enumerate" p1) [Expr.Call (.Name "list" p2) [.Attribute o "later" p3] [] pos] [] pos2) (tIR X.K C i enumLater) :=
  BT.PI.imp (pi_enum hg hm (pa_cons (pe_callTy (T := "list") call_list_of hgl hml (by decide +kernel) (pa_cons (pe_fld ho hb) pa_nil hs1) (by decide) (by decide) hs1 hpl) pa_nil hs) hs) fun σ H Q ⟨G, ρ, r, R, ok, rel, n, un, p⟩ => by
    refine ⟨_, ok.pins (i, r.a) (by simp), r.a, C, r.dx, r.fs, .ref r.l, rfl, rel.ia, c, nl, lkL r, r.l, R.later.map V.int, rfl, .inl (SqL.of rel.hl), fun l hl => ⟨l, R.later.map V.int, rfl, SqL.of upd_same, ?_⟩⟩
    obtain ⟨rel', n'⟩ := rel.ext (Ext.alloc (O := OwnAt σ ρ) (o := .lst (R.later.map V.int)) ok.sub hl) n
    exact p _ _ _ (ok.alloc hl) rel' n' (Ext.alloc ok.sub hl).wide (yields_enum (SqL.of upd_same) (ints_dt _))

/-! ### self.later[k] = e -/
def putLR (i : Nat) (k v : ER Sl) : MR := fun R ρ => match v R ρ with
  | some (.dt (.int z), ρ1, R1) => if unAt i ρ1 = true then (match k R1 ρ1 with
    | some (.dt (.int j), ρ2, R2) => (match ixN R2.later.length j with | some m => some (.nx ρ2, { R2 with later := R2.later.set m z }) | none => none)
    | _ => none) else none
  | _ => none
theorem RelAt.putLater {K : PySem.W.Frag} {G H : Hp} {r : RA} {R : RS} (rel : RelAt K C G H r R) (hs : Same G H) (xs : List Int) : RelAt K C G (upd H r.l (.lst (xs.map V.int))) r { R with later := xs } ∧ Same G (upd H r.l (.lst (xs.map V.int))) := by
  obtain ⟨kvs, e, d⟩ := rel.h1
  have na : r.a ≠ r.l := ne_of rel.ia rel.hl (fun z => by cases z)
  have nx : r.dx ≠ r.l := ne_of rel.id rel.hl (fun z => by cases z)
  have n1 : r.d1 ≠ r.l := ne_of e rel.hl (fun z => by cases z)
  have n2 : r.d2 ≠ r.l := ne_of rel.h2 rel.hl (fun z => by cases z)
  exact ⟨⟨by rw [upd_ne na]; exact rel.ia, by rw [upd_ne nx]; exact rel.id, ⟨kvs, by rw [upd_ne n1]; exact e, d⟩, by rw [upd_ne n2]; exact rel.h2, upd_same, rel.no, rel.ne⟩, fun b o z => by rw [upd_ne (ne_of_none z (rel.no _ r.Ol))]; exact hs b o z⟩
theorem Ext.at_ {G H : Hp} {O : Addr → Prop} {a : Addr} {o : HO} (h : O a) : Ext G H O G (upd H a o) O :=
  ⟨Same.refl _, fun _ h => .inl h, fun b u e q => by rw [upd_ne (fun z => q (by rw [z]; exact h))]; exact e, fun _ h => .inl h⟩
theorem EnvOk.at_ {K : PySem.W.Frag} {pn : List (Nat × Addr)} {G H : Hp} {σ : St} {ρ : Rho} {a : Addr} {o : HO} (ok : EnvOk K pn G H σ ρ) (hg : G a = none) (hn : ¬ OwnAt σ ρ a) : EnvOk K pn G (upd H a o) σ ρ := ok.touch hg hn
theorem PostER.atom {K : PySem.W.Frag} {i : Nat} {r : RA} {G G1 H H1 : Hp} {σ : St} {ρ1 : Rho} {v : V} {d : D} {P : Addr → Prop} (ok1 : EnvOk K [(i, r.a)] G1 H1 (σ ++ [some v]) (ρ1 ++ [.dt d])) (hl : ∀ q ∈ [(i, r.a)], q.1 < σ.length)
    (n1 : ∀ b, r.O b → ¬ OwnAt (σ ++ [some v]) (ρ1 ++ [.dt d]) b) (x1 : Ext G H P G1 H1 (fun b => OwnAt (σ ++ [some v]) (ρ1 ++ [.dt d]) b ∨ r.O b)) :
    EnvOk K [(i, r.a)] G1 H1 σ ρ1 ∧ Dt K G1 v d ∧ (∀ b, r.O b → ¬ OwnAt σ ρ1 b) ∧ Ext G H P G1 H1 (fun b => OwnAt σ ρ1 b ∨ r.O b) := by
  have ok1' := ok1.pop hl
  obtain ⟨w, e1, e2⟩ := ok1.dt ρ1.length d get_append_eq
  rw [← ok1'.len, get_append_eq] at e1; cases e1
  exact ⟨ok1', e2, fun b o z => n1 b o (own_up ok1'.len z), x1.grow, x1.fresh, x1.keep, fun q z => x1.own q (z.elim (fun z => .inl (own_up ok1'.len z)) .inr)⟩
theorem psr_putL {o k e : Expr} {ik iv : ER Sl} {tpos p3 : Pos} (ho : PE X o (tVar i)) (c : Cls X.K C) (nl : NoAttr X.K C "later") (hk : PE X k (tER X.K C i ik)) (he : PE X e (tER X.K C i iv))
    (h : ∀ {T U W : TE}, PE X (.Attribute o "later" p3) T → PE X k U → PE X e W → PS X (.Assign [.Subscript (.Attribute o "later" p3) k tpos] e pos) (tAsg W (gSub T U rSetL))) (hb : attributeBase o "later" X.env (eval o X.env) = eval o X.env := by rfl) :
    PS X (.Assign [.Subscript (.Attribute o "later" p3) k tpos] e pos) (tR X.K C i (putLR i ik iv)) :=
  (h (pe_fld ho hb) hk he).imp fun D σ H ⟨G, ρ, r, R, ok, rel, n, un, p⟩ => ⟨G, ρ, r, R, ok, rel, n, un, by
    unfold putLR at p
    cases e : iv R ρ with
    | none => rw [e] at p; exact p
    | some x =>
      obtain ⟨s, ρ1, R1⟩ := x
      rw [e] at p
      intro v G1 H1 ok1 rel1 n1 x1
      cases s with
      | un => exact p.elim
      | ol _ => exact p.elim
      | dt y =>
        cases y with
        | int z =>
          obtain ⟨ok1', d1, n1', x1'⟩ := PostER.atom ok1 ok.pinLt n1 x1
          cases d1
          simp only at p
          split at p
          rotate_left
          · exact p.elim
          rename_i un1
          refine ⟨_, ok.pins (i, r.a) (by simp), r.a, C, r.dx, r.fs, .ref r.l, rfl, rel1.ia, c, nl, lkL r, ?_⟩
          refine ⟨G1, ρ1, r, R1, ok1', rel1, n1', unAt_iff.mp un1, ?_⟩
          cases e2 : ik R1 ρ1 with
          | none => rw [e2] at p; exact p
          | some x =>
            obtain ⟨s, ρ2, R2⟩ := x
            rw [e2] at p
            intro v2 G2 H2 ok2 rel2 n2 x2
            cases s with
            | un => exact p.elim
            | ol _ => exact p.elim
            | dt y =>
              cases y with
              | int j =>
                obtain ⟨ok2', d2, n2', x2'⟩ := PostER.atom ok2 ok.pinLt n2 x2
                cases d2
                simp only at p
                split at p
                · rename_i m em
                  refine ⟨r.l, R2.later.map V.int, j, m, rfl, rfl, rel2.hl, by rw [List.length_map]; exact em, ?_⟩
                  have es : (R2.later.map V.int).set m (V.int z) = (R2.later.set m z).map V.int := by rw [List.map_set]
                  rw [es]
                  obtain ⟨rel3, sub3⟩ := rel2.putLater ok2'.sub (R2.later.set m z)
                  exact p σ G2 _ (EnvOk.at_ ok2' (rel2.no _ r.Ol) (n2' _ r.Ol)) rel3 n2' ((x1'.trans x2').trans (Ext.at_ (.inr r.Ol)))
                · exact p.elim
              | _ => exact p.elim
        | _ => exact p.elim⟩

/-! ### self.together[k] = e -/
def putT (t : List (Str × List Str)) (k : Str) (g : List Str) : List (Str × List Str) := if (t.any fun x => decide (x.1 = k)) = true then t.map (fun x => if x.1 = k then (x.1, g) else x) else t ++ [(k, g)]
theorem putK_tog {K : PySem.W.Frag} {G : Hp} {v : V} {k : Str} {g : List Str} (h : Dt K G v (.lst (g.map .str))) {kvs : List (Key × V)} {t : List (Str × List Str)} (d : DtK K G kvs (togD t)) : DtK K G (putK kvs (.inr k) v) (togD (putT t k g)) := by
  have any_eq : ∀ {kvs : List (Key × V)} {t : List (Str × List Str)}, DtK K G kvs (togD t) → (kvs.any fun kv => decide (kv.1 = (Sum.inr k : Key))) = t.any fun x => decide (x.1 = k) := by
    intro kvs t
    induction t generalizing kvs with
    | nil => intro d; cases d; rfl
    | cons x t ih =>
      intro d
      cases d with
      | cons hd tl =>
        simp only [List.any_cons, ih tl]
        congr 1
        by_cases c : x.1 = k
        · simp [c]
        · have c' : ¬ ((Sum.inr x.1 : Key) = Sum.inr k) := fun q => c (Sum.inr.inj q)
          simp [c]
  have map_eq : ∀ {kvs : List (Key × V)} {t : List (Str × List Str)}, DtK K G kvs (togD t) → DtK K G (kvs.map fun kv => if kv.1 = (Sum.inr k : Key) then (kv.1, v) else kv) (togD (t.map fun x => if x.1 = k then (x.1, g) else x)) := by
    intro kvs t
    induction t generalizing kvs with
    | nil => intro d; cases d; exact .nil
    | cons x t ih =>
      intro d
      cases d with
      | cons hd tl =>
        simp only [List.map_cons, togD]
        by_cases c : x.1 = k
        · have c' : (Sum.inr x.1 : Key) = Sum.inr k := by rw [c]
          rw [if_pos c', if_pos c]
          exact .cons h (ih tl)
        · have c' : ¬ ((Sum.inr x.1 : Key) = Sum.inr k) := fun q => c (Sum.inr.inj q)
          rw [if_neg c', if_neg c]
          exact .cons hd (ih tl)
  have app : ∀ {kvs : List (Key × V)} {t : List (Str × List Str)}, DtK K G kvs (togD t) → DtK K G (kvs ++ [((Sum.inr k : Key), v)]) (togD (t ++ [(k, g)])) := by
    intro kvs t
    induction t generalizing kvs with
    | nil => intro d; cases d; exact .cons h .nil
    | cons x t ih =>
      intro d
      cases d with
      | cons hd tl => exact .cons hd (ih tl)
  unfold putK putT
  rw [any_eq d]
  split
  · exact map_eq d
  · exact app d
theorem RelAt.putTog {K : PySem.W.Frag} {C : Addr} {G H : Hp} {r : RA} {R : RS} {v : V} {k : Str} {g : List Str} {kvs : List (Key × V)} (rel : RelAt K C G H r R) (hs : Same G H) (e : H r.d1 = some (.dK kvs)) (d : DtK K G kvs (togD R.tg)) (h : Dt K G v (.lst (g.map .str))) (hn : (putT R.tg k g).map (·.1) = R.names) :
    RelAt K C G (upd H r.d1 (.dK (putK kvs (.inr k) v))) r { R with tg := putT R.tg k g } := by
  have na : r.a ≠ r.d1 := ne_of rel.ia e (fun z => by cases z)
  have nx : r.dx ≠ r.d1 := ne_of rel.id e (fun z => by cases z)
  have nl : r.l ≠ r.d1 := ne_of rel.hl e (fun z => by cases z)
  refine ⟨by rw [upd_ne na]; exact rel.ia, by rw [upd_ne nx]; exact rel.id, ⟨_, upd_same, putK_tog h d⟩, ?_, by rw [upd_ne nl]; exact rel.hl, rel.no, rel.ne⟩
  rw [upd_ne (fun z => rel.ne z.symm), rel.h2]
  show some (HO.dK (numV R.names)) = some (HO.dK (numV ((putT R.tg k g).map (·.1))))
  rw [hn]
/-- the value is a fresh list of texts, the key a moment that is there -/
def putTR (i : Nat) (k v : ER Sl) : MR := fun R ρ => match v R ρ with
  | some (.ol ds, ρ1, R1) => if unAt i ρ1 = true then (match k R1 ρ1 with
    | some (.dt (.str m), ρ2, R2) => (match decStrs ds with | some g => if m ∈ R2.names ∧ R2.tg.length < sizeLine then some (.nx ρ2, { R2 with tg := putT R2.tg m g }) else none | none => none)
    | _ => none) else none
  | _ => none
theorem putT_names {t : List (Str × List Str)} {k : Str} {g : List Str} (h : k ∈ t.map (·.1)) : (putT t k g).map (·.1) = t.map (·.1) := by
  obtain ⟨x, hx, rfl⟩ := List.mem_map.mp h
  unfold putT
  rw [if_pos (List.any_eq_true.mpr ⟨x, hx, by simp⟩), List.map_map]
  apply List.map_congr_left
  intro y _
  simp only [Function.comp]
  split <;> rfl
theorem psr_putT {o k e : Expr} {ik iv : ER Sl} {tpos p3 : Pos} (hu : X.A.units + 1 < cLine) (ho : PE X o (tVar i)) (c : Cls X.K C) (nl : NoAttr X.K C "together") (hk : PE X k (tER X.K C i ik)) (he : PE X e (tER X.K C i iv))
    (hsw : swapsWith e (some (.Subscript (.Attribute o "together" p3) k tpos)) pos.line X.env = pure false := by rfl) (hb : attributeBase o "together" X.env (eval o X.env) = eval o X.env := by rfl) :
    PS X (.Assign [.Subscript (.Attribute o "together" p3) k tpos] e pos) (tR X.K C i (putTR i ik iv)) :=
  (ps_dput hu (pe_fld ho hb) hk he hsw).imp fun D σ H ⟨G, ρ, r, R, ok, rel, n, un, p⟩ => ⟨G, ρ, r, R, ok, rel, n, un, by
    unfold putTR at p
    cases e : iv R ρ with
    | none => rw [e] at p; exact p
    | some x =>
      obtain ⟨s, ρ1, R1⟩ := x
      rw [e] at p
      intro v G1 H1 ok1 rel1 n1 x1
      cases s with
      | un => exact p.elim
      | dt _ => exact p.elim
      | ol ds =>
        simp only at p
        split at p
        rotate_left
        · exact p.elim
        rename_i un1
        -- the list is frozen
        obtain ⟨G2, ok2, d2, x2⟩ := ok1.freeze ok.pinLt (d := .lst ds) rfl
        have n2 : ∀ b, r.O b → ¬ OwnAt σ ρ1 b := fun b o z => n1 b o (own_up ok2.len z)
        have relx := rel1.ext x2 n1
        have x12 := x1.trans (x2.wide (P := r.O))
        refine ⟨_, ok.pins (i, r.a) (by simp), r.a, C, r.dx, r.fs, .ref r.d1, rfl, rel1.ia, c, nl, lkT r, ?_⟩
        refine ⟨G2, ρ1, r, R1, ok2, relx.1, n2, unAt_iff.mp un1, ?_⟩
        cases e2 : ik R1 ρ1 with
        | none => rw [e2] at p; exact p
        | some x =>
          obtain ⟨s, ρ2, R2⟩ := x
          rw [e2] at p
          intro v2 G3 H3 ok3 rel3 n3 x3
          cases s with
          | un => exact p.elim
          | ol _ => exact p.elim
          | dt y =>
            cases y with
            | str m =>
              obtain ⟨ok3', d3, n3', x3'⟩ := PostER.atom ok3 ok.pinLt n3 x3
              cases d3
              simp only at p
              split at p
              · rename_i g eg
                split at p
                · rename_i z
                  obtain ⟨kvs, e5, d5⟩ := rel3.h1
                  have hl5 : kvs.length = R2.tg.length := by
                    have : ∀ {kvs : List (Key × V)} {ds : List (Key × BT.D)}, DtK X.K G3 kvs ds → kvs.length = ds.length := by
                      intro kvs ds
                      induction ds generalizing kvs with
                      | nil => intro h; cases h; rfl
                      | cons _ _ ih => intro h; cases h with | cons _ h => simp [ih h]
                    rw [this d5]; simp [togD]
                  refine ⟨r.d1, _, rfl, .inl ⟨kvs, .inr m, e5, rfl, by rw [hl5]; exact z.2, rfl⟩, ?_⟩
                  have hd : Dt X.K G3 v (.lst (g.map .str)) := by
                    have := d2.mono x3.grow
                    rw [decStrs_eq eg] at this; exact this
                  have rel4 := rel3.putTog ok3'.sub e5 d5 hd (putT_names z.1)
                  exact p σ G3 _ (EnvOk.at_ ok3' (rel3.no _ r.O1) (n3' _ r.O1)) rel4 n3' ((x12.trans x3').trans (Ext.at_ (.inr r.O1)))
                · exact p.elim
              · exact p.elim
            | _ => exact p.elim⟩
end
end BK

/-! What the methods of the object do: states. -/
namespace BK
open PySem L2 BT
def RS.nil : RS := ⟨[], []⟩
def RS.add (R : RS) (m : Str) : RS := if m ∈ R.names then R else ⟨R.tg ++ [(m, [m])], R.later ++ [0]⟩
def F_add : FR := fun R ds => match ds with | [.str m] => if R.later.length = R.tg.length ∧ R.tg.length < 1000 then some (.non, R.add m) else none | _ => none
/-- __init__ of the object that has just come at p -/
def SpInit (K : PySem.W.Frag) (C : Addr) : Sp := fun vs H Q _ => ∃ p dx, vs = [.ref p] ∧ H p = some (.ins C dx []) ∧ H dx = some (.own p) ∧
  ∀ (H' : Hp) (r : RA), r.a = p → r.dx = dx → (∀ b o, H b = some o → b ≠ p → H' b = some o) → H r.d1 = none → H r.d2 = none → H r.l = none → r.d1 ≠ r.d2 →
    H' p = some (.ins C dx r.fs) → H' r.d1 = some (.dK []) → H' r.d2 = some (.dK []) → H' r.l = some (.lst []) → Q .non H'
theorem ne_nt : ¬ (("together" : Str) = "numbers") := by decide +kernel
theorem ne_tl : ¬ (("together" : Str) = "later") := by decide +kernel
theorem ne_nl : ¬ (("numbers" : Str) = "later") := by decide +kernel
theorem putF3 (x y z : V) : putF "later" z (putF "numbers" y (putF "together" x [])) = [(("together" : Str), x), ("numbers", y), ("later", z)] := by
  show (if ("together" : Str) = "later" then _ else _) = _
  simp only [putF, if_neg ne_nt, if_neg ne_tl, if_neg ne_nl]
theorem valV_tog {K : PySem.W.Frag} {G : Hp} {k : Str} : ∀ {kvs : List (Key × V)} {t : List (Str × List Str)}, DtK K G kvs (togD t) → (valV kvs (.inr k)).isSome = decide (k ∈ t.map (·.1)) := by
  intro kvs t d
  rcases d.look (k := .inr k) with ⟨h1, h2⟩ | ⟨v, e, h1, h2, h3⟩
  · rw [h2]
    have : k ∉ t.map (·.1) := by
      intro hk
      have : ∀ {t : List (Str × List Str)}, k ∈ t.map (·.1) → dlook (.inr k) (togD t) ≠ none := by
        intro t
        induction t with
        | nil => intro h; simp at h
        | cons x t ih =>
          intro h
          simp only [togD, List.map_cons, dlook]
          by_cases c : x.1 = k
          · subst c; simp
          · have c' : ¬ ((Sum.inr x.1 : Key) = Sum.inr k) := fun q => c (Sum.inr.inj q)
            rw [if_neg c']
            refine ih ?_
            simp only [List.map_cons, List.mem_cons] at h
            rcases h with h | h
            · exact absurd h.symm c
            · exact h
      exact this hk h1
    rw [decide_eq_false this]; rfl
  · rw [h2]
    have : k ∈ t.map (·.1) := by
      have : ∀ {t : List (Str × List Str)} {e : D}, dlook (.inr k) (togD t) = some e → k ∈ t.map (·.1) := by
        intro t
        induction t with
        | nil => intro e h; cases h
        | cons x t ih =>
          intro e h
          simp only [togD, List.map_cons, dlook] at h
          by_cases c : x.1 = k
          · subst c; simp
          · have c' : ¬ ((Sum.inr x.1 : Key) = Sum.inr k) := fun q => c (Sum.inr.inj q)
            rw [if_neg c'] at h
            exact List.mem_cons_of_mem _ (ih h)
      exact this h1
    rw [decide_eq_true this]; rfl
theorem numV_len (ns : List Str) : (numV ns).length = ns.length := by simp [numV]
theorem numV_none {ns : List Str} {k : Str} (h : k ∉ ns) : valV (numV ns) (.inr k) = none := by
  unfold valV
  rw [List.find?_eq_none.mpr]
  · rfl
  · intro x hx
    unfold numV at hx
    obtain ⟨i, hi, rfl⟩ := List.mem_mapIdx.mp hx
    simp only [decide_eq_true_eq]
    intro q
    exact h (by rw [← Sum.inr.inj q]; exact List.getElem_mem hi)
theorem numV_snoc (ns : List Str) (k : Str) : numV (ns ++ [k]) = numV ns ++ [(Sum.inr k, V.int (ns.length : Nat))] := by
  unfold numV
  rw [List.mapIdx_append]
  simp
end BK

/-! sorted(set(xs)) of a list of texts -/
namespace BS
open PySem L2 PySem.Spec PyProof.Rows PySem.Froz

/-- the set of the texts l at a -/
structure SetX (P : Program) (w : World) (h : Heap) (a : Addr) (l : List Str) (D : SD) : Prop where
  at_ : h.get? a = some (sObj "set" D)
  ok : TxOk P w D l
  ris : Ris D.2.2.place.toList
  led : w.params.followText "set-order" = true ∨ D.2.2.led = true
  nd : l.Nodup
section
variable {P : Program} {w : World} {h h' : Heap} {a : Addr} {l : List Str} {D : SD}
theorem SetX.same (x : SetX P w h a l D) (k : ∀ o, h.get? a = some o → h'.get? a = some o) : SetX P w h' a l D := ⟨k _ x.at_, x.ok, x.ris, x.led, x.nd⟩
theorem tail_keeps {ep : Nat} {es : Array (Int × Value)} {t : SetTable} {b : Bool} (r : Ris t.place.toList) : Ris (tailTx ep es t b).2.2.place.toList ∧ (tailTx ep es t b).2.2.led = t.led := by
  by_cases c : (!b && t.tooFull) = true
  · rw [show tailTx ep es t b = _ from if_pos c]
    exact ⟨relayAll_ris t es _, relayAll_led t es _⟩
  · rw [show tailTx ep es t b = _ from if_neg c]
    exact ⟨r, rfl⟩
theorem add_keeps {k : Str} {u : Tok} (r : Ris D.2.2.place.toList) : Ris (addTx (hashStr w k) (.str k u) D).2.2.place.toList ∧ (addTx (hashStr w k) (.str k u) D).2.2.led = D.2.2.led := by
  have r1 := layNew_ris D.2.2 D.1 (hashStr w k) (.str k u) r
  have l1 := layNew_led D.2.2 D.1 (hashStr w k) (.str k u)
  unfold addTx
  obtain ⟨a1, a2⟩ := tail_keeps (ep := D.2.1) (es := (layNew D.2.2 D.1 (hashStr w k) (.str k u)).1) (b := (layNew D.2.2 D.1 (hashStr w k) (.str k u)).2.2.1)
    (t := if (layNew D.2.2 D.1 (hashStr w k) (.str k u)).2.1.plain = true then { (layNew D.2.2 D.1 (hashStr w k) (.str k u)).2.1 with plain := false } else (layNew D.2.2 D.1 (hashStr w k) (.str k u)).2.1)
    (by split <;> exact r1)
  refine ⟨a1, a2.trans (Eq.trans ?_ l1)⟩
  split <;> rfl
end
/-- l with k, once -/
def ins (k : Str) (l : List Str) : List Str := if k ∈ l then l else k :: l
theorem mem_ins {k x : Str} {l : List Str} : x ∈ ins k l ↔ x = k ∨ x ∈ l := by
  unfold ins
  split
  · rename_i c
    exact ⟨.inr, fun z => z.elim (fun e => e ▸ c) id⟩
  · exact List.mem_cons
theorem nd_ins {k : Str} {l : List Str} (n : l.Nodup) : (ins k l).Nodup := by
  unfold ins
  split
  · exact n
  · rename_i c; exact List.nodup_cons.mpr ⟨c, n⟩
theorem len_ins (k : Str) (l : List Str) : (ins k l).length ≤ l.length + 1 := by
  unfold ins; split <;> simp
section
variable {P : Program} {w : World} {A : Around} {E : Value → Shared → Prop} {s : Shared} {a : Addr} {l : List Str} {D : SD}
theorem setX_add {k : Str} {u : Tok} {Q : Bool → Shared → Prop} (x : SetX P w s.heap a l D) (room : l.length + 1 < scanBound)
    (q : ∀ h' D' b, Heap.SameBut a s.heap h' → SetX P w h' a (ins k l) D' → Q b { s with heap := h' }) : wpAny (model P w) A (setAddHashed a (.str k u) (hashStr w k)) Q E s := by
  by_cases c : k ∈ l
  · have ei : ins k l = l := if_pos c
    have fin := q s.heap D false (Heap.SameBut.refl a s.heap) (by rw [ei]; exact x)
    obtain ⟨es, ep, t⟩ := D
    have el : ElemsOf (strKind P w) es.toList := x.ok.el
    have sz : es.size < scanBound := by have e : es.size = l.length := x.ok.sz; omega
    have fit : t.fits es.size = true := x.ok.fit
    have dd : (sObj "set" (es, ep, t)).data = .set es ep t := rfl
    have hk := is_str (P := P) (w := w) k u
    obtain ⟨e, he, pe⟩ := (x.ok.mem k).mp c
    unfold setAddHashed setAddHashedIn
    apply wpAny_holding
    apply wpAny_bind
    apply wpAny_setState_of x.at_ dd fit
    dsimp only
    rw [byScan_of rfl sz el, if_pos rfl]
    unfold setAddByScan
    apply wpAny_bind; apply wpAny_bind; apply wpAny_rule; apply wpAny_bind
    apply wpAny_setScan_of (knd := strKind P w) (k := k) hk x.at_ dd fit el
    cases f : List.findIdx? (fun e => (strKind P w).is k e.2) es.toList with
    | none =>
      have := List.findIdx?_eq_none_iff.mp f e he
      rw [pe] at this; cases this
    | some j => exact wpAny_pure (wpAny_pure fin)
  · have ei : ins k l = k :: l := if_neg c
    obtain ⟨r, ld⟩ := add_keeps (w := w) (k := k) (u := u) x.ris
    refine add_x x.at_ x.ok c room (q _ (addTx (hashStr w k) (.str k u) D) true (Heap.SameBut.update ..) ⟨get_upd _ x.at_ rfl, by rw [ei]; exact add_ok u x.ok, r, x.led.imp id fun z => ld.trans z, nd_ins x.nd⟩)
end
theorem _root_.List.reverseRec' {α : Type} {p : List α → Prop} (l : List α) (nil : p []) (snoc : ∀ xs x, p xs → p (xs ++ [x])) : p l := by
  rw [← List.reverse_reverse l]
  induction l.reverse with
  | nil => exact nil
  | cons x xs ih => rw [List.reverse_cons]; exact snoc _ _ ih
/-- the distinct texts of xs, the later met ahead -/
def dist (xs : List Str) : List Str := xs.foldl (fun l k => ins k l) []
theorem dist_snoc (xs : List Str) (k : Str) : dist (xs ++ [k]) = ins k (dist xs) := by unfold dist; rw [List.foldl_append]; rfl
theorem dist_len (xs : List Str) : (dist xs).length ≤ xs.length := by
  induction xs using List.reverseRec' with
  | nil => exact Nat.le_refl _
  | snoc xs k ih => rw [dist_snoc]; have := len_ins k (dist xs); simp; omega
theorem mem_dist {xs : List Str} {x : Str} : x ∈ dist xs ↔ x ∈ xs := by
  induction xs using List.reverseRec' with
  | nil => exact Iff.rfl
  | snoc xs k ih => rw [dist_snoc, mem_ins, ih, List.mem_append, List.mem_singleton]; exact Or.comm
section
variable {P : Program} {w : World} {A : Around} {E : Value → Shared → Prop} {s : Shared}
theorem turn_set {I S : Addr} {fp wr : List Addr} {G : Array GenState → Array GenState → Prop} {n : Nat} {Pv : Nat → Value → Prop} {St : Nat → Shared → Prop} {R : Result → Shared → Prop}
    (W : WalksS P w A.in1 I fp wr G n Pv St) (no : S ∉ fp) (xs : List Str) (en : xs.length = n) (few : n + 1 < scanBound) (get : ∀ i v, Pv i v → ∃ k t, xs[i]? = some k ∧ v = .str k t) (m : Nat) :
    ∀ (i : Nat) (s : Shared) (D : SD), i + m = n → St i s → SetX P w s.heap S (dist (xs.take i)) D →
      (∀ s' D', Moved (S :: wr) G s s' → SetX P w s'.heap S (dist xs) D' → R (.ok (.ret .none)) s') →
      codeAny (model P w) A (.builtin "set.update.loop" ⟨[.ref S, .ref I], []⟩) R s := by
  have nw : S ∉ wr := fun z => no (W.sub _ z)
  have up : ∀ b ∈ wr, b ∈ S :: wr := fun b z => List.mem_cons.mpr (.inr z)
  induction m with
  | zero =>
    intro i s D ei st x fin
    obtain rfl : i = n := ei
    apply codeAny_builtin F.entry_set_update_loop
    rw [Around.under_plainId F.plain_set_update_loop _]
    apply wpAny_bind (m := pyNext (.ref I))
    refine W.done s _ _ st fun s' mv => ?_
    apply wpAny_pure
    have e : xs.take i = xs := by rw [← en]; exact List.take_length
    rw [e] at x
    exact fin s' D (mv.mono up) (x.same fun o z => mv.heap S o nw z)
  | succ m ih =>
    intro i s D ei st x fin
    have lt : i < n := by omega
    apply codeAny_builtin F.entry_set_update_loop
    rw [Around.under_plainId F.plain_set_update_loop _]
    apply wpAny_bind (m := pyNext (.ref I))
    refine W.item i s _ _ lt st fun v s1 pv st1 mv => ?_
    obtain ⟨k, t, hk, rfl⟩ := get i v pv
    have x1 := x.same (h' := s1.heap) fun o z => mv.heap S o nw z
    apply wpAny_bind (m := holding [Value.str k t] (setAdd S (.str k t)))
    apply wpAny_holding
    unfold setAdd
    apply wpAny_holding
    apply wpAny_bind
    apply (strKind P w).pyHash (k := k) (is_str k t)
    have ld := dist_len (xs.take i)
    rw [List.length_take] at ld
    refine setX_add (s := { s1 with toks := s1.toks + 1 }) x1 (by omega) fun h' D' b sb x2 => ?_
    have e2 : dist (xs.take (i + 1)) = ins k (dist (xs.take i)) := by
      rw [List.take_add_one, hk]; exact dist_snoc _ _
    rw [← e2] at x2
    refine wpAny_pure ⟨plainId_quiet F.plain_set_update_loop _, ih (i + 1) _ D' (by omega) (W.frame _ s1 _ _ st1 (Nat.le_succ _) fun c hc o e => ?_) x2 fun s2 D2 mv2 x3 => ?_⟩
    · exact (sb.2 c fun z : c = S => no (z ▸ hc)).trans e
    · refine fin s2 D2 (Moved.trans W.gtrans ((mv.mono up).then_heap (Nat.le_succ _) fun c o hc e => ?_) mv2) x3
      exact (sb.2 c fun z : c = S => hc (z ▸ List.mem_cons_self)).trans e
end
section
variable {P : Program} {w : World} {A : Around} {E : Value → Shared → Prop} {s : Shared}
theorem fresh_setX {h : Heap} {a : Addr} (e : h.get? a = some { cls := .type "set", dict := none, data := .set #[] 0 (.fresh 0 0 (!w.params.followText "set-order")) }) :
    SetX P w h a [] (#[], 0, .fresh 0 0 (!w.params.followText "set-order")) := by
  refine ⟨e, TxOk.nil rfl, List.Pairwise.nil, ?_, List.nodup_nil⟩
  cases c : w.params.followText "set-order" with
  | true => exact .inl rfl
  | false => exact .inr rfl
abbrev emptySet (w : World) : Obj := { cls := .type "set", dict := none, data := .set #[] 0 (.fresh 0 0 (!w.params.followText "set-order")) }
theorem make_set {L : Addr} {vs : Array Value} (xs : List Str) {Q : Value → Shared → Prop} (calm : A.handled = none) (isl : s.heap.IsList L vs) (are : StrsAre vs.toList xs) (few : xs.length + 1 < scanBound)
    (q : ∀ h' tk D, SetX P w h' s.heap.objs.size (dist xs) D → (∀ b o, s.heap.get? b = some o → h'.get? b = some o) → Q (.ref s.heap.objs.size) { s with heap := h', toks := tk }) :
    wpAny (model P w) A (call (.type "set") [.ref L]) Q E s := by
  have size : vs.size = xs.length := by rw [← Array.length_toList]; exact are.length
  obtain ⟨c, tl, hmro⟩ := F.called_set.mro
  have mk := F.called_set.made
  have sb := F.called_set.sub
  apply wpAny_call
  apply codeAny_of_tree
  show wpAny _ _ (callAny (.type "set") _) _ _ _
  refine wpAny_pure ⟨Code.quiet_builtin _ (by decide +kernel), codeAny_builtin F.entry_type_call ?_⟩
  rw [Around.under_plain (weight_type_call_type "set" [.ref L] []) rfl]
  have n1 := F.called_set.notType
  have n2 := F.called_set.canCreate
  have n3 := F.typeCall_set_1 (.ref L)
  repeat (any_goals (first | assumption | wp_step))
  refine codeAny_mono (code_set_led1 (.ref L) (E := E) (Q₁ := fun o t => o = .ref s.heap.objs.size ∧ t = { s with heap := s.heap.push { cls := .type "set", dict := none, data := .set #[] 0 (.fresh 0 0 (!w.params.followText "set-order")) } }) ⟨rfl, rfl⟩) fun r t hr => ?_
  cases r with
  | error e => exact hr
  | ok fl =>
    cases fl with
    | ret o =>
      obtain ⟨rfl, rfl⟩ := hr
      have gN : (s.heap.push (emptySet w)).get? s.heap.objs.size = some (emptySet w) := Heap.get?_push_size _ rfl
      have tN : Shared.TypeIs { s with heap := s.heap.push (emptySet w) } (.ref s.heap.objs.size) "set" := ⟨_, gN, rfl⟩
      have i1 := F.called_set.init.lookup
      have i2 := F.called_set.init.bind (.ref s.heap.objs.size)
      repeat (any_goals (first | assumption | wp_step))
      refine codeAny_mono (codeAny_call_builtin (R := wants (fun r t => r = .none ∧ ∃ h' tk D, t = { s with heap := h', toks := tk } ∧ SetX P w h' s.heap.objs.size (dist xs) D ∧ ∀ b o, s.heap.get? b = some o → h'.get? b = some o) E)
        F.called_set.init.plain F.entry_set_init (check_set_init_1 tN ?_)) fun r2 t2 hr2 => ?_
      · obtain ⟨⟨lc, ld, lo, ls⟩, hl, el, nl, dl⟩ := isl
        simp only at el dl
        subst el; subst dl
        have lsz := Heap.lt_size hl
        have hl1 : (s.heap.push (emptySet w)).get? L = some { cls := .type "list", dict := ld, data := .seq vs nl, slots := ls } := Heap.get?_push_of_some _ hl
        have isl1 : (s.heap.push (emptySet w)).IsList L vs := ⟨_, hl1, rfl, nl, rfl⟩
        have f1 := F.sub_list_set
        have f2 := F.sub_list_frozenset
        have f3 : (Value.type "list" == Value.type "dict") = false := by decide
        unfold Builtin.«set.__init__» noKeywords Builtin.Frozenset.updateFrom
        generalize eI : pyIter = it
        wp_walk
        subst eI
        apply wpAny_pyIter_list isl1
        apply wpAny_bind
        apply wpAny_runValue
        have psz : (s.heap.push (emptySet w)).objs.size = s.heap.objs.size + 1 := Heap.size_push ..
        have calm3 : A.in1.in1.in1.handled = none := by simp [calm]
        refine turn_set (S := s.heap.objs.size) ((Walks.list calm3 (s.heap.push (emptySet w)).objs.size L (by rw [psz]; exact Nat.ne_of_lt (Nat.lt_succ_of_lt lsz)) vs).toS) (by rw [psz]; simp only [List.mem_cons, List.not_mem_nil, or_false, not_or]; exact ⟨Nat.ne_of_lt (Nat.lt_succ_self _), Nat.ne_of_gt lsz⟩) xs size.symm (by rw [size]; exact few)
          (fun i v hv => ?_) vs.size 0 _ _ (Nat.zero_add _) ⟨⟨_, Heap.get?_push_size _ rfl, rfl, rfl⟩, isl1.push _⟩ (fresh_setX (Heap.get?_push_of_some _ gN)) fun t' D' mv x => ?_
        · have hi : i < xs.length := by rw [← size]; exact (Array.getElem?_eq_some_iff.mp hv).1
          obtain ⟨t, e⟩ := SS.strs_at are i v (by rw [Array.getElem?_toList]; exact hv)
          refine ⟨xs[i], t, List.getElem?_eq_getElem hi, ?_⟩
          rw [e, List.getD_eq_getElem?_getD, List.getElem?_eq_getElem hi]; rfl
        · obtain ⟨h', g', d', tk', os'⟩ := t'
          obtain rfl : g' = s.gens := mv.gens
          obtain rfl : d' = s.drawn := mv.drawn
          obtain rfl : os' = s.os := mv.os
          refine wpAny_pure (wpAny_pure ⟨rfl, h', tk', D', rfl, x, fun b o e => ?_⟩)
          have lb := Heap.lt_size e
          refine mv.heap b o ?_ (Heap.get?_push_of_some _ (Heap.get?_push_of_some _ e))
          rw [psz]; simp only [List.mem_cons, List.not_mem_nil, or_false, not_or]; exact ⟨Nat.ne_of_lt lb, Nat.ne_of_lt (Nat.lt_succ_of_lt lb)⟩
      · cases r2 with
        | error e => exact hr2
        | ok fl2 =>
          cases fl2 with
          | ret r =>
            obtain ⟨rfl, h', tk, D', rfl, x, old⟩ := hr2
            repeat (any_goals (first | assumption | wp_step))
            exact q _ _ _ x old
          | _ => exact hr2.elim
    | _ => exact hr.elim
end
end BS

namespace BS
open PySem L2 PySem.Spec PyProof.Rows PySem.Froz BT

theorem strs_are : ∀ (vs : List Value), (∀ v ∈ vs, ∃ k t, v = Value.str k t) → StrsAre vs (vs.map PyProof.Rows.strOf)
  | [], _ => .nil
  | v :: r, h => by
    obtain ⟨k, t, rfl⟩ := h v (by simp)
    exact .cons k t (strs_are r fun v m => h v (by simp [m]))
theorem perm_of_sub : ∀ {l m : List Str}, l.Nodup → (∀ x ∈ l, x ∈ m) → m.length = l.length → l.Perm m
  | [], m, _, _, e => by
    have : m = [] := List.length_eq_zero_iff.mp e
    rw [this]
  | x :: l, m, n, h, e => by
    obtain ⟨nx, nl⟩ := List.nodup_cons.mp n
    have mx := h x List.mem_cons_self
    have p := List.perm_cons_erase mx
    refine (List.Perm.cons x (perm_of_sub (m := m.erase x) nl (fun y hy => ?_) ?_)).trans p.symm
    · have ne : y ≠ x := fun z => nx (z ▸ hy)
      exact (List.mem_erase_of_ne ne).mpr (h y (List.mem_cons_of_mem _ hy))
    · have := p.length_eq
      simp only [List.length_cons] at this e
      omega
section
variable {P : Program} {w : World} {A : Around} {E : Value → Shared → Prop} {s : Shared} {a : Addr} {l : List Str} {D : SD}
theorem is_iff {x : Str} {v : Value} : (strKind P w).is x v = true ↔ ∃ t, v = .str x t := by
  constructor
  · intro h; exact Value.isStrOf_shape h
  · rintro ⟨t, rfl⟩; exact is_str x t
/-- the members of such a set -/
theorem SetX.members (x : SetX P w s.heap a l D) : (∀ v ∈ D.1.toList.map (·.2), ∃ k t, v = Value.str k t) ∧ (D.1.toList.map fun e => PyProof.Rows.strOf e.2).Perm l := by
  have each : ∀ e ∈ D.1.toList, ∃ k t, e.2 = Value.str k t ∧ k ∈ l := fun e he => by
    obtain ⟨⟨k, hk, _⟩, _⟩ := x.ok.el e he
    obtain ⟨t, et⟩ := is_iff.mp hk
    exact ⟨k, t, et, (x.ok.mem k).mpr ⟨e, he, hk⟩⟩
  refine ⟨fun v hv => ?_, ?_⟩
  · obtain ⟨e, he, rfl⟩ := List.mem_map.mp hv
    obtain ⟨k, t, et, _⟩ := each e he
    exact ⟨k, t, et⟩
  · have sub : l ⊆ D.1.toList.map fun e => PyProof.Rows.strOf e.2 := fun k hk => by
      obtain ⟨e, he, q⟩ := (x.ok.mem k).mp hk
      obtain ⟨t, et⟩ := is_iff.mp q
      exact List.mem_map.mpr ⟨e, he, by rw [et]; rfl⟩
    have len : (D.1.toList.map fun e => PyProof.Rows.strOf e.2).length = l.length := by rw [List.length_map, Array.length_toList]; exact x.ok.sz
    exact (perm_of_sub x.nd (fun k hk => sub hk) len).symm
theorem sort_set (x : SetX P w s.heap a l D) (calm : A.handled = none) (few : l.length < 64) {Q : Value → Shared → Prop}
    (q : ∀ s' p (out : Array Value) (c : Nat) (ys : List Str), (∀ b o, s.heap.get? b = some o → s'.heap.get? b = some o) → s'.gens = s.gens → s'.os = s.os → s.heap.objs.size ≤ p →
      s'.heap.get? p = some (seqObj "list" out c) → StrsAre out.toList ys → ys.Perm l → sortedS ys = true → Q (.ref p) s') :
    wpAny (model P w) A (call (.builtin "sorted") [.ref a]) Q E s := by
  apply Calls.call_function_entry kind_sorted plain_sorted entry_sorted (args_sorted1 _)
  unfold Builtin.«sorted»
  apply wpAny_bind (m := checkCount "sorted" 1 1 _)
  apply wpAny_pure
  have zz : D.1.size = l.length := x.ok.sz
  refine wpAny_bind (collect_set (A := A.in1) calm ⟨_, x.at_, rfl, rfl⟩ x.ok.fit (by rw [zz]; unfold scanBound; omega) x.ris x.led fun s1 vs old sz g1 o1 pm => ?_)
  obtain ⟨m1, m2⟩ := x.members
  have are := strs_are vs fun v hv => m1 v (pm.mem_iff.mp hv)
  have pl : (vs.map PyProof.Rows.strOf).Perm l := (pm.map _).trans (by rw [List.map_map]; exact m2)
  have len : vs.length = l.length := by have := pl.length_eq; rwa [List.length_map] at this
  apply wpAny_bind
  refine wpAny_newList ?_ (by rw [len, sizeLine_eq]; omega)
  have hL : (s1.heap.push (seqObj "list" vs.toArray 0)).get? s1.heap.objs.size = some (seqObj "list" vs.toArray 0) := Heap.get?_push_size _ rfl
  apply wpAny_bind
  apply wpAny_holding
  refine wpAny_call_entry slot_list_sort ⟨_, hL, rfl⟩ entry_list_sort (list_sort_treeK strKind_oneLt hL are.keysOf (fun v₁ v₂ rest e => keyKind_strs (by rw [← e]; exact are)) (by rw [len]; exact few) fun st hp hs => ⟨_, rfl, ?_⟩) (args_list_sort _)
  obtain ⟨ys, y1, y2, y3⟩ := sorted_out_str are hp hs
  obtain ⟨c, hc⟩ := sortedHeap_at (vs := vs) (out := (arrOf st).map (·.2)) hL
  refine wpAny_pure ⟨_, rfl, q _ s1.heap.objs.size _ c ys (fun b u e => ?_) g1 o1 sz hc y1 (y2.trans pl) y3⟩
  have e1 := old b u e
  have lt := Heap.lt_size e1
  show (sortedHeap (s1.heap.push (seqObj "list" vs.toArray 0)) s1.heap.objs.size vs _).get? b = some u
  rw [sortedHeap_old (Nat.ne_of_lt lt) (by rw [size_push']; exact Nat.lt_succ_of_lt lt)]
  exact Heap.get?_push_of_some _ e1
end

/-! ### the rules -/
def SetO (P : Program) (w : World) (a : Addr) (l : List Str) : HO := .ext fun h => ∃ D, SetX P w h a l D
theorem setO_ok {P : Program} {w : World} {H : Hp} {h : Heap} {a : Addr} {l : List Str} {D : SD} (x : SetX P w h a l D) : ObjOk P w H h a (SetO P w a l) :=
  ⟨⟨D, x⟩, ⟨_, x.at_⟩, fun h1 h2 ⟨D, y⟩ k => ⟨D, y.same k⟩⟩
section
variable {X : Cx}
def rSet (K : PySem.W.Frag) (P : Program) (w : World) : List V → Hp → VK → Prop := fun vs H Q => ∃ (a : Addr) (xs : List Str), vs = [V.ref a] ∧ SqL K H a (xs.map V.str) ∧ xs.length ≤ 4000 ∧ ∀ p, H p = none → Q (.ref p) (upd H p (SetO P w p (dist xs)))
theorem cr_set (hc : X.calm = true) : CallR X (.type "set") (rSet X.K X.prog X.w) := by
  intro pins s σ H vs us Q I r h
  obtain ⟨a, xs, rfl, hs, few, q⟩ := h
  obtain ⟨its, rv, hl, _⟩ := I.list hs
  rw [Vals.ref1 r]
  refine make_set xs (I.ok.hd hc) hl.isList (by simpa using rv.strs) (by unfold scanBound; omega) fun h' tk D x old => ?_
  exact ⟨.ref _, upd H s.heap.objs.size (SetO X.prog X.w s.heap.objs.size (dist xs)), I.laid (t' := tk) old (Nat.le_refl _) (setO_ok x), rfl, q _ (I.hok.fresh (Nat.le_refl _))⟩
def rSortSet (P : Program) (w : World) : List V → Hp → VK → Prop := fun vs H Q => ∃ (a : Addr) (l : List Str), vs = [V.ref a] ∧ H a = some (SetO P w a l) ∧ l.length < 64 ∧
  ∀ ys p, ys.Perm l → sortedS ys = true → H p = none → Q (.ref p) (upd H p (.lst (ys.map V.str)))
theorem cr_sortSet (hc : X.calm = true) : CallR X (.builtin "sorted") (rSortSet X.prog X.w) := by
  intro pins s σ H vs us Q I r h
  obtain ⟨a, l, rfl, ha, few, q⟩ := h
  obtain ⟨D, x⟩ := (I.hok a _ ha).1
  rw [Vals.ref1 r]
  refine sort_set x (I.ok.hd hc) few fun s' p out c ys old g o hp at_ are pm so => ?_
  have len : (ys.map V.str).length ≤ sizeLine := by rw [List.length_map, pm.length_eq, sizeLine_eq]; omega
  have free : H p = none := I.hok.fresh hp
  have J : Inv X pins σ (upd H p (.lst (ys.map V.str))) { s with heap := s'.heap, gens := s'.gens, drawn := s'.drawn, toks := s'.toks } :=
    I.call (ch := []) (Un.laid old hp free) (I.hok.laid old hp ⟨len, out.toList, c, vals_of_strs are, at_⟩) (by rw [g]; exact I.bare) (fun _ z => nomatch z)
  obtain ⟨h', g', d', t', o'⟩ := s'
  obtain rfl : o' = s.os := o
  exact ⟨.ref p, _, J, rfl, q ys p pm so free⟩
end
end BS

namespace BS
open PySem L2 PySem.Spec PyProof.Rows PySem.Froz BT

/-! ### the order of texts -/
def ltS (x y : Str) : Bool := decide (x.cps.toList < y.cps.toList)
theorem lt_cps (x y : Str) : ltCps x.cps.toList y.cps.toList = ltS x y := ltCps_eq _ _
theorem ltS_irrefl (x : Str) : ltS x x = false := by unfold ltS; exact decide_eq_false (List.lt_irrefl _)
theorem ltS_trans {x y z : Str} (h : ltS x y = true) (g : ltS y z = true) : ltS x z = true := by
  unfold ltS at *
  exact decide_eq_true (List.lt_trans (of_decide_eq_true h) (of_decide_eq_true g))
theorem ltS_asymm {x y : Str} (h : ltS x y = true) : ltS y x = false := by
  cases c : ltS y x with
  | false => rfl
  | true => have := ltS_trans h c; rw [ltS_irrefl] at this; cases this
theorem ltS_tri (x y : Str) : ltS x y = true ∨ x = y ∨ ltS y x = true := by
  by_cases c : x.cps.toList < y.cps.toList
  · exact .inl (decide_eq_true c)
  · by_cases d : y.cps.toList < x.cps.toList
    · exact .inr (.inr (decide_eq_true d))
    · refine .inr (.inl ?_)
      have := List.le_antisymm (as := x.cps.toList) (bs := y.cps.toList) (List.not_lt.mp d) (List.not_lt.mp c)
      obtain ⟨⟨a⟩⟩ := x
      obtain ⟨⟨b⟩⟩ := y
      simp only at this
      rw [this]
theorem lt_of_le {x y : Str} (h : ltS y x = false) (n : x ≠ y) : ltS x y = true := by
  rcases ltS_tri x y with c | c | c
  · exact c
  · exact absurd c n
  · rw [h] at c; cases c
/-- strictly rising -/
def Up (l : List Str) : Prop := l.Pairwise fun x y => ltS x y = true
theorem Up.uniq : ∀ {l m : List Str}, Up l → Up m → (∀ x, x ∈ l ↔ x ∈ m) → l = m
  | [], [], _, _, _ => rfl
  | [], y :: m, _, _, h => absurd ((h y).mpr List.mem_cons_self) (by simp)
  | x :: l, [], _, _, h => absurd ((h x).mp List.mem_cons_self) (by simp)
  | x :: l, y :: m, u, v, h => by
    obtain ⟨u1, u2⟩ := List.pairwise_cons.mp u
    obtain ⟨v1, v2⟩ := List.pairwise_cons.mp v
    have e : x = y := by
      rcases List.mem_cons.mp ((h x).mp List.mem_cons_self) with c | c
      · exact c
      · rcases List.mem_cons.mp ((h y).mpr List.mem_cons_self) with d | d
        · exact d.symm
        · have a := v1 x c
          have b := u1 y d
          rw [ltS_asymm a] at b; cases b
    subst e
    congr 1
    refine Up.uniq u2 v2 fun z => ⟨fun hz => ?_, fun hz => ?_⟩
    · rcases List.mem_cons.mp ((h z).mp (List.mem_cons_of_mem _ hz)) with c | c
      · subst c; have := u1 z hz; rw [ltS_irrefl] at this; cases this
      · exact c
    · rcases List.mem_cons.mp ((h z).mpr (List.mem_cons_of_mem _ hz)) with c | c
      · subst c; have := v1 z hz; rw [ltS_irrefl] at this; cases this
      · exact c
theorem rising_up : ∀ {l : List Str} {x : Str}, risingS x l = true → (x :: l).Nodup → Up (x :: l)
  | [], x, _, _ => List.pairwise_singleton _ _
  | y :: l, x, h, n => by
    simp only [risingS, Bool.and_eq_true, Bool.not_eq_true', lt_cps] at h
    obtain ⟨n1, n2⟩ := List.nodup_cons.mp n
    have ih := rising_up h.2 n2
    have xy := lt_of_le h.1 (fun e => n1 (e ▸ List.mem_cons_self))
    refine List.pairwise_cons.mpr ⟨fun z hz => ?_, ih⟩
    rcases List.mem_cons.mp hz with c | c
    · rw [c]; exact xy
    · exact ltS_trans xy ((List.pairwise_cons.mp ih).1 z c)
theorem sorted_up {l : List Str} (h : sortedS l = true) (n : l.Nodup) : Up l := by
  cases l with
  | nil => exact List.Pairwise.nil
  | cons x l => exact rising_up h n
/-- put into its place -/
def put (k : Str) : List Str → List Str
  | [] => [k]
  | x :: l => if x = k then x :: l else if ltS k x = true then k :: x :: l else x :: put k l
theorem mem_put {k x : Str} : ∀ {l : List Str}, x ∈ put k l ↔ x = k ∨ x ∈ l
  | [] => by simp [put]
  | y :: l => by
    unfold put
    split
    · rename_i c; subst c; simp
    · split
      · simp
      · simp only [List.mem_cons, mem_put (l := l)]
        constructor
        · rintro (h | h | h)
          · exact .inr (.inl h)
          · exact .inl h
          · exact .inr (.inr h)
        · rintro (h | h | h)
          · exact .inr (.inl h)
          · exact .inl h
          · exact .inr (.inr h)
theorem put_up {k : Str} : ∀ {l : List Str}, Up l → Up (put k l)
  | [], _ => List.pairwise_singleton _ _
  | y :: l, u => by
    obtain ⟨u1, u2⟩ := List.pairwise_cons.mp u
    unfold put
    split
    · exact u
    · split
      · rename_i c
        refine List.pairwise_cons.mpr ⟨fun z hz => ?_, u⟩
        rcases List.mem_cons.mp hz with d | d
        · rw [d]; exact c
        · exact ltS_trans c (u1 z d)
      · rename_i n c
        refine List.pairwise_cons.mpr ⟨fun z hz => ?_, put_up u2⟩
        rcases mem_put.mp hz with d | d
        · rw [d]; exact lt_of_le (by simpa using c) n
        · exact u1 z d
/-- the distinct texts, rising -/
def sd (xs : List Str) : List Str := xs.foldl (fun l k => put k l) []
theorem sd_snoc (xs : List Str) (k : Str) : sd (xs ++ [k]) = put k (sd xs) := by unfold sd; rw [List.foldl_append]; rfl
theorem sd_up (xs : List Str) : Up (sd xs) := by
  induction xs using List.reverseRec' with
  | nil => exact List.Pairwise.nil
  | snoc xs k ih => rw [sd_snoc]; exact put_up ih
theorem mem_sd {xs : List Str} {x : Str} : x ∈ sd xs ↔ x ∈ xs := by
  induction xs using List.reverseRec' with
  | nil => exact Iff.rfl
  | snoc xs k ih => rw [sd_snoc, mem_put, ih, List.mem_append, List.mem_singleton]; exact Or.comm
theorem Up.nodup {l : List Str} (u : Up l) : l.Nodup := u.imp fun {a b} h e => by subst e; rw [ltS_irrefl] at h; cases h
theorem dist_nd (xs : List Str) : (dist xs).Nodup := by
  induction xs using List.reverseRec' with
  | nil => exact List.nodup_nil
  | snoc xs k ih => rw [dist_snoc]; exact nd_ins ih
theorem sd_of {xs ys : List Str} (p : ys.Perm (dist xs)) (s : sortedS ys = true) : ys = sd xs := by
  have n : ys.Nodup := p.nodup_iff.mpr (dist_nd xs)
  exact Up.uniq (sorted_up s n) (sd_up xs) fun x => by rw [p.mem_iff, mem_dist, mem_sd]
theorem len_of_sub : ∀ {l m : List Str}, l.Nodup → (∀ x ∈ l, x ∈ m) → l.length ≤ m.length
  | [], _, _, _ => Nat.zero_le _
  | x :: l, m, n, h => by
    obtain ⟨nx, nl⟩ := List.nodup_cons.mp n
    have p := (List.perm_cons_erase (h x List.mem_cons_self)).length_eq
    have := len_of_sub (m := m.erase x) nl fun y hy => (List.mem_erase_of_ne (a := y) (b := x) fun z => nx (z ▸ hy)).mpr (h y (List.mem_cons_of_mem _ hy))
    simp only [List.length_cons] at p ⊢
    omega
theorem sd_len (xs : List Str) : (dist xs).length = (sd xs).length := by
  have p : (sd xs).Perm (dist xs) := perm_of_sub (sd_up xs).nodup (fun x h => by rw [mem_dist]; exact mem_sd.mp h) ?_ 
  · exact p.length_eq.symm
  · apply Nat.le_antisymm
    · exact (len_of_sub (dist_nd xs) fun x h => by rw [mem_sd]; exact mem_dist.mp h)
    · exact (len_of_sub (sd_up xs).nodup fun x h => by rw [mem_dist]; exact mem_sd.mp h)

/-! ### sorted(set(e)) -/
open BK in
def setM : D → M Sl := fun d => match d with
  | .lst ds => (match decStrs ds with | some xs => if xs.length ≤ 4000 ∧ (sd xs).length < 64 then (fun ρ => some (.val (.ol ((sd xs).map .str)) ρ)) else fun _ => none | none => fun _ => none)
  | _ => fun _ => none
@[simp] def sortM (f : M Sl) : M Sl := fun ρ => bindD f setM ρ
theorem dtL_strs {K : PySem.W.Frag} {H : Hp} : ∀ {vs : List V} {xs : List Str}, DtL K H vs (xs.map .str) → vs = xs.map V.str
  | _, [], .nil => rfl
  | _, x :: xs, .cons (.str _) h => by rw [dtL_strs h]; rfl
section
variable {X : Cx} {pn : List (Nat × Addr)} {E : XK} {pos : Pos}
open BK in
theorem px_sortSet {e : Expr} {f : M Sl} {p1 p2 q : Pos} (hc : X.calm = true) (he : PE X e (tE X.K pn E f)) (h1 : X.mg "sorted" = none) (h2 : X.mg "set" = none) (g1 : Gl X "sorted" := by rfl) (g2 : Gl X "set" := by rfl)
    (s1 : starEach [Expr.Call (.Name "set" p2) [e] [] q] X.env = (false, eval (Expr.Call (.Name "set" p2) [e] [] q) X.env) :: starEach [] X.env := by rfl) (s2 : starEach [e] X.env = (false, eval e X.env) :: starEach [] X.env := by rfl)
    (z1 : (backTo pos (starEach [] X.env)).any (·.1) = false := by rfl) (z2 : (backTo q (starEach [] X.env)).any (·.1) = false := by rfl) :
    PE X (.Call (.Name "sorted" p1) [.Call (.Name "set" p2) [e] [] q] [] pos) (tE X.K pn E (sortM f)) :=
  (pe_callB (cr_sortSet hc) g1 h1 boot_sorted (pa_cons (pe_callTy (T := "set") (cr_set hc) g2 h2 boot_set (pa_cons he pa_nil s2) (by decide) (by decide) s2 z2) pa_nil s1) (by decide) (by decide) s1 z1).imp fun σ H Q ⟨G, ρ, ok, w⟩ => by
    refine ⟨G, ρ, ok, (Post.bindD ok w).mono fun v H1 ⟨G1, ρ1, d, ok1, gr, dt, p⟩ => ?_⟩
    cases d with
    | lst ds => ?_
    | _ => exact p.elim
    simp only [setM] at p
    cases ex : decStrs ds with
    | none => rw [ex] at p; exact p.elim
    | some xs => ?_
    rw [ex] at p
    simp only at p
    by_cases c : xs.length ≤ 4000 ∧ (sd xs).length < 64
    rotate_left
    · rw [if_neg c] at p; exact p.elim
    rw [if_pos c] at p
    have e1 := decStrs_eq ex
    subst e1
    cases dt with
    | lst sq items =>
      have ev := dtL_strs items
      subst ev
      refine ⟨_, xs, rfl, ok1.sub.seq sq, c.1, fun b hb => ⟨_, _, rfl, upd_same, by rw [sd_len]; exact c.2, fun ys r pm so hr => ?_⟩⟩
      rw [sd_of pm so]
      have gb : G1 b = none := Same.free ok1.sub hb
      have nb : ¬ OwnAt σ ρ1 b := fun ⟨j, ds, a1, a2⟩ => by
        obtain ⟨q, ws, a, b1, _⟩ := ok1.ol j ds a1
        rw [a2] at a; cases a
        rw [hb] at b1; cases b1
      have ok2 := ok1.touch (o := SetO X.prog X.w b (dist xs)) gb nb
      have x2 : Ext G1 H1 (OwnAt σ ρ1) G1 (upd H1 b (SetO X.prog X.w b (dist xs))) (OwnAt σ ρ1) := ⟨Same.refl _, fun _ z => .inl z, fun a u z _ => by rw [upd_ne (ne_of_none z hb)]; exact z, fun _ z => .inl z⟩
      exact (p.at x2).lst ok2 (BK.strs_dt _) hr
end
end BS

/-! Methods of the object by their bodies. -/
namespace BK
open PySem L2 BT
/-! ### all own lists frozen; the object read as data by an expression -/
def frz1 : Sl → Sl | .ol ds => .dt (.lst ds) | s => s
def frzAll (ρ : Rho) : Rho := ρ.map frz1
@[simp] theorem frzAll_nil : frzAll [] = [] := rfl
@[simp] theorem frzAll_un (ρ : Rho) : frzAll (.un :: ρ) = .un :: frzAll ρ := rfl
@[simp] theorem frzAll_dt (d : D) (ρ : Rho) : frzAll (.dt d :: ρ) = .dt d :: frzAll ρ := rfl
@[simp] theorem frzAll_ol (ds : List D) (ρ : Rho) : frzAll (.ol ds :: ρ) = .dt (.lst ds) :: frzAll ρ := rfl
theorem frzAll_no {ρ : Rho} {j : Nat} {ds : List D} (h : (frzAll ρ)[j]? = some (.ol ds)) : False := by
  unfold frzAll at h
  rw [List.getElem?_map] at h
  cases e : ρ[j]? with
  | none => rw [e] at h; cases h
  | some s => rw [e] at h; cases s <;> cases h
theorem frzAll_un_at {ρ : Rho} {i : Nat} (h : ρ[i]? = some .un) : (frzAll ρ)[i]? = some .un := by
  unfold frzAll; rw [List.getElem?_map, h]; rfl
section
variable {K : PySem.W.Frag} {C : Addr} {pn : List (Nat × Addr)} {G H : Hp} {σ : St} {ρ : Rho} {i : Nat} {r : RA} {R : RS}
noncomputable def adds (G H : Hp) (P : Addr → Prop) : Hp := fun b => @ite _ (P b) (Classical.propDecidable _) (H b) (G b)
theorem adds_in {P : Addr → Prop} {b : Addr} (h : P b) : adds G H P b = H b := by unfold adds; exact if_pos h
theorem adds_out {P : Addr → Prop} {b : Addr} (h : ¬ P b) : adds G H P b = G b := by unfold adds; exact if_neg h
theorem EnvOk.frzAll (ok : EnvOk K pn G H σ ρ) : EnvOk K pn (adds G H (OwnAt σ ρ)) H σ (BK.frzAll ρ) ∧ Ext G H (OwnAt σ ρ) (adds G H (OwnAt σ ρ)) H (fun _ => False) := by
  have gs : Same G (adds G H (OwnAt σ ρ)) := fun b o e => by rw [adds_out (nown_of ok e)]; exact e
  refine ⟨⟨fun b o e => ?_, by unfold BK.frzAll; rw [List.length_map]; exact ok.len, fun j d h => ?_, fun j ds h => (frzAll_no h).elim, fun j k ds es p h => (frzAll_no h).elim, ok.pins⟩, gs, fun a h => ?_, fun a o h _ => h, fun _ h => h.elim⟩
  · by_cases c : OwnAt σ ρ b
    · rw [adds_in c] at e; exact e
    · rw [adds_out c] at e; exact ok.sub b o e
  · unfold BK.frzAll at h
    rw [List.getElem?_map] at h
    cases e : ρ[j]? with
    | none => rw [e] at h; cases h
    | some s =>
      rw [e] at h
      cases s with
      | un => cases h
      | dt d' =>
        cases h
        obtain ⟨v, a, b⟩ := ok.dt j _ e
        exact ⟨v, a, b.mono gs⟩
      | ol ds =>
        cases h
        obtain ⟨p, vs, a, b, c, q⟩ := ok.ol j ds e
        exact ⟨_, a, .lst (SqL.of (by rw [adds_in ⟨j, ds, e, a⟩]; exact b)) (q.mono gs)⟩
  · by_cases c : OwnAt σ ρ a
    · exact .inr (.inr c)
    · rw [adds_out c] at h; exact .inl h
theorem RelAt.frz (rel : RelAt K C G H r R) (ok : EnvOk K pn G H σ ρ) (n : ∀ b, r.O b → ¬ OwnAt σ ρ b) : RelAt K C (adds G H (OwnAt σ ρ)) H r R ∧ ∀ b, r.O b → ¬ OwnAt σ (BK.frzAll ρ) b :=
  ⟨(rel.ext (EnvOk.frzAll ok).2 n).1, fun b _ ⟨j, ds, h, _⟩ => frzAll_no h⟩
/-- behind such a reading: a temp of atoms or no temp -/
theorem view2_out {Gv G' H' : Hp} {ρf ρ' : Rho} {Ov : Addr → Prop} {tv : List (Option V)} {ts : List Sl} (ok : EnvOk K [(i, r.a)] G H σ ρf) (nof : ∀ (j : Nat) (ds : List D), ρf[j]? ≠ some (.ol ds)) (rel : RelAt K C G H r R) (hO : ∀ a, ¬ Ov a)
    (ok' : EnvOk K [(i, r.a)] G' H' (σ ++ tv) (ρ' ++ ts)) (one : ts.length ≤ 1) (lt : tv.length = ts.length) (x : Ext Gv H Ov G' H' (OwnAt (σ ++ tv) (ρ' ++ ts))) (at_ : ∀ s ∈ ts, atomS s = true) :
    EnvOk K [(i, r.a)] G H' (σ ++ tv) (ρf ++ ts) ∧ RelAt K C G H' r R ∧ (∀ b, r.O b → ¬ OwnAt (σ ++ tv) (ρf ++ ts) b) ∧ ∀ P : Addr → Prop, Ext G H P G H' (fun b => OwnAt (σ ++ tv) (ρf ++ ts) b ∨ P b) := by
  have hl := ok.len
  have hl' : σ.length = ρ'.length := by have := ok'.len; simp [lt] at this; exact this
  have keep : ∀ b o, H b = some o → H' b = some o := fun b o e => x.keep b o e (hO b)
  have src : ∀ {j : Nat} {s : Sl}, (ρf ++ ts)[j]? = some s → (j < ρf.length ∧ ρf[j]? = some s ∧ (σ ++ tv)[j]? = σ[j]?) ∨ (j = ρf.length ∧ s ∈ ts ∧ (ρ' ++ ts)[j]? = some s) := fun {j s} h => by
    by_cases c : j < ρf.length
    · rw [get_append_lt c] at h; exact .inl ⟨c, h, get_append_lt (by omega)⟩
    · have e := h
      rw [List.getElem?_append_right (by omega)] at h
      have m := lt_of_get h
      have ej : j = ρf.length := by omega
      refine .inr ⟨ej, List.mem_of_getElem? h, ?_⟩
      rw [List.getElem?_append_right (by omega), show j - ρ'.length = j - ρf.length by omega]; exact h
  have fresh : ∀ {j : Nat} {ds : List D} {p : Addr}, (ρ' ++ ts)[j]? = some (.ol ds) → (σ ++ tv)[j]? = some (some (.ref p)) → H p = none := fun h1 h2 => (x.own _ ⟨_, _, h1, h2⟩).elim (fun z => (hO _ z).elim) id
  obtain ⟨kvs, e1, d1⟩ := rel.h1
  refine ⟨⟨fun b o e => keep b o (ok.sub b o e), by simp [hl, lt], fun j d h => ?_, fun j ds h => ?_, fun j k ds es p h1 h2 h3 h4 => ?_, fun q hq => ?_⟩, ⟨keep _ _ rel.ia, keep _ _ rel.id, ⟨kvs, keep _ _ e1, d1⟩, keep _ _ rel.h2, keep _ _ rel.hl, rel.no, rel.ne⟩, fun b o ⟨j, ds, h1, h2⟩ => ?_, fun P => ⟨Same.refl _, fun _ h => .inl h, fun b o e _ => keep b o e, fun b z => ?_⟩⟩
  · rcases src h with ⟨c, h, e⟩ | ⟨c, m, h⟩
    · obtain ⟨v, a, b⟩ := ok.dt j d h
      exact ⟨v, by rw [e]; exact a, b⟩
    · obtain ⟨v, a, b⟩ := ok'.dt j d h
      exact ⟨v, a, atom_any b (at_ _ m)⟩
  · rcases src h with ⟨c, h, e⟩ | ⟨c, m, h⟩
    · exact (nof j ds h).elim
    · obtain ⟨p, vs, a, b, c', d⟩ := ok'.ol j ds h
      exact ⟨p, vs, a, b, Same.free ok.sub (fresh h a), atoms_any d (at_ _ m)⟩
  · rcases src h1 with ⟨_, h, _⟩ | ⟨c, _⟩
    · exact (nof j ds h).elim
    · rcases src h2 with ⟨_, h, _⟩ | ⟨c2, _⟩
      · exact (nof k es h).elim
      · rw [c, c2]
  · have := ok.pins q hq
    rw [get_append_lt (lt_of_get this)]; exact this
  · rcases src h1 with ⟨_, h, _⟩ | ⟨c, m, h⟩
    · exact nof j ds h
    · exact rel.some_ o (fresh h h2)
  · rcases z with ⟨j, ds, h1, h2⟩ | z
    · rcases src h1 with ⟨_, h, _⟩ | ⟨c, m, h⟩
      · exact (nof j ds h).elim
      · exact .inr (fresh h h2)
    · exact .inl z
end
noncomputable def viewE2 (C : Addr) (i : Nat) (f : M Sl) : ER Sl := fun R ρ => match f ((frzAll ρ).set i (.dt (relD C R))) with
  | some (.val s ρ') => @ite _ (ρ' = (frzAll ρ).set i (.dt (relD C R)) ∧ atomS s = true) (Classical.propDecidable _) (some (s, frzAll ρ, R)) none
  | _ => none
noncomputable def viewT2 (C : Addr) (i : Nat) (f : M Bool) : ER Bool := fun R ρ => match f ((frzAll ρ).set i (.dt (relD C R))) with
  | some (.val s ρ') => @ite _ (ρ' = (frzAll ρ).set i (.dt (relD C R))) (Classical.propDecidable _) (some (s, frzAll ρ, R)) none
  | _ => none
theorem viewE2_eq {C : Addr} {i : Nat} {f : M Sl} {R : RS} {ρ : Rho} {s : Sl} (h : f ((frzAll ρ).set i (.dt (relD C R))) = some (.val s ((frzAll ρ).set i (.dt (relD C R))))) (a : atomS s = true) : viewE2 C i f R ρ = some (s, frzAll ρ, R) := by
  unfold viewE2; rw [h]; exact if_pos ⟨rfl, a⟩
theorem viewT2_eq {C : Addr} {i : Nat} {f : M Bool} {R : RS} {ρ : Rho} {s : Bool} (h : f ((frzAll ρ).set i (.dt (relD C R))) = some (.val s ((frzAll ρ).set i (.dt (relD C R))))) : viewT2 C i f R ρ = some (s, frzAll ρ, R) := by
  unfold viewT2; rw [h]; exact if_pos rfl
section
variable {X : Cx} {C : Addr} {i : Nat} {pos : Pos}
theorem per_view2 {a : Expr} {f : M Sl} (h : ∀ pn, (∀ q ∈ pn, q.1 ∈ [i]) → PE X a (tE X.K pn E00 f)) : PE X a (tER X.K C i (viewE2 C i f)) := ⟨fun pins s σ H Q I ⟨G, ρ, r, R, ok, rel, n, un, p⟩ => by
  obtain ⟨okf, xf⟩ := EnvOk.frzAll ok
  obtain ⟨relf, nf⟩ := RelAt.frz rel ok n
  obtain ⟨okv, hO⟩ := view_in okf relf nf (frzAll_un_at un)
  refine (h [(i, r.a)] (fun q hq => by simp at hq; simp [hq])).run pins s σ H Q I ⟨_, _, okv, ?_⟩
  unfold viewE2 at p
  cases e : f ((frzAll ρ).set i (.dt (relD C R))) with
  | none => rw [e] at p; exact p
  | some x =>
    rw [e] at p
    cases x with
    | exc _ _ => exact p.elim
    | val s ρ' =>
      intro v G' H' ok' x'
      simp only at p
      split at p
      · rename_i z
        obtain ⟨z0, z1⟩ := z
        obtain ⟨a, b, c, d⟩ := view2_out (ρf := frzAll ρ) okf (fun j ds h => frzAll_no h) relf (fun a o => let ⟨j, ds, h1, h2⟩ := hO a o; frzAll_no h1) ok' (by simp) rfl x' (by simpa using z1)
        refine p v _ H' a b c ((xf.wide (P := r.O)).trans ?_)
        have dd := d r.O
        exact ⟨dd.grow, fun _ z => (dd.fresh _ z).elim .inl fun z => z.elim (fun z => .inr (.inl z)) fun z => .inr (.inr (.inr z)), fun b o e q => dd.keep b o e fun z => q (.inr z), fun b q => (dd.own b q).imp .inr id⟩
      · exact p.elim⟩
theorem ptr_view2 {a : Expr} {f : M Bool} (h : ∀ pn, (∀ q ∈ pn, q.1 ∈ [i]) → PT X a (tT X.K pn E00 f)) : PT X a (tTR X.K C i (viewT2 C i f)) := ⟨fun pins s σ H Q I ⟨G, ρ, r, R, ok, rel, n, un, p⟩ => by
  obtain ⟨okf, xf⟩ := EnvOk.frzAll ok
  obtain ⟨relf, nf⟩ := RelAt.frz rel ok n
  obtain ⟨okv, hO⟩ := view_in okf relf nf (frzAll_un_at un)
  refine (h [(i, r.a)] (fun q hq => by simp at hq; simp [hq])).run pins s σ H Q I ⟨_, _, okv, ?_⟩
  unfold viewT2 at p
  cases e : f ((frzAll ρ).set i (.dt (relD C R))) with
  | none => rw [e] at p; exact p
  | some x =>
    rw [e] at p
    cases x with
    | exc _ _ => exact p.elim
    | val s ρ' =>
      intro G' H' ok' x'
      simp only at p
      split at p
      · obtain ⟨a, b, c, d⟩ := view2_out (ρf := frzAll ρ) (tv := []) (ts := []) okf (fun j ds h => frzAll_no h) relf (fun a o => let ⟨j, ds, h1, h2⟩ := hO a o; frzAll_no h1) (by rw [List.append_nil, List.append_nil]; exact ok') (by simp) rfl (by rw [List.append_nil, List.append_nil]; exact x') (by simp)
        rw [List.append_nil, List.append_nil] at a
        refine p _ H' a b (fun b o z => c b o (by rw [List.append_nil, List.append_nil]; exact z)) ((xf.wide (P := r.O)).trans ?_)
        have dd := d r.O
        rw [List.append_nil, List.append_nil] at dd
        exact ⟨dd.grow, fun _ z => (dd.fresh _ z).elim .inl fun z => z.elim (fun z => .inr (.inl z)) fun z => .inr (.inr (.inr z)), fun b o e q => dd.keep b o e fun z => q (.inr z), fun b q => (dd.own b q).imp .inr id⟩
      · exact p.elim⟩
def setR (j : Nat) (f : ER Sl) : MR := fun R ρ => match f R ρ with | some (s, ρ', R') => if j < ρ'.length then some (.nx (ρ'.set j s), R') else none | none => none
theorem psr_set {j : Nat} {x : Str} {e : Expr} {f : ER Sl} {pos' : Pos} (hp : j ≠ i) (hN : X.N.Nodup) (hi : X.N[j]? = some x) (hx : Loc X.env.scope x) (he : PE X e (tER X.K C i f)) (hs : swapsWith e (some (.Name x pos')) pos.line X.env = pure false := by rfl)
    (hf : X.fn x = true ∨ X.env.scope.names.lookup x = some .local := by first | exact .inl rfl | exact .inr rfl | assumption) : PS X (.Assign [.Name x pos'] e pos) (tR X.K C i (setR j f)) :=
  (ps_set hN hi hx he hs hf).imp fun D σ H ⟨G, ρ, r, R, ok, rel, n, un, p⟩ => ⟨G, ρ, r, R, ok, rel, n, un, by
    unfold setR at p
    cases e : f R ρ with
    | none => rw [e] at p; exact p
    | some x =>
      obtain ⟨s, ρ1, R1⟩ := x
      rw [e] at p
      intro v G1 H1 ok1 rel1 n1 x1
      simp only at p
      split at p
      · rename_i c
        obtain ⟨ok2, sub⟩ := ok1.setSlot c fun q hq => ⟨fun z => hp (by simp at hq; rw [hq] at z; exact z.symm), ok.pinLt q hq⟩
        exact p _ G1 H1 ok2 rel1 (fun b o z => n1 b o (sub b z)) ⟨x1.grow, x1.fresh, x1.keep, fun b z => x1.own b (z.imp (sub b) id)⟩
      · exact p.elim⟩
end
def runR (n np : Nat) (m : MR) : FR := fun R ds => if ds.length + 1 = np ∧ np ≤ n then
    match m R (.un :: ds.map .dt ++ List.replicate (n - np) .un) with
    | some (.nx _, R') => some (.non, R')
    | some (.rt s _, R') => (match s.frz with | some d => some (d, R') | none => none)
    | _ => none
  else none
theorem EnvOk.consUn {K : PySem.W.Frag} {G H : Hp} {σ : St} {ρ : Rho} {a : Addr} (ok : EnvOk K [] G H σ ρ) : EnvOk K [(0, a)] G H (some (.ref a) :: σ) (.un :: ρ) := by
  refine ⟨ok.sub, by simp [ok.len], fun i d h => ?_, fun i ds h => ?_, fun i j ds es p h1 h2 h3 h4 => ?_, fun q hq => ?_⟩
  · cases i with
    | zero => cases h
    | succ i => exact ok.dt i d h
  · cases i with
    | zero => cases h
    | succ i => exact ok.ol i ds h
  · cases i with
    | zero => cases h1
    | succ i =>
      cases j with
      | zero => cases h2
      | succ j => rw [ok.inj i j ds es p h1 h2 h3 h4]
  · simp at hq; subst hq; rfl
section
variable {P : Program} {w : World} {K : PySem.W.Frag} {mg : Str → Option Value} {base : Heap}
theorem okR {C : Addr} {x qual : Str} {st : Stmt} {f : Addr} {fd : FuncData} {N ps : List Str} {k : Nat} {m : MR} (F : Fun K x qual st f fd) (S : FnScope N ps (defScope st))
    (body : ∀ (cdv : Value) (A : Around) (outer : List Env) (s : Shared) (H : Hp) (E : XK), Room k (A.deeper (PyProof.Rows.envOfC qual (defScope st) s.heap.objs.size f cdv)) →
      PSs (cxOf CX0 P w K mg base N qual (defScope st) f cdv A outer s H E).nox (defBody st) (tR K C 0 m)) :
    FnOk P w K mg base CX0 (k + 1) f fd ps (SpR K C (runR N.length ps.length m)) := by
  refine F.ok S (fun vs H Q E h => ?_) (fun cdv A outer s H vs Q E hr h => ?_)
  · obtain ⟨G, r, R, ds, ws, rfl, _, _, hd, h⟩ := h
    unfold runR at h
    by_cases c : ds.length + 1 = ps.length ∧ ps.length ≤ N.length
    · rw [List.length_cons, hd.length]; exact c.1
    · rw [if_neg c] at h; exact h.elim
  · obtain ⟨G, r, R, ds, ws, rfl, sub, rel, hd, h⟩ := h
    unfold runR at h
    by_cases c : ds.length + 1 = ps.length ∧ ps.length ≤ N.length
    rotate_left
    · rw [if_neg c] at h; exact h.elim
    rw [if_pos c] at h
    have hl := hd.length
    have ok0 := (EnvOk.consUn (a := r.a) (EnvOk.args sub hd)).start (N.length - ps.length)
    have e : L2.start N (.ref r.a :: ws) = (some (.ref r.a) :: ws.map some) ++ List.replicate (N.length - ps.length) none := by
      unfold L2.start
      rw [List.map_cons, List.length_cons, hl, c.1]
    have none_ : ∀ b, ¬ OwnAt ((some (.ref r.a) :: ws.map some) ++ List.replicate (N.length - ps.length) none) ((Sl.un :: ds.map Sl.dt) ++ List.replicate (N.length - ps.length) Sl.un) b := fun b o => by
      have := (own_start (by simp [hl]) _).mp o
      obtain ⟨i, es, h1, h2⟩ := this
      cases i with
      | zero => cases h1
      | succ i => exact noOwn_dts (vs := ws.map some) (ds := ds) (a := b) ⟨i, es, h1, h2⟩
    have conv : ∀ {G' H' : Hp} {O' : Addr → Prop}, Ext G H (fun b => OwnAt ((some (.ref r.a) :: ws.map some) ++ List.replicate (N.length - ps.length) none) ((Sl.un :: ds.map Sl.dt) ++ List.replicate (N.length - ps.length) Sl.un) b ∨ r.O b) G' H' O' → Ext G H r.O G' H' r.O := fun x =>
      ⟨x.grow, fun a q => (x.fresh a q).elim .inl fun z => z.elim (fun z => .inr (.inl z)) fun z => z.elim (fun z => (none_ a z).elim) fun z => .inr (.inr z), fun a o q n => x.keep a o q fun z => z.elim (none_ a) n, fun a q => .inl q⟩
    refine ⟨_, body cdv A outer s H E hr, ?_⟩
    rw [e]
    refine ⟨G, _, r, R, ok0, rel, fun b o => none_ b, rfl, ?_⟩
    cases em : m R ((Sl.un :: ds.map Sl.dt) ++ List.replicate (N.length - ps.length) Sl.un) with
    | none => rw [em] at h; exact h.elim
    | some z =>
      obtain ⟨z, R'⟩ := z
      rw [em] at h
      cases z with
      | nx ρ' => exact fun σ' G' H' a b n x => h .non G' H' a.sub b .non (conv x)
      | rt s ρ' =>
        intro v σ' G' H' a b n x
        cases es : s.frz with
        | none => simp only [es] at h
        | some d =>
          simp only [es] at h
          have a0 : EnvOk K [] G' H' (σ' ++ [some v]) (ρ' ++ [s]) := ⟨a.sub, a.len, a.dt, a.ol, a.inj, fun q hq => by simp at hq⟩
          obtain ⟨G2, ok2, dt2, x2⟩ := a0.freeze (fun q hq => by simp at hq) es
          obtain ⟨rel2, _⟩ := b.ext x2 n
          exact h v G2 H' ok2.sub rel2 dt2 (conv (x.trans x2.wide))
      | bk _ => exact h.elim
      | ct _ => exact h.elim
      | exc _ _ => exact h.elim
end
end BK

/-! A def that makes the object and works with it to its end. -/
namespace BK
open PySem L2 BT
theorem SpR.imp {K : PySem.W.Frag} {C : Addr} {F F' : FR} (h : ∀ R ds x, F R ds = some x → F' R ds = some x) {vs : List V} {H : Hp} {Q : VK} {E : XK} (s : SpR K C F vs H Q E) : SpR K C F' vs H Q E := by
  obtain ⟨G, r, R, ds, ws, a, b, c, d, p⟩ := s
  refine ⟨G, r, R, ds, ws, a, b, c, d, ?_⟩
  cases e : F R ds with
  | none => rw [e] at p; exact p.elim
  | some x => rw [e] at p; rw [h R ds x e]; exact p
theorem pnil {pn : List (Nat × Addr)} (h : ∀ q ∈ pn, q.1 ∈ ([] : List Nat)) : pn = [] := by
  cases pn with
  | nil => rfl
  | cons q r => exact absurd (h q (by simp)) (by simp)
def mkS (i : Nat) (m : MR) : MS := fun ρ => if unAt i ρ = true then (match m RS.nil ρ with
  | some (.rt s ρ', _) => some (.rt s ρ')
  | some (.nx ρ', _) => some (.nx ρ')
  | _ => none) else none
section
variable {X : Cx} {C : Addr} {i : Nat} {pos : Pos}
theorem psx_make {k : Nat} {f : Addr} {fd : FuncData} {ps : List Str} {x y : Str} {p pos' pos2 : Pos} {rest : List Stmt} {m : MR} {E : XK} {pn : List (Nat × Addr)} (hpn : pn = []) (M : Mk X.K C f) (F : FnOk X.prog X.w X.K X.mg X.base CX0 k f fd ps (SpInit X.K C)) (hr : Room (k + 1) X.A) (hm : X.mg y = some (.ref C)) (hb : Binds X.K fd ps [])
    (hN : X.N.Nodup) (hi : X.N[i]? = some x) (hx : Loc X.env.scope x) (hrest : PSs X rest (tR X.K C i m)) (hg : Gl X y := by rfl) (hdb : (y == ("__debug__" : Str)) = false := by decide)
    (hs : swapsWith (.Call (.Name y p) [] [] pos) (some (.Name x pos')) pos2.line X.env = pure false := by rfl) (hf : X.fn x = true ∨ X.env.scope.names.lookup x = some .local := by first | exact .inl rfl | exact .inr rfl | assumption) :
    PSs X (.Assign [.Name x pos'] (.Call (.Name y p) [] [] pos) pos2 :: rest) (tS X.K pn E (mkS i m)) :=
  (pss_cons (ps_set hN hi hx (pe_make0 M F hr hg hm hb .nil pass0 hdb) hs hf) hrest).imp fun D σ H ⟨G, ρ, ok, h⟩ => by
    subst hpn
    unfold mkS at h
    by_cases un : unAt i ρ = true
    rotate_left
    · rw [if_neg un] at h; exact h.elim
    rw [if_pos un] at h
    have un := unAt_iff.mp un
    have hl := ok.len
    have li : i < σ.length := by rw [hl]; exact lt_of_get un
    intro a dx ha hdx ne
    refine ⟨a, dx, rfl, upd_same, by rw [upd_ne ne]; exact upd_same, fun H' r ra rdx keep h1 h2 hL n12 ia e1 e2 eL => ⟨rfl, ?_⟩⟩
    subst ra; subst rdx
    show tR X.K C i m D (σ.set i (some (.ref r.a))) H'
    have free : ∀ {b : Addr}, upd (upd H r.dx (.own r.a)) r.a (.ins C r.dx []) b = none → H b = none := fun {b} e => by
      by_cases c1 : b = r.a
      · subst c1; exact ha
      · by_cases c2 : b = r.dx
        · subst c2; exact hdx
        · rw [upd_ne c1, upd_ne c2] at e; exact e
    have old : ∀ {b : Addr} {o : HO}, H b = some o → H' b = some o := fun {b o} e => by
      have c1 := ne_of_none e ha
      have c2 := ne_of_none e hdx
      exact keep b o (by rw [upd_ne c1, upd_ne c2]; exact e) c1
    have no : ∀ b, r.O b → H b = none := fun b o => by
      rcases o with rfl | rfl | rfl | rfl | rfl
      · exact ha
      · exact hdx
      · exact free h1
      · exact free h2
      · exact free hL
    have ok1 : EnvOk X.K [(i, r.a)] G H' (σ.set i (some (.ref r.a))) ρ := by
      have at_ : ∀ {j : Nat} {s : Sl}, ρ[j]? = some s → s ≠ .un → (σ.set i (some (.ref r.a)))[j]? = σ[j]? := fun {j s} e n => List.getElem?_set_ne (fun z => by subst z; rw [un] at e; cases e; exact n rfl)
      refine ⟨fun b o e => old (ok.sub b o e), by rw [List.length_set]; exact hl, fun j d e => ?_, fun j ds e => ?_, fun j l ds es p e1 e2 e3 e4 => ?_, fun q hq => ?_⟩
      · obtain ⟨v, a1, a2⟩ := ok.dt j d e
        exact ⟨v, by rw [at_ e (by simp)]; exact a1, a2⟩
      · obtain ⟨p, vs, a1, a2, a3, a4⟩ := ok.ol j ds e
        exact ⟨p, vs, by rw [at_ e (by simp)]; exact a1, old a2, a3, a4⟩
      · rw [at_ e1 (by simp)] at e3; rw [at_ e2 (by simp)] at e4
        exact ok.inj j l ds es p e1 e2 e3 e4
      · simp at hq; subst hq
        exact List.getElem?_set_self li
    have own1 : ∀ b, OwnAt (σ.set i (some (.ref r.a))) ρ b → OwnAt σ ρ b := fun b ⟨j, ds, z1, z2⟩ => ⟨j, ds, z1, by
      rw [List.getElem?_set_ne (fun z => by subst z; rw [un] at z1; cases z1)] at z2; exact z2⟩
    have disj : ∀ b, r.O b → ¬ OwnAt (σ.set i (some (.ref r.a))) ρ b := fun b o z => by
      obtain ⟨j, ds, z1, z2⟩ := own1 b z
      obtain ⟨p, vs, a1, a2, _⟩ := ok.ol j ds z1
      rw [z2] at a1; cases a1
      rw [no b o] at a2; cases a2
    have rel : RelAt X.K C G H' r RS.nil := ⟨ia, keep _ _ (by rw [upd_ne ne]; exact upd_same) ne, ⟨[], e1, .nil⟩, e2, eL, fun b o => Same.free ok.sub (no b o), n12⟩
    have conv : ∀ {G2 H2 : Hp} {σ2 : St} {ρ2 : Rho}, Ext G H' (fun b => OwnAt (σ.set i (some (.ref r.a))) ρ b ∨ r.O b) G2 H2 (fun b => OwnAt σ2 ρ2 b ∨ r.O b) → Ext G H (OwnAt σ ρ) G2 H2 (OwnAt σ2 ρ2) := fun {G2 H2 σ2 ρ2} x => by
      have back : ∀ {b : Addr}, H' b = none → H b = none := fun {b} e => by
        cases c : H b with
        | none => rfl
        | some o => rw [old c] at e; cases e
      refine ⟨x.grow, fun b e => ?_, fun b o e n => x.keep b o (old e) (fun z => z.elim (fun z => n (own1 b z)) fun z => by rw [no b z] at e; cases e), fun b z => ?_⟩
      · rcases x.fresh b e with z | z | z | z
        · exact .inl z
        · exact .inr (.inl (back z))
        · exact .inr (.inr (own1 b z))
        · exact .inr (.inl (no b z))
      · rcases x.own b (.inl z) with (z | z) | z
        · exact .inl (own1 b z)
        · exact .inr (no b z)
        · exact .inr (back z)
    refine ⟨G, ρ, r, RS.nil, ok1, rel, disj, un, ?_⟩
    have drop : ∀ {G2 H2 : Hp} {σ2 : St} {ρ2 : Rho}, EnvOk X.K [(i, r.a)] G2 H2 σ2 ρ2 → EnvOk X.K [] G2 H2 σ2 ρ2 := fun o => ⟨o.sub, o.len, o.dt, o.ol, o.inj, fun q hq => by simp at hq⟩
    cases em : m RS.nil ρ with
    | none => rw [em] at h; exact h.elim
    | some z =>
      obtain ⟨z, R'⟩ := z
      rw [em] at h
      cases z with
      | nx ρ' => exact fun σ' G' H2 o1 _ _ x => h σ' G' H2 (drop o1) (conv x)
      | rt s ρ' => exact fun v σ' G' H2 o1 _ _ x => h v σ' G' H2 (drop o1) (conv x)
      | bk _ => exact h.elim
      | ct _ => exact h.elim
      | exc _ _ => exact h.elim
end
end BK

/-! Objects of one's own aside of the data, of any kind: read as data, changed by rules of their own. -/
namespace BZ
open PySem L2 BT BK
/-- a kind of things that stand aside: S their states, pn the slots that hold them, O their addresses -/
structure Zk (K : PySem.W.Frag) where
  S : Type
  pn : List (Nat × Addr)
  O : Addr → Prop
  At : S → Hp → Prop
  dat : S → Nat → Option D
  loc : ∀ {s : S} {H H' : Hp}, At s H → (∀ b o, O b → H b = some o → H' b = some o) → At s H'
  some_ : ∀ {s : S} {H : Hp} {b : Addr}, At s H → O b → H b ≠ none
  dts : ∀ {s : S} {H G' : Hp}, At s H → (∀ b o, O b → H b = some o → G' b = some o) → ∀ i d, dat s i = some d → ∃ a, (i, a) ∈ pn ∧ Dt K G' (.ref a) d
variable {K : PySem.W.Frag} {Z : Zk K}
/-- the state with the things as data -/
def vw (Z : Zk K) (s : Z.S) (ρ : Rho) : Rho := ρ.mapIdx fun i x => match Z.dat s i with | some d => .dt d | none => x
def unZ (Z : Zk K) (ρ : Rho) : Prop := ∀ q ∈ Z.pn, ρ[q.1]? = some .un
/-- what stands between the parts of a state -/
structure Ok (Z : Zk K) (G H : Hp) (σ : St) (ρ : Rho) (s : Z.S) : Prop where
  env : EnvOk K Z.pn G H σ ρ
  at_ : Z.At s H
  no : ∀ b, Z.O b → G b = none
  disj : ∀ b, Z.O b → ¬ OwnAt σ ρ b
abbrev MZ (Z : Zk K) := Z.S → Rho → Option (SRs × Z.S)
section
variable (Z) (E : XK)
def PostZ (G0 H0 : Hp) (O0 : Addr → Prop) (r : Option (SRs × Z.S)) (D : Ends) : Prop := match r with
  | some (.nx ρ', s') => ∀ σ' G' H', Ok Z G' H' σ' ρ' s' → Ext G0 H0 O0 G' H' (fun b => OwnAt σ' ρ' b ∨ Z.O b) → D.nx σ' H'
  | some (.rt x ρ', s') => ∀ v σ' G' H', EnvOk K [] G' H' (σ' ++ [some v]) (ρ' ++ [x]) → Ext G0 H0 O0 G' H' (fun b => OwnAt (σ' ++ [some v]) (ρ' ++ [x]) b ∨ Z.O b) → D.rt v H'
  | _ => False
def tZ (f : MZ Z) : TS := fun D σ H => ∃ G ρ s, Ok Z G H σ ρ s ∧ unZ Z ρ ∧ PostZ Z G H (fun b => OwnAt σ ρ b ∨ Z.O b) (f s ρ) D
end
theorem PostZ.at {G0 H0 G H : Hp} {O0 O : Addr → Prop} {r : Option (SRs × Z.S)} {D : Ends} (h : PostZ Z G0 H0 O0 r D) (x : Ext G0 H0 O0 G H O) : PostZ Z G H O r D := by
  unfold PostZ at h ⊢
  split at h
  · exact fun s G' H' a b => h s G' H' a (x.trans b)
  · exact fun v s G' H' a e => h v s G' H' a (x.trans e)
  · exact h.elim
/-- kept through what does not own it -/
theorem Ok.ext {G H G' H' : Hp} {O O' : Addr → Prop} {s : Z.S} (at_ : Z.At s H) (no : ∀ b, Z.O b → G b = none) (x : Ext G H O G' H' O') (n : ∀ b, Z.O b → ¬ O b) : Z.At s H' ∧ (∀ b, Z.O b → G' b = none) ∧ ∀ b, Z.O b → ¬ O' b := by
  refine ⟨Z.loc at_ fun b o ob e => x.keep b o e (n b ob), fun b ob => ?_, fun b ob q => ?_⟩
  · cases eg : G' b with
    | none => rfl
    | some u =>
      rcases x.fresh b (by rw [eg]; simp) with q | q | q
      · exact absurd (no b ob) q
      · exact absurd q (Z.some_ at_ ob)
      · exact absurd q (n b ob)
  · rcases x.own b q with q | q
    · exact n b ob q
    · exact Z.some_ at_ ob q
open Classical in
noncomputable def frmZ (Z : Zk K) (f : MS) : MZ Z := fun s ρ => match f ρ with
  | some (.nx ρ') => if unZ Z ρ' then some (.nx ρ', s) else none
  | some (.rt x ρ') => some (.rt x ρ', s)
  | _ => none
open Classical in
noncomputable def sqZ (Z : Zk K) (f g : MZ Z) : MZ Z := fun s ρ => match f s ρ with
  | some (.nx ρ', s') => if unZ Z ρ' then g s' ρ' else none
  | x => x
def nxZ : MZ Z := fun s ρ => some (.nx ρ, s)
section
variable {X : Cx} {Z : Zk X.K} {pos : Pos}
theorem psz_frame {st : Stmt} {f : MS} (h : PS X st (tS X.K Z.pn E00 f)) : PS X st (tZ Z (frmZ Z f)) := h.imp fun D σ H ⟨G, ρ, s, ok, un, p⟩ => by
  refine ⟨G, ρ, ok.env, ?_⟩
  unfold frmZ at p
  cases e : f ρ with
  | none => rw [e] at p; exact p
  | some x =>
    rw [e] at p
    cases x with
    | nx ρ' =>
      intro σ' G' H' ok' x'
      simp only at p
      split at p
      · obtain ⟨a, b, c⟩ := Ok.ext ok.at_ ok.no x' ok.disj
        exact p σ' G' H' ⟨ok', a, b, c⟩ x'.wide
      · exact p.elim
    | rt y ρ' =>
      intro v σ' G' H' ok' x'
      exact p v σ' G' H' ⟨ok'.sub, ok'.len, ok'.dt, ok'.ol, ok'.inj, fun q hq => by simp at hq⟩ x'.wide
    | bk _ => exact p.elim
    | ct _ => exact p.elim
    | exc _ _ => exact p.elim
theorem psz_nil : PSs X [] (tZ Z nxZ) := pss_nil.imp fun D σ H ⟨G, ρ, s, ok, un, p⟩ => p σ G H ok Ext.refl
theorem psz_cons {st : Stmt} {rest : List Stmt} {f g : MZ Z} (h1 : PS X st (tZ Z f)) (h2 : PSs X rest (tZ Z g)) : PSs X (st :: rest) (tZ Z (sqZ Z f g)) :=
  (pss_cons h1 h2).imp fun D σ H ⟨G, ρ, s, ok, un, p⟩ => by
    refine ⟨G, ρ, s, ok, un, ?_⟩
    unfold sqZ at p
    cases e : f s ρ with
    | none => rw [e] at p; exact p
    | some x =>
      rw [e] at p
      obtain ⟨x, s'⟩ := x
      cases x with
      | nx ρ' =>
        intro σ' G' H' a b
        simp only at p
        split at p
        · rename_i z
          exact ⟨G', ρ', s', a, z, p.at b⟩
        · exact p.elim
      | rt _ _ => exact p
      | bk _ => exact p
      | ct _ => exact p
      | exc _ _ => exact p
theorem psz_one {st : Stmt} {f : MZ Z} (h1 : PS X st (tZ Z f)) : PSs X [st] (tZ Z f) := pss_one h1
end

/-! ### tests and expressions that read the things as data -/
abbrev EZ (Z : Zk K) (α : Type) := Z.S → Rho → Option (α × Rho)
section
variable (Z)
def PostEZ (σ : St) (s : Z.S) (G0 H0 : Hp) (O0 : Addr → Prop) (r : Option (Sl × Rho)) (Q : VK) : Prop := match r with
  | some (x, ρ') => ∀ v G' H', EnvOk K Z.pn G' H' (σ ++ [some v]) (ρ' ++ [x]) → Z.At s H' → (∀ b, Z.O b → G' b = none) → (∀ b, Z.O b → ¬ OwnAt (σ ++ [some v]) (ρ' ++ [x]) b) → Ext G0 H0 O0 G' H' (fun b => OwnAt (σ ++ [some v]) (ρ' ++ [x]) b ∨ Z.O b) → Q v H'
  | none => False
def PostTZ (σ : St) (s : Z.S) (G0 H0 : Hp) (O0 : Addr → Prop) (r : Option (Bool × Rho)) (Q : Bool → Hp → Prop) : Prop := match r with
  | some (x, ρ') => ∀ G' H', Ok Z G' H' σ ρ' s → Ext G0 H0 O0 G' H' (fun b => OwnAt σ ρ' b ∨ Z.O b) → Q x H'
  | none => False
def tEZ (f : EZ Z Sl) : TE := fun σ H Q => ∃ G ρ s, Ok Z G H σ ρ s ∧ unZ Z ρ ∧ PostEZ Z σ s G H (fun b => OwnAt σ ρ b ∨ Z.O b) (f s ρ) Q
def tTZ (f : EZ Z Bool) : TT := fun σ H Q => ∃ G ρ s, Ok Z G H σ ρ s ∧ unZ Z ρ ∧ PostTZ Z σ s G H (fun b => OwnAt σ ρ b ∨ Z.O b) (f s ρ) Q
end
open Classical in
noncomputable def viewE (Z : Zk K) (f : M Sl) : EZ Z Sl := fun s ρ => match f (vw Z s (frzAll ρ)) with
  | some (.val x ρ') => if ρ' = vw Z s (frzAll ρ) ∧ atomS x = true then some (x, frzAll ρ) else none
  | _ => none
open Classical in
noncomputable def viewT (Z : Zk K) (f : M Bool) : EZ Z Bool := fun s ρ => match f (vw Z s (frzAll ρ)) with
  | some (.val x ρ') => if ρ' = vw Z s (frzAll ρ) then some (x, frzAll ρ) else none
  | _ => none
theorem vw_get {s : Z.S} {ρ : Rho} {j : Nat} : (vw Z s ρ)[j]? = (ρ[j]?).map fun x => match Z.dat s j with | some d => .dt d | none => x := by
  unfold vw; rw [List.getElem?_mapIdx]
/-- the state in which the things are data -/
theorem Ok.view {G H : Hp} {σ : St} {ρ : Rho} {s : Z.S} (ok : Ok Z G H σ ρ s) (un : unZ Z ρ) (nof : ∀ (j : Nat) (ds : List D), ρ[j]? ≠ some (.ol ds)) : EnvOk K Z.pn H H σ (vw Z s ρ) := by
  have noo : ∀ (j : Nat) (ds : List D), (vw Z s ρ)[j]? ≠ some (.ol ds) := fun j ds h => by
    rw [vw_get] at h
    cases e : ρ[j]? with
    | none => rw [e] at h; cases h
    | some x =>
      rw [e] at h
      simp only [Option.map_some, Option.some.injEq] at h
      split at h
      · cases h
      · rw [h] at e; exact nof j ds e
  refine ⟨Same.refl _, by unfold vw; rw [List.length_mapIdx]; exact ok.env.len, fun j d h => ?_, fun j ds h => (noo j ds h).elim, fun j k ds es p h => (noo j ds h).elim, ok.env.pins⟩
  rw [vw_get] at h
  cases e : ρ[j]? with
  | none => rw [e] at h; cases h
  | some x =>
    rw [e] at h
    simp only [Option.map_some, Option.some.injEq] at h
    split at h
    · rename_i d' ed
      cases h
      obtain ⟨a, m, dt⟩ := Z.dts ok.at_ (G' := H) (fun b o _ e => e) j d ed
      exact ⟨_, ok.env.pins _ m, dt⟩
    · subst h
      obtain ⟨v, a, b⟩ := ok.env.dt j d e
      exact ⟨v, a, b.mono ok.env.sub⟩
section
theorem frzOk {G H : Hp} {σ : St} {ρ : Rho} {s : Z.S} (ok : Ok Z G H σ ρ s) (un : unZ Z ρ) : Ok Z (adds G H (OwnAt σ ρ)) H σ (frzAll ρ) s ∧ unZ Z (frzAll ρ) ∧ Ext G H (OwnAt σ ρ) (adds G H (OwnAt σ ρ)) H (fun _ => False) := by
  obtain ⟨okf, xf⟩ := EnvOk.frzAll ok.env
  obtain ⟨a, b, c⟩ := Ok.ext ok.at_ ok.no xf ok.disj
  exact ⟨⟨okf, a, b, fun b _ ⟨j, ds, h, _⟩ => frzAll_no h⟩, fun q hq => frzAll_un_at (un q hq), xf⟩
/-- behind a reading: a temp of atoms, or none -/
theorem viewZ_out {G H G' H' : Hp} {σ : St} {ρf ρ' : Rho} {s : Z.S} {tv : List (Option V)} {ts : List Sl} (ok : Ok Z G H σ ρf s) (nof : ∀ (j : Nat) (ds : List D), ρf[j]? ≠ some (.ol ds)) (hl : ρ'.length = ρf.length) (noV : ∀ b, ¬ OwnAt σ ρ' b)
    (ok' : EnvOk K Z.pn G' H' (σ ++ tv) (ρ' ++ ts)) (one : ts.length ≤ 1) (lt : tv.length = ts.length) {Ov : Addr → Prop} (hO : ∀ a, ¬ Ov a) (x : Ext H H Ov G' H' (OwnAt (σ ++ tv) (ρ' ++ ts))) (at_ : ∀ y ∈ ts, atomS y = true) :
    EnvOk K Z.pn G H' (σ ++ tv) (ρf ++ ts) ∧ Z.At s H' ∧ (∀ b, Z.O b → ¬ OwnAt (σ ++ tv) (ρf ++ ts) b) ∧ ∀ P : Addr → Prop, Ext G H P G H' (fun b => OwnAt (σ ++ tv) (ρf ++ ts) b ∨ P b) := by
  have l0 := ok.env.len
  have keep : ∀ b o, H b = some o → H' b = some o := fun b o e => x.keep b o e (hO b)
  have src : ∀ {j : Nat} {y : Sl}, (ρf ++ ts)[j]? = some y → (j < ρf.length ∧ ρf[j]? = some y ∧ (σ ++ tv)[j]? = σ[j]?) ∨ (j = ρf.length ∧ y ∈ ts ∧ (ρ' ++ ts)[j]? = some y) := fun {j y} h => by
    by_cases c : j < ρf.length
    · rw [get_append_lt c] at h; exact .inl ⟨c, h, get_append_lt (by omega)⟩
    · rw [List.getElem?_append_right (by omega)] at h
      have m := lt_of_get h
      refine .inr ⟨by omega, List.mem_of_getElem? h, ?_⟩
      rw [List.getElem?_append_right (by omega), hl]; exact h
  have fresh : ∀ {j : Nat} {ds : List D} {p : Addr}, (ρ' ++ ts)[j]? = some (.ol ds) → (σ ++ tv)[j]? = some (some (.ref p)) → H p = none := fun h1 h2 => (x.own _ ⟨_, _, h1, h2⟩).elim (fun z => (hO _ z).elim) id
  refine ⟨⟨fun b o e => keep b o (ok.env.sub b o e), by simp [l0, lt], fun j d h => ?_, fun j ds h => ?_, fun j k ds es p h1 h2 h3 h4 => ?_, fun q hq => ?_⟩, Z.loc ok.at_ fun b o _ e => keep b o e, fun b o ⟨j, ds, h1, h2⟩ => ?_, fun P => ⟨Same.refl _, fun _ h => .inl h, fun b o e _ => keep b o e, fun b z => ?_⟩⟩
  · rcases src h with ⟨c, h, e⟩ | ⟨c, m, h⟩
    · obtain ⟨v, a, b⟩ := ok.env.dt j d h
      exact ⟨v, by rw [e]; exact a, b⟩
    · obtain ⟨v, a, b⟩ := ok'.dt j d h
      exact ⟨v, a, atom_any b (at_ _ m)⟩
  · rcases src h with ⟨c, h, e⟩ | ⟨c, m, h⟩
    · exact (nof j ds h).elim
    · obtain ⟨p, vs, a, b, c', d⟩ := ok'.ol j ds h
      exact ⟨p, vs, a, b, Same.free ok.env.sub (fresh h a), atoms_any d (at_ _ m)⟩
  · rcases src h1 with ⟨_, h, _⟩ | ⟨c, _⟩
    · exact (nof j ds h).elim
    · rcases src h2 with ⟨_, h, _⟩ | ⟨c2, _⟩
      · exact (nof k es h).elim
      · rw [c, c2]
  · have := ok.env.pins q hq
    rw [get_append_lt (lt_of_get this)]; exact this
  · rcases src h1 with ⟨_, h, _⟩ | ⟨c, m, h⟩
    · exact nof j ds h
    · exact Z.some_ ok.at_ o (fresh h h2)
  · rcases z with ⟨j, ds, h1, h2⟩ | z
    · rcases src h1 with ⟨_, h, _⟩ | ⟨c, m, h⟩
      · exact (nof j ds h).elim
      · exact .inr (fresh h h2)
    · exact .inl z
end
end BZ

namespace BZ
open PySem L2 BT BK
variable {X : Cx} {Z : Zk X.K} {pos : Pos}
theorem vw_len {K : PySem.W.Frag} {Z : Zk K} {s : Z.S} {ρ : Rho} : (vw Z s ρ).length = ρ.length := by unfold vw; rw [List.length_mapIdx]
theorem vw_no {K : PySem.W.Frag} {Z : Zk K} {s : Z.S} {ρ : Rho} (nof : ∀ (j : Nat) (ds : List D), ρ[j]? ≠ some (.ol ds)) (σ : St) : ∀ b, ¬ OwnAt σ (vw Z s ρ) b := fun b ⟨j, ds, h, _⟩ => by
  rw [vw_get] at h
  cases e : ρ[j]? with
  | none => rw [e] at h; cases h
  | some x =>
    rw [e] at h
    simp only [Option.map_some, Option.some.injEq] at h
    split at h
    · cases h
    · rw [h] at e; exact nof j ds e
theorem pez_view {a : Expr} {f : M Sl} (h : PE X a (tE X.K Z.pn E00 f)) : PE X a (tEZ Z (viewE Z f)) := h.imp fun σ H Q ⟨G, ρ, s, ok, un, p⟩ => by
  obtain ⟨okf, unf, xf⟩ := frzOk ok un
  have nof : ∀ (j : Nat) (ds : List D), (frzAll ρ)[j]? ≠ some (.ol ds) := fun j ds h => frzAll_no h
  have okv := okf.view unf nof
  refine ⟨H, _, okv, ?_⟩
  unfold viewE at p
  cases e : f (vw Z s (frzAll ρ)) with
  | none => rw [e] at p; exact p
  | some x =>
    rw [e] at p
    cases x with
    | exc _ _ => exact p.elim
    | val y ρ' =>
      intro v G' H' ok' x'
      simp only at p
      split at p
      · rename_i z
        obtain ⟨rfl, z1⟩ := z
        obtain ⟨a, b, c, d⟩ := viewZ_out (ts := [y]) (tv := [some v]) okf nof vw_len (vw_no nof σ) ok' (by simp) rfl (Ov := OwnAt σ (vw Z s (frzAll ρ))) (vw_no nof σ) x' (by simpa using z1)
        refine p v _ H' a b okf.no c ((xf.wide (P := Z.O)).trans ?_)
        have dd := d Z.O
        exact ⟨dd.grow, fun _ z => (dd.fresh _ z).elim .inl fun z => z.elim (fun z => .inr (.inl z)) fun z => .inr (.inr (.inr z)), fun b o e q => dd.keep b o e fun z => q (.inr z), fun b q => (dd.own b q).imp .inr id⟩
      · exact p.elim
theorem ptz_view {a : Expr} {f : M Bool} (h : PT X a (tT X.K Z.pn E00 f)) : PT X a (tTZ Z (viewT Z f)) := h.imp fun σ H Q ⟨G, ρ, s, ok, un, p⟩ => by
  obtain ⟨okf, unf, xf⟩ := frzOk ok un
  have nof : ∀ (j : Nat) (ds : List D), (frzAll ρ)[j]? ≠ some (.ol ds) := fun j ds h => frzAll_no h
  have okv := okf.view unf nof
  refine ⟨H, _, okv, ?_⟩
  unfold viewT at p
  cases e : f (vw Z s (frzAll ρ)) with
  | none => rw [e] at p; exact p
  | some x =>
    rw [e] at p
    cases x with
    | exc _ _ => exact p.elim
    | val y ρ' =>
      intro G' H' ok' x'
      simp only at p
      split at p
      · rename_i z
        subst z
        obtain ⟨a, b, c, d⟩ := viewZ_out (ts := []) (tv := []) okf nof vw_len (vw_no nof σ) (by rw [List.append_nil, List.append_nil]; exact ok') (by simp) rfl (Ov := OwnAt σ (vw Z s (frzAll ρ))) (vw_no nof σ) (by rw [List.append_nil, List.append_nil]; exact x') (by simp)
        rw [List.append_nil, List.append_nil] at a
        refine p _ H' ⟨a, b, okf.no, fun b o z => c b o (by rw [List.append_nil, List.append_nil]; exact z)⟩ ((xf.wide (P := Z.O)).trans ?_)
        have dd := d Z.O
        rw [List.append_nil, List.append_nil] at dd
        exact ⟨dd.grow, fun _ z => (dd.fresh _ z).elim .inl fun z => z.elim (fun z => .inr (.inl z)) fun z => .inr (.inr (.inr z)), fun b o e q => dd.keep b o e fun z => q (.inr z), fun b q => (dd.own b q).imp .inr id⟩
      · exact p.elim
open Classical in
noncomputable def ifZ {K : PySem.W.Frag} (Z : Zk K) (t : EZ Z Bool) (f g : MZ Z) : MZ Z := fun s ρ => match t s ρ with
  | some (b, ρ') => if unZ Z ρ' then (if b = true then f s ρ' else g s ρ') else none
  | none => none
theorem psz_if {c : Expr} {a b : List Stmt} {t : EZ Z Bool} {f g : MZ Z} (hc : PT X c (tTZ Z t)) (ha : PSs X a (tZ Z f)) (hb : PSs X b (tZ Z g)) : PS X (.If c a b pos) (tZ Z (ifZ Z t f g)) :=
  (ps_if hc ha hb).imp fun D σ H ⟨G, ρ, s, ok, un, p⟩ => ⟨G, ρ, s, ok, un, by
    unfold ifZ at p
    cases e : t s ρ with
    | none => rw [e] at p; exact p
    | some x =>
      obtain ⟨x, ρ'⟩ := x
      rw [e] at p
      intro G' H' ok' x'
      simp only at p
      split at p
      · rename_i z
        cases x with
        | true => exact ⟨G', ρ', s, ok', z, p.at x'⟩
        | false => exact ⟨G', ρ', s, ok', z, p.at x'⟩
      · exact p.elim⟩
/-- x = e -/
def setZ {K : PySem.W.Frag} (Z : Zk K) (j : Nat) (f : EZ Z Sl) : MZ Z := fun s ρ => match f s ρ with | some (y, ρ') => if j < ρ'.length then some (.nx (ρ'.set j y), s) else none | none => none
theorem psz_set {j : Nat} {x : Str} {e : Expr} {f : EZ Z Sl} {pos' : Pos} (hp : ∀ q ∈ Z.pn, q.1 ≠ j) (hN : X.N.Nodup) (hi : X.N[j]? = some x) (hx : Loc X.env.scope x) (he : PE X e (tEZ Z f)) (hs : swapsWith e (some (.Name x pos')) pos.line X.env = pure false := by rfl)
    (hf : X.fn x = true ∨ X.env.scope.names.lookup x = some .local := by first | exact .inl rfl | exact .inr rfl | assumption) : PS X (.Assign [.Name x pos'] e pos) (tZ Z (setZ Z j f)) :=
  (ps_set hN hi hx he hs hf).imp fun D σ H ⟨G, ρ, s, ok, un, p⟩ => ⟨G, ρ, s, ok, un, by
    unfold setZ at p
    cases e : f s ρ with
    | none => rw [e] at p; exact p
    | some y =>
      obtain ⟨y, ρ1⟩ := y
      rw [e] at p
      intro v G1 H1 ok1 a1 no1 n1 x1
      simp only at p
      split at p
      · rename_i c
        obtain ⟨ok2, sub⟩ := ok1.setSlot c fun q hq => ⟨hp q hq, ok.env.pinLt q hq⟩
        exact p _ G1 H1 ⟨ok2, a1, no1, fun b o z => n1 b o (sub b z)⟩ ⟨x1.grow, x1.fresh, x1.keep, fun b z => x1.own b (z.imp (sub b) id)⟩
      · exact p.elim⟩

open Classical in
noncomputable def loopZ {K : PySem.W.Frag} (Z : Zk K) (b : D → Rho → Option Rho) (body : MZ Z) : List D → MZ Z
  | [] => nxZ
  | d :: ds => fun s ρ => match b d ρ with
    | none => none
    | some ρ1 => if unZ Z ρ1 then (match body s ρ1 with
      | some (.nx ρ2, s2) => if unZ Z ρ2 then loopZ Z b body ds s2 ρ2 else none
      | some (.rt x ρ2, s2) => some (.rt x ρ2, s2)
      | _ => none) else none
open Classical in
noncomputable def forZ {K : PySem.W.Frag} (Z : Zk K) (src : M (List D)) (b : D → Rho → Option Rho) (body : MZ Z) : MZ Z := fun s ρ => match src ρ with
  | some (.val ds ρ') => if unZ Z ρ' then loopZ Z b body ds s ρ' else none
  | _ => none
theorem psz_for {tg iter : Expr} {body : List Stmt} {src : M (List D)} {g : TG} {b : D → Rho → Option Rho} {bs : List Nat} {f : MZ Z} (hp : PassesOwn (model X.prog X.w) X.A X.env X.xe) (hc : X.calm = true) (hi : PI X tg iter (tI X.K Z.pn E00 src)) (hg : PG X tg g) (hb : GB X.K Z.pn g b bs) (hbody : PSs X body (tZ Z f))
    (hs : ∀ x, foldedSetIterable iter X.env x = pure x := by intro _; rfl) : PS X (.For tg iter body [] pos) (tZ Z (forZ Z src b f)) :=
  (ps_for hp hc hi hg hbody hs).imp fun D σ H ⟨G, ρ, s, ok, un, p⟩ => ⟨G, ρ, ok.env, by
    unfold forZ at p
    cases e : src ρ with
    | none => rw [e] at p; exact p
    | some x =>
      rw [e] at p
      cases x with
      | exc _ _ => exact p.elim
      | val ds ρ0 =>
      intro J G1 H1 ok1 x1 y1
      simp only at p
      split at p
      rotate_left
      · exact p.elim
      rename_i un1
      obtain ⟨a1, b1, c1⟩ := Ok.ext ok.at_ ok.no x1 ok.disj
      have p := p.at x1.wide
      refine ⟨fun k m σ H => m = ds.length - k ∧ k ≤ ds.length ∧ ∃ G ρ s, Ok Z G H σ ρ s ∧ unZ Z ρ ∧ Yields X.K J G ds ∧ PostZ Z G H (fun b => OwnAt σ ρ b ∨ Z.O b) (loopZ Z b f (ds.drop k) s ρ) D,
        ⟨ds.length, rfl, Nat.zero_le _, G1, ρ0, s, ⟨ok1, a1, b1, c1⟩, un1, y1, p⟩, ?_⟩
      rintro k m σ H ⟨rfl, hk, G, ρ, s, ok, un, y, p⟩
      by_cases hlt : k < ds.length
      · have ed : ds[k]? = some ds[k] := List.getElem?_eq_getElem hlt
        rw [List.drop_eq_getElem_cons hlt] at p
        refine .inr ⟨y.go k _ H ok.env.sub ed, fun σ' H' => ∃ G ρ s, Ok Z G H' σ' ρ s ∧ unZ Z ρ ∧ Yields X.K J G ds ∧ PostZ Z G H' (fun b => OwnAt σ' ρ b ∨ Z.O b) (loopZ Z b f (ds.drop (k + 1)) s ρ) D,
          fun σ' H' ⟨G', ρ', s', a1, a2, a3, a4⟩ => ⟨ds.length - (k + 1), by omega, rfl, hlt, G', ρ', s', a1, a2, a3, a4⟩, fun v H' q => ?_⟩
        obtain ⟨G2, ok2, d2, x2⟩ := y.item ok.env ed q
        obtain ⟨a2, b2, c2⟩ := Ok.ext ok.at_ ok.no x2 ok.disj
        refine hb v _ σ G2 H' ρ _ ok2 d2 ?_
        simp only [loopZ] at p
        cases eb : b ds[k] ρ with
        | none => rw [eb] at p; exact p
        | some ρ3 =>
          rw [eb] at p
          intro σ3 hl ok3 sub3
          simp only at p
          split at p
          rotate_left
          · exact p.elim
          rename_i un3
          have x3 : Ext G H (OwnAt σ ρ) G2 H' (OwnAt σ3 ρ3) := x2.sub sub3
          have p' := p.at (x3.wide (P := Z.O))
          have y2 := y.mono x2.grow
          refine ⟨G2, ρ3, s, ⟨ok3, a2, b2, fun b o z => c2 b o (sub3 b z)⟩, un3, ?_⟩
          cases ef : f s ρ3 with
          | none => rw [ef] at p'; exact p'
          | some z =>
            obtain ⟨z, s4⟩ := z
            rw [ef] at p'
            cases z with
            | nx ρ4 =>
              intro σ' G' H'' a b
              simp only at p'
              split at p'
              · rename_i un4
                exact ⟨G', ρ4, s4, a, un4, y2.mono b.grow, p'.at b⟩
              · exact p'.elim
            | rt x ρ4 => exact p'
            | ct _ => exact p'.elim
            | bk _ => exact p'.elim
            | exc _ _ => exact p'.elim
      · have e : k = ds.length := by omega
        subst e
        rw [List.drop_length] at p
        exact .inl ⟨y.stop H ok.env.sub, p σ G H ok Ext.refl⟩⟩
end BZ

/-! Rules for dicts and for the least of two texts. -/
namespace BD
open PySem L2 BT PySem.Spec PyProof.Rows
/-- a[k] = v as a target -/
def rSetK : V → V → V → Hp → (Hp → Prop) → Prop := fun o i v H Q => ∃ a k kvs, o = .ref a ∧ i = kV k ∧ H a = some (.dK kvs) ∧ kvs.length < sizeLine ∧ Q (upd H a (.dK (putK kvs k v)))
theorem set_k {X : Cx} (hu : X.A.units + 1 < cLine) : PSet X rSetK := by
  intro pins s σ H o i v ov iv u Q I ro ri rv h
  obtain ⟨a, k, kvs, rfl, rfl, e, l, q⟩ := h
  cases ro
  exact d_setItem hu I (.inl ⟨kvs, k, e, rfl, l, rfl⟩) ri rv fun s' I' => ⟨_, I', q⟩
/-! ### a.update(b) -/
section
variable {X : Cx} {pins : List (Addr × Obj)} {σ : L2.St} {H : Hp} {s : Shared} {a b : Addr} {A : Around} {E : Value → Shared → Prop}
theorem upd_self {P : Program} {w : World} {kvs : List (Key × Value)} {Q : Value → Shared → Prop} {s : Shared} (d : s.heap.DictOf (mixKind P w) a kvs) (h : Q .none s) : wpAny (model P w) A (call (.builtin "dict.update") [.ref a, .ref a]) Q E s := by
  refine wpAny_call_entry F.slot_dict_update d.typeIs F.entry_dict_update ?_ (F.args_dict_update_2 _ _)
  unfold Builtin.«dict.update»
  refine wpAny_bind ?_
  unfold Builtin.Dict.selfAndRest
  refine wpAny_bind (wpAny_notOrdered_dict d.typeIs ?_)
  show wpAny _ _ (pure (a, [Value.ref a])) _ _ s
  apply wpAny_pure
  show wpAny _ _ (Builtin.Dict.updateFrom "dict.update" a (.ref a) [] .none) _ _ s
  unfold Builtin.Dict.updateFrom
  refine wpAny_bind (wpAny_typeOf d.typeIs ?_)
  rw [if_neg (by decide)]
  apply wpAny_bind
  unfold Builtin.Dict.merge
  apply wpAny_bind
  unfold Builtin.Dict.readDirectly
  refine wpAny_bind (wpAny_isInstance d.typeIs isSubtype_dict_dict ?_)
  simp only [Bool.not_true, Bool.false_eq_true, if_false]
  refine wpAny_bind (wpAny_specialOf d.typeIs F.slot_dict_iter.lookup (wpAny_pure ?_))
  simp only [beq_self_eq_true, if_true]
  apply wpAny_bind (wpAny_pure ?_)
  show wpAny _ _ (Builtin.Dict.mergeDict _ a a) _ _ s
  unfold Builtin.Dict.mergeDict
  rw [if_pos (by simp)]
  refine wpAny_bind (wpAny_rule (wpAny_pure ?_))
  show wpAny _ _ (Builtin.Dict.addKeywords a [] >>= _) _ _ _
  exact wpAny_bind (wpAny_pure (wpAny_pure ⟨.none, rfl, h⟩))
theorem d_upd {kvs more : List (Key × V)} {Q : Value → Shared → Prop} (I : Inv X pins σ H s) (ea : H a = some (.dK kvs)) (eb : H b = some (.dK more)) (l : kvs.length + more.length ≤ sizeLine)
    (h : ∀ s', Inv X pins σ (if a = b then H else upd H a (.dK (mergeK kvs more))) s' → Q .none s') : wpAny (model X.prog X.w) A (call (.builtin "dict.update") [.ref a, .ref b]) Q E s := by
  obtain ⟨za, ha, vs, rel, da⟩ := dk_of I.hok ea
  obtain ⟨zb, hb, ws, rel2, db⟩ := dk_of I.hok eb
  by_cases c : a = b
  · subst c
    rw [if_pos rfl] at h
    exact upd_self da (h s I)
  · rw [if_neg c] at h
    have l1 := rel.length
    have l2 := rel2.length
    refine call_meetsIn F.slot_dict_update da.typeIs F.entry_dict_update (F.args_dict_update_2 _ _) (meets_dict_update (mixKind X.prog X.w) a b c hb) ⟨vs, ws, da, db, by omega, fun h' da' db' sb => ?_⟩
    have there : ∃ q, h'.get? a = some q := let ⟨q, _, _, hq, _⟩ := da'; ⟨q, hq⟩
    have len := length_mergeK more kvs
    exact h _ (d_write (t' := s.toks) I (by rw [ea]; exact True.intro) sb there (dk_new (by omega) ha (KV.merge rel2 rel) da'))
end
def tDUpd (td te : TE) : TE := fun σ H Q => td σ H fun x H1 => ∃ a, x = .ref a ∧ IsD H1 a ∧ te σ H1 fun y H2 => ∃ b kvs more, y = .ref b ∧ H2 a = some (.dK kvs) ∧ H2 b = some (.dK more) ∧ kvs.length + more.length ≤ sizeLine ∧ Q .non (if a = b then H2 else upd H2 a (.dK (mergeK kvs more)))
section
variable {X : Cx} {o e : Expr} {apos cpos : Pos} {td te : TE}
theorem pe_dupd (ho : PE X o td) (he : PE X e te) (m : M1 X o "update" apos e cpos) : PE X (.Call (.Attribute o "update" apos) [e] [] cpos) (tDUpd td te) := by
  refine ⟨fun pins s σ H Q I h => ?_⟩
  refine wpAny_Call_method m.base m.few m.line F.plainAttrs_dict F.slot_dict_update F.type_dict_update (thn (ho.run pins s σ H _ I h) fun u s1 ⟨x, H1, I1, rx, a, ex, d, q1⟩ => ?_)
  subst ex
  obtain rfl : u = Value.ref a := rx
  obtain ⟨t1, t2, _⟩ := isD_at I1 d
  refine ⟨t1, t2, ?_⟩
  rw [m.trees]
  refine Calls.callWith_builtin rfl (Calls.evalArgs_plain (Calls.spliced_cons (thn (he.run pins s1 σ H1 _ I1 q1) fun w s2 ⟨y, H2, I2, ry, b, kvs, more, ey, ea, eb, l, q2⟩ => Calls.spliced_nil ?_)))
  subst ey
  obtain rfl : w = Value.ref b := ry
  exact d_upd I2 ea eb l fun s' I' => ⟨.non, _, I', rfl, q2⟩
end

/-! ### min(x, y) of texts -/
section
variable {prog : Program} {w : World} {A : Around} {E : Value → Shared → Prop} {s : Shared}
theorem two_at {x y : Str} {t u : Tok} {i : Nat} {v : Value} (h : (#[Value.str x t, .str y u])[i]? = some v) : ∃ k, v = .str (if i = 0 then x else y) k := by
  match i with
  | 0 => simp at h; exact ⟨t, h.symm⟩
  | 1 => simp at h; exact ⟨u, h.symm⟩
  | n + 2 => simp at h
theorem min_strs {x y : Str} {t u : Tok} {Q : Value → Shared → Prop} (calm : A.handled = none)
    (q : ∀ h' tk k, (∀ c o, s.heap.get? c = some o → h'.get? c = some o) → Q (.str (if y.cps.toList < x.cps.toList then y else x) k) { s with heap := h', toks := tk }) :
    wpAny (model prog w) A (call (.builtin "min") [.str x t, .str y u]) Q E s := by
  have tup : (s.heap.push { cls := .type "tuple", data := .seq #[.str x t, .str y u] }).IsTuple s.heap.objs.size #[.str x t, .str y u] := ⟨_, Heap.get?_push_size _ rfl, rfl, 0, rfl⟩
  have sz : (s.heap.push { cls := .type "tuple", data := .seq #[.str x t, .str y u] }).objs.size = s.heap.objs.size + 1 := Heap.size_push ..
  have cmp : CmpOf prog w A.in1 .Lt (fun i v => (#[Value.str x t, .str y u])[i]? = some v) (fun i j => decide ((if i = 0 then x else y).cps.toList < (if j = 0 then x else y).cps.toList)) := fun i j vi vj s Q E hi hj h => by
    obtain ⟨k, rfl⟩ := two_at hi
    obtain ⟨k', rfl⟩ := two_at hj
    exact richCompare_gives (op := .Lt) (typeIs_str s _ k) (typeIs_str s _ k') F.slot_str_lt F.entry_str_lt (F.args_str_lt_2 _ _) (gives_str_lt _ _ k k') (fun e => nomatch e) h
  refine call_min_two (wpAny_pyIter_tuple tup ?_)
  refine ⟨_, [_, s.heap.objs.size], [_], _, _, _, _, rfl, Walks.tuple (A := A.in1) calm _ s.heap.objs.size (by rw [sz]; exact Nat.ne_of_lt (Nat.lt_succ_self _)) #[.str x t, .str y u],
    ⟨⟨_, Heap.get?_push_size _ rfl, rfl, rfl⟩, tup.push _⟩, fun c hc => ?_, by simp, cmp, fun v h' tk hP hk => ?_⟩
  · show c < ((s.heap.push _).push _).objs.size
    rw [Heap.size_push, sz]
    simp only [List.mem_cons, List.not_mem_nil, or_false] at hc
    rcases hc with rfl | rfl
    · rw [sz]; exact Nat.lt_succ_self _
    · exact Nat.lt_succ_of_lt (Nat.lt_succ_self _)
  · have old : ∀ c o, s.heap.get? c = some o → h'.get? c = some o := fun c o e => by
      refine hk c o (fun hm => ?_) (Heap.get?_push_of_some _ (Heap.get?_push_of_some _ e))
      simp only [List.mem_cons, List.not_mem_nil, or_false] at hm
      have := Heap.lt_size e
      rw [hm, sz] at this; exact Nat.lt_irrefl _ (Nat.lt_of_succ_lt this)
    have hP' : (#[Value.str x t, .str y u])[argBest (fun i j => decide ((if i = 0 then x else y).cps.toList < (if j = 0 then x else y).cps.toList)) 1]? = some v := hP
    by_cases c : y.cps.toList < x.cps.toList
    · have e : argBest (fun i j => decide ((if i = 0 then x else y).cps.toList < (if j = 0 then x else y).cps.toList)) 1 = 1 := by simp [argBest, c]
      rw [e] at hP'
      have ev : v = .str y u := by simpa using hP'.symm
      have := q h' tk u old
      rw [if_pos c] at this
      rw [ev]; exact this
    · have e : argBest (fun i j => decide ((if i = 0 then x else y).cps.toList < (if j = 0 then x else y).cps.toList)) 1 = 0 := by simp [argBest, c]
      rw [e] at hP'
      have ev : v = .str x t := by simpa using hP'.symm
      have := q h' tk t old
      rw [if_neg c] at this
      rw [ev]; exact this
end
section
variable {X : Cx}
theorem call_minS (hc : X.calm = true) : CallR X (.builtin "min") (fun xs H Q => ∃ x y, xs = [.str x, .str y] ∧ Q (.str (if y.cps.toList < x.cps.toList then y else x)) H) := by
  intro pins s σ H xs us Q I r h
  obtain ⟨x, y, rfl, q⟩ := h
  obtain ⟨u, w', rfl, ⟨t, rfl⟩, ⟨t', rfl⟩⟩ := vals2 r
  exact min_strs (I.ok.hd hc) fun h' tk k old => ⟨.str (if y.cps.toList < x.cps.toList then y else x), H, I.kept old, ⟨k, rfl⟩, q⟩
end
end BD

/-! A dict of texts, and beside it a dict of dicts. -/
namespace BO
open PySem L2 BT BK BZ
abbrev Hd := List (Str × Str)
abbrev Af := List (Str × List Str)
def hdV (hd : Hd) : List (Key × V) := hd.map fun x => (Sum.inr x.1, V.str x.2)
def hdD (hd : Hd) : List (Key × D) := hd.map fun x => (Sum.inr x.1, D.str x.2)
def ksV (ks : List Str) : List (Key × V) := ks.map fun k => (Sum.inr k, V.bl true)
def ksD (ks : List Str) : List (Key × D) := ks.map fun k => (Sum.inr k, D.bl true)
def afV : Af → List Addr → List (Key × V)
  | x :: r, a :: as => (Sum.inr x.1, V.ref a) :: afV r as
  | _, _ => []
def afD (af : Af) : List (Key × D) := af.map fun x => (Sum.inr x.1, D.dic (ksD x.2))
variable {K : PySem.W.Frag} {G H : Hp}
theorem hd_dt : ∀ hd : Hd, DtK K G (hdV hd) (hdD hd)
  | [] => .nil
  | x :: r => .cons (.str _) (hd_dt r)
theorem ks_dt : ∀ ks : List Str, DtK K G (ksV ks) (ksD ks)
  | [] => .nil
  | x :: r => .cons (.bl _) (ks_dt r)
/-- the inner dicts -/
def Inn (H : Hp) : Af → List Addr → Prop
  | x :: r, a :: as => H a = some (.dK (ksV x.2)) ∧ Inn H r as
  | [], [] => True
  | _, _ => False
theorem Inn.loc {H' : Hp} : ∀ {af : Af} {as : List Addr}, Inn H af as → (∀ b o, b ∈ as → H b = some o → H' b = some o) → Inn H' af as
  | x :: r, a :: as, ⟨h, hs⟩, k => ⟨k a _ (by simp) h, Inn.loc hs fun b o m e => k b o (by simp [m]) e⟩
  | [], [], _, _ => trivial
  | [], _ :: _, h, _ => h.elim
  | _ :: _, [], h, _ => h.elim
theorem Inn.some_ : ∀ {af : Af} {as : List Addr} {b : Addr}, Inn H af as → b ∈ as → H b ≠ none
  | x :: r, a :: as, b, ⟨h, hs⟩, m => by
    rcases List.mem_cons.mp m with e | e
    · subst e; rw [h]; simp
    · exact Inn.some_ hs e
  | [], [], _, _, m => by simp at m
  | [], _ :: _, _, h, _ => h.elim
  | _ :: _, [], _, h, _ => h.elim
theorem Inn.dt {G' : Hp} : ∀ {af : Af} {as : List Addr}, Inn G' af as → DtK K G' (afV af as) (afD af)
  | x :: r, a :: as, ⟨h, hs⟩ => .cons (.dic (.inl h) (ks_dt _)) (Inn.dt hs)
  | [], [], _ => .nil
  | [], _ :: _, h => h.elim
  | _ :: _, [], h => h.elim
def Z1 (K : PySem.W.Frag) (h : Addr) : Zk K where
  S := Hd
  pn := [(2, h)]
  O := fun b => b = h
  At := fun hd H => H h = some (.dK (hdV hd))
  dat := fun hd i => if i = 2 then some (.dic (hdD hd)) else none
  loc := fun a k => k _ _ rfl a
  some_ := fun a e => by rw [e, a]; simp
  dts := fun {s H G'} a k i d e => by
    split at e
    · rename_i c
      cases e; subst c
      exact ⟨h, by simp, .dic (.inl (k _ _ rfl a)) (hd_dt _)⟩
    · cases e
/-- the outer dict, locked or not -/
def outV (lk : Option Obj) (af : Af) (as : List Addr) : HO := match lk with | none => .dK (afV af as) | some od => .frz od (.dK (afV af as))
def Z2 (K : PySem.W.Frag) (h d : Addr) (as : List Addr) (lk : Option Obj) : Zk K where
  S := Hd × Af
  pn := [(2, h), (4, d)]
  O := fun b => b = h ∨ b = d ∨ b ∈ as
  At := fun s H => H h = some (.dK (hdV s.1)) ∧ H d = some (outV lk s.2 as) ∧ Inn H s.2 as
  dat := fun s i => if i = 2 then some (.dic (hdD s.1)) else if i = 4 then some (.dic (afD s.2)) else none
  loc := fun {s H H'} ⟨a, b, c⟩ k => ⟨k _ _ (.inl rfl) a, k _ _ (.inr (.inl rfl)) b, Inn.loc c fun x o m e => k x o (.inr (.inr m)) e⟩
  some_ := fun {s H b} ⟨a, b', c⟩ o => by
    rcases o with rfl | rfl | m
    · rw [a]; simp
    · rw [b']; simp
    · exact Inn.some_ c m
  dts := fun {s H G'} ⟨a, b, c⟩ k i x e => by
    split at e
    · rename_i z
      cases e; subst z
      exact ⟨h, by simp, .dic (.inl (k _ _ (.inl rfl) a)) (hd_dt _)⟩
    · split at e
      · rename_i z
        cases e; subst z
        have kb := k _ _ (.inr (.inl rfl)) b
        refine ⟨d, by simp, .dic ?_ (Inn.dt (Inn.loc c fun x o m e => k x o (.inr (.inr m)) e))⟩
        cases lk with
        | none => exact .inl kb
        | some od => exact .inr ⟨od, kb⟩
      · cases e
/-! ### a text under a text -/
def putS (hd : Hd) (k v : Str) : Hd := if (hd.any fun x => decide (x.1 = k)) = true then hd.map (fun x => if x.1 = k then (x.1, v) else x) else hd ++ [(k, v)]
theorem key_dec {a k : Str} : decide ((Sum.inr a : Key) = Sum.inr k) = decide (a = k) := by
  by_cases c : a = k
  · simp [c]
  · simp [c]
theorem putS_V (hd : Hd) (k v : Str) : putK (hdV hd) (Sum.inr k) (.str v) = hdV (putS hd k v) := by
  unfold putK putS hdV
  have e : ((hd.map fun x => ((Sum.inr x.1 : Key), V.str x.2)).any fun kv => decide (kv.1 = (Sum.inr k : Key))) = hd.any fun x => decide (x.1 = k) := by
    rw [List.any_map]; congr 1
    funext x; exact key_dec
  rw [e]
  split
  · rw [List.map_map, List.map_map]
    congr 1
    funext x
    simp only [Function.comp]
    by_cases c : x.1 = k
    · simp [c]
    · have c' : ¬ ((Sum.inr x.1 : Key) = Sum.inr k) := fun q => c (Sum.inr.inj q)
      simp [c]
  · simp
theorem putS_len (hd : Hd) (k v : Str) : (putS hd k v).length ≤ hd.length + 1 := by unfold putS; split <;> simp
def lookS (hd : Hd) (k : Str) : Option Str := (hd.find? fun x => decide (x.1 = k)).map (·.2)
theorem valV_hd (hd : Hd) (k : Str) : valV (hdV hd) (.inr k) = (lookS hd k).map V.str := by
  unfold lookS
  induction hd with
  | nil => rfl
  | cons x r ih =>
    simp only [hdV, List.map_cons] at ih ⊢
    simp only [valV, List.find?_cons] at ih ⊢
    rw [key_dec]
    by_cases c : x.1 = k
    · simp [c]
    · simp only [c, decide_false]
      exact ih
/-- head[one], head[other] = least, least -/
def put2 (hd : Hd) (ρ : Rho) : Option (SRs × Hd) := match (ρ[6]? : Option Sl), (ρ[7]? : Option Sl), (ρ[9]? : Option Sl) with
  | some (.dt (.str a)), some (.dt (.str b)), some (.dt (.str l)) => if hd.length + 2 ≤ 1000 then some (.nx ρ, putS (putS hd a l) b l) else none
  | _, _, _ => none
theorem room (n : Nat) (h : n ≤ 1000) : n < sizeLine := Nat.lt_of_le_of_lt h (by rw [sizeLine_eq]; decide)
theorem str_at {G H : Hp} {pn : List (Nat × Addr)} {σ : St} {ρ : Rho} {i : Nat} {a : Str} (ok : EnvOk K pn G H σ ρ) (h : ρ[i]? = some (.dt (.str a))) : σ[i]? = some (some (.str a)) := by
  obtain ⟨v, e, d⟩ := ok.dt i _ h
  cases d; exact e
theorem SqT.alloc {H : Hp} {p : Addr} {xs : List V} (h : H p = some (.tup xs)) : SqT K H p xs := .inl (.inl h)
section
variable {X : Cx} {pos : Pos}
theorem psz_put2 {h : Addr} {st : Stmt} (raw : PS X st (tAsg (tTup (tCons (tVar 9) (tCons (tVar 9) tNil))) (gTup X.K 2 (gCons (gSub (tVar 2) (tVar 6) BD.rSetK) (gCons (gSub (tVar 2) (tVar 7) BD.rSetK) gNil))))) :
    PS X st (tZ (Z1 X.K h) put2) := raw.imp fun D σ H ⟨G, ρ, hd0, ok, un, p⟩ => by
  revert ok un p
  revert hd0
  show ∀ hd : Hd, _
  intro hd ok un p
  unfold put2 at p
  split at p
  rotate_left
  · exact p.elim
  rename_i a b l e6 e7 e9
  split at p
  rotate_left
  · exact p.elim
  rename_i few
  have at_ : H h = some (.dK (hdV hd)) := ok.at_
  have gh : G h = none := ok.no h rfl
  have s2 : σ[2]? = some (some (.ref h)) := ok.env.pins (2, h) (by simp [Z1])
  have s6 := str_at ok.env e6
  have s7 := str_at ok.env e7
  have s9 := str_at ok.env e9
  refine ⟨_, s9, _, s9, ?_⟩
  refine ⟨Nat.le_of_lt (room 2 (by omega)), fun q hq => ?_⟩
  have nq : h ≠ q := ne_of_none at_ hq
  refine ⟨q, _, rfl, .inl (.inl upd_same), rfl, _, _, rfl, _, s2, _, s6, ?_⟩
  have l1 : (hdV hd).length = hd.length := List.length_map _
  refine ⟨h, .inr a, hdV hd, rfl, rfl, by rw [upd_ne nq]; exact at_, by rw [l1]; exact room _ (by omega), ?_⟩
  rw [putS_V hd a l]
  have l2 := putS_len hd a l
  have l3 : (hdV (putS hd a l)).length = (putS hd a l).length := List.length_map _
  refine ⟨_, _, rfl, _, s2, _, s7, h, .inr b, hdV (putS hd a l), rfl, rfl, upd_same, by rw [l3]; exact room _ (by omega), rfl, ?_⟩
  rw [putS_V (putS hd a l) b l]
  have gq : G q = none := Same.free ok.env.sub hq
  have noq : ¬ OwnAt σ ρ q := fun ⟨j, ds, z1, z2⟩ => by
    obtain ⟨p, vs, z3, z4, _⟩ := ok.env.ol j ds z1
    rw [z2] at z3; cases z3
    rw [hq] at z4; cases z4
  have noh : ¬ OwnAt σ ρ h := ok.disj h rfl
  refine p σ G _ ⟨((ok.env.touch gq noq).touch gh noh).touch gh noh, upd_same, fun b e => by cases e; exact gh, ok.disj⟩ ⟨Same.refl _, fun _ z => .inl z, fun b o e n => ?_, fun b z => .inl z⟩
  have n1 : b ≠ h := fun z => n (.inr z)
  have n2 : b ≠ q := ne_of_none e hq
  rw [upd_ne n1, upd_ne n1, upd_ne n2]; exact e
end
end BO

namespace BO
open PySem L2 BT BK BZ
variable {K : PySem.W.Frag} {G H : Hp}
def atA : Af → List Addr → Str → Option (Addr × List Str)
  | x :: r, a :: as, u => if x.1 = u then some (a, x.2) else atA r as u
  | _, _, _ => none
def lookA : Af → Str → Option (List Str)
  | [], _ => none
  | x :: r, u => if x.1 = u then some x.2 else lookA r u
def setA : Af → Str → List Str → Af
  | [], _, _ => []
  | x :: r, u, ks => if x.1 = u then (x.1, ks) :: r else x :: setA r u ks
def addK (ks : List Str) (v : Str) : List Str := if v ∈ ks then ks else ks ++ [v]
def mergeS (ks ms : List Str) : List Str := ms.foldl addK ks
theorem valV_af : ∀ (af : Af) (as : List Addr) (u : Str), valV (afV af as) (.inr u) = (atA af as u).map fun x => V.ref x.1
  | [], _, _ => rfl
  | _ :: _, [], _ => rfl
  | x :: r, a :: as, u => by
    have ih := valV_af r as u
    simp only [valV, afV, atA, List.find?_cons] at ih ⊢
    rw [key_dec]
    by_cases c : x.1 = u
    · simp [c]
    · simp only [c, decide_false, if_false]; exact ih
theorem afV_set : ∀ (af : Af) (as : List Addr) (u : Str) (ks : List Str), afV (setA af u ks) as = afV af as
  | [], _, _, _ => rfl
  | x :: r, [], u, ks => by unfold setA; split <;> rfl
  | x :: r, a :: as, u, ks => by
    unfold setA
    split
    · rfl
    · simp only [afV, afV_set r as u ks]
theorem at_inn : ∀ {af : Af} {as : List Addr} {u : Str} {q : Addr} {ks : List Str}, Inn H af as → atA af as u = some (q, ks) → H q = some (.dK (ksV ks)) ∧ q ∈ as
  | [], _, _, _, _, _, e => by cases e
  | _ :: _, [], _, _, _, _, e => by cases e
  | x :: r, a :: as, u, q, ks, ⟨h, hs⟩, e => by
    unfold atA at e
    split at e
    · cases e; exact ⟨h, by simp⟩
    · obtain ⟨h1, h2⟩ := at_inn hs e
      exact ⟨h1, by simp [h2]⟩
theorem inn_upd {q : Addr} {o : HO} : ∀ {af : Af} {as : List Addr}, Inn H af as → q ∉ as → Inn (upd H q o) af as
  | [], [], _, _ => trivial
  | [], _ :: _, h, _ => h.elim
  | _ :: _, [], h, _ => h.elim
  | x :: r, a :: as, ⟨h, hs⟩, n => by
    have n1 : a ≠ q := fun z => n (by simp [z])
    exact ⟨by rw [upd_ne n1]; exact h, inn_upd hs fun z => n (by simp [z])⟩
theorem inn_set : ∀ {af : Af} {as : List Addr} {u : Str} {q : Addr} {ks : List Str} (ks' : List Str), Inn H af as → as.Nodup → atA af as u = some (q, ks) → Inn (upd H q (.dK (ksV ks'))) (setA af u ks') as
  | [], _, _, _, _, _, _, _, e => by cases e
  | _ :: _, [], _, _, _, _, _, _, e => by cases e
  | x :: r, a :: as, u, q, ks, ks', ⟨h, hs⟩, nd, e => by
    obtain ⟨n1, n2⟩ := List.nodup_cons.mp nd
    unfold atA at e
    unfold setA
    split
    · rename_i c
      rw [if_pos c] at e
      cases e
      exact ⟨upd_same, inn_upd hs n1⟩
    · rename_i c
      rw [if_neg c] at e
      obtain ⟨_, m⟩ := at_inn hs e
      have na : a ≠ q := fun z => n1 (z ▸ m)
      exact ⟨by rw [upd_ne na]; exact h, inn_set ks' hs n2 e⟩
theorem at_look : ∀ {af : Af} {as : List Addr} {u : Str}, af.length = as.length → (atA af as u).map (·.2) = lookA af u
  | [], _, _, _ => rfl
  | _ :: _, [], _, e => by simp at e
  | x :: r, a :: as, u, e => by
    unfold atA lookA
    split
    · rfl
    · exact at_look (by simpa using e)
theorem inn_len : ∀ {af : Af} {as : List Addr}, Inn H af as → af.length = as.length
  | [], [], _ => rfl
  | [], _ :: _, h => h.elim
  | _ :: _, [], h => h.elim
  | x :: r, a :: as, ⟨_, hs⟩ => by simp [inn_len hs]
theorem at_some {af : Af} {as : List Addr} {u : Str} {ks : List Str} (l : af.length = as.length) (h : lookA af u = some ks) : ∃ q, atA af as u = some (q, ks) := by
  rw [← at_look l] at h
  cases e : atA af as u with
  | none => rw [e] at h; cases h
  | some x => rw [e] at h; cases h; exact ⟨x.1, rfl⟩
theorem addK_V (ks : List Str) (v : Str) : putK (ksV ks) (.inr v) (.bl true) = ksV (addK ks v) := by
  unfold putK addK ksV
  have e : ((ks.map fun x => ((Sum.inr x : Key), V.bl true)).any fun kv => decide (kv.1 = (Sum.inr v : Key))) = decide (v ∈ ks) := by
    rw [List.any_map]
    induction ks with
    | nil => rfl
    | cons x r ih =>
      rw [List.any_cons, ih]
      simp only [Function.comp]
      rw [key_dec]
      by_cases c : x = v
      · subst c; simp
      · have c' : ¬ v = x := fun z => c z.symm
        simp [c, c']
  rw [e]
  by_cases c : v ∈ ks
  · rw [if_pos (by simpa using c), if_pos c, List.map_map]
    congr 1
    funext x
    simp only [Function.comp]
    split <;> rfl
  · rw [if_neg (by simpa using c), if_neg c]; simp
theorem mergeS_V (ms : List Str) : ∀ ks : List Str, mergeK (ksV ks) (ksV ms) = ksV (mergeS ks ms) := by
  induction ms with
  | nil => intro ks; rfl
  | cons m r ih =>
    intro ks
    show mergeK (putK (ksV ks) (.inr m) (.bl true)) (ksV r) = ksV (mergeS (addK ks m) r)
    rw [addK_V, ih]
theorem mem_addK {ks : List Str} {v x : Str} : x ∈ addK ks v ↔ x ∈ ks ∨ x = v := by
  unfold addK
  split
  · rename_i c
    exact ⟨.inl, fun z => z.elim id fun e => e ▸ c⟩
  · simp
theorem mem_mergeS {x : Str} : ∀ {ms ks : List Str}, x ∈ mergeS ks ms ↔ x ∈ ks ∨ x ∈ ms
  | [], ks => by simp [mergeS]
  | m :: r, ks => by
    show x ∈ mergeS (addK ks m) r ↔ _
    rw [mem_mergeS (ms := r), mem_addK]
    simp [or_assoc]
theorem mergeS_sub : ∀ {ms ks : List Str}, (∀ x ∈ ms, x ∈ ks) → mergeS ks ms = ks
  | [], _, _ => rfl
  | m :: r, ks, h => by
    show mergeS (addK ks m) r = ks
    have e : addK ks m = ks := if_pos (h m (by simp))
    rw [e]; exact mergeS_sub fun x hx => h x (by simp [hx])
theorem set_same : ∀ {af : Af} {u : Str} {ks : List Str}, lookA af u = some ks → setA af u ks = af
  | [], _, _, e => by cases e
  | x :: r, u, ks, e => by
    unfold lookA at e
    unfold setA
    split
    · rename_i c
      rw [if_pos c] at e; cases e; rfl
    · rename_i c
      rw [if_neg c] at e
      rw [set_same e]
theorem at_key : ∀ {af : Af} {as : List Addr} {u v : Str} {q : Addr} {ks ms : List Str}, as.Nodup → af.length = as.length → atA af as u = some (q, ks) → atA af as v = some (q, ms) → u = v
  | [], _, _, _, _, _, _, _, _, e, _ => by cases e
  | _ :: _, [], _, _, _, _, _, _, _, e, _ => by cases e
  | x :: r, a :: as, u, v, q, ks, ms, nd, l, e1, e2 => by
    obtain ⟨n1, n2⟩ := List.nodup_cons.mp nd
    have mem : ∀ {af : Af} {as : List Addr} {u : Str} {q : Addr} {ks : List Str}, atA af as u = some (q, ks) → q ∈ as := by
      intro af
      induction af with
      | nil => intro as u q ks e; cases e
      | cons y r ih =>
        intro as u q ks e
        cases as with
        | nil => cases e
        | cons b bs =>
          unfold atA at e
          split at e
          · cases e; simp
          · simp [ih e]
    unfold atA at e1 e2
    split at e1
    · rename_i c1
      split at e2
      · rename_i c2; exact c1.symm.trans c2
      · cases e1
        exact absurd (mem e2) n1
    · split at e2
      · cases e2
        exact absurd (mem e1) n1
      · exact at_key n2 (by simpa using l) e1 e2
end BO

namespace BO
open PySem L2 BT BK BZ
theorem out_rd {H : Hp} {d : Addr} {lk : Option Obj} {af : Af} {as : List Addr} (e : H d = some (outV lk af as)) : Rd H d (.dK (afV af as)) := by
  cases lk with
  | none => exact .inl e
  | some od => exact .inr ⟨od, e⟩
theorem out_isD {H : Hp} {d : Addr} {lk : Option Obj} {af : Af} {as : List Addr} (e : H d = some (outV lk af as)) : ∃ o, H d = some o := ⟨_, e⟩
/-- after[head[one]][head[other]] = True -/
def addZ (s : Hd × Af) (ρ : Rho) : Option (SRs × (Hd × Af)) := match (ρ[6]? : Option Sl), (ρ[7]? : Option Sl) with
  | some (.dt (.str a)), some (.dt (.str b)) => (match lookS s.1 a, lookS s.1 b with
    | some u, some v => (match lookA s.2 u with
      | some ks => if ks.length < 1000 then some (.nx ρ, (s.1, setA s.2 u (addK ks v))) else none
      | none => none)
    | _, _ => none)
  | _, _ => none
/-- after[one].update(after[middle]) -/
def updZ (s : Hd × Af) (ρ : Rho) : Option (SRs × (Hd × Af)) := match (ρ[5]? : Option Sl), (ρ[6]? : Option Sl) with
  | some (.dt (.str m)), some (.dt (.str a)) => (match lookA s.2 a, lookA s.2 m with
    | some ks, some ms => if ks.length + ms.length ≤ 1000 then some (.nx ρ, (s.1, setA s.2 a (mergeS ks ms))) else none
    | _, _ => none)
  | _, _ => none
section
variable {X : Cx} {pos : Pos} {h d : Addr} {as : List Addr} {lk : Option Obj}
theorem ok_upd {G H : Hp} {σ : St} {ρ : Rho} {hd : Hd} {af af' : Af} {q : Addr} {o : HO} (ok : Ok (Z2 X.K h d as lk) G H σ ρ (hd, af)) (nd : (h :: d :: as).Nodup) (m : q ∈ as) (i : Inn (upd H q o) af' as) (sm : afV af' as = afV af as) :
    Ok (Z2 X.K h d as lk) G (upd H q o) σ ρ (hd, af') := by
  obtain ⟨n1, n2⟩ := List.nodup_cons.mp nd
  obtain ⟨n3, n4⟩ := List.nodup_cons.mp n2
  have nh : h ≠ q := fun z => n1 (by simp [z, m])
  have nq : d ≠ q := fun z => n3 (z ▸ m)
  have oq : (Z2 X.K h d as lk).O q := .inr (.inr m)
  obtain ⟨a1, a2, a3⟩ := ok.at_
  refine ⟨ok.env.touch (ok.no q oq) (ok.disj q oq), ⟨by rw [upd_ne nh]; exact a1, ?_, i⟩, ok.no, ok.disj⟩
  show upd H q o d = some (outV lk af' as)
  rw [upd_ne nq]
  have a2 : H d = some (outV lk af as) := a2
  rw [a2]
  unfold outV
  cases lk <;> simp only [sm]
theorem psz_add (nd : (h :: d :: as).Nodup) {st : Stmt} (raw : PS X st (sDPut (tDGet (tVar 4) (tDGet (tVar 2) (tVar 6))) (tDGet (tVar 2) (tVar 7)) (tC (.bl true)))) : PS X st (tZ (Z2 X.K h d as lk) addZ) := raw.imp fun D σ H ⟨G, ρ, s, ok, un, p⟩ => by
  revert ok un p
  revert s
  show ∀ s : Hd × Af, _
  rintro ⟨hd, af⟩ ok un p
  unfold addZ at p
  split at p
  rotate_left
  · exact p.elim
  rename_i a b e6 e7
  split at p
  rotate_left
  · exact p.elim
  rename_i u v eu ev
  split at p
  rotate_left
  · exact p.elim
  rename_i ks ek
  split at p
  rotate_left
  · exact p.elim
  rename_i few
  have s2 : σ[2]? = some (some (.ref h)) := ok.env.pins (2, h) (by simp [Z2])
  have s4 : σ[4]? = some (some (.ref d)) := ok.env.pins (4, d) (by simp [Z2])
  have s6 := str_at ok.env e6
  have s7 := str_at ok.env e7
  obtain ⟨a1, a2, a3⟩ := ok.at_
  have a1 : H h = some (.dK (hdV hd)) := a1
  have a2 : H d = some (outV lk af as) := a2
  have a3 : Inn H af as := a3
  have nda : as.Nodup := (List.nodup_cons.mp (List.nodup_cons.mp nd).2).2
  obtain ⟨q, eq⟩ := at_some (inn_len a3) ek
  obtain ⟨hq, mq⟩ := at_inn a3 eq
  have eu : lookS hd a = some u := eu
  have ev : lookS hd b = some v := ev
  have g1 : some (V.str u) = valV (hdV hd) (.inr a) := by rw [valV_hd, eu]; rfl
  have g2 : some (V.str v) = valV (hdV hd) (.inr b) := by rw [valV_hd, ev]; rfl
  have g3 : some (V.ref q) = valV (afV af as) (.inr u) := by rw [valV_af, eq]; rfl
  have l1 : (ksV ks).length = ks.length := List.length_map _
  refine ⟨_, s4, _, s2, _, s6, h, _, rfl, .inl ⟨_, .inr a, .inl a1, rfl, g1⟩, d, _, rfl, .inl ⟨_, .inr u, out_rd a2, rfl, g3⟩, _, s2, _, s7, h, _, rfl, .inl ⟨_, .inr b, .inl a1, rfl, g2⟩, q, _, rfl, .inl ⟨ksV ks, .inr v, hq, rfl, by rw [l1]; exact room _ (by omega), rfl⟩, ?_⟩
  rw [addK_V]
  have i2 := inn_set (addK ks v) a3 nda eq
  refine p σ G _ (ok_upd ok nd mq i2 (afV_set _ _ _ _)) ⟨Same.refl _, fun _ z => .inl z, fun b o e n => ?_, fun b z => .inl z⟩
  rw [upd_ne (fun z => n (.inr (by rw [z]; exact .inr (.inr mq))))]; exact e
theorem psz_upd (nd : (h :: d :: as).Nodup) {st : Stmt} (raw : PS X st (fun D σ H => BD.tDUpd (tDGet (tVar 4) (tVar 6)) (tDGet (tVar 4) (tVar 5)) σ H fun _ H' => D.nx σ H')) : PS X st (tZ (Z2 X.K h d as lk) updZ) := raw.imp fun D σ H ⟨G, ρ, s, ok, un, p⟩ => by
  revert ok un p
  revert s
  show ∀ s : Hd × Af, _
  rintro ⟨hd, af⟩ ok un p
  unfold updZ at p
  split at p
  rotate_left
  · exact p.elim
  rename_i m a e5 e6
  split at p
  rotate_left
  · exact p.elim
  rename_i ks ms ek em
  split at p
  rotate_left
  · exact p.elim
  rename_i few
  have s4 : σ[4]? = some (some (.ref d)) := ok.env.pins (4, d) (by simp [Z2])
  have s5 := str_at ok.env e5
  have s6 := str_at ok.env e6
  obtain ⟨a1, a2, a3⟩ := ok.at_
  have a2 : H d = some (outV lk af as) := a2
  have a3 : Inn H af as := a3
  have ek : lookA af a = some ks := ek
  have em : lookA af m = some ms := em
  have nda : as.Nodup := (List.nodup_cons.mp (List.nodup_cons.mp nd).2).2
  obtain ⟨q, eq⟩ := at_some (inn_len a3) ek
  obtain ⟨hq, mq⟩ := at_inn a3 eq
  obtain ⟨r, er⟩ := at_some (inn_len a3) em
  obtain ⟨hr, mr⟩ := at_inn a3 er
  have g1 : some (V.ref q) = valV (afV af as) (.inr a) := by rw [valV_af, eq]; rfl
  have g2 : some (V.ref r) = valV (afV af as) (.inr m) := by rw [valV_af, er]; rfl
  have l1 : (ksV ks).length = ks.length := List.length_map _
  have l2 : (ksV ms).length = ms.length := List.length_map _
  refine ⟨_, s4, _, s6, d, _, rfl, .inl ⟨_, .inr a, out_rd a2, rfl, g1⟩, q, rfl, ?_, _, s4, _, s5, d, _, rfl, .inl ⟨_, .inr m, out_rd a2, rfl, g2⟩, r, ksV ks, ksV ms, rfl, hq, hr, by rw [l1, l2]; exact Nat.le_of_lt (room _ few), ?_⟩
  · exact .inl ⟨_, .inl hq⟩
  · by_cases c : q = r
    · subst c
      have e := at_key nda (inn_len a3) eq er
      subst e
      rw [ek] at em; cases em
      rw [if_pos rfl]
      have e1 : setA af a (mergeS ks ks) = af := by rw [mergeS_sub fun x hx => hx]; exact set_same ek
      have p : PostZ (Z2 X.K h d as lk) G H (fun b => OwnAt σ ρ b ∨ (Z2 X.K h d as lk).O b) (some (SRs.nx ρ, (hd, setA af a (mergeS ks ks)))) D := p
      rw [e1] at p
      exact p σ G H ok Ext.refl
    · rw [if_neg c, mergeS_V]
      have i2 := inn_set (mergeS ks ms) a3 nda eq
      refine p σ G _ (ok_upd ok nd mq i2 (afV_set _ _ _ _)) ⟨Same.refl _, fun _ z => .inl z, fun b o e n => ?_, fun b z => .inl z⟩
      rw [upd_ne (fun z => n (.inr (by rw [z]; exact .inr (.inr mq))))]; exact e
end
end BO

namespace BO
open PySem L2 BT BK BZ
def keysA (af : Af) : List Str := af.map (·.1)
theorem afV_keys : ∀ {af af' : Af} {as : List Addr}, keysA af = keysA af' → afV af as = afV af' as
  | [], [], _, _ => rfl
  | [], _ :: _, _, e => by simp [keysA] at e
  | _ :: _, [], _, e => by simp [keysA] at e
  | x :: r, y :: r', [], _ => rfl
  | x :: r, y :: r', a :: as, e => by
    simp only [keysA, List.map_cons, List.cons.injEq] at e
    simp only [afV, e.1, afV_keys (af := r) (af' := r') e.2]
theorem keys_set : ∀ (af : Af) (u : Str) (ks : List Str), keysA (setA af u ks) = keysA af
  | [], _, _ => rfl
  | x :: r, u, ks => by
    unfold setA
    split
    · rfl
    · simp only [keysA, List.map_cons]; exact congrArg _ (keys_set r u ks)
theorem afV_at : ∀ {af : Af} {as : List Addr} (i : Nat), af.length = as.length → (afV af as)[i]? = (af[i]?).bind fun x => (as[i]?).map fun a => (Sum.inr x.1, V.ref a)
  | [], as, i, _ => by simp [afV]
  | x :: r, [], i, e => by simp at e
  | x :: r, a :: as, 0, _ => by simp [afV]
  | x :: r, a :: as, i + 1, e => by
    simp only [afV, List.getElem?_cons_succ]
    exact afV_at i (by simpa using e)
theorem afV_len : ∀ {af : Af} {as : List Addr}, af.length = as.length → (afV af as).length = af.length
  | [], _, _ => rfl
  | x :: r, [], e => by simp at e
  | x :: r, a :: as, e => by simp [afV, afV_len (af := r) (as := as) (by simpa using e)]
section
variable {X : Cx} {pos : Pos} {h d : Addr} {as : List Addr} {od : Obj}
abbrev MO := Hd × Af → Rho → Option (SRs × (Hd × Af))
def unO (ρ : Rho) : Bool := unAt 2 ρ && unAt 4 ρ
theorem unO_iff {lk : Option Obj} {ρ : Rho} : unZ (Z2 X.K h d as lk) ρ ↔ unO ρ = true := by
  unfold unO unZ
  simp only [Z2, List.mem_cons, List.not_mem_nil, or_false, Bool.and_eq_true, unAt_iff]
  constructor
  · intro q; exact ⟨q (2, h) (.inl rfl), q (4, d) (.inr rfl)⟩
  · rintro ⟨a, b⟩ q (rfl | rfl)
    · exact a
    · exact b
def loopK (b : D → Rho → Option Rho) (body : MO) : List Str → MO
  | [] => fun s ρ => some (.nx ρ, s)
  | k :: r => fun s ρ => match b (.str k) ρ with
    | none => none
    | some ρ1 => if unO ρ1 = true then (match body s ρ1 with
      | some (.nx ρ2, s2) => if unO ρ2 = true ∧ keysA s2.2 = keysA s.2 then loopK b body r s2 ρ2 else none
      | _ => none) else none
def forK (b : D → Rho → Option Rho) (body : MO) : MO := fun s ρ => loopK b body (keysA s.2) s ρ
theorem psz_forK {tg iter : Expr} {body : List Stmt} {g : TG} {b : D → Rho → Option Rho} {bs : List Nat} {f : MO} (hp : PassesOwn (model X.prog X.w) X.A X.env X.xe) (hc : X.calm = true) (hi : PE X iter (tVar 4)) (hg : PG X tg g) (hb : GB X.K [(2, h), (4, d)] g b bs) (hbody : PSs X body (tZ (Z2 X.K h d as (some od)) f))
    (hs : ∀ x, foldedSetIterable iter X.env x = pure x := by intro _; rfl) : PS X (.For tg iter body [] pos) (tZ (Z2 X.K h d as (some od)) (forK b f)) :=
  (ps_for hp hc (pi_keys hi) hg hbody hs).imp fun D σ H ⟨G, ρ, s, ok, un, p⟩ => by
    revert ok un p
    revert s
    show ∀ s : Hd × Af, _
    rintro ⟨hd, af⟩ ok un p
    have s4 : σ[4]? = some (some (.ref d)) := ok.env.pins (4, d) (by simp [Z2])
    have a2 : H d = some (.frz od (.dK (afV af as))) := ok.at_.2.1
    have a3 : Inn H af as := ok.at_.2.2
    have la := inn_len a3
    refine ⟨_, s4, d, od, rfl, .inl ⟨afV af as, a2, ?_⟩⟩
    have un := unO_iff.mp un
    refine ⟨fun k m σ H => m = af.length - k ∧ k ≤ af.length ∧ ∃ G ρ hd' af', Ok (Z2 X.K h d as (some od)) G H σ ρ (hd', af') ∧ unO ρ = true ∧ keysA af' = keysA af ∧ PostZ (Z2 X.K h d as (some od)) G H (fun b => OwnAt σ ρ b ∨ (Z2 X.K h d as (some od)).O b) (loopK b f ((keysA af).drop k) (hd', af') ρ) D,
      ⟨af.length, rfl, Nat.zero_le _, G, ρ, hd, af, ok, un, rfl, p⟩, ?_⟩
    rintro k m σ H ⟨rfl, hk, G, ρ, hd', af', ok, un, ek, p⟩
    have b2 : H d = some (.frz od (.dK (afV af as))) := by
      have := ok.at_.2.1
      rw [← afV_keys (as := as) ek]
      exact this
    have lk : (keysA af).length = af.length := List.length_map _
    by_cases hlt : k < af.length
    · have hl2 : k < (keysA af).length := by rw [lk]; exact hlt
      rw [List.drop_eq_getElem_cons hl2] at p
      refine .inr ⟨⟨b2, by rw [afV_len la]; exact hlt⟩, fun σ' H' => ∃ G ρ hd' af', Ok (Z2 X.K h d as (some od)) G H' σ' ρ (hd', af') ∧ unO ρ = true ∧ keysA af' = keysA af ∧ PostZ (Z2 X.K h d as (some od)) G H' (fun b => OwnAt σ' ρ b ∨ (Z2 X.K h d as (some od)).O b) (loopK b f ((keysA af).drop (k + 1)) (hd', af') ρ) D,
        fun σ' H' ⟨G', ρ', x1, x2, a1, a2, a3, a4⟩ => ⟨af.length - (k + 1), by omega, rfl, hlt, G', ρ', x1, x2, a1, a2, a3, a4⟩, fun v H' q => ?_⟩
      obtain ⟨rfl, key, w, eg, rfl⟩ := q
      have ev : kV key = .str (keysA af)[k] := by
        rw [afV_at k la, List.getElem?_eq_getElem hlt, List.getElem?_eq_getElem (by rw [← la]; exact hlt)] at eg
        simp only [Option.bind_some, Option.map_some, Option.some.injEq, Prod.mk.injEq] at eg
        rw [← eg.1]
        show V.str _ = _
        congr 1
        simp [keysA]
      rw [ev]
      refine hb _ (.str (keysA af)[k]) σ G H' ρ _ ok.env (.str _) ?_
      simp only [loopK] at p
      cases eb : b (.str (keysA af)[k]) ρ with
      | none => rw [eb] at p; exact p
      | some ρ3 =>
        rw [eb] at p
        intro σ3 hl ok3 sub3
        simp only at p
        split at p
        rotate_left
        · exact p.elim
        rename_i un3
        have x3 : Ext G H' (OwnAt σ ρ) G H' (OwnAt σ3 ρ3) := Ext.refl.sub sub3
        have p' := p.at (x3.wide (P := (Z2 X.K h d as (some od)).O))
        refine ⟨G, ρ3, (hd', af'), ⟨ok3, ok.at_, ok.no, fun b o z => ok.disj b o (sub3 b z)⟩, unO_iff.mpr un3, ?_⟩
        cases ef : f (hd', af') ρ3 with
        | none => rw [ef] at p'; exact p'
        | some z =>
          obtain ⟨z, s4'⟩ := z
          rw [ef] at p'
          cases z with
          | nx ρ4 =>
            intro σ' G' H'' a b'
            simp only at p'
            split at p'
            · rename_i un4
              exact ⟨G', ρ4, s4'.1, s4'.2, a, un4.1, un4.2.trans ek, p'.at b'⟩
            · exact p'.elim
          | rt x ρ4 => exact p'.elim
          | ct _ => exact p'.elim
          | bk _ => exact p'.elim
          | exc _ _ => exact p'.elim
    · have e : k = af.length := by omega
      subst e
      rw [List.drop_of_length_le (by rw [lk]; exact Nat.le_refl _)] at p
      exact .inl ⟨⟨b2, by rw [afV_len la]; exact Nat.le_refl _⟩, p σ G H ok Ext.refl⟩
/-- while the outer dict is walked it is locked -/
def lockZ (f : MO) : MO := fun s ρ => match f s ρ with
  | some (.nx ρ', s') => if keysA s'.2 = keysA s.2 then some (.nx ρ', s') else none
  | _ => none
theorem psz_lock (nd : (h :: d :: as).Nodup) {st : Stmt} {f : MO} (q : ∀ od, PS X st (tZ (Z2 X.K h d as (some od)) f)) : PS X st (tZ (Z2 X.K h d as none) (lockZ f)) := by
  have q' : PS X st (fun D σ H => ∃ od, tZ (Z2 X.K h d as (some od)) f D σ H) := ⟨fun pins s σ H D I ⟨od, w⟩ => (q od).run pins s σ H D I w⟩
  refine (ps_lock q').imp fun D σ H ⟨G, ρ, s, ok, un, p⟩ => ?_
  revert ok un p
  revert s
  show ∀ s : Hd × Af, _
  rintro ⟨hd, af⟩ ok un p
  obtain ⟨n1, n2⟩ := List.nodup_cons.mp nd
  obtain ⟨n3, n4⟩ := List.nodup_cons.mp n2
  have nh : h ≠ d := fun z => n1 (by simp [z])
  have a1 : H h = some (.dK (hdV hd)) := ok.at_.1
  have a2 : H d = some (.dK (afV af as)) := ok.at_.2.1
  have a3 : Inn H af as := ok.at_.2.2
  have od' : (Z2 X.K h d as none).O d := .inr (.inl rfl)
  refine ⟨d, _, a2, trivial, fun od => ⟨od, G, ρ, (hd, af), ⟨ok.env.touch (ok.no d od') (ok.disj d od'), ⟨by rw [upd_ne nh]; exact a1, upd_same, inn_upd a3 n3⟩, ok.no, ok.disj⟩, unO_iff.mpr (unO_iff.mp un), ?_⟩⟩
  unfold lockZ at p
  cases e : f (hd, af) ρ with
  | none => rw [e] at p; exact p.elim
  | some z =>
    obtain ⟨z, s'⟩ := z
    rw [e] at p
    cases z with
    | nx ρ' =>
      intro σ' G' H' ok' x'
      simp only at p
      split at p
      rotate_left
      · exact p.elim
      rename_i ek
      obtain ⟨hd', af'⟩ := s'
      have b1 : H' h = some (.dK (hdV hd')) := ok'.at_.1
      have b2 : H' d = some (.frz od (.dK (afV af' as))) := ok'.at_.2.1
      have b3 : Inn H' af' as := ok'.at_.2.2
      have ev : afV af' as = afV af as := afV_keys ek
      rw [ev] at b2
      refine ⟨b2, p σ' G' _ ⟨ok'.env.touch (ok'.no d od') (ok'.disj d od'), ⟨by rw [upd_ne nh]; exact b1, ?_, inn_upd b3 n3⟩, ok'.no, ok'.disj⟩ ?_⟩
      · show upd H' d _ d = some (.dK (afV af' as))
        rw [upd_same, ev]
      · have y1 : Ext G H (fun b => OwnAt σ ρ b ∨ (Z2 X.K h d as none).O b) G (upd H d (.frz od (.dK (afV af as)))) (fun b => OwnAt σ ρ b ∨ (Z2 X.K h d as none).O b) := Ext.at_ (.inr od')
        have y2 : Ext G' H' (fun b => OwnAt σ' ρ' b ∨ (Z2 X.K h d as none).O b) G' (upd H' d (.dK (afV af as))) (fun b => OwnAt σ' ρ' b ∨ (Z2 X.K h d as none).O b) := Ext.at_ (.inr od')
        exact (y1.trans x').trans y2
    | rt _ _ => exact p.elim
    | bk _ => exact p.elim
    | ct _ => exact p.elim
    | exc _ _ => exact p.elim
end
end BO

namespace BO
open PySem L2 BT BK BZ
/-! ### head = dict([(name, name) ..]) -/
def pairD (n : Str) : D := .tup [.str n, .str n]
def decPairs : List D → Option (List Str)
  | [] => some []
  | .tup [.str a, .str b] :: r => if a = b then (decPairs r).map (a :: ·) else none
  | _ => none
theorem decPairs_eq : ∀ {ds : List D} {ns : List Str}, decPairs ds = some ns → ds = ns.map pairD
  | [], _, h => by cases h; rfl
  | .tup [.str a, .str b] :: r, ns, h => by
    simp only [decPairs] at h
    split at h
    · rename_i c
      subst c
      cases q : decPairs r with
      | none => rw [q] at h; cases h
      | some zs => rw [q] at h; cases h; rw [decPairs_eq q]; rfl
    · cases h
theorem decPairs_map : ∀ ns : List Str, decPairs (ns.map pairD) = some ns
  | [] => rfl
  | n :: r => by simp [decPairs, pairD, decPairs_map r]
def idH (ns : List Str) : Hd := ns.map fun n => (n, n)
theorem merge_new : ∀ {kvs acc : List (Key × V)}, (acc ++ kvs).Pairwise (fun x y => x.1 ≠ y.1) → mergeK acc kvs = acc ++ kvs
  | [], acc, _ => by show acc = _; simp
  | x :: r, acc, nd => by
    have hx : ¬ (acc.any fun kv => decide (kv.1 = x.1)) = true := by
      rw [List.any_eq_true]
      rintro ⟨y, hy, e⟩
      have := (List.pairwise_append.mp nd).2.2 y hy x (by simp)
      exact this (of_decide_eq_true e)
    have e : putK acc x.1 x.2 = acc ++ [x] := if_neg hx
    show mergeK (putK acc x.1 x.2) r = _
    rw [e, merge_new (by rw [List.append_assoc]; exact nd), List.append_assoc]; rfl
theorem idH_merge {ns : List Str} (nd : ns.Nodup) : mergeK [] (hdV (idH ns)) = hdV (idH ns) := by
  rw [merge_new, List.nil_append]
  rw [List.nil_append]
  unfold hdV idH
  rw [List.map_map, List.pairwise_map]
  exact nd.imp fun {a b} h e => h (Sum.inr.inj e)
theorem pairs_at {K : PySem.W.Frag} {H : Hp} : ∀ {ns : List Str} {vs : List V}, DtL K H vs (ns.map pairD) → ∃ ps : List Addr, vs = ps.map V.ref ∧ Paired (fun p (kv : Key × V) => SqT K H p [kV kv.1, kv.2]) ps (hdV (idH ns))
  | [], _, .nil => ⟨[], rfl, .nil⟩
  | n :: r, _, .cons (.tup sq items) hs => by
    obtain ⟨ps, e1, e2⟩ := pairs_at hs
    cases items with
    | cons a rest =>
      cases rest with
      | cons b rest2 =>
        cases rest2
        cases a; cases b
        exact ⟨_ :: ps, by rw [e1]; rfl, .cons sq e2⟩
theorem paired_imp {α β : Type} {R S : α → β → Prop} (k : ∀ a b, R a b → S a b) : ∀ {as : List α} {bs : List β}, Paired R as bs → Paired S as bs
  | _, _, .nil => .nil
  | _, _, .cons h t => .cons (k _ _ h) (paired_imp k t)
def mk1 (f : M Sl) (m : Hd → Rho → Option (SRs × Hd)) : MS := fun ρ => match f ρ with
  | some (.val (.ol ds) ρ1) => (match decPairs ds with
    | some ns => if ns.Nodup ∧ unAt 2 ρ1 = true then (match m (idH ns) ρ1 with
      | some (.rt x ρ', _) => some (.rt x ρ')
      | _ => none) else none
    | none => none)
  | _ => none
theorem EnvOk.setUn {K : PySem.W.Frag} {pn : List (Nat × Addr)} {G H : Hp} {σ : St} {ρ : Rho} {i : Nat} {a : Addr} (ok : EnvOk K pn G H σ ρ) (un : ρ[i]? = some .un) (np : ∀ q ∈ pn, q.1 ≠ i) : EnvOk K (pn ++ [(i, a)]) G H (σ.set i (some (.ref a))) ρ ∧ ∀ b, OwnAt (σ.set i (some (.ref a))) ρ b → OwnAt σ ρ b := by
  have hl := ok.len
  have li : i < σ.length := by rw [hl]; exact lt_of_get un
  have at_ : ∀ {j : Nat} {s : Sl}, ρ[j]? = some s → s ≠ .un → (σ.set i (some (.ref a)))[j]? = σ[j]? := fun {j s} e n => List.getElem?_set_ne (fun z => by subst z; rw [un] at e; cases e; exact n rfl)
  refine ⟨⟨ok.sub, by rw [List.length_set]; exact hl, fun j d e => ?_, fun j ds e => ?_, fun j l ds es p e1 e2 e3 e4 => ?_, fun q hq => ?_⟩, fun b ⟨j, ds, z1, z2⟩ => ⟨j, ds, z1, by rw [at_ z1 (by simp)] at z2; exact z2⟩⟩
  · obtain ⟨v, a1, a2⟩ := ok.dt j d e
    exact ⟨v, by rw [at_ e (by simp)]; exact a1, a2⟩
  · obtain ⟨p, vs, a1, a2⟩ := ok.ol j ds e
    exact ⟨p, vs, by rw [at_ e (by simp)]; exact a1, a2⟩
  · rw [at_ e1 (by simp)] at e3; rw [at_ e2 (by simp)] at e4
    exact ok.inj j l ds es p e1 e2 e3 e4
  · rcases List.mem_append.mp hq with hq | hq
    · have e := ok.pins q hq
      rw [List.getElem?_set_ne (fun z => np q hq z.symm)]; exact e
    · simp at hq; subst hq
      exact List.getElem?_set_self li
section
variable {X : Cx} {pos : Pos}
theorem psz_mk1 {pn : List (Nat × Addr)} {E : XK} (hpn : pn = []) {st : Stmt} {rest : List Stmt} {f : M Sl} {m : Hd → Rho → Option (SRs × Hd)}
    (raw : PS X st (tAsg (tCB (fun xs H Q => ∃ (a : Addr) (ps : List Addr) (kvs : List (Key × V)), xs = [.ref a] ∧ SqL X.K H a (ps.map V.ref) ∧ Paired (fun p kv => SqT X.K H p [kV kv.1, kv.2]) ps kvs ∧ ∀ p, H p = none → Q (.ref p) (upd H p (.dK (mergeK [] kvs)))) (tCons (tE X.K pn E f) tNil)) (gName 2)))
    (hrest : ∀ h, PSs X rest (tZ (Z1 X.K h) m)) : PSs X (st :: rest) (tS X.K pn E (mk1 f m)) := by
  subst hpn
  have q' : PSs X rest (fun D σ H => ∃ h, tZ (Z1 X.K h) m D σ H) := ⟨fun pins s σ H D I ⟨h, w⟩ => (hrest h).run pins s σ H D I w⟩
  refine (pss_cons raw q').imp fun D σ H ⟨G, ρ, ok, p⟩ => ?_
  unfold mk1 at p
  refine ⟨G, ρ, ok, ?_⟩
  cases e : f ρ with
  | none => rw [e] at p; exact p.elim
  | some x =>
    rw [e] at p
    cases x with
    | exc _ _ => exact p.elim
    | val y ρ1 =>
      cases y with
      | un => exact p.elim
      | dt _ => exact p.elim
      | ol ds =>
        intro v G1 H1 ok1 x1
        simp only at p
        split at p
        rotate_left
        · exact p.elim
        rename_i ns ens
        split at p
        rotate_left
        · exact p.elim
        rename_i c
        have ed := decPairs_eq ens
        subst ed
        obtain ⟨G2, ok2, dt2, x2⟩ := ok1.freeze (fun q hq => by simp at hq) (d := .lst (ns.map pairD)) rfl
        cases dt2 with
        | lst sq items =>
          obtain ⟨ps, ev, pr⟩ := pairs_at items
          subst ev
          refine ⟨_, ps, hdV (idH ns), rfl, ok2.sub.seq sq, ?_, fun h hh => ?_⟩
          · exact paired_imp (fun _ _ z => Same.sqT ok2.sub z) pr
          rw [idH_merge c.1]
          have un := unAt_iff.mp c.2
          have gh : G2 h = none := Same.free ok2.sub hh
          have noh : ¬ OwnAt σ ρ1 h := fun ⟨j, ds, z1, z2⟩ => by
            obtain ⟨p, vs, z3, z4, _⟩ := ok2.ol j ds z1
            rw [z2] at z3; cases z3
            rw [hh] at z4; cases z4
          have ok3 := ok2.touch (o := .dK (hdV (idH ns))) gh noh
          obtain ⟨ok4, sub4⟩ := EnvOk.setUn (a := h) ok3 un (fun q hq => by simp at hq)
          refine ⟨h, G2, ρ1, idH ns, ⟨ok4, upd_same, fun b e => by cases e; exact gh, fun b e z => by cases e; exact noh (sub4 _ z)⟩, fun q hq => by simp [Z1] at hq; subst hq; exact un, ?_⟩
          cases em : m (idH ns) ρ1 with
          | none => rw [em] at p; exact p.elim
          | some z =>
            obtain ⟨z, s'⟩ := z
            rw [em] at p
            cases z with
            | rt y ρ' =>
              intro v' σ' G' H' a xx
              have x12 := x1.trans x2
              refine p v' σ' G' H' a (x12.trans ⟨xx.grow, fun b z => ?_, fun b o e n => xx.keep b o ?_ ?_, fun b z => ?_⟩)
              · rcases xx.fresh b z with z | z | z | z
                · exact .inl z
                · by_cases c : b = h
                  · subst c; exact .inr (.inl hh)
                  · rw [upd_ne c] at z; exact .inr (.inl z)
                · exact .inr (.inr (sub4 b z))
                · cases z; exact .inr (.inl hh)
              · rw [upd_ne (ne_of_none e hh)]; exact e
              · rintro (z | z)
                · exact n (sub4 b z)
                · exact ne_of_none e hh z
              · rcases xx.own b (.inl z) with (z | z) | z
                · exact .inl (sub4 b z)
                · cases z; exact .inr hh
                · by_cases c : b = h
                  · subst c; exact .inr hh
                  · rw [upd_ne c] at z; exact .inr z
            | nx _ => exact p.elim
            | bk _ => exact p.elim
            | ct _ => exact p.elim
            | exc _ _ => exact p.elim
/-- return (head, after) -/
def retO (s : Hd × Af) (ρ : Rho) : Option (SRs × (Hd × Af)) := some (.rt (.dt (.tup [.dic (hdD s.1), .dic (afD s.2)])) ρ, s)
theorem psz_retO {h d : Addr} {as : List Addr} {st : Stmt} (raw : PS X st (tRet (tTup (tCons (tVar 2) (tCons (tVar 4) tNil))))) : PS X st (tZ (Z2 X.K h d as none) retO) := raw.imp fun D σ H ⟨G, ρ, s, ok, un, p⟩ => by
  revert ok un p
  revert s
  show ∀ s : Hd × Af, _
  rintro ⟨hd, af⟩ ok un p
  have s2 : σ[2]? = some (some (.ref h)) := ok.env.pins (2, h) (by simp [Z2])
  have s4 : σ[4]? = some (some (.ref d)) := ok.env.pins (4, d) (by simp [Z2])
  have a1 : H h = some (.dK (hdV hd)) := ok.at_.1
  have a2 : H d = some (.dK (afV af as)) := ok.at_.2.1
  have a3 : Inn H af as := ok.at_.2.2
  refine ⟨_, s2, _, s4, Nat.le_of_lt (room 2 (by omega)), fun q hq => ?_⟩
  have gq : G q = none := Same.free ok.env.sub hq
  have nO : ∀ b, (Z2 X.K h d as none).O b → b ≠ q := fun b o z => by subst z; exact (Z2 X.K h d as none).some_ ok.at_ o hq
  have G1s : Same G (adds G H (Z2 X.K h d as none).O) := fun b o e => by
    rw [adds_out (fun z => by rw [ok.no b z] at e; cases e)]; exact e
  have G1H : Same (adds G H (Z2 X.K h d as none).O) H := fun b o e => by
    by_cases c : (Z2 X.K h d as none).O b
    · rw [adds_in c] at e; exact e
    · rw [adds_out c] at e; exact ok.env.sub b o e
  have gq1 : adds G H (Z2 X.K h d as none).O q = none := by
    cases c : adds G H (Z2 X.K h d as none).O q with
    | none => rfl
    | some o => have := G1H q o c; rw [hq] at this; cases this
  have ok1 : EnvOk X.K [(2, h), (4, d)] (adds G H (Z2 X.K h d as none).O) H σ ρ := ⟨G1H, ok.env.len, fun j x e => (ok.env.dt j x e).imp fun v ⟨a, b⟩ => ⟨a, b.mono G1s⟩, fun j ds e => by
    obtain ⟨r, vs, z1, z2, z3, z4⟩ := ok.env.ol j ds e
    refine ⟨r, vs, z1, z2, ?_, z4.mono G1s⟩
    rw [adds_out fun o => ok.disj r o ⟨j, ds, e, z1⟩]; exact z3, ok.env.inj, ok.env.pins⟩
  have in_ : ∀ b o, (Z2 X.K h d as none).O b → H b = some o → adds G H (Z2 X.K h d as none).O b = some o := fun b o c e => by rw [adds_in c]; exact e
  have dh : Dt X.K (adds G H (Z2 X.K h d as none).O) (.ref h) (.dic (hdD hd)) := .dic (.inl (in_ _ _ (.inl rfl) a1)) (hd_dt _)
  have dd : Dt X.K (adds G H (Z2 X.K h d as none).O) (.ref d) (.dic (afD af)) := .dic (.inl (in_ _ _ (.inr (.inl rfl)) a2)) (Inn.dt (Inn.loc a3 fun b o m e => in_ b o (.inr (.inr m)) e))
  have ok2 := ok1.alloc (o := .tup [.ref h, .ref d]) hq
  have gs2 : Same (adds G H (Z2 X.K h d as none).O) (upd (adds G H (Z2 X.K h d as none).O) q (.tup [.ref h, .ref d])) := same_alloc gq1
  have ok3 := ok2.push_dt (v := .ref q) (d := .tup [.dic (hdD hd), .dic (afD af)]) (.tup (SqT.of upd_same) (.cons (dh.mono gs2) (.cons (dd.mono gs2) .nil)))
  refine p _ σ _ _ ⟨ok3.sub, ok3.len, ok3.dt, ok3.ol, ok3.inj, fun q hq => by simp at hq⟩ ⟨G1s.trans gs2, fun b z => ?_, fun b o e n => by rw [upd_ne (ne_of_none e hq)]; exact e, fun b z => ?_⟩
  · by_cases c : b = q
    · subst c; exact .inr (.inl hq)
    · rw [upd_ne c] at z
      by_cases o : (Z2 X.K h d as none).O b
      · exact .inr (.inr (.inr o))
      · rw [adds_out o] at z; exact .inl z
  · rcases z with z | z
    · exact .inl (.inl (own_push_dt ok2.len z))
    · exact .inl (.inr z)
end
end BO

/-! exceptions: raised, passed on, caught and kept as data -/
namespace BT
open PySem PySem.Spec PyProof.Rows L2

/-! ### isinstance and fields of an exception that is data -/
structure ExF (K : PySem.W.Frag) (C : Addr) : Prop where
  cl : (PySem.W.clsIn K C).isSome = true
  ga : PySem.W.findIn K (.ref C) "__getattribute__" = some (some (.builtin "BaseException.__getattribute__"))
  gg : PySem.W.findIn K (.ref C) "__getattr__" = some none
  sub : PySem.W.subIn K (.ref C) (.type "BaseException") = some true
  cc : PySem.W.findIn K (.ref C) "__class__" = some (some (.builtin "object.__class__"))
  nn : PySem.W.specialIn K (.builtin "object.__class__") "__get__" = some (some (.builtin "getset_descriptor.__get__"))
  tk : PySem.W.takesIn K (.builtin "object.__class__") = some true
  om : PySem.W.mroIn K C (.type "object") = some true
  hd : PySem.W.hasDictIn K C = true
section
variable {X : Cx} {pn : List (Nat × Addr)} {E : XK} {pos : Pos}
def OdOk (h : Heap) : Option Addr → Option Obj → Prop | none, none => True | some dx, some o => h.get? dx = some o | _, _ => False
theorem inst_at {pins : List (Addr × Obj)} {σ : L2.St} {H : Hp} {s : Shared} {a C : Addr} {d : Option Addr} {od : Option Obj} (I : Inv X pins σ H s) (h : H a = some (xob (.ref C) d a)) (hod : OdOk s.heap d od) :
    ∃ oe, PySem.W.InstAt s.heap a oe C od := by
  have x : ObjOk X.prog X.w H s.heap a (.ext fun h => ∃ (oe : Obj) (vs : Array Value), h.get? a = some oe ∧ Zc (.ref C) d oe ∧ oe.data = .fields vs) := I.hok a _ h
  obtain ⟨⟨oe, vs, e, z, dd⟩, _⟩ := x
  refine ⟨oe, e, z.1, by unfold PySem.W.notCls; rw [dd] <;> rfl, ?_⟩
  rw [z.2]
  cases d with
  | none =>
    cases od with
    | none => trivial
    | some o => exact hod.elim
  | some dx =>
    cases od with
    | none => exact hod.elim
    | some o => exact hod
/-- isinstance of an exception of the class D -/
def rIsX (K : PySem.W.Frag) (C : Addr) (b : Addr → Option Bool) : List V → Hp → VK → Prop := fun xs H Q => ∃ (a D : Addr) (d : Option Addr) (r : Bool), xs = [.ref a, .ref C] ∧ H a = some (xob (.ref D) d a) ∧ (∀ dx, d = some dx → ∃ fs, H dx = some (.xd fs)) ∧ ExF K D ∧ PySem.W.kitOne K (.ref D) (.ref C) = some r ∧ b D = some r ∧ Q (.bl r) H
theorem call_isX {C : Addr} {b : Addr → Option Bool} : CallR X (.builtin "isinstance") (rIsX X.K C b) := by
  intro pins s σ H xs us Q I r h
  obtain ⟨a, D, d, v, rfl, ha, hd, F, hk, _, q⟩ := h
  cases r with
  | cons rx rr =>
    cases rr with
    | cons rt rr =>
      cases rr
      cases rx
      cases rt
      have od : ∃ od : Option Obj, OdOk s.heap d od := by
        cases d with
        | none => exact ⟨none, trivial⟩
        | some dx =>
          obtain ⟨fs, e⟩ := hd dx rfl
          have x : ObjOk X.prog X.w H s.heap dx (.xd fs) := I.hok dx _ e
          obtain ⟨_, ⟨o, _, _, e2, _⟩, _⟩ := x
          exact ⟨some o, e2⟩
      obtain ⟨od, ho⟩ := od
      obtain ⟨oe, J⟩ := inst_at I ha ho
      exact PySem.W.kia_one (PySem.W.kitx_exc F.cl F.ga F.gg F.sub F.cc F.nn F.tk F.om) I.kIn J hk (fun z => nomatch z) fun tk => ⟨.bl v, H, I.kept (t' := tk) fun _ _ z => z, rfl, q⟩
/-- isinstance(e, C), e an exception that is data, of the class D -/
@[simp] def isXM (D : Addr) (b : Bool) (f : M Sl) : M Sl := fun ρ => (bindD f fun d => match d with | .exn c _ => (if c = D then retD (.bl b) else fun _ => none) | _ => fun _ => none) ρ
theorem px_isX {D C : Addr} {b : Bool} {x : Str} {p p2 : Pos} {e : Expr} {f : M Sl} (F : ExF X.K D) (hk : PySem.W.kitOne X.K (.ref D) (.ref C) = some b) (he : PE X e (tE X.K pn E f)) (hm1 : X.mg "isinstance" = none) (hm2 : X.mg x = some (.ref C)) (hg1 : Gl X "isinstance" := by rfl) (hg2 : Gl X x := by rfl)
    (hd : (x == ("__debug__" : Str)) = false := by decide) (hs1 : starEach [e, .Name x p2] X.env = (false, eval e X.env) :: starEach [.Name x p2] X.env := by rfl) (hs2 : starEach [.Name x p2] X.env = (false, eval (.Name x p2) X.env) :: starEach [] X.env := by rfl) (hpl : (backTo pos (starEach [.Name x p2] X.env)).any (·.1) = false := by rfl) :
    PE X (.Call (.Name "isinstance" p) [e, .Name x p2] [] pos) (tE X.K pn E (isXM D b f)) :=
  (pe_callB (call_isX (X := X) (C := C) (b := fun a => if a = D then some b else none)) hg1 hm1 (by decide +kernel) (pa_cons he (pa_cons (pe_glob (v := .ref C) hg2 hm2 rfl hd) pa_nil hs2) hs1) (by decide) (by decide) hs1 hpl).imp fun σ H Q ⟨G, ρ, ok, w⟩ => ⟨G, ρ, ok, (Post.bindD ok w).mono fun v H1 ⟨G1, ρ1, d, ok1, s1, d1, p1⟩ => by
    cases d1 with
    | @exn a dx c fs ds h1 h2 hs =>
      simp only at p1
      by_cases z : c = D
      · subst z
        rw [if_pos rfl] at p1
        exact ⟨a, c, some dx, b, rfl, ok1.sub _ _ h1, fun dx' e => by cases e; exact ⟨fs, ok1.sub _ _ h2⟩, F, hk, if_pos rfl, p1.dt ok1 (.bl _)⟩
      · rw [if_neg z] at p1; exact p1.elim
    | @exn0 a c h1 =>
      simp only at p1
      by_cases z : c = D
      · subst z
        rw [if_pos rfl] at p1
        exact ⟨a, c, none, b, rfl, ok1.sub _ _ h1, (fun dx' e => nomatch e), F, hk, if_pos rfl, p1.dt ok1 (.bl _)⟩
      · rw [if_neg z] at p1; exact p1.elim
    | _ => exact p1.elim⟩
/-- e.f, e an exception that is data, of the class D -/
@[simp] def fldX (D : Addr) (n : Str) (f : M Sl) : M Sl := fun ρ => (bindD f fun d => match d with
  | .exn c fs => (if c = D then (match fs.lookup n with | some y => retD y | none => fun _ => none) else fun _ => none)
  | _ => fun _ => none) ρ
def tFx (K : PySem.W.Frag) (D : Addr) (n : Str) (te : TE) : TE := fun σ H Q => te σ H fun x H1 => ∃ (a dx : Addr) (fs : List (Str × V)) (v : V), x = .ref a ∧ H1 a = some (xob (.ref D) (some dx) a) ∧ H1 dx = some (.xd fs) ∧ fs.lookup n = some v ∧ Q v H1
theorem pe_fx {D : Addr} {n : Str} {e : Expr} {te : TE} (F : ExF X.K D) (hno : PySem.W.findIn X.K (.ref D) n = some none) (he : PE X e te) (hb : attributeBase e n X.env (eval e X.env) = eval e X.env := by rfl) : PE X (.Attribute e n pos) (tFx X.K D n te) := by
  refine ⟨fun pins s σ H Q I h => attr_of hb (thn (he.run pins s σ H _ I h) fun u s1 hh => ?_)⟩
  obtain ⟨x, H1, I1, rx, a, dx, fs, v, ex, ha, hdx, l, q⟩ := hh
  subst ex
  obtain rfl : u = Value.ref a := rx
  have hx : ObjOk X.prog X.w H1 s1.heap dx (.xd fs) := I1.hok dx _ hdx
  obtain ⟨mA, hns, hr⟩ := hx
  obtain ⟨od, ho, hl⟩ := lookIn_ns hns
  obtain ⟨u, hu, ru⟩ := RelO.some_of (v := v) (o := mA n) (by rw [← l]; exact hr n)
  obtain ⟨oe, J⟩ := inst_at (d := some dx) (od := some od) I1 ha ho
  exact HandSPX.exc_get I1.kIn J F.ga F.gg F.sub (PySem.W.findObj_own F.hd hno rfl (by rw [hl, hu])) (handed_of ru) ⟨v, H1, I1.tok _, ru, q⟩
theorem px_fx {D : Addr} {n : Str} {e : Expr} {f : M Sl} (F : ExF X.K D) (hno : PySem.W.findIn X.K (.ref D) n = some none) (he : PE X e (tE X.K pn E f)) (hb : attributeBase e n X.env (eval e X.env) = eval e X.env := by rfl) : PE X (.Attribute e n pos) (tE X.K pn E (fldX D n f)) :=
  (pe_fx F hno he hb).imp fun σ H Q ⟨G, ρ, ok, w⟩ => ⟨G, ρ, ok, (Post.bindD ok w).mono fun v H1 ⟨G1, ρ1, d, ok1, s1, d1, p1⟩ => by
    cases d1 with
    | @exn a dx c fs ds h1 h2 hs =>
      simp only at p1
      by_cases z : c = D
      · subst z
        rw [if_pos rfl] at p1
        cases el : ds.lookup n with
        | none => rw [el] at p1; exact p1.elim
        | some y =>
          rw [el] at p1
          obtain ⟨v, e1, e2⟩ := hs.look el
          exact ⟨a, dx, fs, v, rfl, ok1.sub _ _ h1, ok1.sub _ _ h2, e1, p1.dt ok1 e2⟩
      · rw [if_neg z] at p1; exact p1.elim
    | exn0 h1 =>
      simp only at p1
      split at p1
      · exact p1.elim
      · exact p1.elim
    | _ => exact p1.elim⟩
end
end BT

namespace BT
open PySem PySem.Spec PyProof.Rows L2
/-- __init__(self, f = ..): self.f = f -/
def SpIni (C : Addr) (f : Str) : Sp := fun vs H Q _ => ∃ (a : Addr) (y : V), vs = [.ref a, y] ∧ H a = some (exo a C none) ∧ ∀ dx, H dx = none → dx ≠ a → Q .non (upd (upd H dx (exd dx [(f, y)])) a (exo a C (some dx)))
/-- raise C(e) -/
@[simp] def raiseS (C : Addr) (f : Str) (m : M Sl) : MS := fun ρ => (bindES m fun s ρ => match s.frz with | some d => some (.exc ⟨C, [(f, d)]⟩ ρ) | none => none) ρ
section
variable {X : Cx} {pn : List (Nat × Addr)} {E : XK} {pos pos2 : Pos}
theorem psx_raise {C fI : Addr} {f : Str} {k : Nat} {fd : FuncData} {ps : List Str} {x : Str} {p : Pos} {e : Expr} {m : M Sl} (hc : X.calm = true) (T : OexC X.K C) (iC : PySem.W.findIn X.K (.ref C) "__init__" = some (some (.ref fI))) (tI : PySem.W.typeIn X.K (.ref fI) = some (.type "function"))
    (F1 : FnOk X.prog X.w X.K X.mg X.base CX0 k fI fd ps (SpIni C f)) (hr : Room (k + 1) X.A) (hb : Binds X.K fd ps []) (tk : Takes X (fun cls d _ H => E cls d H)) (hm : X.mg x = some (.ref C)) (he : PE X e (tE X.K pn E m)) (hg : Gl X x := by rfl)
    (hdb : (x == ("__debug__" : Str)) = false := by decide) (hs : starEach (e :: []) X.env = (false, eval e X.env) :: starEach [] X.env := by rfl) (hpl : (backTo pos (starEach [] X.env)).any (·.1) = false := by rfl) :
    PS X (.Raise (some (.Call (.Name x p) [e] [] pos)) none pos2) (tS X.K pn E (raiseS C f m)) :=
  (ps_raise hc tk (pmk_oex T iC tI F1 hr hb .nil pass0 hg hm (pa_cons he pa_nil hs) hdb hs hpl)).imp fun D σ H ⟨G, ρ, ok, h⟩ => by
    refine ⟨G, ρ, ok, (PostS.bindE ok h).mono fun v H1 ⟨G1, ρ1, s, ok1, p1⟩ => ?_⟩
    cases es : s.frz with
    | none => rw [es] at p1; exact p1.elim
    | some d =>
      simp only [es] at p1
      obtain ⟨G2, ok2, d2, x2⟩ := ok1.freeze ok.pinLt es
      refine ⟨(by decide : 1 ≤ 1000), fun a ha => ⟨a, v, rfl, upd_same, fun dx h1 h2 => ⟨rfl, dx, [(f, v)], upd_same, by rw [upd_ne h2, upd_same], ?_, ?_⟩⟩⟩
      · rw [upd_ne h2] at h1; exact h1
      · have hx : H1 dx = none := by rw [upd_ne h2] at h1; exact h1
        have e : upd (del (upd (upd (upd H1 a (exo a C none)) dx (exd dx [(f, v)])) a (exo a C (some dx))) a) dx (.xd [(f, v)]) = upd H1 dx (.xd [(f, v)]) := by
          funext b
          by_cases c1 : b = dx
          · rw [c1, upd_same, upd_same]
          · rw [upd_ne c1, upd_ne c1]
            by_cases c2 : b = a
            · rw [c2, del_same, ha]
            · rw [del_ne c2, upd_ne c2, upd_ne c1, upd_ne c2]
        rw [e]
        have gx := Same.free ok2.sub hx
        exact p1 (some dx) σ _ _ (ok2.alloc hx) (x2.trans (Ext.alloc ok2.sub hx)) ⟨dx, v, rfl, upd_same, d2.mono (same_alloc gx)⟩
theorem SpF.quiet {K : PySem.W.Frag} {F : Fn} (hF : ∀ args x ρ, F args ≠ some (.exc x ρ)) {vs : List V} {H : Hp} {Q : VK} {E E' : XK} (s : SpF K F vs H Q E) : SpF K F vs H Q E' := by
  obtain ⟨G, ρ, ok, p⟩ := s
  refine ⟨G, ρ, ok, ?_⟩
  cases e : F ρ with
  | none => rw [e] at p; exact p
  | some r =>
    rw [e] at p
    cases r with
    | val s ρ' => exact p
    | exc x ρ' => exact absurd e (hF _ _ _)
theorem pureF_quiet {f : List D → Option Sl} : ∀ args x ρ, pureF f args ≠ some (.exc x ρ) := fun args x ρ h => by
  unfold pureF at h
  split at h
  · split at h
    · cases h
    · cases h
  · cases h
/-- a call of a def that raises nothing, where something else may be raised -/
theorem px_callP {F : Fn} {k : Nat} {f : Addr} {fd : FuncData} {ps : List Str} {x : Str} {p : Pos} {e : Expr} {es : List Expr} {fs : M (List D)} (hF : ∀ args x ρ, F args ≠ some (.exc x ρ)) (G : FnOk X.prog X.w X.K X.mg X.base CX0 k f fd ps (fun vs H Q _ => SpF X.K F vs H Q (fun _ _ _ => False))) (hr : Room k X.A) (hm : X.mg x = some (.ref f)) (hk : PySem.W.keepIn X.K (.ref f) = true) (hb : Binds X.K fd ps [])
    (ha : PA X (e :: es) (tA X.K pn E fs)) (hg : Gl X x := by rfl) (hdb : (x == ("__debug__" : Str)) = false := by decide) (he : starEach (e :: es) X.env = (false, eval e X.env) :: starEach es X.env := by rfl) (hpl : (backTo pos (starEach es X.env)).any (·.1) = false := by rfl) :
    PE X (.Call (.Name x p) (e :: es) [] pos) (tE X.K pn E (callF F fs)) :=
  (pe_call G hr hg hm hk hb .nil pass0 ha hdb he hpl).imp (tCall_of fun _ _ _ h => SpF.quiet hF h)
/-- a call of a def that may raise -/
theorem px_callX {F : Fn} {k : Nat} {f : Addr} {fd : FuncData} {ps : List Str} {x : Str} {p : Pos} {e : Expr} {es : List Expr} {fs : M (List D)} (G : FnOk X.prog X.w X.K X.mg X.base (L2.CX X.prog X.w) k f fd ps (SpF X.K F)) (hr : Room k X.A) (tk : Takes X (fun cls d _ H => E cls d H)) (hm : X.mg x = some (.ref f)) (hk : PySem.W.keepIn X.K (.ref f) = true) (hb : Binds X.K fd ps [])
    (ha : PA X (e :: es) (tA X.K pn E fs)) (hg : Gl X x := by rfl) (hdb : (x == ("__debug__" : Str)) = false := by decide) (he : starEach (e :: es) X.env = (false, eval e X.env) :: starEach es X.env := by rfl) (hpl : (backTo pos (starEach es X.env)).any (·.1) = false := by rfl) :
    PE X (.Call (.Name x p) (e :: es) [] pos) (tE X.K pn E (callF F fs)) :=
  (pe_callS G hr hg hm hk hb (fun σ => passAt tk σ) ha hdb he hpl).imp fun σ H Q w => by
    obtain ⟨G, ρ, ok, p⟩ := w
    exact ⟨G, ρ, ok, (Post.bindA ok p).mono fun vs H1 ⟨G1, ρ1, ds, ok1, s1, d1, p1⟩ => spF_of ok1 d1 p1⟩
end
section
variable {P : Program} {w : World} {K : PySem.W.Frag} {mg : Str → Option Value} {base : Heap}
/-- a def that may raise -/
theorem okFX {x qual : Str} {st : Stmt} {f : Addr} {fd : FuncData} {N ps : List Str} {k : Nat} (own : List Nat) {m : MS} (F : Fun K x qual st f fd) (S : FnScope N ps (defScope st))
    (body : ∀ (pn : List (Nat × Addr)) (cdv : Value) (A : Around) (outer : List Env) (s : Shared) (H : Hp) (E : XK), (∀ q ∈ pn, q.1 ∈ own) → Room k (A.deeper (envOfC qual (defScope st) s.heap.objs.size f cdv)) →
      Takes (cxOf (L2.CX P w) P w K mg base N qual (defScope st) f cdv A outer s H E) (fun cls d _ H => E cls d H) → PSs (cxOf (L2.CX P w) P w K mg base N qual (defScope st) f cdv A outer s H E) (defBody st) (tS K pn E m)) :
    FnOk P w K mg base (L2.CX P w) (k + 1) f fd ps (SpF K (runB N.length ps.length own m)) := by
  refine F.okX S (fun vs H Q E h => runB_len vs H Q _ h) (fun cdv A outer s H vs Q E hr h => ?_)
  obtain ⟨pn, hp, q⟩ := body_of h
  exact ⟨_, body pn cdv A outer s H E hp hr (takes_of rfl rfl rfl rfl), q⟩
end
end BT

/-! try: .. except C as n: suite, the caught exception tracked (it may be kept) -/
namespace BT
open PySem PySem.Spec PyProof.Rows L2
theorem xob_ok {P : Program} {w : World} {H : Hp} {h : Heap} {a : Addr} {c : Value} {d : Option Addr} {oe : Obj} {vs : Array Value} (e : h.get? a = some oe) (z : Zc c d oe) (dd : oe.data = .fields vs) : ObjOk P w H h a (xob c d a) :=
  ⟨⟨oe, vs, e, z, dd⟩, ⟨oe, e⟩, fun _ _ ⟨o, v, q, r⟩ k => ⟨o, v, k o q, r⟩⟩
section
variable {X : Cx} {pins : List (Addr × Obj)} {σ : L2.St} {H : Hp} {sI s' s : Shared} {B : Heap}
/-- back on the ground, the exception tracked -/
theorem land_on (I : Inv X pins σ H sI) (nb : ∀ b o, sI.heap.get? b = some o → b ∉ frs X.stack → B.get? b = some o) (st : B.StaysIn s'.heap) (up : sI.heap.UpToSlots s'.heap) (os : s'.os = sI.os) (ag : AllBare s'.gens)
    {a : Addr} {c : Value} {d : Option Addr} {oe : Obj} {vs : Array Value} (he : s'.heap.get? a = some oe) (z : Zc c d oe) (dd : oe.data = .fields vs) (na : H a = none) (nI : sI.heap.get? a = none) : Inv X pins σ (upd H a (xob c d a)) s' := by
  have frame : ∀ b ∈ frs X.stack, ∀ o, sI.heap.get? b = some o → ∃ sl, s'.heap.get? b = some { o with slots := sl } := fun b hb o e => by
    obtain ⟨_, o2, e2, hd⟩ := I.stack.mem hb
    rw [e] at e2; cases e2
    exact up b o e hd
  have ne : ∀ {b : Addr} {o : Obj}, sI.heap.get? b = some o → b ≠ a := fun {b o} e q => by rw [q, nI] at e; cases e
  have h2 : HOk X.prog X.w (upd H a (xob c d a)) s'.heap := ((I.inGround nb).kept st).laidN (fun _ _ q => q) na (xob_ok he z dd)
  refine I.call' (ch := []) os ⟨fun b o e _ hb _ => st b o (nb b o e hb), fun b o e _ hb _ => frame b hb o e, fun b o e n _ => by rw [upd_ne (ne e)]; exact n, fun b o e _ => ?_, fun b xs e => by rw [upd_ne (ne_of_none e na)]; exact e, fun b o u e => by rw [upd_ne (ne_of_none e na)]; exact e,
    fun b ps e => ⟨#[], by rw [upd_ne (ne_of_none e na), e]; simp⟩⟩ h2 ag (fun _ q => nomatch q)
  by_cases hb : b ∈ frs X.stack
  · obtain ⟨sl, q⟩ := frame b hb o e
    exact ⟨_, q⟩
  · exact ⟨o, st b o (nb b o e hb)⟩
theorem in_suite (I : Inv X pins σ H s) (a : Addr) : Inv (X.suite a (X.pn ++ pins)) [] σ H s :=
  ⟨I.ok.suite _ _, I.os, I.bare, I.base, I.loc, I.cell, I.free, I.freeC, fun p hp => I.pin p (by rw [List.append_nil] at hp; exact hp), I.hok, I.len⟩
theorem out_suite {a : Addr} {pn' : List (Addr × Obj)} (I : Inv (X.suite a (X.pn ++ pins)) pn' σ H s) (ok : X.Ok) : Inv X pins σ H s :=
  ⟨ok, I.os, I.bare, I.base, I.loc, I.cell, I.free, I.freeC, fun p hp => I.pin p (List.mem_append_left _ hp), I.hok, I.len⟩
end
/-- what the clause wishes of an exception of the body (its class is always of c) -/
def wTr (K : PySem.W.Frag) (c : Value) (i : Nat) (ts : TS) (D : Ends) : WX := fun cls d σ H =>
  PySem.W.exmOne K cls c = some true ∧ ∀ a, H a = none → ts { nx := fun σ' H' => D.nx (σ'.set i none) H', rt := D.rt, bk := fun σ' H' => D.bk (σ'.set i none) H', ct := fun σ' H' => D.ct (σ'.set i none) H' } (σ.set i (some (.ref a))) (upd H a (xob cls d a))
section
variable {X : Cx} {x n : Str} {c : Value} {i : Nat} {body suite : List Stmt} {b₀ : Stmt} {np pos pos' : Pos} {tb : WX → TS} {ts : TS}
theorem ps_tryT (stk : X.stack = X.env :: X.outer) (fr : X.env.frame = some X.env.locals) (nd : X.N.Nodup) (hi : X.N[i]? = some n) (loc : X.env.kindOf n = some .local) (nm : Names X x c)
    (hb : ∀ (W : WX) (pn : List (Addr × Obj)) (xe : Value → Shared → Prop), Takes (X.tr pn xe) W → PassesOwn (model X.prog X.w) X.A X.env xe → PSs (X.tr pn xe) body (tb W))
    (hsu : ∀ (a : Addr) (pn : List (Addr × Obj)), PSs (X.suite a pn) (b₀ :: suite) ts) :
    PS X (.Try body [.ExceptHandler (some (.Name x np)) (some n) (b₀ :: suite) pos'] [] [] pos) (fun D σ H => tb (wTr X.K c i ts D) D σ H) := by
  refine ⟨fun pins s σ H D I rd => ?_⟩
  have good := I.ok
  have frames : X.A.frames = some (X.env :: X.outer) := by rw [good.frames, stk]
  have here : Loc X.env.scope n := .inl loc
  let hand : Value → Shared → Prop := fun e s₁ => wpAny (model X.prog X.w) X.A (noteFrame e X.env) (fun _ s₂ => wpAny (model X.prog X.w) X.A (setFlight e none) (fun _ s₃ =>
    wpAny (model X.prog X.w) X.A (handleBy e X.env [.ExceptHandler (some (.Name x np)) (some n) (b₀ :: suite) pos']) (SP X pins D) X.xe s₃) X.xe s₂) X.xe s₁
  refine wpAny_Try_except (wpAny_mono ((hb (wTr X.K c i ts D) (X.pn ++ pins) hand (fun u s' up => ?_) PassesOwn.looking).run [] s σ H D (I.toTry _) rd) (fun f s1 e => ?_) (fun e s1 he => he))
  · obtain ⟨a, B, sI, pins2, σ2, H2, cls, d, rfl, J', nb, ups, sky, na, os, ag, yes, go⟩ := up
    have J : Inv X pins σ2 H2 sI := J'.ofTry good
    rw [show (X.tr (X.pn ++ pins) hand).stack = X.env :: X.outer from stk] at sky
    show wpAny (model X.prog X.w) X.A (noteFrame (.ref a) X.env) _ _ _
    refine Sky.land Zc.steady frames fr sky fun h3 fl3 up3 => ?_
    obtain ⟨oe3, vs3, he3, hz3, hd3⟩ := fl3.there
    have noFrame : a ∉ frs (X.env :: X.outer) := fun hm => by
      obtain ⟨_, o2, e2, hnf⟩ := fl3.2.2.1.mem hm
      rw [he3] at e2; cases e2
      exact hnf _ hd3
    have nI : sI.heap.get? a = none := by
      cases q : sI.heap.get? a with
      | none => rfl
      | some o =>
        have z := nb a o q (by rw [show (X.tr (X.pn ++ pins) hand).stack = X.env :: X.outer from stk]; exact noFrame)
        rw [fl3.2.1] at z; cases z
    have J3 : Inv X pins σ2 (upd H2 a (xob cls d a)) { s' with heap := h3 } := land_on (s' := { s' with heap := h3 }) J nb fl3.1 (ups.trans up3) os ag he3 hz3 hd3 na nI
    have S3 := in_suite J3 a
    refine wpAny_handleBy_cons (codeAny_handlers_test ?_) (by intro q; cases q)
    have LT : PySem.W.Looks (model X.prog X.w) h3 (typeOf (.ref a)) cls := fun A Q E s k q => wpAny_typeOf_ref (k _ _ he3) (by rw [hz3.1]; exact q)
    have LM := PySem.W.exm_one (M := model X.prog X.w) (J3.kIn) LT yes
    have asked : ∀ {Q : Value → Shared → Prop} {E : Value → Shared → Prop}, Q c { s' with heap := h3 } → wpAny (model X.prog X.w) (X.A.mark (some (.ref a))) (eval (.Name x np) X.env) Q E { s' with heap := h3 } := fun {Q E} q => by
      obtain ⟨hg, dbg, hm | ⟨hm, hv, hnn⟩⟩ := nm
      · exact ld_glob (X := X.suite a (X.pn ++ pins)) S3 hg hm q dbg
      · exact ld_blt (X := X.suite a (X.pn ++ pins)) S3 hg hm hv q hnn dbg
    refine asked (LM.here (codeAny_handlers_suite_as (HandSPX.lands_againZ fl3 fun h4 fl4 up4 => ?_)))
    obtain ⟨oe4, vs4, he4, hz4, hd4⟩ := fl4.there
    have J4 : Inv X pins σ2 (upd H2 a (xob cls d a)) { s' with heap := h4 } := land_on (s' := { s' with heap := h4 }) J nb fl4.1 ((ups.trans up3).trans up4) os ag he4 hz4 hd4 na nI
    refine store_ok (X := X.suite a (X.pn ++ pins)) (v := .ref a) (in_suite J4 a) nd hi here rfl (fun s5 S5 => ?_) (.inr loc)
    refine wpAny_mono ((hsu a (X.pn ++ pins)).run [] s5 _ _ _ S5 (go a na)) (fun f s6 e => ?_) (fun _ _ z => False.elim z)
    have tail : ∀ {σ6 : L2.St} {H6 : Hp} {Q : Shared → Prop}, Inv (X.suite a (X.pn ++ pins)) [] σ6 H6 s6 → (∀ s7, Inv X pins (σ6.set i none) H6 s7 → Q s7) →
        wpAny (model X.prog X.w) X.A (do bindName X.env n .none; unbindBehindTheSuite X.env n pos') (fun _ s7 => Q s7) X.xe s6 := fun {σ6 H6 Q} S6 k => gone_ok (out_suite S6 good) nd hi loc k
    cases f with
    | next => exact let ⟨_, _, S6, q6⟩ := e; tail S6 fun s7 J7 => ⟨_, _, J7, q6⟩
    | brk => exact let ⟨_, _, S6, q6⟩ := e; tail S6 fun s7 J7 => ⟨_, _, J7, q6⟩
    | cont => exact let ⟨_, _, S6, q6⟩ := e; tail S6 fun s7 J7 => ⟨_, _, J7, q6⟩
    | ret u => exact let ⟨_, _, _, S6, r6, q6⟩ := e; tail S6 fun s7 J7 => ⟨_, _, _, J7, r6, q6⟩
  · cases f with
    | next => exact let ⟨_, _, J1, q⟩ := e; wpAny_execs_nil ⟨_, _, J1.ofTry good, q⟩
    | brk => exact let ⟨_, _, J1, q⟩ := e; ⟨_, _, J1.ofTry good, q⟩
    | cont => exact let ⟨_, _, J1, q⟩ := e; ⟨_, _, J1.ofTry good, q⟩
    | ret u => exact let ⟨_, _, _, J1, r, q⟩ := e; ⟨_, _, _, J1.ofTry good, r, q⟩
end
end BT

namespace BT
open PySem PySem.Spec PyProof.Rows L2
/-- try: f(..) except C as n: m = n: slot i is n's, slot j is m's; what is raised is of the class U -/
@[simp] def tryS (i j : Nat) (U : Addr) (f : M Sl) : MS := fun ρ => match f ρ with
  | some (.val _ ρ') => some (.nx ρ')
  | some (.exc x ρ') => if x.cls = U ∧ i < ρ'.length ∧ j < ρ'.length then some (.nx ((ρ'.set j (.dt (.exn x.cls x.fs))).set i .un)) else none
  | none => none
theorem exn_dt {K : PySem.W.Frag} {G H : Hp} {d : Option Addr} {x : Ex} {a : Addr} (xo : XOk K G H d x) (ga : G a = none) : Dt K (upd G a (xob (.ref x.cls) d a)) (.ref a) (.exn x.cls x.fs) := by
  have gs := same_alloc (o := xob (.ref x.cls) d a) ga
  obtain ⟨c, fs⟩ := x
  unfold XOk at xo
  split at xo
  · rename_i e
    simp only at e
    subst e xo
    exact .exn0 upd_same
  · rename_i f y e
    simp only at e
    subst e
    obtain ⟨dx, v, e1, e2, e3⟩ := xo
    subst e1
    exact .exn upd_same (gs _ _ e2) (.cons (e3.mono gs) .nil)
  · exact xo.elim
section
variable {X : Cx} {pn : List (Nat × Addr)} {pos pos' p p1 p2 p3 p4 p5 np : Pos}
theorem psx_try {U : Addr} {F : Fn} {k : Nat} {f : Addr} {fd : FuncData} {ps : List Str} {y x n m : Str} {i j : Nat} {c : Value} {e : Expr} {es : List Expr} {fs : M (List D)} (hpi : NoPin pn i) (hpj : NoPin pn j) (hij : i ≠ j)
    (stk : X.stack = X.env :: X.outer) (fr : X.env.frame = some X.env.locals) (nd : X.N.Nodup) (hi : X.N[i]? = some n) (loc : X.env.kindOf n = some .local) (hj : X.N[j]? = some m) (locj : X.env.scope.names.lookup m = some .local) (nm : Names X x c) (hU : PySem.W.exmOne X.K (.ref U) c = some true)
    (G : FnOk X.prog X.w X.K X.mg X.base (L2.CX X.prog X.w) k f fd ps (SpF X.K F)) (hr : Room k X.A) (hm : X.mg y = some (.ref f)) (hk : PySem.W.keepIn X.K (.ref f) = true) (hb : Binds X.K fd ps [])
    (ha : ∀ (E : XK) (q : List (Addr × Obj)) (xe : Value → Shared → Prop), PA (X.tr q xe) (e :: es) (tA X.K pn E fs)) (hv : ∀ (a : Addr) (q : List (Addr × Obj)), PE (X.suite a q) (.Name n p4) (tVar i)) (hg : Gl X y := by rfl) (hdb : (y == ("__debug__" : Str)) = false := by decide)
    (he : starEach (e :: es) X.env = (false, eval e X.env) :: starEach es X.env := by rfl) (hpl : (backTo p1 (starEach es X.env)).any (·.1) = false := by rfl) (hsw : swapsWith (.Call (.Name y p) (e :: es) [] p1) none p2.line X.env = pure false := by rfl) (hsw2 : swapsWith (.Name n p4) (some (.Name m p3)) p5.line X.env = pure false := by rfl) :
    PS X (.Try [.Expr (.Call (.Name y p) (e :: es) [] p1) p2] [.ExceptHandler (some (.Name x np)) (some n) [.Assign [.Name m p3] (.Name n p4) p5] pos'] [] [] pos) (tS X.K pn E00 (tryS i j U (callF F fs))) := by
  have base := fun (D0 : Ends) (σ0 : L2.St) (H0 : Hp) => ps_tryT (pos := pos) (pos' := pos') (np := np) (ts := tAsg (tVar i) (gName j)) (b₀ := .Assign [.Name m p3] (.Name n p4) p5) (suite := []) stk fr nd hi loc nm
    (tb := fun W => fun D σ H => (tA X.K pn (WE W σ) fs) σ H fun vs H1 => SpF X.K F vs H1 (fun _ H' => D.nx σ H') (WE W σ)) (body := [.Expr (.Call (.Name y p) (e :: es) [] p1) p2])
    (fun W q xe tk _ => ⟨fun pins s σ H D I w => (pss_one (ps_expr (pe_callS (X := X.tr q xe) G hr hg hm hk hb (fun σ => passAt tk σ) (ha (WE W σ) q xe) hdb he hpl) hsw)).run pins s σ H D I w⟩)
    (fun a q => pss_one (ps_set (X := X.suite a q) nd hj (.inl locj) (hv a q) hsw2 (.inr locj)))
  refine (base ⟨fun _ _ => False, fun _ _ => False, fun _ _ => False, fun _ _ => False⟩ [] (fun _ => none)).imp fun D σ H w => ?_
  obtain ⟨G0, ρ, ok, h⟩ := w
  have key : tE X.K pn (WE (wTr X.K c i (tAsg (tVar i) (gName j)) D) σ) (callF F fs) σ H (fun _ H' => D.nx σ H') := by
    refine ⟨G0, ρ, ok, ?_⟩
    unfold tryS at h
    cases q : callF F fs ρ with
    | none => rw [q] at h; exact h
    | some r =>
      rw [q] at h
      cases r with
      | val s ρ' =>
        intro v G' H' ok' x'
        have ok2 := ok'.pop ok.pinLt
        exact h σ G' H' ok2 (x'.sub fun a z => own_up ok2.len z)
      | exc x ρ' =>
        intro d G' H' ok' x' xo
        simp only at h
        by_cases z : x.cls = U ∧ i < ρ'.length ∧ j < ρ'.length
        · rw [if_pos z] at h
          obtain ⟨z1, z2, z3⟩ := z
          refine ⟨by rw [z1]; exact hU, fun a na => ?_⟩
          have hl := ok'.len
          have il : i < σ.length := by omega
          refine ⟨.ref a, by rw [List.getElem?_set_self il], ?_⟩
          show D.nx (((σ.set i (some (.ref a))).set j (some (.ref a))).set i none) _
          have e1 : ((σ.set i (some (V.ref a))).set j (some (.ref a))).set i none = wipe (σ.set j (some (.ref a))) [i] := by
            show _ = (σ.set j (some (V.ref a))).set i none
            rw [List.set_comm _ _ hij, List.set_set]
          rw [e1]
          have ga := Same.free ok'.sub na
          have o1 := (ok'.alloc (o := xob (.ref x.cls) d a) na).push_dt (exn_dt xo ga)
          obtain ⟨o2, sub⟩ := o1.setSlot z3 fun q hq => ⟨hpj q hq, by have := ok.pinLt q hq; exact this⟩
          have o3 := o2.wipe (vs := [i]) fun q hq => by
            intro m
            exact hpi q hq (List.mem_singleton.mp m)
          refine h _ _ _ o3 ((x'.trans (Ext.alloc ok'.sub na)).sub fun b z => ?_)
          exact own_push_dt ok'.len (sub b (own_wipe z))
        · rw [if_neg z] at h; exact h.elim
  obtain ⟨G1, ρ1, ok1, p⟩ := key
  exact ⟨G1, ρ1, ok1, (Post.bindA ok1 p).mono fun vs H1 ⟨G2, ρ2, ds, ok2, s2, d2, p2⟩ => spF_of ok2 d2 p2⟩
end
end BT

/-! calls of a def that may raise, where it does not raise; by keywords in the other order -/
namespace BT
open PySem PySem.Spec PyProof.Rows L2
theorem passQ {X : Cx} : Passes (L2.CX X.prog X.w) X E00 := fun _ _ _ _ _ _ _ ⟨_, _, _, _, _, _, _, _, _, _, _, _, h⟩ => h.elim
def revF (F : Fn) : Fn := fun args => F args.reverse
section
variable {X : Cx} {pn : List (Nat × Addr)} {pos : Pos}
theorem px_callQ {F : Fn} {k : Nat} {f : Addr} {fd : FuncData} {ps : List Str} {x : Str} {p : Pos} {e : Expr} {es : List Expr} {fs : M (List D)} (G : FnOk X.prog X.w X.K X.mg X.base (L2.CX X.prog X.w) k f fd ps (SpF X.K F)) (hr : Room k X.A) (hm : X.mg x = some (.ref f)) (hk : PySem.W.keepIn X.K (.ref f) = true) (hb : Binds X.K fd ps [])
    (ha : PA X (e :: es) (tA X.K pn E00 fs)) (hg : Gl X x := by rfl) (hdb : (x == ("__debug__" : Str)) = false := by decide) (he : starEach (e :: es) X.env = (false, eval e X.env) :: starEach es X.env := by rfl) (hpl : (backTo pos (starEach es X.env)).any (·.1) = false := by rfl) :
    PE X (.Call (.Name x p) (e :: es) [] pos) (tE X.K pn E00 (callF F fs)) :=
  (pe_call G hr hg hm hk hb .nil passQ ha hdb he hpl).imp (tCall_of fun _ _ _ h => h)
theorem pe_callKR {CX : CXT} {k : Nat} {f : Addr} {fd : FuncData} {ps ks : List Str} {sp : Sp} {E : XK} {x : Str} {p : Pos} {kws : List Keyword} {tk : TA} (F : FnOk X.prog X.w X.K X.mg X.base CX k f fd ps sp) (hr : Room k X.A) (hg : Gl X x) (hm : X.mg x = some (.ref f)) (hk : PySem.W.keepIn X.K (.ref f) = true)
    (hb : ∀ (s : Shared) (ws : List Value), X.K.In s.heap → ws.length = ps.length → BindsTo s fd ⟨[], ks.zip ws⟩ (ps.zip ws.reverse)) (hx : Passes CX X E) (hkw : PK X kws tk) (hall : (backToKw pos (keywordEach kws X.env)).all (·.1.isSome) = true := by rfl)
    (hks : (backToKw pos (keywordEach kws X.env)).filterMap (·.1) = ks := by rfl) (hdb : (x == ("__debug__" : Str)) = false := by decide)
    (hpl : ((backTo pos (starEach [] X.env)).any (·.1) || (backToKw pos (keywordEach kws X.env)).any (·.1.isNone)) = false := by rfl) : PE X (.Call (.Name x p) [] kws pos) (fun σ H Q => tk σ H fun zs H2 => sp zs.reverse H2 Q E) := by
  refine ⟨fun pins s σ H Q I h => wpAny_Call_Name_kw (ld_glob I hg hm ?_ hdb)⟩
  refine PySem.W.callWith_KW0 (h₀ := X.base) I.ok.mod.kin hk hall (thn (hkw.run pos pins s σ H _ I h) fun ws s2 ⟨zs, H2, I2, rz, q2⟩ => ⟨I2.kIn, ?_⟩) hpl
  rw [hks]
  have hl : ws.length = ps.length := by
    have := F.len _ _ _ _ q2
    rw [List.length_reverse] at this
    rw [← rz.length]; exact this
  refine wpAny_call (codeAny_mono (F.run X.A X.stack s2 H2 ⟨[], ks.zip ws⟩ ws.reverse zs.reverse Q E hr I2.env0 (hb s2 ws I2.kIn hl) rz.reverse q2) fun r s' hq => ?_)
  cases r with
  | error e => exact hx pins σ H2 s2 e s' I2 hq
  | ok fl =>
    cases fl with
    | ret u => exact I2.after hq
    | _ => exact False.elim hq
theorem px_callKQ {F : Fn} {k : Nat} {f : Addr} {fd : FuncData} {ps ks : List Str} {x : Str} {p : Pos} {kws : List Keyword} {fs : M (List D)} (G : FnOk X.prog X.w X.K X.mg X.base (L2.CX X.prog X.w) k f fd ps (SpF X.K F)) (hr : Room k X.A) (hm : X.mg x = some (.ref f)) (hk : PySem.W.keepIn X.K (.ref f) = true)
    (hb : ∀ (s : Shared) (ws : List Value), X.K.In s.heap → ws.length = ps.length → BindsTo s fd ⟨[], ks.zip ws⟩ (ps.zip ws.reverse)) (hkw : PK X kws (tA X.K pn E00 fs)) (hg : Gl X x := by rfl) (hall : (backToKw pos (keywordEach kws X.env)).all (·.1.isSome) = true := by rfl)
    (hks : (backToKw pos (keywordEach kws X.env)).filterMap (·.1) = ks := by rfl) (hdb : (x == ("__debug__" : Str)) = false := by decide)
    (hpl : ((backTo pos (starEach [] X.env)).any (·.1) || (backToKw pos (keywordEach kws X.env)).any (·.1.isNone)) = false := by rfl) : PE X (.Call (.Name x p) [] kws pos) (tE X.K pn E00 (callF (revF F) fs)) :=
  (pe_callKR G hr hg hm hk hb passQ hkw hall hks hdb hpl).imp fun σ H Q w => by
    obtain ⟨G0, ρ, ok, q⟩ := w
    refine ⟨G0, ρ, ok, (Post.bindA ok q).mono fun vs H1 ⟨G1, ρ1, ds, ok1, s1, d1, p1⟩ => ?_⟩
    refine spF_of ok1 d1.reverse ?_
    rw [List.map_reverse]
    exact p1
end
end BT

/-! a, b = x, y with two local names -/
namespace BT
open PySem PySem.Spec PyProof.Rows L2
theorem PostS.bindA {K : PySem.W.Frag} {pn : List (Nat × Addr)} {E : XK} {σ : L2.St} {G H : Hp} {ρ : Rho} {D : Ends} {f : M (List BT.D)} {k : List BT.D → MS} (ok : EnvOk K pn G H σ ρ) (h : PostS K pn E G H (OwnAt σ ρ) (bindES f k ρ) D) :
    PostA K pn E σ G H (OwnAt σ ρ) (f ρ) (fun vs H1 => ∃ G1 ρ1 ds, EnvOk K pn G1 H1 σ ρ1 ∧ Same G G1 ∧ DtL K G1 vs ds ∧ PostS K pn E G1 H1 (OwnAt σ ρ1) (k ds ρ1) D) := by
  have conv : ∀ {G1 H1 : Hp} {O1 : Addr → Prop} {r : Option SRs}, PostS K pn E G H (OwnAt σ ρ) r D → Ext G H (OwnAt σ ρ) G1 H1 O1 → PostS K pn E G1 H1 O1 r D := fun h x => by
    unfold PostS at h ⊢
    split at h
    · exact fun σ' G' H' a b => h σ' G' H' a (x.trans b)
    · exact fun σ' G' H' a b => h σ' G' H' a (x.trans b)
    · exact fun σ' G' H' a b => h σ' G' H' a (x.trans b)
    · exact fun v σ' G' H' a b => h v σ' G' H' a (x.trans b)
    · exact fun d σ' G' H' a b => h d σ' G' H' a (x.trans b)
    · exact h
  unfold bindES at h
  cases e : f ρ with
  | none => rw [e] at h; exact h
  | some r =>
    rw [e] at h
    cases r with
    | exc x ρ' => exact fun d G' H' ok' x' => h d σ G' H' ok' x'
    | val s ρ' => exact fun v G' H' ok' x' d' => ⟨G', ρ', s, ok', x'.grow, d', conv h x'⟩
@[simp] def parS (i j : Nat) (fs : M (List D)) : MS := fun ρ => (bindES fs fun ds ρ => match ds with
  | [d, e] => if i < ρ.length ∧ j < ρ.length then some (.nx ((ρ.set i (.dt d)).set j (.dt e))) else none
  | _ => none) ρ
section
variable {X : Cx} {pn : List (Nat × Addr)} {E : XK} {pos : Pos}
theorem psx_par {i j : Nat} {x y : Str} {a b : Expr} {fs : M (List D)} {px py pt : Pos} {kt k2 pt2} (hpi : NoPin pn i) (hpj : NoPin pn j) (hc : X.calm = true) (hN : X.N.Nodup) (hi : X.N[i]? = some x) (hj : X.N[j]? = some y) (hij : i ≠ j)
    (hx : X.env.scope.names.lookup x = some .local) (hy : X.env.scope.names.lookup y = some .local) (ha : PA X [a, b] (tA X.K pn E fs))
    (hw : swappedStores [.Tuple [.Name x px, .Name y py] kt pt] (.Tuple [a, b] k2 pt2) X.env = pure (some [x, y]))
    (hs : swapsWithSole [.Tuple [.Name x px, .Name y py] kt pt] (.Tuple [a, b] k2 pt2) pos.line X.env = pure false := by rfl) :
    PS X (.Assign [.Tuple [.Name x px, .Name y py] kt pt] (.Tuple [a, b] k2 pt2) pos) (tS X.K pn E (parS i j fs)) :=
  (ps_par hc hN hi hj hij hx hy ha hw hs).imp fun D σ H ⟨G, ρ, ok, h⟩ => by
    refine ⟨G, ρ, ok, (PostS.bindA ok h).mono fun vs H1 ⟨G1, ρ1, ds, ok1, s1, d1, p1⟩ => ?_⟩
    split at p1
    · rename_i d e
      obtain ⟨v, u, rfl, hv, hu⟩ := d1.two
      refine ⟨v, u, rfl, ?_⟩
      by_cases c : i < ρ1.length ∧ j < ρ1.length
      · rw [if_pos c] at p1
        obtain ⟨c1, c2⟩ := c
        have o2 := ok1.push_dt hv
        obtain ⟨o3, s3⟩ := o2.setSlot c1 fun q hq => ⟨hpi q hq, ok1.pinLt q hq⟩
        have o4 := o3.push_dt hu
        obtain ⟨o5, s5⟩ := o4.setSlot (i := j) (by rw [List.length_set]; exact c2) fun q hq => ⟨hpj q hq, by rw [List.length_set]; exact ok1.pinLt q hq⟩
        exact p1 _ G1 H1 o5 ((Ext.refl (O := OwnAt σ ρ1)).sub fun b z => own_push_dt ok1.len (s3 b (own_push_dt o3.len (s5 b z))))
      · rw [if_neg c] at p1; exact p1.elim
    · exact p1.elim
end
end BT

/-! zip of a tuple and a list: one step of zip over any two sources, then the loop's source. -/
namespace BZ
open PySem PySem.Spec PyProof.Rows L2
section
variable {prog : Program} {w : World} {A : Around} {E : Value → Shared → Prop} {s : Shared}
abbrev NextIs (prog : Program) (w : World) (A : Around) (s : Shared) (i : Addr) (J : Heap → Prop) (x : Value) (h : Heap) : Prop :=
  ∀ Q E : Value → Shared → Prop, (∀ h', J h' → Heap.SameBut i h h' → Q x { s with heap := h' }) → wpAny (model prog w) A (Builtin.SmallTypes.nextOf (.ref i)) Q E { s with heap := h }
abbrev NextEnds (prog : Program) (w : World) (A : Around) (s : Shared) (i : Addr) (h : Heap) : Prop :=
  ∀ (Q E : Value → Shared → Prop), (∀ h' e, Heap.ExtBut i h h' → (∃ o, h'.get? e = some o ∧ o.cls = .type "StopIteration") → E (.ref e) { s with heap := h' }) → wpAny (model prog w) A (Builtin.SmallTypes.nextOf (.ref i)) Q E { s with heap := h }
theorem step_item {z TI TO i1 i2 : Addr} {J1 J2 : Heap → Prop} {x y a b : Value} {Q : Value → Shared → Prop} (TOz : TO ≠ z) (i1z : i1 ≠ z) (i2z : i2 ≠ z) (TOi1 : TO ≠ i1) (TOi2 : TO ≠ i2)
    (hz : IsZip s.heap z TI TO .none) (hTI : IsPair s.heap TI (.ref i1) (.ref i2)) (hTO : IsPair s.heap TO a b)
    (n1 : ∀ h, (∀ c o, c ≠ z → s.heap.get? c = some o → h.get? c = some o) → NextIs prog w A s i1 J1 x h)
    (n2 : ∀ h, (∀ c o, c ≠ z → c ≠ TO → c ≠ i1 → s.heap.get? c = some o → h.get? c = some o) → NextIs prog w A s i2 J2 y h)
    (hQ : ∀ h', IsZip h' z TI TO (rawInt s.heap.objs.size) → IsPair h' TO x y → (∃ g, J1 g ∧ ∀ c o, c ≠ z → c ≠ TO → c ≠ i2 → g.get? c = some o → h'.get? c = some o) → (∃ g, J2 g ∧ ∀ c o, c ≠ z → c ≠ TO → g.get? c = some o → h'.get? c = some o) →
      IsPair h' s.heap.objs.size x y → (∀ c o, c ≠ z → c ≠ TO → c ≠ i1 → c ≠ i2 → s.heap.get? c = some o → h'.get? c = some o) → Q (.ref s.heap.objs.size) { s with heap := h' }) :
    wpAny (model prog w) A (Builtin.«zip.__next__» ⟨[.ref z], []⟩) (fun fin s' => ∃ v, fin = .done (.ret v) ∧ Q v s') E s := by
  show wpAny _ _ (field (.ref z) 2 >>= _) _ _ _
  refine wpAny_bind (wpAny_field hz rfl (x := .bool false) rfl ?_)
  show wpAny _ _ (field (.ref z) 3 >>= _) _ _ _
  refine wpAny_bind (wpAny_field hz rfl (x := .ref TI) rfl (wpAny_bind (wpAny_seqItems hTI rfl ?_)))
  show wpAny _ _ (Builtin.SmallTypes.ownedTupleIsFree (.ref z) >>= _) _ _ _
  refine wpAny_bind ?_
  unfold Builtin.SmallTypes.ownedTupleIsFree
  refine wpAny_bind (wpAny_field hz rfl (x := .none) rfl (wpAny_pure ?_))
  simp only [if_true]
  refine wpAny_bind (wpAny_rule ?_)
  refine wpAny_bind (wpAny_field hz rfl (x := .ref TO) rfl ?_)
  refine wpAny_bind (wpAny_setField_rec hz (by simp) fun ha za sa => ?_)
  have za : IsZip ha z TI TO .ellipsis := za
  refine wpAny_bind ?_
  simp only [List.zipIdx_cons, List.zipIdx_nil, List.forIn_cons, List.forIn_nil]
  refine wpAny_bind (wpAny_bind (wpAny_onRaise ?_))
  show wpAny _ _ (Builtin.SmallTypes.nextOf (.ref i1) >>= _) _ _ _
  refine wpAny_bind (n1 ha (fun c o d e => sa.extBut _ _ d e) _ _ fun hb j1 sb => wpAny_pure ?_)
  have pb : IsPair hb TO a b := sb.extBut _ _ TOi1 (sa.extBut _ _ TOz hTO)
  refine wpAny_bind (wpAny_seqItems pb rfl ?_)
  refine wpAny_bind (wpAny_updateSeq_pair pb fun hc pc sc => ?_)
  have pc : IsPair hc TO x b := pc
  refine wpAny_bind (wpAny_letGo (wpAny_pure ?_))
  refine wpAny_bind (wpAny_bind (wpAny_onRaise ?_))
  show wpAny _ _ (Builtin.SmallTypes.nextOf (.ref i2) >>= _) _ _ _
  refine wpAny_bind (n2 hc (fun c o d1 d2 d3 e => sc.extBut _ _ d2 (sb.extBut _ _ d3 (sa.extBut _ _ d1 e))) _ _ fun hd j2 sd => wpAny_pure ?_)
  have pd : IsPair hd TO x b := sd.extBut _ _ TOi2 pc
  refine wpAny_bind (wpAny_seqItems pd rfl ?_)
  refine wpAny_bind (wpAny_updateSeq_pair pd fun he pe se => ?_)
  have pe : IsPair he TO x y := pe
  refine wpAny_bind (wpAny_letGo (wpAny_pure (wpAny_pure ?_)))
  refine wpAny_bind (wpAny_seqItems pe rfl ?_)
  refine wpAny_bind (wpAny_newTuple ?_)
  have sz : he.objs.size = s.heap.objs.size := by rw [se.1, sd.1, sc.1, sb.1, sa.1]
  have ze : IsZip he z TI TO .ellipsis := se.extBut _ _ TOz.symm (sd.extBut _ _ i2z.symm (sc.extBut _ _ TOz.symm (sb.extBut _ _ i1z.symm za)))
  have zl : z < he.objs.size := Heap.lt_size ze
  show wpAny _ _ (Builtin.SmallTypes.ownedTupleHandOut (.ref z) (.ref he.objs.size) >>= _) _ _ _
  refine wpAny_bind ?_
  unfold Builtin.SmallTypes.ownedTupleHandOut
  have zf : IsZip (he.push { cls := .type "tuple", data := .seq #[x, y] }) z TI TO .ellipsis := Heap.get?_push_of_some _ ze
  refine wpAny_bind (wpAny_setField_rec zf (by simp) fun hg zg sg => ?_)
  have zg : IsZip hg z TI TO (rawInt he.objs.size) := zg
  refine wpAny_setField_rec zg (by simp) fun hk zk sk => ?_
  have zk : IsZip hk z TI TO (rawInt he.objs.size) := zk
  have up : ∀ c o, c ≠ z → he.get? c = some o → hk.get? c = some o := fun c o d e => sk.extBut _ _ d (sg.extBut _ _ d (Heap.get?_push_of_some _ e))
  have pk : IsPair hk he.objs.size x y := sk.extBut _ _ (Nat.ne_of_gt zl) (sg.extBut _ _ (Nat.ne_of_gt zl) (Heap.get?_push_size _ rfl))
  rw [sz] at zk pk
  refine wpAny_pure ⟨_, rfl, ?_⟩
  show Q (.ref he.objs.size) _
  rw [sz]
  exact hQ hk zk (up _ _ TOz pe) ⟨hb, j1, fun c o d1 d2 d3 e => up c o d1 (se.extBut _ _ d2 (sd.extBut _ _ d3 (sc.extBut _ _ d2 e)))⟩ ⟨hd, j2, fun c o d1 d2 e => up c o d1 (se.extBut _ _ d2 e)⟩ pk
    fun c o d1 d2 d3 d4 e => up c o d1 (se.extBut _ _ d2 (sd.extBut _ _ d4 (sc.extBut _ _ d2 (sb.extBut _ _ d3 (sa.extBut _ _ d1 e)))))
theorem step_end {z TI TO i1 i2 : Addr} {J1 : Heap → Prop} {x a b : Value} {Q : Fin → Shared → Prop} (TOz : TO ≠ z) (i1z : i1 ≠ z) (i2z : i2 ≠ z) (TOi1 : TO ≠ i1) (TOi2 : TO ≠ i2)
    (hz : IsZip s.heap z TI TO .none) (hTI : IsPair s.heap TI (.ref i1) (.ref i2)) (hTO : IsPair s.heap TO a b)
    (n : (∀ h, (∀ c o, c ≠ z → s.heap.get? c = some o → h.get? c = some o) → NextEnds prog w A s i1 h) ∨
      ((∀ (h : Heap), (∀ c o, c ≠ z → s.heap.get? c = some o → h.get? c = some o) → NextIs prog w A s i1 J1 x h) ∧ ∀ h, (∀ c o, c ≠ z → c ≠ TO → c ≠ i1 → s.heap.get? c = some o → h.get? c = some o) → NextEnds prog w A s i2 h))
    (hE : ∀ h' e, (∀ c o, c ≠ z → c ≠ TO → c ≠ i1 → c ≠ i2 → s.heap.get? c = some o → h'.get? c = some o) → (∃ o, h'.get? e = some o ∧ o.cls = .type "StopIteration") → E (.ref e) { s with heap := h' }) :
    wpAny (model prog w) A (Builtin.«zip.__next__» ⟨[.ref z], []⟩) Q E s := by
  show wpAny _ _ (field (.ref z) 2 >>= _) _ _ _
  refine wpAny_bind (wpAny_field hz rfl (x := .bool false) rfl ?_)
  show wpAny _ _ (field (.ref z) 3 >>= _) _ _ _
  refine wpAny_bind (wpAny_field hz rfl (x := .ref TI) rfl (wpAny_bind (wpAny_seqItems hTI rfl ?_)))
  show wpAny _ _ (Builtin.SmallTypes.ownedTupleIsFree (.ref z) >>= _) _ _ _
  refine wpAny_bind ?_
  unfold Builtin.SmallTypes.ownedTupleIsFree
  refine wpAny_bind (wpAny_field hz rfl (x := .none) rfl (wpAny_pure ?_))
  simp only [if_true]
  refine wpAny_bind (wpAny_rule ?_)
  refine wpAny_bind (wpAny_field hz rfl (x := .ref TO) rfl ?_)
  refine wpAny_bind (wpAny_setField_rec hz (by simp) fun ha za sa => ?_)
  have za : IsZip ha z TI TO .ellipsis := za
  refine wpAny_bind ?_
  simp only [List.zipIdx_cons, List.zipIdx_nil, List.forIn_cons, List.forIn_nil]
  refine wpAny_bind (wpAny_bind (wpAny_onRaise ?_))
  show wpAny _ _ (Builtin.SmallTypes.nextOf (.ref i1) >>= _) _ _ _
  have out : ∀ {h : Heap} {e : Addr} {g : Heap}, IsZip h z TI TO .ellipsis → (∃ o, h.get? e = some o ∧ o.cls = .type "StopIteration") → Heap.SameBut z h g → ∃ o, g.get? e = some o ∧ o.cls = .type "StopIteration" := fun {h e g} q ⟨o, ho, hc⟩ sb =>
    ⟨o, sb.extBut _ _ (fun t => by subst t; rw [q] at ho; cases ho; simp at hc) ho, hc⟩
  rcases n with n | ⟨n1, n2⟩
  · refine wpAny_bind (n ha (fun c o d e => sa.extBut _ _ d e) _ _ fun hb e sb he => ?_)
    have zb : IsZip hb z TI TO .ellipsis := sb _ _ i1z.symm za
    exact wpAny_setField_rec zb (by simp) fun hc _ sc => hE hc e (fun c o d1 _ d3 _ q => sc.extBut _ _ d1 (sb _ _ d3 (sa.extBut _ _ d1 q))) (out zb he sc)
  · refine wpAny_bind (n1 ha (fun c o d e => sa.extBut _ _ d e) _ _ fun hb j1 sb => wpAny_pure ?_)
    have pb : IsPair hb TO a b := sb.extBut _ _ TOi1 (sa.extBut _ _ TOz hTO)
    refine wpAny_bind (wpAny_seqItems pb rfl ?_)
    refine wpAny_bind (wpAny_updateSeq_pair pb fun hc pc sc => ?_)
    refine wpAny_bind (wpAny_letGo (wpAny_pure ?_))
    refine wpAny_bind (wpAny_bind (wpAny_onRaise ?_))
    show wpAny _ _ (Builtin.SmallTypes.nextOf (.ref i2) >>= _) _ _ _
    refine wpAny_bind (n2 hc (fun c o d1 d2 d3 e => sc.extBut _ _ d2 (sb.extBut _ _ d3 (sa.extBut _ _ d1 e))) _ _ fun hd e sd he => ?_)
    have zd : IsZip hd z TI TO .ellipsis := sd _ _ i2z.symm (sc.extBut _ _ TOz.symm (sb.extBut _ _ i1z.symm za))
    exact wpAny_setField_rec zd (by simp) fun hk _ sk => hE hk e (fun c o d1 d2 d3 d4 q => sk.extBut _ _ d1 (sd _ _ d4 (sc.extBut _ _ d2 (sb.extBut _ _ d3 (sa.extBut _ _ d1 q))))) (out zd he sk)
/-! ### a tuple, then a list -/
theorem new_TL (l1 l2 : Addr) (xs ys : Array Value) :
    Meets (Builtin.«zip.__new__» ⟨[.type "zip", .ref l1, .ref l2], []⟩) (fun _ R s => s.heap.IsTuple l1 xs ∧ s.heap.IsList l2 ys ∧
      R (.ok (.ret (.ref (s.heap.objs.size + 4)))) { s with heap := ((((s.heap.push { cls := .type "tuple_iterator", data := .fields #[.ref l1, .int 0 0] }).push { cls := .type "list_iterator", data := .fields #[.ref l2, .int 0 0] }).push { cls := .type "tuple", data := .seq #[.ref s.heap.objs.size, .ref (s.heap.objs.size + 1)] }).push { cls := .type "tuple", data := .seq #[.none, .none] }).push { cls := .type "zip", data := .fields #[.none, .bool false, .bool false, .ref (s.heap.objs.size + 2), .ref (s.heap.objs.size + 3)] } }) :=
  .of_wp fun prog w A R s h => by
    obtain ⟨hp, g, d, tk, os⟩ := s; obtain ⟨hl1, hl2, h⟩ := h
    have hsub := sub_zip
    have hL1 : Heap.IsTuple (Shared.heap ⟨hp, g, d, tk, os⟩) l1 xs := hl1
    have hL2 : Heap.IsList (Shared.heap ⟨hp.push { cls := .type "tuple_iterator", data := .fields #[.ref l1, .int 0 0] }, g, d, tk, os⟩) l2 ys := Heap.IsList.push hl2 _
    wp_walk using wpAny_pyIter_tuple hL1, wpAny_pyIter_list hL2
    refine ⟨_, rfl, ?_⟩
    simp only [Heap.size_push] at h ⊢
    exact h
theorem call_TL {l1 l2 : Addr} {xs ys : Array Value} {Q : Value → Shared → Prop} (hl1 : s.heap.IsTuple l1 xs) (hl2 : s.heap.IsList l2 ys)
    (h : ∀ h', IsZip h' (s.heap.objs.size + 4) (s.heap.objs.size + 2) (s.heap.objs.size + 3) .none → IsPair h' (s.heap.objs.size + 2) (.ref s.heap.objs.size) (.ref (s.heap.objs.size + 1)) →
      IsPair h' (s.heap.objs.size + 3) .none .none → h'.IsTupleIter s.heap.objs.size l1 0 → h'.IsListIter (s.heap.objs.size + 1) l2 0 →
      (∀ c o, s.heap.get? c = some o → h'.get? c = some o) → Q (.ref (s.heap.objs.size + 4)) { s with heap := h' }) :
    wpAny (model prog w) A (call (.type "zip") [.ref l1, .ref l2]) Q E s := by
  refine callType_new F.called_zip (by decide) (F.typeCall_zip_2 _ _) (F.newCall_zip_2 _ _) (fun obj => F.args_object_init_3 obj _ _) F.entry_zip_new
    (new_TL l1 l2 xs ys) ⟨hl1, hl2, ?_⟩
  have last : ∀ (h : Heap) (o : Obj) (n : Nat), h.objs.size = n → o.isFreed = false → (h.push o).get? n = some o := fun h o n e f => by subst e; exact Heap.get?_push_size _ f
  have up : ∀ (h : Heap) (o o' : Obj) (n : Nat), h.get? n = some o → (h.push o').get? n = some o := fun h o o' n e => Heap.get?_push_of_some _ e
  refine ⟨?_, ?_⟩
  · exact ⟨_, last _ _ _ (by simp [Heap.size_push]) rfl, rfl⟩
  · refine h _ (last _ _ _ (by simp [Heap.size_push]) rfl) (up _ _ _ _ (up _ _ _ _ (last _ _ _ (by simp [Heap.size_push]) rfl))) (up _ _ _ _ (last _ _ _ (by simp [Heap.size_push]) rfl))
      ⟨_, up _ _ _ _ (up _ _ _ _ (up _ _ _ _ (up _ _ _ _ (last _ _ _ rfl rfl)))), rfl, rfl⟩ ⟨_, up _ _ _ _ (up _ _ _ _ (up _ _ _ _ (last _ _ _ (by simp [Heap.size_push]) rfl))), rfl, rfl⟩
      fun c o e => up _ _ _ _ (up _ _ _ _ (up _ _ _ _ (up _ _ _ _ (up _ _ _ _ e))))
end
/-- the tuple at a and the list at b as they stand at each turn, the items in new pairs -/
def ItzTL (K : PySem.W.Frag) (a b : Addr) : It :=
  ⟨fun i H => ∃ (xs ys : List V) (x y : V), SqT K H a xs ∧ SqL K H b ys ∧ xs[i]? = some x ∧ ys[i]? = some y,
    fun i H v H' => ∃ T x y, v = .ref T ∧ H T = none ∧ H' = upd H T (.tup [x, y]) ∧ (∀ xs, SqT K H a xs → xs[i]? = some x) ∧ ∀ ys, SqL K H b ys → ys[i]? = some y,
    fun i H => ∃ xs ys : List V, SqT K H a xs ∧ SqL K H b ys ∧ (xs.length ≤ i ∨ ys.length ≤ i)⟩
theorem turn_TL {P : Program} {w : World} {K : PySem.W.Frag} {elts : List Expr} {kk : Nat} {tpos : Pos} {a b z TI TO i1 i2 : Addr} (D : ZipApart z TI TO i1 i2 a b) :
    Turn P w K (.Tuple elts kk tpos) (ItzTL K a b) [z, TI, TO, i1, i2] z (fun i h => IsZip h z TI TO .none ∧ IsPair h TI (.ref i1) (.ref i2) ∧ (∃ x y, IsPair h TO x y) ∧ h.IsTupleIter i1 a i ∧ h.IsListIter i2 b i) where
  mem := by simp
  obj := fun i h st c hc => by
    obtain ⟨hz, hTI, ⟨x, y, hTO⟩, ⟨o1, e1, _, d1⟩, ⟨o2, e2, _, d2⟩⟩ := st
    have e' : c = z ∨ c = TI ∨ c = TO ∨ c = i1 ∨ c = i2 := by simpa using hc
    rcases e' with q | q | q | q | q
    · rw [q]; exact ⟨_, hz, fun v q => nomatch q⟩
    · rw [q]; exact ⟨_, hTI, fun v q => nomatch q⟩
    · rw [q]; exact ⟨_, hTO, fun v q => nomatch q⟩
    · rw [q]; exact ⟨o1, e1, fun v q => by rw [d1] at q; cases q⟩
    · rw [q]; exact ⟨o2, e2, fun v q => by rw [d2] at q; cases q⟩
  keep := fun i h h' st k => by
    obtain ⟨hz, hTI, ⟨x, y, hTO⟩, h1, h2⟩ := st
    exact ⟨k z (by simp) _ hz, k TI (by simp) _ hTI, ⟨x, y, k TO (by simp) _ hTO⟩, h1.at fun o q => k i1 (by simp) o q, h2.at fun o q => k i2 (by simp) o q⟩
  item := by
    intro X hP hw hK hc i pins s σ H E I hf st hg
    subst hP hw hK
    obtain ⟨hz, hTI, ⟨x0, y0, hTO⟩, h1, h2⟩ := st
    obtain ⟨xs, ys, x, y, hqx, hqy, hx, hy⟩ := hg
    obtain ⟨its, rv, p, _⟩ := I.tuple hqx
    obtain ⟨its2, rv2, p2, _⟩ := I.list hqy
    obtain ⟨u, hu, ru⟩ := rv.get hx
    obtain ⟨u2, hu2, ru2⟩ := rv2.get hy
    have hzl : z < s.heap.objs.size := Heap.lt_size hz
    have hT : s.TypeIs (.ref z) "zip" := ⟨_, hz, rfl⟩
    have p : s.heap.IsTuple a its.toArray := p
    unfold pyNext
    refine wpAny_bind (wpAny_attempt (wpAny_callSpecial?_slot (name := Str.ofString "__next__") hT F.slot_zip_next (wpAny_call_entry F.slot_zip_next hT F.entry_zip_next
      (step_item (J1 := fun h => h.IsTupleIter i1 a (i + 1)) (J2 := fun h => h.IsListIter i2 b (i + 1)) (x := u) (y := u2) D.TOz D.i1z D.i2z D.TOi1 D.TOi2 hz hTI hTO
        (fun h k Q E q => RZ.nextOf_tuple_item (s := { s with heap := h }) (h1.at fun o e => k _ _ D.i1z e) (p.at fun o e => k _ _ D.l1z e) (by simpa using hu) q)
        (fun h k Q E q => wpAny_nextOf_list_item (s := { s with heap := h }) (h2.at fun o e => k _ _ D.i2z D.TOi2.symm D.i12.symm e) (p2.isList.at fun o e => k _ _ D.l2z D.l2TO D.l2i1 e) (by simpa using hu2) q)
        fun h' z' TO' ⟨ga, j1, k1⟩ ⟨gb, j2, k2⟩ hT hk => wpAny_pure ?_) (F.args_zip_next_1 _))))
    have h1' : h'.IsTupleIter i1 a (i + 1) := j1.at fun o e => k1 _ _ D.i1z D.TOi1.symm D.i12 e
    have h2' : h'.IsListIter i2 b (i + 1) := j2.at fun o e => k2 _ _ D.i2z D.TOi2.symm e
    refine ⟨_, rfl, wpAny_letOwnedTupleGo_zip (s := { s with heap := h' }) z' fun h'' z'' sb => ?_⟩
    have hT2 : h''.get? s.heap.objs.size = some { cls := .type "tuple", data := .seq #[u, u2] } := (sb.2 _ (Nat.ne_of_gt hzl)).trans hT
    have new : ObjOk X.prog X.w (upd H s.heap.objs.size (.tup [x, y])) h'' s.heap.objs.size (.tup [x, y]) :=
      ⟨by show 2 ≤ sizeLine; decide, [u, u2], .cons ru (.cons ru2 .nil), ⟨_, hT2, rfl, _, rfl⟩⟩
    have I1 : Inv X pins σ (upd H s.heap.objs.size (.tup [x, y])) { s with heap := h'' } :=
      I.turnedNew (t' := s.toks) (ch := [z, TI, TO, i1, i2]) (fun c o hb q => (sb.2 c (fun q' => hb (by simp [q']))).trans (hk c o (fun q' => hb (by simp [q'])) (fun q' => hb (by simp [q'])) (fun q' => hb (by simp [q'])) (fun q' => hb (by simp [q'])) q)) hf (Nat.le_refl _) new
    refine ⟨.ref s.heap.objs.size, _, I1, rfl, ⟨_, x, y, rfl, I.hok.fresh (Nat.le_refl _), rfl, fun l hl => by rw [I.tuple_inj hl hqx]; exact hx, fun l hl => by rw [I.list_inj hl hqy]; exact hy⟩, ⟨z'', ?_, ⟨u, u2, ?_⟩, ?_, ?_⟩, fun c hcm => ?_⟩
    · exact (sb.2 _ D.TIz).trans (hk _ _ D.TIz D.TITO D.TIi1 D.TIi2 hTI)
    · exact (sb.2 _ D.TOz).trans TO'
    · exact h1'.at fun o q => (sb.2 _ D.i1z).trans q
    · exact h2'.at fun o q => (sb.2 _ D.i2z).trans q
    · have hlt : c < s.heap.objs.size := by
        have e' : c = z ∨ c = TI ∨ c = TO ∨ c = i1 ∨ c = i2 := by simpa using hcm
        rcases e' with q | q | q | q | q
        · rw [q]; exact hzl
        · rw [q]; exact Heap.lt_size hTI
        · rw [q]; exact Heap.lt_size hTO
        · rw [q]; obtain ⟨_, e1, _⟩ := h1; exact Heap.lt_size e1
        · rw [q]; obtain ⟨_, e2, _⟩ := h2; exact Heap.lt_size e2
      rw [upd_ne (Nat.ne_of_lt hlt)]
      exact (hf c hcm).1
  done := by
    intro X hP hw hK hc i pins s σ H E I hf st hg
    subst hP hw hK
    obtain ⟨hz, hTI, ⟨x0, y0, hTO⟩, h1, h2⟩ := st
    obtain ⟨xs, ys, hqx, hqy, hend⟩ := hg
    obtain ⟨its, rv, p, _⟩ := I.tuple hqx
    obtain ⟨its2, rv2, p2, _⟩ := I.list hqy
    have l1 := rv.length
    have l2 := rv2.length
    have hT : s.TypeIs (.ref z) "zip" := ⟨_, hz, rfl⟩
    have p : s.heap.IsTuple a its.toArray := p
    have hh := I.ok.hd hc
    unfold pyNext
    refine wpAny_bind (wpAny_attempt (wpAny_callSpecial?_slot (name := Str.ofString "__next__") hT F.slot_zip_next (wpAny_call_entry F.slot_zip_next hT F.entry_zip_next
      (step_end (J1 := fun h => h.IsTupleIter i1 a (i + 1)) (x := (its.toArray[i]?).getD .none) D.TOz D.i1z D.i2z D.TOi1 D.TOi2 hz hTI hTO ?_ fun h' e hk he => ?_) (F.args_zip_next_1 _))))
    · by_cases c : xs.length ≤ i
      · exact .inl fun h k Q E q => RZ.nextOf_tuple_end (s := { s with heap := h }) hh (h1.at fun o e => k _ _ D.i1z e) (p.at fun o e => k _ _ D.l1z e) (by simp; omega) q
      · have ex : its.toArray[i]? = some ((its.toArray[i]?).getD .none) := by
          have : i < its.toArray.size := by simp; omega
          rw [Array.getElem?_eq_getElem this]; rfl
        have c2 : ys.length ≤ i := hend.resolve_left c
        refine .inr ⟨fun h k Q E q => RZ.nextOf_tuple_item (s := { s with heap := h }) (h1.at fun o e => k _ _ D.i1z e) (p.at fun o e => k _ _ D.l1z e) ex q, fun h k Q E q => wpAny_nextOf_list_end (s := { s with heap := h }) hh (h2.at fun o e => k _ _ D.i2z D.TOi2.symm D.i12.symm e) (p2.isList.at fun o e => k _ _ D.l2z D.l2TO D.l2i1 e) (by simp; omega) q⟩
    · obtain ⟨o, ho, hc⟩ := he
      refine wpAny_bind (wpAny_isInstance (T := "StopIteration") (b := true) ⟨o, ho, hc⟩ isSubtype_stop ?_)
      exact wpAny_pure ⟨rfl, I.turnedL (t' := s.toks) (ch := [z, TI, TO, i1, i2]) (fun c o hb q =>
        hk c o (fun q' => hb (by simp [q'])) (fun q' => hb (by simp [q'])) (fun q' => hb (by simp [q'])) (fun q' => hb (by simp [q'])) q) hf⟩
  self := fun A i s Q E st h => wpAny_pyIter_zip st.1 h
def iZipTL (K : PySem.W.Frag) (ta : TA) : TI := fun σ H R => ta σ H fun vs H1 => ∃ a b xs ys, vs = [.ref a, .ref b] ∧ SqT K H1 a xs ∧ SqL K H1 b ys ∧ R (ItzTL K a b) H1
theorem pi_zipTL {X : Cx} {e e2 : Expr} {ta : TA} {p pos tpos : Pos} {elts : List Expr} {kk : Nat} (hg : Gl X "zip") (hm : X.mg "zip" = none) (ha : PA X [e, e2] ta)
    (hs : starEach [e, e2] X.env = (false, eval e X.env) :: starEach [e2] X.env := by rfl) (hpl : (backTo pos (starEach [e2] X.env)).any (·.1) = false := by rfl) :
    PI X (.Tuple elts kk tpos) (.Call (.Name "zip" p) [e, e2] [] pos) (iZipTL X.K ta) := by
  refine ⟨fun pins s σ H R I h => ?_⟩
  refine Call_ (ld_blt I hg hm PyProof.Rows.boot_zip (PyProof.Rows.callWith_type1 (thn (ha.run pos pins s σ H _ I h) fun us s1 ⟨vs, H1, I1, r1, q1⟩ => ?_) hs hpl))
  obtain ⟨a, b, xs, ys, ex, hqx, hqy, q⟩ := q1
  subst ex
  cases r1 with
  | cons r rr =>
    cases rr with
    | cons r' rr =>
      cases rr
      cases r
      cases r'
      have fresh5 : ∀ c, c ∈ [s1.heap.objs.size + 4, s1.heap.objs.size + 2, s1.heap.objs.size + 3, s1.heap.objs.size, s1.heap.objs.size + 1] → FpOk X pins H1 c := fun c hcm => by
        have hle : s1.heap.objs.size ≤ c := by
          simp only [List.mem_cons, List.not_mem_nil, or_false] at hcm
          rcases hcm with z | z | z | z | z
          · rw [z]; exact Nat.le_add_right _ _
          · rw [z]; exact Nat.le_add_right _ _
          · rw [z]; exact Nat.le_add_right _ _
          · rw [z]; exact Nat.le_refl _
          · rw [z]; exact Nat.le_add_right _ _
        exact I1.fpOk hle (I1.hok.fresh hle)
      obtain ⟨its, rv, p1, _⟩ := I1.tuple hqx
      obtain ⟨its2, rv2, p2, _⟩ := I1.list hqy
      obtain ⟨o1, ho1, _⟩ := id p1
      refine call_TL (show s1.heap.IsTuple a its.toArray from p1) p2.isList fun h' hz hTI hTO h1 h2 hk => wpAny_pyIter_zip hz ?_
      have I2 : Inv X pins σ H1 { s1 with heap := h' } := I1.kept (t' := s1.toks) hk
      exact ⟨s1.heap.objs.size + 4, [s1.heap.objs.size + 4, s1.heap.objs.size + 2, s1.heap.objs.size + 3, s1.heap.objs.size, s1.heap.objs.size + 1], _, _, H1, rfl, I2, turn_TL (PySem.W.ktu_apart s1.heap.objs.size a b (Heap.lt_size ho1) p2.lt), ⟨hz, hTI, ⟨_, _, hTO⟩, h1, h2⟩, fresh5, q⟩
end BZ
namespace BT
open PySem L2 BZ
def zipL : List D → List D → List D
  | x :: xs, y :: ys => .tup [x, y] :: zipL xs ys
  | _, _ => []
theorem zipL_get : ∀ {xs ys : List D} {i : Nat} {d : D}, (zipL xs ys)[i]? = some d → ∃ x y, xs[i]? = some x ∧ ys[i]? = some y ∧ d = .tup [x, y]
  | x :: xs, y :: ys, 0, d, h => by simp only [zipL, List.getElem?_cons_zero, Option.some.injEq] at h; exact ⟨x, y, rfl, rfl, h.symm⟩
  | x :: xs, y :: ys, i + 1, d, h => by simp only [zipL, List.getElem?_cons_succ] at h ⊢; exact zipL_get h
  | [], _, _, _, h => by simp [zipL] at h
  | _ :: _, [], _, _, h => by simp [zipL] at h
theorem zipL_len : ∀ xs ys : List D, (zipL xs ys).length = min xs.length ys.length
  | x :: xs, y :: ys => by simp only [zipL, List.length_cons, zipL_len xs ys]; omega
  | [], _ => by simp [zipL]
  | _ :: _, [] => by simp [zipL]
@[simp] def zipM (fs : M (List D)) : M (List D) := fun ρ => (bindM fs fun ds => match ds with
  | [.tup xs, .lst ys] => fun ρ => some (.val (zipL xs ys) ρ)
  | _ => fun _ => none) ρ
theorem yields_zip {K : PySem.W.Frag} {G : Hp} {a b : Addr} {xs ys : List V} {ds es : List D} (h : SqT K G a xs) (h2 : SqL K G b ys) (hd : DtL K G xs ds) (he : DtL K G ys es) : Yields K (ItzTL K a b) G (zipL ds es) := by
  have hl := hd.length
  have hl2 := he.length
  have hz := zipL_len ds es
  refine ⟨fun H k => ⟨xs, ys, Same.sqT k h, k.seq h2, by omega⟩, fun i d H k e => ?_, fun i d H x H' k e q => ?_⟩
  · obtain ⟨x, y, e1, e2, _⟩ := zipL_get e
    obtain ⟨v, c1, _⟩ := hd.getD e1
    obtain ⟨u, c2, _⟩ := he.getD e2
    exact ⟨xs, ys, v, u, Same.sqT k h, k.seq h2, c1, c2⟩
  · obtain ⟨x', y', e1, e2, rfl⟩ := zipL_get e
    obtain ⟨v, c1, d1⟩ := hd.getD e1
    obtain ⟨u, c2, d2⟩ := he.getD e2
    obtain ⟨T, y1, y2, rfl, hT, rfl, q1, q2⟩ := q
    have := q1 xs (Same.sqT k h)
    rw [c1] at this; cases this
    have := q2 ys (k.seq h2)
    rw [c2] at this; cases this
    exact .inr ⟨T, _, _, hT, rfl, rfl, rfl, .cons d1 (.cons d2 .nil)⟩
section
variable {X : Cx} {pn : List (Nat × Addr)} {E : XK} {pos : Pos}
theorem pix_zip {e e2 : Expr} {fs : M (List D)} {p tpos : Pos} {elts : List Expr} {kk : Nat} (hm : X.mg "zip" = none) (ha : PA X [e, e2] (tA X.K pn E fs)) (hg : Gl X "zip" := by rfl)
    (hs : starEach [e, e2] X.env = (false, eval e X.env) :: starEach [e2] X.env := by rfl) (hpl : (backTo pos (starEach [e2] X.env)).any (·.1) = false := by rfl) :
    PI X (.Tuple elts kk tpos) (.Call (.Name "zip" p) [e, e2] [] pos) (tI X.K pn E (zipM fs)) :=
  PI.imp (pi_zipTL hg hm ha hs hpl) fun σ H R ⟨G, ρ, ok, h⟩ => ⟨G, ρ, ok, (PostI.bindA ok h).mono fun vs H1 ⟨G1, ρ1, ds, ok1, s1, d1, p1⟩ => by
    split at p1
    · cases d1 with
      | cons d1 d2 =>
        obtain ⟨v, rfl, hv⟩ := d2.one
        cases d1 with
        | tup h9 hs =>
          cases hv with
          | lst h8 hs8 => exact ⟨_, _, _, _, rfl, Same.sqT ok1.sub h9, ok1.sub.seq h8, p1 _ G1 H1 ok1 Ext.refl (yields_zip h9 h8 hs hs8)⟩
    · exact p1.elim⟩
end
end BT

/-! sorted of a list of tuples of texts -/
namespace ST
open PySem PySem.Spec PyProof.Rows L2
abbrev KO : KeyOrd := listOrd itemOrd
def keyS (s : Str) : Int ⊕ List Nat := .inr s.cps.toList
/-- tuples of texts, one before another -/
def ltT (a b : List Str) : Bool := lexLt itemOrd (a.map keyS) (b.map keyS)
theorem keyS_inj {s t : Str} (h : keyS s = keyS t) : s = t := by
  have e : s.cps.toList = t.cps.toList := Sum.inr.inj h
  have c : s.cps = t.cps := Array.toList_inj.mp e
  cases s; cases t
  simp only [Str.mk.injEq]
  exact c
theorem keys_inj : ∀ {a b : List Str}, a.map keyS = b.map keyS → a = b
  | [], [], _ => rfl
  | [], _ :: _, h => by cases h
  | _ :: _, [], h => by cases h
  | x :: a, y :: b, h => by
    simp only [List.map_cons, List.cons.injEq] at h
    rw [keyS_inj h.1, keys_inj h.2]
theorem ltT_irrefl (a : List Str) : ltT a a = false := KO.irrefl _
theorem ltT_trans {a b c : List Str} (h1 : ltT a b = true) (h2 : ltT b c = true) : ltT a c = true := KO.trans _ _ _ h1 h2
theorem ltT_neg {a b c : List Str} (h : ltT a c = true) : ltT a b = true ∨ ltT b c = true := KO.negTrans _ _ _ h
theorem ltT_total {a b : List Str} (h1 : ltT a b = false) (h2 : ltT b a = false) : a = b := keys_inj (KO.total _ _ h1 h2)
theorem le_trans {a b c : List Str} (h1 : ltT b a = false) (h2 : ltT c b = false) : ltT c a = false := by
  cases e : ltT c a with
  | false => rfl
  | true =>
    rcases ltT_neg (b := b) e with q | q
    · rw [h2] at q; cases q
    · rw [h1] at q; cases q
/-- ascending -/
def Asc (l : List (List Str)) : Prop := l.Pairwise fun a b => ltT b a = false
def ins (x : List Str) : List (List Str) → List (List Str)
  | [] => [x]
  | y :: r => if ltT y x = true then y :: ins x r else x :: y :: r
def sortT : List (List Str) → List (List Str)
  | [] => []
  | x :: r => ins x (sortT r)
theorem ins_perm (x : List Str) : ∀ l, (ins x l).Perm (x :: l)
  | [] => .refl _
  | y :: r => by
    unfold ins
    split
    · exact ((ins_perm x r).cons y).trans (.swap x y r)
    · exact .refl _
theorem sortT_perm : ∀ l, (sortT l).Perm l
  | [] => .refl _
  | x :: r => (ins_perm x (sortT r)).trans ((sortT_perm r).cons x)
theorem ins_asc {x : List Str} : ∀ {l}, Asc l → Asc (ins x l)
  | [], _ => List.pairwise_singleton _ _
  | y :: r, h => by
    obtain ⟨h1, h2⟩ := List.pairwise_cons.mp h
    unfold ins
    split
    · rename_i c
      refine List.pairwise_cons.mpr ⟨fun z hz => ?_, ins_asc h2⟩
      rcases List.mem_cons.mp ((ins_perm x r).mem_iff.mp hz) with e | e
      · subst e
        cases q : ltT z y with
        | false => rfl
        | true => have := ltT_trans c q; rw [ltT_irrefl] at this; cases this
      · exact h1 z e
    · rename_i c
      have c : ltT y x = false := by cases q : ltT y x with | false => rfl | true => exact absurd q c
      refine List.pairwise_cons.mpr ⟨fun z hz => ?_, h⟩
      rcases List.mem_cons.mp hz with e | e
      · subst e; exact c
      · exact le_trans c (h1 z e)
theorem sortT_asc : ∀ l, Asc (sortT l)
  | [] => List.Pairwise.nil
  | x :: r => ins_asc (sortT_asc r)
theorem asc_unique : ∀ {l m : List (List Str)}, l.Perm m → Asc l → Asc m → l = m
  | [], m, p, _, _ => p.nil_eq
  | x :: l, m, p, hl, hm => by
    cases m with
    | nil => exact absurd p.symm.nil_eq (by simp)
    | cons y m =>
      obtain ⟨l1, l2⟩ := List.pairwise_cons.mp hl
      obtain ⟨m1, m2⟩ := List.pairwise_cons.mp hm
      have e : x = y := by
        rcases List.mem_cons.mp (p.mem_iff.mp (List.mem_cons_self : x ∈ x :: l)) with q | q
        · exact q
        · rcases List.mem_cons.mp (p.mem_iff.mpr (List.mem_cons_self : y ∈ y :: m)) with q2 | q2
          · exact q2.symm
          · exact ltT_total (m1 x q |> fun z => z) (l1 y q2) |> fun z => z
      subst e
      rw [asc_unique (List.Perm.cons_inv p) l2 m2]
theorem sortT_eq {l m : List (List Str)} (p : l.Perm m) : sortT l = sortT m := asc_unique ((sortT_perm l).trans (p.trans (sortT_perm m).symm)) (sortT_asc l) (sortT_asc m)
theorem sortT_of {l m : List (List Str)} (p : l.Perm m) (h : Asc l) : l = sortT m := asc_unique (p.trans (sortT_perm m).symm) h (sortT_asc m)
theorem mem_sortT {l : List (List Str)} {x : List Str} : x ∈ sortT l ↔ x ∈ l := (sortT_perm l).mem_iff
/-! ### the call -/
def TupS (K : PySem.W.Frag) (H : Hp) (x : V) (ss : List Str) : Prop := ∃ t, x = .ref t ∧ SqT K H t (ss.map V.str)
def rSortTS (K : PySem.W.Frag) : List V → Hp → VK → Prop := fun vs H Q => ∃ (a : Addr) (xs : List V), vs = [V.ref a] ∧ SqL K H a xs ∧ (∀ x ∈ xs, ∃ ss, TupS K H x ss ∧ ss ≠ []) ∧
  ∀ (ys : List V) (p : Addr), ys.Perm xs → ys.Pairwise (fun x y => ∀ a b, TupS K H x a → TupS K H y b → ltT b a = false) → H p = none → Q (.ref p) (upd H p (.lst ys))
theorem items_strs : ∀ {ss : List Str} {its : List Value} {i : Nat}, Vals (ss.map V.str) its → tupItems (fun _ => true) i its = some (ss.map keyS)
  | [], _, _, .nil => rfl
  | s :: ss, u :: its, i, .cons r t => by
    obtain ⟨tk, rfl⟩ := r
    have ih := items_strs (i := i + 1) t
    simp only [tupItems, if_true, ih, Option.map_some]
    rfl
section
variable {X : Cx} {pins : List (Addr × Obj)} {σ : L2.St} {H : Hp} {s : Shared}
theorem tup_key (I : Inv X pins σ H s) {t : Addr} {ss : List Str} (h : SqT X.K H t (ss.map V.str)) : G.tupKeyC s.heap (fun _ => true) (.ref t) = some (ss.map keyS) ∧ (ss ≠ [] → ∃ f, TupOf s.heap (fun _ => true) (.ref t) f) := by
  obtain ⟨its, rv, hT, _⟩ := I.tuple h
  obtain ⟨o, ho, hc, n, hd⟩ := hT
  have e := items_strs (i := 0) rv
  refine ⟨?_, fun ne => ?_⟩
  · unfold G.tupKeyC
    have e1 : G.isTupObj s.heap (.ref t) = true := by simp [G.isTupObj, ho, hc]
    rw [if_pos e1]
    simp only [tupKey, ho, hd]
    exact e
  · cases ss with
    | nil => exact absurd rfl ne
    | cons x r =>
      cases rv with
      | cons rr tt =>
        obtain ⟨tk, rfl⟩ := rr
        exact ⟨Value.str x tk, t, o, _, n, rfl, ho, hc, hd, by simp, fun z => absurd z (by simp), fun _ => ⟨x, tk, rfl⟩⟩
theorem tups_of {h : Heap} {sh : Nat → Bool} : ∀ {vs : List Value}, (∀ v ∈ vs, ∃ f, TupOf h sh v f) → ∃ fs, TupsOf h sh vs fs
  | [], _ => ⟨[], .nil⟩
  | v :: vs, a => by
    obtain ⟨f, hf⟩ := a v (by simp)
    obtain ⟨fs, hs⟩ := tups_of (vs := vs) fun u hu => a u (by simp [hu])
    exact ⟨f :: fs, .cons hf hs⟩
theorem cr_sortTS : CallR X (.builtin "sorted") (rSortTS X.K) := by
  intro pins s σ H vs us Q I r h
  obtain ⟨a, xs, rfl, hs, hx, q⟩ := h
  obtain ⟨its, rv, hl, hz⟩ := I.list hs
  rw [Vals.ref1 r]
  obtain ⟨e1, e2⟩ := bkV_refs rv fun x m => by
    obtain ⟨ns, ⟨t, e, _⟩, _⟩ := hx x m
    exact ⟨t, e⟩
  have at_ : ∀ v ∈ its, ∃ t ss, v = .ref t ∧ SqT X.K H t (ss.map V.str) ∧ ss ≠ [] := fun v hv => by
    obtain ⟨t, rfl⟩ := e2 v hv
    have hm : V.ref t ∈ xs := by
      rw [e1]
      exact List.mem_map.mpr ⟨_, hv, rfl⟩
    obtain ⟨ss, ⟨t', e, ht⟩, hn⟩ := hx _ hm
    cases e
    exact ⟨t, ss, rfl, ht, hn⟩
  obtain ⟨fs, hf⟩ := tups_of (h := s.heap) (sh := fun _ => true) (vs := its) fun v hv => by
    obtain ⟨t, ss, rfl, ht, hn⟩ := at_ v hv
    exact (tup_key I ht).2 hn
  refine G.sorted_tups (shape := fun _ => true) hl.isList hf (fun v hv => ?_) (by rw [← rv.length]; exact hz) fun st' hp hso _ => ?_
  · obtain ⟨t, ss, rfl, ht, hn⟩ := at_ v hv
    exact ⟨_, (tup_key I ht).1⟩
  · generalize PyProof.Rows.arrOf st' = arr at hp hso ⊢
    have p0 : arr.toList.Perm (its.zip its) := by
      have e := Array.perm_iff_toList_perm.mp hp
      rw [pairsOf_toList] at e
      exact e
    have m : ∀ p ∈ arr.toList, p.1 = p.2 := fun p hp => (mem_zip_self (p0.mem_iff.mp hp)).1
    have p1 : (arr.toList.map Prod.snd).Perm its := by
      have z := p0.map Prod.snd
      rw [List.map_snd_zip (Nat.le_refl _)] at z
      exact z
    obtain ⟨ep, he'⟩ := PyProof.Rows.sortedAll_at s.heap its (arr.map (·.2))
    have eo : (arr.map (·.2)).toList = arr.toList.map Prod.snd := by simp
    have h3 : ∀ u ∈ (arr.map (·.2)).toList, ∃ a, u = Value.ref a := fun u hu => e2 u (p1.mem_iff.mp (by rw [← eo]; exact hu))
    have hp2 : ((arr.map (·.2)).toList.map bkV).Perm xs := by
      rw [e1, eo]
      exact p1.map bkV
    have hlen : ((arr.map (·.2)).toList.map bkV).length ≤ sizeLine := by
      rw [hp2.length_eq]
      exact hz
    refine ⟨.ref _, upd H (s.heap.objs.size + 1) (.lst ((arr.map (·.2)).toList.map bkV)), I.laid (t' := s.toks) (fun _ _ => PyProof.Rows.sortedAll_old) (Nat.le_succ _) ⟨hlen, (arr.map (·.2)).toList, ep, bkV_vals h3, he'⟩, rfl, q _ _ hp2 ?_ (I.hok.fresh (Nat.le_succ _))⟩
    rw [List.pairwise_map, eo, List.pairwise_map, List.pairwise_iff_getElem]
    intro i j hi hj hij x y hxa hyb
    have hi' : i < arr.size := by simpa using hi
    have hj' : j < arr.size := by simpa using hj
    have sz : (pairsOf its).size = arr.size := by
      have := p0.length_eq
      rw [pairsOf_size]
      simp at this
      omega
    have so := hso i j (Nat.le_of_lt hij) (by rw [sz]; exact hj')
    have k : ∀ (i : Nat) (hi : i < arr.size) (z : List Str), TupS X.K H (bkV arr[i].2) z → KK (G.tupKindC s.heap fun _ => true) arr i = z.map keyS := fun i hi z hz => by
      unfold KK
      rw [Array.getElem?_eq_getElem hi]
      obtain ⟨t, et, ht⟩ := hz
      have e2' := bkV_ref et
      have e1' := m arr[i] (by rw [Array.mem_toList_iff]; exact Array.getElem_mem hi)
      show (G.tupKeyC s.heap (fun _ => true) arr[i].1).getD [] = _
      rw [e1', e2', (tup_key I ht).1]
      rfl
    have k1 := k i hi' x (by simpa using hxa)
    have k2 := k j hj' y (by simpa using hyb)
    have so' : lexLt itemOrd (KK (G.tupKindC s.heap fun _ => true) arr j) (KK (G.tupKindC s.heap fun _ => true) arr i) = false := so
    rw [k1, k2] at so'
    exact so'
end
end ST

/-! sorted(list of tuples of texts), of data -/
namespace ST
open PySem L2 BT
open BK (decStrs decStrs_eq decStrs_map)
def encT (g : List Str) : D := .tup (g.map .str)
def decT : D → Option (List Str) | .tup ds => decStrs ds | _ => none
def decTs : List D → Option (List (List Str))
  | [] => some []
  | d :: r => match decT d, decTs r with | some g, some l => some (g :: l) | _, _ => none
theorem decT_eq {d : D} {g : List Str} (h : decT d = some g) : d = encT g := by
  cases d with
  | tup ds => rw [decStrs_eq (show decStrs ds = some g from h)]; rfl
  | _ => cases h
theorem decTs_eq : ∀ {ds : List D} {l : List (List Str)}, decTs ds = some l → ds = l.map encT
  | [], _, h => by cases h; rfl
  | d :: r, l, h => by
    unfold decTs at h
    cases e1 : decT d with
    | none => rw [e1] at h; cases h
    | some g =>
      cases e2 : decTs r with
      | none => rw [e1, e2] at h; cases h
      | some m =>
        rw [e1, e2] at h
        cases h
        rw [decT_eq e1, decTs_eq e2]; rfl
theorem decT_enc (g : List Str) : decT (encT g) = some g := decStrs_map g
theorem decTs_map : ∀ l : List (List Str), decTs (l.map encT) = some l
  | [] => rfl
  | g :: l => by simp only [List.map_cons, decTs, decT_enc, decTs_map l]
@[simp] def sortTM (f : M Sl) : M Sl := fun ρ => (bindD f fun d => match d with
  | .lst ds => (match decTs ds with | some l => if (l.all fun g => !g.isEmpty) = true then (fun ρ => some (.val (.ol ((sortT l).map encT)) ρ)) else fun _ => none | none => fun _ => none)
  | _ => fun _ => none) ρ
section
variable {K : PySem.W.Frag} {G H : Hp}
theorem dt_tupS {x : V} {g : List Str} (h : Dt K G x (encT g)) (k : Same G H) : TupS K H x g := by
  unfold encT at h
  cases h with
  | tup h9 hs =>
    have e := BS.dtL_strs hs
    subst e
    exact ⟨_, rfl, Same.sqT k h9⟩
theorem perm_dt {ys xs : List V} (p : ys.Perm xs) : ∀ {l : List (List Str)}, DtL K G xs (l.map encT) → ∃ l' : List (List Str), l'.Perm l ∧ DtL K G ys (l'.map encT) := by
  induction p with
  | nil => exact fun {l} h => ⟨l, .refl _, h⟩
  | cons x p ih =>
    intro l h
    cases l with
    | nil => cases h
    | cons g l =>
      cases h with
      | cons h1 h2 =>
        obtain ⟨l', p', h'⟩ := ih h2
        exact ⟨g :: l', p'.cons g, .cons h1 h'⟩
  | swap x y r =>
    intro l h
    cases l with
    | nil => cases h
    | cons g l =>
      cases h with
      | cons h1 h2 =>
        cases l with
        | nil => cases h2
        | cons g2 l =>
          cases h2 with
          | cons h2 h3 => exact ⟨g2 :: g :: l, .swap g g2 l, .cons h2 (.cons h1 h3)⟩
  | trans p q ih1 ih2 =>
    intro l h
    obtain ⟨l1, p1, h1⟩ := ih2 h
    obtain ⟨l2, p2, h2⟩ := ih1 h1
    exact ⟨l2, p2.trans p1, h2⟩
theorem asc_of (k : Same G H) : ∀ {ys : List V} {l : List (List Str)}, DtL K G ys (l.map encT) → ys.Pairwise (fun x y => ∀ a b, TupS K H x a → TupS K H y b → ltT b a = false) → Asc l
  | [], l, h, _ => by
    cases l with
    | nil => exact List.Pairwise.nil
    | cons g l => cases h
  | y :: ys, l, h, p => by
    cases l with
    | nil => cases h
    | cons g l =>
      cases h with
      | cons h1 h2 =>
        obtain ⟨p1, p2⟩ := List.pairwise_cons.mp p
        refine List.pairwise_cons.mpr ⟨fun z hz => ?_, asc_of k h2 p2⟩
        have mem : ∀ {ys : List V} {l : List (List Str)} {z : List Str}, DtL K G ys (l.map encT) → z ∈ l → ∃ y ∈ ys, Dt K G y (encT z) := by
          intro ys l
          induction l generalizing ys with
          | nil => intro z _ hz; cases hz
          | cons g l ih =>
            intro z h hz
            cases h with
            | cons a b =>
              rcases List.mem_cons.mp hz with e | e
              · subst e; exact ⟨_, by simp, a⟩
              · obtain ⟨y, hy, d⟩ := ih b e
                exact ⟨y, by simp [hy], d⟩
        obtain ⟨y2, hy2, d2⟩ := mem h2 hz
        exact p1 y2 hy2 _ _ (dt_tupS h1 k) (dt_tupS d2 k)
end
section
variable {X : Cx} {pn : List (Nat × Addr)} {E : XK} {pos : Pos}
theorem px_sortT {e : Expr} {f : M Sl} {p1 : Pos} (he : PE X e (tE X.K pn E f)) (h1 : X.mg "sorted" = none) (g1 : Gl X "sorted" := by rfl)
    (s1 : starEach [e] X.env = (false, eval e X.env) :: starEach [] X.env := by rfl) (z1 : (backTo pos (starEach [] X.env)).any (·.1) = false := by rfl) :
    PE X (.Call (.Name "sorted" p1) [e] [] pos) (tE X.K pn E (sortTM f)) :=
  (pe_callB cr_sortTS g1 h1 (by decide +kernel) (pa_cons he pa_nil s1) (by decide) (by decide) s1 z1).imp fun σ H Q ⟨G, ρ, ok, w⟩ => by
    refine ⟨G, ρ, ok, (Post.bindD ok w).mono fun v H1 ⟨G1, ρ1, d, ok1, gr, dt, p⟩ => ?_⟩
    cases d with
    | lst ds => ?_
    | _ => exact p.elim
    simp only at p
    cases ex : decTs ds with
    | none => rw [ex] at p; exact p.elim
    | some l => ?_
    rw [ex] at p
    simp only at p
    by_cases c : (l.all fun g => !g.isEmpty) = true
    rotate_left
    · rw [if_neg c] at p; exact p.elim
    rw [if_pos c] at p
    have e1 := decTs_eq ex
    subst e1
    cases dt with
    | lst sq items =>
      refine ⟨_, _, rfl, ok1.sub.seq sq, fun x hx => ?_, fun ys r pm so hr => ?_⟩
      · have back : ∀ {xs : List V} {l : List (List Str)}, DtL X.K G1 xs (l.map encT) → ∀ x ∈ xs, ∃ g ∈ l, Dt X.K G1 x (encT g) := by
          intro xs l
          induction l generalizing xs with
          | nil => intro h x hx; cases h; cases hx
          | cons g l ih =>
            intro h x hx
            cases h with
            | cons a b =>
              rcases List.mem_cons.mp hx with e | e
              · subst e; exact ⟨g, by simp, a⟩
              · obtain ⟨g', hg, d⟩ := ih b x e
                exact ⟨g', by simp [hg], d⟩
        obtain ⟨g, hg, dg⟩ := back items x hx
        refine ⟨g, dt_tupS dg ok1.sub, fun z => ?_⟩
        have := List.all_eq_true.mp c g hg
        subst z
        cases this
      · obtain ⟨l', pl, dl⟩ := perm_dt pm items
        have a := asc_of ok1.sub dl so
        have e : l' = sortT l := sortT_of pl a
        rw [e] at dl
        exact p.lst ok1 dl hr
end
end ST

/-! a comprehension over o.f.items(), o data -/
namespace BT
open PySem L2
def itemsM (i : Nat) (C : Addr) (f : Str) : M (List D) := fun ρ => match ρ[i]? with
  | some (.dt (.ins C' fs)) => if C' = C then (match fs.lookup f with | some (.dic kvs) => some (.val (kvs.map fun p => .tup [kD p.1, p.2]) ρ) | _ => none) else none
  | _ => none
theorem DtK.at {K : PySem.W.Frag} {G : Hp} : ∀ {vs : List (Key × V)} {ds : List (Key × D)} {i : Nat} {k : Key} {v : V} {p : Key × D}, DtK K G vs ds → vs[i]? = some (k, v) → ds[i]? = some p → p.1 = k ∧ Dt K G v p.2
  | _, _, _, _, _, _, .nil, h, _ => by simp at h
  | _, _, 0, _, _, _, .cons h hs, e1, e2 => by
    simp only [List.getElem?_cons_zero, Option.some.injEq] at e1 e2
    cases e1; cases e2
    exact ⟨rfl, h⟩
  | _, _, i + 1, _, _, _, .cons h hs, e1, e2 => by
    simp only [List.getElem?_cons_succ] at e1 e2
    exact DtK.at hs e1 e2
theorem yields_items {K : PySem.W.Frag} {G : Hp} {d : Addr} {o : Obj} {vs : List (Key × V)} {ds : List (Key × D)} (h : G d = some (.frz o (.dK vs))) (k : DtK K G vs ds) : Yields K (Iti d o vs) G (ds.map fun p => .tup [kD p.1, p.2]) := by
  have e : vs.map (·.1) = ds.map (·.1) := k.keys
  have hl : vs.length = ds.length := by have := congrArg List.length e; simpa using this
  refine ⟨fun H s => ⟨s _ _ h, by rw [List.length_map]; omega⟩, fun i x H s q => ⟨s _ _ h, ?_⟩, fun i x H v H' s q y => .inr ?_⟩
  · have := lt_of_get q; rw [List.length_map] at this; omega
  · obtain ⟨T, kk, vv, e2, e3, e4, e5⟩ := y
    rw [List.getElem?_map] at q
    cases z : ds[i]? with
    | none => rw [z] at q; cases q
    | some p =>
      rw [z] at q
      cases q
      obtain ⟨p1, p2⟩ := k.at e2 z
      refine ⟨T, [kV kk, vv], [kD p.1, p.2], e4, e5, e3, rfl, .cons (p1 ▸ dt_key _) (.cons p2 .nil)⟩
section
variable {X : Cx} {pn : List (Nat × Addr)} {pos : Pos}
/-- the items, the dict already locked -/
theorem items_of {i : Nat} {a C : Addr} {f : Str} {σ : St} {H : Hp} {R : It → Hp → Prop} (c : Cls X.K C) (n : NoAttr X.K C f) (hσ : σ[i]? = some (some (.ref a)))
    (hfr : ∀ dx fs v, H a = some (.ins C dx fs) → fs.lookup f = some v → ∃ d o vs, v = .ref d ∧ H d = some (.frz o (.dK vs)))
    (w : tI X.K pn E00 (itemsM i C f) σ H R) : iItems (tFld X.K (tVar i) f) σ H R := by
  obtain ⟨G, ρ, ok, p⟩ := w
  unfold itemsM at p
  split at p
  · rename_i C' fs' e
    by_cases z : C' = C
    · rw [if_pos z] at p
      subst z
      obtain ⟨v, e1, e2⟩ := ok.dt i _ e
      rw [hσ] at e1; cases e1
      split at p
      · rename_i kvs el
        cases e2 with
        | @ins _ _ dx fs _ h1 h2 hs =>
          obtain ⟨v, l1, l2⟩ := hs.look el
          have hH := ok.sub _ _ h1
          obtain ⟨d, o, vs, rfl, hd⟩ := hfr dx fs v hH l1
          refine ⟨.ref a, hσ, a, C', dx, fs, .ref d, rfl, hH, c, n, l1, d, o, vs, rfl, hd, ?_⟩
          cases l2 with
          | dic h k =>
            rcases h with h | ⟨o', h⟩
            · have := ok.sub _ _ h; rw [hd] at this; cases this
            · have := ok.sub _ _ h; rw [hd] at this; cases this
              exact p _ G H ok Ext.refl (yields_items h k)
      · exact p.elim
    · rw [if_neg z] at p; exact p.elim
  · exact p.elim
theorem px_lcI {i : Nat} {C : Addr} {f : Str} {elt x : Expr} {kk : Nat} {elts : List Expr} {tpos apos apos2 cpos : Pos} {ifs : List Expr} {scope : Scope} {own : List (Str × Nat)} {b : D → Rho → Option Rho} {bs : List Nat} {t : M Bool} {e : M Sl} {g : TG} (hc : X.calm = true) (hN : X.N.Nodup) (hv : PE X x (tVar i)) (c : Cls X.K C) (n : NoAttr X.K C f) (ok : BlkOk X.N X.env.scope scope own)
    (hb : GB X.K pn g b bs) (hbs : ∀ i ∈ bs, i ∈ own.map (·.2)) (hpn : ∀ q ∈ pn, q.1 ∉ own.map (·.2))
    (hg : ∀ (s : Shared) (H : Hp) (C : Addr) (cl : List (Str × Addr)) (fp : List Addr), PG (X.blk s H scope (compEnvC scope cl C X.env) fp) (.Tuple elts kk tpos) g) (ht : ∀ (s : Shared) (H : Hp) (C : Addr) (cl : List (Str × Addr)) (fp : List Addr), PTs (X.blk s H scope (compEnvC scope cl C X.env) fp) ifs (tT X.K pn E00 t))
    (he : ∀ (s : Shared) (H : Hp) (C : Addr) (cl : List (Str × Addr)) (fp : List Addr), PE (X.blk s H scope (compEnvC scope cl C X.env) fp) elt (tE X.K pn E00 e)) (hs : ∀ y, foldedSetIterable (.Call (.Attribute (.Attribute x f apos) "items" apos2) [] [] cpos) X.env y = pure y := by intro _; rfl)
    (hb1 : attributeBase x f X.env (eval x X.env) = eval x X.env := by rfl) (hb2 : attributeBase (.Attribute x f apos) "items" X.env (eval (.Attribute x f apos) X.env) = eval (.Attribute x f apos) X.env := by rfl) (hl : (apos2.endLine == cpos.line) = true := by rfl) :
    PE X (.ListComp elt [⟨.Tuple elts kk tpos, .Call (.Attribute (.Attribute x f apos) "items" apos2) [] [] cpos, ifs, 0⟩] scope pos) (tE X.K pn E00 (mComp (itemsM i C f) (own.map (·.2)) b t e)) := by
  have base := pe_lc (pos := pos) hc hN (pi_items (elts := elts) (kk := kk) (tpos := tpos) (pe_fld (pos := apos) hv hb1) hb2 hl) ok hg ht he hs
  refine (base.or (pe_lock base)).imp fun σ H Q w => ?_
  obtain ⟨G, ρ, okE, p⟩ := w
  have hd : ∃ fs ds, ρ[i]? = some (.dt (.ins C fs)) ∧ fs.lookup f = some (.dic ds) := by
    unfold mComp bindM itemsM at p
    cases q : ρ[i]? with
    | none => simp only [q] at p; exact p.elim
    | some s =>
      simp only [q] at p
      cases s with
      | dt dd =>
        cases dd with
        | ins C' fs =>
          simp only at p
          by_cases z : C' = C
          · rw [if_pos z] at p
            subst z
            cases l : fs.lookup f with
            | none => rw [l] at p; exact p.elim
            | some d =>
              rw [l] at p
              cases d with
              | dic ds => exact ⟨fs, ds, rfl, l⟩
              | _ => exact p.elim
          · rw [if_neg z] at p; exact p.elim
        | _ => exact p.elim
      | _ => exact p.elim
  obtain ⟨fs', ds, hρ, hl'⟩ := hd
  obtain ⟨v, hσ, hv'⟩ := okE.dt i _ hρ
  cases hv' with
  | @ins a0 _ dx fs _ h1 h2 hs' =>
    obtain ⟨v, l1, l2⟩ := hs'.look hl'
    have hI := okE.sub _ _ h1
    cases l2 with
    | @dic a vs _ h k =>
      have lcw := fun (G : Hp) (H : Hp) (okE : EnvOk X.K pn G H σ ρ) (Q : VK) p => lc_of (E := E00) (K := X.K) (src := itemsM i C f) (vs := own.map (·.2)) (b := b) (t := t) (e := e) hb hbs hpn σ H Q ⟨G, ρ, okE, p⟩
      rcases h with h | ⟨o, h⟩
      · right
        have hH := okE.sub _ _ h
        refine ⟨a, .dK vs, hH, trivial, fun od => ?_⟩
        have ok2 := okE.swap (o := .frz od (.dK vs)) h (Via.lock h)
        have ne : a0 ≠ a := fun z => by rw [z, hH] at hI; cases hI
        refine tLc_src (fun R => items_of c n hσ fun dx' fs2 v' q1 q2 => ?_) (lcw _ _ ok2 _ ?_)
        · rw [upd_ne ne, hI] at q1
          cases q1
          rw [l1] at q2
          cases q2
          exact ⟨a, od, vs, rfl, upd_same⟩
        · unfold Post at p ⊢
          split at p
          · intro v G' H' ok' x'
            have ga : G' a = some (.frz od (.dK vs)) := x'.grow _ _ upd_same
            have ok3 := ok'.swap (o := .dK vs) ga (Via.unlock ga)
            exact ⟨ok'.sub _ _ ga, p v _ _ ok3 (Ext.unlock h hH x')⟩
          · intro dd G' H' ok' x' xo
            have ga : G' a = some (.frz od (.dK vs)) := x'.grow _ _ upd_same
            have ok3 := ok'.swap (o := .dK vs) ga (Via.unlock ga)
            have := p dd _ _ ok3 (Ext.unlock h hH x') (XOk.unlock ga (ok'.sub _ _ ga) xo)
            exact this
          · exact p
      · left
        refine tLc_src (fun R => items_of c n hσ fun dx' fs2 v' q1 q2 => ?_) (lcw _ _ okE _ p)
        rw [hI] at q1
        cases q1
        rw [l1] at q2
        cases q2
        exact ⟨a, o, vs, rfl, okE.sub _ _ h⟩
end
end BT

/-! while; o.m(); f(k = ..) in the other order -/
namespace BT
open PySem PySem.Spec PyProof.Rows L2
@[simp] def seqW (f g : MS) : MS := fun ρ => match f ρ with
  | some (.nx ρ') => g ρ'
  | some (.ct ρ') => g ρ'
  | some (.bk ρ') => some (.nx ρ')
  | r => r
/-- at most n turns -/
def whileS : Nat → M Bool → MS → MS
  | 0, _, _ => fun _ => none
  | n + 1, t, f => fun ρ => bindES t (fun b => if b = true then seqW f (whileS n t f) else nxS) ρ
section
variable {X : Cx} {pn : List (Nat × Addr)} {E : XK} {pos : Pos}
theorem psx_while {c : Expr} {body : List Stmt} {t : M Bool} {f : MS} {n : Nat} (hp : PassesOwn (model X.prog X.w) X.A X.env X.xe) (hc : PT X c (tT X.K pn E t)) (hb : PSs X body (tS X.K pn E f)) : PS X (.While c body [] pos) (tS X.K pn E (whileS n t f)) :=
  (ps_while hp hc hb).imp fun D σ H ⟨G, ρ, ok, h⟩ => by
    refine ⟨fun m σ H => ∃ G ρ, EnvOk X.K pn G H σ ρ ∧ PostS X.K pn E G H (OwnAt σ ρ) (whileS m t f ρ) D, ⟨n, G, ρ, ok, h⟩, ?_⟩
    rintro m σ H ⟨G, ρ, ok, p⟩
    cases m with
    | zero => exact p.elim
    | succ k =>
      refine ⟨G, ρ, ok, (PostS.bindT ok p).mono fun b H1 ⟨G1, ρ1, ok1, p1⟩ => ?_⟩
      cases b with
      | false => exact p1 σ G1 H1 ok1 Ext.refl
      | true =>
        simp only [if_true] at p1 ⊢
        refine ⟨fun σ' H' => ∃ G ρ, EnvOk X.K pn G H' σ' ρ ∧ PostS X.K pn E G H' (OwnAt σ' ρ) (whileS k t f ρ) D, fun σ' H' w => ⟨k, Nat.lt_succ_self k, w⟩, G1, ρ1, ok1, ?_⟩
        unfold seqW at p1
        cases ef : f ρ1 with
        | none => rw [ef] at p1; exact p1
        | some r =>
          rw [ef] at p1
          cases r with
          | nx ρ4 => exact fun s G' H'' a x => ⟨G', ρ4, a, PostS.at p1 x⟩
          | ct ρ4 => exact fun s G' H'' a x => ⟨G', ρ4, a, PostS.at p1 x⟩
          | bk ρ4 => exact fun s G' H'' a x => p1 s G' H'' a x
          | rt s ρ4 => exact p1
          | exc x ρ4 => exact p1
theorem px_meth0 {F : Fn} {C : Addr} {m : Str} {k : Nat} {f : Addr} {fd : FuncData} {ps : List Str} {apos : Pos} {o : Expr} {g : M Sl} (ho : PE X o (tE X.K pn E00 g)) (c : Cls X.K C) (hm : Meth X.K C m f)
    (G : FnOk X.prog X.w X.K X.mg X.base CX0 k f fd ps (fun vs H Q _ => SpF X.K F vs H Q E00)) (hr : Room k X.A) (hb : Binds X.K fd ps [])
    (h : ∀ {T : TE}, PE X o T → PE X (.Call (.Attribute o m apos) [] [] pos) (tMeth C m (fun vs H Q _ => SpF X.K F vs H Q E00) [] E0 T tNil)) :
    PE X (.Call (.Attribute o m apos) [] [] pos) (tE X.K pn E00 (methF F C m g nilA)) :=
  (h ho).imp fun σ H Q ⟨G, ρ, ok, w⟩ => ⟨G, ρ, ok, (Post.bindD ok w).mono fun v H1 ⟨G1, ρ1, d, ok1, s1, d1, p1⟩ => by
    cases d1 with
    | @ins a C' dx xs ds h1 h2 hs =>
      simp only at p1
      by_cases z : C' = C ∧ ds.lookup m = none
      · rw [if_pos z] at p1
        obtain ⟨z1, z2⟩ := z
        subst z1
        refine ⟨a, dx, xs, rfl, ok1.sub _ _ h1, hs.lookN z2, ?_⟩
        show SpF X.K F (.ref a :: ([] ++ [])) H1 Q E00
        unfold callF at p1
        have p2 := Post.bindA ok1 p1
        unfold consA bindD bindM at p2
        simp only [mC, Sl.frz, nilA] at p2
        have hself : Dt X.K G1 (.ref a) (.ins C' ds) := Dt.ins h1 h2 hs
        obtain ⟨G3, ρ3, ds3, ok3, s3, d3, p3⟩ := p2 [.ref a] G1 H1 ok1 Ext.refl (.cons hself .nil)
        exact spF_of ok3 d3 p3
      · rw [if_neg z] at p1; exact p1.elim
    | _ => exact p1.elim⟩
theorem px_callKR {F : Fn} {k : Nat} {f : Addr} {fd : FuncData} {ps ks : List Str} {x : Str} {p : Pos} {kws : List Keyword} {fs : M (List D)} (G : FnOk X.prog X.w X.K X.mg X.base CX0 k f fd ps (fun vs H Q _ => SpF X.K F vs H Q E00)) (hr : Room k X.A) (hm : X.mg x = some (.ref f)) (hk : PySem.W.keepIn X.K (.ref f) = true)
    (hb : ∀ (s : Shared) (ws : List Value), X.K.In s.heap → ws.length = ps.length → BindsTo s fd ⟨[], ks.zip ws⟩ (ps.zip ws.reverse)) (hkw : PK X kws (tA X.K pn E00 fs)) (hg : Gl X x := by rfl) (hall : (backToKw pos (keywordEach kws X.env)).all (·.1.isSome) = true := by rfl)
    (hks : (backToKw pos (keywordEach kws X.env)).filterMap (·.1) = ks := by rfl) (hdb : (x == ("__debug__" : Str)) = false := by decide)
    (hpl : ((backTo pos (starEach [] X.env)).any (·.1) || (backToKw pos (keywordEach kws X.env)).any (·.1.isNone)) = false := by rfl) : PE X (.Call (.Name x p) [] kws pos) (tE X.K pn E00 (callF (revF F) fs)) :=
  (pe_callKR G hr hg hm hk hb pass0 hkw hall hks hdb hpl).imp fun σ H Q w => by
    obtain ⟨G0, ρ, ok, q⟩ := w
    refine ⟨G0, ρ, ok, (Post.bindA ok q).mono fun vs H1 ⟨G1, ρ1, ds, ok1, s1, d1, p1⟩ => ?_⟩
    refine spF_of ok1 d1.reverse ?_
    rw [List.map_reverse]
    exact p1
end
end BT

/-! an expression that only reads, the lists that the def owns among what it reads -/
namespace BK
open PySem L2 BT
def isAtm : Sl → Bool | .dt .non => true | .dt (.bl _) => true | .dt (.int _) => true | .dt (.str _) => true | _ => false
noncomputable def keepE (f : M Sl) : M Sl := fun ρ => match f (frzAll ρ) with
  | some (.val s ρ') => @ite _ (ρ' = frzAll ρ ∧ isAtm s = true) (Classical.propDecidable _) (some (.val s ρ)) none
  | _ => none
theorem keepE_eq {f : M Sl} {ρ : Rho} {s : Sl} (h : f (frzAll ρ) = some (.val s (frzAll ρ))) (a : isAtm s = true) : keepE f ρ = some (.val s ρ) := by
  unfold keepE; rw [h]; exact if_pos ⟨rfl, a⟩
section
variable {X : Cx} {pn : List (Nat × Addr)} {E : XK}
theorem px_keep {a : Expr} {f : M Sl} (h : PE X a (tE X.K pn E f)) : PE X a (tE X.K pn E (keepE f)) := ⟨fun pins s σ H Q I ⟨G, ρ, ok, p⟩ => by
  obtain ⟨okf, xf⟩ := EnvOk.frzAll ok
  refine h.run pins s σ H Q I ⟨_, _, okf, ?_⟩
  unfold keepE at p
  cases e : f (frzAll ρ) with
  | none => rw [e] at p; exact p
  | some x =>
    rw [e] at p
    cases x with
    | exc _ _ => exact p.elim
    | val s ρ' =>
      intro v G' H' ok' x'
      simp only at p
      split at p
      · rename_i z
        obtain ⟨z0, z1⟩ := z
        subst z0
        have no : ∀ b, ¬ OwnAt σ (frzAll ρ) b := fun b ⟨j, ds, h1, _⟩ => frzAll_no h1
        have keep : ∀ b o, H b = some o → H' b = some o := fun b o e => x'.keep b o e (no b)
        have ok1 : EnvOk X.K pn G H' σ ρ := ⟨fun b o e => keep b o (ok.sub b o e), ok.len, ok.dt, fun j ds e => by
          obtain ⟨q, vs, a1, a2, a3, a4⟩ := ok.ol j ds e
          exact ⟨q, vs, a1, keep _ _ a2, a3, a4⟩, ok.inj, ok.pins⟩
        have hd : ∃ d, s = .dt d ∧ Dt X.K G v d := by
          cases s with
          | dt d =>
            have hl : σ.length = (frzAll ρ).length := by have := ok'.len; simp at this; omega
            obtain ⟨v', e1, e2⟩ := ok'.dt (frzAll ρ).length d (by simp)
            have e3 : v' = v := by
              rw [← hl] at e1
              simp at e1
              exact e1.symm
            subst e3
            refine ⟨d, rfl, ?_⟩
            cases d with
            | non => cases e2; exact .non
            | bl b => cases e2; exact .bl b
            | int i => cases e2; exact .int i
            | str x => cases e2; exact .str x
            | _ => cases z1
          | _ => cases z1
        obtain ⟨d, rfl, hd⟩ := hd
        exact p v G H' (ok1.push_dt hd) ⟨Same.refl G, fun _ h => .inl h, fun b o e _ => keep b o e, fun b z => .inl (own_push_dt ok1.len z)⟩
      · exact p.elim⟩
end
end BK

/-! C(e), C(f = e), C() of an own exception class with its own __init__, as a value -/
namespace BM
open PySem
open PySem.HandSPX
section
variable {prog : Program} {w : World} {A : Around} {E : Value → Shared → Prop} {R : Result → Shared → Prop} {h : Heap} {g : Array GenState} {d : Drawn} {t : Nat} {os : OsState} {kw : List (Str × Value)}
variable {nm q : Str} {C N : Addr} {bs bm bmB : List Value} {hdct : Bool} {sn : List Str} {sub : List Value} {ab : Bool} {col : Option Bool} {dd : Option Addr} {k0 k1 k2 k3 k5 : Option Value} {B newId initId : String} {rest : List Value}
theorem check_new_kw (F : ExcBaseFacts B newId initId bmB) (hT : ∀ X : String, bm.contains (.type X) = bmB.contains (.type X)) {Q : Unit → Shared → Prop}
    (cls : h.get? C = some (excClassObj nm q C N bs bm hdct sn sub ab col dd k0 k1 k2 k3 k5 newId)) (go : Q () ⟨h, g, d, t, os⟩) : wpAny (model prog w) A (checkBuiltinCall newId ⟨.ref C :: rest, kw⟩) Q E ⟨h, g, d, t, os⟩ := by
  have isB : (Value.ref C :: bm).contains (.type B) = true := by rw [List.contains_cons, hT, F.hasB, Bool.or_true]
  have star := F.noStar
  simp only [checkBuiltinCall, F.newKind, F.newSplit, F.newRow]
  repeat (first | refine wpAny_loadPart_at cls ?_ | (refine wpAny_isSubtype_exc cls ?_; rw [isB]) | refine wpAny_staticBase_exc cls ?_ | refine wpAny_madeBy_exc cls ?_ | simp only [bne_self_eq_false, Bool.false_eq_true, if_false] | wp_step)
  exact go
theorem new_kw (F : ExcBaseFacts B newId initId bmB) (hT : ∀ X : String, bm.contains (.type X) = bmB.contains (.type X))
    (cls : h.get? C = some (excClassObj nm q C N bs bm hdct sn sub ab col dd k0 k1 k2 k3 k5 newId)) (few : rest.length ≤ sizeLine)
    (go : R (.ok (.ret (.ref (h.objs.size + 1)))) ⟨(h.push (W.kdv_tup rest)).push (excO C h.objs.size), g, d, t, os⟩) : codeAny (model prog w) A (.builtin newId ⟨.ref C :: rest, kw⟩) R ⟨h, g, d, t, os⟩ := by
  have fin := F.ends
  have isB : (Value.ref C :: bm).contains (.type B) = true := by rw [List.contains_cons, hT, F.hasB, Bool.or_true]
  have isA : (Value.ref C :: bm).contains (.type "AttributeError") = false := by rw [List.contains_cons, hT, F.noAttr]; rfl
  have isN : (Value.ref C :: bm).contains (.type "NameError") = false := by rw [List.contains_cons, hT, F.noName]; rfl
  refine codeAny_builtinAt F.entry ?_
  unfold Builtin.«BaseException.__new__»
  refine wpAt_bind ?_
  show wpAt _ _ _ (stack >>= _) _ _ _
  refine wpAt_bind (wpAt_stack fun p below => wpAt_of_wpAny ?_)
  wp_walk
  refine wpAt_of_wpAny ?_
  rw [F.owner]
  repeat (first | with_reducible refine wpAny_madeHere_exc F.canon cls ?_ | with_reducible refine wpAny_loadPart_at cls ?_ | (with_reducible refine wpAny_isSubtype_exc cls ?_; first | rw [isB] | rw [isA] | rw [isN]) | wp_step)
  show R _ _
  rw [Heap.size_push]
  exact go
theorem type_call_kw (F : ExcBaseFacts B newId initId bmB) (hT : ∀ X : String, bm.contains (.type X) = bmB.contains (.type X)) {fI : Addr} {Q : Fin → Shared → Prop}
    (cls : h.get? C = some (excClassObj nm q C N bs bm hdct sn sub ab col dd k0 k1 k2 k3 k5 newId))
    (ini : W.Looks (model prog w) h (typeLookup (.ref C) "__init__") (some (.ref fI))) (bnd : ∀ self, W.Looks (model prog w) h (bindSpecial (.ref fI) self) (.ref fI, [self])) (few : rest.length ≤ sizeLine)
    (go : codeAny (model prog w) A (.call (.ref fI) ⟨.ref (h.objs.size + 1) :: rest, kw⟩)
      (fun r s' => match r with | .ok (.ret v) => v = .none ∧ Q (.done (.ret (.ref (h.objs.size + 1)))) s' | .ok _ => False | .error e => E e s')
      ⟨(h.push (W.kdv_tup rest)).push (excO C h.objs.size), g, d, t, os⟩) :
    wpAny (model prog w) A (Builtin.«type.__call__» ⟨.ref C :: rest, kw⟩) Q E ⟨h, g, d, t, os⟩ := by
  repeat (first | with_reducible refine wpAny_loadPart_at cls ?_ | with_reducible refine wpAny_madeBy_exc cls ?_ | wp_step)
  refine codeAny_call_builtin_code (Code.quiet_builtin _ F.quiet) (check_new_kw F hT cls ?_)
  refine new_kw F hT cls few ?_
  show wpAny _ _ _ _ _ _
  have up : ∀ b o, h.get? b = some o → ((h.push (W.kdv_tup rest)).push (excO C h.objs.size)).get? b = some o := fun b o e => Heap.get?_push_of_some _ (Heap.get?_push_of_some _ e)
  have cls₁ := up _ _ cls
  have there : ((h.push (W.kdv_tup rest)).push (excO C h.objs.size)).get? (h.objs.size + 1) = some (excO C h.objs.size) := by heap_get
  have self : (Value.ref C :: bm).contains (.ref C) = true := by simp
  have i1 := ini.keeps up
  have b1 := (bnd (.ref (h.objs.size + 1))).keeps up
  unfold isInstance
  repeat (first | with_reducible refine wpAny_loadPart_at there ?_ | (with_reducible refine wpAny_isSubtype_exc cls₁ ?_; rw [self]) | wp_step)
  show wpAny _ _ (typeLookup (.ref C) _) _ _ _
  refine i1.at ?_
  refine wpAny_holding (wpAny_bind (b1.at ?_))
  refine wpAny_bind (wpAny_call (codeAny_mono go fun r s' z => ?_))
  rcases r with e | (v | _ | _ | _) <;> first | exact z | exact z.elim | skip
  obtain ⟨rfl, z⟩ := z
  first
    | exact wpAny_pure (wpAny_pure z)
    | (wp_walk; exact z)
theorem check_tc_kw {Q : Unit → Shared → Prop} (cls : h.get? C = some (excClassObj nm q C N bs bm hdct sn sub ab col dd k0 k1 k2 k3 k5 newId)) (go : Q () ⟨h, g, d, t, os⟩) : wpAny (model prog w) A (checkBuiltinCall "type.__call__" ⟨.ref C :: rest, kw⟩) Q E ⟨h, g, d, t, os⟩ := by
  have f3 := tc_sub
  have ty : (⟨h, g, d, t, os⟩ : Shared).TypeIs (.ref C) "type" := ⟨_, cls, rfl⟩
  simp only [checkBuiltinCall, tc_kind, tc_split]
  repeat (any_goals (first | assumption | with_reducible refine wpAny_loadPart_at cls ?_ | with_reducible refine wpAny_onRaise ?_ | with_reducible refine wpAny_map ?_ | wp_step))
theorem call_kw (F : ExcBaseFacts B newId initId bmB) (hT : ∀ X : String, bm.contains (.type X) = bmB.contains (.type X)) {fI : Addr}
    (cls : h.get? C = some (excClassObj nm q C N bs bm hdct sn sub ab col dd k0 k1 k2 k3 k5 newId))
    (ini : W.Looks (model prog w) h (typeLookup (.ref C) "__init__") (some (.ref fI))) (bnd : ∀ self, W.Looks (model prog w) h (bindSpecial (.ref fI) self) (.ref fI, [self])) (few : rest.length ≤ sizeLine)
    (go : codeAny (model prog w) (A.under (.builtin "type.__call__" ⟨.ref C :: rest, kw⟩)) (.call (.ref fI) ⟨.ref (h.objs.size + 1) :: rest, kw⟩) (W.InitBack (h.objs.size + 1) R)
      ⟨(h.push (W.kdv_tup rest)).push (excO C h.objs.size), g, d, t, os⟩) :
    codeAny (model prog w) A (.call (.ref C) ⟨rest, kw⟩) R ⟨h, g, d, t, os⟩ := by
  have l1 := tc_lookup
  have l2 := tc_bind (.ref C)
  have ty : (⟨h, g, d, t, os⟩ : Shared).TypeIs (.ref C) "type" := ⟨_, cls, rfl⟩
  refine codeAny_of_tree ?_
  show wpAny _ _ (callAny (.ref C) _) _ _ _
  repeat (any_goals (first | assumption | with_reducible refine wpAny_loadPart_at cls ?_ | wp_step))
  refine ⟨rfl, ?_⟩
  refine codeAny_call_builtin_at (Code.quiet_builtin _ (by decide +kernel)) entry_typeCall (check_tc_kw cls (type_call_kw F hT cls ini bnd few ?_))
  refine codeAny_mono go fun r s' z => ?_
  rcases r with e | (v | _ | _ | _) <;> exact z
end
end BM
namespace BT
open PySem PySem.Spec PyProof.Rows L2
section
variable {X : Cx} {pins : List (Addr × Obj)} {σ : L2.St}
theorem mk_fin {Ha H2 : Hp} {s2 s' : Shared} {a C d : Addr} {fs : List (Str × V)} (I2 : Inv X pins σ Ha s2) (os2 : s'.os = s2.os) (bare2 : AllBare s'.gens) (un2 : Un (frs X.stack) [] Ha H2 s2.heap s'.heap) (hok2 : HOk X.prog X.w H2 s'.heap)
    (ea : H2 a = some (exo a C (some d))) (ed : H2 d = some (exd d fs)) : Inv X pins σ (upd (upd H2 a (xob (.ref C) (some d) a)) d (.xd fs)) s' := by
  have J : Inv X pins σ H2 s' := I2.call' (ch := []) os2 un2 hok2 bare2 (fun b z => absurd z (by simp))
  obtain ⟨t0, hoe⟩ := exo_at hok2 ea
  obtain ⟨mA, hns, rel⟩ := exd_at hok2 ed
  have nda : d ≠ a := fun z => by
    obtain ⟨o, es, ep, e1, e2, _⟩ := hns
    rw [z, hoe] at e1
    have e1 := Option.some.inj e1
    subst e1
    cases e2
  have J1 := J.write (t' := s'.toks) (x := a) (e := a) (o := xob (.ref C) (some d) a) (by rw [ea]; exact True.intro) (.inl rfl) (fun b u _ q => q) ⟨_, hoe⟩
    ⟨⟨_, _, hoe, ⟨rfl, rfl⟩, rfl⟩, ⟨_, hoe⟩, fun h1 h2 ⟨oe, vs, e1, e2, e3⟩ k => ⟨oe, vs, k _ e1, e2, e3⟩⟩
  have J2 := J1.write (t' := s'.toks) (x := d) (e := d) (o := .xd fs) (by rw [upd_ne nda, ed]; exact True.intro) (.inl rfl) (fun b u _ q => q) (by obtain ⟨o, _, _, e, _⟩ := hns; exact ⟨o, e⟩) ⟨mA, hns, rel⟩
  exact J2
end
end BT

namespace BT
open PySem PySem.Spec PyProof.Rows L2
/-- C(..) of an own exception class with its own __init__: the exception stands at a, its dict at d -/
def rMk (C : Addr) (sp : Sp) : List V → Hp → VK → Prop := fun vs H1 Q => ∀ a, H1 a = none → sp (.ref a :: vs) (upd H1 a (exo a C none))
  (fun v H2 => v = .non ∧ ∃ (d : Addr) (fs : List (Str × V)), H2 a = some (exo a C (some d)) ∧ H2 d = some (exd d fs) ∧ Q (.ref a) (upd (upd H2 a (xob (.ref C) (some d) a)) d (.xd fs))) (fun _ _ _ => False)
section
variable {X : Cx} {pins : List (Addr × Obj)} {σ : L2.St} {H1 : Hp} {CX : CXT} {C fI : Addr} {k : Nat} {fd : FuncData} {ps : List Str} {sp : Sp}
theorem mk_run (T : OexC X.K C) (iC : PySem.W.findIn X.K (.ref C) "__init__" = some (some (.ref fI))) (tI : PySem.W.typeIn X.K (.ref fI) = some (.type "function"))
    (F1 : FnOk X.prog X.w X.K X.mg X.base CX k fI fd ps sp) (hr : Room (k + 1) X.A) (hx : Passes CX X (fun _ _ _ => False)) {s1 : Shared} (I1 : Inv X pins σ H1 s1) {us ws : List Value} {kw : List (Str × Value)} {vs : List V} {Q : VK} {R : Result → Shared → Prop}
    (few : us.length ≤ sizeLine) (r : Vals vs ws) (hb : ∀ (s : Shared) (a : Addr), X.K.In s.heap → ws.length + 1 = ps.length → BindsTo s fd ⟨.ref a :: us, kw⟩ (ps.zip (.ref a :: ws))) (q : rMk C sp vs H1 Q)
    (hR : ∀ u s', EP X pins σ Q u s' → R (.ok (.ret u)) s') (hE : ∀ e s', X.xe e s' → R (.error e) s') : codeAny (model X.prog X.w) X.A (.call (.ref C) ⟨us, kw⟩) R s1 := by
  obtain ⟨nm, qn, N, bs, bm, sn, sub, ab, col, dd, k0, k1, k2, k3, k5, hC, hbm⟩ := T.cls
  obtain ⟨hp, g, dr, tk, os⟩ := s1
  have hsz : hp.objs.size ≤ hp.objs.size + 1 := Nat.le_succ _
  have hn : H1 (hp.objs.size + 1) = none := I1.hok.fresh hsz
  have hq := q (hp.objs.size + 1) hn
  have up : ∀ b o, hp.get? b = some o → ((hp.push (PySem.W.kdv_tup us)).push (PySem.HandSPX.excO C hp.objs.size)).get? b = some o := fun b o e => Heap.get?_push_of_some _ (Heap.get?_push_of_some _ e)
  have there : ((hp.push (PySem.W.kdv_tup us)).push (PySem.HandSPX.excO C hp.objs.size)).get? (hp.objs.size + 1) = some (PySem.HandSPX.excO C hp.objs.size) := by heap_get
  have I2 : Inv X pins σ (upd H1 (hp.objs.size + 1) (exo (hp.objs.size + 1) C none)) ⟨(hp.push (PySem.W.kdv_tup us)).push (PySem.HandSPX.excO C hp.objs.size), g, dr, tk, os⟩ :=
    I1.laid (t' := tk) (a := hp.objs.size + 1) (o := exo (hp.objs.size + 1) C none) (h' := (hp.push (PySem.W.kdv_tup us)).push (PySem.HandSPX.excO C hp.objs.size)) up hsz (exo_ok there)
  have r2 : Vals (V.ref (hp.objs.size + 1) :: vs) (Value.ref (hp.objs.size + 1) :: ws) := .cons rfl r
  have hl : ws.length + 1 = ps.length := by
    have e := r2.length
    rw [F1.len _ _ _ _ hq] at e
    simpa using e.symm
  refine BM.call_kw F.excBase_ValueError (fun Y => PySem.HandSPX.refsVE_contains Y bm hbm) (I1.kIn _ _ hC) (PySem.W.looks_findIn I1.kIn iC) (fun self => PySem.W.bind_fn I1.kIn self tI) few
    (codeAny_mono (F1.run _ X.stack _ _ ⟨Value.ref (hp.objs.size + 1) :: us, kw⟩ (Value.ref (hp.objs.size + 1) :: ws) _ _ (fun _ _ _ => False) (hr.make C us kw) (I2.env0.make C us kw) (hb _ _ I2.kIn hl) r2 hq) fun r s' hq' => ?_)
  cases r with
  | error er => exact hE _ _ (hx pins σ _ _ er s' I2 hq')
  | ok fl =>
    cases fl with
    | ret u =>
      obtain ⟨v, H2, os2, bare2, un2, hok2, rv, ev, d, fs, ea, ed, q2⟩ := hq'
      subst ev
      exact ⟨rv, hR _ _ ⟨.ref _, _, mk_fin I2 os2 bare2 un2 hok2 ea ed, rfl, q2⟩⟩
    | next => exact False.elim hq'
    | brk => exact False.elim hq'
    | cont => exact False.elim hq'
variable {x : Str} {p pos : Pos} {e : Expr} {es : List Expr} {kws : List Keyword} {ta : TA} {ks : List Str}
def tMkV (C : Addr) (sp : Sp) (dvs : List V) (ta : TA) : TE := fun σ H Q => ta σ H fun vs H1 => vs.length ≤ 1000 ∧ rMk C sp (vs ++ dvs) H1 Q
theorem few_of {us : List Value} {vs : List V} (r : Vals vs us) (h : vs.length ≤ 1000) : us.length ≤ sizeLine := by
  rw [← r.length, sizeLine_eq]; omega
/-- C(e, ..) -/
theorem pe_mkx (T : OexC X.K C) (iC : PySem.W.findIn X.K (.ref C) "__init__" = some (some (.ref fI))) (tI : PySem.W.typeIn X.K (.ref fI) = some (.type "function"))
    (F1 : FnOk X.prog X.w X.K X.mg X.base CX k fI fd ps sp) (hr : Room (k + 1) X.A) (hb : Binds X.K fd ps []) (hx : Passes CX X (fun _ _ _ => False)) (hg : Gl X x) (hm : X.mg x = some (.ref C)) (ha : PA X (e :: es) ta)
    (hdb : (x == ("__debug__" : Str)) = false := by decide) (he : starEach (e :: es) X.env = (false, eval e X.env) :: starEach es X.env := by rfl) (hpl : (backTo pos (starEach es X.env)).any (·.1) = false := by rfl) :
    PE X (.Call (.Name x p) (e :: es) [] pos) (tMkV C sp [] ta) := by
  refine ⟨fun pins s σ H Q I h => wpAny_Call_Name_kw (ld_glob I hg hm ?_ hdb)⟩
  refine PySem.W.callWith_K (h₀ := X.base) I.ok.mod.kin T.kC (thn (ha.run pos pins s σ H _ I h) fun us s1 ⟨vs, H1, I1, r1, hz, q1⟩ => ⟨I1.kIn, ?_⟩) he hpl
  rw [List.append_nil] at q1
  exact wpAny_call (mk_run T iC tI F1 hr hx I1 (few_of r1 hz) r1 (fun s a X0 hl => by
    have := hb s (.ref a :: us) X0 (by simpa using hl)
    simpa using this) q1 (fun u s' h => h) (fun e s' h => h))
/-- C() -/
theorem pe_mkx0 {ds : List Value} {dvs : List V} (T : OexC X.K C) (iC : PySem.W.findIn X.K (.ref C) "__init__" = some (some (.ref fI))) (tI : PySem.W.typeIn X.K (.ref fI) = some (.type "function"))
    (F1 : FnOk X.prog X.w X.K X.mg X.base CX k fI fd ps sp) (hr : Room (k + 1) X.A) (hb : Binds X.K fd ps ds) (hd : Vals dvs ds) (hx : Passes CX X (fun _ _ _ => False)) (hg : Gl X x) (hm : X.mg x = some (.ref C))
    (hdb : (x == ("__debug__" : Str)) = false := by decide) : PE X (.Call (.Name x p) [] [] pos) (fun σ H Q => rMk C sp dvs H Q) := by
  refine ⟨fun pins s σ H Q I h => wpAny_Call_Name_kw (ld_glob I hg hm ?_ hdb)⟩
  refine PySem.W.callWith_K0 I.kIn T.kC ?_
  exact wpAny_call (mk_run T iC tI F1 hr hx I (Nat.zero_le _) hd (fun s a X0 hl => by
    have := hb s [.ref a] X0 (by simpa [Nat.add_comm] using hl)
    simpa using this) h (fun u s' h => h) (fun e s' h => h))
/-- C(k = e) -/
theorem pe_mkxK (T : OexC X.K C) (iC : PySem.W.findIn X.K (.ref C) "__init__" = some (some (.ref fI))) (tI : PySem.W.typeIn X.K (.ref fI) = some (.type "function"))
    (F1 : FnOk X.prog X.w X.K X.mg X.base CX k fI fd ps sp) (hr : Room (k + 1) X.A) (hb : ∀ (s : Shared) (a : Addr) (ws : List Value), X.K.In s.heap → ws.length + 1 = ps.length → BindsTo s fd ⟨[.ref a], ks.zip ws⟩ (ps.zip (.ref a :: ws))) (hx : Passes CX X (fun _ _ _ => False)) (hg : Gl X x) (hm : X.mg x = some (.ref C))
    (hkw : PK X kws ta) (hall : (backToKw pos (keywordEach kws X.env)).all (·.1.isSome) = true := by rfl) (hks : (backToKw pos (keywordEach kws X.env)).filterMap (·.1) = ks := by rfl) (hdb : (x == ("__debug__" : Str)) = false := by decide)
    (hpl : ((backTo pos (starEach [] X.env)).any (·.1) || (backToKw pos (keywordEach kws X.env)).any (·.1.isNone)) = false := by rfl) : PE X (.Call (.Name x p) [] kws pos) (tMkV C sp [] ta) := by
  refine ⟨fun pins s σ H Q I h => wpAny_Call_Name_kw (ld_glob I hg hm ?_ hdb)⟩
  refine PySem.W.callWith_KW0 (h₀ := X.base) I.ok.mod.kin T.kC hall (thn (hkw.run pos pins s σ H _ I h) fun ws s2 ⟨zs, H2, I2, rz, hz, q2⟩ => ⟨I2.kIn, ?_⟩) hpl
  rw [hks]
  rw [List.append_nil] at q2
  exact wpAny_call (mk_run T iC tI F1 hr hx I2 (Nat.zero_le _) rz (fun s a X0 hl => hb s a ws X0 hl) q2 (fun u s' h => h) (fun e s' h => h))
end
end BT

/-! own exceptions as data -/
namespace BT
open PySem PySem.Spec PyProof.Rows L2
section
variable {X : Cx} {pn : List (Nat × Addr)} {E : XK} {pos p : Pos} {x : Str}
/-- what a made exception is, of data -/
theorem mk_data {C : Addr} {f : Str} {σ : L2.St} {G H : Hp} {ρ : Rho} {v : V} {d : D} {Q : VK} (ok : EnvOk X.K pn G H σ ρ) (hv : Dt X.K G v d) (q : Post X.K pn E σ G H (OwnAt σ ρ) (some (.val (.dt (.exn C [(f, d)])) ρ)) Q) : rMk C (SpIni C f) [v] H Q := by
  intro a ha
  refine ⟨a, v, rfl, upd_same, fun dx h1 h2 => ⟨rfl, dx, [(f, v)], upd_same, by rw [upd_ne h2, upd_same], ?_⟩⟩
  have hx : H dx = none := by rw [upd_ne h2] at h1; exact h1
  have e : upd (upd (upd (upd (upd H a (exo a C none)) dx (exd dx [(f, v)])) a (exo a C (some dx))) a (xob (.ref C) (some dx) a)) dx (.xd [(f, v)]) = upd (upd H a (xob (.ref C) (some dx) a)) dx (.xd [(f, v)]) := by
    funext b
    by_cases c1 : b = dx
    · rw [c1, upd_same, upd_same]
    · rw [upd_ne c1, upd_ne c1]
      by_cases c2 : b = a
      · rw [c2, upd_same, upd_same]
      · rw [upd_ne c2, upd_ne c2, upd_ne c1, upd_ne c2, upd_ne c2]
  rw [e]
  have ok1 := ok.alloc (o := xob (.ref C) (some dx) a) ha
  have hx1 : upd H a (xob (.ref C) (some dx) a) dx = none := by rw [upd_ne h2]; exact hx
  have ok2 := ok1.alloc (o := .xd [(f, v)]) hx1
  have ga := Same.free ok.sub ha
  have gx := Same.free ok1.sub hx1
  have xx := (Ext.alloc (o := xob (.ref C) (some dx) a) ok.sub ha (O := OwnAt σ ρ)).trans (Ext.alloc (o := .xd [(f, v)]) ok1.sub hx1)
  have hd : Dt X.K (upd (upd G a (xob (.ref C) (some dx) a)) dx (.xd [(f, v)])) (.ref a) (.exn C [(f, d)]) :=
    .exn (by rw [upd_ne (fun z => h2 z.symm)]; exact upd_same) upd_same (.cons ((hv.mono (same_alloc ga)).mono (same_alloc gx)) .nil)
  exact q (.ref a) _ _ (ok2.push_dt hd) (Ext.push_dt (O' := OwnAt σ ρ) ok2.len xx)
@[simp] def mkX (C : Addr) (f : Str) (fs : M (List D)) : M Sl := fun ρ => (bindM fs fun ds => match ds with | [d] => retD (.exn C [(f, d)]) | _ => fun _ => none) ρ
theorem px_mkx {C fI : Addr} {f : Str} {k : Nat} {fd : FuncData} {ps : List Str} {e : Expr} {m : M (List D)} (T : OexC X.K C) (iC : PySem.W.findIn X.K (.ref C) "__init__" = some (some (.ref fI))) (tI : PySem.W.typeIn X.K (.ref fI) = some (.type "function"))
    (F1 : FnOk X.prog X.w X.K X.mg X.base CX0 k fI fd ps (SpIni C f)) (hr : Room (k + 1) X.A) (hb : Binds X.K fd ps []) (hm : X.mg x = some (.ref C)) (he : PA X [e] (tA X.K pn E m)) (hg : Gl X x := by rfl)
    (hdb : (x == ("__debug__" : Str)) = false := by decide) (hs : starEach (e :: []) X.env = (false, eval e X.env) :: starEach [] X.env := by rfl) (hpl : (backTo pos (starEach [] X.env)).any (·.1) = false := by rfl) :
    PE X (.Call (.Name x p) [e] [] pos) (tE X.K pn E (mkX C f m)) :=
  (pe_mkx T iC tI F1 hr hb pass0 hg hm he hdb hs hpl).imp fun σ H Q ⟨G, ρ, ok, h⟩ => ⟨G, ρ, ok, (Post.bindA ok h).mono fun vs H1 ⟨G1, ρ1, ds, ok1, s1, d1, p1⟩ => by
    split at p1
    · obtain ⟨v, rfl, hv⟩ := d1.one
      exact ⟨by simp, by rw [List.append_nil]; exact mk_data ok1 hv p1⟩
    · exact p1.elim⟩
theorem px_mkxK {C fI : Addr} {f : Str} {k : Nat} {fd : FuncData} {ps ks : List Str} {kws : List Keyword} {m : M (List D)} (T : OexC X.K C) (iC : PySem.W.findIn X.K (.ref C) "__init__" = some (some (.ref fI))) (tI : PySem.W.typeIn X.K (.ref fI) = some (.type "function"))
    (F1 : FnOk X.prog X.w X.K X.mg X.base CX0 k fI fd ps (SpIni C f)) (hr : Room (k + 1) X.A) (hb : ∀ (s : Shared) (a : Addr) (ws : List Value), X.K.In s.heap → ws.length + 1 = ps.length → BindsTo s fd ⟨[.ref a], ks.zip ws⟩ (ps.zip (.ref a :: ws))) (hm : X.mg x = some (.ref C))
    (hkw : PK X kws (tA X.K pn E m)) (hg : Gl X x := by rfl) (hall : (backToKw pos (keywordEach kws X.env)).all (·.1.isSome) = true := by rfl) (hks : (backToKw pos (keywordEach kws X.env)).filterMap (·.1) = ks := by rfl) (hdb : (x == ("__debug__" : Str)) = false := by decide)
    (hpl : ((backTo pos (starEach [] X.env)).any (·.1) || (backToKw pos (keywordEach kws X.env)).any (·.1.isNone)) = false := by rfl) : PE X (.Call (.Name x p) [] kws pos) (tE X.K pn E (mkX C f m)) :=
  (pe_mkxK T iC tI F1 hr hb pass0 hg hm hkw hall hks hdb hpl).imp fun σ H Q ⟨G, ρ, ok, h⟩ => ⟨G, ρ, ok, (Post.bindA ok h).mono fun vs H1 ⟨G1, ρ1, ds, ok1, s1, d1, p1⟩ => by
    split at p1
    · obtain ⟨v, rfl, hv⟩ := d1.one
      exact ⟨by simp, by rw [List.append_nil]; exact mk_data ok1 hv p1⟩
    · exact p1.elim⟩
theorem px_mkx0 {C fI : Addr} {f : Str} {k : Nat} {fd : FuncData} {ps : List Str} {ds : List Value} (T : OexC X.K C) (iC : PySem.W.findIn X.K (.ref C) "__init__" = some (some (.ref fI))) (tI : PySem.W.typeIn X.K (.ref fI) = some (.type "function"))
    (F1 : FnOk X.prog X.w X.K X.mg X.base CX0 k fI fd ps (SpIni C f)) (hr : Room (k + 1) X.A) (hb : Binds X.K fd ps ds) (hd : Vals [V.non] ds) (hm : X.mg x = some (.ref C)) (hg : Gl X x := by rfl) (hdb : (x == ("__debug__" : Str)) = false := by decide) :
    PE X (.Call (.Name x p) [] [] pos) (tE X.K pn E (mC (.exn C [(f, .non)]))) :=
  (pe_mkx0 T iC tI F1 hr hb hd pass0 hg hm hdb).imp fun σ H Q ⟨G, ρ, ok, h⟩ => mk_data (d := .non) ok .non h
/-! ### C() of an own exception class without its own __init__ -/
theorem px_exc0 {C : Addr} {bmB : List Value} {B newId initId : String} (F : ExcBaseFacts B newId initId bmB) (q : PySem.W.excIn X.K C bmB newId = true) (kC : PySem.W.keepIn X.K (.ref C) = true) (gC : X.mg x = some (.ref C)) (hg : Gl X x := by rfl) (hdb : (x == ("__debug__" : Str)) = false := by decide) :
    PE X (.Call (.Name x p) [] [] pos) (tE X.K pn E (mC (.exn C []))) := ⟨fun pins s σ H Q I ⟨G, ρ, ok, h⟩ => by
  refine wpAny_Call_Name_kw (ld_glob I hg gC ?_ hdb)
  refine PySem.W.callWith_K0 I.kIn kC ?_
  show wpAny _ _ (call (.ref C) []) _ _ _
  obtain ⟨bm, N, nm, qn, bs, hdct, sn, sub, ab, col, dd, k0, k1, k2, k3, k5, mN, hC, hN, hni, T⟩ := exc_obj I.kIn q
  refine wpAny_call_exc_subT F T hC hN hni (fun h' a hm => ?_) (Nat.zero_le _)
  have hn : H a = none := I.hok.gone hm.new
  obtain ⟨t, ht, _, _⟩ := hm.there
  have gn := Same.free ok.sub hn
  have ok1 := ok.alloc (o := xob (.ref C) none a) hn
  have hd : Dt X.K (upd G a (xob (.ref C) none a)) (.ref a) (.exn C []) := .exn0 upd_same
  exact ⟨.ref a, upd H a (xob (.ref C) none a), I.laidN hm.keeps hm.new hn (xob_ok ht ⟨rfl, rfl⟩ rfl), rfl, h (.ref a) _ _ (ok1.push_dt hd) (Ext.push_dt (O' := OwnAt σ ρ) ok1.len (Ext.alloc ok.sub hn))⟩⟩
end
end BT

/-! [e] * n; isinstance of exceptions of several classes -/
namespace BT
open PySem PySem.Spec PyProof.Rows L2
section
variable {X : Cx} {pn : List (Nat × Addr)} {E : XK} {pos : Pos}
def repL (f : M Sl) (k : Int) : M Sl := fun ρ => match f ρ with
  | some (.val (.ol ds) ρ') => if 0 ≤ k ∧ k ≤ 1000 ∧ ds.length ≤ 1000 then some (.val (.ol (List.replicate k.toNat ds).flatten) ρ') else none
  | _ => none
theorem px_repL {a : Expr} {f : M Sl} {k : Int} {j : Nat} {p2 : Pos} (ha : PE X a (tE X.K pn E f)) : PE X (.BinOp a .Mult (.Constant (.int k) j p2) pos) (tE X.K pn E (repL f k)) :=
  (pe_op op_rep ha pe_int).imp fun σ H Q ⟨G, ρ, ok, h⟩ => by
    unfold repL at h
    refine ⟨G, ρ, ok, ?_⟩
    cases e : f ρ with
    | none => rw [e] at h; exact h
    | some r =>
      rw [e] at h
      cases r with
      | exc x ρ' => exact h.elim
      | val s ρ' =>
        cases s with
        | ol ds =>
          simp only at h
          by_cases c : 0 ≤ k ∧ k ≤ 1000 ∧ ds.length ≤ 1000
          · rw [if_pos c] at h
            obtain ⟨c0, c1, c2⟩ := c
            intro v G1 H1 ok1 x1
            have hl : σ.length = ρ'.length := by have := ok1.len; simpa using this
            obtain ⟨q, vs, e1, e2, e3, e4⟩ := ok1.ol ρ'.length ds (by simp)
            have e5 : v = .ref q := by rw [← hl] at e1; simpa using e1
            subst e5
            have lv := e4.length
            have okp := ok1.pop ok.pinLt
            have le : vs.length * k.toNat ≤ 1000 * 1000 := Nat.mul_le_mul (by omega) (by omega)
            refine ⟨q, k, vs, rfl, rfl, e2, by omega, by omega, by rw [sizeLine_eq]; omega, fun r hr => ?_⟩
            exact h (.ref r) G1 _ (okp.push_new hr (e4.rep _)) ((x1.sub fun a z => own_up okp.len z).trans (Ext.push_new okp.len hr))
          · rw [if_neg c] at h; exact h.elim
        | _ => exact h.elim
/-! ### isinstance(e, c), e an exception that is data, of one of several classes -/
def rIsG (K : PySem.W.Frag) (c : V) (cv : Value) (b : Addr → Option Bool) : List V → Hp → VK → Prop := fun xs H Q => ∃ (a D : Addr) (d : Option Addr) (r : Bool), xs = [.ref a, c] ∧ H a = some (xob (.ref D) d a) ∧ (∀ dx, d = some dx → ∃ fs, H dx = some (.xd fs)) ∧ ExF K D ∧ PySem.W.kitOne K (.ref D) cv = some r ∧ b D = some r ∧ Q (.bl r) H
theorem call_isG {c : V} {cv : Value} {b : Addr → Option Bool} (hc : ∀ u, RelV c u → u = cv) : CallR X (.builtin "isinstance") (rIsG X.K c cv b) := by
  intro pins s σ H xs us Q I r h
  obtain ⟨a, D, d, v, rfl, ha, hd, F, hk, _, q⟩ := h
  cases r with
  | cons rx rr =>
    cases rr with
    | cons rt rr =>
      cases rr
      cases rx
      have et := hc _ rt
      subst et
      have od : ∃ od : Option Obj, OdOk s.heap d od := by
        cases d with
        | none => exact ⟨none, trivial⟩
        | some dx =>
          obtain ⟨fs, e⟩ := hd dx rfl
          have x : ObjOk X.prog X.w H s.heap dx (.xd fs) := I.hok dx _ e
          obtain ⟨_, ⟨o, _, _, e2, _⟩, _⟩ := x
          exact ⟨some o, e2⟩
      obtain ⟨od, ho⟩ := od
      obtain ⟨oe, J⟩ := inst_at I ha ho
      exact PySem.W.kia_one (PySem.W.kitx_exc F.cl F.ga F.gg F.sub F.cc F.nn F.tk F.om) I.kIn J hk (fun z => nomatch z) fun tk => ⟨.bl v, H, I.kept (t' := tk) fun _ _ z => z, rfl, q⟩
@[simp] def isGK (b : Addr → Option Bool) : D → M Sl := fun d => match d with | .exn c _ => (match b c with | some r => retD (.bl r) | none => fun _ => none) | _ => fun _ => none
@[simp] def isGM (b : Addr → Option Bool) (f : M Sl) : M Sl := fun ρ => (bindD f (isGK b)) ρ
theorem isG_of {c : V} {cv : Value} {b : Addr → Option Bool} (hb : ∀ D r, b D = some r → ExF X.K D ∧ PySem.W.kitOne X.K (.ref D) cv = some r) {σ : L2.St} {G1 H1 : Hp} {ρ1 : Rho} {v : V} {d : D} {Q : VK} (ok1 : EnvOk X.K pn G1 H1 σ ρ1) (d1 : Dt X.K G1 v d)
    (p1 : Post X.K pn E σ G1 H1 (OwnAt σ ρ1) (isGK b d ρ1) Q) : rIsG X.K c cv b [v, c] H1 Q := by
  cases d1 with
  | @exn a dx D fs ds h1 h2 hs =>
    simp only [isGK] at p1
    cases e : b D with
    | none => rw [e] at p1; exact p1.elim
    | some r =>
      rw [e] at p1
      obtain ⟨F, hk⟩ := hb D r e
      exact ⟨a, D, some dx, r, rfl, ok1.sub _ _ h1, fun dx' e => by cases e; exact ⟨fs, ok1.sub _ _ h2⟩, F, hk, e, p1.dt ok1 (.bl _)⟩
  | @exn0 a D h1 =>
    simp only [isGK] at p1
    cases e : b D with
    | none => rw [e] at p1; exact p1.elim
    | some r =>
      rw [e] at p1
      obtain ⟨F, hk⟩ := hb D r e
      exact ⟨a, D, none, r, rfl, ok1.sub _ _ h1, (fun dx' e => nomatch e), F, hk, e, p1.dt ok1 (.bl _)⟩
  | _ => exact p1.elim
theorem px_isG {C : Addr} {b : Addr → Option Bool} {x : Str} {p p2 : Pos} {e : Expr} {f : M Sl} (hb : ∀ D r, b D = some r → ExF X.K D ∧ PySem.W.kitOne X.K (.ref D) (.ref C) = some r) (he : PE X e (tE X.K pn E f)) (hm1 : X.mg "isinstance" = none) (hm2 : X.mg x = some (.ref C)) (hg1 : Gl X "isinstance" := by rfl) (hg2 : Gl X x := by rfl)
    (hd : (x == ("__debug__" : Str)) = false := by decide) (hs1 : starEach [e, .Name x p2] X.env = (false, eval e X.env) :: starEach [.Name x p2] X.env := by rfl) (hs2 : starEach [.Name x p2] X.env = (false, eval (.Name x p2) X.env) :: starEach [] X.env := by rfl) (hpl : (backTo pos (starEach [.Name x p2] X.env)).any (·.1) = false := by rfl) :
    PE X (.Call (.Name "isinstance" p) [e, .Name x p2] [] pos) (tE X.K pn E (isGM b f)) :=
  (pe_callB (call_isG (X := X) (c := .ref C) (cv := .ref C) (b := b) (fun u r => r)) hg1 hm1 (by decide +kernel) (pa_cons he (pa_cons (pe_glob (v := .ref C) hg2 hm2 rfl hd) pa_nil hs2) hs1) (by decide) (by decide) hs1 hpl).imp fun σ H Q ⟨G, ρ, ok, w⟩ => ⟨G, ρ, ok, (Post.bindD ok w).mono fun v H1 ⟨G1, ρ1, d, ok1, s1, d1, p1⟩ => isG_of hb ok1 d1 p1⟩
/-- the class a built-in one -/
theorem px_isGB {T : String} {b : Addr → Option Bool} {x : Str} {p p2 : Pos} {e : Expr} {f : M Sl} (hb : ∀ D r, b D = some r → ExF X.K D ∧ PySem.W.kitOne X.K (.ref D) (.type T) = some r) (he : PE X e (tE X.K pn E f)) (hm1 : X.mg "isinstance" = none) (hm2 : X.mg x = none) (hv : bootBuiltins x = some (.type T)) (hg1 : Gl X "isinstance" := by rfl) (hg2 : Gl X x := by rfl)
    (hn : x ≠ "__name__" := by decide) (hd : (x == ("__debug__" : Str)) = false := by decide) (hs1 : starEach [e, .Name x p2] X.env = (false, eval e X.env) :: starEach [.Name x p2] X.env := by rfl) (hs2 : starEach [.Name x p2] X.env = (false, eval (.Name x p2) X.env) :: starEach [] X.env := by rfl) (hpl : (backTo pos (starEach [.Name x p2] X.env)).any (·.1) = false := by rfl) :
    PE X (.Call (.Name "isinstance" p) [e, .Name x p2] [] pos) (tE X.K pn E (isGM b f)) :=
  (pe_callB (call_isG (X := X) (c := .ty T) (cv := .type T) (b := b) (fun u r => r)) hg1 hm1 (by decide +kernel) (pa_cons he (pa_cons (pe_bltn (v := .ty T) hg2 hm2 hv rfl hn hd) pa_nil hs2) hs1) (by decide) (by decide) hs1 hpl).imp fun σ H Q ⟨G, ρ, ok, w⟩ => ⟨G, ρ, ok, (Post.bindD ok w).mono fun v H1 ⟨G1, ρ1, d, ok1, s1, d1, p1⟩ => isG_of hb ok1 d1 p1⟩
end
end BT

/-! isinstance(ValueError(), C) -/
namespace BT
open PySem PySem.Spec PyProof.Rows L2
section
variable {X : Cx} {pn : List (Nat × Addr)} {E : XK} {pos : Pos}
theorem pe_exb0 {T N I : String} {x : Str} {p : Pos} (F : ExcB T N I) (hg : Gl X x) (hm : X.mg x = none) (hv : bootBuiltins x = some (.type T)) (hn : x ≠ "__name__" := by decide) (hdb : (x == ("__debug__" : Str)) = false := by decide) :
    PE X (.Call (.Name x p) [] [] pos) (fun _ H Q => ∀ a, H a = none → Q (.ref a) (upd H a (xob (.type T) none a))) := by
  refine ⟨fun pins s σ H Q J h => ?_⟩
  refine wpAny_Call_Name_kw (ld_blt J hg hm hv ?_ hn hdb)
  obtain ⟨hp1, g1, d1, tk1, os1⟩ := s
  refine PyProof.Rows.callWith_type0 (wpAny_call_exc F.call (fun h' a mk => ?_) (Nat.zero_le _))
  have mk := PySem.Heap.MadeExc.of mk
  have hn := J.hok.gone mk.new
  obtain ⟨o, vs, ho, hz, hd⟩ : ∃ (o : Obj) (vs : Array Value), h'.get? a = some o ∧ Zc (.type T) none o ∧ o.data = .fields vs := by
    obtain ⟨t, ht⟩ := mk.there
    first
      | exact ⟨_, _, ht, ⟨rfl, rfl⟩, rfl⟩
      | (obtain ⟨ht, _, _⟩ := ht; exact ⟨_, _, ht, ⟨rfl, rfl⟩, rfl⟩)
      | (obtain ⟨ht, _⟩ := ht; exact ⟨_, _, ht, ⟨rfl, rfl⟩, rfl⟩)
  exact ⟨.ref a, upd H a (xob (.type T) none a), J.laidN mk.keeps mk.new hn (xob_ok ho hz hd), rfl, h a hn⟩
theorem call_isV {T : String} {C : Addr} {r : Bool} (FX : ExcAttrFacts T) (lk : typeLookup (.type T) "__class__" = pure (some (.builtin "object.__class__"))) (so : isSubtype (.type T) (.type (".".intercalate ("object.__class__".cutAt '.').dropLast)) = pure true) (nb : (Value.type T == Value.type "builtin_function_or_method") = false) :
    CallR X (.builtin "isinstance") (fun xs H Q => ∃ a, xs = [.ref a, .ref C] ∧ H a = some (xob (.type T) none a) ∧ PySem.W.kitOne X.K (.type T) (.ref C) = some r ∧ Q (.bl r) H) := by
  intro pins s σ H xs us Q I rr h
  obtain ⟨a, rfl, ha, hk, q⟩ := h
  cases rr with
  | cons rx rr =>
    cases rr with
    | cons rt rr =>
      cases rr
      cases rx
      cases rt
      obtain ⟨⟨oe, vs, e, z, dd⟩, _⟩ := I.hok a _ ha
      exact PySem.W.kia_one (PySem.W.kitx_bexc FX lk so nb) I.kIn ⟨oe, e, z.1⟩ hk (fun z => nomatch z) fun tk => ⟨.bl r, H, I.kept (t' := tk) fun _ _ z => z, rfl, q⟩
theorem px_isV {C : Addr} {r : Bool} {x y : Str} {p p2 p3 q : Pos} (hk : PySem.W.kitOne X.K (.type "ValueError") (.ref C) = some r) (hm1 : X.mg "isinstance" = none) (hmV : X.mg y = none) (hvV : bootBuiltins y = some (.type "ValueError")) (hm2 : X.mg x = some (.ref C)) (hg1 : Gl X "isinstance" := by rfl) (hgV : Gl X y := by rfl) (hg2 : Gl X x := by rfl)
    (hn : y ≠ "__name__" := by decide) (hdy : (y == ("__debug__" : Str)) = false := by decide) (hd : (x == ("__debug__" : Str)) = false := by decide)
    (hs1 : starEach [Expr.Call (.Name y p3) [] [] q, .Name x p2] X.env = (false, eval (Expr.Call (.Name y p3) [] [] q) X.env) :: starEach [.Name x p2] X.env := by rfl) (hs2 : starEach [.Name x p2] X.env = (false, eval (.Name x p2) X.env) :: starEach [] X.env := by rfl) (hpl : (backTo pos (starEach [.Name x p2] X.env)).any (·.1) = false := by rfl) :
    PE X (.Call (.Name "isinstance" p) [Expr.Call (.Name y p3) [] [] q, .Name x p2] [] pos) (tE X.K pn E (mC (.bl r))) :=
  (pe_callB (call_isV (X := X) (T := "ValueError") (C := C) (r := r) PySem.F.excAttr_ValueError (by kernel_rfl) (by kernel_rfl) (by decide)) hg1 hm1 (by decide +kernel) (pa_cons (pe_exb0 exb_ValueError hgV hmV hvV hn hdy) (pa_cons (pe_glob (v := .ref C) hg2 hm2 rfl hd) pa_nil hs2) hs1) (by decide) (by decide) hs1 hpl).imp fun σ H Q ⟨G, ρ, ok, w⟩ => by
    intro a ha
    refine ⟨a, rfl, upd_same, hk, ?_⟩
    have ok1 := ok.alloc (o := xob (.type "ValueError") none a) ha
    exact w (.bl r) _ _ (ok1.push_dt (.bl r)) (Ext.push_dt (O' := OwnAt σ ρ) ok1.len (Ext.alloc ok.sub ha))
end
end BT

/-! helpers; what the draws compute -/
namespace BK
open PySem L2 BT
theorem line_big {n : Nat} (h : n ≤ 1000) : n ≤ sizeLine := Nat.le_trans h (by rw [sizeLine_eq]; decide)
theorem flat_strs' (g : List Str) : (g.map D.str).all flatD = true := by
  rw [List.all_map]; exact List.all_eq_true.mpr fun _ _ => rfl
theorem any_strs (b : Str) (g : List Str) : ((g.map D.str).any fun z => eqF z (.str b)) = decide (b ∈ g) := by
  induction g with
  | nil => rfl
  | cons x g ih =>
    rw [List.map_cons, List.any_cons, ih]
    by_cases c : x = b
    · subst c; simp [eqF]
    · have c' : ¬ b = x := fun e => c e.symm
      simp [eqF, c, c']
theorem in_strs (b : Str) (g : List Str) (ρ : Rho) : inM false (.str b) (.lst (g.map .str)) ρ = some (.val (.dt (.bl (decide (b ∈ g)))) ρ) := by
  have h := any_strs b g
  simp only [inM]
  rw [if_pos ⟨rfl, flat_strs' g⟩]
  simp only [Bool.false_eq_true, if_false, h]
theorem bin2_val {f g : M Sl} {k : D → D → M Sl} {d e : D} {ρ : Rho} (h1 : f ρ = some (.val (.dt d) ρ)) (h2 : g ρ = some (.val (.dt e) ρ)) : bin2 f g k ρ = k d e ρ := by
  simp only [bin2, bindD, bindM, h1, h2, Sl.frz]
theorem toB_val {f : M Sl} {b : Bool} {ρ : Rho} (h : f ρ = some (.val (.dt (.bl b)) ρ)) : toB f ρ = some (.val b ρ) := by
  simp only [toB, bindD, bindM, h, Sl.frz]
theorem orT_val {f g : M Bool} {p q : Bool} {ρ : Rho} (h1 : f ρ = some (.val p ρ)) (h2 : g ρ = some (.val q ρ)) : orT f g ρ = some (.val (p || q) ρ) := by
  cases p <;> simp [orT, bindM, h1, h2]
theorem var_val {i : Nat} {d : D} {ρ : Rho} (h : ρ[i]? = some (.dt d)) : mVar i ρ = some (.val (.dt d) ρ) := by simp only [mVar, h]
theorem one_arg {f : M Sl} {d : D} {ρ : Rho} (h : f ρ = some (.val (.dt d) ρ)) : consA f nilA ρ = some (.val [d] ρ) := by simp only [consA, bindD, bindM, h, Sl.frz, nilA]
theorem backA_dt (ρ : Rho) : ∀ (ds : List D) (i : Nat), backA i (ds.map .dt) ρ = ds.map .dt
  | [], _ => rfl
  | d :: ds, i => by simp [backA, Sl.isOl, backA_dt ρ ds]
theorem modeOk_dt : ∀ (ds : List D) (i : Nat), modeOk [] i (ds.map .dt) = true
  | [], _ => rfl
  | d :: ds, i => by simp [modeOk, Sl.isOl, modeOk_dt ds]
theorem runB_rt {n np : Nat} {m : MS} {ds : List D} {s : Sl} {ρ' : Rho} (h : m (ds.map .dt ++ List.replicate (n - np) .un) = some (.rt s ρ')) (hl : ds.length = np) (hn : np ≤ n) : runB n np [] m (ds.map .dt) = some (.val s (ds.map .dt)) := by
  unfold runB
  rw [if_pos ⟨by rw [List.length_map]; exact hl, hn, modeOk_dt ds 0⟩, h]
  simp only [backA_dt]
theorem seq_nx {f g : MS} {ρ ρ' : Rho} (h : f ρ = some (.nx ρ')) : seqS f g ρ = g ρ' := by simp only [seqS, h]
theorem seq_rt {f g : MS} {ρ ρ' : Rho} {s : Sl} (h : f ρ = some (.rt s ρ')) : seqS f g ρ = some (.rt s ρ') := by simp only [seqS, h]
theorem asg_val {i : Nat} {f : M Sl} {ρ ρ' : Rho} {s : Sl} (h : f ρ = some (.val s ρ')) (l : i < ρ'.length) : asgS i f ρ = some (.nx (ρ'.set i s)) := by simp only [asgS, bindES, h, l, if_true]
theorem ret_val {f : M Sl} {ρ ρ' : Rho} {s : Sl} (h : f ρ = some (.val s ρ')) : retS f ρ = some (.rt s ρ') := by simp only [retS, bindES, h]
theorem fors_val {src : M (List D)} {b : D → Rho → Option Rho} {body : MS} {ds : List D} {ρ ρ' : Rho} (h : src ρ = some (.val ds ρ')) : forS src b body ρ = loopS b body ds ρ' := by simp only [forS, bindES, h]
theorem ifs_val {t : M Bool} {f g : MS} {b : Bool} {ρ ρ' : Rho} (h : t ρ = some (.val b ρ')) : ifS t f g ρ = if b = true then f ρ' else g ρ' := by
  cases b <;> simp [ifS, bindES, h]
def F_law_at : Fn := pureF fun ds => match ds with | [.lst l, .int k] => (match asInts l with | some l => if 0 ≤ k ∧ l.length ≤ 1000 then some (.dt (.int (l.getD k.toNat 0))) else none | none => none) | _ => none
def mix (cell k : Int) : Int := (((cell * 1103515245 + 7919 * k * k + k + 1) % 2147483647) * ((cell * 1103515245 + 7919 * k * k + k + 1) % 2147483647) + 69621) % 2147483629 * 48271 % 2147483587
def F_law_mixed : Fn := pureF fun ds => match ds with | [.int c, .int k] => if 0 ≤ c ∧ c < 2147483648 ∧ 0 ≤ k ∧ k < 2147483648 then some (.dt (.int (mix c k))) else none | _ => none
structure Pz where (a b c : Int)
def Pz.L (p : Pz) : List D := [.int p.a, .int p.b, .int p.c]
def decP : List D → Option Pz | [.int a, .int b, .int c] => some ⟨a, b, c⟩ | _ => none
def purse (l : List Int) (at_ : Int) : Pz := ⟨(if 0 > l.getD at_.toNat 0 - 10 ^ 18 then 0 else l.getD at_.toNat 0 - 10 ^ 18) % (10 ^ 60) ^ 10, l.getD at_.toNat 0 % 2147483647, 1000 * at_⟩
def F_law_purse : Fn := pureF fun ds => match ds with | [.lst l, .int k] => (match asInts l with | some l => if 0 ≤ k ∧ k < 1000 ∧ l.length ≤ 1000 then some (.ol (purse l k).L) else none | none => none) | _ => none
def Pz.r (p : Pz) (n : Int) : Int := if p.a > 0 then p.a % n else mix p.b (p.c + 1) % n
def Pz.n (p : Pz) (n : Int) : Pz := if p.a > 0 then ⟨p.a / n, p.b, p.c⟩ else ⟨p.a, p.b, p.c + 1⟩
/-- k more draws can be made -/
def Pz.ok (p : Pz) (k : Nat) : Prop := 0 ≤ p.a ∧ 0 ≤ p.b ∧ p.b < 2147483648 ∧ 0 ≤ p.c ∧ p.c + k < 1000000000
instance (p : Pz) (k : Nat) : Decidable (p.ok k) := by unfold Pz.ok; infer_instance
theorem Pz.ok.next {p : Pz} {k : Nat} (h : p.ok (k + 1)) (n : Int) (hn : 0 < n) : (p.n n).ok k := by
  obtain ⟨h1, h2, h3, h4, h5⟩ := h
  unfold Pz.n
  split
  · exact ⟨Int.ediv_nonneg h1 (by omega), h2, h3, h4, by simp only; omega⟩
  · exact ⟨h1, h2, h3, by simp only; omega, by simp only; omega⟩
theorem Pz.ok.le {p : Pz} {k j : Nat} (h : p.ok k) (l : j ≤ k) : p.ok j := ⟨h.1, h.2.1, h.2.2.1, h.2.2.2.1, by have := h.2.2.2.2; omega⟩
theorem Pz.r_lt (p : Pz) {n : Int} (hn : 0 < n) : 0 ≤ p.r n ∧ p.r n < n := by
  unfold Pz.r
  split
  · exact ⟨Int.emod_nonneg _ (by omega), Int.emod_lt_of_pos _ hn⟩
  · exact ⟨Int.emod_nonneg _ (by omega), Int.emod_lt_of_pos _ hn⟩
def F_law_draw : Fn := ownF fun xs ds => match decP xs, ds with | some p, [.int n] => if p.ok 1 ∧ 0 < n ∧ n < 1000000 then some (.dt (.int (p.r n)), (p.n n).L) else none | _, _ => none
end BK

/-! the draws walked -/
namespace BK
open PySem L2 BT
def top (i : Nat) : Stmt := PySem.Challenge.pw_backthen_k04_errors_and_their_fields.main.body.getD i (.Pass ⟨0, 0, 0, 0⟩)
structure Tx (K : PySem.W.Frag) (mg : Str → Option Value) : Prop where
  n_len : mg "len" = none
  n_max : mg "max" = none
  n_min : mg "min" = none
  n_isinstance : mg "isinstance" = none
  n_range : mg "range" = none
  n_enumerate : mg "enumerate" = none
  n_ValueError : mg "ValueError" = none
section
variable {P : Program} {w : World} {K : PySem.W.Frag} {mg : Str → Option Value} {base : Heap}
/-! ### _law_at -/
def m__law_at : MS := seqS (ifS (toB (bin2 (mVar 1) (mCall lenD (consA (mVar 0) (nilA))) ltD)) (retS (bin2 (mVar 0) (mVar 1) ixM)) (nxS)) (retS (mC (.int 0)))
theorem sc__law_at : FnScope ["script", "k"] ["script", "k"] (defScope (top 24)) := ⟨rfl, rfl, rfl, by decide +kernel, rfl, by decide +kernel, by decide +kernel⟩
theorem run__law_at {f : Addr} {fd : FuncData} (F : Fun K "_law_at" "_law_at" (top 24) f fd) (T : Tx K mg) :
    FnOk P w K mg base CX0 1 f fd ["script", "k"] (fun vs H Q _ => SpF K (runB 2 2 [] m__law_at) vs H Q E00) := by
  have sc := sc__law_at
  refine okF [] F sc (fun pn cdv A outer s H E hpn hr => ?_)
  have hu64 := hr.units
  have hu65 := room65 hr
  have hu1 := hu_of hr
  exact psx_cons (psx_if (pt_c op_lt od_lt (px_var (pv 1)) (px_callB call_lens cd_len (by rfl) T.n_len PySem.boot_len (pax_cons (px_var (pv 0)) (pax_nil))) (nomark _)) (psx_one (psx_ret (px_ix ix_seq od_ix (px_var (pv 0)) (px_var (pv 1)) (fun _ _ => rfl)))) (psx_nil)) (psx_one (psx_ret (px_int)))
/-! ### _law_mixed -/
def m__law_mixed : MS := seqS (asgS 2 (bin2 (bin2 (bin2 (bin2 (bin2 (mVar 0) (mC (.int 1103515245)) mulD) (bin2 (bin2 (mC (.int 7919)) (mVar 1) mulD) (mVar 1) mulD) addD) (mVar 1) addD) (mC (.int 1)) addD) (mC (.int 2147483647)) modD)) (seqS (asgS 2 (bin2 (bin2 (bin2 (mVar 2) (mVar 2) mulD) (mC (.int 69621)) addD) (mC (.int 2147483629)) modD)) (retS (bin2 (bin2 (mVar 2) (mC (.int 48271)) mulD) (mC (.int 2147483587)) modD)))
theorem sc__law_mixed : FnScope ["cell", "k", "mixed"] ["cell", "k"] (defScope (top 25)) := ⟨rfl, rfl, rfl, by decide +kernel, rfl, by decide +kernel, by decide +kernel⟩
theorem run__law_mixed {f : Addr} {fd : FuncData} (F : Fun K "_law_mixed" "_law_mixed" (top 25) f fd) (T : Tx K mg) :
    FnOk P w K mg base CX0 1 f fd ["cell", "k"] (fun vs H Q _ => SpF K (runB 3 2 [] m__law_mixed) vs H Q E00) := by
  have sc := sc__law_mixed
  refine okF [] F sc (fun pn cdv A outer s H E hpn hr => ?_)
  have hu64 := hr.units
  have hu65 := room65 hr
  have hu1 := hu_of hr
  exact psx_cons (psx_set (i := 2) (np hpn (by decide)) sc.nd rfl (by first | exact Or.inl rfl | exact Or.inr rfl) (px_op op_mod od_mod (px_op op_adds od_add (px_op op_adds od_add (px_op op_adds od_add (px_op op_mulW od_mul (px_var (pv 0)) (px_int)) (px_op op_mulW od_mul (px_op op_mulW od_mul (px_int) (px_var (pv 1))) (px_var (pv 1)))) (px_var (pv 1))) (px_int)) (px_int))) (psx_cons (psx_set (i := 2) (np hpn (by decide)) sc.nd rfl (by first | exact Or.inl rfl | exact Or.inr rfl) (px_op op_mod od_mod (px_op op_adds od_add (px_op op_mulW od_mul (px_var (pv 2)) (px_var (pv 2))) (px_int)) (px_int))) (psx_one (psx_ret (px_op op_mod od_mod (px_op op_mulW od_mul (px_var (pv 2)) (px_int)) (px_int)))))
/-! ### _law_purse -/
def m__law_purse : MS := seqS (asgS 2 (callF F_law_at (consA (mVar 0) (consA (mVar 1) (nilA))))) (retS (mLst (consA (bin2 (mCall maxD (consA (bin2 (mVar 2) (bin2 (mC (.int 10)) (mC (.int 18)) powD) subD) (consA (mC (.int 0)) (nilA)))) (bin2 (bin2 (mC (.int 10)) (mC (.int 60)) powD) (mC (.int 10)) powD) modD) (consA (bin2 (mVar 2) (mC (.int 2147483647)) modD) (consA (bin2 (mC (.int 1000)) (mVar 1) mulD) (nilA))))))
theorem sc__law_purse : FnScope ["script", "at", "cell"] ["script", "at"] (defScope (top 26)) := ⟨rfl, rfl, rfl, by decide +kernel, rfl, by decide +kernel, by decide +kernel⟩
theorem run__law_purse {f : Addr} {fd : FuncData} (F : Fun K "_law_purse" "_law_purse" (top 26) f fd) (T : Tx K mg) {f__law_at : Addr} {fd__law_at : FuncData} (G__law_at : FnOk P w K mg base CX0 1 f__law_at fd__law_at ["script", "k"] (fun vs H Q _ => SpF K (F_law_at) vs H Q E00)) (b__law_at : Binds K fd__law_at ["script", "k"] []) (g__law_at : mg "_law_at" = some (.ref f__law_at)) (k__law_at : PySem.W.keepIn K (.ref f__law_at) = true) :
    FnOk P w K mg base CX0 2 f fd ["script", "at"] (fun vs H Q _ => SpF K (runB 3 2 [] m__law_purse) vs H Q E00) := by
  have sc := sc__law_purse
  refine okF [] F sc (fun pn cdv A outer s H E hpn hr => ?_)
  have hu64 := hr.units
  have hu65 := room65 hr
  have hu1 := hu_of hr
  exact psx_cons (psx_set (i := 2) (np hpn (by decide)) sc.nd rfl (by first | exact Or.inl rfl | exact Or.inr rfl) (px_call G__law_at (hr.mono (by decide)) g__law_at k__law_at b__law_at (pax_cons (px_var (pv 0)) (pax_cons (px_var (pv 1)) (pax_nil))))) (psx_one (psx_ret (px_lst (pax_cons (px_op op_mod od_mod (px_callB (call_max2 rfl) cd_max (by rfl) T.n_max (by decide +kernel) (pax_cons (px_op op_sub od_sub (px_var (pv 2)) (px_op op_powW od_pow (px_int) (px_int))) (pax_cons (px_int) (pax_nil)))) (px_op op_powW od_pow (px_op op_powW od_pow (px_int) (px_int)) (px_int))) (pax_cons (px_op op_mod od_mod (px_var (pv 2)) (px_int)) (pax_cons (px_op op_mulW od_mul (px_int) (px_var (pv 1))) (pax_nil)))))))
/-! ### _law_draw -/
def m__law_draw : MS := seqS (ifS (toB (bin2 (ixO 0 (mC (.int 0))) (mC (.int 0)) gtD)) (seqS (asgS 2 (bin2 (ixO 0 (mC (.int 0))) (mVar 1) modD)) (seqS (putM 0 (mC (.int 0)) (bin2 (ixO 0 (mC (.int 0))) (mVar 1) fdivD)) (retS (mMove 2)))) (nxS)) (seqS (putM 0 (mC (.int 2)) (bin2 (ixO 0 (mC (.int 2))) (mC (.int 1)) addD)) (retS (bin2 (callF F_law_mixed (consA (ixO 0 (mC (.int 1))) (consA (ixO 0 (mC (.int 2))) (nilA)))) (mVar 1) modD)))
theorem sc__law_draw : FnScope ["purse", "out_of", "drawn"] ["purse", "out_of"] (defScope (top 27)) := ⟨rfl, rfl, rfl, by decide +kernel, rfl, by decide +kernel, by decide +kernel⟩
theorem run__law_draw {f : Addr} {fd : FuncData} (F : Fun K "_law_draw" "_law_draw" (top 27) f fd) (T : Tx K mg) {f__law_mixed : Addr} {fd__law_mixed : FuncData} (G__law_mixed : FnOk P w K mg base CX0 1 f__law_mixed fd__law_mixed ["cell", "k"] (fun vs H Q _ => SpF K (F_law_mixed) vs H Q E00)) (b__law_mixed : Binds K fd__law_mixed ["cell", "k"] []) (g__law_mixed : mg "_law_mixed" = some (.ref f__law_mixed)) (k__law_mixed : PySem.W.keepIn K (.ref f__law_mixed) = true) :
    FnOk P w K mg base CX0 2 f fd ["purse", "out_of"] (fun vs H Q _ => SpF K (runB 3 2 [0] m__law_draw) vs H Q E00) := by
  have sc := sc__law_draw
  refine okF [0] F sc (fun pn cdv A outer s H E hpn hr => ?_)
  have hu64 := hr.units
  have hu65 := room65 hr
  have hu1 := hu_of hr
  exact psx_cons (psx_if (pt_c op_gt od_gt (px_ixO (pv 0) (px_int) (fun _ _ => rfl)) (px_int) (nomark _)) (psx_cons (psx_set (i := 2) (np hpn (by decide)) sc.nd rfl (by first | exact Or.inl rfl | exact Or.inr rfl) (px_op op_mod od_mod (px_ixO (pv 0) (px_int) (fun _ _ => rfl)) (px_var (pv 1)))) (psx_cons (psx_put (pv 0) (px_int) (px_op op_fdiv od_fdiv (px_ixO (pv 0) (px_int) (fun _ _ => rfl)) (px_var (pv 1))) (fun a b c => ps_asg c (pg_sub a b set_list))) (psx_one (psx_ret (px_move (np hpn (by decide)) (pv 2)))))) (psx_nil)) (psx_cons (psx_put (pv 0) (px_int) (px_op op_adds od_add (px_ixO (pv 0) (px_int) (fun _ _ => rfl)) (px_int)) (fun a b c => ps_asg c (pg_sub a b set_list))) (psx_one (psx_ret (px_op op_mod od_mod (px_call G__law_mixed (hr.mono (by decide)) g__law_mixed k__law_mixed b__law_mixed (pax_cons (px_ixO (pv 0) (px_int) (fun _ _ => rfl)) (pax_cons (px_ixO (pv 0) (px_int) (fun _ _ => rfl)) (pax_nil)))) (px_var (pv 1))))))
end
end BK

/-! the draws: equations -/
namespace BK
open PySem L2 BT
theorem eq_law_at (ds : List D) (s : Sl) (h : (match ds with | [.lst l, .int k] => (match asInts l with | some l => if 0 ≤ k ∧ l.length ≤ 1000 then some (Sl.dt (.int (l.getD k.toNat 0))) else none | none => none) | _ => none) = some s) :
    runB 2 2 [] m__law_at (ds.map .dt) = some (.val s (ds.map .dt)) := by
  split at h
  rotate_left
  · cases h
  rename_i l k
  split at h
  rotate_left
  · cases h
  rename_i is hi
  split at h
  rotate_left
  · cases h
  rename_i c
  cases h
  have el := asInts_eq hi
  subst el
  obtain ⟨n, rfl⟩ := Int.eq_ofNat_of_zero_le c.1
  refine runB_rt (ds := [.lst (is.map .int), .int n]) (ρ' := [.dt (.lst (is.map .int)), .dt (.int n)]) ?_ rfl (by decide)
  show m__law_at [.dt (.lst (is.map .int)), .dt (.int n)] = _
  by_cases lt : n < is.length
  · have a1 : atI (is.map D.int) ((n : Nat) : Int) = some (.int is[n]) := atI_nat (by rw [List.getElem?_map, List.getElem?_eq_getElem lt]; rfl)
    have lt' : ((n : Int) < (is.length : Int)) := by omega
    simp [m__law_at, lt', a1, List.getD_eq_getElem?_getD, List.getElem?_eq_getElem lt]
  · have lt' : ¬ ((n : Int) < (is.length : Int)) := by omega
    have g : is[n]? = none := List.getElem?_eq_none (by omega)
    simp [m__law_at, lt', g]
theorem log_le {n k : Nat} (h : n < 2 ^ k) (hk : 0 < k) : n.log2 < k := by
  by_cases c : n = 0
  · subst c; simpa using hk
  · exact (Nat.log2_lt c).mpr h
theorem eq_law_mixed (ds : List D) (s : Sl) (h : (match ds with | [.int c, .int k] => if 0 ≤ c ∧ c < 2147483648 ∧ 0 ≤ k ∧ k < 2147483648 then some (Sl.dt (.int (mix c k))) else none | _ => none) = some s) :
    runB 3 2 [] m__law_mixed (ds.map .dt) = some (.val s (ds.map .dt)) := by
  split at h
  rotate_left
  · cases h
  rename_i c k
  split at h
  rotate_left
  · cases h
  rename_i q
  cases h
  obtain ⟨c0, c1, k0, k1⟩ := q
  have small : ∀ {x : Int}, 0 ≤ x → x < 2 ^ 100 → x.natAbs.log2 < 100 := fun {x} a b => log_le (by omega) (by decide)
  have n1 : 0 ≤ (c * 1103515245 + 7919 * k * k + k + 1) % 2147483647 := Int.emod_nonneg _ (by decide)
  have n2 : (c * 1103515245 + 7919 * k * k + k + 1) % 2147483647 < 2147483647 := Int.emod_lt_of_pos _ (by decide)
  have n3 := Int.emod_nonneg (((c * 1103515245 + 7919 * k * k + k + 1) % 2147483647) * ((c * 1103515245 + 7919 * k * k + k + 1) % 2147483647) + 69621) (show (2147483629 : Int) ≠ 0 by decide)
  have n4 := Int.emod_lt_of_pos (((c * 1103515245 + 7919 * k * k + k + 1) % 2147483647) * ((c * 1103515245 + 7919 * k * k + k + 1) % 2147483647) + 69621) (show (0 : Int) < 2147483629 by decide)
  have m1 : c.natAbs.log2 + (1103515245 : Int).natAbs.log2 < 1000000 := by
    have := small c0 (by omega); have := small (show (0 : Int) ≤ 1103515245 by decide) (by decide); omega
  have m2 : (7919 : Int).natAbs.log2 + k.natAbs.log2 < 1000000 := by
    have := small k0 (by omega); have := small (show (0 : Int) ≤ 7919 by decide) (by decide); omega
  have m3 : (7919 * k).natAbs.log2 + k.natAbs.log2 < 1000000 := by
    have := small k0 (by omega); have := small (x := 7919 * k) (by omega) (by omega); omega
  have m4 : ((c * 1103515245 + 7919 * k * k + k + 1) % 2147483647).natAbs.log2 + ((c * 1103515245 + 7919 * k * k + k + 1) % 2147483647).natAbs.log2 < 1000000 := by
    have := small n1 (by omega); omega
  have m5 : ((((c * 1103515245 + 7919 * k * k + k + 1) % 2147483647) * ((c * 1103515245 + 7919 * k * k + k + 1) % 2147483647) + 69621) % 2147483629).natAbs.log2 + (48271 : Int).natAbs.log2 < 1000000 := by
    have := small n3 (by omega); have := small (show (0 : Int) ≤ 48271 by decide) (by decide); omega
  refine runB_rt (ds := [.int c, .int k]) (ρ' := [.dt (.int c), .dt (.int k), .dt (.int ((((c * 1103515245 + 7919 * k * k + k + 1) % 2147483647) * ((c * 1103515245 + 7919 * k * k + k + 1) % 2147483647) + 69621) % 2147483629))]) ?_ rfl (by decide)
  show m__law_mixed [.dt (.int c), .dt (.int k), .un] = _
  have m1' : c.natAbs.log2 + Nat.log2 1103515245 < 1000000 := m1
  have m2' : Nat.log2 7919 + k.natAbs.log2 < 1000000 := m2
  have m5' : ((((c * 1103515245 + 7919 * k * k + k + 1) % 2147483647) * ((c * 1103515245 + 7919 * k * k + k + 1) % 2147483647) + 69621) % 2147483629).natAbs.log2 + Nat.log2 48271 < 1000000 := m5
  simp [m__law_mixed, m1', m2', m3, m4, m5', mix]
theorem decP_eq {xs : List D} {p : Pz} (h : decP xs = some p) : xs = p.L := by
  unfold decP at h
  split at h
  · cases h; rfl
  · cases h
theorem eq_law_draw (xs ds : List D) (s : Sl) (ys : List D) (h : (match decP xs, ds with | some p, [.int n] => if p.ok 1 ∧ 0 < n ∧ n < 1000000 then some (Sl.dt (.int (p.r n)), (p.n n).L) else none | _, _ => none) = some (s, ys)) :
    runB 3 2 [0] m__law_draw (.ol xs :: ds.map .dt) = some (.val s (.ol ys :: ds.map .dt)) := by
  split at h
  rotate_left
  · cases h
  rename_i p n hp
  split at h
  rotate_left
  · cases h
  rename_i c
  cases h
  have ex := decP_eq hp
  subst ex
  obtain ⟨⟨h1, h2, h3, h4, h5⟩, n0, n1⟩ := c
  have big : n < 1073741824 := by omega
  have a0 : atI [D.int p.a, .int p.b, .int p.c] 0 = some (.int p.a) := rfl
  have a1 : atI [D.int p.a, .int p.b, .int p.c] 1 = some (.int p.b) := rfl
  have a2 : atI [D.int p.a, .int p.b, .int p.c] 2 = some (.int p.c) := rfl
  by_cases c : 0 < p.a
  · have r : p.r n = p.a % n := if_pos c
    have q : p.n n = ⟨p.a / n, p.b, p.c⟩ := if_pos c
    rw [r, q]
    simp [runB, m__law_draw, Pz.L, a0, c, n0, big, ixN]
  · have r : p.r n = mix p.b (p.c + 1) % n := if_neg c
    have q : p.n n = ⟨p.a, p.b, p.c + 1⟩ := if_neg c
    have b1 : atI [D.int p.a, .int p.b, .int (p.c + 1)] 1 = some (.int p.b) := rfl
    have b2 : atI [D.int p.a, .int p.b, .int (p.c + 1)] 2 = some (.int (p.c + 1)) := rfl
    have cond : 0 ≤ p.b ∧ p.b < 2147483648 ∧ 0 ≤ p.c + 1 ∧ p.c + 1 < 2147483648 := ⟨h2, h3, by omega, by omega⟩
    have M : F_law_mixed [.dt (.int p.b), .dt (.int (p.c + 1))] = some (.val (.dt (.int (mix p.b (p.c + 1)))) [.dt (.int p.b), .dt (.int (p.c + 1))]) := by
      simp [F_law_mixed, pureF, cond]
    rw [r, q]
    simp [runB, m__law_draw, Pz.L, a0, a2, b1, b2, c, n0, callF, M, ixN]
theorem F_at_app {is : List Int} {n : Nat} (h : is.length ≤ 1000) : F_law_at [.dt (.lst (is.map .int)), .dt (.int n)] = some (.val (.dt (.int (is.getD n 0))) [.dt (.lst (is.map .int)), .dt (.int n)]) := by
  simp [F_law_at, pureF, asInts_mapI, h]
theorem bin2_ol {f g : M Sl} {k : D → D → M Sl} {xs ys : List D} {ρ : Rho} (h1 : f ρ = some (.val (.ol xs) ρ)) (h2 : g ρ = some (.val (.ol ys) ρ)) : bin2 f g k ρ = k (.lst xs) (.lst ys) ρ := by
  simp only [bin2, bindD, bindM, h1, h2, Sl.frz]
theorem F_draw_app {p : Pz} {n : Int} (h : p.ok 1) (n0 : 0 < n) (n1 : n < 1000000) : F_law_draw [.ol p.L, .dt (.int n)] = some (.val (.dt (.int (p.r n))) [.ol (p.n n).L, .dt (.int n)]) := by
  simp [F_law_draw, ownF, dts, decP, Pz.L, h, n0, n1]
def pick (l : List Str) (i : Int) : Str := l.getD i.toNat ""
theorem atI_pick {l : List Str} {i : Int} (h0 : 0 ≤ i) (h1 : i < l.length) : atI (l.map D.str) i = some (.str (pick l i)) := by
  obtain ⟨k, rfl⟩ := Int.eq_ofNat_of_zero_le h0
  have lt : k < l.length := by omega
  refine atI_nat ?_
  rw [List.getElem?_map, List.getElem?_eq_getElem lt]
  show some (D.str _) = some (D.str (l.getD k ""))
  rw [List.getD_eq_getElem?_getD, List.getElem?_eq_getElem lt]
  rfl
def isL (l : List D) (s : Sl) : Prop := s = .ol l ∨ s = .dt (.lst l)
theorem mVar_isL {l : List D} {i : Nat} {s : Sl} {ρ : Rho} (h : isL l s) (hi : ρ[i]? = some s) : mVar i ρ = some (.val (.dt (.lst l)) (ρ.set i (.dt (.lst l)))) := by
  rcases h with rfl | rfl
  · simp [mVar, hi]
  · simp [mVar, hi]
    exact (List.set_getElem_self (by exact (List.getElem?_eq_some_iff.mp hi).1)).symm.trans (by congr 1; exact ((List.getElem?_eq_some_iff.mp hi).2))
theorem cut_to {α : Type} (xs : List α) (n : Nat) : cutD xs none (some (n : Int)) = xs.take n := by
  unfold cutD
  rw [HT.sIx_none, HT.sIx_nat, List.drop_zero, Nat.sub_zero]
  rcases Nat.le_total n xs.length with h | h
  · rw [Nat.min_eq_left h]
  · rw [Nat.min_eq_right h, List.take_length, List.take_of_length_le h]
theorem cut_from {α : Type} (xs : List α) (n : Nat) : cutD xs (some (n : Int)) none = xs.drop n := by
  unfold cutD
  rw [HT.sIx_none, HT.sIx_nat]
  rcases Nat.le_total n xs.length with h | h
  · rw [Nat.min_eq_left h, List.take_of_length_le (by rw [List.length_drop]; omega)]
  · rw [Nat.min_eq_right h, List.drop_length, List.take_nil, List.drop_eq_nil_of_le h]
theorem small62 {n : Nat} (h : n ≤ 1000) : -(2 ^ 62) ≤ (n : Int) ∧ (n : Int) < 2 ^ 62 := ⟨by omega, by omega⟩
theorem rangeM1_val {f : M Sl} {ρ : Rho} {n : Nat} (h : f ρ = some (.val (.dt (.int (n : Nat))) ρ)) (c : -(2 ^ 62) ≤ (n : Int) ∧ (n : Int) < 2 ^ 62) : rangeM1 (consA f nilA) ρ = some (.val (rangeD 0 n) ρ) := by
  show (bindM (consA f nilA) _) ρ = _
  unfold bindM
  rw [one_arg h]
  exact if_pos c
theorem callO_at {F : Fn} {j : Nat} {fs : M (List D)} {xs ys es : List D} {s : Sl} {r ρ : Rho} (h0 : ρ[j]? = some (.ol xs)) (h1 : fs ρ = some (.val es ρ)) (h2 : F (.ol xs :: es.map .dt) = some (.val s (.ol ys :: r))) : callO F j fs ρ = some (.val s (ρ.set j (.ol ys))) := by
  simp only [callO, h0, bindM, h1, h2]
theorem bin2_st {f g : M Sl} {k : D → D → M Sl} {s t : Sl} {d e : D} {ρ ρ' ρ2 : Rho} (h1 : f ρ = some (.val s ρ')) (z1 : s.frz = some d) (h2 : g ρ' = some (.val t ρ2)) (z2 : t.frz = some e) : bin2 f g k ρ = k d e ρ2 := by
  simp only [bin2, bindD, bindM, h1, h2, z1, z2]
theorem orT_f {f g : M Bool} {ρ ρ' : Rho} (h : f ρ = some (.val false ρ')) : orT f g ρ = g ρ' := by simp only [orT, bindM, h]; rfl
theorem orT_t {f g : M Bool} {ρ ρ' : Rho} (h : f ρ = some (.val true ρ')) : orT f g ρ = some (.val true ρ') := by simp only [orT, bindM, h]; rfl
theorem toB_st {f : M Sl} {b : Bool} {ρ ρ' : Rho} (h : f ρ = some (.val (.dt (.bl b)) ρ')) : toB f ρ = some (.val b ρ') := by simp only [toB, bindD, bindM, h, Sl.frz]
theorem eqI {i : Nat} {a : Nat} {ρ : Rho} (b : Nat) (c : Int) (hc : c = (b : Nat)) (h : ρ[i]? = some (.dt (.int (a : Nat)))) : toB (bin2 (mVar i) (mC (.int c)) eqM) ρ = some (.val (decide (a = b)) ρ) := by
  subst hc
  refine toB_val ((bin2_val (var_val h) rfl).trans ?_)
  show some (Rs.val (Sl.dt (D.bl (decide ((a : Int) = (b : Int))))) ρ) = _
  have : decide ((a : Int) = (b : Int)) = decide (a = b) := by rw [decide_eq_decide]; omega
  rw [this]
def sD : Sl → D | .un => .non | .dt d => d | .ol l => .lst l
def isD : Sl → Bool | .un => false | _ => true
theorem sD_frz {s : Sl} (h : isD s = true) : s.frz = some (sD s) := by
  cases s with
  | un => cases h
  | _ => rfl
theorem callO_st {F : Fn} {j : Nat} {fs : M (List D)} {xs ys zs es : List D} {s : Sl} {r ρ ρ' : Rho} (h0 : ρ[j]? = some (.ol zs)) (h1 : fs ρ = some (.val es ρ')) (h3 : ρ'[j]? = some (.ol xs)) (h2 : F (.ol xs :: es.map .dt) = some (.val s (.ol ys :: r))) : callO F j fs ρ = some (.val s (ρ'.set j (.ol ys))) := by
  simp only [callO, h0, bindM, h1, h3, h2]
theorem var_any {i : Nat} {s : Sl} {ρ : Rho} (h : ρ[i]? = some s) (hs : isD s = true) : mVar i ρ = some (.val (.dt (sD s)) (ρ.set i (.dt (sD s)))) := by
  cases s with
  | un => cases hs
  | dt d =>
    simp only [mVar, h, sD]
    rw [show ρ.set i (.dt d) = ρ from by
      have := (List.getElem?_eq_some_iff.mp h).2
      conv => rhs; rw [← List.set_getElem_self (List.getElem?_eq_some_iff.mp h).1]
      rw [this]]
  | ol l => simp only [mVar, h, sD]
theorem one_st {f : M Sl} {s : Sl} {d : D} {ρ ρ' : Rho} (h : f ρ = some (.val s ρ')) (z : s.frz = some d) : consA f nilA ρ = some (.val [d] ρ') := by simp only [consA, bindD, bindM, h, z, nilA]
theorem loopS_nx {b : D → Rho → Option Rho} {body : MS} {d : D} {ds : List D} {ρ ρ1 ρ2 : Rho} (h1 : b d ρ = some ρ1) (h2 : body ρ1 = some (.nx ρ2)) : loopS b body (d :: ds) ρ = loopS b body ds ρ2 := by simp only [loopS, h1, h2]
theorem callF_val {F : Fn} {fs : M (List D)} {ds : List D} {s : Sl} {r ρ ρ' : Rho} (h1 : fs ρ = some (.val ds ρ')) (h2 : F (ds.map .dt) = some (.val s r)) : callF F fs ρ = some (.val s ρ') := by
  simp only [callF, bindM, h1, h2]
theorem seq_same {f g : MS} {ρ ρ' : Rho} (h : f ρ = f ρ') : seqS f g ρ = seqS f g ρ' := by simp only [seqS, h]
theorem purse_ok (l : List Int) {k : Int} (h0 : 0 ≤ k) (h1 : k < 1000) : (purse l k).ok 1000 := by
  have e : purse l k = ⟨(if 0 > l.getD k.toNat 0 - 10 ^ 18 then 0 else l.getD k.toNat 0 - 10 ^ 18) % (10 ^ 60) ^ 10, l.getD k.toNat 0 % 2147483647, 1000 * k⟩ := rfl
  rw [e]
  have pos : (0 : Int) < (10 ^ 60) ^ 10 := by decide +kernel
  refine ⟨Int.emod_nonneg _ (Int.ne_of_gt pos), Int.emod_nonneg _ (by decide), ?_, ?_, ?_⟩
  · show l.getD k.toNat 0 % 2147483647 < 2147483648
    have := Int.emod_lt_of_pos (l.getD k.toNat 0) (b := 2147483647) (by decide)
    omega
  · show 0 ≤ 1000 * k
    omega
  · show 1000 * k + 1000 < 1000000000
    omega
theorem cons_val {f : M Sl} {g : M (List D)} {d : D} {ds : List D} {ρ : Rho} (h1 : f ρ = some (.val (.dt d) ρ)) (h2 : g ρ = some (.val ds ρ)) : consA f g ρ = some (.val (d :: ds) ρ) := by simp only [consA, bindD, bindM, h1, Sl.frz, h2]
theorem addL {xs ys : List D} {ρ : Rho} (h : xs.length + ys.length ≤ 1000) : addD (.lst xs) (.lst ys) ρ = some (.val (.ol (xs ++ ys)) ρ) := if_pos (line_big h)
theorem tup1 {f : M Sl} {s : Sl} {d : D} {ρ ρ' : Rho} (h : f ρ = some (.val s ρ')) (z : s.frz = some d) : mTup (consA f nilA) ρ = some (.val (.dt (.tup [d])) ρ') := by
  have z1 : 1 ≤ sizeLine := line_big (by decide)
  simp only [mTup, bindM, one_st h z, shortL, List.length_singleton]
  rw [if_pos z1]; rfl
theorem tup2 {f g : M Sl} {s : Sl} {d e : D} {ρ ρ' : Rho} (h1 : f ρ = some (.val (.dt d) ρ)) (h2 : g ρ = some (.val s ρ')) (z : s.frz = some e) : mTup (consA f (consA g nilA)) ρ = some (.val (.dt (.tup [d, e])) ρ') := by
  have z2 : 2 ≤ sizeLine := line_big (by decide)
  have c : consA f (consA g nilA) ρ = some (.val [d, e] ρ') := by
    have o := one_st h2 z
    show (bindD f fun d => bindM (consA g nilA) fun ds ρ => some (.val (d :: ds) ρ)) ρ = _
    simp only [bindD, bindM, h1, Sl.frz, o]
  simp only [mTup, bindM, c, shortL, List.length_cons, List.length_nil]
  rw [if_pos z2]; rfl
theorem eq_law_purse (ds : List D) (s : Sl) (h : (match ds with | [.lst l, .int k] => (match asInts l with | some l => if 0 ≤ k ∧ k < 1000 ∧ l.length ≤ 1000 then some (Sl.ol (purse l k).L) else none | none => none) | _ => none) = some s) :
    runB 3 2 [] m__law_purse (ds.map .dt) = some (.val s (ds.map .dt)) := by
  split at h
  rotate_left
  · cases h
  rename_i l k
  split at h
  rotate_left
  · cases h
  rename_i is hi
  split at h
  rotate_left
  · cases h
  rename_i c
  cases h
  have el := asInts_eq hi
  subst el
  obtain ⟨k0, k1, hl⟩ := c
  obtain ⟨n, rfl⟩ := Int.eq_ofNat_of_zero_le k0
  have p1 : ∀ ρ, powD (.int 10) (.int 18) ρ = some (.val (.dt (.int (10 ^ 18))) ρ) := fun ρ => rfl
  have b2 : (Builtin.Int.intBits 10 : Int) * 60 ≤ 2 ^ 27 := by decide +kernel
  have b3 : (Builtin.Int.intBits (10 ^ 60) : Int) * 10 ≤ 2 ^ 27 := by decide +kernel
  have p2 : ∀ ρ, powD (.int 10) (.int 60) ρ = some (.val (.dt (.int (10 ^ 60))) ρ) := fun ρ => by
    show (optD (if 0 ≤ (60 : Int) ∧ (Builtin.Int.intBits 10 : Int) * 60 ≤ 2 ^ 27 then some (.int (10 ^ 60)) else none)) ρ = _
    rw [if_pos ⟨by decide, b2⟩]; rfl
  have p3 : ∀ ρ, powD (.int (10 ^ 60)) (.int 10) ρ = some (.val (.dt (.int ((10 ^ 60) ^ 10))) ρ) := fun ρ => by
    show (optD (if 0 ≤ (10 : Int) ∧ (Builtin.Int.intBits (10 ^ 60) : Int) * 10 ≤ 2 ^ 27 then some (.int ((10 ^ 60) ^ 10)) else none)) ρ = _
    rw [if_pos ⟨by decide, b3⟩]; rfl
  refine runB_rt (ds := [.lst (is.map .int), .int n]) (ρ' := [.dt (.lst (is.map .int)), .dt (.int n), .dt (.int (is.getD n 0))]) ?_ rfl (by decide)
  show m__law_purse [.dt (.lst (is.map .int)), .dt (.int n), .un] = _
  generalize hρ : [Sl.dt (.lst (is.map .int)), .dt (.int n), .un] = ρ0
  generalize hρ' : [Sl.dt (.lst (is.map .int)), .dt (.int n), .dt (.int (is.getD n 0))] = ρ1
  have A : callF F_law_at (consA (mVar 0) (consA (mVar 1) nilA)) ρ0 = some (.val (.dt (.int (is.getD n 0))) ρ0) := by
    subst hρ
    simp [callF, F_at_app hl]
  unfold m__law_purse
  rw [seq_nx (ρ' := ρ1) ((asg_val A (by subst hρ; simp)).trans (by subst hρ hρ'; rfl))]
  refine ret_val ?_
  have v1 : mVar 1 ρ1 = some (.val (.dt (.int n)) ρ1) := var_val (by subst hρ'; rfl)
  have v2 : mVar 2 ρ1 = some (.val (.dt (.int (is.getD n 0))) ρ1) := var_val (by subst hρ'; rfl)
  have ci : ∀ i : Int, mC (.int i) ρ1 = some (.val (.dt (.int i)) ρ1) := fun i => rfl
  have e1 := (bin2_val (k := powD) (ci 10) (ci 18)).trans (p1 ρ1)
  have e2 := (bin2_val (k := powD) (ci 10) (ci 60)).trans (p2 ρ1)
  have e3 := (bin2_val (k := powD) e2 (ci 10)).trans (p3 ρ1)
  have e4 : bin2 (mVar 2) (bin2 (mC (.int 10)) (mC (.int 18)) powD) subD ρ1 = some (.val (.dt (.int (is.getD n 0 - 10 ^ 18))) ρ1) := (bin2_val (k := subD) v2 e1).trans rfl
  have e5 : mCall maxD (consA (bin2 (mVar 2) (bin2 (mC (.int 10)) (mC (.int 18)) powD) subD) (consA (mC (.int 0)) nilA)) ρ1 = some (.val (.dt (.int (if 0 > is.getD n 0 - 10 ^ 18 then 0 else is.getD n 0 - 10 ^ 18))) ρ1) := by
    simp only [mCall, consA, bindD, bindM, e4, Sl.frz, nilA, ci]
    rfl
  have pos : (0 : Int) < (10 ^ 60) ^ 10 := by decide +kernel
  have e6 := (bin2_val (k := modD) e5 e3).trans (show _ = some (.val (.dt (.int ((if 0 > is.getD n 0 - 10 ^ 18 then 0 else is.getD n 0 - 10 ^ 18) % (10 ^ 60) ^ 10))) ρ1) from by
    show (optD (if 0 < ((10 : Int) ^ 60) ^ 10 then some (.int ((if 0 > is.getD n 0 - 10 ^ 18 then 0 else is.getD n 0 - 10 ^ 18) % (10 ^ 60) ^ 10)) else none)) ρ1 = _
    rw [if_pos pos]; rfl)
  have e7 := (bin2_val (k := modD) v2 (ci 2147483647)).trans (show _ = some (.val (.dt (.int (is.getD n 0 % 2147483647))) ρ1) from rfl)
  have lg : (1000 : Int).natAbs.log2 + (n : Int).natAbs.log2 < 1000000 := by
    have : n.log2 < 20 := log_le (by omega) (by decide)
    have : (1000 : Int).natAbs.log2 < 20 := log_le (by decide) (by decide)
    show _ + n.log2 < _
    omega
  have e8 := (bin2_val (k := mulD) (ci 1000) v1).trans (show _ = some (.val (.dt (.int (1000 * (n : Int)))) ρ1) from by
    show (optD (if (1000 : Int).natAbs.log2 + (n : Int).natAbs.log2 < 1000000 then some (.int (1000 * (n : Int))) else none)) ρ1 = _
    rw [if_pos lg]; rfl)
  have z3 : 3 ≤ sizeLine := line_big (by decide)
  have g : purse is (n : Int) = ⟨(if 0 > is.getD n 0 - 10 ^ 18 then 0 else is.getD n 0 - 10 ^ 18) % (10 ^ 60) ^ 10, is.getD n 0 % 2147483647, 1000 * n⟩ := rfl
  rw [g]
  simp only [mLst, consA, bindD, bindM, e6, e7, e8, nilA, Sl.frz]
  simp only [shortL, List.length_cons, List.length_nil]
  rw [if_pos z3]
  rfl
theorem runB_exc {n np : Nat} {m : MS} {ds : List D} {x : Ex} {ρ' : Rho} (h : m (ds.map .dt ++ List.replicate (n - np) .un) = some (.exc x ρ')) (hl : ds.length = np) (hn : np ≤ n) : runB n np [] m (ds.map .dt) = some (.exc x (ds.map .dt)) := by
  unfold runB
  rw [if_pos ⟨by rw [List.length_map]; exact hl, hn, modeOk_dt ds 0⟩, h]
  simp only [backA_dt]
theorem runB_nx {n np : Nat} {m : MS} {ds : List D} {ρ' : Rho} (h : m (ds.map .dt ++ List.replicate (n - np) .un) = some (.nx ρ')) (hl : ds.length = np) (hn : np ≤ n) : runB n np [] m (ds.map .dt) = some (.val (.dt .non) (ds.map .dt)) := by
  unfold runB
  rw [if_pos ⟨by rw [List.length_map]; exact hl, hn, modeOk_dt ds 0⟩, h]
  simp only [backA_dt]
theorem seq_exc {f g : MS} {ρ ρ' : Rho} {x : Ex} (h : f ρ = some (.exc x ρ')) : seqS f g ρ = some (.exc x ρ') := by simp only [seqS, h]
theorem dropS_val {f : M Sl} {s : Sl} {ρ ρ' : Rho} (h : f ρ = some (.val s ρ')) : dropS f ρ = some (.nx ρ') := by simp only [dropS, bindES, h]
theorem dropS_exc {f : M Sl} {x : Ex} {ρ ρ' : Rho} (h : f ρ = some (.exc x ρ')) : dropS f ρ = some (.exc x ρ') := by simp only [dropS, bindES, h]
/-! ### relations_of -/
theorem cons_st {f : M Sl} {g : M (List D)} {s : Sl} {d : D} {ds : List D} {ρ ρ' ρ2 : Rho} (h1 : f ρ = some (.val s ρ')) (z : s.frz = some d) (h2 : g ρ' = some (.val ds ρ2)) : consA f g ρ = some (.val (d :: ds) ρ2) := by simp only [consA, bindD, bindM, h1, z, h2]
theorem F_purse_app {l : List Int} {k : Int} (h0 : 0 ≤ k) (h1 : k < 1000) (hl : l.length ≤ 1000) : F_law_purse [.dt (.lst (l.map .int)), .dt (.int k)] = some (.val (.ol (purse l k).L) [.dt (.lst (l.map .int)), .dt (.int k)]) := by
  simp [F_law_purse, pureF, dts, asInts_mapI, h0, h1, hl]
end BK

/-! the errors of the package: what is known of their classes -/
namespace BK
open PySem PySem.Spec PyProof.Rows L2 BT
def veTail : List Value := [.type "ValueError", .type "Exception", .type "BaseException", .type "object"]
/-- what every class of the package's errors is -/
structure Ec (K : PySem.W.Frag) (bm : List Value) (C : Addr) : Prop where
  ox : ∃ nm q N bs sn sub ab col dd k0 k1 k2 k3 k5, K.lookup C = some (excClassObj nm q C N bs bm true sn sub ab col dd k0 k1 k2 k3 k5 "ValueError.__new__")
  sa : PySem.W.findIn K (.ref C) "__setattr__" = some (some (.builtin "object.__setattr__"))
  ga : PySem.W.findIn K (.ref C) "__getattribute__" = some (some (.builtin "BaseException.__getattribute__"))
  gg : PySem.W.findIn K (.ref C) "__getattr__" = some none
  cc : PySem.W.findIn K (.ref C) "__class__" = some (some (.builtin "object.__class__"))
  k : PySem.W.keepIn K (.ref C) = true
section
variable {K : PySem.W.Frag} {bm : List Value} {C D : Addr}
theorem Ec.cls (E : Ec K bm C) : ∃ cd, PySem.W.clsIn K C = some cd ∧ cd.mro = .ref C :: bm ∧ cd.hasDict = true := by
  obtain ⟨nm, q, N, bs, sn, sub, ab, col, dd, k0, k1, k2, k3, k5, h⟩ := E.ox
  unfold PySem.W.clsIn
  rw [h]
  exact ⟨_, rfl, rfl, rfl⟩
theorem Ec.ty (E : Ec K bm C) : PySem.W.typeIn K (.ref C) = some (.type "type") := by
  obtain ⟨nm, q, N, bs, sn, sub, ab, col, dd, k0, k1, k2, k3, k5, h⟩ := E.ox
  show (K.lookup C).map (·.cls) = _
  rw [h]
  rfl
theorem Ec.mro (E : Ec K bm C) (b : Value) : PySem.W.subIn K (.ref C) b = some ((Value.ref C :: bm).contains b) := by
  obtain ⟨cd, h1, h2, _⟩ := E.cls
  show PySem.W.mroIn K C b = _
  unfold PySem.W.mroIn
  rw [h1]
  simp only [Option.bind_some, h2]
  rfl
theorem Ec.exf (E : Ec K bm C) (hb : bm.contains (.type "BaseException") = true) (ho : bm.contains (.type "object") = true) (nn : PySem.W.specialIn K (.builtin "object.__class__") "__get__" = some (some (.builtin "getset_descriptor.__get__")))
    (tk : PySem.W.takesIn K (.builtin "object.__class__") = some true) : ExF K C := by
  obtain ⟨cd, h1, h2, h3⟩ := E.cls
  refine ⟨by rw [h1]; rfl, E.ga, E.gg, ?_, E.cc, nn, tk, ?_, ?_⟩
  · rw [E.mro, List.contains_cons, hb, Bool.or_true]
  · have := E.mro (.type "object")
    rw [List.contains_cons, ho, Bool.or_true] at this
    exact this
  · unfold PySem.W.hasDictIn
    rw [h1]
    exact h3
theorem Ec.oex (E : Ec K bm C) (hb : bm.contains (.type "BaseException") = true) (hr : PySem.HandSPX.refsVE bm = true) : OexC K C := by
  obtain ⟨nm, q, N, bs, sn, sub, ab, col, dd, k0, k1, k2, k3, k5, h⟩ := E.ox
  exact ⟨⟨nm, q, N, bs, bm, sn, sub, ab, col, dd, k0, k1, k2, k3, k5, h, hr⟩, E.sa, by rw [E.mro, List.contains_cons, hb, Bool.or_true], E.ty, E.k⟩
theorem ref_beq (a b : Addr) : (Value.ref a == Value.ref b) = decide (a = b) := by
  by_cases h : a = b
  · subst h; simp
  · have : ¬ Value.ref a = Value.ref b := fun e => h (by cases e; rfl)
    rw [decide_eq_false h]; exact beq_false_of_ne this
theorem Ec.kit {bmD : List Value} (E : Ec K bm C) (F : Ec K bmD D) : PySem.W.kitOne K (.ref C) (.ref D) = some ((Value.ref C :: bm).contains (.ref D)) := by
  unfold PySem.W.kitOne
  by_cases h : C = D
  · subst h
    rw [if_pos (beq_self_eq_true _)]
    simp
  · rw [if_neg (by rw [ref_beq]; simpa using h)]
    obtain ⟨cd, h1, _, _⟩ := F.cls
    show (if ((PySem.W.clsIn K D).isSome && PySem.W.typeIn K (.ref D) == some (.type "type")) = true then PySem.W.subIn K (.ref C) (.ref D) else none) = _
    rw [h1, F.ty, if_pos (by rfl), E.mro]
theorem Ec.kitV (E : Ec K bm C) (hv : bm.contains (.type "ValueError") = true) : PySem.W.kitOne K (.ref C) (.type "ValueError") = some true := by
  unfold PySem.W.kitOne
  rw [if_neg (by intro h; cases eq_of_beq h)]
  show (if PySem.W.kitMeta "ValueError" = true then PySem.W.subIn K (.ref C) (.type "ValueError") else none) = _
  rw [if_pos (by decide +kernel), E.mro, List.contains_cons, hv, Bool.or_true]
theorem kitVT {TE : Addr} (E : Ec K bm TE) : PySem.W.kitOne K (.type "ValueError") (.ref TE) = some false := by
  unfold PySem.W.kitOne
  rw [if_neg (by intro h; cases eq_of_beq h)]
  obtain ⟨cd, h1, _, _⟩ := E.cls
  show (if ((PySem.W.clsIn K TE).isSome && PySem.W.typeIn K (.ref TE) == some (.type "type")) = true then PySem.W.subIn K (.type "ValueError") (.ref TE) else none) = _
  rw [h1, E.ty, if_pos (by rfl)]
  show (fastBuiltinMro "ValueError").map (·.contains (Value.ref TE)) = _
  have e : fastBuiltinMro "ValueError" = some veTail := by decide +kernel
  rw [e]
  rfl
end
/-- an error with a field -/
structure Mkr (P : Program) (w : World) (K : PySem.W.Frag) (mg : Str → Option Value) (base : Heap) (C : Addr) (f : Str) : Prop where
  oex : OexC K C
  no : PySem.W.findIn K (.ref C) f = some none
  ex : ∃ (fI : Addr) (fd : FuncData), PySem.W.findIn K (.ref C) "__init__" = some (some (.ref fI)) ∧ PySem.W.typeIn K (.ref fI) = some (.type "function") ∧ FnOk P w K mg base CX0 1 fI fd ["self", f] (SpIni C f) ∧
    Binds K fd ["self", f] [] ∧ (∀ (s : Shared) (a : Addr) (ws : List Value), K.In s.heap → ws.length + 1 = 2 → BindsTo s fd ⟨[.ref a], ([f] : List Str).zip ws⟩ ((["self", f] : List Str).zip (.ref a :: ws))) ∧ ∃ ds, Vals [V.non] ds ∧ Binds K fd ["self", f] ds
section
variable {X : Cx} {pn : List (Nat × Addr)} {E : XK} {pos p : Pos} {x : Str} {C : Addr} {f : Str}
theorem px_mk1 {e : Expr} {m : M (List D)} (M : Mkr X.prog X.w X.K X.mg X.base C f) (hr : Room 2 X.A) (hm : X.mg x = some (.ref C)) (he : PA X [e] (tA X.K pn E m)) (hg : Gl X x := by rfl)
    (hdb : (x == ("__debug__" : Str)) = false := by decide) (hs : starEach (e :: []) X.env = (false, eval e X.env) :: starEach [] X.env := by rfl) (hpl : (backTo pos (starEach [] X.env)).any (·.1) = false := by rfl) :
    PE X (.Call (.Name x p) [e] [] pos) (tE X.K pn E (mkX C f m)) := by
  obtain ⟨T, no, fI, fd, iC, tI, F, b1, b2, ds, vd, b3⟩ := M
  exact px_mkx T iC tI F hr b1 hm he hg hdb hs hpl
theorem px_mk1K {kws : List Keyword} {m : M (List D)} (M : Mkr X.prog X.w X.K X.mg X.base C f) (hr : Room 2 X.A) (hm : X.mg x = some (.ref C)) (hkw : PK X kws (tA X.K pn E m)) (hg : Gl X x := by rfl) (hall : (backToKw pos (keywordEach kws X.env)).all (·.1.isSome) = true := by rfl)
    (hks : (backToKw pos (keywordEach kws X.env)).filterMap (·.1) = [f] := by rfl) (hdb : (x == ("__debug__" : Str)) = false := by decide)
    (hpl : ((backTo pos (starEach [] X.env)).any (·.1) || (backToKw pos (keywordEach kws X.env)).any (·.1.isNone)) = false := by rfl) : PE X (.Call (.Name x p) [] kws pos) (tE X.K pn E (mkX C f m)) := by
  obtain ⟨T, no, fI, fd, iC, tI, F, b1, b2, ds, vd, b3⟩ := M
  exact px_mkxK T iC tI F hr b2 hm hkw hg hall hks hdb hpl
theorem px_mk1B (M : Mkr X.prog X.w X.K X.mg X.base C f) (hr : Room 2 X.A) (hm : X.mg x = some (.ref C)) (hg : Gl X x := by rfl) (hdb : (x == ("__debug__" : Str)) = false := by decide) :
    PE X (.Call (.Name x p) [] [] pos) (tE X.K pn E (mC (.exn C [(f, .non)]))) := by
  obtain ⟨T, no, fI, fd, iC, tI, F, b1, b2, ds, vd, b3⟩ := M
  exact px_mkx0 T iC tI F hr b3 vd hm hg hdb
/-- a call without arguments -/
theorem px_call0 {F : Fn} {k : Nat} {f : Addr} {fd : FuncData} {ps : List Str} (G : FnOk X.prog X.w X.K X.mg X.base CX0 k f fd ps (fun vs H Q _ => SpF X.K F vs H Q (fun _ _ _ => False))) (hr : Room k X.A) (hm : X.mg x = some (.ref f)) (hk : PySem.W.keepIn X.K (.ref f) = true) (hb : Binds X.K fd ps [])
    (hg : Gl X x := by rfl) (hdb : (x == ("__debug__" : Str)) = false := by decide) :
    PE X (.Call (.Name x p) [] [] pos) (tE X.K pn (fun _ _ _ => False) (callF F nilA)) :=
  (pe_call0 G hr hg hm hk hb .nil pass0 hdb).imp fun σ H Q w => by
    obtain ⟨G, ρ, ok, h⟩ := tCall_of (fun _ _ _ h => h) σ H Q w
    exact h [] G H ok Ext.refl .nil
end
end BK

/-! the package's errors, all of them -/
namespace BK
open PySem PySem.Spec PyProof.Rows L2 BT
structure Er (P : Program) (w : World) (K : PySem.W.Frag) (mg : Str → Option Value) (base : Heap) (U : Nat → Addr) (TE : Addr) : Prop where
  ec : ∀ i, i < 21 → Ec K (.ref TE :: veTail) (U i)
  et : Ec K veTail TE
  nn : PySem.W.specialIn K (.builtin "object.__class__") "__get__" = some (some (.builtin "getset_descriptor.__get__"))
  tk : PySem.W.takesIn K (.builtin "object.__class__") = some true
  nd : (TE :: (List.range 21).map U).Nodup
  g_TaleError : mg "TaleError" = some (.ref TE)
  xT : PySem.W.excIn K TE veTail "ValueError.__new__" = true
  g_InvalidTale : mg "InvalidTale" = some (.ref (U 0))
  m0 : Mkr P w K mg base (U 0) "problem"
  g_InvalidTimeline : mg "InvalidTimeline" = some (.ref (U 1))
  m1 : Mkr P w K mg base (U 1) "problem"
  g_InvalidTellers : mg "InvalidTellers" = some (.ref (U 2))
  m2 : Mkr P w K mg base (U 2) "problem"
  g_InvalidReport : mg "InvalidReport" = some (.ref (U 3))
  m3 : Mkr P w K mg base (U 3) "problem"
  g_InvalidText : mg "InvalidText" = some (.ref (U 4))
  m4 : Mkr P w K mg base (U 4) "line"
  g_UnknownMoment : mg "UnknownMoment" = some (.ref (U 5))
  m5 : Mkr P w K mg base (U 5) "name"
  g_InvalidName : mg "InvalidName" = some (.ref (U 6))
  m6 : Mkr P w K mg base (U 6) "name"
  g_Conflict : mg "Conflict" = some (.ref (U 7))
  m7 : Mkr P w K mg base (U 7) "ring"
  g_OutOfRange : mg "OutOfRange" = some (.ref (U 8))
  m8 : Mkr P w K mg base (U 8) "count"
  g_NoFit : mg "NoFit" = some (.ref (U 9))
  m9 : Mkr P w K mg base (U 9) "number"
  g_Mismatch : mg "Mismatch" = some (.ref (U 10))
  m10 : Mkr P w K mg base (U 10) "number"
  g_InvalidPlace : mg "InvalidPlace" = some (.ref (U 11))
  m11 : Mkr P w K mg base (U 11) "index"
  g_InvalidAnswer : mg "InvalidAnswer" = some (.ref (U 12))
  m12 : Mkr P w K mg base (U 12) "first"
  g_NoRoad : mg "NoRoad" = some (.ref (U 13))
  x13 : PySem.W.excIn K (U 13) veTail "ValueError.__new__" = true
  g_NoConflict : mg "NoConflict" = some (.ref (U 14))
  x14 : PySem.W.excIn K (U 14) veTail "ValueError.__new__" = true
  g_TooManyTellers : mg "TooManyTellers" = some (.ref (U 15))
  x15 : PySem.W.excIn K (U 15) veTail "ValueError.__new__" = true
  g_NothingToUndo : mg "NothingToUndo" = some (.ref (U 16))
  x16 : PySem.W.excIn K (U 16) veTail "ValueError.__new__" = true
  g_TooLarge : mg "TooLarge" = some (.ref (U 17))
  x17 : PySem.W.excIn K (U 17) veTail "ValueError.__new__" = true
  g_NotForest : mg "NotForest" = some (.ref (U 18))
  x18 : PySem.W.excIn K (U 18) veTail "ValueError.__new__" = true
  g_NothingKnown : mg "NothingKnown" = some (.ref (U 19))
  x19 : PySem.W.excIn K (U 19) veTail "ValueError.__new__" = true
  g_NoQuestion : mg "NoQuestion" = some (.ref (U 20))
  x20 : PySem.W.excIn K (U 20) veTail "ValueError.__new__" = true
def known (U : Nat → Addr) (TE D : Addr) : Prop := D = TE ∨ D ∈ (List.range 21).map U
instance (U : Nat → Addr) (TE D : Addr) : Decidable (known U TE D) := by unfold known; infer_instance
def bU (U : Nat → Addr) (TE : Addr) (i : Nat) (D : Addr) : Option Bool := if known U TE D then some (decide (D = U i)) else none
def bT (U : Nat → Addr) (TE D : Addr) : Option Bool := if known U TE D then some true else none
theorem bU_val {U : Nat → Addr} {TE D : Addr} {i : Nat} (h : known U TE D) : bU U TE i D = some (decide (D = U i)) := if_pos h
theorem bT_val {U : Nat → Addr} {TE D : Addr} (h : known U TE D) : bT U TE D = some true := if_pos h
def fldN : List Str := ["problem", "problem", "problem", "problem", "line", "name", "name", "ring", "count", "number", "number", "index", "first"]
section
variable {P : Program} {w : World} {K : PySem.W.Frag} {mg : Str → Option Value} {base : Heap} {U : Nat → Addr} {TE : Addr}
theorem Er.ne (R : Er P w K mg base U TE) {i : Nat} (hi : i < 21) : U i ≠ TE := fun e => by
  have := (List.nodup_cons.mp R.nd).1
  exact this (List.mem_map.mpr ⟨i, List.mem_range.mpr hi, e⟩)
theorem Er.inj (R : Er P w K mg base U TE) {i j : Nat} (hi : i < 21) (hj : j < 21) (e : U i = U j) : i = j := by
  have h := (List.nodup_cons.mp R.nd).2
  have k := List.pairwise_iff_getElem.mp h
  have li : i < ((List.range 21).map U).length := by simpa using hi
  have lj : j < ((List.range 21).map U).length := by simpa using hj
  rcases Nat.lt_trichotomy i j with c | c | c
  · exact absurd (by simpa using e) (k i j li lj c)
  · exact c
  · exact absurd (by simpa using e.symm) (k j i lj li c)
theorem Er.xU (R : Er P w K mg base U TE) {i : Nat} (hi : i < 21) : ExF K (U i) := (R.ec i hi).exf (by rfl) (by rfl) R.nn R.tk
theorem Er.xTE (R : Er P w K mg base U TE) : ExF K TE := R.et.exf (by decide) (by decide) R.nn R.tk
theorem Er.hb (R : Er P w K mg base U TE) {i : Nat} (hi : i < 21) (D : Addr) (r : Bool) (h : bU U TE i D = some r) : ExF K D ∧ PySem.W.kitOne K (.ref D) (.ref (U i)) = some r := by
  unfold bU at h
  by_cases c : known U TE D
  · rw [if_pos c] at h
    have h := Option.some.inj h
    subst h
    rcases c with rfl | c
    · refine ⟨R.xTE, ?_⟩
      rw [R.et.kit (R.ec i hi), List.contains_cons, ref_beq]
      have : veTail.contains (Value.ref (U i)) = false := rfl
      rw [this, Bool.or_false]
      by_cases e : U i = D
      · rw [decide_eq_true e, decide_eq_true e.symm]
      · rw [decide_eq_false e, decide_eq_false fun z => e z.symm]
    · obtain ⟨j, hj, rfl⟩ := List.mem_map.mp c
      have hj := List.mem_range.mp hj
      refine ⟨R.xU hj, ?_⟩
      rw [(R.ec j hj).kit (R.ec i hi), List.contains_cons, List.contains_cons, ref_beq, ref_beq]
      have : veTail.contains (Value.ref (U i)) = false := rfl
      rw [this, Bool.or_false, decide_eq_false (R.ne hi), Bool.or_false]
      by_cases e : U i = U j
      · rw [decide_eq_true e, decide_eq_true e.symm]
      · rw [decide_eq_false e, decide_eq_false fun z => e z.symm]
  · rw [if_neg c] at h; cases h
theorem Er.hbT (R : Er P w K mg base U TE) (D : Addr) (r : Bool) (h : bT U TE D = some r) : ExF K D ∧ PySem.W.kitOne K (.ref D) (.ref TE) = some r := by
  unfold bT at h
  by_cases c : known U TE D
  · rw [if_pos c] at h
    have h := Option.some.inj h
    subst h
    rcases c with rfl | c
    · refine ⟨R.xTE, ?_⟩
      rw [R.et.kit R.et, List.contains_cons, ref_beq, decide_eq_true rfl, Bool.true_or]
    · obtain ⟨j, hj, rfl⟩ := List.mem_map.mp c
      have hj := List.mem_range.mp hj
      refine ⟨R.xU hj, ?_⟩
      rw [(R.ec j hj).kit R.et, List.contains_cons, List.contains_cons, ref_beq, ref_beq, decide_eq_true rfl, Bool.true_or, Bool.or_true]
  · rw [if_neg c] at h; cases h
theorem Er.hbV (R : Er P w K mg base U TE) (D : Addr) (r : Bool) (h : bT U TE D = some r) : ExF K D ∧ PySem.W.kitOne K (.ref D) (.type "ValueError") = some r := by
  unfold bT at h
  by_cases c : known U TE D
  · rw [if_pos c] at h
    have h := Option.some.inj h
    subst h
    rcases c with rfl | c
    · exact ⟨R.xTE, R.et.kitV (by decide)⟩
    · obtain ⟨j, hj, rfl⟩ := List.mem_map.mp c
      have hj := List.mem_range.mp hj
      exact ⟨R.xU hj, (R.ec j hj).kitV (by rfl)⟩
  · rw [if_neg c] at h; cases h
end
end BK

/-! the law's own functions walked -/
namespace BK
open PySem L2 BT
section
variable {P : Program} {w : World} {K : PySem.W.Frag} {mg : Str → Option Value} {base : Heap} {U : Nat → Addr} {TE : Addr}
/-! ### _law_plain -/
def m__law_plain (U : Nat → Addr) (TE : Addr) : MS := seqS (asgS 0 (mLst (consA (mC (.exn (U 13) [])) (consA (mC (.exn (U 14) [])) (consA (mC (.exn (U 15) [])) (consA (mC (.exn (U 16) [])) (consA (mC (.exn (U 17) [])) (consA (mC (.exn (U 18) [])) (nilA))))))))) (retS (bin2 (mVar 0) (mLst (consA (mC (.exn (U 19) [])) (consA (mC (.exn (U 20) [])) (nilA)))) addD))
theorem sc__law_plain : FnScope ["found"] [] (defScope (top 32)) := ⟨rfl, rfl, rfl, by decide +kernel, rfl, by decide +kernel, by decide +kernel⟩
theorem run__law_plain {f : Addr} {fd : FuncData} (F : Fun K "_law_plain" "_law_plain" (top 32) f fd) (T : Tx K mg) (ER : Er P w K mg base U TE) :
    FnOk P w K mg base CX0 3 f fd [] (fun vs H Q _ => SpF K (runB 1 0 [] (m__law_plain U TE)) vs H Q E00) := by
  have sc := sc__law_plain
  refine okF [] F sc (fun pn cdv A outer s H E hpn hr => ?_)
  have hu64 := hr.units
  have hu65 := room65 hr
  have hu1 := hu_of hr
  exact psx_cons (psx_set (i := 0) (np hpn (by decide)) sc.nd rfl (by first | exact Or.inl rfl | exact Or.inr rfl) (px_lst (pax_cons (px_exc0 PySem.F.excBase_ValueError ER.x13 (ER.ec 13 (by decide)).k ER.g_NoRoad) (pax_cons (px_exc0 PySem.F.excBase_ValueError ER.x14 (ER.ec 14 (by decide)).k ER.g_NoConflict) (pax_cons (px_exc0 PySem.F.excBase_ValueError ER.x15 (ER.ec 15 (by decide)).k ER.g_TooManyTellers) (pax_cons (px_exc0 PySem.F.excBase_ValueError ER.x16 (ER.ec 16 (by decide)).k ER.g_NothingToUndo) (pax_cons (px_exc0 PySem.F.excBase_ValueError ER.x17 (ER.ec 17 (by decide)).k ER.g_TooLarge) (pax_cons (px_exc0 PySem.F.excBase_ValueError ER.x18 (ER.ec 18 (by decide)).k ER.g_NotForest) (pax_nil))))))))) (psx_one (psx_ret (px_op op_adds od_add (px_var (pv 0)) (px_lst (pax_cons (px_exc0 PySem.F.excBase_ValueError ER.x19 (ER.ec 19 (by decide)).k ER.g_NothingKnown) (pax_cons (px_exc0 PySem.F.excBase_ValueError ER.x20 (ER.ec 20 (by decide)).k ER.g_NoQuestion) (pax_nil)))))))
/-! ### _law_kinds -/
def m__law_kinds (U : Nat → Addr) (TE : Addr) : MS := seqS (asgS 1 (mLst (consA (isGM (bU U TE 0) (mVar 0)) (consA (isGM (bU U TE 1) (mVar 0)) (consA (isGM (bU U TE 2) (mVar 0)) (nilA)))))) (seqS (asgS 1 (bin2 (mVar 1) (mLst (consA (isGM (bU U TE 3) (mVar 0)) (consA (isGM (bU U TE 4) (mVar 0)) (consA (isGM (bU U TE 5) (mVar 0)) (nilA))))) addD)) (seqS (asgS 1 (bin2 (mVar 1) (mLst (consA (isGM (bU U TE 6) (mVar 0)) (consA (isGM (bU U TE 7) (mVar 0)) (consA (isGM (bU U TE 8) (mVar 0)) (nilA))))) addD)) (seqS (asgS 1 (bin2 (mVar 1) (mLst (consA (isGM (bU U TE 9) (mVar 0)) (consA (isGM (bU U TE 10) (mVar 0)) (consA (isGM (bU U TE 11) (mVar 0)) (nilA))))) addD)) (seqS (asgS 1 (bin2 (mVar 1) (mLst (consA (isGM (bU U TE 12) (mVar 0)) (consA (isGM (bU U TE 13) (mVar 0)) (consA (isGM (bU U TE 14) (mVar 0)) (nilA))))) addD)) (seqS (asgS 1 (bin2 (mVar 1) (mLst (consA (isGM (bU U TE 15) (mVar 0)) (consA (isGM (bU U TE 16) (mVar 0)) (consA (isGM (bU U TE 17) (mVar 0)) (nilA))))) addD)) (seqS (asgS 1 (bin2 (mVar 1) (mLst (consA (isGM (bU U TE 18) (mVar 0)) (consA (isGM (bU U TE 19) (mVar 0)) (consA (isGM (bU U TE 20) (mVar 0)) (nilA))))) addD)) (retS (bin2 (mVar 1) (mLst (consA (andV (isGM (bT U TE) (mVar 0)) (isGM (bT U TE) (mVar 0))) (nilA))) addD))))))))
theorem sc__law_kinds : FnScope ["made", "found"] ["made"] (defScope (top 28)) := ⟨rfl, rfl, rfl, by decide +kernel, rfl, by decide +kernel, by decide +kernel⟩
theorem run__law_kinds {f : Addr} {fd : FuncData} (F : Fun K "_law_kinds" "_law_kinds" (top 28) f fd) (T : Tx K mg) (ER : Er P w K mg base U TE) :
    FnOk P w K mg base CX0 3 f fd ["made"] (fun vs H Q _ => SpF K (runB 2 1 [] (m__law_kinds U TE)) vs H Q E00) := by
  have sc := sc__law_kinds
  refine okF [] F sc (fun pn cdv A outer s H E hpn hr => ?_)
  have hu64 := hr.units
  have hu65 := room65 hr
  have hu1 := hu_of hr
  exact psx_cons (psx_set (i := 1) (np hpn (by decide)) sc.nd rfl (by first | exact Or.inl rfl | exact Or.inr rfl) (px_lst (pax_cons (px_isG (ER.hb (i := 0) (by decide)) (px_var (pv 0)) T.n_isinstance ER.g_InvalidTale) (pax_cons (px_isG (ER.hb (i := 1) (by decide)) (px_var (pv 0)) T.n_isinstance ER.g_InvalidTimeline) (pax_cons (px_isG (ER.hb (i := 2) (by decide)) (px_var (pv 0)) T.n_isinstance ER.g_InvalidTellers) (pax_nil)))))) (psx_cons (psx_set (i := 1) (np hpn (by decide)) sc.nd rfl (by first | exact Or.inl rfl | exact Or.inr rfl) (px_op op_adds od_add (px_var (pv 1)) (px_lst (pax_cons (px_isG (ER.hb (i := 3) (by decide)) (px_var (pv 0)) T.n_isinstance ER.g_InvalidReport) (pax_cons (px_isG (ER.hb (i := 4) (by decide)) (px_var (pv 0)) T.n_isinstance ER.g_InvalidText) (pax_cons (px_isG (ER.hb (i := 5) (by decide)) (px_var (pv 0)) T.n_isinstance ER.g_UnknownMoment) (pax_nil))))))) (psx_cons (psx_set (i := 1) (np hpn (by decide)) sc.nd rfl (by first | exact Or.inl rfl | exact Or.inr rfl) (px_op op_adds od_add (px_var (pv 1)) (px_lst (pax_cons (px_isG (ER.hb (i := 6) (by decide)) (px_var (pv 0)) T.n_isinstance ER.g_InvalidName) (pax_cons (px_isG (ER.hb (i := 7) (by decide)) (px_var (pv 0)) T.n_isinstance ER.g_Conflict) (pax_cons (px_isG (ER.hb (i := 8) (by decide)) (px_var (pv 0)) T.n_isinstance ER.g_OutOfRange) (pax_nil))))))) (psx_cons (psx_set (i := 1) (np hpn (by decide)) sc.nd rfl (by first | exact Or.inl rfl | exact Or.inr rfl) (px_op op_adds od_add (px_var (pv 1)) (px_lst (pax_cons (px_isG (ER.hb (i := 9) (by decide)) (px_var (pv 0)) T.n_isinstance ER.g_NoFit) (pax_cons (px_isG (ER.hb (i := 10) (by decide)) (px_var (pv 0)) T.n_isinstance ER.g_Mismatch) (pax_cons (px_isG (ER.hb (i := 11) (by decide)) (px_var (pv 0)) T.n_isinstance ER.g_InvalidPlace) (pax_nil))))))) (psx_cons (psx_set (i := 1) (np hpn (by decide)) sc.nd rfl (by first | exact Or.inl rfl | exact Or.inr rfl) (px_op op_adds od_add (px_var (pv 1)) (px_lst (pax_cons (px_isG (ER.hb (i := 12) (by decide)) (px_var (pv 0)) T.n_isinstance ER.g_InvalidAnswer) (pax_cons (px_isG (ER.hb (i := 13) (by decide)) (px_var (pv 0)) T.n_isinstance ER.g_NoRoad) (pax_cons (px_isG (ER.hb (i := 14) (by decide)) (px_var (pv 0)) T.n_isinstance ER.g_NoConflict) (pax_nil))))))) (psx_cons (psx_set (i := 1) (np hpn (by decide)) sc.nd rfl (by first | exact Or.inl rfl | exact Or.inr rfl) (px_op op_adds od_add (px_var (pv 1)) (px_lst (pax_cons (px_isG (ER.hb (i := 15) (by decide)) (px_var (pv 0)) T.n_isinstance ER.g_TooManyTellers) (pax_cons (px_isG (ER.hb (i := 16) (by decide)) (px_var (pv 0)) T.n_isinstance ER.g_NothingToUndo) (pax_cons (px_isG (ER.hb (i := 17) (by decide)) (px_var (pv 0)) T.n_isinstance ER.g_TooLarge) (pax_nil))))))) (psx_cons (psx_set (i := 1) (np hpn (by decide)) sc.nd rfl (by first | exact Or.inl rfl | exact Or.inr rfl) (px_op op_adds od_add (px_var (pv 1)) (px_lst (pax_cons (px_isG (ER.hb (i := 18) (by decide)) (px_var (pv 0)) T.n_isinstance ER.g_NotForest) (pax_cons (px_isG (ER.hb (i := 19) (by decide)) (px_var (pv 0)) T.n_isinstance ER.g_NothingKnown) (pax_cons (px_isG (ER.hb (i := 20) (by decide)) (px_var (pv 0)) T.n_isinstance ER.g_NoQuestion) (pax_nil))))))) (psx_one (psx_ret (px_op op_adds od_add (px_var (pv 1)) (px_lst (pax_cons (px_and (px_isG ER.hbT (px_var (pv 0)) T.n_isinstance ER.g_TaleError) (pe_one (px_isGB ER.hbV (px_var (pv 0)) T.n_isinstance T.n_ValueError (by decide +kernel)))) (pax_nil))))))))))))
/-! ### _law_placed -/
def m__law_placed (U : Nat → Addr) (TE : Addr) : MS := seqS (asgS 1 (mLst (consA (mkX (U 0) "problem" (consA (mVar 0) (nilA))) (consA (mkX (U 1) "problem" (consA (mVar 0) (nilA))) (consA (mkX (U 2) "problem" (consA (mVar 0) (nilA))) (consA (mkX (U 3) "problem" (consA (mVar 0) (nilA))) (nilA))))))) (seqS (asgS 1 (bin2 (mVar 1) (mLst (consA (mkX (U 4) "line" (consA (mVar 0) (nilA))) (consA (mkX (U 5) "name" (consA (mVar 0) (nilA))) (consA (mkX (U 6) "name" (consA (mVar 0) (nilA))) (consA (mkX (U 7) "ring" (consA (mVar 0) (nilA))) (nilA)))))) addD)) (seqS (asgS 1 (bin2 (mVar 1) (mLst (consA (mkX (U 8) "count" (consA (mVar 0) (nilA))) (consA (mkX (U 9) "number" (consA (mVar 0) (nilA))) (consA (mkX (U 10) "number" (consA (mVar 0) (nilA))) (consA (mkX (U 11) "index" (consA (mVar 0) (nilA))) (nilA)))))) addD)) (retS (bin2 (mVar 1) (mLst (consA (mkX (U 12) "first" (consA (mVar 0) (nilA))) (nilA))) addD))))
theorem sc__law_placed : FnScope ["value", "found"] ["value"] (defScope (top 29)) := ⟨rfl, rfl, rfl, by decide +kernel, rfl, by decide +kernel, by decide +kernel⟩
theorem run__law_placed {f : Addr} {fd : FuncData} (F : Fun K "_law_placed" "_law_placed" (top 29) f fd) (T : Tx K mg) (ER : Er P w K mg base U TE) :
    FnOk P w K mg base CX0 3 f fd ["value"] (fun vs H Q _ => SpF K (runB 2 1 [] (m__law_placed U TE)) vs H Q E00) := by
  have sc := sc__law_placed
  refine okF [] F sc (fun pn cdv A outer s H E hpn hr => ?_)
  have hu64 := hr.units
  have hu65 := room65 hr
  have hu1 := hu_of hr
  exact psx_cons (psx_set (i := 1) (np hpn (by decide)) sc.nd rfl (by first | exact Or.inl rfl | exact Or.inr rfl) (px_lst (pax_cons (px_mk1 ER.m0 (hr.mono (by decide)) ER.g_InvalidTale (pax_cons (px_var (pv 0)) (pax_nil))) (pax_cons (px_mk1 ER.m1 (hr.mono (by decide)) ER.g_InvalidTimeline (pax_cons (px_var (pv 0)) (pax_nil))) (pax_cons (px_mk1 ER.m2 (hr.mono (by decide)) ER.g_InvalidTellers (pax_cons (px_var (pv 0)) (pax_nil))) (pax_cons (px_mk1 ER.m3 (hr.mono (by decide)) ER.g_InvalidReport (pax_cons (px_var (pv 0)) (pax_nil))) (pax_nil))))))) (psx_cons (psx_set (i := 1) (np hpn (by decide)) sc.nd rfl (by first | exact Or.inl rfl | exact Or.inr rfl) (px_op op_adds od_add (px_var (pv 1)) (px_lst (pax_cons (px_mk1 ER.m4 (hr.mono (by decide)) ER.g_InvalidText (pax_cons (px_var (pv 0)) (pax_nil))) (pax_cons (px_mk1 ER.m5 (hr.mono (by decide)) ER.g_UnknownMoment (pax_cons (px_var (pv 0)) (pax_nil))) (pax_cons (px_mk1 ER.m6 (hr.mono (by decide)) ER.g_InvalidName (pax_cons (px_var (pv 0)) (pax_nil))) (pax_cons (px_mk1 ER.m7 (hr.mono (by decide)) ER.g_Conflict (pax_cons (px_var (pv 0)) (pax_nil))) (pax_nil)))))))) (psx_cons (psx_set (i := 1) (np hpn (by decide)) sc.nd rfl (by first | exact Or.inl rfl | exact Or.inr rfl) (px_op op_adds od_add (px_var (pv 1)) (px_lst (pax_cons (px_mk1 ER.m8 (hr.mono (by decide)) ER.g_OutOfRange (pax_cons (px_var (pv 0)) (pax_nil))) (pax_cons (px_mk1 ER.m9 (hr.mono (by decide)) ER.g_NoFit (pax_cons (px_var (pv 0)) (pax_nil))) (pax_cons (px_mk1 ER.m10 (hr.mono (by decide)) ER.g_Mismatch (pax_cons (px_var (pv 0)) (pax_nil))) (pax_cons (px_mk1 ER.m11 (hr.mono (by decide)) ER.g_InvalidPlace (pax_cons (px_var (pv 0)) (pax_nil))) (pax_nil)))))))) (psx_one (psx_ret (px_op op_adds od_add (px_var (pv 1)) (px_lst (pax_cons (px_mk1 ER.m12 (hr.mono (by decide)) ER.g_InvalidAnswer (pax_cons (px_var (pv 0)) (pax_nil))) (pax_nil))))))))
/-! ### _law_named -/
def m__law_named (U : Nat → Addr) (TE : Addr) : MS := seqS (asgS 1 (mLst (consA (mkX (U 0) "problem" (consA (mVar 0) nilA)) (consA (mkX (U 1) "problem" (consA (mVar 0) nilA)) (consA (mkX (U 2) "problem" (consA (mVar 0) nilA)) (nilA)))))) (seqS (asgS 1 (bin2 (mVar 1) (mLst (consA (mkX (U 3) "problem" (consA (mVar 0) nilA)) (consA (mkX (U 4) "line" (consA (mVar 0) nilA)) (consA (mkX (U 5) "name" (consA (mVar 0) nilA)) (nilA))))) addD)) (seqS (asgS 1 (bin2 (mVar 1) (mLst (consA (mkX (U 6) "name" (consA (mVar 0) nilA)) (consA (mkX (U 7) "ring" (consA (mVar 0) nilA)) (consA (mkX (U 8) "count" (consA (mVar 0) nilA)) (nilA))))) addD)) (seqS (asgS 1 (bin2 (mVar 1) (mLst (consA (mkX (U 9) "number" (consA (mVar 0) nilA)) (consA (mkX (U 10) "number" (consA (mVar 0) nilA)) (consA (mkX (U 11) "index" (consA (mVar 0) nilA)) (nilA))))) addD)) (retS (bin2 (mVar 1) (mLst (consA (mkX (U 12) "first" (consA (mVar 0) nilA)) (nilA))) addD)))))
theorem sc__law_named : FnScope ["value", "found"] ["value"] (defScope (top 30)) := ⟨rfl, rfl, rfl, by decide +kernel, rfl, by decide +kernel, by decide +kernel⟩
theorem run__law_named {f : Addr} {fd : FuncData} (F : Fun K "_law_named" "_law_named" (top 30) f fd) (T : Tx K mg) (ER : Er P w K mg base U TE) :
    FnOk P w K mg base CX0 3 f fd ["value"] (fun vs H Q _ => SpF K (runB 2 1 [] (m__law_named U TE)) vs H Q E00) := by
  have sc := sc__law_named
  refine okF [] F sc (fun pn cdv A outer s H E hpn hr => ?_)
  have hu64 := hr.units
  have hu65 := room65 hr
  have hu1 := hu_of hr
  exact psx_cons (psx_set (i := 1) (np hpn (by decide)) sc.nd rfl (by first | exact Or.inl rfl | exact Or.inr rfl) (px_lst (pax_cons (px_mk1K ER.m0 (hr.mono (by decide)) ER.g_InvalidTale (pkx_cons (px_var (pv 0)) pkx_nil)) (pax_cons (px_mk1K ER.m1 (hr.mono (by decide)) ER.g_InvalidTimeline (pkx_cons (px_var (pv 0)) pkx_nil)) (pax_cons (px_mk1K ER.m2 (hr.mono (by decide)) ER.g_InvalidTellers (pkx_cons (px_var (pv 0)) pkx_nil)) (pax_nil)))))) (psx_cons (psx_set (i := 1) (np hpn (by decide)) sc.nd rfl (by first | exact Or.inl rfl | exact Or.inr rfl) (px_op op_adds od_add (px_var (pv 1)) (px_lst (pax_cons (px_mk1K ER.m3 (hr.mono (by decide)) ER.g_InvalidReport (pkx_cons (px_var (pv 0)) pkx_nil)) (pax_cons (px_mk1K ER.m4 (hr.mono (by decide)) ER.g_InvalidText (pkx_cons (px_var (pv 0)) pkx_nil)) (pax_cons (px_mk1K ER.m5 (hr.mono (by decide)) ER.g_UnknownMoment (pkx_cons (px_var (pv 0)) pkx_nil)) (pax_nil))))))) (psx_cons (psx_set (i := 1) (np hpn (by decide)) sc.nd rfl (by first | exact Or.inl rfl | exact Or.inr rfl) (px_op op_adds od_add (px_var (pv 1)) (px_lst (pax_cons (px_mk1K ER.m6 (hr.mono (by decide)) ER.g_InvalidName (pkx_cons (px_var (pv 0)) pkx_nil)) (pax_cons (px_mk1K ER.m7 (hr.mono (by decide)) ER.g_Conflict (pkx_cons (px_var (pv 0)) pkx_nil)) (pax_cons (px_mk1K ER.m8 (hr.mono (by decide)) ER.g_OutOfRange (pkx_cons (px_var (pv 0)) pkx_nil)) (pax_nil))))))) (psx_cons (psx_set (i := 1) (np hpn (by decide)) sc.nd rfl (by first | exact Or.inl rfl | exact Or.inr rfl) (px_op op_adds od_add (px_var (pv 1)) (px_lst (pax_cons (px_mk1K ER.m9 (hr.mono (by decide)) ER.g_NoFit (pkx_cons (px_var (pv 0)) pkx_nil)) (pax_cons (px_mk1K ER.m10 (hr.mono (by decide)) ER.g_Mismatch (pkx_cons (px_var (pv 0)) pkx_nil)) (pax_cons (px_mk1K ER.m11 (hr.mono (by decide)) ER.g_InvalidPlace (pkx_cons (px_var (pv 0)) pkx_nil)) (pax_nil))))))) (psx_one (psx_ret (px_op op_adds od_add (px_var (pv 1)) (px_lst (pax_cons (px_mk1K ER.m12 (hr.mono (by decide)) ER.g_InvalidAnswer (pkx_cons (px_var (pv 0)) pkx_nil)) (pax_nil)))))))))
/-! ### _law_bare -/
def m__law_bare (U : Nat → Addr) (TE : Addr) : MS := seqS (asgS 0 (mLst (consA (mC (.exn (U 0) [("problem", .non)])) (consA (mC (.exn (U 1) [("problem", .non)])) (consA (mC (.exn (U 2) [("problem", .non)])) (consA (mC (.exn (U 3) [("problem", .non)])) (consA (mC (.exn (U 4) [("line", .non)])) (consA (mC (.exn (U 5) [("name", .non)])) (nilA))))))))) (seqS (asgS 0 (bin2 (mVar 0) (mLst (consA (mC (.exn (U 6) [("name", .non)])) (consA (mC (.exn (U 7) [("ring", .non)])) (consA (mC (.exn (U 8) [("count", .non)])) (consA (mC (.exn (U 9) [("number", .non)])) (consA (mC (.exn (U 10) [("number", .non)])) (consA (mC (.exn (U 11) [("index", .non)])) (consA (mC (.exn (U 12) [("first", .non)])) (nilA))))))))) addD)) (retS (bin2 (mVar 0) (callF (runB 1 0 [] (m__law_plain U TE)) nilA) addD)))
theorem sc__law_bare : FnScope ["found"] [] (defScope (top 31)) := ⟨rfl, rfl, rfl, by decide +kernel, rfl, by decide +kernel, by decide +kernel⟩
theorem run__law_bare {f : Addr} {fd : FuncData} (F : Fun K "_law_bare" "_law_bare" (top 31) f fd) (T : Tx K mg) (ER : Er P w K mg base U TE) {f__law_plain : Addr} {fd__law_plain : FuncData} (G__law_plain : FnOk P w K mg base CX0 3 f__law_plain fd__law_plain [] (fun vs H Q _ => SpF K ((runB 1 0 [] (m__law_plain U TE))) vs H Q E00)) (b__law_plain : Binds K fd__law_plain [] []) (g__law_plain : mg "_law_plain" = some (.ref f__law_plain)) (k__law_plain : PySem.W.keepIn K (.ref f__law_plain) = true) :
    FnOk P w K mg base CX0 4 f fd [] (fun vs H Q _ => SpF K (runB 1 0 [] (m__law_bare U TE)) vs H Q E00) := by
  have sc := sc__law_bare
  refine okF [] F sc (fun pn cdv A outer s H E hpn hr => ?_)
  have hu64 := hr.units
  have hu65 := room65 hr
  have hu1 := hu_of hr
  exact psx_cons (psx_set (i := 0) (np hpn (by decide)) sc.nd rfl (by first | exact Or.inl rfl | exact Or.inr rfl) (px_lst (pax_cons (px_mk1B ER.m0 (hr.mono (by decide)) ER.g_InvalidTale) (pax_cons (px_mk1B ER.m1 (hr.mono (by decide)) ER.g_InvalidTimeline) (pax_cons (px_mk1B ER.m2 (hr.mono (by decide)) ER.g_InvalidTellers) (pax_cons (px_mk1B ER.m3 (hr.mono (by decide)) ER.g_InvalidReport) (pax_cons (px_mk1B ER.m4 (hr.mono (by decide)) ER.g_InvalidText) (pax_cons (px_mk1B ER.m5 (hr.mono (by decide)) ER.g_UnknownMoment) (pax_nil))))))))) (psx_cons (psx_set (i := 0) (np hpn (by decide)) sc.nd rfl (by first | exact Or.inl rfl | exact Or.inr rfl) (px_op op_adds od_add (px_var (pv 0)) (px_lst (pax_cons (px_mk1B ER.m6 (hr.mono (by decide)) ER.g_InvalidName) (pax_cons (px_mk1B ER.m7 (hr.mono (by decide)) ER.g_Conflict) (pax_cons (px_mk1B ER.m8 (hr.mono (by decide)) ER.g_OutOfRange) (pax_cons (px_mk1B ER.m9 (hr.mono (by decide)) ER.g_NoFit) (pax_cons (px_mk1B ER.m10 (hr.mono (by decide)) ER.g_Mismatch) (pax_cons (px_mk1B ER.m11 (hr.mono (by decide)) ER.g_InvalidPlace) (pax_cons (px_mk1B ER.m12 (hr.mono (by decide)) ER.g_InvalidAnswer) (pax_nil))))))))))) (psx_one (psx_ret (px_op op_adds od_add (px_var (pv 0)) (px_call0 G__law_plain (hr.mono (by decide)) g__law_plain k__law_plain b__law_plain)))))
/-! ### _law_fields -/
def m__law_fields (U : Nat → Addr) (TE : Addr) : MS := seqS (asgS 1 (mLst (consA (fldX (U 0) "problem" (bin2 (mVar 0) (mC (.int 0)) ixM)) (consA (fldX (U 1) "problem" (bin2 (mVar 0) (mC (.int 1)) ixM)) (consA (fldX (U 2) "problem" (bin2 (mVar 0) (mC (.int 2)) ixM)) (consA (fldX (U 3) "problem" (bin2 (mVar 0) (mC (.int 3)) ixM)) (consA (fldX (U 4) "line" (bin2 (mVar 0) (mC (.int 4)) ixM)) (consA (fldX (U 5) "name" (bin2 (mVar 0) (mC (.int 5)) ixM)) (nilA))))))))) (seqS (asgS 1 (bin2 (mVar 1) (mLst (consA (fldX (U 6) "name" (bin2 (mVar 0) (mC (.int 6)) ixM)) (consA (fldX (U 7) "ring" (bin2 (mVar 0) (mC (.int 7)) ixM)) (consA (fldX (U 8) "count" (bin2 (mVar 0) (mC (.int 8)) ixM)) (consA (fldX (U 9) "number" (bin2 (mVar 0) (mC (.int 9)) ixM)) (consA (fldX (U 10) "number" (bin2 (mVar 0) (mC (.int 10)) ixM)) (nilA))))))) addD)) (retS (bin2 (mVar 1) (mLst (consA (fldX (U 11) "index" (bin2 (mVar 0) (mC (.int 11)) ixM)) (consA (fldX (U 12) "first" (bin2 (mVar 0) (mC (.int 12)) ixM)) (nilA)))) addD)))
theorem sc__law_fields : FnScope ["made", "found"] ["made"] (defScope (top 33)) := ⟨rfl, rfl, rfl, by decide +kernel, rfl, by decide +kernel, by decide +kernel⟩
theorem run__law_fields {f : Addr} {fd : FuncData} (F : Fun K "_law_fields" "_law_fields" (top 33) f fd) (T : Tx K mg) (ER : Er P w K mg base U TE) :
    FnOk P w K mg base CX0 3 f fd ["made"] (fun vs H Q _ => SpF K (runB 2 1 [] (m__law_fields U TE)) vs H Q E00) := by
  have sc := sc__law_fields
  refine okF [] F sc (fun pn cdv A outer s H E hpn hr => ?_)
  have hu64 := hr.units
  have hu65 := room65 hr
  have hu1 := hu_of hr
  exact psx_cons (psx_set (i := 1) (np hpn (by decide)) sc.nd rfl (by first | exact Or.inl rfl | exact Or.inr rfl) (px_lst (pax_cons (px_fx (ER.xU (i := 0) (by decide)) ER.m0.no (px_ix ix_seq od_ix (px_var (pv 0)) (px_int) (fun _ _ => rfl))) (pax_cons (px_fx (ER.xU (i := 1) (by decide)) ER.m1.no (px_ix ix_seq od_ix (px_var (pv 0)) (px_int) (fun _ _ => rfl))) (pax_cons (px_fx (ER.xU (i := 2) (by decide)) ER.m2.no (px_ix ix_seq od_ix (px_var (pv 0)) (px_int) (fun _ _ => rfl))) (pax_cons (px_fx (ER.xU (i := 3) (by decide)) ER.m3.no (px_ix ix_seq od_ix (px_var (pv 0)) (px_int) (fun _ _ => rfl))) (pax_cons (px_fx (ER.xU (i := 4) (by decide)) ER.m4.no (px_ix ix_seq od_ix (px_var (pv 0)) (px_int) (fun _ _ => rfl))) (pax_cons (px_fx (ER.xU (i := 5) (by decide)) ER.m5.no (px_ix ix_seq od_ix (px_var (pv 0)) (px_int) (fun _ _ => rfl))) (pax_nil))))))))) (psx_cons (psx_set (i := 1) (np hpn (by decide)) sc.nd rfl (by first | exact Or.inl rfl | exact Or.inr rfl) (px_op op_adds od_add (px_var (pv 1)) (px_lst (pax_cons (px_fx (ER.xU (i := 6) (by decide)) ER.m6.no (px_ix ix_seq od_ix (px_var (pv 0)) (px_int) (fun _ _ => rfl))) (pax_cons (px_fx (ER.xU (i := 7) (by decide)) ER.m7.no (px_ix ix_seq od_ix (px_var (pv 0)) (px_int) (fun _ _ => rfl))) (pax_cons (px_fx (ER.xU (i := 8) (by decide)) ER.m8.no (px_ix ix_seq od_ix (px_var (pv 0)) (px_int) (fun _ _ => rfl))) (pax_cons (px_fx (ER.xU (i := 9) (by decide)) ER.m9.no (px_ix ix_seq od_ix (px_var (pv 0)) (px_int) (fun _ _ => rfl))) (pax_cons (px_fx (ER.xU (i := 10) (by decide)) ER.m10.no (px_ix ix_seq od_ix (px_var (pv 0)) (px_int) (fun _ _ => rfl))) (pax_nil))))))))) (psx_one (psx_ret (px_op op_adds od_add (px_var (pv 1)) (px_lst (pax_cons (px_fx (ER.xU (i := 11) (by decide)) ER.m11.no (px_ix ix_seq od_ix (px_var (pv 0)) (px_int) (fun _ _ => rfl))) (pax_cons (px_fx (ER.xU (i := 12) (by decide)) ER.m12.no (px_ix ix_seq od_ix (px_var (pv 0)) (px_int) (fun _ _ => rfl))) (pax_nil))))))))
/-! ### _law_kinds_right -/
def m__law_kinds_right (U : Nat → Addr) (TE : Addr) : MS := seqS (forS (enumM (consA (mVar 0) (nilA))) (bTup 2 (bCons (bName 1) (bCons (bName 2) (bNil)))) (ifS (toB (bin2 (callF ((runB 2 1 [] (m__law_kinds U TE))) (consA (mVar 2) (nilA))) (mComp (rangeM1 (consA (mC (.int 22)) (nilA))) [3] (bName 3) (yesT) (bin2 (mVar 3) (mTup (consA (mVar 1) (consA (mC (.int 21)) (nilA)))) (inM false))) neM)) (retS (mC (.bl false))) (nxS))) (retS (mC (.bl true)))
theorem sc__law_kinds_right : FnScope ["made", "at", "one", "k"] ["made"] (defScope (top 34)) := ⟨rfl, rfl, rfl, by decide +kernel, rfl, by decide +kernel, by decide +kernel⟩
theorem run__law_kinds_right {f : Addr} {fd : FuncData} (F : Fun K "_law_kinds_right" "_law_kinds_right" (top 34) f fd) (T : Tx K mg) (ER : Er P w K mg base U TE) {f__law_kinds : Addr} {fd__law_kinds : FuncData} (G__law_kinds : FnOk P w K mg base CX0 3 f__law_kinds fd__law_kinds ["made"] (fun vs H Q _ => SpF K ((runB 2 1 [] (m__law_kinds U TE))) vs H Q E00)) (b__law_kinds : Binds K fd__law_kinds ["made"] []) (g__law_kinds : mg "_law_kinds" = some (.ref f__law_kinds)) (k__law_kinds : PySem.W.keepIn K (.ref f__law_kinds) = true) :
    FnOk P w K mg base CX0 4 f fd ["made"] (fun vs H Q _ => SpF K (runB 4 1 [] (m__law_kinds_right U TE)) vs H Q E00) := by
  have sc := sc__law_kinds_right
  refine okF [] F sc (fun pn cdv A outer s H E hpn hr => ?_)
  have hu64 := hr.units
  have hu65 := room65 hr
  have hu1 := hu_of hr
  exact psx_cons (psx_for PassesOwn.never rfl (pix_enum T.n_enumerate (pax_cons (px_var (pv 0)) (pax_nil))) (pg_tup (by rfl) (pgs_cons (pg_name (i := 1) sc.nd rfl (by first | exact Or.inl rfl | exact Or.inr rfl)) (pgs_cons (pg_name (i := 2) sc.nd rfl (by first | exact Or.inl rfl | exact Or.inr rfl)) (pgs_nil)))) (gb_tup (gbs_cons (gb_name (np hpn (by decide))) (gbs_cons (gb_name (np hpn (by decide))) (gbs_nil)))) (psx_one (psx_if (pt_c (op_nes hu64) od_ne (px_call G__law_kinds (hr.mono (by decide)) g__law_kinds k__law_kinds b__law_kinds (pax_cons (px_var (pv 2)) (pax_nil))) (px_lc (own := [("k", 3)]) rfl sc.nd (pix_range1 T.n_range (pax_cons (px_int) (pax_nil))) (blkOk_by (own := [("k", 3)]) (N := ["made", "at", "one", "k"]) (sc := defScope (top 34)) (by decide +kernel)) (gb_name (np hpn (by decide))) (by decide) (npL hpn (by decide)) (fun _ _ _ _ _ => pg_name (i := 3) sc.nd rfl (by first | exact Or.inl rfl | exact Or.inr rfl)) (fun _ _ _ _ _ => ptsx_nil) (fun _ _ _ _ _ => px_cmp (op_ins hu65) od_in (px_var (pv 3)) (px_tup (pax_cons (px_var (pv 1)) (pax_cons (px_int) (pax_nil)))) (by rfl))) (nomark _)) (psx_one (psx_ret (px_bl))) (psx_nil)))) (psx_one (psx_ret (px_bl)))
/-! ### law -/
def m_law (U : Nat → Addr) (TE : Addr) : MS := seqS (forS (rangeM1 (consA (bin2 (mC (.int 1)) (mCall minD (consA (mC (.int 5)) (consA (mCall lenD (consA (mVar 0) (nilA))) (nilA)))) addD) (nilA))) (bName 1) (seqS (asgS 3 (callF F_law_purse (consA (mVar 0) (consA (mVar 1) (nilA))))) (seqS (asgS 4 (mLst (consA (mC .non) (consA (mC (.bl true)) (consA (mC (.int 0)) (consA (mC (.int 7)) (consA (bin2 (mC (.int 10)) (mC (.int 30)) powD) (consA (mC (.str "")) (consA (mC (.str "zz")) (consA (mC (.str "a {0}")) (consA (mTup (nilA)) (consA (mTup (consA (mC (.str "a")) (nilA))) (consA (mTup (consA (mC (.str "a")) (consA (mC (.str "b")) (nilA)))) (consA (mLst (consA (mC (.str "a")) (nilA))) (consA (mLst (nilA)) (nilA)))))))))))))))) (seqS (dropS (appM 4 (mTup (consA (mTup (consA (mC (.str "ana")) (consA (mC (.int 1)) (nilA)))) (consA (mTup (consA (mC (.str "bo")) (consA (mC (.int 1)) (nilA)))) (nilA)))))) (seqS (asgS 5 (ixO 4 (callO F_law_draw 3 (consA (mC (.int 14)) (nilA))))) (forS (seqD (mLst (consA (callF ((runB 2 1 [] (m__law_placed U TE))) (consA (mVar 5) (nilA))) (consA (callF ((runB 2 1 [] (m__law_named U TE))) (consA (mVar 5) (nilA))) (nilA))))) (bName 6) (ifS (orT (toB (bin2 (callF ((runB 2 1 [] (m__law_fields U TE))) (consA (mVar 6) (nilA))) (repL (mLst (consA (mVar 5) (nilA))) 13) neM)) (notT (toB (callF ((runB 4 1 [] (m__law_kinds_right U TE))) (consA (bin2 (mVar 6) (callF (runB 1 0 [] (m__law_plain U TE)) nilA) addD) (nilA)))))) (retS (mC (.bl false))) (nxS)))))))) (seqS (asgS 2 (mC (.exn TE []))) (seqS (ifS (orT (notT (toB (isGM (bT U TE) (mVar 2)))) (orT (toB (mC (.bl false))) (toB (bin2 (mC (.bl true)) (sliceM (callF ((runB 2 1 [] (m__law_kinds U TE))) (consA (mVar 2) (nilA))) (noP) (someP (mC (.int 21)))) (inM false))))) (retS (mC (.bl false))) (nxS)) (retS (callF ((runB 4 1 [] (m__law_kinds_right U TE))) (consA (callF (runB 1 0 [] (m__law_bare U TE)) nilA) (nilA))))))
theorem sc_law : FnScope ["script", "at", "base", "purse", "some", "value", "made"] ["script"] (defScope (top 35)) := ⟨rfl, rfl, rfl, by decide +kernel, rfl, by decide +kernel, by decide +kernel⟩
theorem run_law {f : Addr} {fd : FuncData} (F : Fun K "law" "law" (top 35) f fd) (T : Tx K mg) (ER : Er P w K mg base U TE) {f__law_kinds_right : Addr} {fd__law_kinds_right : FuncData} (G__law_kinds_right : FnOk P w K mg base CX0 4 f__law_kinds_right fd__law_kinds_right ["made"] (fun vs H Q _ => SpF K ((runB 4 1 [] (m__law_kinds_right U TE))) vs H Q E00)) (b__law_kinds_right : Binds K fd__law_kinds_right ["made"] []) {f__law_purse : Addr} {fd__law_purse : FuncData} (G__law_purse : FnOk P w K mg base CX0 2 f__law_purse fd__law_purse ["script", "at"] (fun vs H Q _ => SpF K (F_law_purse) vs H Q E00)) (b__law_purse : Binds K fd__law_purse ["script", "at"] []) {f__law_bare : Addr} {fd__law_bare : FuncData} (G__law_bare : FnOk P w K mg base CX0 4 f__law_bare fd__law_bare [] (fun vs H Q _ => SpF K ((runB 1 0 [] (m__law_bare U TE))) vs H Q E00)) (b__law_bare : Binds K fd__law_bare [] []) {f__law_draw : Addr} {fd__law_draw : FuncData} (G__law_draw : FnOk P w K mg base CX0 2 f__law_draw fd__law_draw ["purse", "out_of"] (fun vs H Q _ => SpF K (F_law_draw) vs H Q E00)) (b__law_draw : Binds K fd__law_draw ["purse", "out_of"] []) {f__law_placed : Addr} {fd__law_placed : FuncData} (G__law_placed : FnOk P w K mg base CX0 3 f__law_placed fd__law_placed ["value"] (fun vs H Q _ => SpF K ((runB 2 1 [] (m__law_placed U TE))) vs H Q E00)) (b__law_placed : Binds K fd__law_placed ["value"] []) {f__law_named : Addr} {fd__law_named : FuncData} (G__law_named : FnOk P w K mg base CX0 3 f__law_named fd__law_named ["value"] (fun vs H Q _ => SpF K ((runB 2 1 [] (m__law_named U TE))) vs H Q E00)) (b__law_named : Binds K fd__law_named ["value"] []) {f__law_kinds : Addr} {fd__law_kinds : FuncData} (G__law_kinds : FnOk P w K mg base CX0 3 f__law_kinds fd__law_kinds ["made"] (fun vs H Q _ => SpF K ((runB 2 1 [] (m__law_kinds U TE))) vs H Q E00)) (b__law_kinds : Binds K fd__law_kinds ["made"] []) {f__law_fields : Addr} {fd__law_fields : FuncData} (G__law_fields : FnOk P w K mg base CX0 3 f__law_fields fd__law_fields ["made"] (fun vs H Q _ => SpF K ((runB 2 1 [] (m__law_fields U TE))) vs H Q E00)) (b__law_fields : Binds K fd__law_fields ["made"] []) {f__law_plain : Addr} {fd__law_plain : FuncData} (G__law_plain : FnOk P w K mg base CX0 3 f__law_plain fd__law_plain [] (fun vs H Q _ => SpF K ((runB 1 0 [] (m__law_plain U TE))) vs H Q E00)) (b__law_plain : Binds K fd__law_plain [] []) (g__law_kinds_right : mg "_law_kinds_right" = some (.ref f__law_kinds_right)) (k__law_kinds_right : PySem.W.keepIn K (.ref f__law_kinds_right) = true) (g__law_purse : mg "_law_purse" = some (.ref f__law_purse)) (k__law_purse : PySem.W.keepIn K (.ref f__law_purse) = true) (g__law_bare : mg "_law_bare" = some (.ref f__law_bare)) (k__law_bare : PySem.W.keepIn K (.ref f__law_bare) = true) (g__law_draw : mg "_law_draw" = some (.ref f__law_draw)) (k__law_draw : PySem.W.keepIn K (.ref f__law_draw) = true) (g__law_placed : mg "_law_placed" = some (.ref f__law_placed)) (k__law_placed : PySem.W.keepIn K (.ref f__law_placed) = true) (g__law_named : mg "_law_named" = some (.ref f__law_named)) (k__law_named : PySem.W.keepIn K (.ref f__law_named) = true) (g__law_kinds : mg "_law_kinds" = some (.ref f__law_kinds)) (k__law_kinds : PySem.W.keepIn K (.ref f__law_kinds) = true) (g__law_fields : mg "_law_fields" = some (.ref f__law_fields)) (k__law_fields : PySem.W.keepIn K (.ref f__law_fields) = true) (g__law_plain : mg "_law_plain" = some (.ref f__law_plain)) (k__law_plain : PySem.W.keepIn K (.ref f__law_plain) = true) :
    FnOk P w K mg base CX0 5 f fd ["script"] (fun vs H Q _ => SpF K (runB 7 1 [] (m_law U TE)) vs H Q E00) := by
  have sc := sc_law
  refine okF [] F sc (fun pn cdv A outer s H E hpn hr => ?_)
  have hu64 := hr.units
  have hu65 := room65 hr
  have hu1 := hu_of hr
  exact psx_cons (psx_for PassesOwn.never rfl (pix_range1 T.n_range (pax_cons (px_op op_adds od_add (px_int) (px_callB (call_min2 rfl) cd_min (by rfl) T.n_min (by decide +kernel) (pax_cons (px_int) (pax_cons (px_callB call_lens cd_len (by rfl) T.n_len PySem.boot_len (pax_cons (px_var (pv 0)) (pax_nil))) (pax_nil))))) (pax_nil))) (pg_name (i := 1) sc.nd rfl (by first | exact Or.inl rfl | exact Or.inr rfl)) (gb_name (np hpn (by decide))) (psx_cons (psx_set (i := 3) (np hpn (by decide)) sc.nd rfl (by first | exact Or.inl rfl | exact Or.inr rfl) (px_call G__law_purse (hr.mono (by decide)) g__law_purse k__law_purse b__law_purse (pax_cons (px_var (pv 0)) (pax_cons (px_var (pv 1)) (pax_nil))))) (psx_cons (psx_set (i := 4) (np hpn (by decide)) sc.nd rfl (by first | exact Or.inl rfl | exact Or.inr rfl) (px_lst (pax_cons (px_non) (pax_cons (px_bl) (pax_cons (px_int) (pax_cons (px_int) (pax_cons (px_op op_powW od_pow (px_int) (px_int)) (pax_cons (px_str) (pax_cons (px_str) (pax_cons (px_str) (pax_cons (px_tup (pax_nil)) (pax_cons (px_tup (pax_cons (px_str) (pax_nil))) (pax_cons (px_tup (pax_cons (px_str) (pax_cons (px_str) (pax_nil)))) (pax_cons (px_lst (pax_cons (px_str) (pax_nil))) (pax_cons (px_lst (pax_nil)) (pax_nil)))))))))))))))) (psx_cons (psx_expr (px_append (pv 4) (px_tup (pax_cons (px_tup (pax_cons (px_str) (pax_cons (px_int) (pax_nil)))) (pax_cons (px_tup (pax_cons (px_str) (pax_cons (px_int) (pax_nil)))) (pax_nil)))) (fun a b => pe_bm PySem.F.plainAttrs_list PySem.F.slot_list_append PySem.F.type_list_append mt_append a b))) (psx_cons (psx_set (i := 5) (np hpn (by decide)) sc.nd rfl (by first | exact Or.inl rfl | exact Or.inr rfl) (px_ixO (pv 4) (px_callO G__law_draw (hr.mono (by decide)) g__law_draw k__law_draw b__law_draw (pv 3) (pax_cons (px_int) (pax_nil))) (fun _ _ => rfl))) (psx_one (psx_for PassesOwn.never rfl (pix_seq (px_lst (pax_cons (px_call G__law_placed (hr.mono (by decide)) g__law_placed k__law_placed b__law_placed (pax_cons (px_var (pv 5)) (pax_nil))) (pax_cons (px_call G__law_named (hr.mono (by decide)) g__law_named k__law_named b__law_named (pax_cons (px_var (pv 5)) (pax_nil))) (pax_nil))))) (pg_name (i := 6) sc.nd rfl (by first | exact Or.inl rfl | exact Or.inr rfl)) (gb_name (np hpn (by decide))) (psx_one (psx_if ((pwx_or (pt_c (op_nes hu64) od_ne (px_call G__law_fields (hr.mono (by decide)) g__law_fields k__law_fields b__law_fields (pax_cons (px_var (pv 6)) (pax_nil))) (px_repL (px_lst (pax_cons (px_var (pv 5)) (pax_nil)))) (nomark _)) (pw_or1 (ptx_not (pt_x (px_call G__law_kinds_right (hr.mono (by decide)) g__law_kinds_right k__law_kinds_right b__law_kinds_right (pax_cons (px_op op_adds od_add (px_var (pv 6)) (px_call0 G__law_plain (hr.mono (by decide)) g__law_plain k__law_plain b__law_plain)) (pax_nil))))))).pt) (psx_one (psx_ret (px_bl))) (psx_nil)))))))))) (psx_cons (psx_set (i := 2) (np hpn (by decide)) sc.nd rfl (by first | exact Or.inl rfl | exact Or.inr rfl) (px_exc0 PySem.F.excBase_ValueError ER.xT ER.et.k ER.g_TaleError)) (psx_cons (psx_if ((pwx_or (ptx_not (pt_x (px_isGB ER.hbV (px_var (pv 2)) T.n_isinstance T.n_ValueError (by decide +kernel)))) (pwx_or (pt_x (px_isV (kitVT ER.et) T.n_isinstance T.n_ValueError (by decide +kernel) ER.g_TaleError)) (pw_or1 (pt_c (op_ins hu65) od_in (px_bl) (px_slice (px_call G__law_kinds (hr.mono (by decide)) g__law_kinds k__law_kinds b__law_kinds (pax_cons (px_var (pv 2)) (pax_nil))) (pox_none) (pox_some (px_int))) (by rfl))))).pt) (psx_one (psx_ret (px_bl))) (psx_nil)) (psx_one (psx_ret (px_call G__law_kinds_right (hr.mono (by decide)) g__law_kinds_right k__law_kinds_right b__law_kinds_right (pax_cons (px_call0 G__law_bare (hr.mono (by decide)) g__law_bare k__law_bare b__law_bare) (pax_nil)))))))
end
end BK

/-! what the law's own functions compute -/
namespace BK
open PySem L2 BT
def exL (U : Nat → Addr) (v : D) : List D := (List.range 13).map fun i => .exn (U i) [(fldN.getD i "", v)]
def plL (U : Nat → Addr) : List D := (List.range 8).map fun i => .exn (U (13 + i)) []
def kinds (U : Nat → Addr) (c : Addr) : List D := (List.range 21).map (fun i => D.bl (decide (c = U i))) ++ [.bl true]
section
variable {U : Nat → Addr} {TE : Addr}
theorem callF_at {F : Fn} {fs : M (List D)} {ds : List D} {ρ ρ' x : Rho} {s : Sl} (h : fs ρ = some (.val ds ρ')) (e : F (ds.map .dt) = some (.val s x)) : callF F fs ρ = some (.val s ρ') := by
  simp only [callF, bindM, h, e]
theorem bin2_at {f g : M Sl} {k : D → D → M Sl} {s t : Sl} {d e : D} {ρ ρ1 ρ2 : Rho} (h1 : f ρ = some (.val s ρ1)) (z1 : s.frz = some d) (h2 : g ρ1 = some (.val t ρ2)) (z2 : t.frz = some e) : bin2 f g k ρ = k d e ρ2 := by
  simp only [bin2, bindD, bindM, h1, h2, z1, z2]
theorem addL1 {a b : List D} {ρ : Rho} (h : a.length + b.length ≤ 1000) : addD (.lst a) (.lst b) ρ = some (.val (.ol (a ++ b)) ρ) := by
  simp only [addD]
  rw [if_pos (Nat.le_trans h (by rw [sizeLine_eq]; decide))]
theorem plain_val : runB 1 0 [] (m__law_plain U TE) [] = some (.val (.ol (plL U)) []) := by
  refine runB_rt (ds := []) (ρ' := ?_) ?_ rfl (by decide)
  rotate_left
  · simp [m__law_plain, seqS, asgS, bindES, retS, mLst, consA, nilA, bindD, bindM, mC, shortL, mVar, addD, sizeLine_eq, plL, List.range, List.range.loop]
    rfl
theorem callF_plain (ρ : Rho) : callF (runB 1 0 [] (m__law_plain U TE)) nilA ρ = some (.val (.ol (plL U)) ρ) := callF_at (ds := []) rfl plain_val
theorem placed_val (v : D) : runB 2 1 [] (m__law_placed U TE) [.dt v] = some (.val (.ol (exL U v)) [.dt v]) := by
  refine runB_rt (ds := [v]) (ρ' := ?_) ?_ rfl (by decide)
  rotate_left
  · simp [m__law_placed, seqS, asgS, bindES, retS, mLst, consA, nilA, bindD, bindM, mC, shortL, mVar, bin2, mkX, retD, addD, sizeLine_eq, Sl.frz, exL, fldN, List.range, List.range.loop]
    rfl
theorem named_val (v : D) : runB 2 1 [] (m__law_named U TE) [.dt v] = some (.val (.ol (exL U v)) [.dt v]) := by
  refine runB_rt (ds := [v]) (ρ' := ?_) ?_ rfl (by decide)
  rotate_left
  · simp [m__law_named, seqS, asgS, bindES, retS, mLst, consA, nilA, bindD, bindM, mC, shortL, mVar, bin2, mkX, retD, addD, sizeLine_eq, Sl.frz, exL, fldN, List.range, List.range.loop]
    rfl
theorem bare_val : runB 1 0 [] (m__law_bare U TE) [] = some (.val (.ol (exL U .non ++ plL U)) []) := by
  refine runB_rt (ds := []) (ρ' := ?_) ?_ rfl (by decide)
  rotate_left
  · simp [m__law_bare, seqS, asgS, bindES, retS, mLst, consA, nilA, bindD, bindM, mC, shortL, mVar, bin2, mkX, retD, addD, sizeLine_eq, Sl.frz, callF_plain, exL, plL, fldN, List.range, List.range.loop]
    rfl
theorem fields_val (v : D) : runB 2 1 [] (m__law_fields U TE) [.dt (.lst (exL U v))] = some (.val (.ol (List.replicate 13 v)) [.dt (.lst (exL U v))]) := by
  refine runB_rt (ds := [.lst (exL U v)]) (ρ' := ?_) ?_ rfl (by decide)
  rotate_left
  · simp [m__law_fields, seqS, asgS, bindES, retS, mLst, consA, nilA, bindD, bindM, mC, shortL, mVar, bin2, mkX, retD, addD, sizeLine_eq, Sl.frz, exL, fldN, List.range, List.range.loop, fldX, ixM, List.lookup, atI, ixN]
    rfl
theorem kinds_val {c : Addr} (fs : List (Str × D)) (h : known U TE c) : runB 2 1 [] (m__law_kinds U TE) [.dt (.exn c fs)] = some (.val (.ol (kinds U c)) [.dt (.exn c fs)]) := by
  refine runB_rt (ds := [.exn c fs]) (ρ' := ?_) ?_ rfl (by decide)
  rotate_left
  · simp [m__law_kinds, seqS, asgS, bindES, retS, mLst, consA, nilA, bindD, bindM, mC, shortL, mVar, bin2, mkX, retD, addD, sizeLine_eq, Sl.frz, isGM, isGK, bU_val h, bT_val h, kinds, List.range, List.range.loop, andV]
    rfl
end
end BK

/-! _law_kinds_right -/
namespace BK
open PySem L2 BT
def kl (k n : Nat) : D := .bl (decide (n = k ∨ n = 21))
def KL (k : Nat) : List D := (List.range 22).map (kl k)
theorem KL_ok : ∀ k, k < 21 → okD (.lst (KL k)) = true ∧ eqD (.lst (KL k)) (.lst (KL k)) = true := by decide +kernel
section
variable {U : Nat → Addr} {TE : Addr}
def Inj (U : Nat → Addr) : Prop := ∀ i j, i < 21 → j < 21 → U i = U j → i = j
theorem kinds_eq (h : Inj U) {k : Nat} (hk : k < 21) : kinds U (U k) = KL k := by
  unfold kinds KL
  have r : List.range 22 = List.range 21 ++ [21] := List.range_succ
  rw [r, List.map_append]
  congr 1
  · refine List.map_congr_left fun i hi => ?_
    have hi := List.mem_range.mp hi
    unfold kl
    congr 1
    by_cases e : i = k
    · subst e; simp
    · have e2 : ¬ U k = U i := fun z => e (h k i hk hi z).symm
      rw [decide_eq_false e2, decide_eq_false (fun z => by rcases z with z | z <;> omega)]
  · simp [kl]
def gk (k : Nat) : D → D
  | .int n => .bl (decide (n = k ∨ n = 21))
  | _ => .non
theorem gk_int (k n : Nat) : gk k (.int (0 + (n : Nat))) = kl k n := by
  show D.bl (decide _) = D.bl (decide _)
  congr 1
  refine decide_eq_decide.mpr ?_
  omega
theorem tup_two {k : Nat} {M o x : Sl} : mTup (consA (mVar 1) (consA (mC (.int 21)) (nilA))) [M, .dt (.int k), o, x] = some (.val (.dt (.tup [.int k, .int 21])) [M, .dt (.int k), o, x]) := by
  have z2 : 2 ≤ sizeLine := line_big (by decide)
  simp [z2]
theorem comp_val (M o : Sl) (k : Nat) : mComp (rangeM1 (consA (mC (.int 22)) (nilA))) [3] (bName 3) (yesT) (bin2 (mVar 3) (mTup (consA (mVar 1) (consA (mC (.int 21)) (nilA)))) (inM false)) [M, .dt (.int k), o, .un] = some (.val (.ol (KL k)) [M, .dt (.int k), o, .un]) := by
  have C := compL_map (b := bName 3) (e := bin2 (mVar 3) (mTup (consA (mVar 1) (consA (mC (.int 21)) (nilA)))) (inM false)) (vs := [3]) (ρ := [M, .dt (.int k), o, .un]) (g := gk k) (rangeD 0 22) []
    (fun d hd => by
      obtain ⟨n, hn, rfl⟩ := List.mem_map.mp hd
      refine ⟨[M, .dt (.int k), o, .dt (.int (0 + (n : Nat)))], by simp, by simp, by simp, .dt (kl k n), ?_, by rw [gk_int]; rfl⟩
      have e : inM false (.int (0 + (n : Nat))) (.tup [.int k, .int 21]) [M, .dt (.int k), o, .dt (.int (0 + (n : Nat)))] = some (.val (.dt (kl k n)) [M, .dt (.int k), o, .dt (.int (0 + (n : Nat)))]) := by
        simp only [inM, flatD, List.all_cons, List.all_nil, Bool.and_true, and_self, if_true, Bool.false_eq_true, if_false, List.any_cons, List.any_nil, Bool.or_false, eqF]
        unfold kl
        congr 4
        by_cases c1 : n = k
        · subst c1; simp
        · by_cases c2 : n = 21
          · subst c2; simp
          · have c3 : ¬ (k : Int) = 0 + (n : Int) := fun e => c1 (by omega)
            have c4 : ¬ (21 : Int) = 0 + (n : Int) := fun e => c2 (by omega)
            rw [decide_eq_false (fun z => by rcases z with z | z <;> omega), beq_false_of_ne c3, beq_false_of_ne c4]
            rfl
      exact (bin2_at (var_val rfl) rfl (tup_two (k := k)) rfl).trans e)
    (by simp [rangeD, sizeLine_eq])
  have F : (rangeD 0 22).map (gk k) = KL k := by
    unfold rangeD KL
    rw [List.map_map]
    exact List.map_congr_left fun n _ => gk_int k n
  rw [F, List.nil_append] at C
  have src : rangeM1 (consA (mC (.int 22)) (nilA)) [M, .dt (.int k), o, .un] = some (.val (rangeD 0 22) [M, .dt (.int k), o, .un]) := by simp
  have w1 : noOl [M, .dt (.int k), o, .un] [3] = true := by simp
  have w2 : wipeR [M, .dt (.int k), o, .un] [3] = [M, .dt (.int k), o, .un] := by simp
  have w3 : restR [M, .dt (.int k), o, .un] [M, .dt (.int k), o, .un] [3] = [M, .dt (.int k), o, .un] := by simp
  simp only [mComp, bindM, src, w1, if_true, w2, C, w3]
theorem known_U {k : Nat} (hk : k < 21) : known U TE (U k) := .inr (List.mem_map.mpr ⟨k, List.mem_range.mpr hk, rfl⟩)
theorem one_at {i : Nat} {d : D} {ρ : Rho} (h : ρ[i]? = some (.dt d)) : consA (mVar i) nilA ρ = some (.val [d] ρ) := one_arg (var_val h)
abbrev bodyR (U : Nat → Addr) (TE : Addr) : MS := ifS (toB (bin2 (callF ((runB 2 1 [] (m__law_kinds U TE))) (consA (mVar 2) (nilA))) (mComp (rangeM1 (consA (mC (.int 22)) (nilA))) [3] (bName 3) (yesT) (bin2 (mVar 3) (mTup (consA (mVar 1) (consA (mC (.int 21)) (nilA)))) (inM false))) neM)) (retS (mC (.bl false))) (nxS)
theorem neL {a : List D} {ρ : Rho} (h : okD (.lst a) = true ∧ eqD (.lst a) (.lst a) = true) : neM (.lst a) (.lst a) ρ = some (.val (.dt (.bl false)) ρ) := by
  simp only [neM, h, and_self, if_true]
  rfl
theorem body_r (h : Inj U) {M : Sl} {k : Nat} (hk : k < 21) (fs : List (Str × D)) : bodyR U TE [M, .dt (.int k), .dt (.exn (U k) fs), .un] = some (.nx [M, .dt (.int k), .dt (.exn (U k) fs), .un]) := by
  have e1 : callF ((runB 2 1 [] (m__law_kinds U TE))) (consA (mVar 2) (nilA)) [M, .dt (.int k), .dt (.exn (U k) fs), .un] = some (.val (.ol (KL k)) [M, .dt (.int k), .dt (.exn (U k) fs), .un]) := by
    rw [← kinds_eq h hk]
    exact callF_at (ds := [.exn (U k) fs]) (one_at rfl) (kinds_val fs (known_U hk))
  have e2 := (bin2_at (k := neM) e1 rfl (comp_val M (.dt (.exn (U k) fs)) k) rfl).trans (neL (KL_ok k hk))
  exact (ifs_val (toB_val e2)).trans rfl
def enumK (k : Nat) : List D → List D
  | [] => []
  | d :: ds => .tup [.int k, d] :: enumK (k + 1) ds
theorem enumK_eq : ∀ (ds : List D) (k : Nat), ds.mapIdx (fun i d => D.tup [.int ((k + i : Nat) : Int), d]) = enumK k ds
  | [], k => rfl
  | d :: ds, k => by
    rw [List.mapIdx_cons, enumK, ← enumK_eq ds (k + 1)]
    congr 1
    congr 1
    funext i d
    have : k + (i + 1) = k + 1 + i := by omega
    rw [this]
theorem loop_r (h : Inj U) {M : Sl} : ∀ (ds : List D) (k : Nat) (s1 s2 : Sl), (∀ i d, ds[i]? = some d → ∃ fs, d = D.exn (U (k + i)) fs) → k + ds.length ≤ 21 →
    ∃ s1' s2', loopS (bTup 2 (bCons (bName 1) (bCons (bName 2) (bNil)))) (bodyR U TE) (enumK k ds) [M, s1, s2, .un] = some (.nx [M, s1', s2', .un])
  | [], k, s1, s2, _, _ => ⟨s1, s2, rfl⟩
  | d :: ds, k, s1, s2, hd, hl => by
    obtain ⟨fs, rfl⟩ := hd 0 d rfl
    obtain ⟨a, b, L⟩ := loop_r h (M := M) ds (k + 1) (.dt (.int k)) (.dt (.exn (U k) fs)) (fun i d e => by
      obtain ⟨fs, e2⟩ := hd (i + 1) d e
      exact ⟨fs, by rw [e2]; congr 2; omega⟩) (by simp at hl; omega)
    refine ⟨a, b, (loopS_nx (ρ1 := [M, .dt (.int k), .dt (.exn (U k) fs), .un]) ?_ (body_r h (by simp at hl; omega) fs)).trans L⟩
    simp
theorem right_val (h : Inj U) {ds : List D} (hd : ∀ i d, ds[i]? = some d → ∃ fs, d = D.exn (U i) fs) (hl : ds.length ≤ 21) : runB 4 1 [] (m__law_kinds_right U TE) [.dt (.lst ds)] = some (.val (.dt (.bl true)) [.dt (.lst ds)]) := by
  obtain ⟨a, b, L⟩ := loop_r (TE := TE) h (M := .dt (.lst ds)) ds 0 .un .un (fun i d e => by rw [Nat.zero_add]; exact hd i d e) (by omega)
  have src : enumM (consA (mVar 0) (nilA)) [.dt (.lst ds), .un, .un, .un] = some (.val (enumK 0 ds) [.dt (.lst ds), .un, .un, .un]) := by
    rw [← enumK_eq]
    simp [enumL]
  refine runB_rt (ds := [.lst ds]) (ρ' := [.dt (.lst ds), a, b, .un]) ?_ rfl (by decide)
  exact (seq_nx ((fors_val src).trans L)).trans rfl
end
end BK

/-! the law is true -/
namespace BK
open PySem L2 BT
def some13 : List D := [.non, .bl true, .int 0, .int 7, .int (10 ^ 30), .str "", .str "zz", .str "a {0}", .tup [], .tup [.str "a"], .tup [.str "a", .str "b"], .lst [.str "a"], .lst []]
def ana : D := .tup [.tup [.str "ana", .int 1], .tup [.str "bo", .int 1]]
def someL : List D := some13 ++ [ana]
theorem some_ok : ∀ x ∈ someL, okD (.lst (List.replicate 13 x)) = true ∧ eqD (.lst (List.replicate 13 x)) (.lst (List.replicate 13 x)) = true := by
  have h : (someL.all fun x => okD (.lst (List.replicate 13 x)) && eqD (.lst (List.replicate 13 x)) (.lst (List.replicate 13 x))) = true := by decide +kernel
  intro x hx
  have := List.all_eq_true.mp h x hx
  rwa [Bool.and_eq_true] at this
section
variable {U : Nat → Addr} {TE : Addr}
def LQ (S a b p s v m : Sl) : Rho := [S, a, b, p, s, v, m]
theorem lst_val (ρ : Rho) : mLst (consA (mC .non) (consA (mC (.bl true)) (consA (mC (.int 0)) (consA (mC (.int 7)) (consA (bin2 (mC (.int 10)) (mC (.int 30)) powD) (consA (mC (.str "")) (consA (mC (.str "zz")) (consA (mC (.str "a {0}")) (consA (mTup (nilA)) (consA (mTup (consA (mC (.str "a")) (nilA))) (consA (mTup (consA (mC (.str "a")) (consA (mC (.str "b")) (nilA)))) (consA (mLst (consA (mC (.str "a")) (nilA))) (consA (mLst (nilA)) (nilA)))))))))))))) ρ = some (.val (.ol some13) ρ) := by
  have pw : bin2 (mC (.int 10)) (mC (.int 30)) powD ρ = some (.val (.dt (.int (10 ^ 30))) ρ) := by
    have c : 0 ≤ (30 : Int) ∧ (Builtin.Int.intBits 10 : Int) * 30 ≤ 2 ^ 27 := by decide +kernel
    simp only [bin2, bindD, bindM, mC, retD, Sl.frz, powD, intM, c, and_self, if_true]
    rfl
  have k1 : mTup nilA ρ = some (.val (.dt (.tup [])) ρ) := by simp [nilA]
  have k2 : mTup (consA (mC (.str "a")) (nilA)) ρ = some (.val (.dt (.tup [.str "a"])) ρ) := tup1 rfl rfl
  have k3 : mTup (consA (mC (.str "a")) (consA (mC (.str "b")) (nilA))) ρ = some (.val (.dt (.tup [.str "a", .str "b"])) ρ) := tup2 rfl (s := .dt (.str "b")) rfl rfl
  have k4 : mLst (consA (mC (.str "a")) (nilA)) ρ = some (.val (.ol [.str "a"]) ρ) := by simp [sizeLine_eq, shortL, nilA]
  have k5 : mLst (nilA) ρ = some (.val (.ol []) ρ) := by simp [sizeLine_eq, shortL, nilA]
  have all := cons_val (f := mC .non) (d := .non) (ρ := ρ) rfl (cons_val (f := mC (.bl true)) (d := .bl true) rfl (cons_val (f := mC (.int 0)) (d := .int 0) rfl (cons_val (f := mC (.int 7)) (d := .int 7) rfl (cons_val pw (cons_val (f := mC (.str "")) (d := .str "") rfl (cons_val (f := mC (.str "zz")) (d := .str "zz") rfl (cons_val (f := mC (.str "a {0}")) (d := .str "a {0}") rfl (cons_val k1 (cons_val k2 (cons_val k3 (cons_st k4 rfl (cons_st k5 rfl (show nilA ρ = some (.val [] ρ) from rfl)))))))))))))
  simp only [mLst, bindM, all, shortL]
  rw [if_pos (by rw [sizeLine_eq]; decide)]
  rfl
theorem app_val {S a b p v m : Sl} : dropS (appM 4 (mTup (consA (mTup (consA (mC (.str "ana")) (consA (mC (.int 1)) (nilA)))) (consA (mTup (consA (mC (.str "bo")) (consA (mC (.int 1)) (nilA)))) (nilA))))) (LQ S a b p (.ol some13) v m) = some (.nx (LQ S a b p (.ol someL) v m)) := by
  have t1 : mTup (consA (mC (.str "ana")) (consA (mC (.int 1)) (nilA))) (LQ S a b p (.ol some13) v m) = some (.val (.dt (.tup [.str "ana", .int 1])) (LQ S a b p (.ol some13) v m)) := tup2 rfl (s := .dt (.int 1)) rfl rfl
  have t2 : mTup (consA (mC (.str "bo")) (consA (mC (.int 1)) (nilA))) (LQ S a b p (.ol some13) v m) = some (.val (.dt (.tup [.str "bo", .int 1])) (LQ S a b p (.ol some13) v m)) := tup2 rfl (s := .dt (.int 1)) rfl rfl
  have t3 := tup2 t1 t2 rfl
  refine dropS_val (s := .dt .non) ?_
  simp only [appM, bindD, bindM, t3, Sl.frz]
  have z : some13.length < sizeLine := by rw [sizeLine_eq]; decide
  show (if some13.length < sizeLine then _ else none) = _
  rw [if_pos z]
  rfl
theorem ex_eq (v : D) : exL U v ++ plL U = (List.range 21).map fun i => D.exn (U i) (if i < 13 then [(fldN.getD i "", v)] else []) := by
  simp [exL, plL, List.range, List.range.loop]
theorem ex_at (v : D) : ∀ i d, (exL U v ++ plL U)[i]? = some d → ∃ fs, d = D.exn (U i) fs := fun i d h => by
  rw [ex_eq, List.getElem?_map] at h
  obtain ⟨j, hj, rfl⟩ := Option.map_eq_some_iff.mp h
  rw [List.getElem?_eq_some_iff] at hj
  obtain ⟨hl, e⟩ := hj
  have : j = i := by simpa using e.symm
  subst this
  exact ⟨_, rfl⟩
theorem ex_len (v : D) : (exL U v ++ plL U).length ≤ 21 := by rw [ex_eq]; simp
abbrev bodyM (U : Nat → Addr) (TE : Addr) : MS := ifS (orT (toB (bin2 (callF ((runB 2 1 [] (m__law_fields U TE))) (consA (mVar 6) (nilA))) (repL (mLst (consA (mVar 5) (nilA))) 13) neM)) (notT (toB (callF ((runB 4 1 [] (m__law_kinds_right U TE))) (consA (bin2 (mVar 6) (callF (runB 1 0 [] (m__law_plain U TE)) nilA) addD) (nilA)))))) (retS (mC (.bl false))) (nxS)
theorem body_m (h : Inj U) {S a b p s : Sl} {x : D} (hx : x ∈ someL) : bodyM U TE (LQ S a b p s (.dt x) (.dt (.lst (exL U x)))) = some (.nx (LQ S a b p s (.dt x) (.dt (.lst (exL U x))))) := by
  have v6 : mVar 6 (LQ S a b p s (.dt x) (.dt (.lst (exL U x)))) = some (.val (.dt (.lst (exL U x))) (LQ S a b p s (.dt x) (.dt (.lst (exL U x))))) := rfl
  have v5 : mVar 5 (LQ S a b p s (.dt x) (.dt (.lst (exL U x)))) = some (.val (.dt x) (LQ S a b p s (.dt x) (.dt (.lst (exL U x))))) := rfl
  generalize LQ S a b p s (.dt x) (.dt (.lst (exL U x))) = ρ at v5 v6 ⊢
  have e1 := callF_at (ds := [.lst (exL U x)]) (one_arg v6) (fields_val (U := U) (TE := TE) x)
  have e2 : mLst (consA (mVar 5) (nilA)) ρ = some (.val (.ol [x]) ρ) := by
    simp only [mLst, bindM, one_arg v5, shortL]
    rw [if_pos (line_big (by simp))]
  have e3 : repL (mLst (consA (mVar 5) (nilA))) 13 ρ = some (.val (.ol (List.replicate 13 x)) ρ) := by
    unfold repL
    rw [e2]
    rfl
  have e4 := toB_val ((bin2_at (k := neM) e1 rfl e3 rfl).trans (neL (some_ok x hx)))
  have e5 : bin2 (mVar 6) (callF (runB 1 0 [] (m__law_plain U TE)) nilA) addD ρ = some (.val (.ol (exL U x ++ plL U)) ρ) := (bin2_at v6 rfl (callF_plain ρ) rfl).trans (addL (by rw [← List.length_append]; have := ex_len (U := U) x; omega))
  have e6 := callF_at (ds := [.lst (exL U x ++ plL U)]) (one_st e5 rfl) (right_val (TE := TE) h (ex_at x) (ex_len x))
  have e7 : notT (toB (callF ((runB 4 1 [] (m__law_kinds_right U TE))) (consA (bin2 (mVar 6) (callF (runB 1 0 [] (m__law_plain U TE)) nilA) addD) (nilA)))) ρ = some (.val false ρ) := by
    simp only [notT, bindM, toB_val e6]
    rfl
  exact (ifs_val ((orT_f e4).trans e7)).trans rfl
theorem atI_mem {l : List D} {i : Int} (h0 : 0 ≤ i) (h1 : i < l.length) : ∃ d ∈ l, atI l i = some d := by
  obtain ⟨n, rfl⟩ := Int.eq_ofNat_of_zero_le h0
  have hn : n < l.length := by omega
  refine ⟨l[n], List.getElem_mem hn, ?_⟩
  simp [atI, ixN, hn]
abbrev bodyA (U : Nat → Addr) (TE : Addr) : MS := seqS (asgS 3 (callF F_law_purse (consA (mVar 0) (consA (mVar 1) (nilA))))) (seqS (asgS 4 (mLst (consA (mC .non) (consA (mC (.bl true)) (consA (mC (.int 0)) (consA (mC (.int 7)) (consA (bin2 (mC (.int 10)) (mC (.int 30)) powD) (consA (mC (.str "")) (consA (mC (.str "zz")) (consA (mC (.str "a {0}")) (consA (mTup (nilA)) (consA (mTup (consA (mC (.str "a")) (nilA))) (consA (mTup (consA (mC (.str "a")) (consA (mC (.str "b")) (nilA)))) (consA (mLst (consA (mC (.str "a")) (nilA))) (consA (mLst (nilA)) (nilA)))))))))))))))) (seqS (dropS (appM 4 (mTup (consA (mTup (consA (mC (.str "ana")) (consA (mC (.int 1)) (nilA)))) (consA (mTup (consA (mC (.str "bo")) (consA (mC (.int 1)) (nilA)))) (nilA)))))) (seqS (asgS 5 (ixO 4 (callO F_law_draw 3 (consA (mC (.int 14)) (nilA))))) (forS (seqD (mLst (consA (callF ((runB 2 1 [] (m__law_placed U TE))) (consA (mVar 5) (nilA))) (consA (callF ((runB 2 1 [] (m__law_named U TE))) (consA (mVar 5) (nilA))) (nilA))))) (bName 6) (bodyM U TE)))))
theorem body_a (h : Inj U) {l : List Int} (hl : l.length ≤ 1000) {k : Int} (h0 : 0 ≤ k) (h1 : k < 1000) (b p s v m : Sl) :
    ∃ (p' s' v' m' : Sl), bodyA U TE (LQ (.dt (.lst (l.map .int))) (.dt (.int k)) b p s v m) = some (.nx (LQ (.dt (.lst (l.map .int))) (.dt (.int k)) b p' s' v' m')) := by
  have two : consA (mVar 0) (consA (mVar 1) nilA) (LQ (.dt (.lst (l.map .int))) (.dt (.int k)) b p s v m) = some (.val [.lst (l.map .int), .int k] (LQ (.dt (.lst (l.map .int))) (.dt (.int k)) b p s v m)) := rfl
  have c := callF_val two (F_purse_app h0 h1 hl)
  have ok := (purse_ok l h0 h1).le (show 1 ≤ 1000 by decide)
  have r := (purse l k).r_lt (n := 14) (by decide)
  obtain ⟨x, hx, e⟩ := atI_mem (l := someL) (i := (purse l k).r 14) r.1 (by have : someL.length = 14 := rfl; omega)
  refine ⟨.ol ((purse l k).n 14).L, .ol someL, .dt x, .dt (.lst (exL U x)), ?_⟩
  refine (seq_nx (ρ' := LQ (.dt (.lst (l.map .int))) (.dt (.int k)) b (.ol (purse l k).L) s v m) (asg_val c (by simp [LQ]))).trans ?_
  refine (seq_nx (ρ' := LQ (.dt (.lst (l.map .int))) (.dt (.int k)) b (.ol (purse l k).L) (.ol some13) v m) (asg_val (lst_val _) (by simp [LQ]))).trans ?_
  refine (seq_nx app_val).trans ?_
  generalize hS : Sl.dt (D.lst (l.map .int)) = S
  have d1 := callO_at (F := F_law_draw) (j := 3) (fs := consA (mC (.int 14)) nilA) (ρ := LQ S (.dt (.int k)) b (.ol (purse l k).L) (.ol someL) v m) (es := [.int 14]) rfl rfl (F_draw_app ok (by decide) (by decide))
  have d2 : ixO 4 (callO F_law_draw 3 (consA (mC (.int 14)) (nilA))) (LQ S (.dt (.int k)) b (.ol (purse l k).L) (.ol someL) v m) = some (.val (.dt x) (LQ S (.dt (.int k)) b (.ol ((purse l k).n 14).L) (.ol someL) v m)) := by
    unfold ixO
    show bindD _ _ _ = _
    simp only [bindD, bindM, d1, Sl.frz]
    show (match atI someL _ with | some d => _ | none => none) = _
    rw [e]
    rfl
  refine (seq_nx (ρ' := LQ S (.dt (.int k)) b (.ol ((purse l k).n 14).L) (.ol someL) (.dt x) m) (asg_val d2 (by simp [LQ]))).trans ?_
  have v5 : ∀ m, mVar 5 (LQ S (.dt (.int k)) b (.ol ((purse l k).n 14).L) (.ol someL) (.dt x) m) = some (.val (.dt x) (LQ S (.dt (.int k)) b (.ol ((purse l k).n 14).L) (.ol someL) (.dt x) m)) := fun _ => rfl
  have f1 := callF_at (ds := [x]) (one_arg (v5 m)) (placed_val (U := U) (TE := TE) x)
  have f2 := callF_at (ds := [x]) (one_arg (v5 m)) (named_val (U := U) (TE := TE) x)
  have f3 := cons_st f1 rfl (one_st f2 rfl)
  have src : seqD (mLst (consA (callF ((runB 2 1 [] (m__law_placed U TE))) (consA (mVar 5) (nilA))) (consA (callF ((runB 2 1 [] (m__law_named U TE))) (consA (mVar 5) (nilA))) (nilA)))) (LQ S (.dt (.int k)) b (.ol ((purse l k).n 14).L) (.ol someL) (.dt x) m) = some (.val [.lst (exL U x), .lst (exL U x)] (LQ S (.dt (.int k)) b (.ol ((purse l k).n 14).L) (.ol someL) (.dt x) m)) := by
    simp only [seqD, bindD, mLst, bindM, f3, shortL]
    rw [if_pos (line_big (by simp))]
    rfl
  refine (fors_val src).trans ?_
  refine (loopS_nx (ρ1 := LQ S (.dt (.int k)) b (.ol ((purse l k).n 14).L) (.ol someL) (.dt x) (.dt (.lst (exL U x)))) (by simp [bName, LQ]) (body_m h hx)).trans ?_
  exact (loopS_nx (ρ1 := LQ S (.dt (.int k)) b (.ol ((purse l k).n 14).L) (.ol someL) (.dt x) (.dt (.lst (exL U x)))) (by simp [bName, LQ]) (body_m h hx)).trans rfl
theorem loop_at (h : Inj U) {l : List Int} (hl : l.length ≤ 1000) : ∀ (ds : List D), (∀ d ∈ ds, ∃ k : Int, d = .int k ∧ 0 ≤ k ∧ k < 1000) → ∀ (a b p s v m : Sl),
    ∃ (a' p' s' v' m' : Sl), loopS (bName 1) (bodyA U TE) ds (LQ (.dt (.lst (l.map .int))) a b p s v m) = some (.nx (LQ (.dt (.lst (l.map .int))) a' b p' s' v' m'))
  | [], _, a, b, p, s, v, m => ⟨a, p, s, v, m, rfl⟩
  | d :: ds, hd, a, b, p, s, v, m => by
    obtain ⟨k, rfl, h0, h1⟩ := hd d (by simp)
    obtain ⟨p1, s1, v1, m1, E⟩ := body_a (TE := TE) h hl h0 h1 b p s v m
    obtain ⟨a2, p2, s2, v2, m2, E2⟩ := loop_at h hl ds (fun x hx => hd x (by simp [hx])) (.dt (.int k)) b p1 s1 v1 m1
    exact ⟨a2, p2, s2, v2, m2, (loopS_nx (ρ1 := LQ (.dt (.lst (l.map .int))) (.dt (.int k)) b p s v m) (by simp [bName, LQ]) E).trans E2⟩
theorem src_at {l : List Int} (hl : l.length ≤ 1000) (a b p s v m : Sl) : ∃ n : Nat, n ≤ 6 ∧ rangeM1 (consA (bin2 (mC (.int 1)) (mCall minD (consA (mC (.int 5)) (consA (mCall lenD (consA (mVar 0) (nilA))) (nilA)))) addD) (nilA)) (LQ (.dt (.lst (l.map .int))) a b p s v m) = some (.val (rangeD 0 n) (LQ (.dt (.lst (l.map .int))) a b p s v m)) := by
  have zl : l.length ≤ sizeLine := line_big hl
  have v0 : mVar 0 (LQ (.dt (.lst (l.map .int))) a b p s v m) = some (.val (.dt (.lst (l.map .int))) (LQ (.dt (.lst (l.map .int))) a b p s v m)) := rfl
  generalize LQ (.dt (.lst (l.map .int))) a b p s v m = ρ at v0 ⊢
  have e1 : mCall lenD (consA (mVar 0) nilA) ρ = some (.val (.dt (.int (l.length : Nat))) ρ) := by
    have o := one_arg v0
    simp only [mCall, bindM, o]
    simp [zl]
  have e2 : ∃ m : Nat, m ≤ 5 ∧ mCall minD (consA (mC (.int 5)) (consA (mCall lenD (consA (mVar 0) (nilA))) (nilA))) ρ = some (.val (.dt (.int (m : Nat))) ρ) := by
    have two := cons_val (f := mC (.int 5)) (d := .int 5) (ρ := ρ) rfl (one_arg e1)
    have e : mCall minD (consA (mC (.int 5)) (consA (mCall lenD (consA (mVar 0) (nilA))) (nilA))) ρ = some (.val (.dt (.int (if (l.length : Int) < 5 then (l.length : Int) else 5))) ρ) := by
      simp only [mCall, bindM, two]
      rfl
    rw [e]
    by_cases c : l.length < 5
    · have c' : (l.length : Int) < 5 := by omega
      exact ⟨l.length, by omega, by rw [if_pos c']⟩
    · have c' : ¬ (l.length : Int) < 5 := by omega
      exact ⟨5, by omega, by rw [if_neg c']; rfl⟩
  obtain ⟨m, hm, e2⟩ := e2
  refine ⟨1 + m, by omega, rangeM1_val (n := 1 + m) ?_ (small62 (by omega))⟩
  refine (bin2_val (k := addD) (d := .int 1) rfl e2).trans ?_
  show some (Rs.val (Sl.dt (D.int (1 + (m : Int)))) ρ) = _
  rw [show (1 + (m : Int)) = ((1 + m : Nat) : Int) by omega]
theorem bare_ok (U : Nat → Addr) : ∀ i d, (exL U .non ++ plL U)[i]? = some d → ∃ fs, d = D.exn (U i) fs := ex_at .non
theorem law_true (h : Inj U) (hT : ∀ i, i < 21 → U i ≠ TE) {l : List Int} (hl : l.length ≤ 1000) : ∃ ρ', m_law U TE ([Sl.dt (.lst (l.map .int))] ++ List.replicate 6 .un) = some (.rt (.dt (.bl true)) ρ') := by
  show ∃ ρ', m_law U TE (LQ (.dt (.lst (l.map .int))) .un .un .un .un .un .un) = _
  obtain ⟨n, hn, src⟩ := src_at hl .un .un .un .un .un .un
  obtain ⟨a, p, s, v, m, L⟩ := loop_at (TE := TE) h hl (rangeD 0 n) (fun d hd => by
    simp only [rangeD, List.mem_map, List.mem_range] at hd
    obtain ⟨k, hk, rfl⟩ := hd
    exact ⟨_, rfl, by omega, by omega⟩) .un .un .un .un .un .un
  refine ⟨LQ (.dt (.lst (l.map .int))) a (.dt (.exn TE [])) p s v m, ?_⟩
  unfold m_law
  refine (seq_nx ((fors_val src).trans L)).trans ?_
  have q : asgS 2 (mC (.exn TE [])) (LQ (.dt (.lst (l.map .int))) a .un p s v m) = some (.nx (LQ (.dt (.lst (l.map .int))) a (.dt (.exn TE [])) p s v m)) := by simp [LQ]
  refine (seq_nx q).trans ?_
  have v2 : mVar 2 (LQ (.dt (.lst (l.map .int))) a (.dt (.exn TE [])) p s v m) = some (.val (.dt (.exn TE [])) (LQ (.dt (.lst (l.map .int))) a (.dt (.exn TE [])) p s v m)) := rfl
  generalize LQ (.dt (.lst (l.map .int))) a (.dt (.exn TE [])) p s v m = ρ at v2 ⊢
  have kT : known U TE TE := .inl rfl
  have i1 : isGM (bT U TE) (mVar 2) ρ = some (.val (.dt (.bl true)) ρ) := by
    simp only [isGM, bindD, bindM, v2, Sl.frz, isGK, bT_val kT, retD]
  have i2 : notT (toB (isGM (bT U TE) (mVar 2))) ρ = some (.val false ρ) := by
    simp only [notT, bindM, toB_val i1]
    rfl
  have i3 := callF_at (ds := [.exn TE []]) (one_arg v2) (kinds_val (U := U) (TE := TE) [] kT)
  have i4 : sliceM (callF ((runB 2 1 [] (m__law_kinds U TE))) (consA (mVar 2) (nilA))) (noP) (someP (mC (.int 21))) ρ = some (.val (.ol (List.replicate 21 (.bl false))) ρ) := by
    simp only [sliceM, bindD, bindM, i3, Sl.frz, noP, someP, mC, retD]
    have e1 : cutD (kinds U TE) none (some (21 : Int)) = List.replicate 21 (.bl false) := by
      rw [show (21 : Int) = ((21 : Nat) : Int) from rfl, cut_to]
      have e2 : (List.range 21).map (fun i => D.bl (decide (TE = U i))) = List.replicate 21 (.bl false) := by
        rw [List.map_congr_left (g := fun _ => D.bl false) (fun i hi => by rw [decide_eq_false fun z => hT i (List.mem_range.mp hi) z.symm])]
        rfl
      unfold kinds
      rw [e2]
      rfl
    rw [e1]
  have i5 : bin2 (mC (.bl true)) (sliceM (callF ((runB 2 1 [] (m__law_kinds U TE))) (consA (mVar 2) (nilA))) (noP) (someP (mC (.int 21)))) (inM false) ρ = some (.val (.dt (.bl false)) ρ) :=
    (bin2_at (s := .dt (.bl true)) (d := .bl true) rfl rfl i4 rfl).trans rfl
  refine (seq_nx (ρ' := ρ) ((ifs_val ((orT_f i2).trans ((orT_f (toB_val (b := false) rfl)).trans (toB_val i5)))).trans rfl)).trans ?_
  have b1 : callF (runB 1 0 [] (m__law_bare U TE)) nilA ρ = some (.val (.ol (exL U .non ++ plL U)) ρ) := callF_at (ds := []) rfl bare_val
  exact ret_val (callF_at (ds := [.lst (exL U .non ++ plL U)]) (one_st b1 rfl) (right_val (TE := TE) h (ex_at .non) (ex_len .non)))
end
end BK

/-! the errors with fields: their __init__ -/
namespace BK
open PySem PySem.Spec PyProof.Rows L2 BT
theorem bindsKw {K : PySem.W.Frag} {x qual : Str} {params : Arguments} {body : List Stmt} {scope : Scope} {dvs : List V} {kws : List (Str × V)} {f : Addr} {fd : FuncData} (F : FunD K x qual params body scope dvs kws f fd) (hd : dvs ≠ []) {s : Shared} {us : List Value} {kw vs : List (Str × Value)} (X : K.In s.heap)
    (h : ∀ (T : Addr) (kV doc pm : Value) (an : Option Addr) (cdv ct : Value) (its : List Value), its.length = dvs.length → ∃ k, bindArgs (PySem.W.fnOf x qual params body scope (.ref T) kV doc pm an cdv ct) ⟨us, kw⟩ = seqItems? (.ref T) >>= k ∧ k (some its.toArray) = pure vs) : BindsTo s fd ⟨us, kw⟩ vs := by
  obtain ⟨oc, od, dV, kV, doc, pm, an, cdv, ct, osl, rfl, lk, hcd, hD, hK⟩ := F.ex
  rcases hD with ⟨e, _⟩ | ⟨_, T, o, its, m, rfl, lT, oT, rT⟩
  · exact absurd e hd
  · obtain ⟨k, e1, e2⟩ := h T kV doc pm an cdv ct its rT.length.symm
    refine BindsTo.of_looks fun M => ?_
    rw [e1]
    exact looks_items X lT oT (.of_pure e2)
theorem mk_ecx {K : PySem.W.Frag} {C TE : Addr} (E : Ec K (.ref TE :: veTail) C) : OexC K C := E.oex (by rfl) (by rfl)
section
variable {P : Program} {w : World} {K : PySem.W.Frag} {mg : Str → Option Value} {base : Heap} {C TE : Addr}
theorem mkr_0 {fI : Addr} {fd : FuncData} (F : FunD K "__init__" "InvalidTale.__init__" (defArgs (inClass (top 2) 0)) (defBody (inClass (top 2) 0)) (defScope (inClass (top 2) 0)) [.non] [] fI fd) (E : Ec K (.ref TE :: veTail) C) (no : PySem.W.findIn K (.ref C) "problem" = some none) (iC : PySem.W.findIn K (.ref C) "__init__" = some (some (.ref fI))) (tI : PySem.W.typeIn K (.ref fI) = some (.type "function")) : Mkr P w K mg base C "problem" := by
  have sc : FnScope ["self", "problem"] ["self", "problem"] (defScope (inClass (top 2) 0)) := ⟨rfl, rfl, rfl, by decide +kernel, rfl, by decide +kernel, by decide +kernel⟩
  refine ⟨mk_ecx E, no, fI, fd, iC, tI, ?_, ?_, ?_, ?_⟩
  · refine F.ok sc (fun vs H Q E h => ?_) (fun cdv A outer s H vs Q E' hr h => ?_)
    · obtain ⟨a, y, rfl, _⟩ := h
      rfl
    · obtain ⟨a, y, rfl, ha, k⟩ := h
      exact ⟨_, pss_one (ps_ost (pv 0) (pv 1)), _, rfl, _, rfl, a, C, rfl, mk_ecx E, no, .inl ⟨ha, fun dx h n => k dx h n⟩⟩
  · obtain ⟨ds, v, b⟩ := F.binds1 (ps := ["self", "problem"]) 2 1 (by simp) rfl (fun T kV doc pm an cdv ct us its h1 h2 => by
      match us, its, h1, h2 with
      | [_, _], [_], _, _ => exact ⟨_, rfl, rfl⟩)
    cases v
    exact b
  · intro s a ws X hl
    match ws, hl with
    | [u], _ => exact bindsKw F (by simp) X (fun T kV doc pm an cdv ct its h2 => match its, h2 with | [_], _ => ⟨_, rfl, rfl⟩)
  · exact F.binds1 (ps := ["self", "problem"]) 1 0 (by simp) rfl (fun T kV doc pm an cdv ct us its h1 h2 => by
      match us, its, h1, h2 with
      | [_], [_], _, _ => exact ⟨_, rfl, rfl⟩)
theorem mkr_1 {fI : Addr} {fd : FuncData} (F : FunD K "__init__" "InvalidTimeline.__init__" (defArgs (inClass (top 5) 0)) (defBody (inClass (top 5) 0)) (defScope (inClass (top 5) 0)) [.non] [] fI fd) (E : Ec K (.ref TE :: veTail) C) (no : PySem.W.findIn K (.ref C) "problem" = some none) (iC : PySem.W.findIn K (.ref C) "__init__" = some (some (.ref fI))) (tI : PySem.W.typeIn K (.ref fI) = some (.type "function")) : Mkr P w K mg base C "problem" := by
  have sc : FnScope ["self", "problem"] ["self", "problem"] (defScope (inClass (top 5) 0)) := ⟨rfl, rfl, rfl, by decide +kernel, rfl, by decide +kernel, by decide +kernel⟩
  refine ⟨mk_ecx E, no, fI, fd, iC, tI, ?_, ?_, ?_, ?_⟩
  · refine F.ok sc (fun vs H Q E h => ?_) (fun cdv A outer s H vs Q E' hr h => ?_)
    · obtain ⟨a, y, rfl, _⟩ := h
      rfl
    · obtain ⟨a, y, rfl, ha, k⟩ := h
      exact ⟨_, pss_one (ps_ost (pv 0) (pv 1)), _, rfl, _, rfl, a, C, rfl, mk_ecx E, no, .inl ⟨ha, fun dx h n => k dx h n⟩⟩
  · obtain ⟨ds, v, b⟩ := F.binds1 (ps := ["self", "problem"]) 2 1 (by simp) rfl (fun T kV doc pm an cdv ct us its h1 h2 => by
      match us, its, h1, h2 with
      | [_, _], [_], _, _ => exact ⟨_, rfl, rfl⟩)
    cases v
    exact b
  · intro s a ws X hl
    match ws, hl with
    | [u], _ => exact bindsKw F (by simp) X (fun T kV doc pm an cdv ct its h2 => match its, h2 with | [_], _ => ⟨_, rfl, rfl⟩)
  · exact F.binds1 (ps := ["self", "problem"]) 1 0 (by simp) rfl (fun T kV doc pm an cdv ct us its h1 h2 => by
      match us, its, h1, h2 with
      | [_], [_], _, _ => exact ⟨_, rfl, rfl⟩)
theorem mkr_2 {fI : Addr} {fd : FuncData} (F : FunD K "__init__" "InvalidTellers.__init__" (defArgs (inClass (top 7) 0)) (defBody (inClass (top 7) 0)) (defScope (inClass (top 7) 0)) [.non] [] fI fd) (E : Ec K (.ref TE :: veTail) C) (no : PySem.W.findIn K (.ref C) "problem" = some none) (iC : PySem.W.findIn K (.ref C) "__init__" = some (some (.ref fI))) (tI : PySem.W.typeIn K (.ref fI) = some (.type "function")) : Mkr P w K mg base C "problem" := by
  have sc : FnScope ["self", "problem"] ["self", "problem"] (defScope (inClass (top 7) 0)) := ⟨rfl, rfl, rfl, by decide +kernel, rfl, by decide +kernel, by decide +kernel⟩
  refine ⟨mk_ecx E, no, fI, fd, iC, tI, ?_, ?_, ?_, ?_⟩
  · refine F.ok sc (fun vs H Q E h => ?_) (fun cdv A outer s H vs Q E' hr h => ?_)
    · obtain ⟨a, y, rfl, _⟩ := h
      rfl
    · obtain ⟨a, y, rfl, ha, k⟩ := h
      exact ⟨_, pss_one (ps_ost (pv 0) (pv 1)), _, rfl, _, rfl, a, C, rfl, mk_ecx E, no, .inl ⟨ha, fun dx h n => k dx h n⟩⟩
  · obtain ⟨ds, v, b⟩ := F.binds1 (ps := ["self", "problem"]) 2 1 (by simp) rfl (fun T kV doc pm an cdv ct us its h1 h2 => by
      match us, its, h1, h2 with
      | [_, _], [_], _, _ => exact ⟨_, rfl, rfl⟩)
    cases v
    exact b
  · intro s a ws X hl
    match ws, hl with
    | [u], _ => exact bindsKw F (by simp) X (fun T kV doc pm an cdv ct its h2 => match its, h2 with | [_], _ => ⟨_, rfl, rfl⟩)
  · exact F.binds1 (ps := ["self", "problem"]) 1 0 (by simp) rfl (fun T kV doc pm an cdv ct us its h1 h2 => by
      match us, its, h1, h2 with
      | [_], [_], _, _ => exact ⟨_, rfl, rfl⟩)
theorem mkr_3 {fI : Addr} {fd : FuncData} (F : FunD K "__init__" "InvalidReport.__init__" (defArgs (inClass (top 16) 0)) (defBody (inClass (top 16) 0)) (defScope (inClass (top 16) 0)) [.non] [] fI fd) (E : Ec K (.ref TE :: veTail) C) (no : PySem.W.findIn K (.ref C) "problem" = some none) (iC : PySem.W.findIn K (.ref C) "__init__" = some (some (.ref fI))) (tI : PySem.W.typeIn K (.ref fI) = some (.type "function")) : Mkr P w K mg base C "problem" := by
  have sc : FnScope ["self", "problem"] ["self", "problem"] (defScope (inClass (top 16) 0)) := ⟨rfl, rfl, rfl, by decide +kernel, rfl, by decide +kernel, by decide +kernel⟩
  refine ⟨mk_ecx E, no, fI, fd, iC, tI, ?_, ?_, ?_, ?_⟩
  · refine F.ok sc (fun vs H Q E h => ?_) (fun cdv A outer s H vs Q E' hr h => ?_)
    · obtain ⟨a, y, rfl, _⟩ := h
      rfl
    · obtain ⟨a, y, rfl, ha, k⟩ := h
      exact ⟨_, pss_one (ps_ost (pv 0) (pv 1)), _, rfl, _, rfl, a, C, rfl, mk_ecx E, no, .inl ⟨ha, fun dx h n => k dx h n⟩⟩
  · obtain ⟨ds, v, b⟩ := F.binds1 (ps := ["self", "problem"]) 2 1 (by simp) rfl (fun T kV doc pm an cdv ct us its h1 h2 => by
      match us, its, h1, h2 with
      | [_, _], [_], _, _ => exact ⟨_, rfl, rfl⟩)
    cases v
    exact b
  · intro s a ws X hl
    match ws, hl with
    | [u], _ => exact bindsKw F (by simp) X (fun T kV doc pm an cdv ct its h2 => match its, h2 with | [_], _ => ⟨_, rfl, rfl⟩)
  · exact F.binds1 (ps := ["self", "problem"]) 1 0 (by simp) rfl (fun T kV doc pm an cdv ct us its h1 h2 => by
      match us, its, h1, h2 with
      | [_], [_], _, _ => exact ⟨_, rfl, rfl⟩)
theorem mkr_4 {fI : Addr} {fd : FuncData} (F : FunD K "__init__" "InvalidText.__init__" (defArgs (inClass (top 3) 0)) (defBody (inClass (top 3) 0)) (defScope (inClass (top 3) 0)) [.non] [] fI fd) (E : Ec K (.ref TE :: veTail) C) (no : PySem.W.findIn K (.ref C) "line" = some none) (iC : PySem.W.findIn K (.ref C) "__init__" = some (some (.ref fI))) (tI : PySem.W.typeIn K (.ref fI) = some (.type "function")) : Mkr P w K mg base C "line" := by
  have sc : FnScope ["self", "line"] ["self", "line"] (defScope (inClass (top 3) 0)) := ⟨rfl, rfl, rfl, by decide +kernel, rfl, by decide +kernel, by decide +kernel⟩
  refine ⟨mk_ecx E, no, fI, fd, iC, tI, ?_, ?_, ?_, ?_⟩
  · refine F.ok sc (fun vs H Q E h => ?_) (fun cdv A outer s H vs Q E' hr h => ?_)
    · obtain ⟨a, y, rfl, _⟩ := h
      rfl
    · obtain ⟨a, y, rfl, ha, k⟩ := h
      exact ⟨_, pss_one (ps_ost (pv 0) (pv 1)), _, rfl, _, rfl, a, C, rfl, mk_ecx E, no, .inl ⟨ha, fun dx h n => k dx h n⟩⟩
  · obtain ⟨ds, v, b⟩ := F.binds1 (ps := ["self", "line"]) 2 1 (by simp) rfl (fun T kV doc pm an cdv ct us its h1 h2 => by
      match us, its, h1, h2 with
      | [_, _], [_], _, _ => exact ⟨_, rfl, rfl⟩)
    cases v
    exact b
  · intro s a ws X hl
    match ws, hl with
    | [u], _ => exact bindsKw F (by simp) X (fun T kV doc pm an cdv ct its h2 => match its, h2 with | [_], _ => ⟨_, rfl, rfl⟩)
  · exact F.binds1 (ps := ["self", "line"]) 1 0 (by simp) rfl (fun T kV doc pm an cdv ct us its h1 h2 => by
      match us, its, h1, h2 with
      | [_], [_], _, _ => exact ⟨_, rfl, rfl⟩)
theorem mkr_5 {fI : Addr} {fd : FuncData} (F : FunD K "__init__" "UnknownMoment.__init__" (defArgs (inClass (top 4) 0)) (defBody (inClass (top 4) 0)) (defScope (inClass (top 4) 0)) [.non] [] fI fd) (E : Ec K (.ref TE :: veTail) C) (no : PySem.W.findIn K (.ref C) "name" = some none) (iC : PySem.W.findIn K (.ref C) "__init__" = some (some (.ref fI))) (tI : PySem.W.typeIn K (.ref fI) = some (.type "function")) : Mkr P w K mg base C "name" := by
  have sc : FnScope ["self", "name"] ["self", "name"] (defScope (inClass (top 4) 0)) := ⟨rfl, rfl, rfl, by decide +kernel, rfl, by decide +kernel, by decide +kernel⟩
  refine ⟨mk_ecx E, no, fI, fd, iC, tI, ?_, ?_, ?_, ?_⟩
  · refine F.ok sc (fun vs H Q E h => ?_) (fun cdv A outer s H vs Q E' hr h => ?_)
    · obtain ⟨a, y, rfl, _⟩ := h
      rfl
    · obtain ⟨a, y, rfl, ha, k⟩ := h
      exact ⟨_, pss_one (ps_ost (pv 0) (pv 1)), _, rfl, _, rfl, a, C, rfl, mk_ecx E, no, .inl ⟨ha, fun dx h n => k dx h n⟩⟩
  · obtain ⟨ds, v, b⟩ := F.binds1 (ps := ["self", "name"]) 2 1 (by simp) rfl (fun T kV doc pm an cdv ct us its h1 h2 => by
      match us, its, h1, h2 with
      | [_, _], [_], _, _ => exact ⟨_, rfl, rfl⟩)
    cases v
    exact b
  · intro s a ws X hl
    match ws, hl with
    | [u], _ => exact bindsKw F (by simp) X (fun T kV doc pm an cdv ct its h2 => match its, h2 with | [_], _ => ⟨_, rfl, rfl⟩)
  · exact F.binds1 (ps := ["self", "name"]) 1 0 (by simp) rfl (fun T kV doc pm an cdv ct us its h1 h2 => by
      match us, its, h1, h2 with
      | [_], [_], _, _ => exact ⟨_, rfl, rfl⟩)
theorem mkr_6 {fI : Addr} {fd : FuncData} (F : FunD K "__init__" "InvalidName.__init__" (defArgs (inClass (top 10) 0)) (defBody (inClass (top 10) 0)) (defScope (inClass (top 10) 0)) [.non] [] fI fd) (E : Ec K (.ref TE :: veTail) C) (no : PySem.W.findIn K (.ref C) "name" = some none) (iC : PySem.W.findIn K (.ref C) "__init__" = some (some (.ref fI))) (tI : PySem.W.typeIn K (.ref fI) = some (.type "function")) : Mkr P w K mg base C "name" := by
  have sc : FnScope ["self", "name"] ["self", "name"] (defScope (inClass (top 10) 0)) := ⟨rfl, rfl, rfl, by decide +kernel, rfl, by decide +kernel, by decide +kernel⟩
  refine ⟨mk_ecx E, no, fI, fd, iC, tI, ?_, ?_, ?_, ?_⟩
  · refine F.ok sc (fun vs H Q E h => ?_) (fun cdv A outer s H vs Q E' hr h => ?_)
    · obtain ⟨a, y, rfl, _⟩ := h
      rfl
    · obtain ⟨a, y, rfl, ha, k⟩ := h
      exact ⟨_, pss_one (ps_ost (pv 0) (pv 1)), _, rfl, _, rfl, a, C, rfl, mk_ecx E, no, .inl ⟨ha, fun dx h n => k dx h n⟩⟩
  · obtain ⟨ds, v, b⟩ := F.binds1 (ps := ["self", "name"]) 2 1 (by simp) rfl (fun T kV doc pm an cdv ct us its h1 h2 => by
      match us, its, h1, h2 with
      | [_, _], [_], _, _ => exact ⟨_, rfl, rfl⟩)
    cases v
    exact b
  · intro s a ws X hl
    match ws, hl with
    | [u], _ => exact bindsKw F (by simp) X (fun T kV doc pm an cdv ct its h2 => match its, h2 with | [_], _ => ⟨_, rfl, rfl⟩)
  · exact F.binds1 (ps := ["self", "name"]) 1 0 (by simp) rfl (fun T kV doc pm an cdv ct us its h1 h2 => by
      match us, its, h1, h2 with
      | [_], [_], _, _ => exact ⟨_, rfl, rfl⟩)
theorem mkr_7 {fI : Addr} {fd : FuncData} (F : FunD K "__init__" "Conflict.__init__" (defArgs (inClass (top 8) 0)) (defBody (inClass (top 8) 0)) (defScope (inClass (top 8) 0)) [.non] [] fI fd) (E : Ec K (.ref TE :: veTail) C) (no : PySem.W.findIn K (.ref C) "ring" = some none) (iC : PySem.W.findIn K (.ref C) "__init__" = some (some (.ref fI))) (tI : PySem.W.typeIn K (.ref fI) = some (.type "function")) : Mkr P w K mg base C "ring" := by
  have sc : FnScope ["self", "ring"] ["self", "ring"] (defScope (inClass (top 8) 0)) := ⟨rfl, rfl, rfl, by decide +kernel, rfl, by decide +kernel, by decide +kernel⟩
  refine ⟨mk_ecx E, no, fI, fd, iC, tI, ?_, ?_, ?_, ?_⟩
  · refine F.ok sc (fun vs H Q E h => ?_) (fun cdv A outer s H vs Q E' hr h => ?_)
    · obtain ⟨a, y, rfl, _⟩ := h
      rfl
    · obtain ⟨a, y, rfl, ha, k⟩ := h
      exact ⟨_, pss_one (ps_ost (pv 0) (pv 1)), _, rfl, _, rfl, a, C, rfl, mk_ecx E, no, .inl ⟨ha, fun dx h n => k dx h n⟩⟩
  · obtain ⟨ds, v, b⟩ := F.binds1 (ps := ["self", "ring"]) 2 1 (by simp) rfl (fun T kV doc pm an cdv ct us its h1 h2 => by
      match us, its, h1, h2 with
      | [_, _], [_], _, _ => exact ⟨_, rfl, rfl⟩)
    cases v
    exact b
  · intro s a ws X hl
    match ws, hl with
    | [u], _ => exact bindsKw F (by simp) X (fun T kV doc pm an cdv ct its h2 => match its, h2 with | [_], _ => ⟨_, rfl, rfl⟩)
  · exact F.binds1 (ps := ["self", "ring"]) 1 0 (by simp) rfl (fun T kV doc pm an cdv ct us its h1 h2 => by
      match us, its, h1, h2 with
      | [_], [_], _, _ => exact ⟨_, rfl, rfl⟩)
theorem mkr_8 {fI : Addr} {fd : FuncData} (F : FunD K "__init__" "OutOfRange.__init__" (defArgs (inClass (top 15) 0)) (defBody (inClass (top 15) 0)) (defScope (inClass (top 15) 0)) [.non] [] fI fd) (E : Ec K (.ref TE :: veTail) C) (no : PySem.W.findIn K (.ref C) "count" = some none) (iC : PySem.W.findIn K (.ref C) "__init__" = some (some (.ref fI))) (tI : PySem.W.typeIn K (.ref fI) = some (.type "function")) : Mkr P w K mg base C "count" := by
  have sc : FnScope ["self", "count"] ["self", "count"] (defScope (inClass (top 15) 0)) := ⟨rfl, rfl, rfl, by decide +kernel, rfl, by decide +kernel, by decide +kernel⟩
  refine ⟨mk_ecx E, no, fI, fd, iC, tI, ?_, ?_, ?_, ?_⟩
  · refine F.ok sc (fun vs H Q E h => ?_) (fun cdv A outer s H vs Q E' hr h => ?_)
    · obtain ⟨a, y, rfl, _⟩ := h
      rfl
    · obtain ⟨a, y, rfl, ha, k⟩ := h
      exact ⟨_, pss_one (ps_ost (pv 0) (pv 1)), _, rfl, _, rfl, a, C, rfl, mk_ecx E, no, .inl ⟨ha, fun dx h n => k dx h n⟩⟩
  · obtain ⟨ds, v, b⟩ := F.binds1 (ps := ["self", "count"]) 2 1 (by simp) rfl (fun T kV doc pm an cdv ct us its h1 h2 => by
      match us, its, h1, h2 with
      | [_, _], [_], _, _ => exact ⟨_, rfl, rfl⟩)
    cases v
    exact b
  · intro s a ws X hl
    match ws, hl with
    | [u], _ => exact bindsKw F (by simp) X (fun T kV doc pm an cdv ct its h2 => match its, h2 with | [_], _ => ⟨_, rfl, rfl⟩)
  · exact F.binds1 (ps := ["self", "count"]) 1 0 (by simp) rfl (fun T kV doc pm an cdv ct us its h1 h2 => by
      match us, its, h1, h2 with
      | [_], [_], _, _ => exact ⟨_, rfl, rfl⟩)
theorem mkr_9 {fI : Addr} {fd : FuncData} (F : FunD K "__init__" "NoFit.__init__" (defArgs (inClass (top 17) 0)) (defBody (inClass (top 17) 0)) (defScope (inClass (top 17) 0)) [.non] [] fI fd) (E : Ec K (.ref TE :: veTail) C) (no : PySem.W.findIn K (.ref C) "number" = some none) (iC : PySem.W.findIn K (.ref C) "__init__" = some (some (.ref fI))) (tI : PySem.W.typeIn K (.ref fI) = some (.type "function")) : Mkr P w K mg base C "number" := by
  have sc : FnScope ["self", "number"] ["self", "number"] (defScope (inClass (top 17) 0)) := ⟨rfl, rfl, rfl, by decide +kernel, rfl, by decide +kernel, by decide +kernel⟩
  refine ⟨mk_ecx E, no, fI, fd, iC, tI, ?_, ?_, ?_, ?_⟩
  · refine F.ok sc (fun vs H Q E h => ?_) (fun cdv A outer s H vs Q E' hr h => ?_)
    · obtain ⟨a, y, rfl, _⟩ := h
      rfl
    · obtain ⟨a, y, rfl, ha, k⟩ := h
      exact ⟨_, pss_one (ps_ost (pv 0) (pv 1)), _, rfl, _, rfl, a, C, rfl, mk_ecx E, no, .inl ⟨ha, fun dx h n => k dx h n⟩⟩
  · obtain ⟨ds, v, b⟩ := F.binds1 (ps := ["self", "number"]) 2 1 (by simp) rfl (fun T kV doc pm an cdv ct us its h1 h2 => by
      match us, its, h1, h2 with
      | [_, _], [_], _, _ => exact ⟨_, rfl, rfl⟩)
    cases v
    exact b
  · intro s a ws X hl
    match ws, hl with
    | [u], _ => exact bindsKw F (by simp) X (fun T kV doc pm an cdv ct its h2 => match its, h2 with | [_], _ => ⟨_, rfl, rfl⟩)
  · exact F.binds1 (ps := ["self", "number"]) 1 0 (by simp) rfl (fun T kV doc pm an cdv ct us its h1 h2 => by
      match us, its, h1, h2 with
      | [_], [_], _, _ => exact ⟨_, rfl, rfl⟩)
theorem mkr_10 {fI : Addr} {fd : FuncData} (F : FunD K "__init__" "Mismatch.__init__" (defArgs (inClass (top 18) 0)) (defBody (inClass (top 18) 0)) (defScope (inClass (top 18) 0)) [.non] [] fI fd) (E : Ec K (.ref TE :: veTail) C) (no : PySem.W.findIn K (.ref C) "number" = some none) (iC : PySem.W.findIn K (.ref C) "__init__" = some (some (.ref fI))) (tI : PySem.W.typeIn K (.ref fI) = some (.type "function")) : Mkr P w K mg base C "number" := by
  have sc : FnScope ["self", "number"] ["self", "number"] (defScope (inClass (top 18) 0)) := ⟨rfl, rfl, rfl, by decide +kernel, rfl, by decide +kernel, by decide +kernel⟩
  refine ⟨mk_ecx E, no, fI, fd, iC, tI, ?_, ?_, ?_, ?_⟩
  · refine F.ok sc (fun vs H Q E h => ?_) (fun cdv A outer s H vs Q E' hr h => ?_)
    · obtain ⟨a, y, rfl, _⟩ := h
      rfl
    · obtain ⟨a, y, rfl, ha, k⟩ := h
      exact ⟨_, pss_one (ps_ost (pv 0) (pv 1)), _, rfl, _, rfl, a, C, rfl, mk_ecx E, no, .inl ⟨ha, fun dx h n => k dx h n⟩⟩
  · obtain ⟨ds, v, b⟩ := F.binds1 (ps := ["self", "number"]) 2 1 (by simp) rfl (fun T kV doc pm an cdv ct us its h1 h2 => by
      match us, its, h1, h2 with
      | [_, _], [_], _, _ => exact ⟨_, rfl, rfl⟩)
    cases v
    exact b
  · intro s a ws X hl
    match ws, hl with
    | [u], _ => exact bindsKw F (by simp) X (fun T kV doc pm an cdv ct its h2 => match its, h2 with | [_], _ => ⟨_, rfl, rfl⟩)
  · exact F.binds1 (ps := ["self", "number"]) 1 0 (by simp) rfl (fun T kV doc pm an cdv ct us its h1 h2 => by
      match us, its, h1, h2 with
      | [_], [_], _, _ => exact ⟨_, rfl, rfl⟩)
theorem mkr_11 {fI : Addr} {fd : FuncData} (F : FunD K "__init__" "InvalidPlace.__init__" (defArgs (inClass (top 19) 0)) (defBody (inClass (top 19) 0)) (defScope (inClass (top 19) 0)) [.non] [] fI fd) (E : Ec K (.ref TE :: veTail) C) (no : PySem.W.findIn K (.ref C) "index" = some none) (iC : PySem.W.findIn K (.ref C) "__init__" = some (some (.ref fI))) (tI : PySem.W.typeIn K (.ref fI) = some (.type "function")) : Mkr P w K mg base C "index" := by
  have sc : FnScope ["self", "index"] ["self", "index"] (defScope (inClass (top 19) 0)) := ⟨rfl, rfl, rfl, by decide +kernel, rfl, by decide +kernel, by decide +kernel⟩
  refine ⟨mk_ecx E, no, fI, fd, iC, tI, ?_, ?_, ?_, ?_⟩
  · refine F.ok sc (fun vs H Q E h => ?_) (fun cdv A outer s H vs Q E' hr h => ?_)
    · obtain ⟨a, y, rfl, _⟩ := h
      rfl
    · obtain ⟨a, y, rfl, ha, k⟩ := h
      exact ⟨_, pss_one (ps_ost (pv 0) (pv 1)), _, rfl, _, rfl, a, C, rfl, mk_ecx E, no, .inl ⟨ha, fun dx h n => k dx h n⟩⟩
  · obtain ⟨ds, v, b⟩ := F.binds1 (ps := ["self", "index"]) 2 1 (by simp) rfl (fun T kV doc pm an cdv ct us its h1 h2 => by
      match us, its, h1, h2 with
      | [_, _], [_], _, _ => exact ⟨_, rfl, rfl⟩)
    cases v
    exact b
  · intro s a ws X hl
    match ws, hl with
    | [u], _ => exact bindsKw F (by simp) X (fun T kV doc pm an cdv ct its h2 => match its, h2 with | [_], _ => ⟨_, rfl, rfl⟩)
  · exact F.binds1 (ps := ["self", "index"]) 1 0 (by simp) rfl (fun T kV doc pm an cdv ct us its h1 h2 => by
      match us, its, h1, h2 with
      | [_], [_], _, _ => exact ⟨_, rfl, rfl⟩)
theorem mkr_12 {fI : Addr} {fd : FuncData} (F : FunD K "__init__" "InvalidAnswer.__init__" (defArgs (inClass (top 22) 0)) (defBody (inClass (top 22) 0)) (defScope (inClass (top 22) 0)) [.non] [] fI fd) (E : Ec K (.ref TE :: veTail) C) (no : PySem.W.findIn K (.ref C) "first" = some none) (iC : PySem.W.findIn K (.ref C) "__init__" = some (some (.ref fI))) (tI : PySem.W.typeIn K (.ref fI) = some (.type "function")) : Mkr P w K mg base C "first" := by
  have sc : FnScope ["self", "first"] ["self", "first"] (defScope (inClass (top 22) 0)) := ⟨rfl, rfl, rfl, by decide +kernel, rfl, by decide +kernel, by decide +kernel⟩
  refine ⟨mk_ecx E, no, fI, fd, iC, tI, ?_, ?_, ?_, ?_⟩
  · refine F.ok sc (fun vs H Q E h => ?_) (fun cdv A outer s H vs Q E' hr h => ?_)
    · obtain ⟨a, y, rfl, _⟩ := h
      rfl
    · obtain ⟨a, y, rfl, ha, k⟩ := h
      exact ⟨_, pss_one (ps_ost (pv 0) (pv 1)), _, rfl, _, rfl, a, C, rfl, mk_ecx E, no, .inl ⟨ha, fun dx h n => k dx h n⟩⟩
  · obtain ⟨ds, v, b⟩ := F.binds1 (ps := ["self", "first"]) 2 1 (by simp) rfl (fun T kV doc pm an cdv ct us its h1 h2 => by
      match us, its, h1, h2 with
      | [_, _], [_], _, _ => exact ⟨_, rfl, rfl⟩)
    cases v
    exact b
  · intro s a ws X hl
    match ws, hl with
    | [u], _ => exact bindsKw F (by simp) X (fun T kV doc pm an cdv ct its h2 => match its, h2 with | [_], _ => ⟨_, rfl, rfl⟩)
  · exact F.binds1 (ps := ["self", "first"]) 1 0 (by simp) rfl (fun T kV doc pm an cdv ct us its h1 h2 => by
      match us, its, h1, h2 with
      | [_], [_], _, _ => exact ⟨_, rfl, rfl⟩)
end
end BK

namespace BK
open PySem PyProof.Rows L2 BT
theorem room9 : Room 9 callerA := ⟨rfl, by decide, by decide⟩
section
variable {P : Program} {w : World} {K : PySem.W.Frag} {mg : Str → Option Value} {base : Heap} {U : Nat → Addr} {TE : Addr}
theorem ps_law (T : Tx K mg) (ER : Er P w K mg base U TE) {f__law_kinds_right : Addr} {fd__law_kinds_right : FuncData} (G__law_kinds_right : FnOk P w K mg base CX0 4 f__law_kinds_right fd__law_kinds_right ["made"] (fun vs H Q _ => SpF K ((runB 4 1 [] (m__law_kinds_right U TE))) vs H Q E00)) (b__law_kinds_right : Binds K fd__law_kinds_right ["made"] []) {f__law_purse : Addr} {fd__law_purse : FuncData} (G__law_purse : FnOk P w K mg base CX0 2 f__law_purse fd__law_purse ["script", "at"] (fun vs H Q _ => SpF K (F_law_purse) vs H Q E00)) (b__law_purse : Binds K fd__law_purse ["script", "at"] []) {f__law_bare : Addr} {fd__law_bare : FuncData} (G__law_bare : FnOk P w K mg base CX0 4 f__law_bare fd__law_bare [] (fun vs H Q _ => SpF K ((runB 1 0 [] (m__law_bare U TE))) vs H Q E00)) (b__law_bare : Binds K fd__law_bare [] []) {f__law_draw : Addr} {fd__law_draw : FuncData} (G__law_draw : FnOk P w K mg base CX0 2 f__law_draw fd__law_draw ["purse", "out_of"] (fun vs H Q _ => SpF K (F_law_draw) vs H Q E00)) (b__law_draw : Binds K fd__law_draw ["purse", "out_of"] []) {f__law_placed : Addr} {fd__law_placed : FuncData} (G__law_placed : FnOk P w K mg base CX0 3 f__law_placed fd__law_placed ["value"] (fun vs H Q _ => SpF K ((runB 2 1 [] (m__law_placed U TE))) vs H Q E00)) (b__law_placed : Binds K fd__law_placed ["value"] []) {f__law_named : Addr} {fd__law_named : FuncData} (G__law_named : FnOk P w K mg base CX0 3 f__law_named fd__law_named ["value"] (fun vs H Q _ => SpF K ((runB 2 1 [] (m__law_named U TE))) vs H Q E00)) (b__law_named : Binds K fd__law_named ["value"] []) {f__law_kinds : Addr} {fd__law_kinds : FuncData} (G__law_kinds : FnOk P w K mg base CX0 3 f__law_kinds fd__law_kinds ["made"] (fun vs H Q _ => SpF K ((runB 2 1 [] (m__law_kinds U TE))) vs H Q E00)) (b__law_kinds : Binds K fd__law_kinds ["made"] []) {f__law_fields : Addr} {fd__law_fields : FuncData} (G__law_fields : FnOk P w K mg base CX0 3 f__law_fields fd__law_fields ["made"] (fun vs H Q _ => SpF K ((runB 2 1 [] (m__law_fields U TE))) vs H Q E00)) (b__law_fields : Binds K fd__law_fields ["made"] []) {f__law_plain : Addr} {fd__law_plain : FuncData} (G__law_plain : FnOk P w K mg base CX0 3 f__law_plain fd__law_plain [] (fun vs H Q _ => SpF K ((runB 1 0 [] (m__law_plain U TE))) vs H Q E00)) (b__law_plain : Binds K fd__law_plain [] []) (g__law_kinds_right : mg "_law_kinds_right" = some (.ref f__law_kinds_right)) (k__law_kinds_right : PySem.W.keepIn K (.ref f__law_kinds_right) = true) (g__law_purse : mg "_law_purse" = some (.ref f__law_purse)) (k__law_purse : PySem.W.keepIn K (.ref f__law_purse) = true) (g__law_bare : mg "_law_bare" = some (.ref f__law_bare)) (k__law_bare : PySem.W.keepIn K (.ref f__law_bare) = true) (g__law_draw : mg "_law_draw" = some (.ref f__law_draw)) (k__law_draw : PySem.W.keepIn K (.ref f__law_draw) = true) (g__law_placed : mg "_law_placed" = some (.ref f__law_placed)) (k__law_placed : PySem.W.keepIn K (.ref f__law_placed) = true) (g__law_named : mg "_law_named" = some (.ref f__law_named)) (k__law_named : PySem.W.keepIn K (.ref f__law_named) = true) (g__law_kinds : mg "_law_kinds" = some (.ref f__law_kinds)) (k__law_kinds : PySem.W.keepIn K (.ref f__law_kinds) = true) (g__law_fields : mg "_law_fields" = some (.ref f__law_fields)) (k__law_fields : PySem.W.keepIn K (.ref f__law_fields) = true) (g__law_plain : mg "_law_plain" = some (.ref f__law_plain)) (k__law_plain : PySem.W.keepIn K (.ref f__law_plain) = true)
    (room : Room 9 callerA) (f : Addr) (cdv : Value) (s : Shared) (H : Hp) :
    PSs (cxOf CX0 P w K mg base ["script", "at", "base", "purse", "some", "value", "made"] "law" (defScope (top 35)) f cdv callerA [] s H fun _ _ _ => False).nox (defBody (top 35)) (tS K [] E00 (m_law U TE)) := by
  have sc := sc_law
  have hr : Room 8 (callerA.deeper (PyProof.Rows.envOfC "law" (defScope (top 35)) s.heap.objs.size f cdv)) := room.deeper _
  have hu64 := hr.units
  have hu65 := room65 hr
  have hu1 := hu_of hr
  have hpn : ∀ q ∈ ([] : List (Nat × Addr)), q.1 ∈ ([] : List Nat) := fun q hq => nomatch hq
  exact psx_cons (psx_for PassesOwn.never rfl (pix_range1 T.n_range (pax_cons (px_op op_adds od_add (px_int) (px_callB (call_min2 rfl) cd_min (by rfl) T.n_min (by decide +kernel) (pax_cons (px_int) (pax_cons (px_callB call_lens cd_len (by rfl) T.n_len PySem.boot_len (pax_cons (px_var (pv 0)) (pax_nil))) (pax_nil))))) (pax_nil))) (pg_name (i := 1) sc.nd rfl (by first | exact Or.inl rfl | exact Or.inr rfl)) (gb_name (np hpn (by decide))) (psx_cons (psx_set (i := 3) (np hpn (by decide)) sc.nd rfl (by first | exact Or.inl rfl | exact Or.inr rfl) (px_call G__law_purse (hr.mono (by decide)) g__law_purse k__law_purse b__law_purse (pax_cons (px_var (pv 0)) (pax_cons (px_var (pv 1)) (pax_nil))))) (psx_cons (psx_set (i := 4) (np hpn (by decide)) sc.nd rfl (by first | exact Or.inl rfl | exact Or.inr rfl) (px_lst (pax_cons (px_non) (pax_cons (px_bl) (pax_cons (px_int) (pax_cons (px_int) (pax_cons (px_op op_powW od_pow (px_int) (px_int)) (pax_cons (px_str) (pax_cons (px_str) (pax_cons (px_str) (pax_cons (px_tup (pax_nil)) (pax_cons (px_tup (pax_cons (px_str) (pax_nil))) (pax_cons (px_tup (pax_cons (px_str) (pax_cons (px_str) (pax_nil)))) (pax_cons (px_lst (pax_cons (px_str) (pax_nil))) (pax_cons (px_lst (pax_nil)) (pax_nil)))))))))))))))) (psx_cons (psx_expr (px_append (pv 4) (px_tup (pax_cons (px_tup (pax_cons (px_str) (pax_cons (px_int) (pax_nil)))) (pax_cons (px_tup (pax_cons (px_str) (pax_cons (px_int) (pax_nil)))) (pax_nil)))) (fun a b => pe_bm PySem.F.plainAttrs_list PySem.F.slot_list_append PySem.F.type_list_append mt_append a b))) (psx_cons (psx_set (i := 5) (np hpn (by decide)) sc.nd rfl (by first | exact Or.inl rfl | exact Or.inr rfl) (px_ixO (pv 4) (px_callO G__law_draw (hr.mono (by decide)) g__law_draw k__law_draw b__law_draw (pv 3) (pax_cons (px_int) (pax_nil))) (fun _ _ => rfl))) (psx_one (psx_for PassesOwn.never rfl (pix_seq (px_lst (pax_cons (px_call G__law_placed (hr.mono (by decide)) g__law_placed k__law_placed b__law_placed (pax_cons (px_var (pv 5)) (pax_nil))) (pax_cons (px_call G__law_named (hr.mono (by decide)) g__law_named k__law_named b__law_named (pax_cons (px_var (pv 5)) (pax_nil))) (pax_nil))))) (pg_name (i := 6) sc.nd rfl (by first | exact Or.inl rfl | exact Or.inr rfl)) (gb_name (np hpn (by decide))) (psx_one (psx_if ((pwx_or (pt_c (op_nes hu64) od_ne (px_call G__law_fields (hr.mono (by decide)) g__law_fields k__law_fields b__law_fields (pax_cons (px_var (pv 6)) (pax_nil))) (px_repL (px_lst (pax_cons (px_var (pv 5)) (pax_nil)))) (nomark _)) (pw_or1 (ptx_not (pt_x (px_call G__law_kinds_right (hr.mono (by decide)) g__law_kinds_right k__law_kinds_right b__law_kinds_right (pax_cons (px_op op_adds od_add (px_var (pv 6)) (px_call0 G__law_plain (hr.mono (by decide)) g__law_plain k__law_plain b__law_plain)) (pax_nil))))))).pt) (psx_one (psx_ret (px_bl))) (psx_nil)))))))))) (psx_cons (psx_set (i := 2) (np hpn (by decide)) sc.nd rfl (by first | exact Or.inl rfl | exact Or.inr rfl) (px_exc0 PySem.F.excBase_ValueError ER.xT ER.et.k ER.g_TaleError)) (psx_cons (psx_if ((pwx_or (ptx_not (pt_x (px_isGB ER.hbV (px_var (pv 2)) T.n_isinstance T.n_ValueError (by decide +kernel)))) (pwx_or (pt_x (px_isV (kitVT ER.et) T.n_isinstance T.n_ValueError (by decide +kernel) ER.g_TaleError)) (pw_or1 (pt_c (op_ins hu65) od_in (px_bl) (px_slice (px_call G__law_kinds (hr.mono (by decide)) g__law_kinds k__law_kinds b__law_kinds (pax_cons (px_var (pv 2)) (pax_nil))) (pox_none) (pox_some (px_int))) (by rfl))))).pt) (psx_one (psx_ret (px_bl))) (psx_nil)) (psx_one (psx_ret (px_call G__law_kinds_right (hr.mono (by decide)) g__law_kinds_right k__law_kinds_right b__law_kinds_right (pax_cons (px_call0 G__law_bare (hr.mono (by decide)) g__law_bare k__law_bare b__law_bare) (pax_nil)))))))
end
/-- what law's body owes, from all defs of the text -/
theorem body_at {P : Program} {w : World} {K : PySem.W.Frag} {mg : Str → Option Value} {U : Nat → Addr} {TE : Addr} (T : Tx K mg) (ERS : ∀ base, Er P w K mg base U TE)
    {f__law_at : Addr} {fd__law_at : FuncData} (D__law_at : Fun K "_law_at" "_law_at" (top 24) f__law_at fd__law_at) (g__law_at : mg "_law_at" = some (.ref f__law_at))
    {f__law_mixed : Addr} {fd__law_mixed : FuncData} (D__law_mixed : Fun K "_law_mixed" "_law_mixed" (top 25) f__law_mixed fd__law_mixed) (g__law_mixed : mg "_law_mixed" = some (.ref f__law_mixed))
    {f__law_purse : Addr} {fd__law_purse : FuncData} (D__law_purse : Fun K "_law_purse" "_law_purse" (top 26) f__law_purse fd__law_purse) (g__law_purse : mg "_law_purse" = some (.ref f__law_purse))
    {f__law_draw : Addr} {fd__law_draw : FuncData} (D__law_draw : Fun K "_law_draw" "_law_draw" (top 27) f__law_draw fd__law_draw) (g__law_draw : mg "_law_draw" = some (.ref f__law_draw))
    {f__law_plain : Addr} {fd__law_plain : FuncData} (D__law_plain : Fun K "_law_plain" "_law_plain" (top 32) f__law_plain fd__law_plain) (g__law_plain : mg "_law_plain" = some (.ref f__law_plain))
    {f__law_kinds : Addr} {fd__law_kinds : FuncData} (D__law_kinds : Fun K "_law_kinds" "_law_kinds" (top 28) f__law_kinds fd__law_kinds) (g__law_kinds : mg "_law_kinds" = some (.ref f__law_kinds))
    {f__law_placed : Addr} {fd__law_placed : FuncData} (D__law_placed : Fun K "_law_placed" "_law_placed" (top 29) f__law_placed fd__law_placed) (g__law_placed : mg "_law_placed" = some (.ref f__law_placed))
    {f__law_named : Addr} {fd__law_named : FuncData} (D__law_named : Fun K "_law_named" "_law_named" (top 30) f__law_named fd__law_named) (g__law_named : mg "_law_named" = some (.ref f__law_named))
    {f__law_bare : Addr} {fd__law_bare : FuncData} (D__law_bare : Fun K "_law_bare" "_law_bare" (top 31) f__law_bare fd__law_bare) (g__law_bare : mg "_law_bare" = some (.ref f__law_bare))
    {f__law_fields : Addr} {fd__law_fields : FuncData} (D__law_fields : Fun K "_law_fields" "_law_fields" (top 33) f__law_fields fd__law_fields) (g__law_fields : mg "_law_fields" = some (.ref f__law_fields))
    {f__law_kinds_right : Addr} {fd__law_kinds_right : FuncData} (D__law_kinds_right : Fun K "_law_kinds_right" "_law_kinds_right" (top 34) f__law_kinds_right fd__law_kinds_right) (g__law_kinds_right : mg "_law_kinds_right" = some (.ref f__law_kinds_right))
    (f a : Addr) (ns : List Int) (hl : ns.length ≤ 63) : BodyAt P w K mg ["script", "at", "base", "purse", "some", "value", "made"] "law" "law" (top 35) f a ns := by
  intro base cdv s H inB nsB hS
  have ER := ERS base
  have b__law_at := D__law_at.binds (ps := ["script", "k"]) fun _ _ _ _ _ _ us hl => match us, hl with | [_, _], _ => rfl
  have G__law_at : FnOk P w K mg base CX0 1 f__law_at fd__law_at ["script", "k"] (fun vs H Q _ => SpF K F_law_at vs H Q E00) := (run__law_at D__law_at T  ).imp fun vs H Q E h => SpF.imp (pureF_of eq_law_at) h
  have b__law_mixed := D__law_mixed.binds (ps := ["cell", "k"]) fun _ _ _ _ _ _ us hl => match us, hl with | [_, _], _ => rfl
  have G__law_mixed : FnOk P w K mg base CX0 1 f__law_mixed fd__law_mixed ["cell", "k"] (fun vs H Q _ => SpF K F_law_mixed vs H Q E00) := (run__law_mixed D__law_mixed T  ).imp fun vs H Q E h => SpF.imp (pureF_of eq_law_mixed) h
  have b__law_purse := D__law_purse.binds (ps := ["script", "at"]) fun _ _ _ _ _ _ us hl => match us, hl with | [_, _], _ => rfl
  have G__law_purse : FnOk P w K mg base CX0 2 f__law_purse fd__law_purse ["script", "at"] (fun vs H Q _ => SpF K F_law_purse vs H Q E00) := (run__law_purse D__law_purse T G__law_at b__law_at g__law_at D__law_at.kp).imp fun vs H Q E h => SpF.imp (pureF_of eq_law_purse) h
  have b__law_draw := D__law_draw.binds (ps := ["purse", "out_of"]) fun _ _ _ _ _ _ us hl => match us, hl with | [_, _], _ => rfl
  have G__law_draw : FnOk P w K mg base CX0 2 f__law_draw fd__law_draw ["purse", "out_of"] (fun vs H Q _ => SpF K F_law_draw vs H Q E00) := (run__law_draw D__law_draw T G__law_mixed b__law_mixed g__law_mixed D__law_mixed.kp).imp fun vs H Q E h => SpF.imp (ownF_of eq_law_draw) h
  have b__law_plain := D__law_plain.binds (ps := []) fun _ _ _ _ _ _ us hl => match us, hl with | [], _ => rfl
  have G__law_plain : FnOk P w K mg base CX0 3 f__law_plain fd__law_plain [] (fun vs H Q _ => SpF K (runB 1 0 [] (m__law_plain U TE)) vs H Q E00) := run__law_plain D__law_plain T ER  
  have b__law_kinds := D__law_kinds.binds (ps := ["made"]) fun _ _ _ _ _ _ us hl => match us, hl with | [_], _ => rfl
  have G__law_kinds : FnOk P w K mg base CX0 3 f__law_kinds fd__law_kinds ["made"] (fun vs H Q _ => SpF K (runB 2 1 [] (m__law_kinds U TE)) vs H Q E00) := run__law_kinds D__law_kinds T ER  
  have b__law_placed := D__law_placed.binds (ps := ["value"]) fun _ _ _ _ _ _ us hl => match us, hl with | [_], _ => rfl
  have G__law_placed : FnOk P w K mg base CX0 3 f__law_placed fd__law_placed ["value"] (fun vs H Q _ => SpF K (runB 2 1 [] (m__law_placed U TE)) vs H Q E00) := run__law_placed D__law_placed T ER  
  have b__law_named := D__law_named.binds (ps := ["value"]) fun _ _ _ _ _ _ us hl => match us, hl with | [_], _ => rfl
  have G__law_named : FnOk P w K mg base CX0 3 f__law_named fd__law_named ["value"] (fun vs H Q _ => SpF K (runB 2 1 [] (m__law_named U TE)) vs H Q E00) := run__law_named D__law_named T ER  
  have b__law_bare := D__law_bare.binds (ps := []) fun _ _ _ _ _ _ us hl => match us, hl with | [], _ => rfl
  have G__law_bare : FnOk P w K mg base CX0 4 f__law_bare fd__law_bare [] (fun vs H Q _ => SpF K (runB 1 0 [] (m__law_bare U TE)) vs H Q E00) := run__law_bare D__law_bare T ER G__law_plain b__law_plain g__law_plain D__law_plain.kp
  have b__law_fields := D__law_fields.binds (ps := ["made"]) fun _ _ _ _ _ _ us hl => match us, hl with | [_], _ => rfl
  have G__law_fields : FnOk P w K mg base CX0 3 f__law_fields fd__law_fields ["made"] (fun vs H Q _ => SpF K (runB 2 1 [] (m__law_fields U TE)) vs H Q E00) := run__law_fields D__law_fields T ER  
  have b__law_kinds_right := D__law_kinds_right.binds (ps := ["made"]) fun _ _ _ _ _ _ us hl => match us, hl with | [_], _ => rfl
  have G__law_kinds_right : FnOk P w K mg base CX0 4 f__law_kinds_right fd__law_kinds_right ["made"] (fun vs H Q _ => SpF K (runB 4 1 [] (m__law_kinds_right U TE)) vs H Q E00) := run__law_kinds_right D__law_kinds_right T ER G__law_kinds b__law_kinds g__law_kinds D__law_kinds.kp
  have PSL := ps_law T ER G__law_kinds_right b__law_kinds_right G__law_purse b__law_purse G__law_bare b__law_bare G__law_draw b__law_draw G__law_placed b__law_placed G__law_named b__law_named G__law_kinds b__law_kinds G__law_fields b__law_fields G__law_plain b__law_plain g__law_kinds_right D__law_kinds_right.kp g__law_purse D__law_purse.kp g__law_bare D__law_bare.kp g__law_draw D__law_draw.kp g__law_placed D__law_placed.kp g__law_named D__law_named.kp g__law_kinds D__law_kinds.kp g__law_fields D__law_fields.kp g__law_plain D__law_plain.kp room9 f cdv s H
  obtain ⟨ρ', E⟩ := law_true (U := U) (TE := TE) (fun i j hi hj e => ER.inj hi hj e) (fun i hi => ER.ne hi) (l := ns) (by omega)
  have R : runB 7 1 [] (m_law U TE) ([D.lst (ns.map .int)].map .dt) = some (.val (.dt (.bl true)) ([D.lst (ns.map .int)].map .dt)) := runB_rt (ds := [.lst (ns.map .int)]) E rfl (by decide)
  have dtInts : ∀ (G : Hp) (ns : List Int), DtL K G (ns.map V.int) (ns.map D.int) := fun G ns => by
    induction ns with
    | nil => exact .nil
    | cons n ns ih => exact .cons (.int n) ih
  have hv : DtL K H [.ref a] [D.lst (ns.map .int)] := .cons (.lst hS (dtInts H ns)) .nil
  have sp : SpF K (runB 7 1 [] (m_law U TE)) [.ref a] H (fun v _ => v = .bl true) E00 := by
    refine ⟨H, [D.lst (ns.map .int)].map .dt, EnvOk.args (Same.refl H) hv, ?_⟩
    rw [R]
    intro v G' H' ok' _
    obtain ⟨u, e1, e2⟩ := ok'.dt 1 (.bl true) rfl
    have e3 : u = v := by cases e1; rfl
    subst e3
    cases e2
    rfl
  obtain ⟨pn, hpn, t⟩ := body_of (N := ["script", "at", "base", "purse", "some", "value", "made"]) (ps := ["script"]) sp
  have e := pnil hpn
  subst e
  exact ⟨_, PSL, t⟩
end BK

namespace BK
open PySem PySem.Spec PyProof.Rows L2 BT
theorem all_mk {P : Program} {w : World} {K : PySem.W.Frag} {h : Heap} {mg : Str → Option Value} {fa TE U0 U1 U2 U3 U4 U5 U6 U7 U8 U9 U10 U11 U12 U13 U14 U15 U16 U17 U18 U19 U20 f__law_at f__law_mixed f__law_purse f__law_draw f__law_plain f__law_kinds f__law_placed f__law_named f__law_bare f__law_fields f__law_kinds_right f_law f_i0 f_i1 f_i2 f_i3 f_i4 f_i5 f_i6 f_i7 f_i8 f_i9 f_i10 f_i11 f_i12 aD0 aD1 aD2 aD3 aD4 aD5 aD6 aD7 aD8 aD9 aD10 aD11 aD12 : Addr} (X : K.In h) (G : h.Ns mainGlobals mg) (hfa : mg "law" = some (.ref fa))
    (a_T : PySem.W.nsIn K mainGlobals "TaleError" = some (some (.ref TE)))
    {nmT qT : Str} {NT : Addr} {bsT : List Value} {snT : List Str} {subT : List Value} {abT : Bool} {colT : Option Bool} {ddT : Option Addr} {k0T k1T k2T k3T k5T : Option Value}
    (x_T : K.lookup TE = some (excClassObj nmT qT TE NT bsT veTail true snT subT abT colT ddT k0T k1T k2T k3T k5T "ValueError.__new__"))
    (sa_T : PySem.W.findIn K (.ref TE) "__setattr__" = some (some (.builtin "object.__setattr__")))
    (ga_T : PySem.W.findIn K (.ref TE) "__getattribute__" = some (some (.builtin "BaseException.__getattribute__")))
    (gg_T : PySem.W.findIn K (.ref TE) "__getattr__" = some none)
    (cc_T : PySem.W.findIn K (.ref TE) "__class__" = some (some (.builtin "object.__class__")))
    (kk_T : PySem.W.keepIn K (.ref TE) = true)
    (e_T : PySem.W.excIn K TE veTail "ValueError.__new__" = true)
    (a_0 : PySem.W.nsIn K mainGlobals "InvalidTale" = some (some (.ref U0)))
    {nm0 q0 : Str} {N0 : Addr} {bs0 : List Value} {sn0 : List Str} {sub0 : List Value} {ab0 : Bool} {col0 : Option Bool} {dd0 : Option Addr} {k00 k10 k20 k30 k50 : Option Value}
    (x_0 : K.lookup U0 = some (excClassObj nm0 q0 U0 N0 bs0 (.ref TE :: veTail) true sn0 sub0 ab0 col0 dd0 k00 k10 k20 k30 k50 "ValueError.__new__"))
    (sa_0 : PySem.W.findIn K (.ref U0) "__setattr__" = some (some (.builtin "object.__setattr__")))
    (ga_0 : PySem.W.findIn K (.ref U0) "__getattribute__" = some (some (.builtin "BaseException.__getattribute__")))
    (gg_0 : PySem.W.findIn K (.ref U0) "__getattr__" = some none)
    (cc_0 : PySem.W.findIn K (.ref U0) "__class__" = some (some (.builtin "object.__class__")))
    (kk_0 : PySem.W.keepIn K (.ref U0) = true)
    (no_0 : PySem.W.findIn K (.ref U0) "problem" = some none)
    (i_0 : PySem.W.findIn K (.ref U0) "__init__" = some (some (.ref f_i0)))
    (t_0 : PySem.W.typeIn K (.ref f_i0) = some (.type "function"))
    {od_i0 an_i0 : Option Addr} {sl_i0 : Array (Option Value)} {oc_i0 kV_i0 dc_i0 pm_i0 cd_i0 ct_i0 : Value}
    (l_i0 : K.lookup f_i0 = some ⟨oc_i0, od_i0, .func (PySem.W.fnOf "__init__" "InvalidTale.__init__" (defArgs (inClass (top 2) 0)) (defBody (inClass (top 2) 0)) (defScope (inClass (top 2) 0)) (.ref aD0) kV_i0 dc_i0 pm_i0 an_i0 cd_i0 ct_i0), sl_i0⟩) (c_i0 : PySem.W.codeIn K cd_i0 "InvalidTale.__init__" = true) (k_i0 : PySem.W.keepIn K (.ref f_i0) = true)
    {dD0 : Option Addr} {sD0 : Array (Option Value)} {itD0 : Array Value} {nD0 : Nat}
    (lD0 : K.lookup aD0 = some ⟨.type "tuple", dD0, .seq itD0 nD0, sD0⟩)
    (qD0 : itD0 = #[.none])
    (a_1 : PySem.W.nsIn K mainGlobals "InvalidTimeline" = some (some (.ref U1)))
    {nm1 q1 : Str} {N1 : Addr} {bs1 : List Value} {sn1 : List Str} {sub1 : List Value} {ab1 : Bool} {col1 : Option Bool} {dd1 : Option Addr} {k01 k11 k21 k31 k51 : Option Value}
    (x_1 : K.lookup U1 = some (excClassObj nm1 q1 U1 N1 bs1 (.ref TE :: veTail) true sn1 sub1 ab1 col1 dd1 k01 k11 k21 k31 k51 "ValueError.__new__"))
    (sa_1 : PySem.W.findIn K (.ref U1) "__setattr__" = some (some (.builtin "object.__setattr__")))
    (ga_1 : PySem.W.findIn K (.ref U1) "__getattribute__" = some (some (.builtin "BaseException.__getattribute__")))
    (gg_1 : PySem.W.findIn K (.ref U1) "__getattr__" = some none)
    (cc_1 : PySem.W.findIn K (.ref U1) "__class__" = some (some (.builtin "object.__class__")))
    (kk_1 : PySem.W.keepIn K (.ref U1) = true)
    (no_1 : PySem.W.findIn K (.ref U1) "problem" = some none)
    (i_1 : PySem.W.findIn K (.ref U1) "__init__" = some (some (.ref f_i1)))
    (t_1 : PySem.W.typeIn K (.ref f_i1) = some (.type "function"))
    {od_i1 an_i1 : Option Addr} {sl_i1 : Array (Option Value)} {oc_i1 kV_i1 dc_i1 pm_i1 cd_i1 ct_i1 : Value}
    (l_i1 : K.lookup f_i1 = some ⟨oc_i1, od_i1, .func (PySem.W.fnOf "__init__" "InvalidTimeline.__init__" (defArgs (inClass (top 5) 0)) (defBody (inClass (top 5) 0)) (defScope (inClass (top 5) 0)) (.ref aD1) kV_i1 dc_i1 pm_i1 an_i1 cd_i1 ct_i1), sl_i1⟩) (c_i1 : PySem.W.codeIn K cd_i1 "InvalidTimeline.__init__" = true) (k_i1 : PySem.W.keepIn K (.ref f_i1) = true)
    {dD1 : Option Addr} {sD1 : Array (Option Value)} {itD1 : Array Value} {nD1 : Nat}
    (lD1 : K.lookup aD1 = some ⟨.type "tuple", dD1, .seq itD1 nD1, sD1⟩)
    (qD1 : itD1 = #[.none])
    (a_2 : PySem.W.nsIn K mainGlobals "InvalidTellers" = some (some (.ref U2)))
    {nm2 q2 : Str} {N2 : Addr} {bs2 : List Value} {sn2 : List Str} {sub2 : List Value} {ab2 : Bool} {col2 : Option Bool} {dd2 : Option Addr} {k02 k12 k22 k32 k52 : Option Value}
    (x_2 : K.lookup U2 = some (excClassObj nm2 q2 U2 N2 bs2 (.ref TE :: veTail) true sn2 sub2 ab2 col2 dd2 k02 k12 k22 k32 k52 "ValueError.__new__"))
    (sa_2 : PySem.W.findIn K (.ref U2) "__setattr__" = some (some (.builtin "object.__setattr__")))
    (ga_2 : PySem.W.findIn K (.ref U2) "__getattribute__" = some (some (.builtin "BaseException.__getattribute__")))
    (gg_2 : PySem.W.findIn K (.ref U2) "__getattr__" = some none)
    (cc_2 : PySem.W.findIn K (.ref U2) "__class__" = some (some (.builtin "object.__class__")))
    (kk_2 : PySem.W.keepIn K (.ref U2) = true)
    (no_2 : PySem.W.findIn K (.ref U2) "problem" = some none)
    (i_2 : PySem.W.findIn K (.ref U2) "__init__" = some (some (.ref f_i2)))
    (t_2 : PySem.W.typeIn K (.ref f_i2) = some (.type "function"))
    {od_i2 an_i2 : Option Addr} {sl_i2 : Array (Option Value)} {oc_i2 kV_i2 dc_i2 pm_i2 cd_i2 ct_i2 : Value}
    (l_i2 : K.lookup f_i2 = some ⟨oc_i2, od_i2, .func (PySem.W.fnOf "__init__" "InvalidTellers.__init__" (defArgs (inClass (top 7) 0)) (defBody (inClass (top 7) 0)) (defScope (inClass (top 7) 0)) (.ref aD2) kV_i2 dc_i2 pm_i2 an_i2 cd_i2 ct_i2), sl_i2⟩) (c_i2 : PySem.W.codeIn K cd_i2 "InvalidTellers.__init__" = true) (k_i2 : PySem.W.keepIn K (.ref f_i2) = true)
    {dD2 : Option Addr} {sD2 : Array (Option Value)} {itD2 : Array Value} {nD2 : Nat}
    (lD2 : K.lookup aD2 = some ⟨.type "tuple", dD2, .seq itD2 nD2, sD2⟩)
    (qD2 : itD2 = #[.none])
    (a_3 : PySem.W.nsIn K mainGlobals "InvalidReport" = some (some (.ref U3)))
    {nm3 q3 : Str} {N3 : Addr} {bs3 : List Value} {sn3 : List Str} {sub3 : List Value} {ab3 : Bool} {col3 : Option Bool} {dd3 : Option Addr} {k03 k13 k23 k33 k53 : Option Value}
    (x_3 : K.lookup U3 = some (excClassObj nm3 q3 U3 N3 bs3 (.ref TE :: veTail) true sn3 sub3 ab3 col3 dd3 k03 k13 k23 k33 k53 "ValueError.__new__"))
    (sa_3 : PySem.W.findIn K (.ref U3) "__setattr__" = some (some (.builtin "object.__setattr__")))
    (ga_3 : PySem.W.findIn K (.ref U3) "__getattribute__" = some (some (.builtin "BaseException.__getattribute__")))
    (gg_3 : PySem.W.findIn K (.ref U3) "__getattr__" = some none)
    (cc_3 : PySem.W.findIn K (.ref U3) "__class__" = some (some (.builtin "object.__class__")))
    (kk_3 : PySem.W.keepIn K (.ref U3) = true)
    (no_3 : PySem.W.findIn K (.ref U3) "problem" = some none)
    (i_3 : PySem.W.findIn K (.ref U3) "__init__" = some (some (.ref f_i3)))
    (t_3 : PySem.W.typeIn K (.ref f_i3) = some (.type "function"))
    {od_i3 an_i3 : Option Addr} {sl_i3 : Array (Option Value)} {oc_i3 kV_i3 dc_i3 pm_i3 cd_i3 ct_i3 : Value}
    (l_i3 : K.lookup f_i3 = some ⟨oc_i3, od_i3, .func (PySem.W.fnOf "__init__" "InvalidReport.__init__" (defArgs (inClass (top 16) 0)) (defBody (inClass (top 16) 0)) (defScope (inClass (top 16) 0)) (.ref aD3) kV_i3 dc_i3 pm_i3 an_i3 cd_i3 ct_i3), sl_i3⟩) (c_i3 : PySem.W.codeIn K cd_i3 "InvalidReport.__init__" = true) (k_i3 : PySem.W.keepIn K (.ref f_i3) = true)
    {dD3 : Option Addr} {sD3 : Array (Option Value)} {itD3 : Array Value} {nD3 : Nat}
    (lD3 : K.lookup aD3 = some ⟨.type "tuple", dD3, .seq itD3 nD3, sD3⟩)
    (qD3 : itD3 = #[.none])
    (a_4 : PySem.W.nsIn K mainGlobals "InvalidText" = some (some (.ref U4)))
    {nm4 q4 : Str} {N4 : Addr} {bs4 : List Value} {sn4 : List Str} {sub4 : List Value} {ab4 : Bool} {col4 : Option Bool} {dd4 : Option Addr} {k04 k14 k24 k34 k54 : Option Value}
    (x_4 : K.lookup U4 = some (excClassObj nm4 q4 U4 N4 bs4 (.ref TE :: veTail) true sn4 sub4 ab4 col4 dd4 k04 k14 k24 k34 k54 "ValueError.__new__"))
    (sa_4 : PySem.W.findIn K (.ref U4) "__setattr__" = some (some (.builtin "object.__setattr__")))
    (ga_4 : PySem.W.findIn K (.ref U4) "__getattribute__" = some (some (.builtin "BaseException.__getattribute__")))
    (gg_4 : PySem.W.findIn K (.ref U4) "__getattr__" = some none)
    (cc_4 : PySem.W.findIn K (.ref U4) "__class__" = some (some (.builtin "object.__class__")))
    (kk_4 : PySem.W.keepIn K (.ref U4) = true)
    (no_4 : PySem.W.findIn K (.ref U4) "line" = some none)
    (i_4 : PySem.W.findIn K (.ref U4) "__init__" = some (some (.ref f_i4)))
    (t_4 : PySem.W.typeIn K (.ref f_i4) = some (.type "function"))
    {od_i4 an_i4 : Option Addr} {sl_i4 : Array (Option Value)} {oc_i4 kV_i4 dc_i4 pm_i4 cd_i4 ct_i4 : Value}
    (l_i4 : K.lookup f_i4 = some ⟨oc_i4, od_i4, .func (PySem.W.fnOf "__init__" "InvalidText.__init__" (defArgs (inClass (top 3) 0)) (defBody (inClass (top 3) 0)) (defScope (inClass (top 3) 0)) (.ref aD4) kV_i4 dc_i4 pm_i4 an_i4 cd_i4 ct_i4), sl_i4⟩) (c_i4 : PySem.W.codeIn K cd_i4 "InvalidText.__init__" = true) (k_i4 : PySem.W.keepIn K (.ref f_i4) = true)
    {dD4 : Option Addr} {sD4 : Array (Option Value)} {itD4 : Array Value} {nD4 : Nat}
    (lD4 : K.lookup aD4 = some ⟨.type "tuple", dD4, .seq itD4 nD4, sD4⟩)
    (qD4 : itD4 = #[.none])
    (a_5 : PySem.W.nsIn K mainGlobals "UnknownMoment" = some (some (.ref U5)))
    {nm5 q5 : Str} {N5 : Addr} {bs5 : List Value} {sn5 : List Str} {sub5 : List Value} {ab5 : Bool} {col5 : Option Bool} {dd5 : Option Addr} {k05 k15 k25 k35 k55 : Option Value}
    (x_5 : K.lookup U5 = some (excClassObj nm5 q5 U5 N5 bs5 (.ref TE :: veTail) true sn5 sub5 ab5 col5 dd5 k05 k15 k25 k35 k55 "ValueError.__new__"))
    (sa_5 : PySem.W.findIn K (.ref U5) "__setattr__" = some (some (.builtin "object.__setattr__")))
    (ga_5 : PySem.W.findIn K (.ref U5) "__getattribute__" = some (some (.builtin "BaseException.__getattribute__")))
    (gg_5 : PySem.W.findIn K (.ref U5) "__getattr__" = some none)
    (cc_5 : PySem.W.findIn K (.ref U5) "__class__" = some (some (.builtin "object.__class__")))
    (kk_5 : PySem.W.keepIn K (.ref U5) = true)
    (no_5 : PySem.W.findIn K (.ref U5) "name" = some none)
    (i_5 : PySem.W.findIn K (.ref U5) "__init__" = some (some (.ref f_i5)))
    (t_5 : PySem.W.typeIn K (.ref f_i5) = some (.type "function"))
    {od_i5 an_i5 : Option Addr} {sl_i5 : Array (Option Value)} {oc_i5 kV_i5 dc_i5 pm_i5 cd_i5 ct_i5 : Value}
    (l_i5 : K.lookup f_i5 = some ⟨oc_i5, od_i5, .func (PySem.W.fnOf "__init__" "UnknownMoment.__init__" (defArgs (inClass (top 4) 0)) (defBody (inClass (top 4) 0)) (defScope (inClass (top 4) 0)) (.ref aD5) kV_i5 dc_i5 pm_i5 an_i5 cd_i5 ct_i5), sl_i5⟩) (c_i5 : PySem.W.codeIn K cd_i5 "UnknownMoment.__init__" = true) (k_i5 : PySem.W.keepIn K (.ref f_i5) = true)
    {dD5 : Option Addr} {sD5 : Array (Option Value)} {itD5 : Array Value} {nD5 : Nat}
    (lD5 : K.lookup aD5 = some ⟨.type "tuple", dD5, .seq itD5 nD5, sD5⟩)
    (qD5 : itD5 = #[.none])
    (a_6 : PySem.W.nsIn K mainGlobals "InvalidName" = some (some (.ref U6)))
    {nm6 q6 : Str} {N6 : Addr} {bs6 : List Value} {sn6 : List Str} {sub6 : List Value} {ab6 : Bool} {col6 : Option Bool} {dd6 : Option Addr} {k06 k16 k26 k36 k56 : Option Value}
    (x_6 : K.lookup U6 = some (excClassObj nm6 q6 U6 N6 bs6 (.ref TE :: veTail) true sn6 sub6 ab6 col6 dd6 k06 k16 k26 k36 k56 "ValueError.__new__"))
    (sa_6 : PySem.W.findIn K (.ref U6) "__setattr__" = some (some (.builtin "object.__setattr__")))
    (ga_6 : PySem.W.findIn K (.ref U6) "__getattribute__" = some (some (.builtin "BaseException.__getattribute__")))
    (gg_6 : PySem.W.findIn K (.ref U6) "__getattr__" = some none)
    (cc_6 : PySem.W.findIn K (.ref U6) "__class__" = some (some (.builtin "object.__class__")))
    (kk_6 : PySem.W.keepIn K (.ref U6) = true)
    (no_6 : PySem.W.findIn K (.ref U6) "name" = some none)
    (i_6 : PySem.W.findIn K (.ref U6) "__init__" = some (some (.ref f_i6)))
    (t_6 : PySem.W.typeIn K (.ref f_i6) = some (.type "function"))
    {od_i6 an_i6 : Option Addr} {sl_i6 : Array (Option Value)} {oc_i6 kV_i6 dc_i6 pm_i6 cd_i6 ct_i6 : Value}
    (l_i6 : K.lookup f_i6 = some ⟨oc_i6, od_i6, .func (PySem.W.fnOf "__init__" "InvalidName.__init__" (defArgs (inClass (top 10) 0)) (defBody (inClass (top 10) 0)) (defScope (inClass (top 10) 0)) (.ref aD6) kV_i6 dc_i6 pm_i6 an_i6 cd_i6 ct_i6), sl_i6⟩) (c_i6 : PySem.W.codeIn K cd_i6 "InvalidName.__init__" = true) (k_i6 : PySem.W.keepIn K (.ref f_i6) = true)
    {dD6 : Option Addr} {sD6 : Array (Option Value)} {itD6 : Array Value} {nD6 : Nat}
    (lD6 : K.lookup aD6 = some ⟨.type "tuple", dD6, .seq itD6 nD6, sD6⟩)
    (qD6 : itD6 = #[.none])
    (a_7 : PySem.W.nsIn K mainGlobals "Conflict" = some (some (.ref U7)))
    {nm7 q7 : Str} {N7 : Addr} {bs7 : List Value} {sn7 : List Str} {sub7 : List Value} {ab7 : Bool} {col7 : Option Bool} {dd7 : Option Addr} {k07 k17 k27 k37 k57 : Option Value}
    (x_7 : K.lookup U7 = some (excClassObj nm7 q7 U7 N7 bs7 (.ref TE :: veTail) true sn7 sub7 ab7 col7 dd7 k07 k17 k27 k37 k57 "ValueError.__new__"))
    (sa_7 : PySem.W.findIn K (.ref U7) "__setattr__" = some (some (.builtin "object.__setattr__")))
    (ga_7 : PySem.W.findIn K (.ref U7) "__getattribute__" = some (some (.builtin "BaseException.__getattribute__")))
    (gg_7 : PySem.W.findIn K (.ref U7) "__getattr__" = some none)
    (cc_7 : PySem.W.findIn K (.ref U7) "__class__" = some (some (.builtin "object.__class__")))
    (kk_7 : PySem.W.keepIn K (.ref U7) = true)
    (no_7 : PySem.W.findIn K (.ref U7) "ring" = some none)
    (i_7 : PySem.W.findIn K (.ref U7) "__init__" = some (some (.ref f_i7)))
    (t_7 : PySem.W.typeIn K (.ref f_i7) = some (.type "function"))
    {od_i7 an_i7 : Option Addr} {sl_i7 : Array (Option Value)} {oc_i7 kV_i7 dc_i7 pm_i7 cd_i7 ct_i7 : Value}
    (l_i7 : K.lookup f_i7 = some ⟨oc_i7, od_i7, .func (PySem.W.fnOf "__init__" "Conflict.__init__" (defArgs (inClass (top 8) 0)) (defBody (inClass (top 8) 0)) (defScope (inClass (top 8) 0)) (.ref aD7) kV_i7 dc_i7 pm_i7 an_i7 cd_i7 ct_i7), sl_i7⟩) (c_i7 : PySem.W.codeIn K cd_i7 "Conflict.__init__" = true) (k_i7 : PySem.W.keepIn K (.ref f_i7) = true)
    {dD7 : Option Addr} {sD7 : Array (Option Value)} {itD7 : Array Value} {nD7 : Nat}
    (lD7 : K.lookup aD7 = some ⟨.type "tuple", dD7, .seq itD7 nD7, sD7⟩)
    (qD7 : itD7 = #[.none])
    (a_8 : PySem.W.nsIn K mainGlobals "OutOfRange" = some (some (.ref U8)))
    {nm8 q8 : Str} {N8 : Addr} {bs8 : List Value} {sn8 : List Str} {sub8 : List Value} {ab8 : Bool} {col8 : Option Bool} {dd8 : Option Addr} {k08 k18 k28 k38 k58 : Option Value}
    (x_8 : K.lookup U8 = some (excClassObj nm8 q8 U8 N8 bs8 (.ref TE :: veTail) true sn8 sub8 ab8 col8 dd8 k08 k18 k28 k38 k58 "ValueError.__new__"))
    (sa_8 : PySem.W.findIn K (.ref U8) "__setattr__" = some (some (.builtin "object.__setattr__")))
    (ga_8 : PySem.W.findIn K (.ref U8) "__getattribute__" = some (some (.builtin "BaseException.__getattribute__")))
    (gg_8 : PySem.W.findIn K (.ref U8) "__getattr__" = some none)
    (cc_8 : PySem.W.findIn K (.ref U8) "__class__" = some (some (.builtin "object.__class__")))
    (kk_8 : PySem.W.keepIn K (.ref U8) = true)
    (no_8 : PySem.W.findIn K (.ref U8) "count" = some none)
    (i_8 : PySem.W.findIn K (.ref U8) "__init__" = some (some (.ref f_i8)))
    (t_8 : PySem.W.typeIn K (.ref f_i8) = some (.type "function"))
    {od_i8 an_i8 : Option Addr} {sl_i8 : Array (Option Value)} {oc_i8 kV_i8 dc_i8 pm_i8 cd_i8 ct_i8 : Value}
    (l_i8 : K.lookup f_i8 = some ⟨oc_i8, od_i8, .func (PySem.W.fnOf "__init__" "OutOfRange.__init__" (defArgs (inClass (top 15) 0)) (defBody (inClass (top 15) 0)) (defScope (inClass (top 15) 0)) (.ref aD8) kV_i8 dc_i8 pm_i8 an_i8 cd_i8 ct_i8), sl_i8⟩) (c_i8 : PySem.W.codeIn K cd_i8 "OutOfRange.__init__" = true) (k_i8 : PySem.W.keepIn K (.ref f_i8) = true)
    {dD8 : Option Addr} {sD8 : Array (Option Value)} {itD8 : Array Value} {nD8 : Nat}
    (lD8 : K.lookup aD8 = some ⟨.type "tuple", dD8, .seq itD8 nD8, sD8⟩)
    (qD8 : itD8 = #[.none])
    (a_9 : PySem.W.nsIn K mainGlobals "NoFit" = some (some (.ref U9)))
    {nm9 q9 : Str} {N9 : Addr} {bs9 : List Value} {sn9 : List Str} {sub9 : List Value} {ab9 : Bool} {col9 : Option Bool} {dd9 : Option Addr} {k09 k19 k29 k39 k59 : Option Value}
    (x_9 : K.lookup U9 = some (excClassObj nm9 q9 U9 N9 bs9 (.ref TE :: veTail) true sn9 sub9 ab9 col9 dd9 k09 k19 k29 k39 k59 "ValueError.__new__"))
    (sa_9 : PySem.W.findIn K (.ref U9) "__setattr__" = some (some (.builtin "object.__setattr__")))
    (ga_9 : PySem.W.findIn K (.ref U9) "__getattribute__" = some (some (.builtin "BaseException.__getattribute__")))
    (gg_9 : PySem.W.findIn K (.ref U9) "__getattr__" = some none)
    (cc_9 : PySem.W.findIn K (.ref U9) "__class__" = some (some (.builtin "object.__class__")))
    (kk_9 : PySem.W.keepIn K (.ref U9) = true)
    (no_9 : PySem.W.findIn K (.ref U9) "number" = some none)
    (i_9 : PySem.W.findIn K (.ref U9) "__init__" = some (some (.ref f_i9)))
    (t_9 : PySem.W.typeIn K (.ref f_i9) = some (.type "function"))
    {od_i9 an_i9 : Option Addr} {sl_i9 : Array (Option Value)} {oc_i9 kV_i9 dc_i9 pm_i9 cd_i9 ct_i9 : Value}
    (l_i9 : K.lookup f_i9 = some ⟨oc_i9, od_i9, .func (PySem.W.fnOf "__init__" "NoFit.__init__" (defArgs (inClass (top 17) 0)) (defBody (inClass (top 17) 0)) (defScope (inClass (top 17) 0)) (.ref aD9) kV_i9 dc_i9 pm_i9 an_i9 cd_i9 ct_i9), sl_i9⟩) (c_i9 : PySem.W.codeIn K cd_i9 "NoFit.__init__" = true) (k_i9 : PySem.W.keepIn K (.ref f_i9) = true)
    {dD9 : Option Addr} {sD9 : Array (Option Value)} {itD9 : Array Value} {nD9 : Nat}
    (lD9 : K.lookup aD9 = some ⟨.type "tuple", dD9, .seq itD9 nD9, sD9⟩)
    (qD9 : itD9 = #[.none])
    (a_10 : PySem.W.nsIn K mainGlobals "Mismatch" = some (some (.ref U10)))
    {nm10 q10 : Str} {N10 : Addr} {bs10 : List Value} {sn10 : List Str} {sub10 : List Value} {ab10 : Bool} {col10 : Option Bool} {dd10 : Option Addr} {k010 k110 k210 k310 k510 : Option Value}
    (x_10 : K.lookup U10 = some (excClassObj nm10 q10 U10 N10 bs10 (.ref TE :: veTail) true sn10 sub10 ab10 col10 dd10 k010 k110 k210 k310 k510 "ValueError.__new__"))
    (sa_10 : PySem.W.findIn K (.ref U10) "__setattr__" = some (some (.builtin "object.__setattr__")))
    (ga_10 : PySem.W.findIn K (.ref U10) "__getattribute__" = some (some (.builtin "BaseException.__getattribute__")))
    (gg_10 : PySem.W.findIn K (.ref U10) "__getattr__" = some none)
    (cc_10 : PySem.W.findIn K (.ref U10) "__class__" = some (some (.builtin "object.__class__")))
    (kk_10 : PySem.W.keepIn K (.ref U10) = true)
    (no_10 : PySem.W.findIn K (.ref U10) "number" = some none)
    (i_10 : PySem.W.findIn K (.ref U10) "__init__" = some (some (.ref f_i10)))
    (t_10 : PySem.W.typeIn K (.ref f_i10) = some (.type "function"))
    {od_i10 an_i10 : Option Addr} {sl_i10 : Array (Option Value)} {oc_i10 kV_i10 dc_i10 pm_i10 cd_i10 ct_i10 : Value}
    (l_i10 : K.lookup f_i10 = some ⟨oc_i10, od_i10, .func (PySem.W.fnOf "__init__" "Mismatch.__init__" (defArgs (inClass (top 18) 0)) (defBody (inClass (top 18) 0)) (defScope (inClass (top 18) 0)) (.ref aD10) kV_i10 dc_i10 pm_i10 an_i10 cd_i10 ct_i10), sl_i10⟩) (c_i10 : PySem.W.codeIn K cd_i10 "Mismatch.__init__" = true) (k_i10 : PySem.W.keepIn K (.ref f_i10) = true)
    {dD10 : Option Addr} {sD10 : Array (Option Value)} {itD10 : Array Value} {nD10 : Nat}
    (lD10 : K.lookup aD10 = some ⟨.type "tuple", dD10, .seq itD10 nD10, sD10⟩)
    (qD10 : itD10 = #[.none])
    (a_11 : PySem.W.nsIn K mainGlobals "InvalidPlace" = some (some (.ref U11)))
    {nm11 q11 : Str} {N11 : Addr} {bs11 : List Value} {sn11 : List Str} {sub11 : List Value} {ab11 : Bool} {col11 : Option Bool} {dd11 : Option Addr} {k011 k111 k211 k311 k511 : Option Value}
    (x_11 : K.lookup U11 = some (excClassObj nm11 q11 U11 N11 bs11 (.ref TE :: veTail) true sn11 sub11 ab11 col11 dd11 k011 k111 k211 k311 k511 "ValueError.__new__"))
    (sa_11 : PySem.W.findIn K (.ref U11) "__setattr__" = some (some (.builtin "object.__setattr__")))
    (ga_11 : PySem.W.findIn K (.ref U11) "__getattribute__" = some (some (.builtin "BaseException.__getattribute__")))
    (gg_11 : PySem.W.findIn K (.ref U11) "__getattr__" = some none)
    (cc_11 : PySem.W.findIn K (.ref U11) "__class__" = some (some (.builtin "object.__class__")))
    (kk_11 : PySem.W.keepIn K (.ref U11) = true)
    (no_11 : PySem.W.findIn K (.ref U11) "index" = some none)
    (i_11 : PySem.W.findIn K (.ref U11) "__init__" = some (some (.ref f_i11)))
    (t_11 : PySem.W.typeIn K (.ref f_i11) = some (.type "function"))
    {od_i11 an_i11 : Option Addr} {sl_i11 : Array (Option Value)} {oc_i11 kV_i11 dc_i11 pm_i11 cd_i11 ct_i11 : Value}
    (l_i11 : K.lookup f_i11 = some ⟨oc_i11, od_i11, .func (PySem.W.fnOf "__init__" "InvalidPlace.__init__" (defArgs (inClass (top 19) 0)) (defBody (inClass (top 19) 0)) (defScope (inClass (top 19) 0)) (.ref aD11) kV_i11 dc_i11 pm_i11 an_i11 cd_i11 ct_i11), sl_i11⟩) (c_i11 : PySem.W.codeIn K cd_i11 "InvalidPlace.__init__" = true) (k_i11 : PySem.W.keepIn K (.ref f_i11) = true)
    {dD11 : Option Addr} {sD11 : Array (Option Value)} {itD11 : Array Value} {nD11 : Nat}
    (lD11 : K.lookup aD11 = some ⟨.type "tuple", dD11, .seq itD11 nD11, sD11⟩)
    (qD11 : itD11 = #[.none])
    (a_12 : PySem.W.nsIn K mainGlobals "InvalidAnswer" = some (some (.ref U12)))
    {nm12 q12 : Str} {N12 : Addr} {bs12 : List Value} {sn12 : List Str} {sub12 : List Value} {ab12 : Bool} {col12 : Option Bool} {dd12 : Option Addr} {k012 k112 k212 k312 k512 : Option Value}
    (x_12 : K.lookup U12 = some (excClassObj nm12 q12 U12 N12 bs12 (.ref TE :: veTail) true sn12 sub12 ab12 col12 dd12 k012 k112 k212 k312 k512 "ValueError.__new__"))
    (sa_12 : PySem.W.findIn K (.ref U12) "__setattr__" = some (some (.builtin "object.__setattr__")))
    (ga_12 : PySem.W.findIn K (.ref U12) "__getattribute__" = some (some (.builtin "BaseException.__getattribute__")))
    (gg_12 : PySem.W.findIn K (.ref U12) "__getattr__" = some none)
    (cc_12 : PySem.W.findIn K (.ref U12) "__class__" = some (some (.builtin "object.__class__")))
    (kk_12 : PySem.W.keepIn K (.ref U12) = true)
    (no_12 : PySem.W.findIn K (.ref U12) "first" = some none)
    (i_12 : PySem.W.findIn K (.ref U12) "__init__" = some (some (.ref f_i12)))
    (t_12 : PySem.W.typeIn K (.ref f_i12) = some (.type "function"))
    {od_i12 an_i12 : Option Addr} {sl_i12 : Array (Option Value)} {oc_i12 kV_i12 dc_i12 pm_i12 cd_i12 ct_i12 : Value}
    (l_i12 : K.lookup f_i12 = some ⟨oc_i12, od_i12, .func (PySem.W.fnOf "__init__" "InvalidAnswer.__init__" (defArgs (inClass (top 22) 0)) (defBody (inClass (top 22) 0)) (defScope (inClass (top 22) 0)) (.ref aD12) kV_i12 dc_i12 pm_i12 an_i12 cd_i12 ct_i12), sl_i12⟩) (c_i12 : PySem.W.codeIn K cd_i12 "InvalidAnswer.__init__" = true) (k_i12 : PySem.W.keepIn K (.ref f_i12) = true)
    {dD12 : Option Addr} {sD12 : Array (Option Value)} {itD12 : Array Value} {nD12 : Nat}
    (lD12 : K.lookup aD12 = some ⟨.type "tuple", dD12, .seq itD12 nD12, sD12⟩)
    (qD12 : itD12 = #[.none])
    (a_13 : PySem.W.nsIn K mainGlobals "NoRoad" = some (some (.ref U13)))
    {nm13 q13 : Str} {N13 : Addr} {bs13 : List Value} {sn13 : List Str} {sub13 : List Value} {ab13 : Bool} {col13 : Option Bool} {dd13 : Option Addr} {k013 k113 k213 k313 k513 : Option Value}
    (x_13 : K.lookup U13 = some (excClassObj nm13 q13 U13 N13 bs13 (.ref TE :: veTail) true sn13 sub13 ab13 col13 dd13 k013 k113 k213 k313 k513 "ValueError.__new__"))
    (sa_13 : PySem.W.findIn K (.ref U13) "__setattr__" = some (some (.builtin "object.__setattr__")))
    (ga_13 : PySem.W.findIn K (.ref U13) "__getattribute__" = some (some (.builtin "BaseException.__getattribute__")))
    (gg_13 : PySem.W.findIn K (.ref U13) "__getattr__" = some none)
    (cc_13 : PySem.W.findIn K (.ref U13) "__class__" = some (some (.builtin "object.__class__")))
    (kk_13 : PySem.W.keepIn K (.ref U13) = true)
    (e_13 : PySem.W.excIn K U13 veTail "ValueError.__new__" = true)
    (a_14 : PySem.W.nsIn K mainGlobals "NoConflict" = some (some (.ref U14)))
    {nm14 q14 : Str} {N14 : Addr} {bs14 : List Value} {sn14 : List Str} {sub14 : List Value} {ab14 : Bool} {col14 : Option Bool} {dd14 : Option Addr} {k014 k114 k214 k314 k514 : Option Value}
    (x_14 : K.lookup U14 = some (excClassObj nm14 q14 U14 N14 bs14 (.ref TE :: veTail) true sn14 sub14 ab14 col14 dd14 k014 k114 k214 k314 k514 "ValueError.__new__"))
    (sa_14 : PySem.W.findIn K (.ref U14) "__setattr__" = some (some (.builtin "object.__setattr__")))
    (ga_14 : PySem.W.findIn K (.ref U14) "__getattribute__" = some (some (.builtin "BaseException.__getattribute__")))
    (gg_14 : PySem.W.findIn K (.ref U14) "__getattr__" = some none)
    (cc_14 : PySem.W.findIn K (.ref U14) "__class__" = some (some (.builtin "object.__class__")))
    (kk_14 : PySem.W.keepIn K (.ref U14) = true)
    (e_14 : PySem.W.excIn K U14 veTail "ValueError.__new__" = true)
    (a_15 : PySem.W.nsIn K mainGlobals "TooManyTellers" = some (some (.ref U15)))
    {nm15 q15 : Str} {N15 : Addr} {bs15 : List Value} {sn15 : List Str} {sub15 : List Value} {ab15 : Bool} {col15 : Option Bool} {dd15 : Option Addr} {k015 k115 k215 k315 k515 : Option Value}
    (x_15 : K.lookup U15 = some (excClassObj nm15 q15 U15 N15 bs15 (.ref TE :: veTail) true sn15 sub15 ab15 col15 dd15 k015 k115 k215 k315 k515 "ValueError.__new__"))
    (sa_15 : PySem.W.findIn K (.ref U15) "__setattr__" = some (some (.builtin "object.__setattr__")))
    (ga_15 : PySem.W.findIn K (.ref U15) "__getattribute__" = some (some (.builtin "BaseException.__getattribute__")))
    (gg_15 : PySem.W.findIn K (.ref U15) "__getattr__" = some none)
    (cc_15 : PySem.W.findIn K (.ref U15) "__class__" = some (some (.builtin "object.__class__")))
    (kk_15 : PySem.W.keepIn K (.ref U15) = true)
    (e_15 : PySem.W.excIn K U15 veTail "ValueError.__new__" = true)
    (a_16 : PySem.W.nsIn K mainGlobals "NothingToUndo" = some (some (.ref U16)))
    {nm16 q16 : Str} {N16 : Addr} {bs16 : List Value} {sn16 : List Str} {sub16 : List Value} {ab16 : Bool} {col16 : Option Bool} {dd16 : Option Addr} {k016 k116 k216 k316 k516 : Option Value}
    (x_16 : K.lookup U16 = some (excClassObj nm16 q16 U16 N16 bs16 (.ref TE :: veTail) true sn16 sub16 ab16 col16 dd16 k016 k116 k216 k316 k516 "ValueError.__new__"))
    (sa_16 : PySem.W.findIn K (.ref U16) "__setattr__" = some (some (.builtin "object.__setattr__")))
    (ga_16 : PySem.W.findIn K (.ref U16) "__getattribute__" = some (some (.builtin "BaseException.__getattribute__")))
    (gg_16 : PySem.W.findIn K (.ref U16) "__getattr__" = some none)
    (cc_16 : PySem.W.findIn K (.ref U16) "__class__" = some (some (.builtin "object.__class__")))
    (kk_16 : PySem.W.keepIn K (.ref U16) = true)
    (e_16 : PySem.W.excIn K U16 veTail "ValueError.__new__" = true)
    (a_17 : PySem.W.nsIn K mainGlobals "TooLarge" = some (some (.ref U17)))
    {nm17 q17 : Str} {N17 : Addr} {bs17 : List Value} {sn17 : List Str} {sub17 : List Value} {ab17 : Bool} {col17 : Option Bool} {dd17 : Option Addr} {k017 k117 k217 k317 k517 : Option Value}
    (x_17 : K.lookup U17 = some (excClassObj nm17 q17 U17 N17 bs17 (.ref TE :: veTail) true sn17 sub17 ab17 col17 dd17 k017 k117 k217 k317 k517 "ValueError.__new__"))
    (sa_17 : PySem.W.findIn K (.ref U17) "__setattr__" = some (some (.builtin "object.__setattr__")))
    (ga_17 : PySem.W.findIn K (.ref U17) "__getattribute__" = some (some (.builtin "BaseException.__getattribute__")))
    (gg_17 : PySem.W.findIn K (.ref U17) "__getattr__" = some none)
    (cc_17 : PySem.W.findIn K (.ref U17) "__class__" = some (some (.builtin "object.__class__")))
    (kk_17 : PySem.W.keepIn K (.ref U17) = true)
    (e_17 : PySem.W.excIn K U17 veTail "ValueError.__new__" = true)
    (a_18 : PySem.W.nsIn K mainGlobals "NotForest" = some (some (.ref U18)))
    {nm18 q18 : Str} {N18 : Addr} {bs18 : List Value} {sn18 : List Str} {sub18 : List Value} {ab18 : Bool} {col18 : Option Bool} {dd18 : Option Addr} {k018 k118 k218 k318 k518 : Option Value}
    (x_18 : K.lookup U18 = some (excClassObj nm18 q18 U18 N18 bs18 (.ref TE :: veTail) true sn18 sub18 ab18 col18 dd18 k018 k118 k218 k318 k518 "ValueError.__new__"))
    (sa_18 : PySem.W.findIn K (.ref U18) "__setattr__" = some (some (.builtin "object.__setattr__")))
    (ga_18 : PySem.W.findIn K (.ref U18) "__getattribute__" = some (some (.builtin "BaseException.__getattribute__")))
    (gg_18 : PySem.W.findIn K (.ref U18) "__getattr__" = some none)
    (cc_18 : PySem.W.findIn K (.ref U18) "__class__" = some (some (.builtin "object.__class__")))
    (kk_18 : PySem.W.keepIn K (.ref U18) = true)
    (e_18 : PySem.W.excIn K U18 veTail "ValueError.__new__" = true)
    (a_19 : PySem.W.nsIn K mainGlobals "NothingKnown" = some (some (.ref U19)))
    {nm19 q19 : Str} {N19 : Addr} {bs19 : List Value} {sn19 : List Str} {sub19 : List Value} {ab19 : Bool} {col19 : Option Bool} {dd19 : Option Addr} {k019 k119 k219 k319 k519 : Option Value}
    (x_19 : K.lookup U19 = some (excClassObj nm19 q19 U19 N19 bs19 (.ref TE :: veTail) true sn19 sub19 ab19 col19 dd19 k019 k119 k219 k319 k519 "ValueError.__new__"))
    (sa_19 : PySem.W.findIn K (.ref U19) "__setattr__" = some (some (.builtin "object.__setattr__")))
    (ga_19 : PySem.W.findIn K (.ref U19) "__getattribute__" = some (some (.builtin "BaseException.__getattribute__")))
    (gg_19 : PySem.W.findIn K (.ref U19) "__getattr__" = some none)
    (cc_19 : PySem.W.findIn K (.ref U19) "__class__" = some (some (.builtin "object.__class__")))
    (kk_19 : PySem.W.keepIn K (.ref U19) = true)
    (e_19 : PySem.W.excIn K U19 veTail "ValueError.__new__" = true)
    (a_20 : PySem.W.nsIn K mainGlobals "NoQuestion" = some (some (.ref U20)))
    {nm20 q20 : Str} {N20 : Addr} {bs20 : List Value} {sn20 : List Str} {sub20 : List Value} {ab20 : Bool} {col20 : Option Bool} {dd20 : Option Addr} {k020 k120 k220 k320 k520 : Option Value}
    (x_20 : K.lookup U20 = some (excClassObj nm20 q20 U20 N20 bs20 (.ref TE :: veTail) true sn20 sub20 ab20 col20 dd20 k020 k120 k220 k320 k520 "ValueError.__new__"))
    (sa_20 : PySem.W.findIn K (.ref U20) "__setattr__" = some (some (.builtin "object.__setattr__")))
    (ga_20 : PySem.W.findIn K (.ref U20) "__getattribute__" = some (some (.builtin "BaseException.__getattribute__")))
    (gg_20 : PySem.W.findIn K (.ref U20) "__getattr__" = some none)
    (cc_20 : PySem.W.findIn K (.ref U20) "__class__" = some (some (.builtin "object.__class__")))
    (kk_20 : PySem.W.keepIn K (.ref U20) = true)
    (e_20 : PySem.W.excIn K U20 veTail "ValueError.__new__" = true)
    (nn : PySem.W.specialIn K (.builtin "object.__class__") "__get__" = some (some (.builtin "getset_descriptor.__get__")))
    (tk : PySem.W.takesIn K (.builtin "object.__class__") = some true)
    (nd : (TE :: [U0, U1, U2, U3, U4, U5, U6, U7, U8, U9, U10, U11, U12, U13, U14, U15, U16, U17, U18, U19, U20]).Nodup)
    (a__law_at : PySem.W.nsIn K mainGlobals "_law_at" = some (some (.ref f__law_at)))
    {od__law_at an__law_at : Option Addr} {sl__law_at : Array (Option Value)} {oc__law_at kV__law_at dc__law_at pm__law_at cd__law_at ct__law_at : Value}
    (l__law_at : K.lookup f__law_at = some ⟨oc__law_at, od__law_at, .func (PySem.W.fnOf "_law_at" "_law_at" (defArgs (top 24)) (defBody (top 24)) (defScope (top 24)) .none kV__law_at dc__law_at pm__law_at an__law_at cd__law_at ct__law_at), sl__law_at⟩) (c__law_at : PySem.W.codeIn K cd__law_at "_law_at" = true) (k__law_at : PySem.W.keepIn K (.ref f__law_at) = true)
    (a__law_mixed : PySem.W.nsIn K mainGlobals "_law_mixed" = some (some (.ref f__law_mixed)))
    {od__law_mixed an__law_mixed : Option Addr} {sl__law_mixed : Array (Option Value)} {oc__law_mixed kV__law_mixed dc__law_mixed pm__law_mixed cd__law_mixed ct__law_mixed : Value}
    (l__law_mixed : K.lookup f__law_mixed = some ⟨oc__law_mixed, od__law_mixed, .func (PySem.W.fnOf "_law_mixed" "_law_mixed" (defArgs (top 25)) (defBody (top 25)) (defScope (top 25)) .none kV__law_mixed dc__law_mixed pm__law_mixed an__law_mixed cd__law_mixed ct__law_mixed), sl__law_mixed⟩) (c__law_mixed : PySem.W.codeIn K cd__law_mixed "_law_mixed" = true) (k__law_mixed : PySem.W.keepIn K (.ref f__law_mixed) = true)
    (a__law_purse : PySem.W.nsIn K mainGlobals "_law_purse" = some (some (.ref f__law_purse)))
    {od__law_purse an__law_purse : Option Addr} {sl__law_purse : Array (Option Value)} {oc__law_purse kV__law_purse dc__law_purse pm__law_purse cd__law_purse ct__law_purse : Value}
    (l__law_purse : K.lookup f__law_purse = some ⟨oc__law_purse, od__law_purse, .func (PySem.W.fnOf "_law_purse" "_law_purse" (defArgs (top 26)) (defBody (top 26)) (defScope (top 26)) .none kV__law_purse dc__law_purse pm__law_purse an__law_purse cd__law_purse ct__law_purse), sl__law_purse⟩) (c__law_purse : PySem.W.codeIn K cd__law_purse "_law_purse" = true) (k__law_purse : PySem.W.keepIn K (.ref f__law_purse) = true)
    (a__law_draw : PySem.W.nsIn K mainGlobals "_law_draw" = some (some (.ref f__law_draw)))
    {od__law_draw an__law_draw : Option Addr} {sl__law_draw : Array (Option Value)} {oc__law_draw kV__law_draw dc__law_draw pm__law_draw cd__law_draw ct__law_draw : Value}
    (l__law_draw : K.lookup f__law_draw = some ⟨oc__law_draw, od__law_draw, .func (PySem.W.fnOf "_law_draw" "_law_draw" (defArgs (top 27)) (defBody (top 27)) (defScope (top 27)) .none kV__law_draw dc__law_draw pm__law_draw an__law_draw cd__law_draw ct__law_draw), sl__law_draw⟩) (c__law_draw : PySem.W.codeIn K cd__law_draw "_law_draw" = true) (k__law_draw : PySem.W.keepIn K (.ref f__law_draw) = true)
    (a__law_plain : PySem.W.nsIn K mainGlobals "_law_plain" = some (some (.ref f__law_plain)))
    {od__law_plain an__law_plain : Option Addr} {sl__law_plain : Array (Option Value)} {oc__law_plain kV__law_plain dc__law_plain pm__law_plain cd__law_plain ct__law_plain : Value}
    (l__law_plain : K.lookup f__law_plain = some ⟨oc__law_plain, od__law_plain, .func (PySem.W.fnOf "_law_plain" "_law_plain" (defArgs (top 32)) (defBody (top 32)) (defScope (top 32)) .none kV__law_plain dc__law_plain pm__law_plain an__law_plain cd__law_plain ct__law_plain), sl__law_plain⟩) (c__law_plain : PySem.W.codeIn K cd__law_plain "_law_plain" = true) (k__law_plain : PySem.W.keepIn K (.ref f__law_plain) = true)
    (a__law_kinds : PySem.W.nsIn K mainGlobals "_law_kinds" = some (some (.ref f__law_kinds)))
    {od__law_kinds an__law_kinds : Option Addr} {sl__law_kinds : Array (Option Value)} {oc__law_kinds kV__law_kinds dc__law_kinds pm__law_kinds cd__law_kinds ct__law_kinds : Value}
    (l__law_kinds : K.lookup f__law_kinds = some ⟨oc__law_kinds, od__law_kinds, .func (PySem.W.fnOf "_law_kinds" "_law_kinds" (defArgs (top 28)) (defBody (top 28)) (defScope (top 28)) .none kV__law_kinds dc__law_kinds pm__law_kinds an__law_kinds cd__law_kinds ct__law_kinds), sl__law_kinds⟩) (c__law_kinds : PySem.W.codeIn K cd__law_kinds "_law_kinds" = true) (k__law_kinds : PySem.W.keepIn K (.ref f__law_kinds) = true)
    (a__law_placed : PySem.W.nsIn K mainGlobals "_law_placed" = some (some (.ref f__law_placed)))
    {od__law_placed an__law_placed : Option Addr} {sl__law_placed : Array (Option Value)} {oc__law_placed kV__law_placed dc__law_placed pm__law_placed cd__law_placed ct__law_placed : Value}
    (l__law_placed : K.lookup f__law_placed = some ⟨oc__law_placed, od__law_placed, .func (PySem.W.fnOf "_law_placed" "_law_placed" (defArgs (top 29)) (defBody (top 29)) (defScope (top 29)) .none kV__law_placed dc__law_placed pm__law_placed an__law_placed cd__law_placed ct__law_placed), sl__law_placed⟩) (c__law_placed : PySem.W.codeIn K cd__law_placed "_law_placed" = true) (k__law_placed : PySem.W.keepIn K (.ref f__law_placed) = true)
    (a__law_named : PySem.W.nsIn K mainGlobals "_law_named" = some (some (.ref f__law_named)))
    {od__law_named an__law_named : Option Addr} {sl__law_named : Array (Option Value)} {oc__law_named kV__law_named dc__law_named pm__law_named cd__law_named ct__law_named : Value}
    (l__law_named : K.lookup f__law_named = some ⟨oc__law_named, od__law_named, .func (PySem.W.fnOf "_law_named" "_law_named" (defArgs (top 30)) (defBody (top 30)) (defScope (top 30)) .none kV__law_named dc__law_named pm__law_named an__law_named cd__law_named ct__law_named), sl__law_named⟩) (c__law_named : PySem.W.codeIn K cd__law_named "_law_named" = true) (k__law_named : PySem.W.keepIn K (.ref f__law_named) = true)
    (a__law_bare : PySem.W.nsIn K mainGlobals "_law_bare" = some (some (.ref f__law_bare)))
    {od__law_bare an__law_bare : Option Addr} {sl__law_bare : Array (Option Value)} {oc__law_bare kV__law_bare dc__law_bare pm__law_bare cd__law_bare ct__law_bare : Value}
    (l__law_bare : K.lookup f__law_bare = some ⟨oc__law_bare, od__law_bare, .func (PySem.W.fnOf "_law_bare" "_law_bare" (defArgs (top 31)) (defBody (top 31)) (defScope (top 31)) .none kV__law_bare dc__law_bare pm__law_bare an__law_bare cd__law_bare ct__law_bare), sl__law_bare⟩) (c__law_bare : PySem.W.codeIn K cd__law_bare "_law_bare" = true) (k__law_bare : PySem.W.keepIn K (.ref f__law_bare) = true)
    (a__law_fields : PySem.W.nsIn K mainGlobals "_law_fields" = some (some (.ref f__law_fields)))
    {od__law_fields an__law_fields : Option Addr} {sl__law_fields : Array (Option Value)} {oc__law_fields kV__law_fields dc__law_fields pm__law_fields cd__law_fields ct__law_fields : Value}
    (l__law_fields : K.lookup f__law_fields = some ⟨oc__law_fields, od__law_fields, .func (PySem.W.fnOf "_law_fields" "_law_fields" (defArgs (top 33)) (defBody (top 33)) (defScope (top 33)) .none kV__law_fields dc__law_fields pm__law_fields an__law_fields cd__law_fields ct__law_fields), sl__law_fields⟩) (c__law_fields : PySem.W.codeIn K cd__law_fields "_law_fields" = true) (k__law_fields : PySem.W.keepIn K (.ref f__law_fields) = true)
    (a__law_kinds_right : PySem.W.nsIn K mainGlobals "_law_kinds_right" = some (some (.ref f__law_kinds_right)))
    {od__law_kinds_right an__law_kinds_right : Option Addr} {sl__law_kinds_right : Array (Option Value)} {oc__law_kinds_right kV__law_kinds_right dc__law_kinds_right pm__law_kinds_right cd__law_kinds_right ct__law_kinds_right : Value}
    (l__law_kinds_right : K.lookup f__law_kinds_right = some ⟨oc__law_kinds_right, od__law_kinds_right, .func (PySem.W.fnOf "_law_kinds_right" "_law_kinds_right" (defArgs (top 34)) (defBody (top 34)) (defScope (top 34)) .none kV__law_kinds_right dc__law_kinds_right pm__law_kinds_right an__law_kinds_right cd__law_kinds_right ct__law_kinds_right), sl__law_kinds_right⟩) (c__law_kinds_right : PySem.W.codeIn K cd__law_kinds_right "_law_kinds_right" = true) (k__law_kinds_right : PySem.W.keepIn K (.ref f__law_kinds_right) = true)
    (a_law : PySem.W.nsIn K mainGlobals "law" = some (some (.ref f_law)))
    {od_law an_law : Option Addr} {sl_law : Array (Option Value)} {oc_law kV_law dc_law pm_law cd_law ct_law : Value}
    (l_law : K.lookup f_law = some ⟨oc_law, od_law, .func (PySem.W.fnOf "law" "law" (defArgs (top 35)) (defBody (top 35)) (defScope (top 35)) .none kV_law dc_law pm_law an_law cd_law ct_law), sl_law⟩) (c_law : PySem.W.codeIn K cd_law "law" = true) (k_law : PySem.W.keepIn K (.ref f_law) = true)
    (z_len : PySem.W.nsIn K mainGlobals "len" = some none)
    (z_max : PySem.W.nsIn K mainGlobals "max" = some none)
    (z_min : PySem.W.nsIn K mainGlobals "min" = some none)
    (z_isinstance : PySem.W.nsIn K mainGlobals "isinstance" = some none)
    (z_range : PySem.W.nsIn K mainGlobals "range" = some none)
    (z_enumerate : PySem.W.nsIn K mainGlobals "enumerate" = some none)
    (z_ValueError : PySem.W.nsIn K mainGlobals "ValueError" = some none) :
    ∃ fd : FuncData, Fun K "law" "law" (top 35) fa fd ∧ (∀ (s : Shared) (u : Value), BindsTo s fd ⟨[u], []⟩ [("script", u)]) ∧ ∀ (a : Addr) (ns : List Int), ns.length ≤ 63 → BodyAt P w K mg ["script", "at", "base", "purse", "some", "value", "made"] "law" "law" (top 35) fa a ns := by
  have e := hfa.symm.trans (PySem.W.mg_of X G a_law)
  cases e
  have D__law_at := fun_mk (st := (top 24)) l__law_at c__law_at k__law_at
  have g__law_at := PySem.W.mg_of X G a__law_at
  have D__law_mixed := fun_mk (st := (top 25)) l__law_mixed c__law_mixed k__law_mixed
  have g__law_mixed := PySem.W.mg_of X G a__law_mixed
  have D__law_purse := fun_mk (st := (top 26)) l__law_purse c__law_purse k__law_purse
  have g__law_purse := PySem.W.mg_of X G a__law_purse
  have D__law_draw := fun_mk (st := (top 27)) l__law_draw c__law_draw k__law_draw
  have g__law_draw := PySem.W.mg_of X G a__law_draw
  have D__law_plain := fun_mk (st := (top 32)) l__law_plain c__law_plain k__law_plain
  have g__law_plain := PySem.W.mg_of X G a__law_plain
  have D__law_kinds := fun_mk (st := (top 28)) l__law_kinds c__law_kinds k__law_kinds
  have g__law_kinds := PySem.W.mg_of X G a__law_kinds
  have D__law_placed := fun_mk (st := (top 29)) l__law_placed c__law_placed k__law_placed
  have g__law_placed := PySem.W.mg_of X G a__law_placed
  have D__law_named := fun_mk (st := (top 30)) l__law_named c__law_named k__law_named
  have g__law_named := PySem.W.mg_of X G a__law_named
  have D__law_bare := fun_mk (st := (top 31)) l__law_bare c__law_bare k__law_bare
  have g__law_bare := PySem.W.mg_of X G a__law_bare
  have D__law_fields := fun_mk (st := (top 33)) l__law_fields c__law_fields k__law_fields
  have g__law_fields := PySem.W.mg_of X G a__law_fields
  have D__law_kinds_right := fun_mk (st := (top 34)) l__law_kinds_right c__law_kinds_right k__law_kinds_right
  have g__law_kinds_right := PySem.W.mg_of X G a__law_kinds_right
  have D_law := fun_mk (st := (top 35)) l_law c_law k_law
  have T : Tx K mg := ⟨PySem.W.mg_none_of X G z_len, PySem.W.mg_none_of X G z_max, PySem.W.mg_none_of X G z_min, PySem.W.mg_none_of X G z_isinstance, PySem.W.mg_none_of X G z_range, PySem.W.mg_none_of X G z_enumerate, PySem.W.mg_none_of X G z_ValueError⟩
  have E_T : Ec K veTail TE := ⟨⟨_, _, _, _, _, _, _, _, _, _, _, _, _, _, x_T⟩, sa_T, ga_T, gg_T, cc_T, kk_T⟩
  have E_0 : Ec K (.ref TE :: veTail) U0 := ⟨⟨_, _, _, _, _, _, _, _, _, _, _, _, _, _, x_0⟩, sa_0, ga_0, gg_0, cc_0, kk_0⟩
  have E_1 : Ec K (.ref TE :: veTail) U1 := ⟨⟨_, _, _, _, _, _, _, _, _, _, _, _, _, _, x_1⟩, sa_1, ga_1, gg_1, cc_1, kk_1⟩
  have E_2 : Ec K (.ref TE :: veTail) U2 := ⟨⟨_, _, _, _, _, _, _, _, _, _, _, _, _, _, x_2⟩, sa_2, ga_2, gg_2, cc_2, kk_2⟩
  have E_3 : Ec K (.ref TE :: veTail) U3 := ⟨⟨_, _, _, _, _, _, _, _, _, _, _, _, _, _, x_3⟩, sa_3, ga_3, gg_3, cc_3, kk_3⟩
  have E_4 : Ec K (.ref TE :: veTail) U4 := ⟨⟨_, _, _, _, _, _, _, _, _, _, _, _, _, _, x_4⟩, sa_4, ga_4, gg_4, cc_4, kk_4⟩
  have E_5 : Ec K (.ref TE :: veTail) U5 := ⟨⟨_, _, _, _, _, _, _, _, _, _, _, _, _, _, x_5⟩, sa_5, ga_5, gg_5, cc_5, kk_5⟩
  have E_6 : Ec K (.ref TE :: veTail) U6 := ⟨⟨_, _, _, _, _, _, _, _, _, _, _, _, _, _, x_6⟩, sa_6, ga_6, gg_6, cc_6, kk_6⟩
  have E_7 : Ec K (.ref TE :: veTail) U7 := ⟨⟨_, _, _, _, _, _, _, _, _, _, _, _, _, _, x_7⟩, sa_7, ga_7, gg_7, cc_7, kk_7⟩
  have E_8 : Ec K (.ref TE :: veTail) U8 := ⟨⟨_, _, _, _, _, _, _, _, _, _, _, _, _, _, x_8⟩, sa_8, ga_8, gg_8, cc_8, kk_8⟩
  have E_9 : Ec K (.ref TE :: veTail) U9 := ⟨⟨_, _, _, _, _, _, _, _, _, _, _, _, _, _, x_9⟩, sa_9, ga_9, gg_9, cc_9, kk_9⟩
  have E_10 : Ec K (.ref TE :: veTail) U10 := ⟨⟨_, _, _, _, _, _, _, _, _, _, _, _, _, _, x_10⟩, sa_10, ga_10, gg_10, cc_10, kk_10⟩
  have E_11 : Ec K (.ref TE :: veTail) U11 := ⟨⟨_, _, _, _, _, _, _, _, _, _, _, _, _, _, x_11⟩, sa_11, ga_11, gg_11, cc_11, kk_11⟩
  have E_12 : Ec K (.ref TE :: veTail) U12 := ⟨⟨_, _, _, _, _, _, _, _, _, _, _, _, _, _, x_12⟩, sa_12, ga_12, gg_12, cc_12, kk_12⟩
  have E_13 : Ec K (.ref TE :: veTail) U13 := ⟨⟨_, _, _, _, _, _, _, _, _, _, _, _, _, _, x_13⟩, sa_13, ga_13, gg_13, cc_13, kk_13⟩
  have E_14 : Ec K (.ref TE :: veTail) U14 := ⟨⟨_, _, _, _, _, _, _, _, _, _, _, _, _, _, x_14⟩, sa_14, ga_14, gg_14, cc_14, kk_14⟩
  have E_15 : Ec K (.ref TE :: veTail) U15 := ⟨⟨_, _, _, _, _, _, _, _, _, _, _, _, _, _, x_15⟩, sa_15, ga_15, gg_15, cc_15, kk_15⟩
  have E_16 : Ec K (.ref TE :: veTail) U16 := ⟨⟨_, _, _, _, _, _, _, _, _, _, _, _, _, _, x_16⟩, sa_16, ga_16, gg_16, cc_16, kk_16⟩
  have E_17 : Ec K (.ref TE :: veTail) U17 := ⟨⟨_, _, _, _, _, _, _, _, _, _, _, _, _, _, x_17⟩, sa_17, ga_17, gg_17, cc_17, kk_17⟩
  have E_18 : Ec K (.ref TE :: veTail) U18 := ⟨⟨_, _, _, _, _, _, _, _, _, _, _, _, _, _, x_18⟩, sa_18, ga_18, gg_18, cc_18, kk_18⟩
  have E_19 : Ec K (.ref TE :: veTail) U19 := ⟨⟨_, _, _, _, _, _, _, _, _, _, _, _, _, _, x_19⟩, sa_19, ga_19, gg_19, cc_19, kk_19⟩
  have E_20 : Ec K (.ref TE :: veTail) U20 := ⟨⟨_, _, _, _, _, _, _, _, _, _, _, _, _, _, x_20⟩, sa_20, ga_20, gg_20, cc_20, kk_20⟩
  have D_i0 : FunD K "__init__" "InvalidTale.__init__" (defArgs (inClass (top 2) 0)) (defBody (inClass (top 2) 0)) (defScope (inClass (top 2) 0)) [.non] [] f_i0 _ := ⟨⟨oc_i0, od_i0, _, kV_i0, dc_i0, pm_i0, an_i0, cd_i0, ct_i0, sl_i0, rfl, l_i0, c_i0, .inr ⟨by simp, aD0, _, [.none], nD0, rfl, lD0, by rw [qD0], .cons rfl .nil⟩, .inl rfl⟩, k_i0⟩
  have D_i1 : FunD K "__init__" "InvalidTimeline.__init__" (defArgs (inClass (top 5) 0)) (defBody (inClass (top 5) 0)) (defScope (inClass (top 5) 0)) [.non] [] f_i1 _ := ⟨⟨oc_i1, od_i1, _, kV_i1, dc_i1, pm_i1, an_i1, cd_i1, ct_i1, sl_i1, rfl, l_i1, c_i1, .inr ⟨by simp, aD1, _, [.none], nD1, rfl, lD1, by rw [qD1], .cons rfl .nil⟩, .inl rfl⟩, k_i1⟩
  have D_i2 : FunD K "__init__" "InvalidTellers.__init__" (defArgs (inClass (top 7) 0)) (defBody (inClass (top 7) 0)) (defScope (inClass (top 7) 0)) [.non] [] f_i2 _ := ⟨⟨oc_i2, od_i2, _, kV_i2, dc_i2, pm_i2, an_i2, cd_i2, ct_i2, sl_i2, rfl, l_i2, c_i2, .inr ⟨by simp, aD2, _, [.none], nD2, rfl, lD2, by rw [qD2], .cons rfl .nil⟩, .inl rfl⟩, k_i2⟩
  have D_i3 : FunD K "__init__" "InvalidReport.__init__" (defArgs (inClass (top 16) 0)) (defBody (inClass (top 16) 0)) (defScope (inClass (top 16) 0)) [.non] [] f_i3 _ := ⟨⟨oc_i3, od_i3, _, kV_i3, dc_i3, pm_i3, an_i3, cd_i3, ct_i3, sl_i3, rfl, l_i3, c_i3, .inr ⟨by simp, aD3, _, [.none], nD3, rfl, lD3, by rw [qD3], .cons rfl .nil⟩, .inl rfl⟩, k_i3⟩
  have D_i4 : FunD K "__init__" "InvalidText.__init__" (defArgs (inClass (top 3) 0)) (defBody (inClass (top 3) 0)) (defScope (inClass (top 3) 0)) [.non] [] f_i4 _ := ⟨⟨oc_i4, od_i4, _, kV_i4, dc_i4, pm_i4, an_i4, cd_i4, ct_i4, sl_i4, rfl, l_i4, c_i4, .inr ⟨by simp, aD4, _, [.none], nD4, rfl, lD4, by rw [qD4], .cons rfl .nil⟩, .inl rfl⟩, k_i4⟩
  have D_i5 : FunD K "__init__" "UnknownMoment.__init__" (defArgs (inClass (top 4) 0)) (defBody (inClass (top 4) 0)) (defScope (inClass (top 4) 0)) [.non] [] f_i5 _ := ⟨⟨oc_i5, od_i5, _, kV_i5, dc_i5, pm_i5, an_i5, cd_i5, ct_i5, sl_i5, rfl, l_i5, c_i5, .inr ⟨by simp, aD5, _, [.none], nD5, rfl, lD5, by rw [qD5], .cons rfl .nil⟩, .inl rfl⟩, k_i5⟩
  have D_i6 : FunD K "__init__" "InvalidName.__init__" (defArgs (inClass (top 10) 0)) (defBody (inClass (top 10) 0)) (defScope (inClass (top 10) 0)) [.non] [] f_i6 _ := ⟨⟨oc_i6, od_i6, _, kV_i6, dc_i6, pm_i6, an_i6, cd_i6, ct_i6, sl_i6, rfl, l_i6, c_i6, .inr ⟨by simp, aD6, _, [.none], nD6, rfl, lD6, by rw [qD6], .cons rfl .nil⟩, .inl rfl⟩, k_i6⟩
  have D_i7 : FunD K "__init__" "Conflict.__init__" (defArgs (inClass (top 8) 0)) (defBody (inClass (top 8) 0)) (defScope (inClass (top 8) 0)) [.non] [] f_i7 _ := ⟨⟨oc_i7, od_i7, _, kV_i7, dc_i7, pm_i7, an_i7, cd_i7, ct_i7, sl_i7, rfl, l_i7, c_i7, .inr ⟨by simp, aD7, _, [.none], nD7, rfl, lD7, by rw [qD7], .cons rfl .nil⟩, .inl rfl⟩, k_i7⟩
  have D_i8 : FunD K "__init__" "OutOfRange.__init__" (defArgs (inClass (top 15) 0)) (defBody (inClass (top 15) 0)) (defScope (inClass (top 15) 0)) [.non] [] f_i8 _ := ⟨⟨oc_i8, od_i8, _, kV_i8, dc_i8, pm_i8, an_i8, cd_i8, ct_i8, sl_i8, rfl, l_i8, c_i8, .inr ⟨by simp, aD8, _, [.none], nD8, rfl, lD8, by rw [qD8], .cons rfl .nil⟩, .inl rfl⟩, k_i8⟩
  have D_i9 : FunD K "__init__" "NoFit.__init__" (defArgs (inClass (top 17) 0)) (defBody (inClass (top 17) 0)) (defScope (inClass (top 17) 0)) [.non] [] f_i9 _ := ⟨⟨oc_i9, od_i9, _, kV_i9, dc_i9, pm_i9, an_i9, cd_i9, ct_i9, sl_i9, rfl, l_i9, c_i9, .inr ⟨by simp, aD9, _, [.none], nD9, rfl, lD9, by rw [qD9], .cons rfl .nil⟩, .inl rfl⟩, k_i9⟩
  have D_i10 : FunD K "__init__" "Mismatch.__init__" (defArgs (inClass (top 18) 0)) (defBody (inClass (top 18) 0)) (defScope (inClass (top 18) 0)) [.non] [] f_i10 _ := ⟨⟨oc_i10, od_i10, _, kV_i10, dc_i10, pm_i10, an_i10, cd_i10, ct_i10, sl_i10, rfl, l_i10, c_i10, .inr ⟨by simp, aD10, _, [.none], nD10, rfl, lD10, by rw [qD10], .cons rfl .nil⟩, .inl rfl⟩, k_i10⟩
  have D_i11 : FunD K "__init__" "InvalidPlace.__init__" (defArgs (inClass (top 19) 0)) (defBody (inClass (top 19) 0)) (defScope (inClass (top 19) 0)) [.non] [] f_i11 _ := ⟨⟨oc_i11, od_i11, _, kV_i11, dc_i11, pm_i11, an_i11, cd_i11, ct_i11, sl_i11, rfl, l_i11, c_i11, .inr ⟨by simp, aD11, _, [.none], nD11, rfl, lD11, by rw [qD11], .cons rfl .nil⟩, .inl rfl⟩, k_i11⟩
  have D_i12 : FunD K "__init__" "InvalidAnswer.__init__" (defArgs (inClass (top 22) 0)) (defBody (inClass (top 22) 0)) (defScope (inClass (top 22) 0)) [.non] [] f_i12 _ := ⟨⟨oc_i12, od_i12, _, kV_i12, dc_i12, pm_i12, an_i12, cd_i12, ct_i12, sl_i12, rfl, l_i12, c_i12, .inr ⟨by simp, aD12, _, [.none], nD12, rfl, lD12, by rw [qD12], .cons rfl .nil⟩, .inl rfl⟩, k_i12⟩
  have ERS : ∀ base, Er P w K mg base (fun i => [U0, U1, U2, U3, U4, U5, U6, U7, U8, U9, U10, U11, U12, U13, U14, U15, U16, U17, U18, U19, U20].getD i 0) TE := fun base => {
    ec := fun i hi => by
      match i, hi with
      | 0, _ => exact E_0
      | 1, _ => exact E_1
      | 2, _ => exact E_2
      | 3, _ => exact E_3
      | 4, _ => exact E_4
      | 5, _ => exact E_5
      | 6, _ => exact E_6
      | 7, _ => exact E_7
      | 8, _ => exact E_8
      | 9, _ => exact E_9
      | 10, _ => exact E_10
      | 11, _ => exact E_11
      | 12, _ => exact E_12
      | 13, _ => exact E_13
      | 14, _ => exact E_14
      | 15, _ => exact E_15
      | 16, _ => exact E_16
      | 17, _ => exact E_17
      | 18, _ => exact E_18
      | 19, _ => exact E_19
      | 20, _ => exact E_20
      | k + 21, z => exact absurd z (by omega)
    et := E_T
    nn := nn
    tk := tk
    nd := nd
    g_TaleError := PySem.W.mg_of X G a_T
    xT := e_T
    g_InvalidTale := PySem.W.mg_of X G a_0
    m0 := mkr_0 D_i0 E_0 no_0 i_0 t_0
    g_InvalidTimeline := PySem.W.mg_of X G a_1
    m1 := mkr_1 D_i1 E_1 no_1 i_1 t_1
    g_InvalidTellers := PySem.W.mg_of X G a_2
    m2 := mkr_2 D_i2 E_2 no_2 i_2 t_2
    g_InvalidReport := PySem.W.mg_of X G a_3
    m3 := mkr_3 D_i3 E_3 no_3 i_3 t_3
    g_InvalidText := PySem.W.mg_of X G a_4
    m4 := mkr_4 D_i4 E_4 no_4 i_4 t_4
    g_UnknownMoment := PySem.W.mg_of X G a_5
    m5 := mkr_5 D_i5 E_5 no_5 i_5 t_5
    g_InvalidName := PySem.W.mg_of X G a_6
    m6 := mkr_6 D_i6 E_6 no_6 i_6 t_6
    g_Conflict := PySem.W.mg_of X G a_7
    m7 := mkr_7 D_i7 E_7 no_7 i_7 t_7
    g_OutOfRange := PySem.W.mg_of X G a_8
    m8 := mkr_8 D_i8 E_8 no_8 i_8 t_8
    g_NoFit := PySem.W.mg_of X G a_9
    m9 := mkr_9 D_i9 E_9 no_9 i_9 t_9
    g_Mismatch := PySem.W.mg_of X G a_10
    m10 := mkr_10 D_i10 E_10 no_10 i_10 t_10
    g_InvalidPlace := PySem.W.mg_of X G a_11
    m11 := mkr_11 D_i11 E_11 no_11 i_11 t_11
    g_InvalidAnswer := PySem.W.mg_of X G a_12
    m12 := mkr_12 D_i12 E_12 no_12 i_12 t_12
    g_NoRoad := PySem.W.mg_of X G a_13
    x13 := e_13
    g_NoConflict := PySem.W.mg_of X G a_14
    x14 := e_14
    g_TooManyTellers := PySem.W.mg_of X G a_15
    x15 := e_15
    g_NothingToUndo := PySem.W.mg_of X G a_16
    x16 := e_16
    g_TooLarge := PySem.W.mg_of X G a_17
    x17 := e_17
    g_NotForest := PySem.W.mg_of X G a_18
    x18 := e_18
    g_NothingKnown := PySem.W.mg_of X G a_19
    x19 := e_19
    g_NoQuestion := PySem.W.mg_of X G a_20
    x20 := e_20 }
  exact ⟨_, D_law, fun s v => .of_eq rfl, fun a ns hl => body_at T ERS D__law_at g__law_at D__law_mixed g__law_mixed D__law_purse g__law_purse D__law_draw g__law_draw D__law_plain g__law_plain D__law_kinds g__law_kinds D__law_placed g__law_placed D__law_named g__law_named D__law_bare g__law_bare D__law_fields g__law_fields D__law_kinds_right g__law_kinds_right fa a ns hl⟩
theorem walk {l : PySem.W.OpenLaw} {q : Program} {loose : List Str} {XP : (Str → Option Value) → Heap → Prop} {YP : World → Heap → Prop} {d : DefRec} {K : Params → PySem.W.Frag} (most : l.most = some 63) (plain : d.params.defaults = [])
    (given : ∀ (w : World) (h : Heap), YP w h → (K w.params).In h)
    (made : ∀ (w : World) (mg : Str → Option Value) (f : Addr) (h : Heap), (K w.params).In h → h.Ns mainGlobals mg → mg d.name = some (.ref f) →
      ∃ fd : FuncData, Fun (K w.params) "law" "law" (top 35) f fd ∧ (∀ (s : Shared) (u : Value), BindsTo s fd ⟨[u], []⟩ [("script", u)]) ∧ ∀ (a : Addr) (ns : List Int), ns.length ≤ 63 → BodyAt l.prog w (K w.params) mg ["script", "at", "base", "purse", "some", "value", "made"] "law" "law" (top 35) f a ns) :
    PySem.W.WalkO q loose XP YP l.row.toRowW d [] (fun f vs => PySem.call f vs) :=
  walk_at most (by decide) plain room9 sc_law given made
end BK

open PySem PySem.W PyProof.Rows in
set_option maxHeartbeats 0 in
theorem PySem.Challenge.cw_backthen_k04_errors_and_their_fields_holds : PySem.Challenge.rw_backthen_k04_errors_and_their_fields.Holds := by
  w_on; o_law; k_head; (case hw => w_witness2)
  k_fill
  refine BK.walk (l := PySem.Challenge.rw_backthen_k04_errors_and_their_fields) rfl rfl (fun w h Y => PySem.W.kIn_of Y) ?F
  case F =>
    intro w mg fa h KX G hmg
    refine' BK.all_mk KX G hmg ?a_T ?x_T ?sa_T ?ga_T ?gg_T ?cc_T ?kk_T ?e_T ?a_0 ?x_0 ?sa_0 ?ga_0 ?gg_0 ?cc_0 ?kk_0 ?no_0 ?i_0 ?t_0 ?l_i0 ?c_i0 ?k_i0 ?lD0 ?qD0 ?a_1 ?x_1 ?sa_1 ?ga_1 ?gg_1 ?cc_1 ?kk_1 ?no_1 ?i_1 ?t_1 ?l_i1 ?c_i1 ?k_i1 ?lD1 ?qD1 ?a_2 ?x_2 ?sa_2 ?ga_2 ?gg_2 ?cc_2 ?kk_2 ?no_2 ?i_2 ?t_2 ?l_i2 ?c_i2 ?k_i2 ?lD2 ?qD2 ?a_3 ?x_3 ?sa_3 ?ga_3 ?gg_3 ?cc_3 ?kk_3 ?no_3 ?i_3 ?t_3 ?l_i3 ?c_i3 ?k_i3 ?lD3 ?qD3 ?a_4 ?x_4 ?sa_4 ?ga_4 ?gg_4 ?cc_4 ?kk_4 ?no_4 ?i_4 ?t_4 ?l_i4 ?c_i4 ?k_i4 ?lD4 ?qD4 ?a_5 ?x_5 ?sa_5 ?ga_5 ?gg_5 ?cc_5 ?kk_5 ?no_5 ?i_5 ?t_5 ?l_i5 ?c_i5 ?k_i5 ?lD5 ?qD5 ?a_6 ?x_6 ?sa_6 ?ga_6 ?gg_6 ?cc_6 ?kk_6 ?no_6 ?i_6 ?t_6 ?l_i6 ?c_i6 ?k_i6 ?lD6 ?qD6 ?a_7 ?x_7 ?sa_7 ?ga_7 ?gg_7 ?cc_7 ?kk_7 ?no_7 ?i_7 ?t_7 ?l_i7 ?c_i7 ?k_i7 ?lD7 ?qD7 ?a_8 ?x_8 ?sa_8 ?ga_8 ?gg_8 ?cc_8 ?kk_8 ?no_8 ?i_8 ?t_8 ?l_i8 ?c_i8 ?k_i8 ?lD8 ?qD8 ?a_9 ?x_9 ?sa_9 ?ga_9 ?gg_9 ?cc_9 ?kk_9 ?no_9 ?i_9 ?t_9 ?l_i9 ?c_i9 ?k_i9 ?lD9 ?qD9 ?a_10 ?x_10 ?sa_10 ?ga_10 ?gg_10 ?cc_10 ?kk_10 ?no_10 ?i_10 ?t_10 ?l_i10 ?c_i10 ?k_i10 ?lD10 ?qD10 ?a_11 ?x_11 ?sa_11 ?ga_11 ?gg_11 ?cc_11 ?kk_11 ?no_11 ?i_11 ?t_11 ?l_i11 ?c_i11 ?k_i11 ?lD11 ?qD11 ?a_12 ?x_12 ?sa_12 ?ga_12 ?gg_12 ?cc_12 ?kk_12 ?no_12 ?i_12 ?t_12 ?l_i12 ?c_i12 ?k_i12 ?lD12 ?qD12 ?a_13 ?x_13 ?sa_13 ?ga_13 ?gg_13 ?cc_13 ?kk_13 ?e_13 ?a_14 ?x_14 ?sa_14 ?ga_14 ?gg_14 ?cc_14 ?kk_14 ?e_14 ?a_15 ?x_15 ?sa_15 ?ga_15 ?gg_15 ?cc_15 ?kk_15 ?e_15 ?a_16 ?x_16 ?sa_16 ?ga_16 ?gg_16 ?cc_16 ?kk_16 ?e_16 ?a_17 ?x_17 ?sa_17 ?ga_17 ?gg_17 ?cc_17 ?kk_17 ?e_17 ?a_18 ?x_18 ?sa_18 ?ga_18 ?gg_18 ?cc_18 ?kk_18 ?e_18 ?a_19 ?x_19 ?sa_19 ?ga_19 ?gg_19 ?cc_19 ?kk_19 ?e_19 ?a_20 ?x_20 ?sa_20 ?ga_20 ?gg_20 ?cc_20 ?kk_20 ?e_20 ?nn ?tk ?nd ?a__law_at ?l__law_at ?c__law_at ?k__law_at ?a__law_mixed ?l__law_mixed ?c__law_mixed ?k__law_mixed ?a__law_purse ?l__law_purse ?c__law_purse ?k__law_purse ?a__law_draw ?l__law_draw ?c__law_draw ?k__law_draw ?a__law_plain ?l__law_plain ?c__law_plain ?k__law_plain ?a__law_kinds ?l__law_kinds ?c__law_kinds ?k__law_kinds ?a__law_placed ?l__law_placed ?c__law_placed ?k__law_placed ?a__law_named ?l__law_named ?c__law_named ?k__law_named ?a__law_bare ?l__law_bare ?c__law_bare ?k__law_bare ?a__law_fields ?l__law_fields ?c__law_fields ?k__law_fields ?a__law_kinds_right ?l__law_kinds_right ?c__law_kinds_right ?k__law_kinds_right ?a_law ?l_law ?c_law ?k_law ?z_len ?z_max ?z_min ?z_isinstance ?z_range ?z_enumerate ?z_ValueError
    (case a_T => k_is)
    (case x_T => k_is)
    (case sa_T => k_is)
    (case ga_T => k_is)
    (case gg_T => k_is)
    (case cc_T => k_is)
    (case kk_T => k_is)
    (case e_T => k_exc)
    (case a_0 => k_is)
    (case x_0 => k_is)
    (case sa_0 => k_is)
    (case ga_0 => k_is)
    (case gg_0 => k_is)
    (case cc_0 => k_is)
    (case kk_0 => k_is)
    (case no_0 => k_is)
    (case i_0 => k_is)
    (case t_0 => k_is)
    (case l_i0 => k_is)
    (case c_i0 => k_is)
    (case k_i0 => k_is)
    (case lD0 => k_is)
    (case qD0 => rfl)
    (case a_1 => k_is)
    (case x_1 => k_is)
    (case sa_1 => k_is)
    (case ga_1 => k_is)
    (case gg_1 => k_is)
    (case cc_1 => k_is)
    (case kk_1 => k_is)
    (case no_1 => k_is)
    (case i_1 => k_is)
    (case t_1 => k_is)
    (case l_i1 => k_is)
    (case c_i1 => k_is)
    (case k_i1 => k_is)
    (case lD1 => k_is)
    (case qD1 => rfl)
    (case a_2 => k_is)
    (case x_2 => k_is)
    (case sa_2 => k_is)
    (case ga_2 => k_is)
    (case gg_2 => k_is)
    (case cc_2 => k_is)
    (case kk_2 => k_is)
    (case no_2 => k_is)
    (case i_2 => k_is)
    (case t_2 => k_is)
    (case l_i2 => k_is)
    (case c_i2 => k_is)
    (case k_i2 => k_is)
    (case lD2 => k_is)
    (case qD2 => rfl)
    (case a_3 => k_is)
    (case x_3 => k_is)
    (case sa_3 => k_is)
    (case ga_3 => k_is)
    (case gg_3 => k_is)
    (case cc_3 => k_is)
    (case kk_3 => k_is)
    (case no_3 => k_is)
    (case i_3 => k_is)
    (case t_3 => k_is)
    (case l_i3 => k_is)
    (case c_i3 => k_is)
    (case k_i3 => k_is)
    (case lD3 => k_is)
    (case qD3 => rfl)
    (case a_4 => k_is)
    (case x_4 => k_is)
    (case sa_4 => k_is)
    (case ga_4 => k_is)
    (case gg_4 => k_is)
    (case cc_4 => k_is)
    (case kk_4 => k_is)
    (case no_4 => k_is)
    (case i_4 => k_is)
    (case t_4 => k_is)
    (case l_i4 => k_is)
    (case c_i4 => k_is)
    (case k_i4 => k_is)
    (case lD4 => k_is)
    (case qD4 => rfl)
    (case a_5 => k_is)
    (case x_5 => k_is)
    (case sa_5 => k_is)
    (case ga_5 => k_is)
    (case gg_5 => k_is)
    (case cc_5 => k_is)
    (case kk_5 => k_is)
    (case no_5 => k_is)
    (case i_5 => k_is)
    (case t_5 => k_is)
    (case l_i5 => k_is)
    (case c_i5 => k_is)
    (case k_i5 => k_is)
    (case lD5 => k_is)
    (case qD5 => rfl)
    (case a_6 => k_is)
    (case x_6 => k_is)
    (case sa_6 => k_is)
    (case ga_6 => k_is)
    (case gg_6 => k_is)
    (case cc_6 => k_is)
    (case kk_6 => k_is)
    (case no_6 => k_is)
    (case i_6 => k_is)
    (case t_6 => k_is)
    (case l_i6 => k_is)
    (case c_i6 => k_is)
    (case k_i6 => k_is)
    (case lD6 => k_is)
    (case qD6 => rfl)
    (case a_7 => k_is)
    (case x_7 => k_is)
    (case sa_7 => k_is)
    (case ga_7 => k_is)
    (case gg_7 => k_is)
    (case cc_7 => k_is)
    (case kk_7 => k_is)
    (case no_7 => k_is)
    (case i_7 => k_is)
    (case t_7 => k_is)
    (case l_i7 => k_is)
    (case c_i7 => k_is)
    (case k_i7 => k_is)
    (case lD7 => k_is)
    (case qD7 => rfl)
    (case a_8 => k_is)
    (case x_8 => k_is)
    (case sa_8 => k_is)
    (case ga_8 => k_is)
    (case gg_8 => k_is)
    (case cc_8 => k_is)
    (case kk_8 => k_is)
    (case no_8 => k_is)
    (case i_8 => k_is)
    (case t_8 => k_is)
    (case l_i8 => k_is)
    (case c_i8 => k_is)
    (case k_i8 => k_is)
    (case lD8 => k_is)
    (case qD8 => rfl)
    (case a_9 => k_is)
    (case x_9 => k_is)
    (case sa_9 => k_is)
    (case ga_9 => k_is)
    (case gg_9 => k_is)
    (case cc_9 => k_is)
    (case kk_9 => k_is)
    (case no_9 => k_is)
    (case i_9 => k_is)
    (case t_9 => k_is)
    (case l_i9 => k_is)
    (case c_i9 => k_is)
    (case k_i9 => k_is)
    (case lD9 => k_is)
    (case qD9 => rfl)
    (case a_10 => k_is)
    (case x_10 => k_is)
    (case sa_10 => k_is)
    (case ga_10 => k_is)
    (case gg_10 => k_is)
    (case cc_10 => k_is)
    (case kk_10 => k_is)
    (case no_10 => k_is)
    (case i_10 => k_is)
    (case t_10 => k_is)
    (case l_i10 => k_is)
    (case c_i10 => k_is)
    (case k_i10 => k_is)
    (case lD10 => k_is)
    (case qD10 => rfl)
    (case a_11 => k_is)
    (case x_11 => k_is)
    (case sa_11 => k_is)
    (case ga_11 => k_is)
    (case gg_11 => k_is)
    (case cc_11 => k_is)
    (case kk_11 => k_is)
    (case no_11 => k_is)
    (case i_11 => k_is)
    (case t_11 => k_is)
    (case l_i11 => k_is)
    (case c_i11 => k_is)
    (case k_i11 => k_is)
    (case lD11 => k_is)
    (case qD11 => rfl)
    (case a_12 => k_is)
    (case x_12 => k_is)
    (case sa_12 => k_is)
    (case ga_12 => k_is)
    (case gg_12 => k_is)
    (case cc_12 => k_is)
    (case kk_12 => k_is)
    (case no_12 => k_is)
    (case i_12 => k_is)
    (case t_12 => k_is)
    (case l_i12 => k_is)
    (case c_i12 => k_is)
    (case k_i12 => k_is)
    (case lD12 => k_is)
    (case qD12 => rfl)
    (case a_13 => k_is)
    (case x_13 => k_is)
    (case sa_13 => k_is)
    (case ga_13 => k_is)
    (case gg_13 => k_is)
    (case cc_13 => k_is)
    (case kk_13 => k_is)
    (case e_13 => k_exc)
    (case a_14 => k_is)
    (case x_14 => k_is)
    (case sa_14 => k_is)
    (case ga_14 => k_is)
    (case gg_14 => k_is)
    (case cc_14 => k_is)
    (case kk_14 => k_is)
    (case e_14 => k_exc)
    (case a_15 => k_is)
    (case x_15 => k_is)
    (case sa_15 => k_is)
    (case ga_15 => k_is)
    (case gg_15 => k_is)
    (case cc_15 => k_is)
    (case kk_15 => k_is)
    (case e_15 => k_exc)
    (case a_16 => k_is)
    (case x_16 => k_is)
    (case sa_16 => k_is)
    (case ga_16 => k_is)
    (case gg_16 => k_is)
    (case cc_16 => k_is)
    (case kk_16 => k_is)
    (case e_16 => k_exc)
    (case a_17 => k_is)
    (case x_17 => k_is)
    (case sa_17 => k_is)
    (case ga_17 => k_is)
    (case gg_17 => k_is)
    (case cc_17 => k_is)
    (case kk_17 => k_is)
    (case e_17 => k_exc)
    (case a_18 => k_is)
    (case x_18 => k_is)
    (case sa_18 => k_is)
    (case ga_18 => k_is)
    (case gg_18 => k_is)
    (case cc_18 => k_is)
    (case kk_18 => k_is)
    (case e_18 => k_exc)
    (case a_19 => k_is)
    (case x_19 => k_is)
    (case sa_19 => k_is)
    (case ga_19 => k_is)
    (case gg_19 => k_is)
    (case cc_19 => k_is)
    (case kk_19 => k_is)
    (case e_19 => k_exc)
    (case a_20 => k_is)
    (case x_20 => k_is)
    (case sa_20 => k_is)
    (case ga_20 => k_is)
    (case gg_20 => k_is)
    (case cc_20 => k_is)
    (case kk_20 => k_is)
    (case e_20 => k_exc)
    (case nn => k_is)
    (case tk => k_is)
    (case nd => decide)
    (case a__law_at => k_is)
    (case l__law_at => k_is)
    (case c__law_at => k_is)
    (case k__law_at => k_is)
    (case a__law_mixed => k_is)
    (case l__law_mixed => k_is)
    (case c__law_mixed => k_is)
    (case k__law_mixed => k_is)
    (case a__law_purse => k_is)
    (case l__law_purse => k_is)
    (case c__law_purse => k_is)
    (case k__law_purse => k_is)
    (case a__law_draw => k_is)
    (case l__law_draw => k_is)
    (case c__law_draw => k_is)
    (case k__law_draw => k_is)
    (case a__law_plain => k_is)
    (case l__law_plain => k_is)
    (case c__law_plain => k_is)
    (case k__law_plain => k_is)
    (case a__law_kinds => k_is)
    (case l__law_kinds => k_is)
    (case c__law_kinds => k_is)
    (case k__law_kinds => k_is)
    (case a__law_placed => k_is)
    (case l__law_placed => k_is)
    (case c__law_placed => k_is)
    (case k__law_placed => k_is)
    (case a__law_named => k_is)
    (case l__law_named => k_is)
    (case c__law_named => k_is)
    (case k__law_named => k_is)
    (case a__law_bare => k_is)
    (case l__law_bare => k_is)
    (case c__law_bare => k_is)
    (case k__law_bare => k_is)
    (case a__law_fields => k_is)
    (case l__law_fields => k_is)
    (case c__law_fields => k_is)
    (case k__law_fields => k_is)
    (case a__law_kinds_right => k_is)
    (case l__law_kinds_right => k_is)
    (case c__law_kinds_right => k_is)
    (case k__law_kinds_right => k_is)
    (case a_law => k_is)
    (case l_law => k_is)
    (case c_law => k_is)
    (case k_law => k_is)
    (case z_len => k_is)
    (case z_max => k_is)
    (case z_min => k_is)
    (case z_isinstance => k_is)
    (case z_range => k_is)
    (case z_enumerate => k_is)
    (case z_ValueError => k_is)
#print axioms PySem.Challenge.cw_backthen_k04_errors_and_their_fields_holds
