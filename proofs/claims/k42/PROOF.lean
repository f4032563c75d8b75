import PyProof.Rows.All
import Wide.All
import OpenK.AllK
import Wide.FinOn
import HandS.ForMost
import HandS.Zip
import HandS.Style
import HandS.Flow
import HandS.TupAny
import HandS.TupLe
import HandS.Deep
import HandS.IsInst
import HandS.Wide
import HandS.SortInts
import HandS.SortRule
import HandS.Conv
import HandS.TupMul
import KE.GoesMore
import PyProof.EnumMake
import KE.SortData
import KE.DataCmp
import KE.DataEq
import KE.DataMinMax
import KE.DataIsa
import PyProof.ConsumeS
import HandS.MakeKwOnly
import HandS.Defaults
import HandS.TupSets
import HandS.SetFor
import HandS.Strs
import HandS.NoneIn
import PyProof.P3Eq
import PySem.Challenge.RW_newestpays_k42_lots_that_are_as_narrow
set_option Elab.async false
set_option linter.all false
set_option maxRecDepth 100000
set_option maxHeartbeats 4000000
namespace L2
open PySem
/-- data -/
abbrev D := PyData
/-- the script, as data -/
def scr (ns : List Int) : D := .dict (ns.map fun n => (.none, .int n))
mutual
/-- how data stands in the frozen part; the script (a list that is not ours) reads as scr -/
inductive Dq (K : PySem.W.Frag) (H : Hp) : V → D → Prop
  | non : Dq K H .non .none
  | bl (b : Bool) : Dq K H (.bl b) (.bool b)
  | int (i : Int) : Dq K H (.int i) (.int i)
  | str (x : Str) : Dq K H (.str x) (.str x)
  | lst {a : Addr} {xs : List V} {ds : List D} : H a = some (.lst xs) → DqAll K H xs ds → Dq K H (.ref a) (.list ds)
  | tup {a : Addr} {xs : List V} {ds : List D} : SqT K H a xs → DqAll K H xs ds → Dq K H (.ref a) (.tuple ds)
  | scr {a : Addr} (ns : List Int) : SqL K H a (ns.map V.int) → Dq K H (.ref a) (.dict (ns.map fun n => (.none, .int n)))
inductive DqAll (K : PySem.W.Frag) (H : Hp) : List V → List D → Prop
  | nil : DqAll K H [] []
  | cons {v : V} {vs : List V} {d : D} {ds : List D} : Dq K H v d → DqAll K H vs ds → DqAll K H (v :: vs) (d :: ds)
end
end L2
namespace L3
open PySem L2

/-- what a mutable object holds -/
inductive C where
  | lst (ds : List D)
  | dct (kvs : List (Key × D))
/-- a slot: a frozen value, an object of its own, the box, a stack (the top first) of data and a list each, the list within a stack's top -/
inductive Sl where
  | val (d : D)
  | own (c : C)
  | io
  | stk (rows : List (List D × Option (List D)))
  | top (j : Nat)
structure S where
  env : List (Option Sl)
  box : List D
inductive R where
  | val (d : D)
  | new (c : C)
inductive Out (α : Type) where
  | stuck
  | ok (a : α) (s : S)
  | exc (c : Str) (d : D) (s : S)
abbrev M (α : Type) := S → Out α
def mret {α : Type} (a : α) : M α := fun s => .ok a s
def mbind {α β : Type} (m : M α) (f : α → M β) : M β := fun s => match m s with
  | .stuck => .stuck
  | .ok a s' => f a s'
  | .exc c d s' => .exc c d s'
def mstuck {α : Type} : M α := fun _ => .stuck
theorem mbind_ok {α β : Type} {m : M α} {f : α → M β} {s s' : S} {a : α} (h : m s = .ok a s') : mbind m f s = f a s' := by unfold mbind; rw [h]

/-! ### how data lies in the heap -/
section
variable (K : PySem.W.Frag) (G : Hp)
inductive DpKV : List (Key × V) → List (Key × D) → Prop
  | nil : DpKV [] []
  | cons {k : Key} {v : V} {d : D} {kvs : List (Key × V)} {kds : List (Key × D)} : Dq K G v d → DpKV kvs kds → DpKV ((k, v) :: kvs) ((k, d) :: kds)
inductive RepC : HO → C → Prop
  | lst {xs : List V} {ds : List D} : DqAll K G xs ds → RepC (.lst xs) (.lst ds)
  | dct {kvs : List (Key × V)} {kds : List (Key × D)} : DpKV K G kvs kds → RepC (.dK kvs) (.dct kds)
end
def Sub (G H : Hp) : Prop := ∀ a o, G a = some o → H a = some o
theorem Sub.refl (G : Hp) : Sub G G := fun _ _ h => h
theorem Sub.trans {G H J : Hp} (a : Sub G H) (b : Sub H J) : Sub G J := fun x o h => b x o (a x o h)
theorem Sub.rd {G H : Hp} {a : Addr} {u : HO} (e : Sub G H) (h : Rd G a u) : Rd H a u := by
  rcases h with h | ⟨o, h⟩
  · exact Or.inl (e a _ h)
  · exact Or.inr ⟨o, e a _ h⟩
theorem Sub.l {K : PySem.W.Frag} {G H : Hp} {a : Addr} {xs : List V} (e : Sub G H) (h : SqL K G a xs) : SqL K H a xs := by
  rcases h with h | h
  · exact Or.inl (e.rd h)
  · exact Or.inr h
theorem Sub.t {K : PySem.W.Frag} {G H : Hp} {a : Addr} {xs : List V} (e : Sub G H) (h : SqT K G a xs) : SqT K H a xs := by
  rcases h with h | h
  · exact Or.inl (e.rd h)
  · exact Or.inr h
mutual
theorem Sub.dp {K : PySem.W.Frag} {G H : Hp} (e : Sub G H) : ∀ {d : D} {v : V}, Dq K G v d → Dq K H v d
  | .none, _, h => by cases h; exact .non
  | .bool b, _, h => by cases h; exact .bl b
  | .int i, _, h => by cases h; exact .int i
  | .str x, _, h => by cases h; exact .str x
  | .list ds, _, h => by cases h with | lst hs ha => exact .lst (e _ _ hs) (Sub.dpAll e ha)
  | .tuple ds, _, h => by cases h with | tup hs ha => exact .tup (e.t hs) (Sub.dpAll e ha)
  | .dict _, _, h => by cases h with | scr ns hs => exact .scr ns (e.l hs)
theorem Sub.dpAll {K : PySem.W.Frag} {G H : Hp} (e : Sub G H) : ∀ {ds : List D} {vs : List V}, DqAll K G vs ds → DqAll K H vs ds
  | [], _, h => by cases h; exact .nil
  | d :: ds, _, h => by cases h with | cons h1 h2 => exact .cons (Sub.dp e h1) (Sub.dpAll e h2)
end
theorem Sub.dpKV {K : PySem.W.Frag} {G H : Hp} (e : Sub G H) {kds : List (Key × D)} {kvs : List (Key × V)} (h : DpKV K G kvs kds) : DpKV K H kvs kds := by
  induction h with
  | nil => exact .nil
  | cons h1 _ ih => exact .cons (e.dp h1) ih
theorem Sub.repC {K : PySem.W.Frag} {G H : Hp} (e : Sub G H) {o : HO} {c : C} (h : RepC K G o c) : RepC K H o c := by
  cases h with
  | lst h => exact .lst (e.dpAll h)
  | dct h => exact .dct (e.dpKV h)
theorem Sub.upd {G H : Hp} {a : Addr} {o : HO} (e : Sub G H) (h : H a = some o) : Sub (upd G a o) H := fun b u hb => by
  by_cases q : b = a
  · subst q; rw [upd_same] at hb; cases hb; exact h
  · rw [upd_ne q] at hb; exact e b u hb
theorem Sub.new {G : Hp} {a : Addr} {o : HO} (h : G a = none) : Sub G (L2.upd G a o) := fun b u hb => by
  rw [upd_ne (ne_of_none hb h)]; exact hb
theorem Sub.none {G H : Hp} {a : Addr} (e : Sub G H) (h : H a = none) : G a = none := by
  cases q : G a with
  | none => rfl
  | some o => rw [e a o q] at h; cases h
end L3
namespace L2
open PySem
theorem DqAll.length {K : PySem.W.Frag} {G : Hp} : ∀ {vs : List V} {ds : List D}, DqAll K G vs ds → vs.length = ds.length
  | _, _, .nil => rfl
  | _, _, .cons _ t => by simp [DqAll.length t]
theorem DqAll.get {K : PySem.W.Frag} {G : Hp} : ∀ {vs : List V} {ds : List D} {i : Nat} {d : D}, DqAll K G vs ds → ds[i]? = some d → ∃ v, vs[i]? = some v ∧ Dq K G v d
  | _, _, _, _, .nil, e => by simp at e
  | _, _, 0, _, .cons r _, e => by simp at e; subst e; exact ⟨_, rfl, r⟩
  | _, _, i + 1, d, .cons _ t, e => by
    obtain ⟨v, h1, h2⟩ := DqAll.get (i := i) (d := d) t (by simpa using e)
    exact ⟨v, by simpa using h1, h2⟩
theorem DqAll.get' {K : PySem.W.Frag} {G : Hp} {vs : List V} {ds : List D} {i : Nat} {v : V} (h : DqAll K G vs ds) (e : vs[i]? = some v) : ∃ d, ds[i]? = some d ∧ Dq K G v d := by
  obtain ⟨hi, _⟩ := List.getElem?_eq_some_iff.mp e
  have hl := h.length
  have e2 : ds[i]? = some ds[i] := List.getElem?_eq_getElem (by omega)
  obtain ⟨v', e3, r⟩ := h.get e2
  rw [e] at e3; cases e3
  exact ⟨_, e2, r⟩
theorem DqAll.append {K : PySem.W.Frag} {G : Hp} : ∀ {vs ws : List V} {ds es : List D}, DqAll K G vs ds → DqAll K G ws es → DqAll K G (vs ++ ws) (ds ++ es)
  | _, _, _, _, .nil, s => s
  | _, _, _, _, .cons r t, s => .cons r (DqAll.append t s)
theorem DqAll.take {K : PySem.W.Frag} {G : Hp} : ∀ {vs : List V} {ds : List D} (n : Nat), DqAll K G vs ds → DqAll K G (vs.take n) (ds.take n)
  | _, _, 0, _ => .nil
  | _, _, _ + 1, .nil => .nil
  | _, _, n + 1, .cons r t => .cons r (DqAll.take n t)
theorem DqAll.drop {K : PySem.W.Frag} {G : Hp} : ∀ {vs : List V} {ds : List D} (n : Nat), DqAll K G vs ds → DqAll K G (vs.drop n) (ds.drop n)
  | _, _, 0, r => r
  | _, _, _ + 1, .nil => .nil
  | _, _, n + 1, .cons r t => DqAll.drop n t
theorem DqAll.set {K : PySem.W.Frag} {G : Hp} {v : V} {d : D} (r : Dq K G v d) : ∀ {vs : List V} {ds : List D} (i : Nat), DqAll K G vs ds → DqAll K G (vs.set i v) (ds.set i d)
  | _, _, _, .nil => .nil
  | _, _, 0, .cons _ t => .cons r t
  | _, _, i + 1, .cons q t => .cons q (DqAll.set r i t)
theorem DqAll.ints {K : PySem.W.Frag} {G : Hp} : ∀ (ns : List Int), DqAll K G (ns.map V.int) (ns.map PyData.int)
  | [] => .nil
  | n :: ns => .cons (.int n) (DqAll.ints ns)
theorem DqAll.ints_inv {K : PySem.W.Frag} {G : Hp} : ∀ {ns : List Int} {vs : List V}, DqAll K G vs (ns.map PyData.int) → vs = ns.map V.int
  | [], _, h => by cases h; rfl
  | n :: ns, _, h => by
    cases h with
    | cons h1 h2 => cases h1; rw [DqAll.ints_inv h2]; rfl

end L2
namespace L3
open PySem L2
/-! ### the state of a body -/
structure Wd0 (K : PySem.W.Frag) (io : Option Addr) (L G : Hp) (σ : L2.St) (s : S) (H : Hp) : Prop where
  sub : Sub G H
  len : σ.length = s.env.length
  vals : ∀ (i : Nat) (d : D), s.env[i]? = some (some (Sl.val d)) → ∃ v, σ[i]? = some (some v) ∧ Dq K G v d
  owns : ∀ (i : Nat) (c : C), s.env[i]? = some (some (Sl.own c)) → ∃ a o, σ[i]? = some (some (V.ref a)) ∧ G a = none ∧ H a = some o ∧ RepC K G o c ∧ L a = none ∧ io ≠ some a
  apart : ∀ (i j : Nat) (c c' : C) (a : Addr), s.env[i]? = some (some (Sl.own c)) → s.env[j]? = some (some (Sl.own c')) → σ[i]? = some (some (V.ref a)) → σ[j]? = some (some (V.ref a)) → i = j
  ios : ∀ a, io = some a → G a = none ∧ L a = none ∧ ∃ xs, H a = some (HO.lst xs) ∧ DqAll K G xs s.box
  refs : ∀ (i : Nat), s.env[i]? = some (some Sl.io) → ∃ a, io = some a ∧ σ[i]? = some (some (V.ref a))
  loose : ∀ a o, L a = some o → G a = none ∧ H a = some o

/-- two parts of a heap -/
def un (L T : Hp) : Hp := fun a => match L a with
  | some o => some o
  | none => T a
theorem un_upd {L T : Hp} {a : Addr} {o : HO} : un (upd L a o) T = upd (un L T) a o := by
  funext b
  unfold un
  by_cases e : b = a
  · subst e; rw [upd_same, upd_same]
  · rw [upd_ne e, upd_ne e]
theorem un_none {L T : Hp} {a : Addr} (h1 : L a = none) (h2 : T a = none) : un L T a = none := by unfold un; rw [h1]; exact h2
theorem un_left {L T : Hp} {a : Addr} (h : un L T a = none) : L a = none := by
  unfold un at h
  cases e : L a with
  | none => rfl
  | some o => rw [e] at h; cases h
theorem un_right {L T : Hp} {a : Addr} (h : un L T a = none) : T a = none := by
  have := un_left h
  unfold un at h
  rw [this] at h; exact h
theorem un_l {L T : Hp} {a : Addr} {o : HO} (h : L a = some o) : un L T a = some o := by unfold un; rw [h]
theorem un_r {L T : Hp} {a : Addr} {o : HO} (h : T a = some o) (h2 : L a = none) : un L T a = some o := by unfold un; rw [h2]; exact h
abbrev Row := List D × Option (List D)
inductive RowsRep (K : PySem.W.Frag) (G T : Hp) : List Addr → List V → List Row → Prop
  | nil : RowsRep K G T [] [] []
  | cons {p q : Addr} {vs us : List V} {ds l : List D} {as : List Addr} {xs : List V} {rows : List Row} : (T p = some (.tup (vs ++ [.ref q])) ∨ T p = some (.lst (vs ++ [.ref q]))) → DqAll K G vs ds → T q = some (.lst us) → DqAll K G us l → RowsRep K G T as xs rows → RowsRep K G T (p :: q :: as) (.ref p :: xs) ((ds, some l) :: rows)
  | frz {v : V} {ds : List D} {as : List Addr} {xs : List V} {rows : List Row} : RowsRep K G T as xs rows → RowsRep K G T as (v :: xs) ((ds, none) :: rows)
theorem RowsRep.mono {K : PySem.W.Frag} {G G' T : Hp} {as : List Addr} {xs : List V} {rows : List Row} (e : Sub G G') (h : RowsRep K G T as xs rows) : RowsRep K G' T as xs rows := by
  induction h with
  | nil => exact .nil
  | cons h1 h2 h3 h4 _ ih => exact .cons h1 (e.dpAll h2) h3 (e.dpAll h4) ih
  | frz _ ih => exact .frz ih
structure StkOk (K : PySem.W.Frag) (G T : Hp) (σ : L2.St) (env : List (Option Sl)) : Prop where
  at' : ∀ (j : Nat) (rows : List Row), env[j]? = some (some (Sl.stk rows)) → ∃ a as xs, σ[j]? = some (some (V.ref a)) ∧ T a = some (.lst xs.reverse) ∧ RowsRep K G T as xs rows ∧ (a :: as).Nodup ∧
    ∀ (i : Nat), env[i]? = some (some (Sl.top j)) → ∃ ds l rest p q as', rows = (ds, some l) :: rest ∧ as = p :: q :: as' ∧ σ[i]? = some (some (V.ref q))
  one : ∀ (j j' : Nat) (rows rows' : List Row), env[j]? = some (some (Sl.stk rows)) → env[j']? = some (some (Sl.stk rows')) → j = j'
theorem StkOk.mono {K : PySem.W.Frag} {G G' T : Hp} {σ : L2.St} {env : List (Option Sl)} (e : Sub G G') (h : StkOk K G T σ env) : StkOk K G' T σ env :=
  ⟨fun j rows hj => let ⟨a, as, xs, h1, h2, h3, h4⟩ := h.at' j rows hj; ⟨a, as, xs, h1, h2, h3.mono e, h4⟩, h.one⟩
/-- the state of a body, its stack's cells apart -/
structure Wd (K : PySem.W.Frag) (io : Option Addr) (L G : Hp) (σ : L2.St) (s : S) (H : Hp) : Prop where
  ex : ∃ T : Hp, (∀ a o, T a = some o → L a = none) ∧ Wd0 K io (un L T) G σ s H ∧ StkOk K G T σ s.env
section
variable {K : PySem.W.Frag} {io : Option Addr} {L G H : Hp} {σ : L2.St} {s : S}
theorem Wd.sub (w : Wd K io L G σ s H) : Sub G H := let ⟨_, _, w, _⟩ := w.ex; w.sub
theorem Wd.len (w : Wd K io L G σ s H) : σ.length = s.env.length := let ⟨_, _, w, _⟩ := w.ex; w.len
theorem Wd.vals (w : Wd K io L G σ s H) : ∀ (i : Nat) (d : D), s.env[i]? = some (some (Sl.val d)) → ∃ v, σ[i]? = some (some v) ∧ Dq K G v d := let ⟨_, _, w, _⟩ := w.ex; w.vals
theorem Wd.owns (w : Wd K io L G σ s H) : ∀ (i : Nat) (c : C), s.env[i]? = some (some (Sl.own c)) → ∃ a o, σ[i]? = some (some (V.ref a)) ∧ G a = none ∧ H a = some o ∧ RepC K G o c ∧ L a = none ∧ io ≠ some a :=
  let ⟨_, _, w, _⟩ := w.ex; fun i c h => let ⟨a, o, h1, h2, h3, h4, h5, h6⟩ := w.owns i c h; ⟨a, o, h1, h2, h3, h4, un_left h5, h6⟩
theorem Wd.apart (w : Wd K io L G σ s H) : ∀ (i j : Nat) (c c' : C) (a : Addr), s.env[i]? = some (some (Sl.own c)) → s.env[j]? = some (some (Sl.own c')) → σ[i]? = some (some (V.ref a)) → σ[j]? = some (some (V.ref a)) → i = j := let ⟨_, _, w, _⟩ := w.ex; w.apart
theorem Wd.ios (w : Wd K io L G σ s H) : ∀ a, io = some a → G a = none ∧ L a = none ∧ ∃ xs, H a = some (HO.lst xs) ∧ DqAll K G xs s.box :=
  let ⟨_, _, w, _⟩ := w.ex; fun a h => let ⟨h1, h2, h3⟩ := w.ios a h; ⟨h1, un_left h2, h3⟩
theorem Wd.refs (w : Wd K io L G σ s H) : ∀ (i : Nat), s.env[i]? = some (some Sl.io) → ∃ a, io = some a ∧ σ[i]? = some (some (V.ref a)) := let ⟨_, _, w, _⟩ := w.ex; w.refs
theorem Wd.loose (w : Wd K io L G σ s H) : ∀ a o, L a = some o → G a = none ∧ H a = some o := let ⟨_, _, w, _⟩ := w.ex; fun a o h => w.loose a o (un_l h)
end

/-- read now: frozen, or the list of a cell as it stands -/
inductive Rp (K : PySem.W.Frag) (G H : Hp) : V → D → Prop
  | fz {v : V} {d : D} : Dq K G v d → Rp K G H v d
  | cell {a : Addr} {xs : List V} {ds : List D} : H a = some (.lst xs) → DqAll K G xs ds → Rp K G H (.ref a) (.list ds)
section
variable {K : PySem.W.Frag} {G H : Hp} {v : V} {d : D}
theorem Rp.dp (e : Sub G H) (h : Rp K G H v d) : Dq K H v d := by
  cases h with
  | fz h => exact e.dp h
  | cell h1 h2 => exact .lst h1 (e.dpAll h2)
theorem Rp.list {ds : List D} (e : Sub G H) (h : Rp K G H v (.list ds)) : ∃ a xs, v = .ref a ∧ H a = some (.lst xs) ∧ DqAll K G xs ds := by
  cases h with
  | fz h => cases h with | lst h1 h2 => exact ⟨_, _, rfl, e _ _ h1, h2⟩
  | cell h1 h2 => exact ⟨_, _, rfl, h1, h2⟩
theorem Rp.tuple {ds : List D} (e : Sub G H) (h : Rp K G H v (.tuple ds)) : ∃ a xs, v = .ref a ∧ SqT K H a xs ∧ DqAll K G xs ds := by
  cases h with
  | fz h => cases h with | tup h1 h2 => exact ⟨_, _, rfl, e.t h1, h2⟩
theorem Rp.int {i : Int} (h : Rp K G H v (.int i)) : v = .int i := by cases h with | fz h => cases h; rfl
theorem Rp.bool {b : Bool} (h : Rp K G H v (.bool b)) : v = .bl b := by cases h with | fz h => cases h; rfl
theorem Rp.none (h : Rp K G H v .none) : v = .non := by cases h with | fz h => cases h; rfl
theorem Rp.str {x : Str} (h : Rp K G H v (.str x)) : v = .str x := by cases h with | fz h => cases h; rfl
end

/-! ### the wish of exceptions: class's name, the address of its dict -/
abbrev WW := Str → Addr → L2.St → Hp → Prop
def WW0 : WW := fun _ _ _ _ => False
def fld (c : Str) : Str := if c = Str.ofString "Refused" then Str.ofString "value" else Str.ofString "at"
def Exc (K : PySem.W.Frag) (E : WW) (io : Option Addr) (L : Hp) (σ : L2.St) (G0 : Hp) (c : Str) (d : D) (s : S) : Prop :=
  ∀ dx v G H, Sub G0 G → Wd K io L G σ s H → H dx = some (HO.xd [(fld c, v)]) → Dq K G v d → E c dx σ H
/-- behind an expression -/
def Fin (K : PySem.W.Frag) (E : WW) (io : Option Addr) (L : Hp) (σ : L2.St) (G0 : Hp) (Q : VK) : Out R → Prop
  | .stuck => False
  | .ok (.val d) s => ∀ v G H, Sub G0 G → Wd K io L G σ s H → Dq K G v d → Q v H
  | .ok (.new c) s => ∀ a o G H, Sub G0 G → L a = none → Wd K io (upd L a o) G σ s H → RepC K G o c → Q (.ref a) H
  | .exc c d s => Exc K E io L σ G0 c d s
def FinV (K : PySem.W.Frag) (E : WW) (io : Option Addr) (L : Hp) (σ : L2.St) (G0 : Hp) (Q : VK) : Out D → Prop
  | .stuck => False
  | .ok d s => ∀ v G H, Sub G0 G → Wd K io L G σ s H → Dq K G v d → Q v H
  | .exc c d s => Exc K E io L σ G0 c d s
def FinT (K : PySem.W.Frag) (E : WW) (io : Option Addr) (L : Hp) (σ : L2.St) (G0 : Hp) (Q : Bool → Hp → Prop) : Out Bool → Prop
  | .stuck => False
  | .ok b s => ∀ G H, Sub G0 G → Wd K io L G σ s H → Q b H
  | .exc c d s => Exc K E io L σ G0 c d s
section
variable {K : PySem.W.Frag} {E : WW} {io : Option Addr} {L : Hp} {σ : L2.St} {G G0 : Hp}
theorem Exc.mono {c : Str} {d : D} {s : S} (e : Sub G0 G) (h : Exc K E io L σ G0 c d s) : Exc K E io L σ G c d s := fun dx v G' H q => h dx v G' H (e.trans q)
theorem Fin.mono {Q : VK} {o : Out R} (e : Sub G0 G) (h : Fin K E io L σ G0 Q o) : Fin K E io L σ G Q o := by
  match o, h with
  | .ok (.val d) s, h => exact fun v G' H q => h v G' H (e.trans q)
  | .ok (.new c) s, h => exact fun a o G' H q => h a o G' H (e.trans q)
  | .exc c d s, h => exact Exc.mono (s := s) e h
theorem FinV.mono {Q : VK} {o : Out D} (e : Sub G0 G) (h : FinV K E io L σ G0 Q o) : FinV K E io L σ G Q o := by
  match o, h with
  | .ok d s, h => exact fun v G' H q => h v G' H (e.trans q)
  | .exc c d s, h => exact Exc.mono (s := s) e h
theorem FinT.mono {Q : Bool → Hp → Prop} {o : Out Bool} (e : Sub G0 G) (h : FinT K E io L σ G0 Q o) : FinT K E io L σ G Q o := by
  match o, h with
  | .ok d s, h => exact fun G' H q => h G' H (e.trans q)
  | .exc c d s, h => exact Exc.mono (s := s) e h
end
end L3

namespace L3
open PySem L2

def S.setv (s : S) (i : Nat) (d : D) : S := { s with env := s.env.set i (some (Sl.val d)) }
def S.seto (s : S) (i : Nat) (c : C) : S := { s with env := s.env.set i (some (Sl.own c)) }
def S.drop (s : S) (i : Nat) : S := { s with env := s.env.set i none }
def S.peek (s : S) (i : Nat) : Option D := match s.env[i]? with
  | some (some (Sl.val d)) => some d
  | some (some (Sl.own (C.lst ds))) => some (.list ds)
  | some (some Sl.io) => some (.list s.box)
  | some (some (Sl.top j)) => match s.env[j]? with
    | some (some (Sl.stk ((_, some l) :: _))) => some (.list l)
    | _ => none
  | _ => none

theorem set_cases {α : Type} {l : List α} {i j : Nat} {x y : α} (h : (l.set i x)[j]? = some y) : (i = j ∧ x = y) ∨ (i ≠ j ∧ l[j]? = some y) := by
  by_cases e : i = j
  · subst e
    by_cases hl : i < l.length
    · rw [List.getElem?_set_self hl] at h; cases h; exact .inl ⟨rfl, rfl⟩
    · rw [List.getElem?_eq_none (by simpa using hl)] at h; cases h
  · rw [List.getElem?_set_ne e] at h; exact .inr ⟨e, h⟩
theorem set_there {α β : Type} {l : List α} {m : List β} {i : Nat} {x : α} {y z : β} (hlen : l.length = m.length) (h : (m.set i y)[i]? = some z) : (l.set i x)[i]? = some x := by
  have : i < m.length := by
    by_cases hl : i < m.length
    · exact hl
    · rw [List.getElem?_eq_none (by simpa using hl)] at h; cases h
  exact List.getElem?_set_self (by omega)

section
variable {K : PySem.W.Frag} {E : WW} {io : Option Addr} {L G H : Hp} {σ : L2.St} {s : S} {i : Nat} {v : V} {d : D} {a : Addr} {o o' : HO} {c c' : C} {ds : List D}

theorem StkOk.off {T : Hp} {σ σ' : L2.St} {env : List (Option Sl)} {i : Nat} {x : Option Sl} (h : StkOk K G T σ env) (hx : ∀ rows, x ≠ some (Sl.stk rows)) (hx2 : ∀ j, x ≠ some (Sl.top j)) (hσ : ∀ j, j ≠ i → σ'[j]? = σ[j]?) : StkOk K G T σ' (env.set i x) where
  at' := fun j rows hj => by
    rcases set_cases (l := env) hj with ⟨rfl, q⟩ | ⟨ne, q⟩
    · exact absurd q (hx rows)
    · obtain ⟨a, as, xs, h1, h2, h3, h4, h5⟩ := h.at' j rows q
      refine ⟨a, as, xs, by rw [hσ j (Ne.symm ne)]; exact h1, h2, h3, h4, fun k hk => ?_⟩
      rcases set_cases (l := env) hk with ⟨rfl, z⟩ | ⟨ne', z⟩
      · exact absurd z (hx2 j)
      · obtain ⟨ds, l, rest, p, q', as', e1, e2, e3⟩ := h5 k z
        exact ⟨ds, l, rest, p, q', as', e1, e2, by rw [hσ k (Ne.symm ne')]; exact e3⟩
  one := fun j j' rows rows' h1 h2 => by
    rcases set_cases (l := env) h1 with ⟨rfl, q⟩ | ⟨ne, q⟩
    · exact absurd q (hx rows)
    · rcases set_cases (l := env) h2 with ⟨rfl, q'⟩ | ⟨ne', q'⟩
      · exact absurd q' (hx rows')
      · exact h.one j j' rows rows' q q'
theorem dis_upd {L T : Hp} {a : Addr} {o : HO} (h : ∀ b u, T b = some u → upd L a o b = none) : (∀ b u, T b = some u → L b = none) ∧ T a = none := by
  have ha : T a = none := by
    cases e : T a with
    | none => rfl
    | some u => have := h a u e; rw [upd_same] at this; cases this
  refine ⟨fun b u hb => ?_, ha⟩
  have ne : b ≠ a := fun q => by rw [q, ha] at hb; cases hb
  have := h b u hb
  rw [upd_ne ne] at this; exact this
theorem upd_dis {L T : Hp} {a : Addr} {o : HO} (h : ∀ b u, T b = some u → L b = none) (ha : T a = none) : ∀ b u, T b = some u → upd L a o b = none := fun b u hb => by
  rw [upd_ne (fun q => by rw [q, ha] at hb; cases hb)]; exact h b u hb
/-- the frozen part grows by what is fresh -/
theorem Wd0.grow (w : Wd0 K io L G σ s H) (hp : H a = none) : Wd0 K io L (upd G a o) σ s (upd H a o) where
  sub := fun b u hb => by
    by_cases q : b = a
    · subst q; rw [upd_same] at hb ⊢; exact hb
    · rw [upd_ne q] at hb ⊢; exact w.sub b u hb
  len := w.len
  vals := fun i d h => by
    obtain ⟨v, e, r⟩ := w.vals i d h
    exact ⟨v, e, (Sub.new (w.sub.none hp)).dp r⟩
  owns := fun i c h => by
    obtain ⟨b, u, e, g, hb, r, l, n⟩ := w.owns i c h
    have ne : b ≠ a := ne_of_none hb hp
    exact ⟨b, u, e, by rw [upd_ne ne]; exact g, by rw [upd_ne ne]; exact hb, (Sub.new (w.sub.none hp)).repC r, l, n⟩
  apart := w.apart
  ios := fun b hb => by
    obtain ⟨g, l, xs, h1, h2⟩ := w.ios b hb
    have ne : b ≠ a := ne_of_none h1 hp
    exact ⟨by rw [upd_ne ne]; exact g, l, xs, by rw [upd_ne ne]; exact h1, (Sub.new (w.sub.none hp)).dpAll h2⟩
  refs := w.refs
  loose := fun b u hb => by
    obtain ⟨g, h1⟩ := w.loose b u hb
    have ne : b ≠ a := ne_of_none h1 hp
    exact ⟨by rw [upd_ne ne]; exact g, by rw [upd_ne ne]; exact h1⟩
theorem Wd.grow (w : Wd K io L G σ s H) (hp : H a = none) : Wd K io L (upd G a o) σ s (upd H a o) := by
  obtain ⟨T, h1, w, h2⟩ := w.ex
  exact ⟨T, h1, w.grow hp, h2.mono (Sub.new (w.sub.none hp))⟩
/-- a fresh object, loose -/
theorem Wd0.fresh (w : Wd0 K io L G σ s H) (hp : H a = none) : L a = none ∧ Wd0 K io (upd L a o) G σ s (upd H a o) := by
  have hG : G a = none := w.sub.none hp
  have hL : L a = none := by
    cases q : L a with
    | none => rfl
    | some u => rw [(w.loose a u q).2] at hp; cases hp
  refine ⟨hL, ⟨fun b u hb => ?_, w.len, w.vals, fun i c h => ?_, w.apart, fun b hb => ?_, w.refs, fun b u hb => ?_⟩⟩
  · rw [upd_ne (ne_of_none (w.sub b u hb) hp)]; exact w.sub b u hb
  · obtain ⟨b, u, e, g, hb, r, l, n⟩ := w.owns i c h
    have ne : b ≠ a := ne_of_none hb hp
    exact ⟨b, u, e, g, by rw [upd_ne ne]; exact hb, r, by rw [upd_ne ne]; exact l, n⟩
  · obtain ⟨g, l, xs, h1, h2⟩ := w.ios b hb
    have ne : b ≠ a := ne_of_none h1 hp
    exact ⟨g, by rw [upd_ne ne]; exact l, xs, by rw [upd_ne ne]; exact h1, h2⟩
  · by_cases q : b = a
    · subst q; rw [upd_same] at hb; cases hb; exact ⟨hG, upd_same⟩
    · rw [upd_ne q] at hb
      obtain ⟨g, h1⟩ := w.loose b u hb
      exact ⟨g, by rw [upd_ne q]; exact h1⟩
theorem Wd.fresh (w : Wd K io L G σ s H) (hp : H a = none) : L a = none ∧ Wd K io (upd L a o) G σ s (upd H a o) := by
  obtain ⟨T, h1, w, h2⟩ := w.ex
  obtain ⟨e, w2⟩ := w.fresh (o := o) hp
  rw [← un_upd] at w2
  exact ⟨un_left e, T, upd_dis h1 (un_right e), w2, h2⟩
/-- a loose object is frozen -/
theorem Wd0.frz (w : Wd0 K io (upd L a o) G σ s H) (hL : L a = none) : Sub G (upd G a o) ∧ Wd0 K io L (upd G a o) σ s H := by
  obtain ⟨hG, hH⟩ := w.loose a o upd_same
  have sb : Sub G (upd G a o) := Sub.new hG
  refine ⟨sb, ⟨w.sub.upd hH, w.len, fun i d h => ?_, fun i c h => ?_, w.apart, fun b hb => ?_, w.refs, fun b u hb => ?_⟩⟩
  · obtain ⟨v, e, r⟩ := w.vals i d h
    exact ⟨v, e, sb.dp r⟩
  · obtain ⟨b, u, e, g, hb, r, l, n⟩ := w.owns i c h
    have ne : b ≠ a := fun q => by rw [q, upd_same] at l; cases l
    rw [upd_ne ne] at l
    exact ⟨b, u, e, by rw [upd_ne ne]; exact g, hb, sb.repC r, l, n⟩
  · obtain ⟨g, l, xs, h1, h2⟩ := w.ios b hb
    have ne : b ≠ a := fun q => by rw [q, upd_same] at l; cases l
    rw [upd_ne ne] at l
    exact ⟨by rw [upd_ne ne]; exact g, l, xs, h1, sb.dpAll h2⟩
  · have ne : b ≠ a := ne_of_none hb hL
    obtain ⟨g, h1⟩ := w.loose b u (by rw [upd_ne ne]; exact hb)
    exact ⟨by rw [upd_ne ne]; exact g, h1⟩
theorem Wd.frz (w : Wd K io (upd L a o) G σ s H) (hL : L a = none) : Sub G (upd G a o) ∧ Wd K io L (upd G a o) σ s H := by
  obtain ⟨T, h1, w, h2⟩ := w.ex
  obtain ⟨h3, h4⟩ := dis_upd h1
  rw [un_upd] at w
  obtain ⟨sb, w2⟩ := w.frz (un_none hL h4)
  exact ⟨sb, T, h3, w2, h2.mono sb⟩
theorem Wd.frzD (w : Wd K io (upd L a o) G σ s H) (hL : L a = none) (r : RepC K G o (.lst ds)) : Sub G (upd G a o) ∧ Wd K io L (upd G a o) σ s H ∧ Dq K (upd G a o) (.ref a) (.list ds) := by
  obtain ⟨sb, w'⟩ := w.frz hL
  cases r with
  | lst h => exact ⟨sb, w', .lst upd_same (sb.dpAll h)⟩
/-- the loose part forgotten -/
theorem Wd0.drop (w : Wd0 K io (upd L a o) G σ s H) (hL : L a = none) : Wd0 K io L G σ s H := by
  refine ⟨w.sub, w.len, w.vals, fun i c h => ?_, w.apart, fun b hb => ?_, w.refs, fun b u hb => ?_⟩
  · obtain ⟨b, u, e, g, hb, r, l, n⟩ := w.owns i c h
    have ne : b ≠ a := fun q => by rw [q, upd_same] at l; cases l
    rw [upd_ne ne] at l
    exact ⟨b, u, e, g, hb, r, l, n⟩
  · obtain ⟨g, l, q⟩ := w.ios b hb
    have ne : b ≠ a := fun q => by rw [q, upd_same] at l; cases l
    rw [upd_ne ne] at l
    exact ⟨g, l, q⟩
  · have ne : b ≠ a := ne_of_none hb hL
    exact w.loose b u (by rw [upd_ne ne]; exact hb)
theorem Wd.drop (w : Wd K io (upd L a o) G σ s H) (hL : L a = none) : Wd K io L G σ s H := by
  obtain ⟨T, h1, w, h2⟩ := w.ex
  obtain ⟨h3, h4⟩ := dis_upd h1
  rw [un_upd] at w
  exact ⟨T, h3, w.drop (un_none hL h4), h2⟩
/-- a slot takes a frozen value -/
theorem Wd0.setv (w : Wd0 K io L G σ s H) (r : Dq K G v d) : Wd0 K io L G (σ.set i (some v)) (s.setv i d) H where
  sub := w.sub
  len := by show (σ.set i (some v)).length = (s.env.set i _).length; rw [List.length_set, List.length_set]; exact w.len
  vals := fun j e h => by
    rcases set_cases (l := s.env) h with ⟨rfl, q⟩ | ⟨ne, q⟩
    · cases q
      exact ⟨v, set_there (m := s.env) w.len h, r⟩
    · obtain ⟨u, e1, r1⟩ := w.vals j e q
      exact ⟨u, by rw [List.getElem?_set_ne ne]; exact e1, r1⟩
  owns := fun j e h => by
    rcases set_cases (l := s.env) h with ⟨rfl, q⟩ | ⟨ne, q⟩
    · cases q
    · obtain ⟨b, u, e1, z⟩ := w.owns j e q
      exact ⟨b, u, by rw [List.getElem?_set_ne ne]; exact e1, z⟩
  apart := fun j k e e' b h1 h2 h3 h4 => by
    rcases set_cases (l := s.env) h1 with ⟨rfl, q⟩ | ⟨ne, q⟩
    · cases q
    · rcases set_cases (l := s.env) h2 with ⟨rfl, q'⟩ | ⟨ne', q'⟩
      · cases q'
      · rw [List.getElem?_set_ne ne] at h3
        rw [List.getElem?_set_ne ne'] at h4
        exact w.apart j k e e' b q q' h3 h4
  ios := w.ios
  refs := fun j h => by
    rcases set_cases (l := s.env) h with ⟨rfl, q⟩ | ⟨ne, q⟩
    · cases q
    · obtain ⟨b, h1, h2⟩ := w.refs j q
      exact ⟨b, h1, by rw [List.getElem?_set_ne ne]; exact h2⟩
  loose := w.loose
theorem Wd.setv (w : Wd K io L G σ s H) (r : Dq K G v d) : Wd K io L G (σ.set i (some v)) (s.setv i d) H := by
  obtain ⟨T, h1, w, h2⟩ := w.ex
  exact ⟨T, h1, w.setv r, h2.off (fun _ e => by cases e) (fun _ e => by cases e) fun j hj => List.getElem?_set_ne (Ne.symm hj)⟩
/-- a slot takes a loose object for its own -/
theorem Wd0.seto (w : Wd0 K io (upd L a o) G σ s H) (hL : L a = none) (r : RepC K G o c) : Wd0 K io L G (σ.set i (some (.ref a))) (s.seto i c) H := by
  obtain ⟨hG, hH⟩ := w.loose a o upd_same
  have hio : io ≠ some a := fun q => by
    have z := (w.ios a q).2.1
    rw [upd_same] at z; cases z
  have far : ∀ (j : Nat) (e : C), s.env[j]? = some (some (Sl.own e)) → σ[j]? ≠ some (some (V.ref a)) := fun j e h q => by
    obtain ⟨b, u, e1, _, _, _, l, _⟩ := w.owns j e h
    rw [q] at e1; cases e1
    rw [upd_same] at l; cases l
  have w0 := w.drop hL
  refine ⟨w.sub, ?_, fun j e h => ?_, fun j e h => ?_, fun j k e e' b h1 h2 h3 h4 => ?_, w0.ios, fun j h => ?_, w0.loose⟩
  · show (σ.set i _).length = (s.env.set i _).length; rw [List.length_set, List.length_set]; exact w.len
  · rcases set_cases (l := s.env) h with ⟨rfl, q⟩ | ⟨ne, q⟩
    · cases q
    · obtain ⟨u, e1, r1⟩ := w.vals j e q
      exact ⟨u, by rw [List.getElem?_set_ne ne]; exact e1, r1⟩
  · rcases set_cases (l := s.env) h with ⟨rfl, q⟩ | ⟨ne, q⟩
    · cases q
      exact ⟨a, o, set_there (m := s.env) w.len h, hG, hH, r, hL, hio⟩
    · obtain ⟨b, u, e1, z⟩ := w0.owns j e q
      exact ⟨b, u, by rw [List.getElem?_set_ne ne]; exact e1, z⟩
  · rcases set_cases (l := s.env) h1 with ⟨rfl, q⟩ | ⟨ne, q⟩
    · rcases set_cases (l := s.env) h2 with ⟨rfl, q'⟩ | ⟨ne', q'⟩
      · rfl
      · rw [set_there (m := s.env) w.len h1] at h3; cases h3
        rw [List.getElem?_set_ne ne'] at h4
        exact absurd h4 (far k e' q')
    · rcases set_cases (l := s.env) h2 with ⟨rfl, q'⟩ | ⟨ne', q'⟩
      · rw [set_there (m := s.env) w.len h2] at h4; cases h4
        rw [List.getElem?_set_ne ne] at h3
        exact absurd h3 (far j e q)
      · rw [List.getElem?_set_ne ne] at h3
        rw [List.getElem?_set_ne ne'] at h4
        exact w.apart j k e e' b q q' h3 h4
  · rcases set_cases (l := s.env) h with ⟨rfl, q⟩ | ⟨ne, q⟩
    · cases q
    · obtain ⟨b, h1, h2⟩ := w.refs j q
      exact ⟨b, h1, by rw [List.getElem?_set_ne ne]; exact h2⟩
theorem Wd.seto (w : Wd K io (upd L a o) G σ s H) (hL : L a = none) (r : RepC K G o c) : Wd K io L G (σ.set i (some (.ref a))) (s.seto i c) H := by
  obtain ⟨T, h1, w, h2⟩ := w.ex
  obtain ⟨h3, h4⟩ := dis_upd h1
  rw [un_upd] at w
  exact ⟨T, h3, w.seto (un_none hL h4) r, h2.off (fun _ e => by cases e) (fun _ e => by cases e) fun j hj => List.getElem?_set_ne (Ne.symm hj)⟩
/-- a slot forgotten -/
theorem Wd0.gone (w : Wd0 K io L G σ s H) (σ' : L2.St) (hl : σ'.length = σ.length) (hs : ∀ j x, j ≠ i → σ[j]? = some (some x) → σ'[j]? = some (some x)) (hb : ∀ j, j ≠ i → σ'[j]? = σ[j]?) : Wd0 K io L G σ' (s.drop i) H where
  sub := w.sub
  len := by show σ'.length = (s.env.set i _).length; rw [List.length_set, hl]; exact w.len
  vals := fun j e h => by
    rcases set_cases (l := s.env) h with ⟨rfl, q⟩ | ⟨ne, q⟩
    · cases q
    · obtain ⟨u, e1, r1⟩ := w.vals j e q
      exact ⟨u, by rw [hb j (Ne.symm ne)]; exact e1, r1⟩
  owns := fun j e h => by
    rcases set_cases (l := s.env) h with ⟨rfl, q⟩ | ⟨ne, q⟩
    · cases q
    · obtain ⟨b, u, e1, z⟩ := w.owns j e q
      exact ⟨b, u, by rw [hb j (Ne.symm ne)]; exact e1, z⟩
  apart := fun j k e e' b h1 h2 h3 h4 => by
    rcases set_cases (l := s.env) h1 with ⟨rfl, q⟩ | ⟨ne, q⟩
    · cases q
    · rcases set_cases (l := s.env) h2 with ⟨rfl, q'⟩ | ⟨ne', q'⟩
      · cases q'
      · rw [hb j (Ne.symm ne)] at h3
        rw [hb k (Ne.symm ne')] at h4
        exact w.apart j k e e' b q q' h3 h4
  ios := w.ios
  refs := fun j h => by
    rcases set_cases (l := s.env) h with ⟨rfl, q⟩ | ⟨ne, q⟩
    · cases q
    · obtain ⟨b, h1, h2⟩ := w.refs j q
      exact ⟨b, h1, by rw [hb j (Ne.symm ne)]; exact h2⟩
  loose := w.loose
theorem Wd.gone (w : Wd K io L G σ s H) (σ' : L2.St) (hl : σ'.length = σ.length) (hs : ∀ j x, j ≠ i → σ[j]? = some (some x) → σ'[j]? = some (some x)) (hb : ∀ j, j ≠ i → σ'[j]? = σ[j]?) : Wd K io L G σ' (s.drop i) H := by
  obtain ⟨T, h1, w, h2⟩ := w.ex
  exact ⟨T, h1, w.gone σ' hl hs hb, h2.off (fun _ e => by cases e) (fun _ e => by cases e) hb⟩
/-- a slot's own object becomes loose -/
theorem Wd0.moved (w : Wd0 K io L G σ s H) (h : s.env[i]? = some (some (Sl.own c))) : ∃ a o, σ[i]? = some (some (V.ref a)) ∧ RepC K G o c ∧ L a = none ∧ Wd0 K io (upd L a o) G σ (s.drop i) H := by
  obtain ⟨a, o, e, g, ha, r, l, n⟩ := w.owns i c h
  have w1 := w.gone (i := i) σ rfl (fun _ _ _ q => q) (fun _ _ => rfl)
  refine ⟨a, o, e, r, l, ⟨w1.sub, w1.len, w1.vals, fun j e' h' => ?_, w1.apart, fun b hb => ?_, w1.refs, fun b u hb => ?_⟩⟩
  · obtain ⟨b, u, e1, g1, h1, r1, l1, n1⟩ := w1.owns j e' h'
    have ne : b ≠ a := fun q => by
      subst q
      rcases set_cases (l := s.env) h' with ⟨rfl, q⟩ | ⟨ne, q⟩
      · cases q
      · exact ne (w.apart i j c e' b h q e e1)
    exact ⟨b, u, e1, g1, h1, r1, by rw [upd_ne ne]; exact l1, n1⟩
  · obtain ⟨g1, l1, q⟩ := w1.ios b hb
    have ne : b ≠ a := fun q => n (q ▸ hb)
    exact ⟨g1, by rw [upd_ne ne]; exact l1, q⟩
  · by_cases q : b = a
    · subst q; rw [upd_same] at hb; cases hb; exact ⟨g, ha⟩
    · rw [upd_ne q] at hb; exact w.loose b u hb
theorem Wd.moved (w : Wd K io L G σ s H) (h : s.env[i]? = some (some (Sl.own c))) : ∃ a o, σ[i]? = some (some (V.ref a)) ∧ RepC K G o c ∧ L a = none ∧ Wd K io (upd L a o) G σ (s.drop i) H := by
  obtain ⟨T, h1, w, h2⟩ := w.ex
  obtain ⟨a, o, e1, e2, e3, w2⟩ := w.moved h
  rw [← un_upd] at w2
  exact ⟨a, o, e1, e2, un_left e3, T, upd_dis h1 (un_right e3), w2, h2.off (fun _ e => by cases e) (fun _ e => by cases e) fun _ _ => rfl⟩
/-- a slot's own list is frozen -/
theorem set_set_none (s : S) (i : Nat) (d : D) : (s.drop i).setv i d = s.setv i d := by
  show ({ s with env := (s.env.set i none).set i _ } : S) = { s with env := s.env.set i _ }
  rw [List.set_set]
theorem set_back {σ : L2.St} {i : Nat} {x : Option V} (h : σ[i]? = some x) : σ.set i x = σ := by
  apply List.ext_getElem?
  intro j
  by_cases e : i = j
  · subst e
    rw [List.getElem?_set_self (List.getElem?_eq_some_iff.mp h).1, h]
  · rw [List.getElem?_set_ne e]
theorem Wd.frzSlot (w : Wd K io L G σ s H) (h : s.env[i]? = some (some (Sl.own (C.lst ds)))) : ∃ a G', σ[i]? = some (some (V.ref a)) ∧ Sub G G' ∧ Wd K io L G' σ (s.setv i (.list ds)) H ∧ Dq K G' (.ref a) (.list ds) := by
  obtain ⟨a, o, e, r, l, w1⟩ := w.moved h
  obtain ⟨sb, w2, dp⟩ := w1.frzD l r
  have w3 := w2.setv (i := i) dp
  rw [set_set_none, set_back e] at w3
  exact ⟨a, _, e, sb, w3, dp⟩
/-- a loose object is written -/
theorem Wd0.writeL (w : Wd0 K io (upd L a o) G σ s H) (hL : L a = none) : Wd0 K io (upd L a o') G σ s (upd H a o') := by
  obtain ⟨hG, hH⟩ := w.loose a o upd_same
  refine ⟨fun b u hb => ?_, w.len, w.vals, fun i c h => ?_, w.apart, fun b hb => ?_, w.refs, fun b u hb => ?_⟩
  · rw [upd_ne (fun q => by rw [q, hG] at hb; cases hb)]; exact w.sub b u hb
  · obtain ⟨b, u, e, g, hb, r, l, n⟩ := w.owns i c h
    have ne : b ≠ a := fun q => by rw [q, upd_same] at l; cases l
    rw [upd_ne ne] at l
    exact ⟨b, u, e, g, by rw [upd_ne ne]; exact hb, r, by rw [upd_ne ne]; exact l, n⟩
  · obtain ⟨g, l, xs, h1, h2⟩ := w.ios b hb
    have ne : b ≠ a := fun q => by rw [q, upd_same] at l; cases l
    rw [upd_ne ne] at l
    exact ⟨g, by rw [upd_ne ne]; exact l, xs, by rw [upd_ne ne]; exact h1, h2⟩
  · by_cases q : b = a
    · subst q; rw [upd_same] at hb; cases hb; exact ⟨hG, upd_same⟩
    · rw [upd_ne q] at hb
      obtain ⟨g, h1⟩ := w.loose b u (by rw [upd_ne q]; exact hb)
      exact ⟨g, by rw [upd_ne q]; exact h1⟩
theorem Wd.writeL (w : Wd K io (upd L a o) G σ s H) (hL : L a = none) : Wd K io (upd L a o') G σ s (upd H a o') := by
  obtain ⟨T, h1, w, h2⟩ := w.ex
  obtain ⟨h3, h4⟩ := dis_upd h1
  rw [un_upd] at w
  have w2 := w.writeL (o' := o') (un_none hL h4)
  rw [← un_upd] at w2
  exact ⟨T, upd_dis h3 h4, w2, h2⟩
/-- a slot's own object is written -/
theorem Wd.writeO (w : Wd K io L G σ s H) (h : s.env[i]? = some (some (Sl.own c))) (e : σ[i]? = some (some (V.ref a))) (r : RepC K G o' c') : Wd K io L G σ (s.seto i c') (upd H a o') := by
  obtain ⟨a', o, e', _, l, w1⟩ := w.moved h
  rw [e] at e'; cases e'
  have w2 := (w1.writeL (o' := o') l).seto (i := i) l r
  have es : (s.drop i).seto i c' = s.seto i c' := by
    show ({ s with env := (s.env.set i none).set i _ } : S) = { s with env := s.env.set i _ }
    rw [List.set_set]
  rw [es, set_back e] at w2
  exact w2
/-- the box is written -/
theorem Wd0.writeB {xs : List V} (w : Wd0 K io L G σ s H) (e : io = some a) (r : DqAll K G xs ds) : Wd0 K io L G σ { s with box := ds } (upd H a (.lst xs)) := by
  obtain ⟨g0, l0, _, h0, _⟩ := w.ios a e
  refine ⟨fun b u hb => ?_, w.len, w.vals, fun i c h => ?_, w.apart, fun b hb => ?_, w.refs, fun b u hb => ?_⟩
  · rw [upd_ne (fun q => by rw [q, g0] at hb; cases hb)]; exact w.sub b u hb
  · obtain ⟨b, u, e1, g, hb, r, l, n⟩ := w.owns i c h
    have ne : b ≠ a := fun q => n (q ▸ e)
    exact ⟨b, u, e1, g, by rw [upd_ne ne]; exact hb, r, l, n⟩
  · rw [e] at hb; cases hb
    exact ⟨g0, l0, xs, upd_same, r⟩
  · obtain ⟨g, h1⟩ := w.loose b u hb
    have ne : b ≠ a := fun q => by rw [q, l0] at hb; cases hb
    exact ⟨g, by rw [upd_ne ne]; exact h1⟩
theorem Wd.writeB {xs : List V} (w : Wd K io L G σ s H) (e : io = some a) (r : DqAll K G xs ds) : Wd K io L G σ { s with box := ds } (upd H a (.lst xs)) := by
  obtain ⟨T, h1, w, h2⟩ := w.ex
  exact ⟨T, h1, w.writeB e r, h2⟩
/-! ### the stack -/
theorem RowsRep.agree {T T' : Hp} {as : List Addr} {xs : List V} {rows : List Row} (h : RowsRep K G T as xs rows) : (∀ b, b ∈ as → T' b = T b) → RowsRep K G T' as xs rows := by
  induction h with
  | nil => exact fun _ => .nil
  | cons h1 h2 h3 h4 _ ih =>
    intro e
    refine .cons ?_ h2 ?_ h4 (ih fun b hb => e b (List.mem_cons_of_mem _ (List.mem_cons_of_mem _ hb)))
    · rw [e _ List.mem_cons_self]; exact h1
    · rw [e _ (List.mem_cons_of_mem _ List.mem_cons_self)]; exact h3
  | frz _ ih => exact fun e => .frz (ih e)
theorem RowsRep.there {T : Hp} {as : List Addr} {xs : List V} {rows : List Row} (h : RowsRep K G T as xs rows) : ∀ b, b ∈ as → T b ≠ none := by
  induction h with
  | nil => intro b hb; cases hb
  | cons h1 h2 h3 h4 _ ih =>
    intro b hb
    rcases List.mem_cons.mp hb with rfl | hb
    · rcases h1 with h | h <;> rw [h] <;> exact fun z => by cases z
    · rcases List.mem_cons.mp hb with rfl | hb
      · rw [h3]; exact fun z => by cases z
      · exact ih b hb
  | frz _ ih => exact ih
theorem RowsRep.len {T : Hp} {as : List Addr} {xs : List V} {rows : List Row} (h : RowsRep K G T as xs rows) : xs.length = rows.length := by
  induction h with
  | nil => rfl
  | cons _ _ _ _ _ ih => simp [ih]
  | frz _ ih => simp [ih]
def clr1 : Option Sl → Option Sl
  | some (Sl.top _) => none
  | x => x
def clrE (env : List (Option Sl)) : List (Option Sl) := env.map clr1
theorem clrE_len {env : List (Option Sl)} : (clrE env).length = env.length := by unfold clrE; simp
theorem clrE_get {env : List (Option Sl)} {k : Nat} : (clrE env)[k]? = env[k]?.map clr1 := by unfold clrE; rw [List.getElem?_map]
theorem clrE_some {env : List (Option Sl)} {k : Nat} {x : Sl} (h : (clrE env)[k]? = some (some x)) : env[k]? = some (some x) ∧ ∀ j, x ≠ Sl.top j := by
  rw [clrE_get] at h
  cases e : env[k]? with
  | none => rw [e] at h; cases h
  | some y =>
    rw [e] at h
    have h : clr1 y = some x := Option.some.inj h
    cases y with
    | none => cases h
    | some y => cases y with
      | top j => cases h
      | val d => cases h; exact ⟨rfl, fun j z => by cases z⟩
      | own c => cases h; exact ⟨rfl, fun j z => by cases z⟩
      | io => cases h; exact ⟨rfl, fun j z => by cases z⟩
      | stk r => cases h; exact ⟨rfl, fun j z => by cases z⟩
/-- the names anew -/
theorem Wd0.re {env' : List (Option Sl)} {σ' : L2.St} (w : Wd0 K io L G σ s H) (hl : σ'.length = env'.length) (hv : ∀ (k : Nat) (x : D), env'[k]? = some (some (Sl.val x)) → ∃ v, σ'[k]? = some (some v) ∧ Dq K G v x)
    (ho : ∀ (k : Nat) (c : C), env'[k]? = some (some (Sl.own c)) → s.env[k]? = some (some (Sl.own c)) ∧ σ'[k]? = σ[k]?) (hi : ∀ (k : Nat), env'[k]? = some (some Sl.io) → s.env[k]? = some (some Sl.io) ∧ σ'[k]? = σ[k]?) : Wd0 K io L G σ' { s with env := env' } H where
  sub := w.sub
  len := hl
  vals := hv
  owns := fun k c h => by
    obtain ⟨h1, h2⟩ := ho k c h
    obtain ⟨a, o, e, q⟩ := w.owns k c h1
    exact ⟨a, o, h2.trans e, q⟩
  apart := fun i j c c' a h1 h2 h3 h4 => by
    obtain ⟨g1, g2⟩ := ho i c h1
    obtain ⟨k1, k2⟩ := ho j c' h2
    exact w.apart i j c c' a g1 k1 (g2.symm.trans h3) (k2.symm.trans h4)
  ios := w.ios
  refs := fun k h => by
    obtain ⟨h1, h2⟩ := hi k h
    obtain ⟨a, e1, e2⟩ := w.refs k h1
    exact ⟨a, e1, h2.trans e2⟩
  loose := w.loose
def rm (T : Hp) (q : Addr) : Hp := fun b => if b = q then none else T b
theorem rm_ne {T : Hp} {b q : Addr} (h : b ≠ q) : rm T q b = T b := if_neg h
theorem rm_same {T : Hp} {q : Addr} : rm T q q = none := if_pos rfl
theorem un_rm {L T : Hp} {q : Addr} {o : HO} (hT : T q = some o) (hL : L q = none) : un L T = upd (un L (rm T q)) q o := by
  funext b
  by_cases e : b = q
  · subst e; rw [upd_same]; exact un_r hT hL
  · rw [upd_ne e]
    unfold un
    rw [rm_ne e]
/-- the list within the top of the stack in slot j, read by the name in slot i: frozen -/
def S.frzTop (s : S) (i j : Nat) (ds l : List D) (rest : List Row) : S := { s with env := ((clrE s.env).set j (some (Sl.stk ((ds, none) :: rest)))).set i (some (Sl.val (.list l))) }
theorem Wd.frzTop {j : Nat} {l : List D} {rest : List Row} (w : Wd K io L G σ s H) (hi : s.env[i]? = some (some (Sl.top j))) (hj : s.env[j]? = some (some (Sl.stk ((ds, some l) :: rest)))) :
    ∃ q G', σ[i]? = some (some (V.ref q)) ∧ Sub G G' ∧ Wd K io L G' σ (s.frzTop i j ds l rest) H ∧ Dq K G' (.ref q) (.list l) := by
  obtain ⟨T, hd, w0, st⟩ := w.ex
  obtain ⟨a, as, xs, h1, h2, h3, h4, h5⟩ := st.at' j _ hj
  obtain ⟨ds', l', rest', p, q, as', e1, e2, e3⟩ := h5 i hi
  cases e1
  subst e2
  cases h3 with
  | @cons _ _ vs us _ _ _ xs' _ z1 z2 z3 z4 z5 =>
    have nd := h4
    rw [List.nodup_cons, List.nodup_cons, List.nodup_cons] at nd
    obtain ⟨n1, n2, n3, _⟩ := nd
    have haq : a ≠ q := fun e => n1 (by rw [e]; exact List.mem_cons_of_mem _ List.mem_cons_self)
    have hLq : L q = none := hd _ _ z3
    rw [un_rm z3 hLq] at w0
    obtain ⟨sb, w1⟩ := w0.frz (un_none hLq rm_same)
    have dq : Dq K (upd G q (.lst us)) (.ref q) (.list l) := .lst upd_same (sb.dpAll z4)
    have hij : i ≠ j := fun e => by rw [e, hj] at hi; cases hi
    refine ⟨q, _, e3, sb, ⟨rm T q, fun b u hb => ?_, ?_, ?_⟩, dq⟩
    · by_cases e : b = q
      · rw [e, rm_same] at hb; cases hb
      · rw [rm_ne e] at hb; exact hd b u hb
    · refine w1.re (by rw [List.length_set, List.length_set, clrE_len]; exact w1.len) (fun k x hk => ?_) (fun k c hk => ?_) fun k hk => ?_
      · rcases set_cases hk with ⟨rfl, z⟩ | ⟨ne, z⟩
        · cases z; exact ⟨_, e3, dq⟩
        · rcases set_cases z with ⟨rfl, y⟩ | ⟨ne', y⟩
          · cases y
          · exact w1.vals k x (clrE_some y).1
      · rcases set_cases hk with ⟨rfl, z⟩ | ⟨ne, z⟩
        · cases z
        · rcases set_cases z with ⟨rfl, y⟩ | ⟨ne', y⟩
          · cases y
          · exact ⟨(clrE_some y).1, rfl⟩
      · rcases set_cases hk with ⟨rfl, z⟩ | ⟨ne, z⟩
        · cases z
        · rcases set_cases z with ⟨rfl, y⟩ | ⟨ne', y⟩
          · cases y
          · exact ⟨(clrE_some y).1, rfl⟩
    · have only : ∀ k rows, (((clrE s.env).set j (some (Sl.stk ((ds, none) :: rest)))).set i (some (Sl.val (.list l))))[k]? = some (some (Sl.stk rows)) → k = j ∧ rows = (ds, none) :: rest := fun k rows hk => by
        rcases set_cases hk with ⟨rfl, z⟩ | ⟨ne, z⟩
        · cases z
        · rcases set_cases z with ⟨rfl, y⟩ | ⟨ne', y⟩
          · cases y; exact ⟨rfl, rfl⟩
          · exact absurd (st.one k j _ _ (clrE_some y).1 hj) (Ne.symm ne')
      refine ⟨fun k rows hk => ?_, fun k k' rows rows' hk hk' => (only k rows hk).1.trans (only k' rows' hk').1.symm⟩
      obtain ⟨rfl, rfl⟩ := only k rows hk
      refine ⟨a, as', .ref p :: xs', h1, by rw [rm_ne haq]; exact h2, .frz ((z5.mono sb).agree fun b hb => rm_ne fun e => n3 (by rw [← e]; exact hb)), ?_, fun k' hk' => ?_⟩
      · rw [List.nodup_cons]
        exact ⟨fun hm => n1 (List.mem_cons_of_mem _ (List.mem_cons_of_mem _ hm)), by assumption⟩
      · rcases set_cases hk' with ⟨rfl, z⟩ | ⟨ne, z⟩
        · cases z
        · rcases set_cases z with ⟨rfl, y⟩ | ⟨ne', y⟩
          · cases y
          · exact absurd rfl ((clrE_some y).2 _)
/-- a slot is read -/
theorem Wd.peek (w : Wd K io L G σ s H) (h : s.peek i = some d) : ∃ v, σ[i]? = some (some v) ∧ Rp K G H v d := by
  unfold S.peek at h
  split at h
  · rename_i d' q
    cases h
    obtain ⟨v, e, r⟩ := w.vals i _ q
    exact ⟨v, e, .fz r⟩
  · rename_i ds' q
    cases h
    obtain ⟨a, o, e, _, ha, r, _⟩ := w.owns i _ q
    cases r with
    | lst r => exact ⟨_, e, .cell ha r⟩
  · rename_i q
    cases h
    obtain ⟨a, ea, e⟩ := w.refs i q
    obtain ⟨_, _, xs, h1, h2⟩ := w.ios a ea
    exact ⟨_, e, .cell h1 h2⟩
  · rename_i j q
    split at h
    · rename_i ds l rest q2
      cases h
      obtain ⟨T, hd, w, st⟩ := w.ex
      obtain ⟨a, as, xs, h1, h2, h3, h4, h5⟩ := st.at' j _ q2
      obtain ⟨ds', l', rest', p, q', as', e1, e2, e3⟩ := h5 i q
      cases e1
      subst e2
      cases h3 with
      | cons _ _ z1 z2 _ => exact ⟨_, e3, .cell (w.loose _ _ (un_r z1 (hd _ _ z1))).2 z2⟩
    · cases h
  · cases h
end
end L3

namespace L3
open PySem L2

/-- what a chain of readings ends in -/
structure FK (K : PySem.W.Frag) (E : WW) (io : Option Addr) (L : Hp) (σ : L2.St) {β : Type} (F : Hp → Out β → Prop) : Prop where
  stuck : ∀ {G}, ¬ F G .stuck
  exc : ∀ {G c d s}, F G (.exc c d s) → Exc K E io L σ G c d s
  mono : ∀ {G G' o}, Sub G G' → F G o → F G' o
section
variable {K : PySem.W.Frag} {E : WW} {io : Option Addr} {L : Hp} {σ : L2.St}
theorem fk_fin {Q : VK} : FK K E io L σ (fun G o => Fin K E io L σ G Q o) := ⟨fun h => h, fun h => h, fun e h => h.mono e⟩
theorem fk_finV {Q : VK} : FK K E io L σ (fun G o => FinV K E io L σ G Q o) := ⟨fun h => h, fun h => h, fun e h => h.mono e⟩
theorem fk_finT {Q : Bool → Hp → Prop} : FK K E io L σ (fun G o => FinT K E io L σ G Q o) := ⟨fun h => h, fun h => h, fun e h => h.mono e⟩
end

structure SE {ι : Type} (X : ι → Cx) (K : PySem.W.Frag) (E : WW) (e : Expr) (f : M R) : Prop where
  ex : ∃ t, (∀ i, PE (X i) e t) ∧ ∀ io L G σ s H Q, Wd K io L G σ s H → Fin K E io L σ G Q (f s) → t σ H Q
structure SV {ι : Type} (X : ι → Cx) (K : PySem.W.Frag) (E : WW) (e : Expr) (f : M D) : Prop where
  ex : ∃ t, (∀ i, PE (X i) e t) ∧ ∀ io L G σ s H Q, Wd K io L G σ s H → FinV K E io L σ G Q (f s) → t σ H Q
structure ST {ι : Type} (X : ι → Cx) (K : PySem.W.Frag) (E : WW) (e : Expr) (f : M Bool) : Prop where
  ex : ∃ t, (∀ i, PT (X i) e t) ∧ ∀ io L G σ s H Q, Wd K io L G σ s H → FinT K E io L σ G Q (f s) → t σ H Q

section
variable {ι : Type} {X : ι → Cx} {K : PySem.W.Frag} {E : WW} {e : Expr}
theorem SV.use {f : M D} (h : SV X K E e f) : ∃ t, (∀ i, PE (X i) e t) ∧ ∀ {β : Type} {F : Hp → Out β → Prop} {k : D → M β} {io L G σ s H} {Q : VK}, FK K E io L σ F → Wd K io L G σ s H → F G (mbind f k s) →
    (∀ v d s' G' H', Sub G G' → Wd K io L G' σ s' H' → Dq K G' v d → F G' (k d s') → Q v H') → t σ H Q := by
  obtain ⟨t, pe, h⟩ := h.ex
  refine ⟨t, pe, fun {β F k io L G σ s H Q} fk w hf hq => h io L G σ s H Q w ?_⟩
  unfold mbind at hf
  cases e : f s with
  | stuck => rw [e] at hf; exact fk.stuck hf
  | ok d s' => rw [e] at hf; exact fun v G' H' sb w' dp => hq v d s' G' H' sb w' dp (fk.mono sb hf)
  | exc c d s' => rw [e] at hf; exact fk.exc hf
theorem ST.use {f : M Bool} (h : ST X K E e f) : ∃ t, (∀ i, PT (X i) e t) ∧ ∀ {β : Type} {F : Hp → Out β → Prop} {k : Bool → M β} {io L G σ s H} {Q : Bool → Hp → Prop}, FK K E io L σ F → Wd K io L G σ s H → F G (mbind f k s) →
    (∀ b s' G' H', Sub G G' → Wd K io L G' σ s' H' → F G' (k b s') → Q b H') → t σ H Q := by
  obtain ⟨t, pe, h⟩ := h.ex
  refine ⟨t, pe, fun {β F k io L G σ s H Q} fk w hf hq => h io L G σ s H Q w ?_⟩
  unfold mbind at hf
  cases e : f s with
  | stuck => rw [e] at hf; exact fk.stuck hf
  | ok d s' => rw [e] at hf; exact fun G' H' sb w' => hq d s' G' H' sb w' (fk.mono sb hf)
  | exc c d s' => rw [e] at hf; exact fk.exc hf
/-- a value: what is new is frozen -/
def toD : R → M D
  | .val d => mret d
  | .new (.lst ds) => mret (.list ds)
  | .new _ => mstuck
def frz (f : M R) : M D := mbind f toD
theorem sv_of {f : M R} (h : SE X K E e f) : SV X K E e (frz f) := by
  obtain ⟨t, pe, h⟩ := h.ex
  refine ⟨t, pe, fun io L G σ s H Q w hf => h io L G σ s H Q w ?_⟩
  unfold frz mbind at hf
  cases e : f s with
  | stuck => rw [e] at hf; exact hf
  | exc c d s' => rw [e] at hf; exact hf
  | ok r s' =>
    rw [e] at hf
    match r, hf with
    | .val d, hf => exact hf
    | .new (.lst ds), hf =>
      intro a o G' H' sb hL w' rc
      obtain ⟨sb', w2, dp⟩ := w'.frzD hL rc
      exact hf _ _ _ (sb.trans sb') w2 dp
    | .new (.dct _), hf => exact False.elim hf
def val (f : M D) : M R := mbind f fun d => mret (.val d)
theorem se_val {f : M D} (h : SV X K E e f) : SE X K E e (val f) := by
  obtain ⟨t, pe, h⟩ := h.use
  exact ⟨t, pe, fun io L G σ s H Q w hf => h (fk_fin (Q := Q)) w hf fun v d s' G' H' sb w' dp q => q v G' H' (Sub.refl _) w' dp⟩

/-! ### names, constants -/
def eC (d : D) : M R := mret (.val d)
def eVar (i : Nat) : M R := fun s => match s.env[i]? with
  | some (some (Sl.val d)) => .ok (.val d) s
  | some (some (Sl.own (C.lst ds))) => .ok (.val (.list ds)) (s.setv i (.list ds))
  | some (some (Sl.top j)) => match s.env[j]? with
    | some (some (Sl.stk ((ds, some l) :: rest))) => .ok (.val (.list l)) (s.frzTop i j ds l rest)
    | _ => .stuck
  | _ => .stuck
def eMove (i : Nat) : M R := fun s => match s.env[i]? with
  | some (some (Sl.val d)) => .ok (.val d) s
  | some (some (Sl.own c)) => .ok (.new c) (s.drop i)
  | _ => .stuck
theorem se_c {d : D} {v : V} (h : ∀ z, PE (X z) e (tC v)) (r : ∀ G, Dq K G v d) : SE X K E e (eC d) :=
  ⟨_, h, fun io L G σ s H Q w hf => hf v G H (Sub.refl _) w (r G)⟩
theorem se_var {i : Nat} (h : ∀ z, PE (X z) e (tVar i)) : SE X K E e (eVar i) := by
  refine ⟨_, h, fun io L G σ s H Q w hf => ?_⟩
  unfold eVar at hf
  split at hf
  · rename_i d q
    obtain ⟨v, e1, r⟩ := w.vals i d q
    exact ⟨v, e1, hf v G H (Sub.refl _) w r⟩
  · rename_i ds q
    obtain ⟨a, G', e1, sb, w', dp⟩ := w.frzSlot q
    exact ⟨_, e1, hf _ G' H sb w' dp⟩
  · rename_i j q
    split at hf
    · rename_i ds l rest q2
      obtain ⟨a, G', e1, sb, w', dp⟩ := w.frzTop q q2
      exact ⟨_, e1, hf _ G' H sb w' dp⟩
    · exact hf.elim
  · exact hf.elim
theorem se_move {i : Nat} (h : ∀ z, PE (X z) e (tVar i)) : SE X K E e (eMove i) := by
  refine ⟨_, h, fun io L G σ s H Q w hf => ?_⟩
  unfold eMove at hf
  split at hf
  · rename_i d q
    obtain ⟨v, e1, r⟩ := w.vals i d q
    exact ⟨v, e1, hf v G H (Sub.refl _) w r⟩
  · rename_i c q
    obtain ⟨a, o, e1, r, l, w'⟩ := w.moved q
    exact ⟨_, e1, hf a o G H (Sub.refl _) l w' r⟩
  · exact hf.elim

/-! ### operands -/
inductive Hd | var (i : Nat) | d (x : D)
inductive Opd | var (i : Nat) | ex (f : M D)
def rsv {β : Type} (h : Hd) (k : D → M β) : M β := match h with
  | .var i => fun s => match s.peek i with
    | some x => k x s
    | none => .stuck
  | .d x => k x
def opS {β : Type} (o : Opd) (k : Hd → M β) : M β := match o with
  | .var i => fun s => match s.peek i with
    | some _ => k (.var i) s
    | none => .stuck
  | .ex f => mbind f fun x => k (.d x)
inductive HR (K : PySem.W.Frag) (G : Hp) (σ : L2.St) (v : V) : Hd → Prop
  | var {i : Nat} : σ[i]? = some (some v) → HR K G σ v (.var i)
  | d {x : D} : Dq K G v x → HR K G σ v (.d x)
theorem HR.mono {K : PySem.W.Frag} {G G' : Hp} {σ : L2.St} {v : V} {h : Hd} (e : Sub G G') (r : HR K G σ v h) : HR K G' σ v h := by
  cases r with
  | var q => exact .var q
  | d q => exact .d (e.dp q)
theorem HR.use {K : PySem.W.Frag} {io : Option Addr} {L G H : Hp} {σ : L2.St} {s : S} {v : V} {h : Hd} {β : Type} {F : Hp → Out β → Prop} {k : D → M β} (fk : FK K E io L σ F) (w : Wd K io L G σ s H) (r : HR K G σ v h) (hf : F G (rsv h k s)) :
    ∃ x, Rp K G H v x ∧ F G (k x s) := by
  cases r with
  | var q =>
    rename_i i
    have hf' : F G (match s.peek i with | some x => k x s | none => .stuck) := hf
    cases e : s.peek i with
    | none => rw [e] at hf'; exact (fk.stuck hf').elim
    | some x =>
      rw [e] at hf'
      obtain ⟨v', e1, r⟩ := w.peek e
      rw [q] at e1; cases e1
      exact ⟨x, r, hf'⟩
  | d q => exact ⟨_, .fz q, hf⟩
structure SO {ι : Type} (X : ι → Cx) (K : PySem.W.Frag) (E : WW) (e : Expr) (o : Opd) : Prop where
  ex : ∃ t, (∀ i, PE (X i) e t) ∧ ∀ {β : Type} {F : Hp → Out β → Prop} {k : Hd → M β} {io L G σ s H} {Q : VK}, FK K E io L σ F → Wd K io L G σ s H → F G (opS o k s) →
    (∀ v h s' G' H', Sub G G' → Wd K io L G' σ s' H' → HR K G' σ v h → F G' (k h s') → Q v H') → t σ H Q
theorem so_var {i : Nat} (h : ∀ z, PE (X z) e (tVar i)) : SO X K E e (.var i) := by
  refine ⟨_, h, fun {β F k io L G σ s H Q} fk w hf hq => ?_⟩
  have hf' : F G (match s.peek i with | some _ => k (.var i) s | none => .stuck) := hf
  cases e : s.peek i with
  | none => rw [e] at hf'; exact (fk.stuck hf').elim
  | some x =>
    rw [e] at hf'
    obtain ⟨v, e1, _⟩ := w.peek e
    exact ⟨v, e1, hq v _ s G H (Sub.refl _) w (.var e1) hf'⟩
theorem so_ex {f : M D} (h : SV X K E e f) : SO X K E e (.ex f) := by
  obtain ⟨t, pe, h⟩ := h.use
  exact ⟨t, pe, fun {β F k io L G σ s H Q} fk w hf hq => h fk w hf fun v d s' G' H' sb w' dp q => hq v _ s' G' H' sb w' (.d dp) q⟩

/-! ### rows of operands, of frozen values -/
def ops {β : Type} : List Opd → (List D → M β) → M β
  | [], k => k []
  | o :: os, k => opS o fun h => ops os fun ds => rsv h fun x => k (x :: ds)
def evs {β : Type} : List (M D) → (List D → M β) → M β
  | [], k => k []
  | f :: fs, k => mbind f fun x => evs fs fun xs => k (x :: xs)
inductive RpAll (K : PySem.W.Frag) (G H : Hp) : List V → List D → Prop
  | nil : RpAll K G H [] []
  | cons {v : V} {d : D} {vs : List V} {ds : List D} : Rp K G H v d → RpAll K G H vs ds → RpAll K G H (v :: vs) (d :: ds)
theorem rpAll1 {K : PySem.W.Frag} {G H : Hp} {vs : List V} {d : D} (h : RpAll K G H vs [d]) : ∃ v, vs = [v] ∧ Rp K G H v d := by
  cases h with
  | cons a b => cases b; exact ⟨_, rfl, a⟩
theorem rpAll2 {K : PySem.W.Frag} {G H : Hp} {vs : List V} {d e : D} (h : RpAll K G H vs [d, e]) : ∃ v u, vs = [v, u] ∧ Rp K G H v d ∧ Rp K G H u e := by
  cases h with
  | cons a b =>
    obtain ⟨u, rfl, r⟩ := rpAll1 b
    exact ⟨_, u, rfl, a, r⟩
theorem rpAll0 {K : PySem.W.Frag} {G H : Hp} {vs : List V} (h : RpAll K G H vs []) : vs = [] := by cases h; rfl
structure SA {ι : Type} (X : ι → Cx) (K : PySem.W.Frag) (E : WW) (es : List Expr) (os : List Opd) : Prop where
  ex : ∃ t, (∀ i, PA (X i) es t) ∧ ∀ {β : Type} {F : Hp → Out β → Prop} {k : List D → M β} {io L G σ s H} {Q : List V → Hp → Prop}, FK K E io L σ F → Wd K io L G σ s H → F G (ops os k s) →
    (∀ vs ds s' G' H', Sub G G' → Wd K io L G' σ s' H' → RpAll K G' H' vs ds → F G' (k ds s') → Q vs H') → t σ H Q
theorem sa_nil : SA X K E [] [] := ⟨_, fun _ => pa_nil, fun {β F k io L G σ s H Q} fk w hf hq => hq [] [] s G H (Sub.refl _) w .nil hf⟩
theorem sa_cons {es : List Expr} {o : Opd} {os : List Opd} (h1 : SO X K E e o) (h2 : SA X K E es os) (hs : ∀ z, starEach (e :: es) (X z).env = (false, eval e (X z).env) :: starEach es (X z).env := by intro _; rfl) : SA X K E (e :: es) (o :: os) := by
  obtain ⟨t, pe, h1⟩ := h1.ex
  obtain ⟨u, pa, h2⟩ := h2.ex
  refine ⟨_, fun z => pa_cons (pe z) (pa z) (hs z), fun {β F k io L G σ s H Q} fk w hf hq => ?_⟩
  refine h1 fk w hf fun v h s1 G1 H1 sb1 w1 hr f1 => ?_
  refine h2 fk w1 f1 fun vs ds s2 G2 H2 sb2 w2 rs f2 => ?_
  obtain ⟨x, rp, f3⟩ := (hr.mono sb2).use fk w2 f2
  exact hq _ _ s2 G2 H2 (sb1.trans sb2) w2 (.cons rp rs) f3
structure SAv {ι : Type} (X : ι → Cx) (K : PySem.W.Frag) (E : WW) (es : List Expr) (fs : List (M D)) : Prop where
  ex : ∃ t, (∀ i, PA (X i) es t) ∧ ∀ {β : Type} {F : Hp → Out β → Prop} {k : List D → M β} {io L G σ s H} {Q : List V → Hp → Prop}, FK K E io L σ F → Wd K io L G σ s H → F G (evs fs k s) →
    (∀ vs ds s' G' H', Sub G G' → Wd K io L G' σ s' H' → DqAll K G' vs ds → ds.length = fs.length → F G' (k ds s') → Q vs H') → t σ H Q
theorem sav_nil : SAv X K E [] [] := ⟨_, fun _ => pa_nil, fun {β F k io L G σ s H Q} fk w hf hq => hq [] [] s G H (Sub.refl _) w .nil rfl hf⟩
theorem sav_cons {es : List Expr} {f : M D} {fs : List (M D)} (h1 : SV X K E e f) (h2 : SAv X K E es fs) (hs : ∀ z, starEach (e :: es) (X z).env = (false, eval e (X z).env) :: starEach es (X z).env := by intro _; rfl) : SAv X K E (e :: es) (f :: fs) := by
  obtain ⟨t, pe, h1⟩ := h1.use
  obtain ⟨u, pa, h2⟩ := h2.ex
  refine ⟨_, fun z => pa_cons (pe z) (pa z) (hs z), fun {β F k io L G σ s H Q} fk w hf hq => ?_⟩
  refine h1 fk w hf fun v d s1 G1 H1 sb1 w1 dp f1 => ?_
  refine h2 fk w1 f1 fun vs ds s2 G2 H2 sb2 w2 rs hl f2 => ?_
  exact hq _ _ s2 G2 H2 (sb1.trans sb2) w2 (.cons (sb2.dp dp) rs) (congrArg Nat.succ hl) f2

/-! ### operations on values -/
inductive PO | d (x : D) | l (xs : List D) | t (xs : List D)
def PO.r : PO → R
  | .d x => .val x
  | .l xs => .new (.lst xs)
  | .t xs => .val (.tuple xs)
def Ret (K : PySem.W.Frag) (G H : Hp) (Q : VK) : PO → Prop
  | .d x => ∀ v, Dq K G v x → Q v H
  | .l xs => ∀ a vs, H a = none → DqAll K G vs xs → Q (.ref a) (upd H a (.lst vs))
  | .t xs => (∀ v, Dq K G v (.tuple xs) → Q v H) ∧ ∀ a vs, H a = none → DqAll K G vs xs → Q (.ref a) (upd H a (.tup vs))
def Prim (K : PySem.W.Frag) (r : List V → Hp → VK → Prop) (p : List D → Option PO) : Prop :=
  ∀ G H vs ds x Q, Sub G H → RpAll K G H vs ds → p ds = some x → Ret K G H Q x → r vs H Q
def Prim2 (K : PySem.W.Frag) (r : R2) (p : D → D → Option PO) : Prop :=
  ∀ G H v u x y z Q, Sub G H → Rp K G H v x → Rp K G H u y → p x y = some z → Ret K G H Q z → r v u H Q
def mpo : Option PO → M R
  | some x => mret x.r
  | none => mstuck
theorem ret_fin {K : PySem.W.Frag} {E : WW} {io : Option Addr} {L G H : Hp} {σ : L2.St} {s : S} {Q : VK} {x : PO} (w : Wd K io L G σ s H) (h : Fin K E io L σ G Q (.ok x.r s)) : Ret K G H Q x := by
  match x, h with
  | .d x, h => exact fun v dp => h v G H (Sub.refl _) w dp
  | .l xs, h =>
    intro a vs hn r
    obtain ⟨hL, w'⟩ := w.fresh (o := .lst vs) hn
    exact h a _ G _ (Sub.refl _) hL w' (.lst r)
  | .t xs, h =>
    refine ⟨fun v dp => h v G H (Sub.refl _) w dp, fun a vs hn r => ?_⟩
    have sb : Sub G (upd G a (.tup vs)) := Sub.new (w.sub.none hn)
    exact h _ _ _ sb (w.grow hn) (.tup (SqT.of upd_same) (sb.dpAll r))
theorem mpo_fin {K : PySem.W.Frag} {E : WW} {io : Option Addr} {L G H : Hp} {σ : L2.St} {s : S} {Q : VK} {x : Option PO} (w : Wd K io L G σ s H) (h : Fin K E io L σ G Q (mpo x s)) : ∃ y, x = some y ∧ Ret K G H Q y := by
  cases x with
  | none => exact h.elim
  | some y => exact ⟨y, rfl, ret_fin w h⟩
/-- a call of a built-in -/
def eP (os : List Opd) (p : List D → Option PO) : M R := ops os fun ds => mpo (p ds)
theorem se_prim {es : List Expr} {os : List Opd} {r : List V → Hp → VK → Prop} {p : List D → Option PO} (ha : SA X K E es os) (hp : ∀ t, (∀ z, PA (X z) es t) → ∀ z, PE (X z) e (tCB r t)) (pr : Prim K r p) : SE X K E e (eP os p) := by
  obtain ⟨t, pa, h⟩ := ha.ex
  refine ⟨_, hp t pa, fun io L G σ s H Q w hf => ?_⟩
  refine h (fk_fin (Q := Q)) w hf fun vs ds s' G' H' sb w' rs f => ?_
  obtain ⟨y, e, rt⟩ := mpo_fin w' f
  exact pr G' H' vs ds y Q w'.sub rs e rt
/-- an operator of two -/
def e2 (a b : Opd) (p : D → D → Option PO) : M R := opS a fun h => opS b fun g => rsv h fun x => rsv g fun y => mpo (p x y)
theorem se_op2 {a b : Expr} {oa ob : Opd} {r : R2} {p : D → D → Option PO} (h1 : SO X K E a oa) (h2 : SO X K E b ob) (hp : ∀ ta tb, (∀ z, PE (X z) a ta) → (∀ z, PE (X z) b tb) → ∀ z, PE (X z) e (tOp r ta tb)) (pr : Prim2 K r p) : SE X K E e (e2 oa ob p) := by
  obtain ⟨t, pe1, h1⟩ := h1.ex
  obtain ⟨u, pe2, h2⟩ := h2.ex
  refine ⟨_, hp t u pe1 pe2, fun io L G σ s H Q w hf => ?_⟩
  refine h1 (fk_fin (Q := Q)) w hf fun v h s1 G1 H1 sb1 w1 hr f1 => ?_
  refine h2 (fk_fin (Q := Q)) w1 f1 fun v' g s2 G2 H2 sb2 w2 hr2 f2 => ?_
  obtain ⟨x, rx, f3⟩ := (hr.mono sb2).use fk_fin w2 f2
  obtain ⟨y, ry, f4⟩ := hr2.use fk_fin w2 f3
  obtain ⟨z, e, rt⟩ := mpo_fin w2 f4
  exact pr G2 H2 v v' x y z Q w2.sub rx ry e rt
/-- the same as a test -/
def t2 (a b : Opd) (p : D → D → Option Bool) : M Bool := opS a fun h => opS b fun g => rsv h fun x => rsv g fun y => match p x y with
  | some c => mret c
  | none => mstuck
theorem st_op2 {a b : Expr} {oa ob : Opd} {r : R2} {p : D → D → Option Bool} (h1 : SO X K E a oa) (h2 : SO X K E b ob) (hp : ∀ ta tb, (∀ z, PE (X z) a ta) → (∀ z, PE (X z) b tb) → ∀ z, PT (X z) e (tTest (tOp r ta tb))) (pr : Prim2 K r (fun x y => (p x y).map fun c => .d (.bool c))) : ST X K E e (t2 oa ob p) := by
  obtain ⟨t, pe1, h1⟩ := h1.ex
  obtain ⟨u, pe2, h2⟩ := h2.ex
  refine ⟨_, hp t u pe1 pe2, fun io L G σ s H Q w hf => ?_⟩
  refine h1 (fk_finT (Q := Q)) w hf fun v h s1 G1 H1 sb1 w1 hr f1 => ?_
  refine h2 (fk_finT (Q := Q)) w1 f1 fun v' g s2 G2 H2 sb2 w2 hr2 f2 => ?_
  obtain ⟨x, rx, f3⟩ := (hr.mono sb2).use fk_finT w2 f2
  obtain ⟨y, ry, f4⟩ := hr2.use fk_finT w2 f3
  cases e : p x y with
  | none => rw [e] at f4; exact (FK.stuck fk_finT f4).elim
  | some c =>
    rw [e] at f4
    refine pr G2 H2 v v' x y (.d (.bool c)) _ w2.sub rx ry (by show Option.map _ (p x y) = _; rw [e]; rfl) ?_
    intro vb dp
    cases dp
    exact ⟨c, rfl, f4 G2 H2 (Sub.refl _) w2⟩
/-- an operator of one -/
def e1 (a : Opd) (p : D → Option PO) : M R := opS a fun h => rsv h fun x => mpo (p x)
def Prim1 (K : PySem.W.Frag) (r : V → Hp → VK → Prop) (p : D → Option PO) : Prop :=
  ∀ G H v x z Q, Sub G H → Rp K G H v x → p x = some z → Ret K G H Q z → r v H Q
theorem se_op1 {a : Expr} {oa : Opd} {r : V → Hp → VK → Prop} {p : D → Option PO} (h1 : SO X K E a oa) (hp : ∀ ta, (∀ z, PE (X z) a ta) → ∀ z, PE (X z) e (tUn r ta)) (pr : Prim1 K r p) : SE X K E e (e1 oa p) := by
  obtain ⟨t, pe1, h1⟩ := h1.ex
  refine ⟨_, hp t pe1, fun io L G σ s H Q w hf => ?_⟩
  refine h1 (fk_fin (Q := Q)) w hf fun v h s1 G1 H1 sb1 w1 hr f1 => ?_
  obtain ⟨x, rx, f3⟩ := hr.use fk_fin w1 f1
  obtain ⟨z, e, rt⟩ := mpo_fin w1 f3
  exact pr G1 H1 v x z Q w1.sub rx e rt

/-! ### displays -/
def eTup (fs : List (M D)) : M R := evs fs fun ds => if ds.length ≤ sizeLine then mret (.val (.tuple ds)) else mstuck
def eLst (fs : List (M D)) : M R := evs fs fun ds => if ds.length ≤ sizeLine then mret (.new (.lst ds)) else mstuck
theorem se_tup {es : List Expr} {fs : List (M D)} {x1 pos} (ha : SAv X K E es fs) : SE X K E (.Tuple es x1 pos) (eTup fs) := by
  obtain ⟨t, pa, h⟩ := ha.ex
  refine ⟨_, fun z => pe_tup (pa z), fun io L G σ s H Q w hf => ?_⟩
  refine h (fk_fin (Q := Q)) w hf fun vs ds s' G' H' sb w' rs _ f => ?_
  split at f
  · rename_i hl
    refine ⟨by rw [rs.length]; exact hl, fun p hp => ?_⟩
    exact (ret_fin (x := .t ds) w' f).2 p vs hp rs
  · exact f.elim
theorem se_lst {es : List Expr} {fs : List (M D)} {pos} (ha : SAv X K E es fs) : SE X K E (.List es pos) (eLst fs) := by
  obtain ⟨t, pa, h⟩ := ha.ex
  refine ⟨_, fun z => pe_lst (pa z), fun io L G σ s H Q w hf => ?_⟩
  refine h (fk_fin (Q := Q)) w hf fun vs ds s' G' H' sb w' rs _ f => ?_
  split at f
  · rename_i hl
    refine ⟨by rw [rs.length]; exact hl, fun p hp => ?_⟩
    exact ret_fin (x := .l ds) w' f p vs hp rs
  · exact f.elim

/-! ### choice -/
def eIf {α : Type} (c : M Bool) (a b : M α) : M α := mbind c fun x => if x then a else b
theorem se_if {c a b : Expr} {pos} {fc : M Bool} {fa fb : M R} (hc : ST X K E c fc) (ha : SE X K E a fa) (hb : SE X K E b fb) : SE X K E (.IfExp c a b pos) (eIf fc fa fb) := by
  obtain ⟨t, pt, h⟩ := hc.use
  obtain ⟨ta, pa, h1⟩ := ha.ex
  obtain ⟨tb, pb, h2⟩ := hb.ex
  refine ⟨_, fun z => pe_ifExp (pt z) (pa z) (pb z), fun io L G σ s H Q w hf => ?_⟩
  refine h (fk_fin (Q := Q)) w hf fun b s' G' H' sb w' f => ?_
  cases b with
  | true => exact iteT (h1 io L G' σ s' H' Q w' f)
  | false => exact iteF (h2 io L G' σ s' H' Q w' f)
def isB : D → M Bool
  | .bool b => mret b
  | _ => mstuck
/-- a value that is a truth, as a test -/
def tB (f : M D) : M Bool := mbind f isB
theorem st_val {f : M D} (h : SV X K E e f) (he : ∀ z whole, isTrue e (X z).env whole = (do let v ← whole; standAt e.pos; holding [v] (truthy v)) := by intro _ _; rfl) : ST X K E e (tB f) := by
  obtain ⟨t, pe, h⟩ := h.use
  refine ⟨_, fun z => pt_val (pe z) (he z), fun io L G σ s H Q w hf => ?_⟩
  refine h (fk_finT (Q := Q)) w hf fun v d s' G' H' sb w' dp f => ?_
  match d, dp, f with
  | .bool b, dp, f => cases dp; exact ⟨b, rfl, f G' H' (Sub.refl _) w'⟩
/-- a comparison's truth as a value -/
def ofB (f : M Bool) : M R := mbind f fun b => mret (.val (.bool b))
def tAnd (a b : M Bool) : M Bool := mbind a fun x => if x then b else mret false
def tOr (a b : M Bool) : M Bool := mbind a fun x => if x then mret true else b
def tNot (a : M Bool) : M Bool := mbind a fun x => mret (!x)
structure SW {ι : Type} (X : ι → Cx) (K : PySem.W.Frag) (E : WW) (e : Expr) (f : M Bool) : Prop where
  ex : ∃ t, (∀ i, PW (X i) e t) ∧ ∀ io L G σ s H Q, Wd K io L G σ s H → FinT K E io L σ G Q (f s) → t σ H Q
theorem SW.st {f : M Bool} (h : SW X K E e f) : ST X K E e f := let ⟨t, p, q⟩ := h.ex; ⟨t, fun z => (p z).pt, q⟩
section
variable {a b : Expr} {rest : List Expr} {pos : Pos} {fa fb : M Bool}
theorem sw_and1 (h : ST X K E a fa) : SW X K E (.BoolOp .And [a] pos) fa := let ⟨t, p, q⟩ := h.ex; ⟨t, fun z => pw_and1 (p z), q⟩
theorem sw_or1 (h : ST X K E a fa) : SW X K E (.BoolOp .Or [a] pos) fa := let ⟨t, p, q⟩ := h.ex; ⟨t, fun z => pw_or1 (p z), q⟩
theorem sw_and (h : ST X K E a fa) (h2 : SW X K E (.BoolOp .And (b :: rest) pos) fb) : SW X K E (.BoolOp .And (a :: b :: rest) pos) (tAnd fa fb) := by
  obtain ⟨t, p, h⟩ := h.use
  obtain ⟨u, p2, h2⟩ := h2.ex
  refine ⟨_, fun z => pw_and (p z) (p2 z), fun io L G σ s H Q w hf => ?_⟩
  refine h (fk_finT (Q := Q)) w hf fun b s' G' H' sb w' f => ?_
  cases b with
  | true => exact iteT (h2 io L G' σ s' H' Q w' f)
  | false => exact iteF (f G' H' (Sub.refl _) w')
theorem sw_or (h : ST X K E a fa) (h2 : SW X K E (.BoolOp .Or (b :: rest) pos) fb) : SW X K E (.BoolOp .Or (a :: b :: rest) pos) (tOr fa fb) := by
  obtain ⟨t, p, h⟩ := h.use
  obtain ⟨u, p2, h2⟩ := h2.ex
  refine ⟨_, fun z => pw_or (p z) (p2 z), fun io L G σ s H Q w hf => ?_⟩
  refine h (fk_finT (Q := Q)) w hf fun b s' G' H' sb w' f => ?_
  cases b with
  | true => exact iteT (f G' H' (Sub.refl _) w')
  | false => exact iteF (h2 io L G' σ s' H' Q w' f)
theorem st_not (h : ST X K E a fa) : ST X K E (.UnaryOp .Not a pos) (tNot fa) := by
  obtain ⟨t, p, h⟩ := h.use
  refine ⟨_, fun z => pt_not (p z), fun io L G σ s H Q w hf => ?_⟩
  exact h (fk_finT (Q := Q)) w hf fun b s' G' H' sb w' f => f G' H' (Sub.refl _) w'
/-- the same as values -/
def vAnd (a : M D) (b : M R) : M R := mbind (tB a) fun x => if x then b else mret (.val (.bool false))
def vOr (a : M D) (b : M R) : M R := mbind (tB a) fun x => if x then mret (.val (.bool true)) else b
def vNot (a : M D) : M R := mbind (tB a) fun x => mret (.val (.bool (!x)))
theorem se_one {op} {f : M R} (h : SE X K E a f) : SE X K E (.BoolOp op [a] pos) f := let ⟨t, p, q⟩ := h.ex; ⟨t, fun z => pe_one (p z), q⟩
theorem tB_use {β : Type} {f : M D} {k : Bool → M β} {s : S} {F : Hp → Out β → Prop} {G : Hp} (h : F G (mbind (tB f) k s)) : F G (mbind f (fun d => mbind (isB d) k) s) := by
  have e : mbind (tB f) k s = mbind f (fun d => mbind (isB d) k) s := by
    unfold tB mbind
    cases f s <;> rfl
  rw [e] at h; exact h
theorem se_and {f : M D} {g : M R} (h : SV X K E a f) (h2 : SE X K E (.BoolOp .And (b :: rest) pos) g) : SE X K E (.BoolOp .And (a :: b :: rest) pos) (vAnd f g) := by
  obtain ⟨t, p, h⟩ := h.use
  obtain ⟨u, p2, h2⟩ := h2.ex
  refine ⟨_, fun z => pe_and (p z) (p2 z), fun io L G σ s H Q w hf => ?_⟩
  refine h (fk_fin (Q := Q)) w (tB_use (F := fun G o => Fin K E io L σ G Q o) hf) fun v d s' G' H' sb w' dp f => ?_
  match d, dp, f with
  | .bool b, dp, f =>
    cases dp
    refine ⟨b, rfl, ?_⟩
    cases b with
    | true => exact iteT (h2 io L G' σ s' H' Q w' f)
    | false => exact iteF (f _ G' H' (Sub.refl _) w' (.bl false))
theorem se_or {f : M D} {g : M R} (h : SV X K E a f) (h2 : SE X K E (.BoolOp .Or (b :: rest) pos) g) : SE X K E (.BoolOp .Or (a :: b :: rest) pos) (vOr f g) := by
  obtain ⟨t, p, h⟩ := h.use
  obtain ⟨u, p2, h2⟩ := h2.ex
  refine ⟨_, fun z => pe_or (p z) (p2 z), fun io L G σ s H Q w hf => ?_⟩
  refine h (fk_fin (Q := Q)) w (tB_use (F := fun G o => Fin K E io L σ G Q o) hf) fun v d s' G' H' sb w' dp f => ?_
  match d, dp, f with
  | .bool b, dp, f =>
    cases dp
    refine ⟨b, rfl, ?_⟩
    cases b with
    | true => exact iteT (f _ G' H' (Sub.refl _) w' (.bl true))
    | false => exact iteF (h2 io L G' σ s' H' Q w' f)
theorem se_not {f : M D} (h : SV X K E a f) : SE X K E (.UnaryOp .Not a pos) (vNot f) := by
  obtain ⟨t, p, h⟩ := h.use
  refine ⟨_, fun z => pe_not (p z), fun io L G σ s H Q w hf => ?_⟩
  refine h (fk_fin (Q := Q)) w (tB_use (F := fun G o => Fin K E io L σ G Q o) hf) fun v d s' G' H' sb w' dp f => ?_
  match d, dp, f with
  | .bool b, dp, f =>
    cases dp
    exact ⟨b, rfl, f _ G' H' (Sub.refl _) w' (.bl _)⟩
end
end
end L3

namespace L3
open PySem L2

/-! ### statements -/
inductive Fl | nx | rt (r : R) | bk | ct
def ExcS (K : PySem.W.Frag) (E : WW) (io : Option Addr) (L : Hp) (G0 : Hp) (c : Str) (d : D) (s : S) : Prop := ∀ σ, Exc K E io L σ G0 c d s
def FinS (K : PySem.W.Frag) (E : WW) (io : Option Addr) (L : Hp) (G0 : Hp) (A : Ends) : Out Fl → Prop
  | .stuck => False
  | .ok .nx s => ∀ σ G H, Sub G0 G → Wd K io L G σ s H → A.nx σ H
  | .ok .bk s => ∀ σ G H, Sub G0 G → Wd K io L G σ s H → A.bk σ H
  | .ok .ct s => ∀ σ G H, Sub G0 G → Wd K io L G σ s H → A.ct σ H
  | .ok (.rt (.val d)) s => ∀ v σ G H, Sub G0 G → Wd K io L G σ s H → Dq K G v d → A.rt v H
  | .ok (.rt (.new c)) s => ∀ a o σ G H, Sub G0 G → L a = none → Wd K io (upd L a o) G σ s H → RepC K G o c → A.rt (.ref a) H
  | .exc c d s => ExcS K E io L G0 c d s
section
variable {K : PySem.W.Frag} {E : WW} {io : Option Addr} {L : Hp} {G G0 : Hp} {A B : Ends}
theorem FinS.mono {o : Out Fl} (e : Sub G0 G) (h : FinS K E io L G0 A o) : FinS K E io L G A o := by
  match o, h with
  | .ok .nx s, h => exact fun σ G' H q => h σ G' H (e.trans q)
  | .ok .bk s, h => exact fun σ G' H q => h σ G' H (e.trans q)
  | .ok .ct s, h => exact fun σ G' H q => h σ G' H (e.trans q)
  | .ok (.rt (.val d)) s, h => exact fun v σ G' H q => h v σ G' H (e.trans q)
  | .ok (.rt (.new c)) s, h => exact fun a o σ G' H q => h a o σ G' H (e.trans q)
  | .exc c d s, h => exact fun σ => Exc.mono (s := s) e (h σ)
theorem fk_finS {σ : L2.St} : FK K E io L σ (fun G o => FinS K E io L G A o) := ⟨fun h => h, fun h => h σ, fun e h => h.mono e⟩
end
structure SS {ι : Type} (X : ι → Cx) (K : PySem.W.Frag) (E : WW) (e : Stmt) (f : M Fl) : Prop where
  ex : ∃ t, (∀ i, PS (X i) e t) ∧ ∀ io L G σ s H A, Wd K io L G σ s H → FinS K E io L G A (f s) → t A σ H
structure SB {ι : Type} (X : ι → Cx) (K : PySem.W.Frag) (E : WW) (e : List Stmt) (f : M Fl) : Prop where
  ex : ∃ t, (∀ i, PSs (X i) e t) ∧ ∀ io L G σ s H A, Wd K io L G σ s H → FinS K E io L G A (f s) → t A σ H
def sNil : M Fl := mret .nx
def sSeq (f g : M Fl) : M Fl := mbind f fun x => match x with
  | .nx => g
  | y => mret y
section
variable {ι : Type} {X : ι → Cx} {K : PySem.W.Frag} {E : WW} {st : Stmt} {rest : List Stmt} {f g : M Fl}
theorem sb_nil : SB X K E [] sNil := ⟨_, fun _ => pss_nil, fun io L G σ s H A w hf => hf σ G H (Sub.refl _) w⟩
theorem sb_one (h : SS X K E st f) : SB X K E [st] f := let ⟨t, p, q⟩ := h.ex; ⟨t, fun z => pss_one (p z), q⟩
theorem sb_cons (h1 : SS X K E st f) (h2 : SB X K E rest g) : SB X K E (st :: rest) (sSeq f g) := by
  obtain ⟨t, p, h1⟩ := h1.ex
  obtain ⟨u, p2, h2⟩ := h2.ex
  refine ⟨_, fun z => pss_cons (p z) (p2 z), fun io L G σ s H A w hf => ?_⟩
  refine h1 io L G σ s H { A with nx := u A } w ?_
  unfold sSeq mbind at hf
  cases e : f s with
  | stuck => rw [e] at hf; exact hf
  | exc c d s' => rw [e] at hf; exact hf
  | ok fl s' =>
    rw [e] at hf
    match fl, hf with
    | .nx, hf => exact fun σ' G' H' sb w' => h2 io L G' σ' s' H' A w' (FinS.mono sb hf)
    | .bk, hf => exact hf
    | .ct, hf => exact hf
    | .rt (.val d), hf => exact hf
    | .rt (.new c), hf => exact hf
theorem ss_pass {pos} : SS X K E (.Pass pos) sNil := ⟨_, fun _ => ps_pass, fun io L G σ s H A w hf => hf σ G H (Sub.refl _) w⟩
theorem ss_break {pos} : SS X K E (.Break pos) (mret .bk) := ⟨_, fun _ => ps_break, fun io L G σ s H A w hf => hf σ G H (Sub.refl _) w⟩
theorem ss_cont {pos} : SS X K E (.Continue pos) (mret .ct) := ⟨_, fun _ => ps_continue, fun io L G σ s H A w hf => hf σ G H (Sub.refl _) w⟩
theorem SE.use {e : Expr} {f : M R} (h : SE X K E e f) : ∃ t, (∀ i, PE (X i) e t) ∧ ∀ {β : Type} {F : Hp → Out β → Prop} {k : R → M β} {io L G σ s H} {Q : VK}, FK K E io L σ F → Wd K io L G σ s H → F G (mbind f k s) →
    (∀ v d s' G' H', Sub G G' → Wd K io L G' σ s' H' → Dq K G' v d → F G' (k (.val d) s') → Q v H') →
    (∀ a o c s' G' H', Sub G G' → L a = none → Wd K io (upd L a o) G' σ s' H' → RepC K G' o c → F G' (k (.new c) s') → Q (.ref a) H') → t σ H Q := by
  obtain ⟨t, pe, h⟩ := h.ex
  refine ⟨t, pe, fun {β F k io L G σ s H Q} fk w hf hq hq2 => h io L G σ s H Q w ?_⟩
  unfold mbind at hf
  cases e : f s with
  | stuck => rw [e] at hf; exact (fk.stuck hf).elim
  | exc c d s' => rw [e] at hf; exact fk.exc hf
  | ok r s' =>
    rw [e] at hf
    match r, hf with
    | .val d, hf => exact fun v G' H' sb w' dp => hq v d s' G' H' sb w' dp (fk.mono sb hf)
    | .new c, hf => exact fun a o G' H' sb hL w' rc => hq2 a o c s' G' H' sb hL w' rc (fk.mono sb hf)
def S.put (s : S) (i : Nat) : R → S
  | .val d => s.setv i d
  | .new c => s.seto i c
def sSet (i : Nat) (f : M R) : M Fl := mbind f fun r s => .ok .nx (s.put i r)
theorem ss_set {i : Nat} {e : Expr} {tg : Expr} {pos : Pos} {f : M R} (h : SE X K E e f) (hp : ∀ te, (∀ z, PE (X z) e te) → ∀ z, PS (X z) (.Assign [tg] e pos) (tAsg te (gName i))) : SS X K E (.Assign [tg] e pos) (sSet i f) := by
  obtain ⟨t, p, h⟩ := h.use
  refine ⟨_, hp t p, fun io L G σ s H A w hf => ?_⟩
  refine h (fk_finS (A := A)) w hf (fun v d s' G' H' sb w' dp f => ?_) fun a o c s' G' H' sb hL w' rc f => ?_
  · exact f _ G' H' (Sub.refl _) (w'.setv dp)
  · exact f _ G' H' (Sub.refl _) (w'.seto hL rc)
def sRet (f : M R) : M Fl := mbind f fun r => mret (.rt r)
theorem ss_ret {e : Expr} {pos : Pos} {f : M R} (h : SE X K E e f) : SS X K E (.Return (some e) pos) (sRet f) := by
  obtain ⟨t, p, h⟩ := h.use
  refine ⟨_, fun z => ps_ret (p z), fun io L G σ s H A w hf => ?_⟩
  refine h (fk_finS (A := A)) w hf (fun v d s' G' H' sb w' dp f => ?_) fun a o c s' G' H' sb hL w' rc f => ?_
  · exact f v σ G' H' (Sub.refl _) w' dp
  · exact f a o σ G' H' (Sub.refl _) hL w' rc
def sRetN : M Fl := mret (.rt (.val .none))
theorem ss_retN {pos : Pos} : SS X K E (.Return none pos) sRetN := ⟨_, fun _ => ps_retN, fun io L G σ s H A w hf => hf .non σ G H (Sub.refl _) w .non⟩
def sDrop (f : M R) : M Fl := mbind f fun _ => mret .nx
theorem ss_drop {e : Expr} {pos : Pos} {f : M R} (h : SE X K E e f) (hs : ∀ z, swapsWith e none pos.line (X z).env = pure false := by intro _; rfl) : SS X K E (.Expr e pos) (sDrop f) := by
  obtain ⟨t, p, h⟩ := h.use
  refine ⟨_, fun z => ps_expr (p z) (hs z), fun io L G σ s H A w hf => ?_⟩
  refine h (fk_finS (A := A)) w hf (fun v d s' G' H' sb w' dp f => ?_) fun a o c s' G' H' sb hL w' rc f => ?_
  · exact f σ G' H' (Sub.refl _) w'
  · exact f σ G' H' (Sub.refl _) (w'.drop hL)
def sIf (c : M Bool) (a b : M Fl) : M Fl := mbind c fun x => if x then a else b
theorem ss_if {c : Expr} {a b : List Stmt} {pos} {fc : M Bool} {fa fb : M Fl} (hc : ST X K E c fc) (ha : SB X K E a fa) (hb : SB X K E b fb) : SS X K E (.If c a b pos) (sIf fc fa fb) := by
  obtain ⟨t, pt, h⟩ := hc.use
  obtain ⟨ta, pa, h1⟩ := ha.ex
  obtain ⟨tb, pb, h2⟩ := hb.ex
  refine ⟨_, fun z => ps_if (pt z) (pa z) (pb z), fun io L G σ s H A w hf => ?_⟩
  refine h (fk_finS (A := A)) w hf fun b s' G' H' sb w' f => ?_
  cases b with
  | true => exact iteT (h1 io L G' σ s' H' A w' f)
  | false => exact iteF (h2 io L G' σ s' H' A w' f)

/-! ### cells written -/
/-- the content of a slot's list, the box -/
def S.cell (s : S) (i : Nat) : Option (List D) := match s.env[i]? with
  | some (some (Sl.own (C.lst ds))) => some ds
  | some (some Sl.io) => some s.box
  | _ => none
def S.putc (s : S) (i : Nat) (ds : List D) : S := match s.env[i]? with
  | some (some Sl.io) => { s with box := ds }
  | _ => s.seto i (C.lst ds)
theorem Wd.cell {K : PySem.W.Frag} {io : Option Addr} {L G H : Hp} {σ : L2.St} {s : S} {i : Nat} {ds : List D} (w : Wd K io L G σ s H) (h : s.cell i = some ds) :
    ∃ a xs, σ[i]? = some (some (V.ref a)) ∧ G a = none ∧ L a = none ∧ H a = some (.lst xs) ∧ DqAll K G xs ds ∧ ∀ G' H' (s' : S) ys es, Sub G G' → Wd K io L G' σ s' H' → s'.cell i = some es → DqAll K G' ys ds → True := by
  unfold S.cell at h
  split at h
  · rename_i ds' q
    cases h
    obtain ⟨a, o, e, g, ha, r, l, _⟩ := w.owns i _ q
    cases r with
    | lst r => exact ⟨a, _, e, g, l, ha, r, fun _ _ _ _ _ _ _ _ _ => trivial⟩
  · rename_i q
    cases h
    obtain ⟨a, ea, e⟩ := w.refs i q
    obtain ⟨g, l, xs, h1, h2⟩ := w.ios a ea
    exact ⟨a, xs, e, g, l, h1, h2, fun _ _ _ _ _ _ _ _ _ => trivial⟩
  · cases h
theorem Wd.putc {K : PySem.W.Frag} {io : Option Addr} {L G H : Hp} {σ : L2.St} {s : S} {i : Nat} {ds es : List D} {a : Addr} {ys : List V} (w : Wd K io L G σ s H) (h : s.cell i = some ds) (e : σ[i]? = some (some (V.ref a))) (r : DqAll K G ys es) :
    Wd K io L G σ (s.putc i es) (upd H a (.lst ys)) := by
  unfold S.cell at h
  split at h
  · rename_i ds' q
    unfold S.putc
    rw [q]
    exact w.writeO q e (.lst r)
  · rename_i q
    unfold S.putc
    rw [q]
    obtain ⟨b, eb, e'⟩ := w.refs i q
    rw [e] at e'; cases e'
    exact w.writeB eb r
  · cases h
/-- the slot of a cell keeps its address while only readings run: what stands at σ is the same -/
def PrimM (K : PySem.W.Frag) (r : V → List V → Hp → VK → Prop) (p : List D → List D → Option (D × List D)) : Prop :=
  ∀ G H a xs ds vs es d ds' Q, Sub G H → H a = some (.lst xs) → DqAll K G xs ds → DqAll K G vs es → p ds es = some (d, ds') → (∀ v ys, Dq K G v d → DqAll K G ys ds' → Q v (upd H a (.lst ys))) → r (.ref a) vs H Q
/-- o.m(..), o a slot's list (or the box) -/
def eM (i : Nat) (fs : List (M D)) (p : List D → List D → Option (D × List D)) : M R := fun s => match s.cell i with
  | none => .stuck
  | some _ => evs fs (fun es s' => match s'.cell i with
    | none => .stuck
    | some ds => match p ds es with
      | none => .stuck
      | some (d, ds') => .ok (.val d) (s'.putc i ds')) s
theorem se_meth {i : Nat} {e : Expr} {es : List Expr} {fs : List (M D)} {r : V → List V → Hp → VK → Prop} {p : List D → List D → Option (D × List D)} (ha : SAv X K E es fs)
    (hp : ∀ t, (∀ z, PA (X z) es t) → ∀ z, PE (X z) e (tBM K "list" r (tVar i) t)) (pr : PrimM K r p) : SE X K E e (eM i fs p) := by
  obtain ⟨t, pa, h⟩ := ha.ex
  refine ⟨_, hp t pa, fun io L G σ s H Q w hf => ?_⟩
  unfold eM at hf
  split at hf
  · exact hf.elim
  · rename_i ds0 e0
    obtain ⟨a, xs0, e1, _, _, h0, _⟩ := w.cell e0
    refine ⟨_, e1, .inl ⟨rfl, _, SqL.of h0⟩, ?_⟩
    refine h (fk_fin (Q := Q)) w hf fun vs ds s' G' H' sb w' rs _ f => ?_
    split at f
    · exact f.elim
    · rename_i dsc ec
      obtain ⟨a', xs, e2, g, l, hx, rx, _⟩ := w'.cell ec
      rw [e1] at e2; cases e2
      split at f
      · exact f.elim
      · rename_i d ds' ep
        refine pr G' H' a xs dsc vs ds d ds' Q w'.sub hx rx rs ep fun v ys dv dy => ?_
        exact f v G' _ (Sub.refl _) (w'.putc ec e1 dy) dv
theorem se_meth0 {i : Nat} {e : Expr} {r : V → List V → Hp → VK → Prop} {p : List D → List D → Option (D × List D)} 
    (hp : ∀ z, PE (X z) e (tBM0 K "list" r (tVar i))) (pr : PrimM K r p) : SE X K E e (eM i [] p) := by
  refine ⟨_, hp, fun io L G σ s H Q w hf => ?_⟩
  unfold eM at hf
  split at hf
  · exact hf.elim
  · rename_i ds0 e0
    have hf' : Fin K E io L σ G Q (match s.cell i with
      | none => .stuck
      | some ds => match p ds [] with
        | none => .stuck
        | some (d, ds') => .ok (.val d) (s.putc i ds')) := hf
    obtain ⟨a, xs0, e1, _, _, h0, rx, _⟩ := w.cell e0
    refine ⟨_, e1, .inl ⟨rfl, _, SqL.of h0⟩, ?_⟩
    rw [e0] at hf'
    cases ep : p ds0 [] with
    | none => simp only [ep] at hf'; exact hf'.elim
    | some z =>
      obtain ⟨d, ds'⟩ := z
      simp only [ep] at hf'
      refine pr G H a xs0 ds0 [] [] d ds' Q w.sub h0 rx .nil ep fun v ys dv dy => ?_
      exact hf' v G _ (Sub.refl _) (w.putc e0 e1 dy) dv
/-- x[k] = e, x a slot's list (or the box) -/
def setAt (ds : List D) (k : D) (x : D) : Option (List D) := match k with
  | .int n => (ixN ds.length n).map fun j => ds.set j x
  | _ => none
def sSetIx (i : Nat) (fe fk : M D) : M Fl := mbind fe fun x s => match s.cell i with
  | none => .stuck
  | some _ => mbind fk (fun k s' => match s'.cell i with
    | none => .stuck
    | some ds => match setAt ds k x with
      | none => .stuck
      | some ds' => .ok .nx (s'.putc i ds')) s
theorem ss_setIx {i : Nat} {st : Stmt} {e k : Expr} {fe fk : M D} (he : SV X K E e fe) (hk : SV X K E k fk) (hp : ∀ te tk, (∀ z, PE (X z) e te) → (∀ z, PE (X z) k tk) → ∀ z, PS (X z) st (tAsg te (gSub (tVar i) tk rSetL))) : SS X K E st (sSetIx i fe fk) := by
  obtain ⟨te, pe, he⟩ := he.use
  obtain ⟨tk, pk, hk⟩ := hk.use
  refine ⟨_, hp te tk pe pk, fun io L G σ s H A w hf => ?_⟩
  refine he (fk_finS (A := A)) w hf fun v x s1 G1 H1 sb1 w1 dp1 f1 => ?_
  split at f1
  · exact f1.elim
  · rename_i ds0 e0
    obtain ⟨a, xs0, e1, _⟩ := w1.cell e0
    refine ⟨_, e1, ?_⟩
    refine hk (fk_finS (A := A)) w1 f1 fun u y s2 G2 H2 sb2 w2 dp2 f2 => ?_
    split at f2
    · exact f2.elim
    · rename_i ds ec
      obtain ⟨a', xs, e2, g, l, hx, rx, _⟩ := w2.cell ec
      rw [e1] at e2; cases e2
      split at f2
      · exact f2.elim
      · rename_i ds' ep
        unfold setAt at ep
        split at ep
        · rename_i n
          cases dp2
          cases ej : ixN ds.length n with
          | none => rw [ej] at ep; cases ep
          | some j =>
            rw [ej] at ep; cases ep
            refine ⟨a, xs, n, j, rfl, rfl, hx, by rw [rx.length]; exact ej, ?_⟩
            exact f2 _ G2 _ (Sub.refl _) (w2.putc ec e1 (DqAll.set (sb2.dp dp1) j rx))
        · cases ep
/-- x[k] += e of ints -/
def rGetL : V → V → Hp → VK → Prop := fun o i H Q => ∃ p xs k v, o = .ref p ∧ i = .int k ∧ H p = some (.lst xs) ∧ atI xs k = some v ∧ Q v H
def sAugIx (i : Nat) (fk fe : M D) (g : Int → Int → Int) : M Fl := fun s => match s.cell i with
  | none => .stuck
  | some _ => mbind fk (fun k s1 => match s1.cell i with
    | none => .stuck
    | some ds => match k with
      | .int n => match atI ds n with
        | some (.int x) => mbind fe (fun y s2 => match y with
          | .int y => match s2.cell i with
            | none => .stuck
            | some es => match setAt es (.int n) (.int (g x y)) with
              | none => .stuck
              | some es' => .ok .nx (s2.putc i es')
          | _ => .stuck) s1
        | _ => .stuck
      | _ => .stuck) s
theorem atI_dp {K : PySem.W.Frag} {G : Hp} {xs : List V} {ds : List D} {n : Int} {d : D} (h : DqAll K G xs ds) (e : atI ds n = some d) : ∃ v, atI xs n = some v ∧ Dq K G v d := by
  unfold atI at e ⊢
  rw [h.length]
  cases ej : ixN ds.length n with
  | none => rw [ej] at e; cases e
  | some j =>
    rw [ej] at e
    exact h.get (i := j) e
theorem ss_augIx {i : Nat} {st : Stmt} {e k : Expr} {fe fk : M D} {g : Int → Int → Int} (he : SV X K E e fe) (hk : SV X K E k fk) (hp : ∀ te tk, (∀ z, PE (X z) e te) → (∀ z, PE (X z) k tk) → ∀ z, PS (X z) st (tAugS (tVar i) tk te rGetL (ipI g) rSetL)) : SS X K E st (sAugIx i fk fe g) := by
  obtain ⟨te, pe, he⟩ := he.use
  obtain ⟨tk, pk, hk⟩ := hk.use
  refine ⟨_, hp te tk pe pk, fun io L G σ s H A w hf => ?_⟩
  unfold sAugIx at hf
  split at hf
  · exact hf.elim
  · rename_i ds0 e0
    obtain ⟨a, xs0, e1, _⟩ := w.cell e0
    refine ⟨_, e1, ?_⟩
    refine hk (fk_finS (A := A)) w hf fun v k s1 G1 H1 sb1 w1 dp1 f1 => ?_
    simp only at f1
    split at f1
    · exact f1.elim
    · rename_i ds ec
      obtain ⟨a', xs, e2, _, _, hx, rx, _⟩ := w1.cell ec
      rw [e1] at e2; cases e2
      split at f1
      · rename_i n
        cases dp1
        split at f1
        · rename_i x ex
          obtain ⟨vx, hvx, dvx⟩ := atI_dp rx ex
          cases dvx
          refine ⟨a, xs, n, .int x, rfl, rfl, hx, hvx, ?_⟩
          refine he (fk_finS (A := A)) w1 f1 fun u y s2 G2 H2 sb2 w2 dp2 f2 => ?_
          split at f2
          · rename_i y
            cases dp2
            split at f2
            · exact f2.elim
            · rename_i es ec2
              obtain ⟨a', ys, e2, g', l, hy, ry, _⟩ := w2.cell ec2
              rw [e1] at e2; cases e2
              split at f2
              · exact f2.elim
              · rename_i es' ep
                unfold setAt at ep
                simp only at ep
                cases ej : ixN es.length n with
                | none => rw [ej] at ep; cases ep
                | some j =>
                  rw [ej] at ep; cases ep
                  refine ⟨x, y, rfl, rfl, a, ys, n, j, rfl, rfl, hy, by rw [ry.length]; exact ej, ?_⟩
                  exact f2 _ G2 _ (Sub.refl _) (w2.putc ec2 e1 (DqAll.set (.int _) j ry))
          · exact f2.elim
        · exact f1.elim
      · exact f1.elim
/-- x += e, ints -/
def sAug (i : Nat) (f : M D) (g : Int → Int → Int) : M Fl := fun s => match s.env[i]? with
  | some (some (Sl.val (.int x))) => mbind f (fun y s' => match y with
    | .int y => .ok .nx (s'.setv i (.int (g x y)))
    | _ => .stuck) s
  | _ => .stuck
theorem ss_aug {i : Nat} {st : Stmt} {e : Expr} {f : M D} {g : Int → Int → Int} (he : SV X K E e f) (hp : ∀ te, (∀ z, PE (X z) e te) → ∀ z, PS (X z) st (tAug i te (ipI g))) : SS X K E st (sAug i f g) := by
  obtain ⟨te, pe, he⟩ := he.use
  refine ⟨_, hp te pe, fun io L G σ s H A w hf => ?_⟩
  unfold sAug at hf
  split at hf
  · rename_i x q
    obtain ⟨v, e1, r⟩ := w.vals i _ q
    cases r
    refine ⟨_, e1, ?_⟩
    refine he (fk_finS (A := A)) w hf fun u y s' G' H' sb w' dp f => ?_
    split at f
    · rename_i y
      cases dp
      exact ⟨x, y, rfl, rfl, f _ G' H' (Sub.refl _) (w'.setv (.int _))⟩
    · exact f.elim
  · exact hf.elim

/-! ### several at once -/
inductive Hold (K : PySem.W.Frag) (io : Option Addr) (G : Hp) (σ : L2.St) (s : S) (H : Hp) : Hp → List V → List R → Prop
  | nil {L : Hp} : Wd K io L G σ s H → Hold K io G σ s H L [] []
  | val {L : Hp} {v : V} {d : D} {vs : List V} {rs : List R} : Dq K G v d → Hold K io G σ s H L vs rs → Hold K io G σ s H L (v :: vs) (.val d :: rs)
  | new {L : Hp} {a : Addr} {o : HO} {c : C} {vs : List V} {rs : List R} : L a = none → RepC K G o c → Hold K io G σ s H (upd L a o) vs rs → Hold K io G σ s H L (.ref a :: vs) (.new c :: rs)
def evr {β : Type} : List (M R) → (List R → M β) → M β
  | [], k => k []
  | f :: fs, k => mbind f fun x => evr fs fun xs => k (x :: xs)
theorem FK.up {K : PySem.W.Frag} {E : WW} {io : Option Addr} {L : Hp} {σ : L2.St} {β : Type} {F : Hp → Out β → Prop} {a : Addr} {o : HO} (h : FK K E io L σ F) (hL : L a = none) : FK K E io (upd L a o) σ F :=
  ⟨h.stuck, fun z dx v G H sb w => h.exc z dx v G H sb (w.drop hL), h.mono⟩
structure SAr {ι : Type} (X : ι → Cx) (K : PySem.W.Frag) (E : WW) (es : List Expr) (fs : List (M R)) : Prop where
  ex : ∃ t, (∀ i, PA (X i) es t) ∧ ∀ {β : Type} {F : Hp → Out β → Prop} {k : List R → M β} {io L G σ s H} {Q : List V → Hp → Prop}, FK K E io L σ F → Wd K io L G σ s H → F G (evr fs k s) →
    (∀ vs rs s' G' H', Sub G G' → Hold K io G' σ s' H' L vs rs → F G' (k rs s') → Q vs H') → t σ H Q
theorem sar_nil : SAr X K E [] [] := ⟨_, fun _ => pa_nil, fun {β F k io L G σ s H Q} fk w hf hq => hq [] [] s G H (Sub.refl _) (.nil w) hf⟩
theorem sar_cons {e : Expr} {es : List Expr} {f : M R} {fs : List (M R)} (h1 : SE X K E e f) (h2 : SAr X K E es fs) (hs : ∀ z, starEach (e :: es) (X z).env = (false, eval e (X z).env) :: starEach es (X z).env := by intro _; rfl) : SAr X K E (e :: es) (f :: fs) := by
  obtain ⟨t, pe, h1⟩ := h1.use
  obtain ⟨u, pa, h2⟩ := h2.ex
  refine ⟨_, fun z => pa_cons (pe z) (pa z) (hs z), fun {β F k io L G σ s H Q} fk w hf hq => ?_⟩
  refine h1 fk w hf (fun v d s1 G1 H1 sb1 w1 dp f1 => ?_) fun a o c s1 G1 H1 sb1 hL w1 rc f1 => ?_
  · refine h2 fk w1 f1 fun vs rs s2 G2 H2 sb2 hd f2 => ?_
    exact hq _ _ s2 G2 H2 (sb1.trans sb2) (.val (sb2.dp dp) hd) f2
  · refine h2 (fk.up hL) w1 f1 fun vs rs s2 G2 H2 sb2 hd f2 => ?_
    exact hq _ _ s2 G2 H2 (sb1.trans sb2) (.new hL (sb2.repC rc) hd) f2
def setAll (σ : L2.St) : List Nat → List V → L2.St
  | i :: is, v :: vs => (setAll σ is vs).set i (some v)
  | _, _ => σ
def S.putAll (s : S) : List Nat → List R → S
  | i :: is, r :: rs => (s.putAll is rs).put i r
  | _, _ => s
theorem Hold.put {K : PySem.W.Frag} {io : Option Addr} {G H L : Hp} {σ : L2.St} {s : S} {vs : List V} {rs : List R} (h : Hold K io G σ s H L vs rs) : ∀ {is : List Nat}, is.length = vs.length → Wd K io L G (setAll σ is vs) (s.putAll is rs) H := by
  induction h with
  | nil w =>
    intro is hl
    cases is with
    | nil => exact w
    | cons i is => cases hl
  | val dp _ ih =>
    intro is hl
    cases is with
    | nil => cases hl
    | cons i is => exact (ih (Nat.succ.inj hl)).setv dp
  | new hL rc _ ih =>
    intro is hl
    cases is with
    | nil => cases hl
    | cons i is => exact (ih (Nat.succ.inj hl)).seto hL rc
theorem Hold.len {K : PySem.W.Frag} {io : Option Addr} {G H L : Hp} {σ : L2.St} {s : S} {vs : List V} {rs : List R} (h : Hold K io G σ s H L vs rs) : vs.length = rs.length := by
  induction h with
  | nil => rfl
  | val _ _ ih => simp [ih]
  | new _ _ _ ih => simp [ih]
theorem setAll_out {σ : L2.St} {i : Nat} {x : Option V} : ∀ {is : List Nat} {vs : List V}, i ∉ is → setAll (σ.set i x) is vs = (setAll σ is vs).set i x
  | [], vs, _ => by unfold setAll; rfl
  | j :: is, [], _ => by unfold setAll; rfl
  | j :: is, v :: vs, h => by
    show (setAll (σ.set i x) is vs).set j (some v) = ((setAll σ is vs).set j (some v)).set i x
    rw [setAll_out (fun z => h (List.mem_cons_of_mem _ z)), List.set_comm]
    exact fun e => h (by rw [e]; exact List.mem_cons_self)
def sPar (is : List Nat) (fs : List (M R)) : M Fl := evr fs fun rs s => if rs.length = is.length then .ok .nx (s.putAll is rs) else .stuck
theorem ss_parA {st : Stmt} {es : List Expr} {i j : Nat} {fs : List (M R)} (hij : i ≠ j) (ha : SAr X K E es fs) (hp : ∀ t, (∀ z, PA (X z) es t) → ∀ z, PS (X z) st (tPar i j t)) : SS X K E st (sPar [i, j] fs) := by
  obtain ⟨t, pa, h⟩ := ha.ex
  refine ⟨_, hp t pa, fun io L G σ s H A w hf => ?_⟩
  refine h (fk_finS (A := A)) w hf fun vs rs s' G' H' sb hd f => ?_
  split at f
  · rename_i hl
    have hl2 := hd.len.trans hl
    match vs, hl2, hd with
    | [v, u], _, hd =>
      have w' := hd.put (is := [i, j]) rfl
      refine ⟨v, u, rfl, ?_⟩
      rw [List.set_comm _ _ hij]
      exact f _ G' H' (Sub.refl _) w'
  · exact f.elim
theorem ss_parB {st : Stmt} {es : List Expr} {i j l : Nat} {fs : List (M R)} (hij : i ≠ j) (hil : i ≠ l) (hjl : j ≠ l) (ha : SAr X K E es fs) (hp : ∀ t, (∀ z, PA (X z) es t) → ∀ z, PS (X z) st (tPar3 i j l t)) : SS X K E st (sPar [i, j, l] fs) := by
  obtain ⟨t, pa, h⟩ := ha.ex
  refine ⟨_, hp t pa, fun io L G σ s H A w hf => ?_⟩
  refine h (fk_finS (A := A)) w hf fun vs rs s' G' H' sb hd f => ?_
  split at f
  · rename_i hl
    have hl2 := hd.len.trans hl
    match vs, hl2, hd with
    | [v, u, x], _, hd =>
      have w' := hd.put (is := [i, j, l]) rfl
      refine ⟨v, u, x, rfl, ?_⟩
      have e : ((σ.set i (some v)).set j (some u)).set l (some x) = setAll σ [i, j, l] [v, u, x] := by
        show _ = ((σ.set l (some x)).set j (some u)).set i (some v)
        rw [List.set_comm _ _ hij, List.set_comm _ _ hil, List.set_comm _ _ hjl]
      rw [e]
      exact f _ G' H' (Sub.refl _) w'
  · exact f.elim
/-- what a target of names does -/
def gNames : List Nat → TGs
  | [] => gNil
  | i :: is => gCons (gName i) (gNames is)
theorem gNames_of {is : List Nat} (nd : is.Nodup) : ∀ {vs : List V} {σ : L2.St} {H : Hp} {Q : L2.St → Hp → Prop}, vs.length = is.length → Q (setAll σ is vs) H → gNames is vs σ H Q := by
  induction is with
  | nil =>
    intro vs σ H Q hl q
    cases vs with
    | nil => exact ⟨rfl, q⟩
    | cons v vs => cases hl
  | cons i is ih =>
    intro vs σ H Q hl q
    cases vs with
    | nil => cases hl
    | cons v vs =>
      refine ⟨v, vs, rfl, ?_⟩
      refine ih (List.nodup_cons.mp nd).2 (Nat.succ.inj hl) ?_
      rw [setAll_out (List.nodup_cons.mp nd).1]
      exact q
theorem ss_parC {st : Stmt} {es : List Expr} {is : List Nat} {fs : List (M R)} (nd : is.Nodup) (hz : is.length ≤ sizeLine) (ha : SAr X K E es fs) (hp : ∀ t, (∀ z, PA (X z) es t) → ∀ z, PS (X z) st (tAsg (tTup t) (gTup K is.length (gNames is)))) : SS X K E st (sPar is fs) := by
  obtain ⟨t, pa, h⟩ := ha.ex
  refine ⟨_, hp t pa, fun io L G σ s H A w hf => ?_⟩
  refine h (fk_finS (A := A)) w hf fun vs rs s' G' H' sb hd f => ?_
  split at f
  · rename_i hl
    have hl2 := hd.len.trans hl
    have w' := hd.put (is := is) hl2.symm
    refine ⟨by rw [hl2]; exact hz, fun p hp => ⟨p, vs, rfl, SqT.of upd_same, hl2, gNames_of nd hl2 ?_⟩⟩
    exact f _ _ _ (Sub.new (w'.sub.none hp)) (w'.grow hp)
  · exact f.elim
end
end L3

namespace L3
open PySem PySem.Spec PyProof.Rows L2
open Sem (wp)
open AutoSeq1 (wpAny_loadPart')

theorem meets_enumerate_newT (l : Addr) (items : Array Value) (n : Nat) (dct : Option Addr) (sl : Array (Option Value)) :
    Meets (Builtin.«enumerate.__new__» ⟨[.type "enumerate", .ref l], []⟩) (fun _ R s => s.heap.get? l = some { cls := .type "tuple", dict := dct, data := .seq items n, slots := sl } ∧
      R (.ok (.ret (.ref (s.heap.push { cls := .type "tuple_iterator", data := .fields #[.ref l, .int 0 0] }).objs.size)))
        { s with heap := (s.heap.push { cls := .type "tuple_iterator", data := .fields #[.ref l, .int 0 0] }).push { cls := .type "enumerate", data := .fields #[.none, .bool false, .ref s.heap.objs.size, rawInt 0, .none, .none] } }) :=
  .of_wp fun prog w A R s h => by
    obtain ⟨hp, g, d, tk, os⟩ := s; obtain ⟨hl, h⟩ := h
    have hsub := sub_enumerate
    have hL : Heap.IsTuple (Shared.heap ⟨hp, g, d, tk, os⟩) l items := ⟨_, hl, rfl, n, rfl⟩
    wp_walk using wpAny_loadPart' hl
    refine wpAny_stack_any fun st => wpAny_pure ?_
    split
    · rename_i c _ _ _ _ _
      cases (c == Value.type "enumerate")
      · wp_walk using wpAny_loadPart' hl, wpAny_pyIter_tuple hL
        exact ⟨_, rfl, h⟩
      · wp_walk using wpAny_loadPart' hl, wpAny_pyIter_tuple hL
        exact ⟨_, rfl, h⟩
    · wp_walk using wpAny_loadPart' hl, wpAny_pyIter_tuple hL
      exact ⟨_, rfl, h⟩

theorem call_enumerate_tuple {prog : Program} {w : World} {A : Around} {E : Value → Shared → Prop} {s : Shared} {l : Addr} {items : Array Value} {Q : Value → Shared → Prop} (hL : s.heap.IsTuple l items)
    (h : ∀ h', IsEnum h' (s.heap.objs.size + 1) s.heap.objs.size 0 .none → h'.IsTupleIter s.heap.objs.size l 0 → h'.objs.size = s.heap.objs.size + 2 →
      (∀ b o, s.heap.get? b = some o → h'.get? b = some o) → Q (.ref (s.heap.objs.size + 1)) { s with heap := h' }) :
    wpAny (model prog w) A (call (.type "enumerate") [.ref l]) Q E s := by
  obtain ⟨⟨c, dct, dt, sl⟩, hl, hc, n, hd⟩ := hL
  replace hc : c = .type "tuple" := hc
  replace hd : dt = .seq items n := hd
  subst hc hd
  refine callType_new F.called_enumerate (by decide) (F.typeCall_enumerate_1 _) (F.newCall_enumerate_1 _) (fun obj => F.args_object_init_2 obj _) F.entry_enumerate_new
    (meets_enumerate_newT l items n dct sl) ⟨hl, ?_⟩
  have hz : (s.heap.push { cls := .type "tuple_iterator", data := .fields #[.ref l, .int 0 0] }).objs.size = s.heap.objs.size + 1 := Heap.size_push ..
  show _ ∧ _
  rw [hz]
  have he : IsEnum ((s.heap.push { cls := .type "tuple_iterator", data := .fields #[.ref l, .int 0 0] }).push
      { cls := .type "enumerate", data := .fields #[.none, .bool false, .ref s.heap.objs.size, rawInt 0, .none, .none] }) (s.heap.objs.size + 1) s.heap.objs.size 0 .none := by
    have := Heap.get?_push_size (s.heap.push { cls := .type "tuple_iterator", data := .fields #[.ref l, .int 0 0] })
      (o := { cls := .type "enumerate", data := .fields #[.none, .bool false, .ref s.heap.objs.size, rawInt 0, .none, .none] }) rfl
    rw [hz] at this; exact this
  refine ⟨⟨_, he, rfl⟩, h _ he ⟨_, Heap.get?_push_of_some _ (Heap.get?_push_size _ rfl), rfl, rfl⟩ (by rw [Heap.size_push, hz]) fun b o x => Heap.get?_push_of_some _ (Heap.get?_push_of_some _ x)⟩

/-- the tuple at a, each item in a new pair -/
def IteT (K : PySem.W.Frag) (a : Addr) : It :=
  ⟨fun i H => ∃ (xs : List V) (x : V), SqT K H a xs ∧ xs[i]? = some x, fun i H v H' => ∃ T x, v = .ref T ∧ H T = none ∧ H' = upd H T (.tup [.int (i : Nat), x]) ∧ ∀ xs, SqT K H a xs → xs[i]? = some x, fun i H => ∃ xs : List V, SqT K H a xs ∧ xs.length ≤ i⟩
theorem turn_enumT {P : Program} {w : World} {K : PySem.W.Frag} {elts : List Expr} {kk : Nat} {tpos : Pos} (a e it : Addr) :
    Turn P w K (.Tuple elts kk tpos) (IteT K a) [e, it] e (fun i h => (∃ old, IsEnum h e it ((i : Nat) : Int) old) ∧ h.IsTupleIter it a i ∧ e ≠ it ∧ a ≠ e ∧ a ≠ it) where
  mem := by simp
  obj := fun i h st b hb => by
    obtain ⟨⟨old, he⟩, ⟨o, ho, hc, hd⟩, _⟩ := st
    have e' : b = e ∨ b = it := by simpa using hb
    rcases e' with z | z
    · rw [z]; exact ⟨_, he, fun v q => nomatch q⟩
    · rw [z]; exact ⟨o, ho, fun v q => by rw [hd] at q; cases q⟩
  keep := fun i h h' st k => let ⟨⟨old, he⟩, hi, hne⟩ := st; ⟨⟨old, k e (by simp) _ he⟩, hi.at fun o q => k it (by simp) o q, hne⟩
  item := by
    intro X hP hw hK hc i pins s σ H E I hf st hg
    subst hP hw hK
    obtain ⟨⟨old, he⟩, hit, hne, hae, hai⟩ := st
    obtain ⟨xs, x, hq, hx⟩ := hg
    obtain ⟨its, rv, p, hz⟩ := I.tuple hq
    obtain ⟨u, hu, ru⟩ := rv.get hx
    have hel : e < s.heap.objs.size := Heap.lt_size he
    have hil : it < s.heap.objs.size := by obtain ⟨_, q, _⟩ := hit; exact Heap.lt_size q
    have hlt : i < its.toArray.size := by
      have := (List.getElem?_eq_some_iff.mp hu).1
      simpa using this
    refine wpAny_pyNext_enum_itemD (Draws.tuple (show X.A.in1.handled = none from I.ok.hd hc) it a hai its.toArray) he ⟨hit, p⟩ hlt hne (by simp [hne, Ne.symm hae]) fun y h' tk hy ho st' hT hsz hk => ?_
    have hyu : y = u := by
      have h1 : its.toArray[i]? = some y := hy
      have h2 : its.toArray[i]? = some u := by simpa using hu
      rw [h1] at h2; exact Option.some.inj h2
    subst hyu
    refine ⟨_, rfl, wpAny_letOwnedTupleGo_enum (s := { s with heap := h', toks := tk + 1 }) ho fun h'' he' sb => ?_⟩
    have hT2 : h''.get? s.heap.objs.size = some { cls := .type "tuple", data := .seq #[.int i tk, y] } := (sb.2 _ (Nat.ne_of_gt hel)).trans hT
    have new : ObjOk X.prog X.w (upd H s.heap.objs.size (.tup [.int (i : Nat), x])) h'' s.heap.objs.size (.tup [.int (i : Nat), x]) :=
      ⟨by show 2 ≤ sizeLine; decide, [.int i tk, y], .cons ⟨_, rfl⟩ (.cons ru .nil), ⟨_, hT2, rfl, _, rfl⟩⟩
    have I1 : Inv X pins σ (upd H s.heap.objs.size (.tup [.int (i : Nat), x])) { s with heap := h'', toks := tk + 1 } :=
      I.turnedNew (ch := [e, it]) (fun b ob hb q => (sb.2 b (fun z => hb (by simp [z]))).trans (hk b ob (fun z => hb (by simp [z])) (fun z => hb (by simp [z])) q)) hf (Nat.le_refl _) new
    refine ⟨.ref s.heap.objs.size, _, I1, rfl, ⟨_, x, rfl, I.hok.fresh (Nat.le_refl _), rfl, fun ys hy => by rw [I.tuple_inj hy hq]; exact hx⟩, ⟨⟨y, ?_⟩, st'.1.at fun o q => (sb.2 it (Ne.symm hne)).trans q, hne, hae, hai⟩, fun b hb => ?_⟩
    · have e1 : ((i + 1 : Nat) : Int) = (i : Int) + 1 := by omega
      rw [e1]; exact he'
    · have hb' : b < s.heap.objs.size := by
        have e' : b = e ∨ b = it := by simpa using hb
        rcases e' with z | z
        · rw [z]; exact hel
        · rw [z]; exact hil
      rw [upd_ne (Nat.ne_of_lt hb')]
      exact (hf b hb).1
  done := by
    intro X hP hw hK hc i pins s σ H E I hf st hg
    subst hP hw hK
    obtain ⟨⟨old, he⟩, hit, hne, hae, hai⟩ := st
    obtain ⟨xs, hq, hx⟩ := hg
    obtain ⟨its, rv, p, hz⟩ := I.tuple hq
    obtain ⟨f0, f1, f2, f3, f4, f5⟩ := hf it (by simp)
    have hl := rv.length
    unfold pyNext
    have hT : s.TypeIs (.ref e) "enumerate" := ⟨_, he, rfl⟩
    refine wpAny_bind (wpAny_attempt (wpAny_callSpecial?_slot (name := Str.ofString "__next__") hT F.slot_enumerate_next
      (wpAny_call_entry F.slot_enumerate_next hT F.entry_enumerate_next ?_ (F.args_enumerate_next_1 _))))
    show wpAny _ _ (field (.ref e) 2 >>= _) _ _ _
    refine wpAny_bind (wpAny_field he rfl (x := .ref it) rfl ?_)
    refine wpAny_bind (RZ.nextOf_tuple_end (show X.A.in1.handled = none from I.ok.hd hc) hit (show s.heap.IsTuple a its.toArray from p) (by simp; omega) fun h' x he' hx' => ?_)
    obtain ⟨o, ho, hcl⟩ := hx'
    refine wpAny_bind (wpAny_isInstance (T := "StopIteration") (b := true) ⟨o, ho, hcl⟩ isSubtype_stop ?_)
    exact wpAny_pure ⟨rfl, I.turned (t' := s.toks) (fun b o hb q => he' b o hb q) f0 f1 f3 f4 f5⟩
  self := fun A i s Q E st h => let ⟨⟨_, he⟩, _⟩ := st; wpAny_pyIter_enum he h
def iEnumA (K : PySem.W.Frag) (ta : TA) : TI := fun σ H R => ta σ H fun vs H1 => ∃ a xs, vs = [.ref a] ∧ ((SqL K H1 a xs ∧ R (Ite K a) H1) ∨ (SqT K H1 a xs ∧ R (IteT K a) H1))
theorem pi_enumA {X : Cx} {e : Expr} {ta : TA} {p pos tpos : Pos} {elts : List Expr} {kk : Nat} (hg : Gl X "enumerate") (hm : X.mg "enumerate" = none) (ha : PA X [e] ta) (hs : starEach [e] X.env = [(false, eval e X.env)] := by rfl) :
    PI X (.Tuple elts kk tpos) (.Call (.Name "enumerate" p) [e] [] pos) (iEnumA X.K ta) := by
  refine ⟨fun pins s σ H R I h => ?_⟩
  refine Call_ (ld_blt I hg hm boot_enumerate (PyProof.Rows.callWith_type1 (thn (ha.run pos pins s σ H _ I h) fun us s1 ⟨vs, H1, I1, r1, q1⟩ => ?_) hs rfl))
  obtain ⟨a, xs, ex, q1⟩ := q1
  subst ex
  cases r1 with
  | cons r rr =>
    cases rr
    cases r
    have fresh2 : ∀ b, b ∈ [s1.heap.objs.size + 1, s1.heap.objs.size] → FpOk X pins H1 b := fun b hb => by
      have e' : b = s1.heap.objs.size + 1 ∨ b = s1.heap.objs.size := by simpa using hb
      have hle : s1.heap.objs.size ≤ b := by
        rcases e' with z | z
        · rw [z]; exact Nat.le_add_right _ _
        · rw [z]; exact Nat.le_refl _
      exact I1.fpOk hle (I1.hok.fresh hle)
    rcases q1 with ⟨hq, q⟩ | ⟨hq, q⟩
    · obtain ⟨its, rv, p', hz⟩ := I1.list hq
      refine call_enumerate_list p'.isList fun h' he hit hsz hk => wpAny_pyIter_enum he ?_
      have I2 : Inv X pins σ H1 { s1 with heap := h' } := I1.kept (t' := s1.toks) hk
      exact ⟨s1.heap.objs.size + 1, [s1.heap.objs.size + 1, s1.heap.objs.size], _, _, H1, rfl, I2, turn_enum a (s1.heap.objs.size + 1) s1.heap.objs.size, ⟨⟨.none, he⟩, hit, Nat.succ_ne_self _⟩, fresh2, q⟩
    · obtain ⟨its, rv, p', hz⟩ := I1.tuple hq
      have hal : a < s1.heap.objs.size := by obtain ⟨o, ho, _⟩ := id p'; exact Heap.lt_size ho
      refine call_enumerate_tuple (show s1.heap.IsTuple a its.toArray from p') fun h' he hit hsz hk => wpAny_pyIter_enum he ?_
      have I2 : Inv X pins σ H1 { s1 with heap := h' } := I1.kept (t' := s1.toks) hk
      exact ⟨s1.heap.objs.size + 1, [s1.heap.objs.size + 1, s1.heap.objs.size], _, _, H1, rfl, I2, turn_enumT a (s1.heap.objs.size + 1) s1.heap.objs.size, ⟨⟨.none, he⟩, hit, Nat.succ_ne_self _, Nat.ne_of_lt (Nat.lt_succ_of_lt hal), Nat.ne_of_lt hal⟩, fresh2, q⟩
end L3

namespace L3
open PySem PySem.Spec PyProof.Rows L2

/-! ### what is walked -/
inductive Yl (K : PySem.W.Frag) (G H : Hp) : V → Hp → D → Prop
  | same {x : V} {d : D} : Dq K G x d → Yl K G H x H d
  | tup {T : Addr} {xs : List V} {es : List D} : H T = none → DqAll K G xs es → Yl K G H (.ref T) (upd H T (.tup xs)) (.tuple es)
structure ItOk (K : PySem.W.Frag) (G : Hp) (J : It) (ds : List D) : Prop where
  go : ∀ i H, Sub G H → i < ds.length → J.go i H
  yld : ∀ i H x H', Sub G H → i < ds.length → J.yld i H x H' → ∃ d, ds[i]? = some d ∧ Yl K G H x H' d
  stop : ∀ i H, Sub G H → ds.length ≤ i → J.stop i H
theorem Yl.wd {K : PySem.W.Frag} {io : Option Addr} {L G G1 H H' : Hp} {σ : L2.St} {s : S} {x : V} {d : D} (y : Yl K G H x H' d) (sb : Sub G G1) (w : Wd K io L G1 σ s H) : ∃ G2, Sub G1 G2 ∧ Wd K io L G2 σ s H' ∧ Dq K G2 x d := by
  cases y with
  | same r => exact ⟨G1, Sub.refl _, w, sb.dp r⟩
  | tup hn r =>
    rename_i T xs es
    have s1 : Sub G1 (upd G1 T (.tup xs)) := Sub.new (w.sub.none hn)
    exact ⟨_, s1, w.grow hn, .tup (SqT.of upd_same) (s1.dpAll (sb.dpAll r))⟩
section
variable {K : PySem.W.Frag} {G : Hp} {a b : Addr} {xs ys : List V} {ds es : List D}
theorem itok_list (h : SqL K G a xs) (r : DqAll K G xs ds) : ItOk K G (Itl K a) ds where
  go := fun i H sb hi => by
    have hx : i < xs.length := by rw [r.length]; exact hi
    exact ⟨xs, xs[i], sb.l h, List.getElem?_eq_getElem hx⟩
  yld := fun i H x H' sb _ y => by
    obtain ⟨e, y⟩ := y
    subst e
    obtain ⟨d, e1, dp⟩ := r.get' (y xs (sb.l h))
    exact ⟨d, e1, .same dp⟩
  stop := fun i H sb hi => ⟨xs, sb.l h, by rw [r.length]; exact hi⟩
theorem itok_tup (h : SqT K G a xs) (r : DqAll K G xs ds) : ItOk K G (Itt K a) ds where
  go := fun i H sb hi => by
    have hx : i < xs.length := by rw [r.length]; exact hi
    exact ⟨xs, xs[i], sb.t h, List.getElem?_eq_getElem hx⟩
  yld := fun i H x H' sb _ y => by
    obtain ⟨e, y⟩ := y
    subst e
    obtain ⟨d, e1, dp⟩ := r.get' (y xs (sb.t h))
    exact ⟨d, e1, .same dp⟩
  stop := fun i H sb hi => ⟨xs, sb.t h, by rw [r.length]; exact hi⟩
def dRange (lo : Int) (n : Nat) : List D := (List.range n).map fun (i : Nat) => PyData.int (lo + (i : Int))
theorem itok_range (lo : Int) (n : Nat) : ItOk K G (Itr lo n) (dRange lo n) where
  go := fun i H sb hi => by
    have : i < n := by simpa [dRange] using hi
    exact this
  yld := fun i H x H' sb hi y => by
    obtain ⟨e, e2⟩ := y
    subst e e2
    have hn : i < n := by simpa [dRange] using hi
    exact ⟨.int (lo + (i : Int)), by simp [dRange, hn], .same (.int _)⟩
  stop := fun i H sb hi => by
    have : n ≤ i := by simpa [dRange] using hi
    exact this
def dEnum (ds : List D) : List D := (List.range ds.length).zipWith (fun (i : Nat) d => PyData.tuple [.int (i : Int), d]) ds
theorem dEnum_get {ds : List D} {i : Nat} {d : D} (h : ds[i]? = some d) : (dEnum ds)[i]? = some (.tuple [.int (i : Int), d]) := by
  obtain ⟨hi, _⟩ := List.getElem?_eq_some_iff.mp h
  unfold dEnum
  rw [List.getElem?_zipWith, List.getElem?_range hi, h]
theorem dEnum_len {ds : List D} : (dEnum ds).length = ds.length := by unfold dEnum; simp
theorem itok_enumL (h : SqL K G a xs) (r : DqAll K G xs ds) : ItOk K G (Ite K a) (dEnum ds) where
  go := fun i H sb hi => by
    rw [dEnum_len] at hi
    have hx : i < xs.length := by rw [r.length]; exact hi
    exact ⟨xs, xs[i], sb.l h, List.getElem?_eq_getElem hx⟩
  yld := fun i H x H' sb _ y => by
    obtain ⟨T, u, e1, hn, e2, y⟩ := y
    subst e1 e2
    obtain ⟨d, e1, dp⟩ := r.get' (y xs (sb.l h))
    exact ⟨_, dEnum_get e1, .tup hn (.cons (.int _) (.cons dp .nil))⟩
  stop := fun i H sb hi => ⟨xs, sb.l h, by rw [r.length]; rw [dEnum_len] at hi; exact hi⟩
theorem itok_enumT (h : SqT K G a xs) (r : DqAll K G xs ds) : ItOk K G (IteT K a) (dEnum ds) where
  go := fun i H sb hi => by
    rw [dEnum_len] at hi
    have hx : i < xs.length := by rw [r.length]; exact hi
    exact ⟨xs, xs[i], sb.t h, List.getElem?_eq_getElem hx⟩
  yld := fun i H x H' sb _ y => by
    obtain ⟨T, u, e1, hn, e2, y⟩ := y
    subst e1 e2
    obtain ⟨d, e1, dp⟩ := r.get' (y xs (sb.t h))
    exact ⟨_, dEnum_get e1, .tup hn (.cons (.int _) (.cons dp .nil))⟩
  stop := fun i H sb hi => ⟨xs, sb.t h, by rw [r.length]; rw [dEnum_len] at hi; exact hi⟩
def dZip (ds es : List D) : List D := ds.zipWith (fun d e => PyData.tuple [d, e]) es
theorem dZip_get {ds es : List D} {i : Nat} {d e : D} (h : ds[i]? = some d) (h' : es[i]? = some e) : (dZip ds es)[i]? = some (.tuple [d, e]) := by
  unfold dZip
  rw [List.getElem?_zipWith, h, h']
theorem dZip_len {ds es : List D} : (dZip ds es).length = min ds.length es.length := by unfold dZip; simp
theorem itok_zipL (h : SqL K G a xs) (r : DqAll K G xs ds) (h' : SqL K G b ys) (r' : DqAll K G ys es) : ItOk K G (Itz K a b) (dZip ds es) where
  go := fun i H sb hi => by
    rw [dZip_len] at hi
    have hx : i < xs.length := by rw [r.length]; omega
    have hy : i < ys.length := by rw [r'.length]; omega
    exact ⟨xs, ys, xs[i], ys[i], sb.l h, sb.l h', List.getElem?_eq_getElem hx, List.getElem?_eq_getElem hy⟩
  yld := fun i H x H' sb _ y => by
    obtain ⟨T, u, u', e1, hn, e2, y, y'⟩ := y
    subst e1 e2
    obtain ⟨d, e1, dp⟩ := r.get' (y xs (sb.l h))
    obtain ⟨e, e2, dp'⟩ := r'.get' (y' ys (sb.l h'))
    exact ⟨_, dZip_get e1 e2, .tup hn (.cons dp (.cons dp' .nil))⟩
  stop := fun i H sb hi => ⟨xs, ys, sb.l h, sb.l h', by rw [dZip_len] at hi; rw [r.length, r'.length]; omega⟩
theorem itok_zipT (h : SqT K G a xs) (r : DqAll K G xs ds) (h' : SqT K G b ys) (r' : DqAll K G ys es) : ItOk K G (RZ.ItzT K a b) (dZip ds es) where
  go := fun i H sb hi => by
    rw [dZip_len] at hi
    have hx : i < xs.length := by rw [r.length]; omega
    have hy : i < ys.length := by rw [r'.length]; omega
    exact ⟨xs, ys, xs[i], ys[i], sb.t h, sb.t h', List.getElem?_eq_getElem hx, List.getElem?_eq_getElem hy⟩
  yld := fun i H x H' sb _ y => by
    obtain ⟨T, u, u', e1, hn, e2, y, y'⟩ := y
    subst e1 e2
    obtain ⟨d, e1, dp⟩ := r.get' (y xs (sb.t h))
    obtain ⟨e, e2, dp'⟩ := r'.get' (y' ys (sb.t h'))
    exact ⟨_, dZip_get e1 e2, .tup hn (.cons dp (.cons dp' .nil))⟩
  stop := fun i H sb hi => ⟨xs, ys, sb.t h, sb.t h', by rw [dZip_len] at hi; rw [r.length, r'.length]; omega⟩
end

structure SI {ι : Type} (X : ι → Cx) (K : PySem.W.Frag) (E : WW) (tg iter : Expr) (f : M (List D)) : Prop where
  ex : ∃ wi, (∀ i, PI (X i) tg iter wi) ∧ ∀ {β : Type} {F : Hp → Out β → Prop} {k : List D → M β} {io L G σ s H} {R : It → Hp → Prop}, FK K E io L σ F → Wd K io L G σ s H → F G (mbind f k s) →
    (∀ J ds s' G' H', Sub G G' → Wd K io L G' σ s' H' → ItOk K G' J ds → F G' (k ds s') → R J H') → wi σ H R
section
variable {ι : Type} {X : ι → Cx} {K : PySem.W.Frag} {E : WW} {tg e e2 : Expr}
def iSeq (K : PySem.W.Frag) (te : TE) : TI := fun σ H R => te σ H fun x H1 => ∃ a, x = .ref a ∧ ((∃ xs, SqL K H1 a xs ∧ R (Itl K a) H1) ∨ (∃ xs, SqT K H1 a xs ∧ R (Itt K a) H1))
theorem pi_seq {X : Cx} {tg : Expr} {l : Expr} {tl : TE} (hl : PE X l tl) : PI X tg l (iSeq X.K tl) := by
  refine ⟨fun pins s σ H R I h => ?_⟩
  refine thn (hl.run pins s σ H _ I h) fun v s1 ⟨x, H1, I1, r1, q1⟩ => ?_
  obtain ⟨a, e, q⟩ := q1
  subst e
  cases r1
  have fr : ∀ b, b ∈ [s1.heap.objs.size] → FpOk X pins H1 b := fun b hb => by
    have e : b = s1.heap.objs.size := by simpa using hb
    subst e
    exact I1.fpOk (Nat.le_refl _) (I1.hok.fresh (Nat.le_refl _))
  rcases q with ⟨xs, hq, q⟩ | ⟨xs, hq, q⟩
  · obtain ⟨its, rv, p, hz⟩ := I1.list hq
    refine wpAny_pyIter_list p.isList ?_
    exact ⟨s1.heap.objs.size, [s1.heap.objs.size], _, _, H1, rfl, I1.kept (t' := s1.toks) fun b o e => Heap.get?_push_of_some _ e, turn_list a _, ⟨_, Heap.get?_push_size _ rfl, rfl, rfl⟩, fr, q⟩
  · obtain ⟨its, rv, p, hz⟩ := I1.tuple hq
    refine wpAny_pyIter_tuple (show s1.heap.IsTuple a its.toArray from p) ?_
    exact ⟨s1.heap.objs.size, [s1.heap.objs.size], _, _, H1, rfl, I1.kept (t' := s1.toks) fun b o e => Heap.get?_push_of_some _ e, turn_tuple a _, ⟨_, Heap.get?_push_size _ rfl, rfl, rfl⟩, fr, q⟩
/-- the items of a list or a tuple -/
def itemsM : D → M (List D)
  | .list ds => mret ds
  | .tuple ds => mret ds
  | .dict kvs => mret (kvs.map (·.2))
  | _ => mstuck
def iVal (f : M D) : M (List D) := mbind f itemsM
theorem iVal_use {β : Type} {f : M D} {g : D → M (List D)} {k : List D → M β} {s : S} : mbind (mbind f g) k s = mbind f (fun d => mbind (g d) k) s := by
  unfold mbind
  cases f s <;> rfl
theorem si_val {f : M D} (hK : ∀ z, (X z).K = K) (h : SV X K E e f) : SI X K E tg e (iVal f) := by
  obtain ⟨t, pe, h⟩ := h.use
  refine ⟨_, fun z => hK z ▸ pi_seq (pe z), fun {β F k io L G σ s H R} fk w hf hq => ?_⟩
  unfold iVal at hf
  rw [iVal_use] at hf
  refine h fk w hf fun v d s' G' H' sb w' dp f => ?_
  match d, dp, f with
  | .list ds, dp, f =>
    cases dp with
    | lst h1 h2 => exact ⟨_, rfl, .inl ⟨_, SqL.of (w'.sub _ _ h1), hq _ ds s' G' H' sb w' (itok_list (SqL.of h1) h2) f⟩⟩
  | .tuple ds, dp, f =>
    cases dp with
    | tup h1 h2 => exact ⟨_, rfl, .inr ⟨_, w'.sub.t h1, hq _ ds s' G' H' sb w' (itok_tup h1 h2) f⟩⟩
  | .none, dp, f => exact (fk.stuck f).elim
  | .bool _, dp, f => exact (fk.stuck f).elim
  | .int _, dp, f => exact (fk.stuck f).elim
  | .str _, dp, f => exact (fk.stuck f).elim
  | .dict kvs, dp, f =>
    cases dp with
    | scr ns h1 => exact ⟨_, rfl, .inl ⟨_, w'.sub.l h1, hq _ _ s' G' H' sb w' (itok_list h1 (DqAll.ints ns)) (by
      have e : itemsM (.dict (ns.map fun n => (PyData.none, PyData.int n))) = mret (ns.map PyData.int) := by
        show mret ((ns.map fun n => (PyData.none, PyData.int n)).map (·.2)) = _
        rw [List.map_map]; rfl
      rw [e] at f; exact f)⟩⟩
def rng1 : List D → M (List D)
  | [.int j] => if j.natAbs < 2 ^ 62 then mret (dRange 0 j.toNat) else mstuck
  | _ => mstuck
def rng2 : List D → M (List D)
  | [.int i, .int j] => if i.natAbs < 2 ^ 62 ∧ j.natAbs < 2 ^ 62 then mret (dRange i (j - i).toNat) else mstuck
  | _ => mstuck
theorem mbind_assoc {α β γ : Type} (f : M α) (g : α → M β) (k : β → M γ) : mbind (mbind f g) k = mbind f fun a => mbind (g a) k := by
  funext s
  unfold mbind
  cases f s <;> rfl
theorem evs_bind {β γ : Type} (fs : List (M D)) : ∀ (g : List D → M β) (k : β → M γ), mbind (evs fs g) k = evs fs (fun ds => mbind (g ds) k) := by
  induction fs with
  | nil => intro g k; rfl
  | cons f fs ih =>
    intro g k
    show mbind (mbind f fun x => evs fs fun xs => g (x :: xs)) k = mbind f fun x => evs fs fun xs => mbind (g (x :: xs)) k
    rw [mbind_assoc]
    congr 1
    funext d
    exact ih _ _
theorem si_range1 {a : Expr} {fs : List (M D)} {p pos : Pos} (hg : ∀ z, Gl (X z) "range") (hm : ∀ z, (X z).mg "range" = none) (ha : SAv X K E [a] fs) (hs : ∀ z, starEach [a] (X z).env = [(false, eval a (X z).env)] := by intro _; rfl) : SI X K E tg (.Call (.Name "range" p) [a] [] pos) (evs fs rng1) := by
  obtain ⟨t, pa, h⟩ := ha.ex
  refine ⟨_, fun z => pi_range1 (hg z) (hm z) (pa z) (hs z), fun {β F k io L G σ s H R} fk w hf hq => ?_⟩
  rw [evs_bind] at hf
  refine h fk w hf fun vs ds s' G' H' sb w' dp _ f => ?_
  unfold rng1 at f
  split at f
  · rename_i j _
    split at f
    · rename_i hj
      cases dp with
      | cons d1 d2 => cases d1; cases d2; exact ⟨j, rfl, by omega, by omega, hq _ _ s' G' H' sb w' (itok_range 0 _) f⟩
    · exact (fk.stuck f).elim
  · exact (fk.stuck f).elim
theorem si_range2 {a b : Expr} {fs : List (M D)} {p pos : Pos} (hg : ∀ z, Gl (X z) "range") (hm : ∀ z, (X z).mg "range" = none) (ha : SAv X K E [a, b] fs) (hs : ∀ z, starEach [a, b] (X z).env = [(false, eval a (X z).env), (false, eval b (X z).env)] := by intro _; rfl) (hs2 : ∀ z, starEach [b] (X z).env = [(false, eval b (X z).env)] := by intro _; rfl) : SI X K E tg (.Call (.Name "range" p) [a, b] [] pos) (evs fs rng2) := by
  obtain ⟨t, pa, h⟩ := ha.ex
  refine ⟨_, fun z => pi_range2 (hg z) (hm z) (pa z) (hs z) (hs2 z), fun {β F k io L G σ s H R} fk w hf hq => ?_⟩
  rw [evs_bind] at hf
  refine h fk w hf fun vs ds s' G' H' sb w' dp _ f => ?_
  unfold rng2 at f
  split at f
  · rename_i i j _
    split at f
    · rename_i hj
      cases dp with
      | cons d1 d2 => cases d2 with | cons d2 d3 => cases d1; cases d2; cases d3; exact ⟨i, j, rfl, ⟨by omega, by omega, by omega, by omega⟩, hq _ _ s' G' H' sb w' (itok_range i _) f⟩
    · exact (fk.stuck f).elim
  · exact (fk.stuck f).elim
def enM : List D → M (List D)
  | [.list ds] => mret (dEnum ds)
  | [.tuple ds] => mret (dEnum ds)
  | _ => mstuck
theorem si_enum {a : Expr} {fs : List (M D)} {p pos tpos : Pos} {elts : List Expr} {kk : Nat} (hK : ∀ z, (X z).K = K) (hg : ∀ z, Gl (X z) "enumerate") (hm : ∀ z, (X z).mg "enumerate" = none) (ha : SAv X K E [a] fs) (hs : ∀ z, starEach [a] (X z).env = [(false, eval a (X z).env)] := by intro _; rfl) : SI X K E (.Tuple elts kk tpos) (.Call (.Name "enumerate" p) [a] [] pos) (evs fs enM) := by
  obtain ⟨t, pa, h⟩ := ha.ex
  refine ⟨_, fun z => hK z ▸ pi_enumA (hg z) (hm z) (pa z) (hs z), fun {β F k io L G σ s H R} fk w hf hq => ?_⟩
  rw [evs_bind] at hf
  refine h fk w hf fun vs ds s' G' H' sb w' dp _ f => ?_
  unfold enM at f
  split at f
  · cases dp with
    | cons d1 d2 => cases d2; cases d1 with | lst h1 h2 => exact ⟨_, _, rfl, .inl ⟨SqL.of (w'.sub _ _ h1), hq _ _ s' G' H' sb w' (itok_enumL (SqL.of h1) h2) f⟩⟩
  · cases dp with
    | cons d1 d2 => cases d2; cases d1 with | tup h1 h2 => exact ⟨_, _, rfl, .inr ⟨w'.sub.t h1, hq _ _ s' G' H' sb w' (itok_enumT h1 h2) f⟩⟩
  · exact (fk.stuck f).elim
def zipM : List D → M (List D)
  | [.list ds, .list es] => mret (dZip ds es)
  | [.tuple ds, .tuple es] => mret (dZip ds es)
  | _ => mstuck
theorem si_zip {a b : Expr} {fs : List (M D)} {p pos tpos : Pos} {elts : List Expr} {kk : Nat} (hK : ∀ z, (X z).K = K) (hg : ∀ z, Gl (X z) "zip") (hm : ∀ z, (X z).mg "zip" = none) (ha : SAv X K E [a, b] fs) (hs : ∀ z, starEach [a, b] (X z).env = (false, eval a (X z).env) :: starEach [b] (X z).env := by intro _; rfl) (hpl : ∀ z, (backTo pos (starEach [b] (X z).env)).any (·.1) = false := by intro _; rfl) :
    SI X K E (.Tuple elts kk tpos) (.Call (.Name "zip" p) [a, b] [] pos) (evs fs zipM) := by
  obtain ⟨t, pa, h⟩ := ha.ex
  refine ⟨_, fun z => hK z ▸ RZ.pi_zipA (hg z) (hm z) (pa z) (hs z) (hpl z), fun {β F k io L G σ s H R} fk w hf hq => ?_⟩
  rw [evs_bind] at hf
  refine h fk w hf fun vs ds s' G' H' sb w' dp _ f => ?_
  unfold zipM at f
  split at f
  · cases dp with
    | cons d1 d2 => cases d2 with | cons d2 d3 => cases d3; cases d1 with | lst h1 h2 => cases d2 with | lst h3 h4 => exact ⟨_, _, _, _, rfl, .inl ⟨SqL.of (w'.sub _ _ h1), SqL.of (w'.sub _ _ h3), hq _ _ s' G' H' sb w' (itok_zipL (SqL.of h1) h2 (SqL.of h3) h4) f⟩⟩
  · cases dp with
    | cons d1 d2 => cases d2 with | cons d2 d3 => cases d3; cases d1 with | tup h1 h2 => cases d2 with | tup h3 h4 => exact ⟨_, _, _, _, rfl, .inr ⟨w'.sub.t h1, w'.sub.t h3, hq _ _ s' G' H' sb w' (itok_zipT h1 h2 h3 h4) f⟩⟩
  · exact (fk.stuck f).elim
end
end L3

namespace L3
open PySem PySem.Spec PyProof.Rows L2

/-! ### targets -/
structure SG {ι : Type} (X : ι → Cx) (K : PySem.W.Frag) (tg : Expr) (is : List Nat) (g : D → S → Option S) : Prop where
  ex : ∃ t, (∀ z, PG (X z) tg t) ∧ ∀ {io L G σ s H v d s'} {Q : L2.St → Hp → Prop}, Wd K io L G σ s H → Dq K G v d → g d s = some s' →
    (∀ σ', (∀ j, j ∉ is → σ'[j]? = σ[j]?) → σ'.length = σ.length → Wd K io L G σ' s' H → Q σ' H) → t v σ H Q
def gN (i : Nat) : D → S → Option S := fun d s => some (s.setv i d)
def S.setvs (s : S) : List Nat → List D → S
  | i :: is, d :: ds => (s.setv i d).setvs is ds
  | _, _ => s
def gT (is : List Nat) : D → S → Option S := fun d s => match d with
  | .tuple ds => if ds.length = is.length then some (s.setvs is ds) else none
  | _ => none
section
variable {ι : Type} {X : ι → Cx} {K : PySem.W.Frag} {E : WW} {tg : Expr}
theorem sg_name {i : Nat} (h : ∀ z, PG (X z) tg (gName i)) : SG X K tg [i] (gN i) := by
  refine ⟨_, h, fun {io L G σ s H v d s' Q} w dp e hq => ?_⟩
  cases e
  exact hq _ (fun j hj => List.getElem?_set_ne (fun e => hj (by rw [e]; exact List.mem_singleton.mpr rfl))) List.length_set (w.setv dp)
theorem gNames_wd {io : Option Addr} {L G H : Hp} {Q : L2.St → Hp → Prop} : ∀ {is : List Nat} {vs : List V} {ds : List D} {σ : L2.St} {s : S}, Wd K io L G σ s H → DqAll K G vs ds → ds.length = is.length →
    (∀ σ', (∀ j, j ∉ is → σ'[j]? = σ[j]?) → σ'.length = σ.length → Wd K io L G σ' (s.setvs is ds) H → Q σ' H) → gNames is vs σ H Q
  | [], vs, [], σ, s, w, dp, hl, hq => by
    cases dp
    exact ⟨rfl, hq σ (fun _ _ => rfl) rfl w⟩
  | i :: is, vs, d :: ds, σ, s, w, dp, hl, hq => by
    cases dp with
    | cons d1 d2 =>
      refine ⟨_, _, rfl, ?_⟩
      refine gNames_wd (w.setv d1) d2 (Nat.succ.inj hl) fun σ' h1 h2 w' => hq σ' (fun j hj => ?_) (h2.trans List.length_set) w'
      rw [h1 j (fun z => hj (List.mem_cons_of_mem _ z)), List.getElem?_set_ne (fun e => hj (by rw [e]; exact List.mem_cons_self))]
  | [], _, _ :: _, _, _, _, _, hl, _ => by cases hl
  | _ :: _, _, [], _, _, _, _, hl, _ => by cases hl
theorem sg_tup {is : List Nat} (h : ∀ z, PG (X z) tg (gTup K is.length (gNames is))) : SG X K tg is (gT is) := by
  refine ⟨_, h, fun {io L G σ s H v d s' Q} w dp e hq => ?_⟩
  unfold gT at e
  split at e
  · rename_i ds
    split at e
    · rename_i hl
      cases e
      cases dp with
      | tup h1 h2 => exact ⟨_, _, rfl, w.sub.t h1, h2.length.trans hl, gNames_wd w h2 hl hq⟩
    · cases e
  · cases e

/-! ### for -/
def loopK (o : Out Fl) (k : M Fl) : Out Fl := match o with
  | .ok .nx s => k s
  | .ok .ct s => k s
  | .ok .bk s => .ok .nx s
  | o => o
def forL (g : D → S → Option S) (b : M Fl) : List D → M Fl
  | [] => mret .nx
  | d :: ds => fun s => match g d s with
    | none => .stuck
    | some s1 => loopK (b s1) (forL g b ds)
def sFor (it : M (List D)) (g : D → S → Option S) (b : M Fl) : M Fl := mbind it (forL g b)
theorem loopK_fin {io : Option Addr} {L G : Hp} {A : Ends} {N : L2.St → Hp → Prop} {o : Out Fl} {k : M Fl} (h : FinS K E io L G A (loopK o k))
    (hN : ∀ σ s G' H, Sub G G' → Wd K io L G' σ s H → FinS K E io L G' A (k s) → N σ H) : FinS K E io L G { A with nx := N, ct := N, bk := A.nx } o := by
  match o, h with
  | .ok .nx s, h => exact fun σ G' H sb w => hN σ s G' H sb w (FinS.mono sb h)
  | .ok .ct s, h => exact fun σ G' H sb w => hN σ s G' H sb w (FinS.mono sb h)
  | .ok .bk s, h => exact h
  | .ok (.rt (.val d)) s, h => exact h
  | .ok (.rt (.new c)) s, h => exact h
  | .exc c d s, h => exact h
theorem ss_for {iter : Expr} {body : List Stmt} {pos : Pos} {it : M (List D)} {is : List Nat} {g : D → S → Option S} {b : M Fl} (hp : ∀ z, PassesOwn (model (X z).prog (X z).w) (X z).A (X z).env (X z).xe) (hc : ∀ z, (X z).calm = true)
    (hi : SI X K E tg iter it) (hg : SG X K tg is g) (hb : SB X K E body b) (hs : ∀ z x, foldedSetIterable iter (X z).env x = pure x := by intro _ _; rfl) : SS X K E (.For tg iter body [] pos) (sFor it g b) := by
  obtain ⟨wi, pi, hi⟩ := hi.ex
  obtain ⟨tgt, pg, hg⟩ := hg.ex
  obtain ⟨tb, pb, hb⟩ := hb.ex
  refine ⟨_, fun z => ps_for (hp z) (hc z) (pi z) (pg z) (pb z) (hs z), fun io L G σ s H A w hf => ?_⟩
  refine hi (fk_finS (A := A)) w hf fun J ds s0 G0 H0 sb0 w0 ok f0 => ?_
  refine ⟨fun i m σ H => m = ds.length - i ∧ i ≤ ds.length ∧ ∃ s G, Sub G0 G ∧ Wd K io L G σ s H ∧ FinS K E io L G A (forL g b (ds.drop i) s), ⟨ds.length, by simp, Nat.zero_le _, s0, G0, Sub.refl _, w0, f0⟩, ?_⟩
  rintro i m σ H ⟨rfl, hil, s, G, sb, w, f⟩
  by_cases hlt : i < ds.length
  · refine .inr ⟨ok.go i H (sb.trans w.sub) hlt, fun σ H => i + 1 ≤ ds.length ∧ ∃ s G, Sub G0 G ∧ Wd K io L G σ s H ∧ FinS K E io L G A (forL g b (ds.drop (i + 1)) s), fun σ' H' h => ⟨ds.length - (i + 1), by omega, rfl, h⟩, fun x H' y => ?_⟩
    obtain ⟨d, e, yl⟩ := ok.yld i H x H' (sb.trans w.sub) hlt y
    obtain ⟨G2, sb2, w2, dp⟩ := yl.wd sb w
    have ed : ds.drop i = d :: ds.drop (i + 1) := by
      rw [List.drop_eq_getElem_cons hlt]
      obtain ⟨_, e2⟩ := List.getElem?_eq_some_iff.mp e
      rw [e2]
    rw [ed] at f
    have f : FinS K E io L G A (match g d s with | none => .stuck | some s1 => loopK (b s1) (forL g b (ds.drop (i + 1)))) := f
    cases eg : g d s with
    | none => rw [eg] at f; exact f.elim
    | some s1 =>
      rw [eg] at f
      refine hg w2 dp eg fun σ' _ _ w3 => ?_
      refine hb io L G2 σ' s1 H' _ w3 (loopK_fin (FinS.mono sb2 f) fun σ4 s4 G4 H4 sb4 w4 f4 => ⟨hlt, s4, G4, (sb.trans sb2).trans sb4, w4, f4⟩)
  · have e : i = ds.length := by omega
    subst e
    rw [List.drop_length] at f
    exact .inl ⟨ok.stop _ H (sb.trans w.sub) (Nat.le_refl _), f σ G H (Sub.refl _) w⟩

/-! ### while -/
def whileN (c : M Bool) (b : M Fl) : Nat → M Fl
  | 0 => mstuck
  | n + 1 => mbind c fun x => if x then (fun s => loopK (b s) (whileN c b n)) else mret .nx
theorem whileN_up {c : M Bool} {b : M Fl} : ∀ {n : Nat} {s : S}, whileN c b n s ≠ .stuck → whileN c b (n + 1) s = whileN c b n s
  | 0, s, h => absurd rfl h
  | n + 1, s, h => by
    show mbind c _ s = mbind c _ s
    have h : mbind c (fun x => if x then (fun s => loopK (b s) (whileN c b n)) else mret .nx) s ≠ .stuck := h
    unfold mbind at h ⊢
    cases e : c s with
    | stuck => rfl
    | exc c d s' => rfl
    | ok x s' =>
      rw [e] at h
      simp only at h ⊢
      cases x with
      | false => rfl
      | true =>
        have h : loopK (b s') (whileN c b n) ≠ .stuck := h
        show loopK (b s') (whileN c b (n + 1)) = loopK (b s') (whileN c b n)
        cases e2 : b s' with
        | stuck => rfl
        | exc c d s' => rfl
        | ok fl s2 =>
          rw [e2] at h
          match fl, h with
          | .nx, h => exact whileN_up (s := s2) h
          | .ct, h => exact whileN_up (s := s2) h
          | .bk, _ => rfl
          | .rt _, _ => rfl
theorem whileN_more {c : M Bool} {b : M Fl} {n : Nat} {s : S} (h : whileN c b n s ≠ .stuck) : ∀ k, whileN c b (n + k) s = whileN c b n s
  | 0 => rfl
  | k + 1 => by
    have ih := whileN_more h k
    show whileN c b (n + k + 1) s = _
    rw [whileN_up (by rw [ih]; exact h), ih]
open Classical in
noncomputable def sWhile (c : M Bool) (b : M Fl) : M Fl := fun s => if h : ∃ n, whileN c b n s ≠ .stuck then whileN c b h.choose s else .stuck
theorem sWhile_of {c : M Bool} {b : M Fl} {n : Nat} {s : S} (h : whileN c b n s ≠ .stuck) : sWhile c b s = whileN c b n s := by
  have hx : ∃ n, whileN c b n s ≠ .stuck := ⟨n, h⟩
  unfold sWhile
  rw [dif_pos hx]
  have h2 := hx.choose_spec
  rcases Nat.le_total hx.choose n with q | q
  · have := whileN_more h2 (n - hx.choose)
    rw [← this]; congr 1; omega
  · have := whileN_more h (hx.choose - n)
    rw [← this]; congr 1; omega
theorem ss_while {c : Expr} {body : List Stmt} {pos : Pos} {fc : M Bool} {b : M Fl} (hp : ∀ z, PassesOwn (model (X z).prog (X z).w) (X z).A (X z).env (X z).xe) (hc : ST X K E c fc) (hb : SB X K E body b) : SS X K E (.While c body [] pos) (sWhile fc b) := by
  obtain ⟨t, pt, h⟩ := hc.use
  obtain ⟨tb, pb, hb⟩ := hb.ex
  refine ⟨_, fun z => ps_while (hp z) (pt z) (pb z), fun io L G0 σ s H A w hf => ?_⟩
  have hx : ∃ n, FinS K E io L G0 A (whileN fc b n s) := by
    unfold sWhile at hf
    split at hf
    · rename_i hx; exact ⟨_, hf⟩
    · exact hf.elim
  obtain ⟨n, hf⟩ := hx
  refine ⟨fun m σ H => ∃ s G, Sub G0 G ∧ Wd K io L G σ s H ∧ FinS K E io L G A (whileN fc b m s), ⟨n, s, G0, Sub.refl _, w, hf⟩, ?_⟩
  rintro m σ H ⟨s, G, sb, w, f⟩
  cases m with
  | zero => exact f.elim
  | succ m =>
    refine h (fk_finS (A := A)) w f fun x s1 G1 H1 sb1 w1 f1 => ?_
    cases x with
    | false => exact iteF (f1 σ G1 H1 (Sub.refl _) w1)
    | true =>
      refine iteT ⟨fun σ' H' => ∃ s G, Sub G0 G ∧ Wd K io L G σ' s H' ∧ FinS K E io L G A (whileN fc b m s), fun σ' H' h => ⟨m, Nat.lt_succ_self _, h⟩, ?_⟩
      exact hb io L G1 σ s1 H1 _ w1 (loopK_fin f1 fun σ4 s4 G4 H4 sb4 w4 f4 => ⟨s4, G4, (sb.trans sb1).trans sb4, w4, f4⟩)
end
end L3

namespace L3
open PySem PySem.Spec PyProof.Rows L2

/-! ### comprehensions -/
def wipeE (env : List (Option Sl)) : List Nat → List (Option Sl)
  | [] => env
  | v :: vs => (wipeE env vs).set v none
def S.wipe (s : S) (vs : List Nat) : S := { s with env := wipeE s.env vs }
def slotOf (env : List (Option Sl)) (v : Nat) : Option Sl := match env[v]? with
  | some x => x
  | none => none
def backE (env0 : List (Option Sl)) (env : List (Option Sl)) : List Nat → List (Option Sl)
  | [] => env
  | v :: vs => backE env0 (env.set v (slotOf env0 v)) vs
/-- a comprehension's own names are as they were -/
def S.back (s : S) (s0 : S) (vs : List Nat) : S := { s with env := backE s0.env s.env vs }
def okSlot : Option (Option Sl) → Bool
  | some (some (Sl.own _)) => false
  | some (some Sl.io) => false
  | some (some (Sl.stk _)) => false
  | some (some (Sl.top _)) => false
  | _ => true
def S.clean (s : S) (vs : List Nat) : Bool := vs.all fun v => okSlot s.env[v]?

section
variable {K : PySem.W.Frag} {io : Option Addr} {L G G0 H H0 : Hp} {σ : L2.St} {s s0 : S}
theorem Wd.wipe1 {v : Nat} (w : Wd K io L G σ s H) : Wd K io L G (σ.set v none) (s.drop v) H :=
  w.gone _ List.length_set (fun j x hj e => by rw [List.getElem?_set_ne (Ne.symm hj)]; exact e) fun j hj => List.getElem?_set_ne (Ne.symm hj)
theorem wipeE_len {env : List (Option Sl)} : ∀ {vs : List Nat}, (wipeE env vs).length = env.length
  | [] => rfl
  | v :: vs => by show ((wipeE env vs).set v none).length = _; rw [List.length_set, wipeE_len]
theorem Wd.wipe : ∀ {vs : List Nat}, Wd K io L G σ s H → Wd K io L G (L2.wipe σ vs) (s.wipe vs) H
  | [], w => w
  | v :: vs, w => (Wd.wipe (vs := vs) w).wipe1
theorem wipe_at {σ : L2.St} {j : Nat} : ∀ {vs : List Nat}, j ∉ vs → (L2.wipe σ vs)[j]? = σ[j]?
  | [], _ => rfl
  | v :: vs, h => by
    show ((L2.wipe σ vs).set v none)[j]? = σ[j]?
    rw [List.getElem?_set_ne (fun e => h (by rw [e]; exact List.mem_cons_self)), wipe_at (fun z => h (List.mem_cons_of_mem _ z))]
theorem wipe_len {σ : L2.St} : ∀ {vs : List Nat}, (L2.wipe σ vs).length = σ.length
  | [] => rfl
  | v :: vs => by show ((L2.wipe σ vs).set v none).length = _; rw [List.length_set, wipe_len]
theorem wipeE_at {env : List (Option Sl)} {j : Nat} : ∀ {vs : List Nat}, j ∉ vs → (wipeE env vs)[j]? = env[j]?
  | [], _ => rfl
  | v :: vs, h => by
    show ((wipeE env vs).set v none)[j]? = env[j]?
    rw [List.getElem?_set_ne (fun e => h (by rw [e]; exact List.mem_cons_self)), wipeE_at (fun z => h (List.mem_cons_of_mem _ z))]
/-- one of the names again as it was -/
theorem Wd.back1 {v : Nat} {σ' : L2.St} (w : Wd K io L G σ s H) (w0 : Wd K io L G0 σ' s0 H0) (sb : Sub G0 G) (hc : okSlot s0.env[v]? = true) : Wd K io L G (σ.set v (σ'[v]?.getD none)) { s with env := s.env.set v (slotOf s0.env v) } H := by
  have w1 : Wd K io L G (σ.set v (σ'[v]?.getD none)) (s.drop v) H :=
    w.gone _ List.length_set (fun j x hj e => by rw [List.getElem?_set_ne (Ne.symm hj)]; exact e) fun j hj => List.getElem?_set_ne (Ne.symm hj)
  unfold slotOf
  cases e : s0.env[v]? with
  | none => exact w1
  | some x =>
    cases x with
    | none => exact w1
    | some x =>
      cases x with
      | val d =>
        obtain ⟨u, eu, dp⟩ := w0.vals v d e
        have w2 := w.setv (i := v) (sb.dp dp)
        rw [eu]
        exact w2
      | own c => rw [e] at hc; cases hc
      | io => rw [e] at hc; cases hc
      | stk _ => rw [e] at hc; cases hc
      | top _ => rw [e] at hc; cases hc
def backS (σ' : L2.St) (σ : L2.St) : List Nat → L2.St
  | [] => σ
  | v :: vs => backS σ' (σ.set v (σ'[v]?.getD none)) vs
theorem Wd.backs {σ' : L2.St} (w0 : Wd K io L G0 σ' s0 H0) (sb : Sub G0 G) : ∀ {vs : List Nat} {σ : L2.St} {s : S}, Wd K io L G σ s H → s0.clean vs = true → Wd K io L G (backS σ' σ vs) (s.back s0 vs) H
  | [], σ, s, w, _ => w
  | v :: vs, σ, s, w, hc => by
    have hc' : okSlot s0.env[v]? = true ∧ s0.clean vs = true := by
      unfold S.clean at hc ⊢
      rw [List.all_cons, Bool.and_eq_true] at hc
      exact hc
    exact Wd.backs (vs := vs) (σ := σ.set v (σ'[v]?.getD none)) (s := { s with env := s.env.set v (slotOf s0.env v) }) w0 sb (w.back1 w0 sb hc'.1) hc'.2
theorem backS_len {σ' : L2.St} : ∀ {vs : List Nat} {σ : L2.St}, (backS σ' σ vs).length = σ.length
  | [], _ => rfl
  | v :: vs, σ => by show (backS σ' (σ.set v _) vs).length = _; rw [backS_len, List.length_set]
theorem backS_at {σ' : L2.St} {j : Nat} : ∀ {vs : List Nat} {σ : L2.St}, (j ∈ vs ∨ σ[j]? = σ'[j]?) → σ.length = σ'.length → (backS σ' σ vs)[j]? = σ'[j]?
  | [], σ, h, _ => h.elim (fun z => by cases z) id
  | v :: vs, σ, h, hl => by
    show (backS σ' (σ.set v _) vs)[j]? = _
    refine backS_at ?_ (by rw [List.length_set]; exact hl)
    by_cases e : v = j
    · subst e
      right
      by_cases hv : v < σ.length
      · rw [List.getElem?_set_self hv]
        rw [List.getElem?_eq_getElem (by omega)]; rfl
      · rw [List.getElem?_eq_none (by simpa using hv), List.getElem?_eq_none (by omega)]
    · rcases h with h | h
      · rcases List.mem_cons.mp h with h | h
        · exact absurd h.symm e
        · exact .inl h
      · exact .inr (by rw [List.getElem?_set_ne e]; exact h)
theorem wipe_in {σ : L2.St} {j : Nat} : ∀ {vs : List Nat}, j ∈ vs → j < σ.length → (L2.wipe σ vs)[j]? = some none
  | v :: vs, h, hl => by
    show ((L2.wipe σ vs).set v none)[j]? = some none
    by_cases e : v = j
    · subst e
      exact List.getElem?_set_self (by rw [wipe_len]; exact hl)
    · rw [List.getElem?_set_ne e]
      rcases List.mem_cons.mp h with q | q
      · exact absurd q.symm e
      · exact wipe_in q hl
theorem backS_wipe {σ : L2.St} {vs : List Nat} : backS σ (L2.wipe σ vs) vs = σ := by
  apply List.ext_getElem?
  intro j
  refine backS_at ?_ wipe_len
  by_cases h : j ∈ vs
  · exact .inl h
  · exact .inr (wipe_at h)
end

def compL (g : D → S → Option S) (c : M Bool) (f : M D) (vs : List Nat) : List D → List D → M (List D)
  | [], acc => fun s => .ok acc (s.wipe vs)
  | d :: ds, acc => fun s => match g d (s.wipe vs) with
    | none => .stuck
    | some s1 => mbind c (fun b => if b then mbind f fun x => if acc.length < sizeLine then compL g c f vs ds (acc ++ [x]) else mstuck else compL g c f vs ds acc) s1
def noExc {α : Type} : Out α → Out α
  | .exc _ _ _ => .stuck
  | o => o
/-- [f for g in it if c], vs the names of its own -/
def eComp (it : M (List D)) (vs : List Nat) (g : D → S → Option S) (c : M Bool) (f : M D) : M R := mbind it fun ds s0 => if s0.clean vs then (match compL g c f vs ds [] s0 with
  | .ok acc s => .ok (.new (.lst acc)) (s.back s0 vs)
  | _ => .stuck) else .stuck
structure STs {ι : Type} (X : ι → Cx) (K : PySem.W.Frag) (E : WW) (ifs : List Expr) (f : M Bool) : Prop where
  ex : ∃ t, (∀ i, PTs (X i) ifs t) ∧ ∀ io L G σ s H Q, Wd K io L G σ s H → FinT K E io L σ G Q (f s) → t σ H Q
section
variable {ι : Type} {X : ι → Cx} {K : PySem.W.Frag} {E : WW}
theorem sts_nil : STs X K E [] (mret true) := ⟨_, fun _ => pts_nil, fun io L G σ s H Q w hf => hf G H (Sub.refl _) w⟩
theorem sts_one {c : Expr} {f : M Bool} (h : ST X K E c f) : STs X K E [c] f := let ⟨t, p, q⟩ := h.ex; ⟨t, fun z => pts_one (p z), q⟩
theorem STs.use {ifs : List Expr} {f : M Bool} (h : STs X K E ifs f) : ∃ t, (∀ i, PTs (X i) ifs t) ∧ ∀ {β : Type} {F : Hp → Out β → Prop} {k : Bool → M β} {io L G σ s H} {Q : Bool → Hp → Prop}, FK K E io L σ F → Wd K io L G σ s H → F G (mbind f k s) →
    (∀ b s' G' H', Sub G G' → Wd K io L G' σ s' H' → F G' (k b s') → Q b H') → t σ H Q := by
  obtain ⟨t, pe, h⟩ := h.ex
  refine ⟨t, pe, fun {β F k io L G σ s H Q} fk w hf hq => h io L G σ s H Q w ?_⟩
  unfold mbind at hf
  cases e : f s with
  | stuck => rw [e] at hf; exact fk.stuck hf
  | ok d s' => rw [e] at hf; exact fun G' H' sb w' => hq d s' G' H' sb w' (fk.mono sb hf)
  | exc c d s' => rw [e] at hf; exact fk.exc hf
abbrev BI (ι : Type) : Type := ι × Shared × Hp × Addr × List (Str × Addr) × List Addr
abbrev blkX (X : ι → Cx) (scope : Scope) : BI ι → Cx := fun z => (X z.1).blk z.2.1 z.2.2.1 scope (compEnvC scope z.2.2.2.2.1 z.2.2.2.1 (X z.1).env) z.2.2.2.2.2
/-- the end of a comprehension's walk, as a chain sees it -/
def CEnd (K : PySem.W.Frag) (E : WW) (io : Option Addr) (L : Hp) (σ : L2.St) (vs : List Nat) (s0 : S) (Q : VK) (G : Hp) : Out (List D) → Prop
  | .ok acc s => Fin K E io L σ G Q (.ok (.new (.lst acc)) (s.back s0 vs))
  | _ => False
theorem cend_fk {io : Option Addr} {L L' : Hp} {σ σ' : L2.St} {vs : List Nat} {s0 : S} {Q : VK} {E' : WW} : FK K E' io L' σ' (CEnd K E io L σ vs s0 Q) :=
  ⟨fun h => h, fun h => h.elim, fun {G G' o} e h => by
    match o, h with
    | .ok acc s, h => exact Fin.mono (E := E) (o := .ok (.new (.lst acc)) (s.back s0 vs)) e h⟩
theorem comp_ex {elt tg iter : Expr} {ifs : List Expr} {scope : Scope} {own : List (Str × Nat)} {it : M (List D)} {is : List Nat} {g : D → S → Option S} {c : M Bool} {f : M D} (hi : SI X K E tg iter it)
    (hg : SG (blkX X scope) K tg is g) (his : ∀ j ∈ is, j ∈ own.map (·.2)) (ht : STs (blkX X scope) K WW0 ifs c) (he : SV (blkX X scope) K WW0 elt f) :
    ∃ wi tgt tt te, (∀ z, PI (X z) tg iter wi) ∧ (∀ z, PG (blkX X scope z) tg tgt) ∧ (∀ z, PTs (blkX X scope z) ifs tt) ∧ (∀ z, PE (blkX X scope z) elt te) ∧
      ∀ io L G σ s H Q, Wd K io L G σ s H → Fin K E io L σ G Q (eComp it (own.map (·.2)) g c f s) → tLc wi tgt tt te (own.map (·.2)) σ H Q := by
  obtain ⟨wi, pi, hi⟩ := hi.ex
  obtain ⟨tgt, pg, hg⟩ := hg.ex
  obtain ⟨tt, pt, ht⟩ := ht.use
  obtain ⟨te, pe, he⟩ := he.use
  refine ⟨wi, tgt, tt, te, pi, pg, pt, pe, fun io L G σ s H Q w hf => ?_⟩
  generalize own.map (·.2) = vs at his hf ⊢
  refine hi (fk_fin (Q := Q)) w hf fun J ds s0 G0 H0 sb0 w0 ok0 f0 => ?_
  split at f0
  · rename_i hcl
    have f0 : CEnd K E io L σ vs s0 Q G0 (compL g c f vs ds [] s0) := by
      cases e : compL g c f vs ds [] s0 with
      | stuck => rw [e] at f0; exact f0.elim
      | exc _ _ _ => rw [e] at f0; exact f0.elim
      | ok acc s => rw [e] at f0; exact f0
    intro Da hD
    have hL : L Da = none := (w0.fresh (o := .lst []) hD).1
    refine ⟨fun i m H => m = ds.length - i ∧ i ≤ ds.length ∧ ∃ s G acc xs, Sub G0 G ∧ Wd K io (upd L Da (.lst xs)) G (L2.wipe σ vs) (S.wipe s vs) H ∧ DqAll K G xs acc ∧ CEnd K E io L σ vs s0 Q G (compL g c f vs (ds.drop i) acc s), ⟨ds.length, by simp, Nat.zero_le _, s0, G0, [], [], Sub.refl _, Wd.wipe (w0.fresh hD).2, .nil, f0⟩, ?_⟩
    rintro i m H ⟨rfl, hil, s, G, acc, xs, sb, w, ra, fe⟩
    have hHD : H Da = some (.lst xs) := (w.loose Da _ upd_same).2
    by_cases hlt : i < ds.length
    · refine .inr ⟨ok0.go i H (sb.trans w.sub) hlt, fun H => i + 1 ≤ ds.length ∧ ∃ s G acc xs, Sub G0 G ∧ Wd K io (upd L Da (.lst xs)) G (L2.wipe σ vs) (S.wipe s vs) H ∧ DqAll K G xs acc ∧ CEnd K E io L σ vs s0 Q G (compL g c f vs (ds.drop (i + 1)) acc s), fun H' h => ⟨ds.length - (i + 1), by omega, rfl, h⟩, fun x H' y => ?_⟩
      obtain ⟨d, e, yl⟩ := ok0.yld i H x H' (sb.trans w.sub) hlt y
      obtain ⟨G2, sb2, w2, dp⟩ := yl.wd sb w
      have ed : ds.drop i = d :: ds.drop (i + 1) := by
        rw [List.drop_eq_getElem_cons hlt]
        obtain ⟨_, e2⟩ := List.getElem?_eq_some_iff.mp e
        rw [e2]
      rw [ed] at fe
      have fe : CEnd K E io L σ vs s0 Q G (match g d (s.wipe vs) with
        | none => .stuck
        | some s1 => mbind c (fun b => if b then mbind f fun x => if acc.length < sizeLine then compL g c f vs (ds.drop (i + 1)) (acc ++ [x]) else mstuck else compL g c f vs (ds.drop (i + 1)) acc) s1) := fe
      cases eg : g d (s.wipe vs) with
      | none => rw [eg] at fe; exact fe.elim
      | some s1 =>
        rw [eg] at fe
        refine hg w2 dp eg fun σ2 hσ hl w3 => ?_
        have ew : L2.wipe σ2 vs = L2.wipe σ vs := by
          apply List.ext_getElem?
          intro j
          by_cases hj : j ∈ vs
          · have q : ∀ (τ : L2.St), τ.length = σ.length → (L2.wipe τ vs)[j]? = if j < σ.length then some none else none := fun τ hτ => by
              by_cases hlt : j < σ.length
              · rw [if_pos hlt]; exact wipe_in hj (by omega)
              · rw [if_neg hlt, List.getElem?_eq_none (by rw [wipe_len]; omega)]
            rw [q σ2 (by rw [hl, wipe_len]), q σ rfl]
          · rw [wipe_at hj, wipe_at hj, hσ j (fun z => hj (his j z)), wipe_at hj]
        refine ⟨ew, ?_⟩
        refine ht (cend_fk (E := E) (L := L) (σ := σ) (vs := vs) (s0 := s0) (Q := Q)) w3 ((cend_fk (E' := WW0) (L' := L) (σ' := σ)).mono sb2 fe) fun b s4 G4 H4 sb4 w4 f4 => ?_
        cases b with
        | false =>
          refine iteF ⟨hlt, s4, G4, acc, xs, (sb.trans sb2).trans sb4, ?_, (sb2.trans sb4).dpAll ra, f4⟩
          rw [← ew]; exact Wd.wipe w4
        | true =>
          refine iteT (he (cend_fk (E := E) (L := L) (σ := σ) (vs := vs) (s0 := s0) (Q := Q)) w4 f4 fun v x s5 G5 H5 sb5 w5 dp5 f5 => ?_)
          split at f5
          · rename_i hsz
            have ra5 := (sb2.trans (sb4.trans sb5)).dpAll ra
            refine ⟨xs, (w5.loose Da _ upd_same).2, by rw [ra5.length]; exact hsz, hlt, s5, G5, acc ++ [x], xs ++ [v], sb.trans (sb2.trans (sb4.trans sb5)), ?_, ra5.append (.cons dp5 .nil), f5⟩
            rw [← ew]; exact Wd.wipe (w5.writeL hL)
          · exact f5.elim
    · have e : i = ds.length := by omega
      subst e
      rw [List.drop_length] at fe
      refine .inl ⟨ok0.stop _ H (sb.trans w.sub) (Nat.le_refl _), ?_⟩
      have fe : Fin K E io L σ G Q (.ok (.new (.lst acc)) ((s.wipe vs).back s0 vs)) := fe
      have wb := Wd.backs (vs := vs) (w0.fresh (o := .lst xs) hD).2 (sb) w hcl
      rw [backS_wipe] at wb
      exact fe Da _ G H (Sub.refl _) hL wb (.lst ra)
  · exact f0.elim

theorem se_comp {elt tg iter : Expr} {ifs : List Expr} {scope : Scope} {own : List (Str × Nat)} {pos : Pos} {it : M (List D)} {is : List Nat} {g : D → S → Option S} {c : M Bool} {f : M D} (hc : ∀ z, (X z).calm = true) (hN : ∀ z, (X z).N.Nodup) (hi : SI X K E tg iter it)
    (ok : ∀ z, BlkOk (X z).N (X z).env.scope scope own) (hg : SG (blkX X scope) K tg is g) (his : ∀ j ∈ is, j ∈ own.map (·.2)) (ht : STs (blkX X scope) K WW0 ifs c) (he : SV (blkX X scope) K WW0 elt f)
    (hs : ∀ z x, foldedSetIterable iter (X z).env x = pure x := by intro _ _; rfl) :
    SE X K E (.ListComp elt [⟨tg, iter, ifs, 0⟩] scope pos) (eComp it (own.map (·.2)) g c f) := by
  obtain ⟨wi, tgt, tt, te, pi, pg, pt, pe, h⟩ := comp_ex hi hg his ht he
  exact ⟨_, fun z => pe_lc (hc z) (hN z) (pi z) (ok z) (fun s H C cl fp => pg (z, s, H, C, cl, fp)) (fun s H C cl fp => pt (z, s, H, C, cl, fp)) (fun s H C cl fp => pe (z, s, H, C, cl, fp)) (hs z), h⟩
/-- name = [..] on one line, the name a local -/
theorem ss_setC {i : Nat} {y : Str} {py : Pos} {elt tg iter : Expr} {ifs : List Expr} {scope : Scope} {own : List (Str × Nat)} {pos spos : Pos} {it : M (List D)} {is : List Nat} {g : D → S → Option S} {c : M Bool} {f : M D} (hc : ∀ z, (X z).calm = true) (hN : ∀ z, (X z).N.Nodup)
    (hy : ∀ z, (X z).N[i]? = some y) (hyl : ∀ z, (X z).env.scope.names.lookup y = some .local) (hsw : ∀ z, swapsWith (.ListComp elt [⟨tg, iter, ifs, 0⟩] scope pos) (some (.Name y py)) spos.line (X z).env = pure true) (hi : SI X K E tg iter it)
    (ok : ∀ z, BlkOk (X z).N (X z).env.scope scope own) (hg : SG (blkX X scope) K tg is g) (his : ∀ j ∈ is, j ∈ own.map (·.2)) (ht : STs (blkX X scope) K WW0 ifs c) (he : SV (blkX X scope) K WW0 elt f)
    (hs : ∀ z x, foldedSetIterable iter (X z).env x = pure x := by intro _ _; rfl) :
    SS X K E (.Assign [.Name y py] (.ListComp elt [⟨tg, iter, ifs, 0⟩] scope pos) spos) (sSet i (eComp it (own.map (·.2)) g c f)) := by
  obtain ⟨wi, tgt, tt, te, pi, pg, pt, pe, h⟩ := comp_ex hi hg his ht he
  refine ⟨_, fun z => ps_setLc (hc z) (hN z) (hy z) (hyl z) (hsw z) (pi z) (ok z) (fun s H C cl fp => pg (z, s, H, C, cl, fp)) (fun s H C cl fp => pt (z, s, H, C, cl, fp)) (fun s H C cl fp => pe (z, s, H, C, cl, fp)) (hs z), fun io L G σ s H A w hf => ?_⟩
  refine h io L G σ s H _ w ?_
  unfold sSet mbind at hf
  cases e : eComp it (own.map (·.2)) g c f s with
  | stuck => rw [e] at hf; exact hf
  | exc c d s' => rw [e] at hf; exact hf σ
  | ok r s' =>
    rw [e] at hf
    match r, hf with
    | .val d, hf => exact fun v G' H' sb w' dp => hf _ G' H' sb (w'.setv dp)
    | .new c, hf => exact fun a o G' H' sb hL w' rc => hf _ G' H' sb (w'.seto hL rc)

/-! two clauses -/
def compI (g1 : D → S → Option S) (c1 : M Bool) (f : M D) (vs1 : List Nat) (k : List D → M (List D)) : List D → List D → M (List D)
  | [], acc => k acc
  | d :: ds, acc => fun s => match g1 d (s.wipe vs1) with
    | none => .stuck
    | some s1 => mbind c1 (fun b => if b then mbind f fun x => if acc.length < sizeLine then compI g1 c1 f vs1 k ds (acc ++ [x]) else mstuck else compI g1 c1 f vs1 k ds acc) s1
def compO (g : D → S → Option S) (c : M Bool) (it1 : M (List D)) (g1 : D → S → Option S) (c1 : M Bool) (f : M D) (vs vs1 : List Nat) : List D → List D → M (List D)
  | [], acc => fun s => .ok acc (s.wipe vs)
  | d :: ds, acc => fun s => match g d (s.wipe vs) with
    | none => .stuck
    | some s1 => mbind c (fun b => if b then mbind it1 fun es => compI g1 c1 f vs1 (compO g c it1 g1 c1 f vs vs1 ds) es acc else compO g c it1 g1 c1 f vs vs1 ds acc) s1
def eComp2 (it : M (List D)) (vs : List Nat) (g : D → S → Option S) (c : M Bool) (it1 : M (List D)) (vs1 : List Nat) (g1 : D → S → Option S) (c1 : M Bool) (f : M D) : M R := mbind it fun ds s0 => if s0.clean vs then (match compO g c it1 g1 c1 f vs vs1 ds [] s0 with
  | .ok acc s => .ok (.new (.lst acc)) (s.back s0 vs)
  | _ => .stuck) else .stuck
theorem wipe_same {σ σ2 : L2.St} {vs is : List Nat} (his : ∀ j ∈ is, j ∈ vs) (hσ : ∀ j, j ∉ is → σ2[j]? = (L2.wipe σ vs)[j]?) (hl : σ2.length = (L2.wipe σ vs).length) : L2.wipe σ2 vs = L2.wipe σ vs := by
  apply List.ext_getElem?
  intro j
  by_cases hj : j ∈ vs
  · have q : ∀ (τ : L2.St), τ.length = σ.length → (L2.wipe τ vs)[j]? = if j < σ.length then some none else none := fun τ hτ => by
      by_cases hlt : j < σ.length
      · rw [if_pos hlt]; exact wipe_in hj (by omega)
      · rw [if_neg hlt, List.getElem?_eq_none (by rw [wipe_len]; omega)]
    rw [q σ2 (by rw [hl, wipe_len]), q σ rfl]
  · rw [wipe_at hj, wipe_at hj, hσ j (fun z => hj (his j z)), wipe_at hj]
theorem wipe_sub {σ σ2 : L2.St} {vs vs1 : List Nat} (h1 : ∀ j ∈ vs1, j ∈ vs) (h : L2.wipe σ2 vs1 = L2.wipe σ vs1) : L2.wipe σ2 vs = L2.wipe σ vs := by
  have hl : σ2.length = σ.length := by
    have := congrArg List.length h
    rwa [wipe_len, wipe_len] at this
  apply List.ext_getElem?
  intro j
  by_cases hj : j ∈ vs
  · have q : ∀ (τ : L2.St), τ.length = σ.length → (L2.wipe τ vs)[j]? = if j < σ.length then some none else none := fun τ hτ => by
      by_cases hlt : j < σ.length
      · rw [if_pos hlt]; exact wipe_in hj (by omega)
      · rw [if_neg hlt, List.getElem?_eq_none (by rw [wipe_len]; omega)]
    rw [q σ2 hl, q σ rfl]
  · have e := congrArg (fun l => l[j]?) h
    rw [wipe_at (fun z => hj (h1 j z)), wipe_at (fun z => hj (h1 j z))] at e
    rw [wipe_at hj, wipe_at hj, e]
theorem comp2_ex {elt tg iter tg1 iter1 : Expr} {ifs ifs1 : List Expr} {scope : Scope} {own : List (Str × Nat)} {vs1 : List Nat} {it it1 : M (List D)} {is is1 : List Nat} {g g1 : D → S → Option S} {c c1 : M Bool} {f : M D} (hi : SI X K E tg iter it)
    (hv : ∀ i ∈ vs1, i ∈ own.map (·.2)) (hg : SG (blkX X scope) K tg is g) (his : ∀ j ∈ is, j ∈ own.map (·.2)) (ht : STs (blkX X scope) K WW0 ifs c)
    (hi1 : SI (blkX X scope) K WW0 tg1 iter1 it1) (hg1 : SG (blkX X scope) K tg1 is1 g1) (his1 : ∀ j ∈ is1, j ∈ vs1) (ht1 : STs (blkX X scope) K WW0 ifs1 c1) (he : SV (blkX X scope) K WW0 elt f) :
    ∃ wi tgt tt wi1 tgt1 tt1 te, (∀ z, PI (X z) tg iter wi) ∧ (∀ z, PG (blkX X scope z) tg tgt) ∧ (∀ z, PTs (blkX X scope z) ifs tt) ∧ (∀ z, PI (blkX X scope z) tg1 iter1 wi1) ∧ (∀ z, PG (blkX X scope z) tg1 tgt1) ∧ (∀ z, PTs (blkX X scope z) ifs1 tt1) ∧ (∀ z, PE (blkX X scope z) elt te) ∧
      ∀ io L G σ s H Q, Wd K io L G σ s H → Fin K E io L σ G Q (eComp2 it (own.map (·.2)) g c it1 vs1 g1 c1 f s) → tLc2 wi tgt tt wi1 tgt1 tt1 te (own.map (·.2)) vs1 σ H Q := by
  obtain ⟨wi, pi, hi⟩ := hi.ex
  obtain ⟨tgt, pg, hg⟩ := hg.ex
  obtain ⟨tt, pt, ht⟩ := ht.use
  obtain ⟨wi1, pi1, hi1⟩ := hi1.ex
  obtain ⟨tgt1, pg1, hg1⟩ := hg1.ex
  obtain ⟨tt1, pt1, ht1⟩ := ht1.use
  obtain ⟨te, pe, he⟩ := he.use
  refine ⟨wi, tgt, tt, wi1, tgt1, tt1, te, pi, pg, pt, pi1, pg1, pt1, pe, fun io L G σ s H Q w hf => ?_⟩
  generalize own.map (·.2) = vs at his hv hf ⊢
  refine hi (fk_fin (Q := Q)) w hf fun J ds s0 G0 H0 sb0 w0 ok0 f0 => ?_
  split at f0
  · rename_i hcl
    have f0 : CEnd K E io L σ vs s0 Q G0 (compO g c it1 g1 c1 f vs vs1 ds [] s0) := by
      cases e : compO g c it1 g1 c1 f vs vs1 ds [] s0 with
      | stuck => rw [e] at f0; exact f0.elim
      | exc _ _ _ => rw [e] at f0; exact f0.elim
      | ok acc s => rw [e] at f0; exact f0
    intro Da hD
    have hL : L Da = none := (w0.fresh (o := .lst []) hD).1
    refine ⟨fun i m H => m = ds.length - i ∧ i ≤ ds.length ∧ ∃ s G acc xs, Sub G0 G ∧ Wd K io (upd L Da (.lst xs)) G (L2.wipe σ vs) (S.wipe s vs) H ∧ DqAll K G xs acc ∧ CEnd K E io L σ vs s0 Q G (compO g c it1 g1 c1 f vs vs1 (ds.drop i) acc s), ⟨ds.length, by simp, Nat.zero_le _, s0, G0, [], [], Sub.refl _, Wd.wipe (w0.fresh hD).2, .nil, f0⟩, ?_⟩
    rintro i m H ⟨rfl, hil, s, G, acc, xs, sb, w, ra, fe⟩
    by_cases hlt : i < ds.length
    · refine .inr ⟨ok0.go i H (sb.trans w.sub) hlt, fun H => i + 1 ≤ ds.length ∧ ∃ s G acc xs, Sub G0 G ∧ Wd K io (upd L Da (.lst xs)) G (L2.wipe σ vs) (S.wipe s vs) H ∧ DqAll K G xs acc ∧ CEnd K E io L σ vs s0 Q G (compO g c it1 g1 c1 f vs vs1 (ds.drop (i + 1)) acc s), fun H' h => ⟨ds.length - (i + 1), by omega, rfl, h⟩, fun x H' y => ?_⟩
      obtain ⟨d, e, yl⟩ := ok0.yld i H x H' (sb.trans w.sub) hlt y
      obtain ⟨G2, sb2, w2, dp⟩ := yl.wd sb w
      have ed : ds.drop i = d :: ds.drop (i + 1) := by
        rw [List.drop_eq_getElem_cons hlt]
        obtain ⟨_, e2⟩ := List.getElem?_eq_some_iff.mp e
        rw [e2]
      rw [ed] at fe
      have fe : CEnd K E io L σ vs s0 Q G (match g d (s.wipe vs) with
        | none => .stuck
        | some s1 => mbind c (fun b => if b then mbind it1 fun es => compI g1 c1 f vs1 (compO g c it1 g1 c1 f vs vs1 (ds.drop (i + 1))) es acc else compO g c it1 g1 c1 f vs vs1 (ds.drop (i + 1)) acc) s1) := fe
      cases eg : g d (s.wipe vs) with
      | none => rw [eg] at fe; exact fe.elim
      | some s1 =>
        rw [eg] at fe
        refine hg w2 dp eg fun σ2 hσ hl w3 => ?_
        have ew : L2.wipe σ2 vs = L2.wipe σ vs := wipe_same his hσ hl
        refine ⟨ew, ?_⟩
        refine ht (cend_fk (E := E) (L := L) (σ := σ) (vs := vs) (s0 := s0) (Q := Q)) w3 ((cend_fk (E' := WW0) (L' := L) (σ' := σ)).mono sb2 fe) fun b s4 G4 H4 sb4 w4 f4 => ?_
        cases b with
        | false =>
          refine iteF ⟨hlt, s4, G4, acc, xs, (sb.trans sb2).trans sb4, ?_, (sb2.trans sb4).dpAll ra, f4⟩
          rw [← ew]; exact Wd.wipe w4
        | true =>
          refine iteT ?_
          refine hi1 (cend_fk (E := E) (L := L) (σ := σ) (vs := vs) (s0 := s0) (Q := Q)) w4 f4 fun J1 es s5 G5 H5 sb5 w5 ok5 f5 => ?_
          have sbA : Sub G G5 := sb2.trans (sb4.trans sb5)
          refine ⟨fun j n H => n = es.length - j ∧ j ≤ es.length ∧ ∃ s G acc xs, Sub G5 G ∧ (Wd K io (upd L Da (.lst xs)) G (L2.wipe σ2 vs1) (S.wipe s vs1) H ∧ Wd K io (upd L Da (.lst xs)) G (L2.wipe σ2 vs) (S.wipe s vs) H) ∧ DqAll K G xs acc ∧ CEnd K E io L σ vs s0 Q G (compI g1 c1 f vs1 (compO g c it1 g1 c1 f vs vs1 (ds.drop (i + 1))) (es.drop j) acc s), ⟨es.length, by simp, Nat.zero_le _, s5, G5, acc, xs, Sub.refl _, ⟨Wd.wipe w5, Wd.wipe w5⟩, sbA.dpAll ra, f5⟩, ?_⟩
          rintro j n H6 ⟨rfl, hjl, s6, G6, acc6, xs6, sb6, ⟨w6, w6'⟩, ra6, fe6⟩
          by_cases hlt6 : j < es.length
          · refine .inr ⟨ok5.go j H6 (sb6.trans w6.sub) hlt6, fun H => j + 1 ≤ es.length ∧ ∃ s G acc xs, Sub G5 G ∧ (Wd K io (upd L Da (.lst xs)) G (L2.wipe σ2 vs1) (S.wipe s vs1) H ∧ Wd K io (upd L Da (.lst xs)) G (L2.wipe σ2 vs) (S.wipe s vs) H) ∧ DqAll K G xs acc ∧ CEnd K E io L σ vs s0 Q G (compI g1 c1 f vs1 (compO g c it1 g1 c1 f vs vs1 (ds.drop (i + 1))) (es.drop (j + 1)) acc s), fun H' h => ⟨es.length - (j + 1), by omega, rfl, h⟩, fun x6 H7 y6 => ?_⟩
            obtain ⟨d6, e6, yl6⟩ := ok5.yld j H6 x6 H7 (sb6.trans w6.sub) hlt6 y6
            obtain ⟨G7, sb7, w7, dp7⟩ := yl6.wd sb6 w6
            have ed6 : es.drop j = d6 :: es.drop (j + 1) := by
              rw [List.drop_eq_getElem_cons hlt6]
              obtain ⟨_, e2⟩ := List.getElem?_eq_some_iff.mp e6
              rw [e2]
            rw [ed6] at fe6
            have fe6 : CEnd K E io L σ vs s0 Q G6 (match g1 d6 (s6.wipe vs1) with
              | none => .stuck
              | some s1 => mbind c1 (fun b => if b then mbind f fun x => if acc6.length < sizeLine then compI g1 c1 f vs1 (compO g c it1 g1 c1 f vs vs1 (ds.drop (i + 1))) (es.drop (j + 1)) (acc6 ++ [x]) else mstuck else compI g1 c1 f vs1 (compO g c it1 g1 c1 f vs vs1 (ds.drop (i + 1))) (es.drop (j + 1)) acc6) s1) := fe6
            cases eg6 : g1 d6 (s6.wipe vs1) with
            | none => rw [eg6] at fe6; exact fe6.elim
            | some s7 =>
              rw [eg6] at fe6
              refine hg1 w7 dp7 eg6 fun σ3 hσ3 hl3 w8 => ?_
              have ew3 : L2.wipe σ3 vs1 = L2.wipe σ2 vs1 := wipe_same his1 hσ3 hl3
              have ew4 : L2.wipe σ3 vs = L2.wipe σ2 vs := wipe_sub hv ew3
              refine ⟨ew3, ?_⟩
              refine ht1 (cend_fk (E := E) (L := L) (σ := σ) (vs := vs) (s0 := s0) (Q := Q)) w8 ((cend_fk (E' := WW0) (L' := L) (σ' := σ)).mono sb7 fe6) fun b9 s9 G9 H9 sb9 w9 f9 => ?_
              cases b9 with
              | false =>
                refine iteF ⟨hlt6, s9, G9, acc6, xs6, sb6.trans (sb7.trans sb9), ⟨?_, ?_⟩, (sb7.trans sb9).dpAll ra6, f9⟩
                · rw [← ew3]; exact Wd.wipe w9
                · rw [← ew4]; exact Wd.wipe w9
              | true =>
                refine iteT (he (cend_fk (E := E) (L := L) (σ := σ) (vs := vs) (s0 := s0) (Q := Q)) w9 f9 fun v x s10 G10 H10 sb10 w10 dp10 f10 => ?_)
                split at f10
                · rename_i hsz
                  have ra10 := (sb7.trans (sb9.trans sb10)).dpAll ra6
                  refine ⟨xs6, (w10.loose Da _ upd_same).2, by rw [ra10.length]; exact hsz, hlt6, s10, G10, acc6 ++ [x], xs6 ++ [v], sb6.trans (sb7.trans (sb9.trans sb10)), ⟨?_, ?_⟩, ra10.append (.cons dp10 .nil), f10⟩
                  · rw [← ew3]; exact Wd.wipe (w10.writeL hL)
                  · rw [← ew4]; exact Wd.wipe (w10.writeL hL)
                · exact f10.elim
          · have e : j = es.length := by omega
            subst e
            rw [List.drop_length] at fe6
            exact .inl ⟨ok5.stop _ H6 (sb6.trans w6.sub) (Nat.le_refl _), hlt, s6, G6, acc6, xs6, sb.trans (sbA.trans sb6), by rw [← ew]; exact w6', ra6, fe6⟩
    · have e : i = ds.length := by omega
      subst e
      rw [List.drop_length] at fe
      refine .inl ⟨ok0.stop _ H (sb.trans w.sub) (Nat.le_refl _), ?_⟩
      have fe : Fin K E io L σ G Q (.ok (.new (.lst acc)) ((s.wipe vs).back s0 vs)) := fe
      have wb := Wd.backs (vs := vs) (w0.fresh (o := .lst xs) hD).2 (sb) w hcl
      rw [backS_wipe] at wb
      exact fe Da _ G H (Sub.refl _) hL wb (.lst ra)
  · exact f0.elim
theorem se_comp2 {elt tg iter tg1 iter1 : Expr} {ifs ifs1 : List Expr} {scope : Scope} {own : List (Str × Nat)} {vs1 : List Nat} {pos : Pos} {it it1 : M (List D)} {is is1 : List Nat} {g g1 : D → S → Option S} {c c1 : M Bool} {f : M D} (hc : ∀ z, (X z).calm = true) (hN : ∀ z, (X z).N.Nodup) (hi : SI X K E tg iter it)
    (ok : ∀ z, BlkOk (X z).N (X z).env.scope scope own) (hv : ∀ i ∈ vs1, i ∈ own.map (·.2)) (hg : SG (blkX X scope) K tg is g) (his : ∀ j ∈ is, j ∈ own.map (·.2)) (ht : STs (blkX X scope) K WW0 ifs c)
    (hi1 : SI (blkX X scope) K WW0 tg1 iter1 it1) (hg1 : SG (blkX X scope) K tg1 is1 g1) (his1 : ∀ j ∈ is1, j ∈ vs1) (ht1 : STs (blkX X scope) K WW0 ifs1 c1) (he : SV (blkX X scope) K WW0 elt f)
    (hs : ∀ z x, foldedSetIterable iter (X z).env x = pure x := by intro _ _; rfl) (hs1 : ∀ env x, foldedSetIterable iter1 env x = pure x := by intro _ _; rfl) :
    SE X K E (.ListComp elt [⟨tg, iter, ifs, 0⟩, ⟨tg1, iter1, ifs1, 0⟩] scope pos) (eComp2 it (own.map (·.2)) g c it1 vs1 g1 c1 f) := by
  obtain ⟨wi, tgt, tt, wi1, tgt1, tt1, te, pi, pg, pt, pi1, pg1, pt1, pe, h⟩ := comp2_ex hi hv hg his ht hi1 hg1 his1 ht1 he
  exact ⟨_, fun z => pe_lc2 (hc z) (hN z) (pi z) (ok z) hv (fun s H C cl fp => pg (z, s, H, C, cl, fp)) (fun s H C cl fp => pt (z, s, H, C, cl, fp)) (fun s H C cl fp => pi1 (z, s, H, C, cl, fp)) (fun s H C cl fp => pg1 (z, s, H, C, cl, fp)) (fun s H C cl fp => pt1 (z, s, H, C, cl, fp)) (fun s H C cl fp => pe (z, s, H, C, cl, fp)) (hs z) hs1, h⟩
theorem ss_setC2 {i : Nat} {y : Str} {py : Pos} {elt tg iter tg1 iter1 : Expr} {ifs ifs1 : List Expr} {scope : Scope} {own : List (Str × Nat)} {vs1 : List Nat} {pos spos : Pos} {it it1 : M (List D)} {is is1 : List Nat} {g g1 : D → S → Option S} {c c1 : M Bool} {f : M D} (hc : ∀ z, (X z).calm = true) (hN : ∀ z, (X z).N.Nodup)
    (hy : ∀ z, (X z).N[i]? = some y) (hyl : ∀ z, (X z).env.scope.names.lookup y = some .local) (hsw : ∀ z, swapsWith (.ListComp elt [⟨tg, iter, ifs, 0⟩, ⟨tg1, iter1, ifs1, 0⟩] scope pos) (some (.Name y py)) spos.line (X z).env = pure true) (hi : SI X K E tg iter it)
    (ok : ∀ z, BlkOk (X z).N (X z).env.scope scope own) (hv : ∀ i ∈ vs1, i ∈ own.map (·.2)) (hg : SG (blkX X scope) K tg is g) (his : ∀ j ∈ is, j ∈ own.map (·.2)) (ht : STs (blkX X scope) K WW0 ifs c)
    (hi1 : SI (blkX X scope) K WW0 tg1 iter1 it1) (hg1 : SG (blkX X scope) K tg1 is1 g1) (his1 : ∀ j ∈ is1, j ∈ vs1) (ht1 : STs (blkX X scope) K WW0 ifs1 c1) (he : SV (blkX X scope) K WW0 elt f)
    (hs : ∀ z x, foldedSetIterable iter (X z).env x = pure x := by intro _ _; rfl) (hs1 : ∀ env x, foldedSetIterable iter1 env x = pure x := by intro _ _; rfl) :
    SS X K E (.Assign [.Name y py] (.ListComp elt [⟨tg, iter, ifs, 0⟩, ⟨tg1, iter1, ifs1, 0⟩] scope pos) spos) (sSet i (eComp2 it (own.map (·.2)) g c it1 vs1 g1 c1 f)) := by
  obtain ⟨wi, tgt, tt, wi1, tgt1, tt1, te, pi, pg, pt, pi1, pg1, pt1, pe, h⟩ := comp2_ex hi hv hg his ht hi1 hg1 his1 ht1 he
  refine ⟨_, fun z => ps_setLc2 (hc z) (hN z) (hy z) (hyl z) (hsw z) (pi z) (ok z) hv (fun s H C cl fp => pg (z, s, H, C, cl, fp)) (fun s H C cl fp => pt (z, s, H, C, cl, fp)) (fun s H C cl fp => pi1 (z, s, H, C, cl, fp)) (fun s H C cl fp => pg1 (z, s, H, C, cl, fp)) (fun s H C cl fp => pt1 (z, s, H, C, cl, fp)) (fun s H C cl fp => pe (z, s, H, C, cl, fp)) (hs z) hs1, fun io L G σ s H A w hf => ?_⟩
  refine h io L G σ s H _ w ?_
  unfold sSet mbind at hf
  cases e : eComp2 it (own.map (·.2)) g c it1 vs1 g1 c1 f s with
  | stuck => rw [e] at hf; exact hf
  | exc c d s' => rw [e] at hf; exact hf σ
  | ok r s' =>
    rw [e] at hf
    match r, hf with
    | .val d, hf => exact fun v G' H' sb w' dp => hf _ G' H' sb (w'.setv dp)
    | .new c, hf => exact fun a o G' H' sb hL w' rc => hf _ G' H' sb (w'.seto hL rc)
end
end L3

namespace L3
open PySem PySem.Spec PyProof.Rows L2

/-! ### defs -/
inductive Res where
  | stuck
  | ok (r : R) (box : List D)
  | exc (c : Str) (d : D) (box : List D)
abbrev Fn := List D → List D → Res
def initE (bx : Bool) (n : Nat) (ds : List D) : List (Option Sl) :=
  if bx then some Sl.io :: (ds.map fun d => some (Sl.val d)) ++ List.replicate (n - (ds.length + 1)) none else (ds.map fun d => some (Sl.val d)) ++ List.replicate (n - ds.length) none
def runF (bx : Bool) (n : Nat) (b : M Fl) : Fn := fun ds box => match b ⟨initE bx n ds, box⟩ with
  | .ok (.rt r) s => .ok r s.box
  | .ok .nx s => .ok (.val .none) s.box
  | .exc c d s => .exc c d s.box
  | _ => .stuck
structure Ext (K : PySem.W.Frag) (G H : Hp) (io : Option Addr) (G' H' : Hp) (es : List D) : Prop where
  g : Sub G G'
  h : Sub G' H'
  keep : ∀ b o, H b = some o → G b = none → io ≠ some b → G' b = none ∧ H' b = some o
  box : ∀ a, io = some a → G' a = none ∧ ∃ xs, H' a = some (.lst xs) ∧ DqAll K G' xs es
def RetR (K : PySem.W.Frag) (H G' H' : Hp) (io : Option Addr) (Q : VK) : R → Prop
  | .val d => ∀ v, Dq K G' v d → Q v H'
  | .new c => ∀ a o, H a = none → G' a = none → H' a = some o → RepC K G' o c → io ≠ some a → Q (.ref a) H'
def vsOf (io : Option Addr) (ws : List V) : List V := match io with
  | some a => .ref a :: ws
  | none => ws
/-- what a def that lets no exception out promises: it is worth g -/
def spF (K : PySem.W.Frag) (bx : Bool) (np : Nat) (g : Fn) : Sp := fun vs H Q _ =>
  ∃ (G : Hp) (io : Option Addr) (ds box : List D) (ws : List V), Sub G H ∧ vs = vsOf io ws ∧ io.isSome = bx ∧ DqAll K G ws ds ∧ vs.length = np ∧ (∀ a, io = some a → G a = none ∧ ∃ xs, H a = some (.lst xs) ∧ DqAll K G xs box) ∧
    match g ds box with
    | .ok r es => ∀ G' H', Ext K G H io G' H' es → RetR K H G' H' io Q r
    | _ => False
section
variable {P : Program} {w : World} {K : PySem.W.Frag} {mg : Str → Option Value} {base : Heap}
theorem map_get {ds : List D} {i : Nat} {x : Option Sl} (h : (ds.map fun d => some (Sl.val d))[i]? = some x) : ∃ d, ds[i]? = some d ∧ x = some (Sl.val d) := by
  rw [List.getElem?_map] at h
  cases e : ds[i]? with
  | none => rw [e] at h; cases h
  | some d => rw [e] at h; exact ⟨d, rfl, (Option.some.inj h).symm⟩
theorem part_get {α β : Type} {xs : List α} {n i : Nat} {y : β} {f : α → β} {z : β} (h : (xs.map f ++ List.replicate n z)[i]? = some y) : (∃ x, xs[i]? = some x ∧ y = f x) ∨ (xs[i]? = none ∧ y = z) := by
  by_cases hi : i < (xs.map f).length
  · rw [List.getElem?_append_left hi, List.getElem?_map] at h
    cases e : xs[i]? with
    | none => rw [e] at h; cases h
    | some x => rw [e] at h; exact .inl ⟨x, rfl, (Option.some.inj h).symm⟩
  · rw [List.getElem?_append_right (by omega)] at h
    refine .inr ⟨List.getElem?_eq_none (by simpa using hi), ?_⟩
    rw [List.getElem?_replicate] at h
    split at h
    · exact (Option.some.inj h).symm
    · cases h
theorem start_wd0 {K : PySem.W.Frag} {G H : Hp} {io : Option Addr} {ds box : List D} {ws : List V} {N : List Str} (sb : Sub G H) (hd : DqAll K G ws ds) (hn : (vsOf io ws).length ≤ N.length) (hio : ∀ a, io = some a → G a = none ∧ ∃ xs, H a = some (.lst xs) ∧ DqAll K G xs box) :
    Wd0 K io (fun b => if G b = none ∧ io ≠ some b then H b else none) G (L2.start N (vsOf io ws)) ⟨initE io.isSome N.length ds, box⟩ H := by
  have val : ∀ (i : Nat) (x : Option Sl) (n : Nat), ((ds.map fun d => some (Sl.val d)) ++ List.replicate n none)[i]? = some x → (x = none) ∨ ∃ d v, x = some (Sl.val d) ∧ ws[i]? = some v ∧ Dq K G v d := fun i x n h => by
    rcases part_get h with ⟨d, e1, e2⟩ | ⟨_, e⟩
    · obtain ⟨v, e3, r⟩ := hd.get e1
      exact .inr ⟨d, v, e2, e3, r⟩
    · exact .inl e
  have stw : ∀ (i : Nat) (v : V) (n : Nat), ws[i]? = some v → (ws.map some ++ List.replicate n none)[i]? = some (some v) := fun i v n h => by
    obtain ⟨hi, _⟩ := List.getElem?_eq_some_iff.mp h
    rw [List.getElem?_append_left (by simpa using hi), List.getElem?_map, h]; rfl
  have hl : ws.length = ds.length := hd.length
  cases io with
  | none =>
    refine ⟨sb, ?_, fun i d h => ?_, fun i c h => ?_, fun i j c c' a h => ?_, fun a h => (by cases h), fun i h => ?_, fun a o h => ?_⟩
    · have hn : ws.length ≤ N.length := hn
      show (ws.map some ++ List.replicate (N.length - ws.length) none).length = ((ds.map fun d => some (Sl.val d)) ++ List.replicate (N.length - ds.length) none).length
      simp; omega
    · rcases val i _ _ h with e | ⟨d', v, e1, e2, r⟩
      · cases e
      · cases e1; exact ⟨v, stw i v _ e2, r⟩
    · rcases val i _ _ h with e | ⟨d', v, e1, e2, r⟩
      · cases e
      · cases e1
    · rcases val i _ _ h with e | ⟨d', v, e1, e2, r⟩
      · cases e
      · cases e1
    · rcases val i _ _ h with e | ⟨d', v, e1, e2, r⟩
      · cases e
      · cases e1
    · split at h
      · rename_i q; exact ⟨q.1, h⟩
      · cases h
  | some a =>
    have cons : ∀ (i : Nat) (x : Option Sl), (initE true N.length ds)[i]? = some x → (i = 0 ∧ x = some Sl.io) ∨ ∃ j, i = j + 1 ∧ ((ds.map fun d => some (Sl.val d)) ++ List.replicate (N.length - (ds.length + 1)) none)[j]? = some x := fun i x h => by
      cases i with
      | zero => exact .inl ⟨rfl, (Option.some.inj h).symm⟩
      | succ j => exact .inr ⟨j, rfl, h⟩
    have stc : ∀ (j : Nat) (v : V), ws[j]? = some v → (L2.start N (.ref a :: ws))[j + 1]? = some (some v) := fun j v h => stw j v _ h
    refine ⟨sb, ?_, fun i d h => ?_, fun i c h => ?_, fun i j c c' b h => ?_, fun b h => ?_, fun i h => ?_, fun b o h => ?_⟩
    · have hn : ws.length + 1 ≤ N.length := hn
      show ((V.ref a :: ws).map some ++ List.replicate (N.length - (V.ref a :: ws).length) none).length = (some Sl.io :: (ds.map fun d => some (Sl.val d)) ++ List.replicate (N.length - (ds.length + 1)) none).length
      simp; omega
    · rcases cons i _ h with ⟨_, e⟩ | ⟨j, rfl, h⟩
      · cases e
      · rcases val j _ _ h with e | ⟨d', v, e1, e2, r⟩
        · cases e
        · cases e1; exact ⟨v, stc j v e2, r⟩
    · rcases cons i _ h with ⟨_, e⟩ | ⟨j, rfl, h⟩
      · cases e
      · rcases val j _ _ h with e | ⟨d', v, e1, e2, r⟩
        · cases e
        · cases e1
    · rcases cons i _ h with ⟨_, e⟩ | ⟨j, rfl, h⟩
      · cases e
      · rcases val j _ _ h with e | ⟨d', v, e1, e2, r⟩
        · cases e
        · cases e1
    · cases h
      obtain ⟨g, q⟩ := hio a rfl
      exact ⟨g, by simp, q⟩
    · rcases cons i _ h with ⟨rfl, _⟩ | ⟨j, rfl, h⟩
      · exact ⟨a, rfl, rfl⟩
      · rcases val j _ _ h with e | ⟨d', v, e1, e2, r⟩
        · cases e
        · cases e1
    · split at h
      · rename_i q; exact ⟨q.1, h⟩
      · cases h
theorem initE_plain {bx : Bool} {n : Nat} {ds : List D} {i : Nat} {x : Sl} (h : (initE bx n ds)[i]? = some (some x)) : (∃ d, x = Sl.val d) ∨ x = Sl.io := by
  have hm := List.mem_of_getElem? h
  unfold initE at hm
  split at hm
  · simp only [List.mem_append, List.mem_cons, List.mem_map, List.mem_replicate] at hm
    rcases hm with (hm | ⟨d, _, hm⟩) | hm
    · cases hm; exact .inr rfl
    · cases hm; exact .inl ⟨d, rfl⟩
    · cases hm.2
  · simp only [List.mem_append, List.mem_map, List.mem_replicate] at hm
    rcases hm with ⟨d, _, hm⟩ | hm
    · cases hm; exact .inl ⟨d, rfl⟩
    · cases hm.2
theorem start_wd {K : PySem.W.Frag} {G H : Hp} {io : Option Addr} {ds box : List D} {ws : List V} {N : List Str} (sb : Sub G H) (hd : DqAll K G ws ds) (hn : (vsOf io ws).length ≤ N.length) (hio : ∀ a, io = some a → G a = none ∧ ∃ xs, H a = some (.lst xs) ∧ DqAll K G xs box) :
    Wd K io (fun b => if G b = none ∧ io ≠ some b then H b else none) G (L2.start N (vsOf io ws)) ⟨initE io.isSome N.length ds, box⟩ H := by
  refine ⟨fun _ => none, fun _ _ h => (by cases h), ?_, ⟨fun j rows hj => ?_, fun j j' rows rows' hj _ => ?_⟩⟩
  · have e : un (fun b => if G b = none ∧ io ≠ some b then H b else none) (fun _ => none) = (fun b => if G b = none ∧ io ≠ some b then H b else none) := by
      funext b
      unfold un
      split
      · rename_i h; exact h.symm
      · rename_i h; exact h.symm
    rw [e]
    exact start_wd0 sb hd hn hio
  · rcases initE_plain hj with ⟨d, e⟩ | e <;> cases e
  · rcases initE_plain hj with ⟨d, e⟩ | e <;> cases e
/-- a def of the text is worth what its body's reading is worth -/
theorem fn_ok {x qual : Str} {st : Stmt} {f : Addr} {fd : FuncData} {N ps : List Str} {k : Nat} {b : M Fl} (bx : Bool) (F : Fun K x qual st f fd) (S : FnScope N ps (defScope st)) (hps : ps.length ≤ N.length)
    (hb : ∀ (cdv : Value) (A : Around) (outer : List Env) (s : Shared) (H : Hp) (E : XK), Room k (A.deeper (envOfC qual (defScope st) s.heap.objs.size f cdv)) →
      SB (fun _ : Unit => (cxOf CX0 P w K mg base N qual (defScope st) f cdv A outer s H E).nox) K WW0 (defBody st) b) : FnOk P w K mg base CX0 (k + 1) f fd ps (spF K bx ps.length (runF bx N.length b)) := by
  refine F.ok S (fun vs H Q E h => ?_) (fun cdv A outer s H vs Q E hr h => ?_)
  · obtain ⟨G, io, ds, box, ws, _, _, _, _, hl, _⟩ := h
    exact hl
  · obtain ⟨G, io, ds, box, ws, sb, rfl, hbx, hd, hl, hio, hg⟩ := h
    obtain ⟨t, p, h⟩ := (hb cdv A outer s H E hr).ex
    refine ⟨t, p (), ?_⟩
    have w0 := start_wd (N := N) sb hd (by omega) hio
    rw [hbx] at w0
    refine h io _ G _ _ H _ w0 ?_
    unfold runF at hg
    have ext : ∀ {L G' H' σ s'}, (∀ b o, H b = some o → G b = none → io ≠ some b → L b = some o) → Sub G G' → Wd K io L G' σ s' H' → Ext K G H io G' H' s'.box := fun {L G' H' σ s'} hL e w' =>
      ⟨e, w'.sub, fun b o h1 h2 h3 => w'.loose b o (hL b o h1 h2 h3), fun a ha => let ⟨g, _, q⟩ := w'.ios a ha; ⟨g, q⟩⟩
    have L0 : ∀ b o, H b = some o → G b = none → io ≠ some b → (if G b = none ∧ io ≠ some b then H b else none) = some o := fun b o h1 h2 h3 => by rw [if_pos ⟨h2, h3⟩]; exact h1
    cases e : b ⟨initE bx N.length ds, box⟩ with
    | stuck => rw [e] at hg; exact hg.elim
    | exc c d s' => rw [e] at hg; exact hg.elim
    | ok fl s' =>
      rw [e] at hg
      match fl, hg with
      | .nx, hg => exact fun σ' G' H' sb' w' => hg G' H' (ext L0 sb' w') _ .non
      | .rt (.val d), hg => exact fun v σ' G' H' sb' w' dp => hg G' H' (ext L0 sb' w') v dp
      | .rt (.new c), hg =>
        intro a o σ' G' H' sb' hL w' rc
        obtain ⟨hG', hH'⟩ := w'.loose a o upd_same
        have hioa : io ≠ some a := fun q => by
          have z := (w'.ios a q).2.1
          rw [upd_same] at z; cases z
        have hG : G a = none := sb'.none hG'
        have hH : H a = none := by
          have hL : (if G a = none ∧ io ≠ some a then H a else none) = none := hL
          rw [if_pos ⟨hG, hioa⟩] at hL
          exact hL
        exact hg G' H' (ext L0 sb' (w'.drop hL)) a o hH hG' hH' rc hioa
      | .bk, hg => exact hg.elim
      | .ct, hg => exact hg.elim
end

/-! ### calls -/
section
variable {K : PySem.W.Frag} {io : Option Addr} {L G H G' H' : Hp} {σ : L2.St} {s : S} {es : List D}
theorem Wd0.ext (w : Wd0 K io L G σ s H) (x : Ext K G H none G' H' es) : Wd0 K io L G' σ s H' where
  sub := x.h
  len := w.len
  vals := fun i d h => let ⟨v, e, r⟩ := w.vals i d h; ⟨v, e, x.g.dp r⟩
  owns := fun i c h => by
    obtain ⟨a, o, e, g, ha, r, l, n⟩ := w.owns i c h
    obtain ⟨k1, k2⟩ := x.keep a o ha g (by simp)
    exact ⟨a, o, e, k1, k2, x.g.repC r, l, n⟩
  apart := w.apart
  ios := fun a h => by
    obtain ⟨g, l, xs, h1, h2⟩ := w.ios a h
    obtain ⟨k1, k2⟩ := x.keep a _ h1 g (by simp)
    exact ⟨k1, l, xs, k2, x.g.dpAll h2⟩
  refs := w.refs
  loose := fun a o h => by
    obtain ⟨g, h1⟩ := w.loose a o h
    exact x.keep a o h1 g (by simp)
theorem Wd0.extB {i : Nat} {a : Addr} {ds : List D} (w : Wd0 K io L G σ s H) (hc : s.cell i = some ds) (ea : σ[i]? = some (some (V.ref a))) (x : Ext K G H (some a) G' H' es) : Wd0 K io L G' σ (s.putc i es) H' := by
  obtain ⟨ga, xs, hxa, rxs⟩ := x.box a rfl
  have key : ∀ b o, H b = some o → G b = none → b ≠ a → G' b = none ∧ H' b = some o := fun b o h1 h2 h3 => x.keep b o h1 h2 (fun q => h3 (Option.some.inj q).symm)
  unfold S.cell at hc
  split at hc
  · rename_i ds' q
    unfold S.putc
    rw [q]
    obtain ⟨a', o', e', g0, h0, r0, l0, n0⟩ := w.owns i _ q
    rw [ea] at e'; cases e'
    have neo : ∀ (j : Nat) (c : C) (b : Addr), j ≠ i → s.env[j]? = some (some (Sl.own c)) → σ[j]? = some (some (V.ref b)) → b ≠ a := fun j c b hj h1 h2 e => by
      subst e; exact hj (w.apart j i c _ b h1 q h2 ea)
    refine ⟨x.h, ?_, fun j d h => ?_, fun j c h => ?_, fun j k c c' b h1 h2 h3 h4 => ?_, fun b h => ?_, fun j h => ?_, fun b o h => ?_⟩
    · show σ.length = (s.env.set i _).length; rw [List.length_set]; exact w.len
    · rcases set_cases (l := s.env) h with ⟨rfl, z⟩ | ⟨ne, z⟩
      · cases z
      · obtain ⟨v, e, r⟩ := w.vals j d z; exact ⟨v, e, x.g.dp r⟩
    · rcases set_cases (l := s.env) h with ⟨rfl, z⟩ | ⟨ne, z⟩
      · cases z; exact ⟨a, .lst xs, ea, ga, hxa, .lst rxs, l0, n0⟩
      · obtain ⟨b, o, e, g, hb, r, l, n⟩ := w.owns j c z
        obtain ⟨k1, k2⟩ := key b o hb g (neo j c b (Ne.symm ne) z e)
        exact ⟨b, o, e, k1, k2, x.g.repC r, l, n⟩
    · rcases set_cases (l := s.env) h1 with ⟨rfl, z⟩ | ⟨ne, z⟩
      · rcases set_cases (l := s.env) h2 with ⟨rfl, z'⟩ | ⟨ne', z'⟩
        · rfl
        · exact w.apart _ _ _ _ b q z' h3 h4
      · rcases set_cases (l := s.env) h2 with ⟨rfl, z'⟩ | ⟨ne', z'⟩
        · exact w.apart _ _ _ _ b z q h3 h4
        · exact w.apart _ _ _ _ b z z' h3 h4
    · obtain ⟨g, l, ys, h1, h2⟩ := w.ios b h
      obtain ⟨k1, k2⟩ := key b _ h1 g (fun e => n0 (e ▸ h))
      exact ⟨k1, l, ys, k2, x.g.dpAll h2⟩
    · rcases set_cases (l := s.env) h with ⟨rfl, z⟩ | ⟨ne, z⟩
      · cases z
      · exact w.refs j z
    · obtain ⟨g, h1⟩ := w.loose b o h
      exact key b o h1 g (fun e => by rw [e, l0] at h; cases h)
  · rename_i q
    unfold S.putc
    rw [q]
    obtain ⟨a', eio, e'⟩ := w.refs i q
    rw [ea] at e'; cases e'
    obtain ⟨g0, l0, _⟩ := w.ios a eio
    refine ⟨x.h, w.len, fun j d h => ?_, fun j c h => ?_, w.apart, fun b h => ?_, w.refs, fun b o h => ?_⟩
    · obtain ⟨v, e, r⟩ := w.vals j d h; exact ⟨v, e, x.g.dp r⟩
    · obtain ⟨b, o, e, g, hb, r, l, n⟩ := w.owns j c h
      obtain ⟨k1, k2⟩ := key b o hb g (fun e => n (e ▸ eio))
      exact ⟨b, o, e, k1, k2, x.g.repC r, l, n⟩
    · rw [eio] at h; cases h
      exact ⟨ga, l0, xs, hxa, rxs⟩
    · obtain ⟨g, h1⟩ := w.loose b o h
      exact key b o h1 g (fun e => by rw [e, l0] at h; cases h)
  · cases hc
theorem Wd0.newAt {a : Addr} {o : HO} (w : Wd0 K io L G' σ s H') (hfree : ∀ b u, H b = some u → b ≠ a) (hold : ∀ b u, L b = some u → H b ≠ none) (hcell : ∀ (i : Nat) (c : C) (b : Addr), s.env[i]? = some (some (Sl.own c)) → σ[i]? = some (some (V.ref b)) → b ≠ a) (hio : io ≠ some a)
    (hG : G' a = none) (hH : H' a = some o) : L a = none ∧ Wd0 K io (upd L a o) G' σ s H' := by
  have hL : L a = none := by
    cases q : L a with
    | none => rfl
    | some u =>
      have := hold a u q
      cases z : H a with
      | none => exact absurd z this
      | some v => exact absurd rfl (hfree a v z)
  refine ⟨hL, ⟨w.sub, w.len, w.vals, fun i c h => ?_, w.apart, fun b hb => ?_, w.refs, fun b u hb => ?_⟩⟩
  · obtain ⟨b, u, e, g, hb, r, l, n⟩ := w.owns i c h
    have ne := hcell i c b h e
    exact ⟨b, u, e, g, hb, r, by rw [upd_ne ne]; exact l, n⟩
  · obtain ⟨g, l, q⟩ := w.ios b hb
    have ne : b ≠ a := fun e => hio (e ▸ hb)
    exact ⟨g, by rw [upd_ne ne]; exact l, q⟩
  · by_cases q : b = a
    · subst q; rw [upd_same] at hb; cases hb; exact ⟨hG, hH⟩
    · rw [upd_ne q] at hb; exact w.loose b u hb
theorem Wd.extNew (w : Wd K io L G σ s H) (x : Ext K G H none G' H' es) : Wd K io L G' σ s H' ∧ ∀ a o, H a = none → G' a = none → H' a = some o → L a = none ∧ Wd K io (upd L a o) G' σ s H' := by
  obtain ⟨T, hd, w, st⟩ := w.ex
  refine ⟨⟨T, hd, w.ext x, st.mono x.g⟩, fun a o ha hG hH => ?_⟩
  have nH : ∀ b u, H b = some u → b ≠ a := fun b u q z => by rw [z, ha] at q; cases q
  obtain ⟨hL, w3⟩ := (w.ext x).newAt (H := H) nH (fun b u q z => by rw [(w.loose b u q).2] at z; cases z) (fun i c b h1 h2 => by
    obtain ⟨b', u, e1, _, h3, _⟩ := w.owns i c h1
    rw [h2] at e1; cases e1
    exact nH b u h3) (fun q => by
    obtain ⟨_, _, xs, h1, _⟩ := w.ios a q
    exact nH a _ h1 rfl) hG hH
  rw [← un_upd] at w3
  exact ⟨un_left hL, T, upd_dis hd (un_right hL), w3, st.mono x.g⟩
theorem Wd.ext (w : Wd K io L G σ s H) (x : Ext K G H none G' H' es) : Wd K io L G' σ s H' := (w.extNew x).1
theorem putc_own {s : S} {i j : Nat} {ds : List D} {es : List D} {c : C} (hc : s.cell i = some ds) (h : (s.putc i es).env[j]? = some (some (Sl.own c))) : ∃ c', s.env[j]? = some (some (Sl.own c')) := by
  unfold S.cell at hc
  split at hc
  · rename_i ds' q
    unfold S.putc at h
    rw [q] at h
    rcases set_cases (l := s.env) h with ⟨rfl, z⟩ | ⟨ne, z⟩
    · exact ⟨_, q⟩
    · exact ⟨_, z⟩
  · rename_i q
    unfold S.putc at h
    rw [q] at h
    exact ⟨_, h⟩
  · cases hc
theorem StkOk.putc {T : Hp} {i : Nat} {ds : List D} (st : StkOk K G T σ s.env) (hc : s.cell i = some ds) : StkOk K G T σ (s.putc i es).env := by
  unfold S.cell at hc
  split at hc
  · rename_i ds' q
    unfold S.putc
    rw [q]
    exact st.off (fun _ e => by cases e) (fun _ e => by cases e) fun _ _ => rfl
  · rename_i q
    unfold S.putc
    rw [q]
    exact st
  · cases hc
theorem Wd.extBNew {i : Nat} {a : Addr} {ds : List D} (w : Wd K io L G σ s H) (hc : s.cell i = some ds) (ea : σ[i]? = some (some (V.ref a))) (x : Ext K G H (some a) G' H' es) :
    Wd K io L G' σ (s.putc i es) H' ∧ ∀ a o, H a = none → G' a = none → H' a = some o → L a = none ∧ Wd K io (upd L a o) G' σ (s.putc i es) H' := by
  obtain ⟨T, hd, w, st⟩ := w.ex
  refine ⟨⟨T, hd, w.extB hc ea x, (st.putc hc).mono x.g⟩, fun a o ha hG hH => ?_⟩
  have nH : ∀ b u, H b = some u → b ≠ a := fun b u q z => by rw [z, ha] at q; cases q
  obtain ⟨hL, w3⟩ := (w.extB hc ea x).newAt (H := H) nH (fun b u q z => by rw [(w.loose b u q).2] at z; cases z) (fun i c b h1 h2 => by
    obtain ⟨c', h1⟩ := putc_own hc h1
    obtain ⟨b', u, e1, _, h3, _⟩ := w.owns i c' h1
    rw [h2] at e1; cases e1
    exact nH b u h3) (fun q => by
    obtain ⟨_, _, xs, h1, _⟩ := w.ios a q
    exact nH a _ h1 rfl) hG hH
  rw [← un_upd] at w3
  exact ⟨un_left hL, T, upd_dis hd (un_right hL), w3, (st.putc hc).mono x.g⟩
end
def eCall (g : Fn) (fs : List (M D)) (dd : List D) : M R := evs fs fun ds s => match g (ds ++ dd) [] with
  | .ok r _ => .ok r s
  | _ => .stuck
def eCallB (g : Fn) (i : Nat) (fs : List (M D)) (dd : List D) : M R := fun s => match s.cell i with
  | none => .stuck
  | some _ => evs fs (fun ds s' => match s'.cell i with
    | none => .stuck
    | some bs => match g (ds ++ dd) bs with
      | .ok r bs' => .ok r (s'.putc i bs')
      | _ => .stuck) s
section
variable {ι : Type} {X : ι → Cx} {K : PySem.W.Frag} {E : WW} {e : Expr} {es : List Expr} {fs : List (M D)} {g : Fn}
theorem ret_caller {io io2 : Option Addr} {L G' G2 H' H2 : Hp} {σ : L2.St} {s2 : S} {Q : VK} {r : R} (hw : Wd K io L G2 σ s2 H2 ∧ ∀ a o, H' a = none → G2 a = none → H2 a = some o → L a = none ∧ Wd K io (upd L a o) G2 σ s2 H2) (sb : Sub G' G2)
    (f : Fin K E io L σ G' Q (.ok r s2)) : RetR K H' G2 H2 io2 Q r := by
  match r, f with
  | .val d, f => exact fun v dp => f v G2 H2 sb hw.1 dp
  | .new c, f =>
    intro a o ha hG2 hH2 rc _
    obtain ⟨hL, w3⟩ := hw.2 a o ha hG2 hH2
    exact f a o G2 H2 sb hL w3 rc
theorem se_call {dvs : List V} {dd : List D} {np : Nat} (ha : SAv X K E es fs) (hl : fs.length + dd.length = np) (hd : ∀ G, DqAll K G dvs dd) (hp : ∀ t, (∀ z, PA (X z) es t) → ∀ z, PE (X z) e (tCall (spF K false np g) dvs E0 t)) : SE X K E e (eCall g fs dd) := by
  obtain ⟨t, pa, h⟩ := ha.ex
  refine ⟨_, hp t pa, fun io L G σ s H Q w hf => ?_⟩
  refine h (fk_fin (Q := Q)) w hf fun vs ds s' G' H' sb w' rs hds f => ?_
  refine ⟨G', none, ds ++ dd, [], vs ++ dvs, w'.sub, rfl, rfl, rs.append (hd G'), ?_, fun a h => (by cases h), ?_⟩
  · rw [List.length_append, rs.length, (hd G').length, hds]; exact hl
  · cases eg : g (ds ++ dd) [] with
    | stuck => rw [eg] at f; exact f.elim
    | exc _ _ _ => rw [eg] at f; exact f.elim
    | ok r bs =>
      rw [eg] at f
      intro G2 H2 x
      exact ret_caller (w'.extNew x) x.g f
theorem se_callB {i : Nat} {eb : Expr} {dvs : List V} {dd : List D} {np : Nat} (hb : ∀ z, PE (X z) eb (tVar i)) (ha : SAv X K E es fs) (hl : fs.length + dd.length + 1 = np) (hd : ∀ G, DqAll K G dvs dd) (hs : ∀ z, starEach (eb :: es) (X z).env = (false, eval eb (X z).env) :: starEach es (X z).env)
    (hp : ∀ t, (∀ z, PA (X z) (eb :: es) t) → ∀ z, PE (X z) e (tCall (spF K true np g) dvs E0 t)) : SE X K E e (eCallB g i fs dd) := by
  obtain ⟨t, pa, h⟩ := ha.ex
  refine ⟨_, hp _ fun z => pa_cons (hb z) (pa z) (hs z), fun io L G σ s H Q w hf => ?_⟩
  unfold eCallB at hf
  split at hf
  · exact hf.elim
  · rename_i ds0 e0
    obtain ⟨a, xs0, e1, _⟩ := w.cell e0
    refine ⟨_, e1, ?_⟩
    refine h (fk_fin (Q := Q)) w hf fun vs ds s' G' H' sb w' rs hds f => ?_
    split at f
    · exact f.elim
    · rename_i bs ec
      obtain ⟨a', xs, e2, ga, la, hx, rx, _⟩ := w'.cell ec
      rw [e1] at e2; cases e2
      refine ⟨G', some a, ds ++ dd, bs, vs ++ dvs, w'.sub, rfl, rfl, rs.append (hd G'), ?_, fun b h => (by cases h; exact ⟨ga, xs, hx, rx⟩), ?_⟩
      · rw [List.length_append, List.length_cons, rs.length, (hd G').length, hds]; omega
      · cases eg : g (ds ++ dd) bs with
        | stuck => rw [eg] at f; exact f.elim
        | exc _ _ _ => rw [eg] at f; exact f.elim
        | ok r bs' =>
          rw [eg] at f
          intro G2 H2 x
          exact ret_caller (w'.extBNew ec e1 x) x.g f
end
end L3

/-! sorted of a list or a tuple of data -/
namespace L3
open PySem PySem.W PySem.Calls PySem.Spec PyProof.Rows L2
section
variable {prog : Program} {w : World} {A : Around} {E : Value → Shared → Prop} {s : Shared} {M : Model}
theorem collect_tuple {l : Addr} {vs : List Value} {Q : List Value → Shared → Prop} (hl : s.heap.IsTuple l vs.toArray)
    (h : Q vs { s with heap := (s.heap.push (seqObj "list" #[] 0)).update s.heap.objs.size (Obj.mapSeq (· ++ vs.toArray)) }) (hsz : vs.length ≤ sizeLine) :
    wpAny (model prog w) A (collect (.ref l)) Q E s := by
  obtain ⟨o, ho, hc, n, hd⟩ := id hl
  unfold collect
  refine wpAny_bind (wpAny_runValue (codeAny_builtin entry_proto_collect' ?_))
  show wpAny _ _ (do again (.builtin "list.__iadd__" ⟨[← newList [], .ref l], []⟩)) _ _ s
  refine wpAny_bind (wpAny_newList (wpAny_pure ⟨Code.quiet_builtin _ (by decide +kernel), codeAny_builtin entry_list_iadd' ?_⟩))
  show wpAny _ _ (Builtin.List.listExtendWith (.ref s.heap.objs.size) (.ref l) (.ref s.heap.objs.size)) _ _ { s with heap := s.heap.push (seqObj "list" #[] 0) }
  unfold Builtin.List.listExtendWith
  have ho' : (s.heap.push (seqObj "list" #[] 0)).get? l = some o := Heap.get?_push_of_some _ ho
  refine wpAny_bind (wpAny_typeOf (T := "tuple") ⟨o, ho', hc⟩ ?_)
  have ht : (Value.type "tuple" == Value.type "tuple") = true := by rfl
  rw [if_pos (by rw [ht]; simp)]
  refine wpAny_bind (listItems_at ho' hd ?_)
  refine wpAny_bind (listItems_at (xs := #[]) (n := 0) (Heap.get?_push_size _ rfl) rfl ?_)
  rw [if_neg (by simp)]
  refine wpAny_bind (listUpdate_at (xs := #[]) (n := 0) (Heap.get?_push_size _ rfl) rfl ?_ (Nat.zero_le _) (by show (#[] ++ vs.toArray).size ≤ sizeLine + 1; simp only [Array.size_append, List.size_toArray, List.length_nil]; omega))
  refine wpAny_pure ?_
  show wpAny (model prog w) A (do
      let o ← load s.heap.objs.size
      match o.data with
      | .seq xs _ => pure xs.toList
      | _ => unsupported "internal:collect") Q E { s with heap := (s.heap.push (seqObj "list" #[] 0)).update s.heap.objs.size (Obj.mapSeq (· ++ vs.toArray)) }
  refine wpAny_bind (wpAny_load (get?_update_seq (Heap.get?_push_size _ rfl) _) ?_)
  show wpAny _ _ (pure ((#[] : Array Value) ++ vs.toArray).toList) Q E _
  rw [show ((#[] : Array Value) ++ vs.toArray).toList = vs by simp]
  exact wpAny_pure h
theorem sorted_of_sortT {l : Addr} {vs : List Value} {kw : List (Str × Value)} {Q : Value → Shared → Prop} (hl : s.heap.IsTuple l vs.toArray) (hL : vs.length ≤ sizeLine) (ha1 : argsOk "sorted" ⟨[.ref l], kw⟩) (ha2 : ∀ x, argsOk "list.sort" ⟨[x], kw⟩)
    (body : ∀ E' : Value → Shared → Prop, wpAny (model prog w) A.in1.in1 (Builtin.«list.sort» ⟨[.ref (s.heap.objs.size + 1)], kw⟩) (fun f s' => f = .done (.ret .none) ∧ Q (.ref (s.heap.objs.size + 1)) s') E' { s with heap := copyHeap s.heap vs }) :
    wpAny (model prog w) A (call (.builtin "sorted") [.ref l] kw) Q E s := by
  refine call_function_entry_kw kind_sorted plain_sorted entry_sorted ha1 ?_
  unfold Builtin.«sorted»
  refine wpAny_bind (m := checkCount "sorted" 1 1 _) (wpAny_pure ?_)
  refine wpAny_bind (collect_tuple hl ?_ hL)
  refine wpAny_bind (wpAny_newList ?_ hL)
  have hsz : ((s.heap.push (seqObj "list" #[] 0)).update s.heap.objs.size (Obj.mapSeq (· ++ vs.toArray))).objs.size = s.heap.objs.size + 1 := by
    rw [Heap.size_update, size_push']
  show wpAny _ _ _ _ _ { s with heap := copyHeap s.heap vs }
  rw [hsz]
  refine wpAny_bind (wpAny_holding (wpAny_call_entry_kw slot_list_sort ⟨_, copyHeap_at s.heap vs, rfl⟩ entry_list_sort ?body (ha2 _)))
  case body =>
    show wpAny (model prog w) A.in1.in1 (Builtin.«list.sort» ⟨[.ref (s.heap.objs.size + 1)], kw⟩) _ _ _
    refine wpAny_mono (body _) (fun f s' hf => ?_) fun _ _ e => e
    obtain ⟨rfl, hq⟩ := hf
    exact ⟨_, rfl, wpAny_pure ⟨_, rfl, hq⟩⟩
variable {β : Type} {vs : List Value} {bs : List β} {enc : β → PyData} {R : Value → β → Prop}
/-- sorted(xs, reverse=b) or sorted(xs), of a list or of a tuple -/
theorem sorted_any {l : Addr} {Q : Value → Shared → Prop} (hl : s.heap.IsList l vs.toArray ∨ s.heap.IsTuple l vs.toArray) (e : EachIs R vs bs) (er : EachIs (fun v b => ∃ as, Reads s.heap v (enc b) as) vs bs) (hal : AllAlike (bs.map enc)) (hk : Sortable (bs.map enc)) (hL : bs.length ≤ sizeLine)
    (hu : ∀ b, b ∈ bs → A.units + 2 + (enc b).depth < cLine) (h : ∀ out, out.length = bs.length → EachIs R out (bs.mergeSort (dataLe false enc)) → Q (.ref (s.heap.objs.size + 1)) { s with heap := sortedAll s.heap vs (List.toArray out) }) :
    wpAny (model prog w) A (call (.builtin "sorted") [.ref l]) Q E s := by
  rcases hl with hl | hl
  · exact sorted_data hl e er hal hk hL hu h
  · have er' : EachIs (fun v b => ∃ as, Reads (sortingHeap (copyHeap s.heap vs) (s.heap.objs.size + 1) vs) v (enc b) as) vs bs := er.mono fun _ _ ⟨as, r⟩ => ⟨as, PyProof.Rows.Reads.keeps (fun _ _ => sorting_copy_old) r⟩
    have S := SortsAt.data (prog := prog) (w := w) (A := A.in1.in1) (s := { s with heap := sortingHeap (copyHeap s.heap vs) (s.heap.objs.size + 1) vs }) (each_map (R := fun v d => ∃ as, Reads (sortingHeap (copyHeap s.heap vs) (s.heap.objs.size + 1) vs) v d as) enc er') hal hk (bound_map hu)
    have hL' : vs.length ≤ sizeLine := by rw [e.length]; exact hL
    exact sorted_of_sortT hl hL' (args_sorted1 _) (fun _ => args_list_sort _) fun _ => list_sort_vals (s := { s with heap := copyHeap s.heap vs }) (copyHeap_at s.heap vs) S hL' ⟨rfl, h _ (by rw [sortVals_length false rfl]; exact e.length) (sortVals_data false e er' hal)⟩
end
end L3

namespace L3
open PySem PySem.W PySem.Spec PyProof.Rows L2

/-! ### what operators are worth -/
def pAdd : D → D → Option PO
  | .int i, .int j => some (.d (.int (i + j)))
  | .list xs, .list ys => if xs.length + ys.length ≤ sizeLine then some (.l (xs ++ ys)) else none
  | .tuple xs, .tuple ys => if xs.length + ys.length ≤ sizeLine then some (.t (xs ++ ys)) else none
  | .str x, .str y => if x.length + y.length ≤ sizeLine then some (.d (.str (x ++ y))) else none
  | _, _ => none
def pSub : D → D → Option PO
  | .int i, .int j => some (.d (.int (i - j)))
  | _, _ => none
def pMul : D → D → Option PO
  | .int i, .int j => if i.natAbs.log2 + j.natAbs.log2 < 1000000 then some (.d (.int (i * j))) else none
  | .list xs, .int k => if -(2 ^ 63) ≤ k ∧ k < 2 ^ 63 ∧ xs.length * k.toNat ≤ sizeLine then some (.l (List.replicate k.toNat xs).flatten) else none
  | _, _ => none
def pDiv : D → D → Option PO
  | .int i, .int j => if 0 < j ∧ j.natAbs.log2 < 9000 then some (.d (.int (i / j))) else none
  | _, _ => none
def pMod : D → D → Option PO
  | .int i, .int j => if 0 < j then some (.d (.int (i % j))) else none
  | _, _ => none
def pPow : D → D → Option PO
  | .int i, .int j => if 0 ≤ j ∧ j ≤ 1000000 ∧ i.natAbs < 2 ^ 64 then some (.d (.int (i ^ j.toNat))) else none
  | _, _ => none
def pNeg : D → Option PO
  | .int i => some (.d (.int (-i)))
  | _ => none
def ordOk (x y : D) : Bool := alike x y && (match x with | .none => false | _ => true) && decide (x.depth ≤ 60)
def pLt : D → D → Option Bool
  | .int i, .int j => some (decide (i < j))
  | x, y => if ordOk x y then some (dataLt x y) else none
def pLe : D → D → Option Bool
  | .int i, .int j => some (decide (i ≤ j))
  | x, y => if ordOk x y then some (!dataLt y x) else none
def pGt : D → D → Option Bool
  | .int i, .int j => some (decide (j < i))
  | x, y => if ordOk x y then some (dataLt y x) else none
def pGe : D → D → Option Bool
  | .int i, .int j => some (decide (j ≤ i))
  | x, y => if ordOk x y then some (!dataLt x y) else none
def pEq (x y : D) : Option Bool := if SeqAt.shaped x && SeqAt.shaped y then some (PyData.eqv x y) else none
def pNe (x y : D) : Option Bool := (pEq x y).map (!·)
def inOk (x : D) (ys : List D) : Bool := x.plain && PyData.plainAll ys && decide (x.depth ≤ 60)
def pIn (x y : D) : Option Bool := match y with
  | .list ys => if inOk x ys then some (ys.any fun z => PyData.eqv z x) else none
  | .tuple ys => if inOk x ys then some (ys.any fun z => PyData.eqv z x) else none
  | _ => none
def pNotIn (x y : D) : Option Bool := (pIn x y).map (!·)
def isNone : D → Bool
  | .none => true
  | _ => false
def bO (f : D → D → Option Bool) (x y : D) : Option PO := (f x y).map fun c => .d (.bool c)
mutual
def noDict : D → Bool
  | .dict _ => false
  | .list xs => noDictAll xs
  | .tuple xs => noDictAll xs
  | _ => true
def noDictAll : List D → Bool
  | [] => true
  | x :: xs => noDict x && noDictAll xs
end
mutual
theorem dq_dp {K : PySem.W.Frag} {H : Hp} : ∀ {d : D} {v : V}, noDict d = true → Dq K H v d → Dp K H v d
  | .none, _, _, h => by cases h; exact .non
  | .bool b, _, _, h => by cases h; exact .bl b
  | .int i, _, _, h => by cases h; exact .int i
  | .str x, _, _, h => by cases h; exact .str x
  | .list ds, _, n, h => by cases h with | lst h1 h2 => exact .lst (SqL.of h1) (dq_dpAll (by simpa [noDict] using n) h2)
  | .tuple ds, _, n, h => by cases h with | tup h1 h2 => exact .tup h1 (dq_dpAll (by simpa [noDict] using n) h2)
  | .dict _, _, n, _ => absurd n (by simp [noDict])
theorem dq_dpAll {K : PySem.W.Frag} {H : Hp} : ∀ {ds : List D} {vs : List V}, noDictAll ds = true → DqAll K H vs ds → DpAll K H vs ds
  | [], _, _, h => by cases h; exact .nil
  | d :: ds, _, n, h => by
    rw [noDictAll, Bool.and_eq_true] at n
    cases h with
    | cons h1 h2 => exact .cons (dq_dp n.1 h1) (dq_dpAll n.2 h2)
end
mutual
theorem noDict_lay : ∀ {d : D}, d.canLay0 = true → noDict d = true
  | .none, _ => rfl
  | .bool _, _ => rfl
  | .int _, _ => rfl
  | .str _, _ => rfl
  | .list xs, h => by rw [noDict]; exact noDict_layAll (by simpa [PyData.canLay0] using h)
  | .tuple xs, h => by rw [noDict]; exact noDict_layAll (by simpa [PyData.canLay0] using h)
  | .dict _, h => absurd h (by simp [PyData.canLay0])
theorem noDict_layAll : ∀ {ds : List D}, PyData.canLayAll0 ds = true → noDictAll ds = true
  | [], _ => rfl
  | d :: ds, h => by
    rw [PyData.canLayAll0, Bool.and_eq_true] at h
    rw [noDictAll, noDict_lay h.1, noDict_layAll h.2]; rfl
end
mutual
theorem noDict_plain : ∀ {d : D}, d.plain = true → noDict d = true
  | .none, _ => rfl
  | .bool _, _ => rfl
  | .int _, _ => rfl
  | .str _, _ => rfl
  | .list xs, h => by rw [noDict]; exact noDict_plainAll (by simpa [PyData.plain] using h)
  | .tuple xs, h => by rw [noDict]; exact noDict_plainAll (by simpa [PyData.plain] using h)
  | .dict _, h => absurd h (by simp [PyData.plain])
theorem noDict_plainAll : ∀ {ds : List D}, PyData.plainAll ds = true → noDictAll ds = true
  | [], _ => rfl
  | d :: ds, h => by
    rw [PyData.plainAll, Bool.and_eq_true] at h
    rw [noDictAll, noDict_plain h.1, noDict_plainAll h.2]; rfl
end
section
variable {X : Cx}
/-- the rule of a comparison of data -/
def rD2 (K : PySem.W.Frag) (p : D → D → Option Bool) : R2 := fun x y H Q => ∃ d e b, Dq K H x d ∧ Dq K H y e ∧ noDict d = true ∧ noDict e = true ∧ p d e = some b ∧ Q (.bl b) H
theorem rd2_of {p : D → D → Option Bool} {op : CmpOp} (h : ∀ (s : Shared) (v u : Value) (d e : D) (as bs : List Addr) (b : Bool) (Q : Value → Shared → Prop), Reads s.heap v d as → Reads s.heap u e bs → p d e = some b → Q (.bool b) s → wpAny (model X.prog X.w) X.A (compareOp op v u) Q X.xe s) :
    OpR X (compareOp op) (rD2 X.K p) := by
  intro pins s σ H x y v u Q I rx ry h'
  obtain ⟨d, e, b, hd, he, nd, ne, hp, q⟩ := h'
  obtain ⟨as, r1⟩ := Dp.reads I d x v (dq_dp nd hd) rx
  obtain ⟨bs, r2⟩ := Dp.reads I e y u (dq_dp ne he) ry
  exact h s v u d e as bs b _ r1 r2 hp ⟨.bl b, H, I, rfl, q⟩
theorem ordOk_of {x y : D} (h : ordOk x y = true) : alike x y = true ∧ x ≠ .none ∧ x.depth ≤ 60 := by
  unfold ordOk at h
  rw [Bool.and_eq_true, Bool.and_eq_true] at h
  refine ⟨h.1.1, fun e => ?_, of_decide_eq_true h.2⟩
  rw [e] at h; exact absurd h.1.2 (by decide)
theorem ord_room {A : Around} {x y : D} (hu : A.units + 64 < cLine) (h : x.depth ≤ 60) : A.units + min x.depth y.depth < cLine := by
  have := Nat.min_le_left x.depth y.depth
  omega
theorem op_ltD (hu : X.A.units + 64 < cLine) : OpR X (compareOp .Lt) (rD2 X.K pLt) := rd2_of fun s v u d e as bs b Q r1 r2 hp q => by
  unfold pLt at hp
  split at hp
  · cases r1; cases r2; cases hp; exact lt_int q
  · split at hp
    · rename_i ho
      obtain ⟨h1, h2, h3⟩ := ordOk_of ho
      cases hp
      exact lt_data r1 r2 h1 h2 (ord_room hu h3) q
    · cases hp
theorem op_leD (hu : X.A.units + 64 < cLine) : OpR X (compareOp .LtE) (rD2 X.K pLe) := rd2_of fun s v u d e as bs b Q r1 r2 hp q => by
  unfold pLe at hp
  split at hp
  · cases r1; cases r2; cases hp; exact le_int q
  · split at hp
    · rename_i ho
      obtain ⟨h1, h2, h3⟩ := ordOk_of ho
      cases hp
      exact le_data r1 r2 h1 h2 (ord_room hu h3) q
    · cases hp
theorem op_gtD (hu : X.A.units + 64 < cLine) : OpR X (compareOp .Gt) (rD2 X.K pGt) := rd2_of fun s v u d e as bs b Q r1 r2 hp q => by
  unfold pGt at hp
  split at hp
  · cases r1; cases r2; cases hp; exact gt_int q
  · split at hp
    · rename_i ho
      obtain ⟨h1, h2, h3⟩ := ordOk_of ho
      cases hp
      exact gt_data r1 r2 h1 h2 (ord_room hu h3) q
    · cases hp
theorem op_geD (hu : X.A.units + 64 < cLine) : OpR X (compareOp .GtE) (rD2 X.K pGe) := rd2_of fun s v u d e as bs b Q r1 r2 hp q => by
  unfold pGe at hp
  split at hp
  · cases r1; cases r2; cases hp; exact ge_int q
  · split at hp
    · rename_i ho
      obtain ⟨h1, h2, h3⟩ := ordOk_of ho
      cases hp
      exact ge_data r1 r2 h1 h2 (ord_room hu h3) q
    · cases hp
theorem op_eqP (hu : X.A.units + 64 < cLine) : OpR X (compareOp .Eq) (rD2 X.K pEq) := rd2_of fun s v u d e as bs b Q r1 r2 hp q => by
  unfold pEq at hp
  split at hp
  · rename_i ho
    rw [Bool.and_eq_true] at ho
    cases hp
    exact SeqAt.compareEq_shaped r1 r2 ho.1 ho.2 hu q
  · cases hp
theorem op_neP (hu : X.A.units + 64 < cLine) : OpR X (compareOp .NotEq) (rD2 X.K pNe) := rd2_of fun s v u d e as bs b Q r1 r2 hp q => by
  unfold pNe pEq at hp
  split at hp
  · rename_i ho
    rw [Bool.and_eq_true] at ho
    cases hp
    exact SeqAt.compareNe_shaped r1 r2 ho.1 ho.2 hu q
  · cases hp
theorem inOk_of {x : D} {ys : List D} (h : inOk x ys = true) : x.plain = true ∧ PyData.plainAll ys = true ∧ x.depth ≤ 60 := by
  unfold inOk at h
  rw [Bool.and_eq_true, Bool.and_eq_true] at h
  exact ⟨h.1.1, h.1.2, of_decide_eq_true h.2⟩
theorem in_room {A : Around} {x : D} {n : Nat} (hu : A.units + 64 < cLine) (h : x.depth ≤ 60) : A.units + 1 + min n x.depth < cLine := by
  have := Nat.min_le_right n x.depth
  omega
theorem op_inP (hu : X.A.units + 64 < cLine) : OpR X (compareOp .In) (rD2 X.K pIn) := rd2_of fun s v u d e as bs b Q r1 r2 hp q => by
  unfold pIn at hp
  split at hp
  · split at hp
    · rename_i ho
      obtain ⟨h1, h2, h3⟩ := inOk_of ho
      cases hp
      exact SeqAt.in_list_data r2 r1 h2 h1 (in_room hu h3) q
    · cases hp
  · split at hp
    · rename_i ho
      obtain ⟨h1, h2, h3⟩ := inOk_of ho
      cases hp
      exact SeqAt.in_tuple_data r2 r1 h2 h1 (in_room hu h3) q
    · cases hp
  · cases hp
theorem op_notInP (hu : X.A.units + 64 < cLine) : OpR X (compareOp .NotIn) (rD2 X.K pNotIn) := rd2_of fun s v u d e as bs b Q r1 r2 hp q => by
  unfold pNotIn pIn at hp
  split at hp
  · split at hp
    · rename_i ho
      obtain ⟨h1, h2, h3⟩ := inOk_of ho
      cases hp
      exact SeqAt.notIn_list_data r2 r1 h2 h1 (in_room hu h3) q
    · cases hp
  · split at hp
    · rename_i ho
      obtain ⟨h1, h2, h3⟩ := inOk_of ho
      cases hp
      exact SeqAt.notIn_tuple_data r2 r1 h2 h1 (in_room hu h3) q
    · cases hp
  · cases hp
/-- comparisons ask that no script stands within -/
def nd2 (p : D → D → Option Bool) (x y : D) : Option Bool := if noDict x && noDict y then p x y else none
theorem prim_rd2 {K : PySem.W.Frag} {p : D → D → Option Bool} : Prim2 K (rD2 K p) (bO (nd2 p)) := fun G H v u x y z Q sb rx ry hz rt => by
  unfold bO nd2 at hz
  split at hz
  · rename_i n
    rw [Bool.and_eq_true] at n
    cases e : p x y with
    | none => rw [e] at hz; cases hz
    | some b => rw [e] at hz; cases hz; exact ⟨x, y, b, rx.dp sb, ry.dp sb, n.1, n.2, e, rt _ (.bl b)⟩
  · cases hz
theorem nd2_some {p : D → D → Option Bool} {x y : D} {b : Bool} (h : p x y = some b) (h1 : noDict x = true) (h2 : noDict y = true) : nd2 p x y = some b := by unfold nd2; rw [h1, h2]; exact h

/-! arithmetic -/
def rAddD (K : PySem.W.Frag) : R2 := fun x y H Q => (rI0 fun i j => V.int (i + j)) x y H Q ∨ rCat x y H Q ∨ rCatA K x y H Q ∨ (∃ i j, x = .str i ∧ y = .str j ∧ i.length + j.length ≤ sizeLine ∧ Q (.str (i ++ j)) H)
theorem op_addD : OpR X (binaryOp .Add) (rAddD X.K) := op_add.or (op_cat.or (op_catA.or op_add_str))
theorem dqAll_nil {K : PySem.W.Frag} {G : Hp} {xs : List V} {ds : List D} (h : DqAll K G xs ds) : xs = [] ↔ ds = [] := by
  cases h <;> simp
theorem prim_add {K : PySem.W.Frag} : Prim2 K (rAddD K) pAdd := fun G H v u x y z Q sb rx ry hz rt => by
  unfold pAdd at hz
  split at hz
  · cases hz; exact .inl ⟨_, _, rx.int, ry.int, rt _ (.int _)⟩
  · split at hz
    · rename_i hl
      cases hz
      obtain ⟨a, xs, rfl, h1, r1⟩ := rx.list sb
      obtain ⟨b, ys, rfl, h2, r2⟩ := ry.list sb
      exact .inr (.inl ⟨a, b, xs, ys, rfl, rfl, h1, h2, by rw [r1.length, r2.length]; exact hl, fun p hp => rt p _ hp (r1.append r2)⟩)
    · cases hz
  · split at hz
    · rename_i hl
      cases hz
      obtain ⟨a, xs, rfl, h1, r1⟩ := rx.tuple sb
      obtain ⟨b, ys, rfl, h2, r2⟩ := ry.tuple sb
      refine .inr (.inr (.inl ⟨a, b, xs, ys, rfl, rfl, h1, h2, by rw [r1.length, r2.length]; exact hl, fun e => ?_, fun _ e => ?_, fun _ _ p hp => rt.2 p _ hp (r1.append r2)⟩))
      · have e' := (dqAll_nil r1).mp e
        subst e'
        cases ry with
        | fz ry => exact rt.1 _ ry
      · have e' := (dqAll_nil r2).mp e
        subst e'
        cases rx with
        | fz rx => exact rt.1 _ (by rw [List.append_nil]; exact rx)
    · cases hz
  · split at hz
    · rename_i hl
      cases hz
      exact .inr (.inr (.inr ⟨_, _, rx.str, ry.str, hl, rt _ (.str _)⟩))
    · cases hz
  · cases hz
theorem prim_int2 {K : PySem.W.Frag} {C : Int → Int → Prop} [∀ i j, Decidable (C i j)] {g : Int → Int → Int} {p : D → D → Option PO} (hp : ∀ i j, p (.int i) (.int j) = if C i j then some (.d (.int (g i j))) else none) (hn : ∀ x y z, p x y = some z → ∃ i j, x = .int i ∧ y = .int j) : Prim2 K (rI C fun i j => .int (g i j)) p := fun G H v u x y z Q sb rx ry hz rt => by
  obtain ⟨i, j, rfl, rfl⟩ := hn x y z hz
  rw [hp] at hz
  split at hz
  · rename_i hc; cases hz; exact ⟨i, j, rx.int, ry.int, hc, rt _ (.int _)⟩
  · cases hz
theorem prim_sub {K : PySem.W.Frag} : Prim2 K (rI0 fun i j => .int (i - j)) pSub := fun G H v u x y z Q sb rx ry hz rt => by
  unfold pSub at hz
  split at hz
  · cases hz; exact ⟨_, _, rx.int, ry.int, rt _ (.int _)⟩
  · cases hz
instance (i j : Int) : Decidable (CDivW i j) := by unfold CDivW; infer_instance
theorem prim_div {K : PySem.W.Frag} : Prim2 K (rI CDivW fun i j => .int (i / j)) pDiv := prim_int2 (fun i j => rfl) fun x y z h => by
  unfold pDiv at h; split at h
  · exact ⟨_, _, rfl, rfl⟩
  · cases h
theorem prim_mod {K : PySem.W.Frag} : Prim2 K (rI (fun _ j => 0 < j) fun i j => .int (i % j)) pMod := prim_int2 (fun i j => rfl) fun x y z h => by
  unfold pMod at h; split at h
  · exact ⟨_, _, rfl, rfl⟩
  · cases h
instance (i j : Int) : Decidable (CPow i j) := by unfold CPow; infer_instance
theorem prim_pow {K : PySem.W.Frag} : Prim2 K (rI CPow fun i j => .int (i ^ j.toNat)) pPow := prim_int2 (fun i j => rfl) fun x y z h => by
  unfold pPow at h; split at h
  · exact ⟨_, _, rfl, rfl⟩
  · cases h
def rMulD : R2 := fun x y H Q => rI CMulW (fun i j => V.int (i * j)) x y H Q ∨ rRep x y H Q
theorem op_mulD : OpR X (binaryOp .Mult) rMulD := op_mulW.or op_rep
theorem dq_rep {K : PySem.W.Frag} {G : Hp} {xs : List V} {ds : List D} (h : DqAll K G xs ds) : ∀ n, DqAll K G (List.replicate n xs).flatten (List.replicate n ds).flatten
  | 0 => .nil
  | n + 1 => by rw [List.replicate_succ, List.replicate_succ, List.flatten_cons, List.flatten_cons]; exact h.append (dq_rep h n)
theorem prim_mul {K : PySem.W.Frag} : Prim2 K rMulD pMul := fun G H v u x y z Q sb rx ry hz rt => by
  unfold pMul at hz
  split at hz
  · split at hz
    · rename_i hc; cases hz; exact .inl ⟨_, _, rx.int, ry.int, hc, rt _ (.int _)⟩
    · cases hz
  · split at hz
    · rename_i hc
      cases hz
      obtain ⟨a, xs, rfl, h1, r1⟩ := rx.list sb
      exact .inr ⟨a, _, xs, rfl, ry.int, h1, hc.1, hc.2.1, by rw [r1.length]; exact hc.2.2, fun p hp => rt p _ hp (dq_rep r1 _)⟩
    · cases hz
  · cases hz
theorem prim_neg {K : PySem.W.Frag} : Prim1 K (rU fun i => .int (-i)) pNeg := fun G H v x z Q sb rx hz rt => by
  unfold pNeg at hz
  split at hz
  · cases hz; exact ⟨_, rx.int, rt _ (.int _)⟩
  · cases hz

/-! is -/
def pIsN (x y : D) : Option Bool := match y with
  | .none => some (isNone x)
  | _ => none
def pNotN (x y : D) : Option Bool := (pIsN x y).map (!·)
def pIsB (x y : D) : Option Bool := match x, y with
  | .bool a, .bool b => some (decide (a = b))
  | .bool _, .none => some false
  | _, .none => some (isNone x)
  | _, .bool _ => some false
  | _, _ => none
theorem rp_none {K : PySem.W.Frag} {G H : Hp} {v : V} {x : D} (h : Rp K G H v x) : decide (v = .non) = isNone x := by
  cases h with
  | fz h => cases h <;> rfl
  | cell _ _ => rfl
theorem prim_isN {K : PySem.W.Frag} : Prim2 K (fun x y H Q => y = .non ∧ Q (.bl (decide (x = .non))) H) (bO pIsN) := fun G H v u x y z Q sb rx ry hz rt => by
  unfold bO pIsN at hz
  cases y with
  | none => cases hz; exact ⟨ry.none, by rw [rp_none rx]; exact rt _ (.bl _)⟩
  | _ => cases hz
theorem prim_notN {K : PySem.W.Frag} : Prim2 K (fun x y H Q => y = .non ∧ Q (.bl (!decide (x = .non))) H) (bO pNotN) := fun G H v u x y z Q sb rx ry hz rt => by
  unfold bO pNotN pIsN at hz
  cases y with
  | none => cases hz; exact ⟨ry.none, by rw [rp_none rx]; exact rt _ (.bl _)⟩
  | _ => cases hz
end
end L3

namespace L3
open PySem PySem.W PySem.Spec PyProof.Rows L2

/-! ### calls of built-ins -/
def pLen : List D → Option PO
  | [.list xs] => some (.d (.int xs.length))
  | [.tuple xs] => some (.d (.int xs.length))
  | [.str x] => if x.length ≤ sizeLine then some (.d (.int x.length)) else none
  | [.dict kvs] => some (.d (.int kvs.length))
  | _ => none
def pListOf : List D → Option PO
  | [.list xs] => some (.l xs)
  | [.tuple xs] => some (.l xs)
  | _ => none
def pTupleOf : List D → Option PO
  | [.list xs] => some (.t xs)
  | [.tuple xs] => some (.d (.tuple xs))
  | _ => none
def intsOf : List D → Option (List Int)
  | [] => some []
  | .int n :: ds => (intsOf ds).map (n :: ·)
  | _ :: _ => none
def boolsOf : List D → Option (List Bool)
  | [] => some []
  | .bool n :: ds => (boolsOf ds).map (n :: ·)
  | _ :: _ => none
def pSum : List D → Option PO
  | [.list xs] => (intsOf xs).map fun ns => .d (.int ns.sum)
  | _ => none
def pAny : List D → Option PO
  | [.list xs] => (boolsOf xs).map fun bs => .d (.bool (bs.any id))
  | _ => none
def pAll : List D → Option PO
  | [.list xs] => (boolsOf xs).map fun bs => .d (.bool (bs.all id))
  | _ => none
def pAbs : List D → Option PO
  | [.int i] => some (.d (.int (if i < 0 then -i else i)))
  | _ => none
def pInt : List D → Option PO
  | [.int i] => some (.d (.int i))
  | [.bool k] => some (.d (.int (if k then 1 else 0)))
  | _ => none
def pMax2 : List D → Option PO
  | [.int i, .int j] => some (.d (.int (if j > i then j else i)))
  | _ => none
def pMin2 : List D → Option PO
  | [.int i, .int j] => some (.d (.int (if j < i then j else i)))
  | _ => none
/-- max, min of one list or tuple of ints -/
def pMax : List D → Option PO
  | [.list xs] => match intsOf xs with
    | some (n :: ns) => some (.d (.int (ns.foldl max n)))
    | _ => none
  | [.tuple xs] => match intsOf xs with
    | some (n :: ns) => some (.d (.int (ns.foldl max n)))
    | _ => none
  | _ => none
def pMin : List D → Option PO
  | [.list xs] => match intsOf xs with
    | some (n :: ns) => some (.d (.int (ns.foldl min n)))
    | _ => none
  | [.tuple xs] => match intsOf xs with
    | some (n :: ns) => some (.d (.int (ns.foldl min n)))
    | _ => none
  | _ => none
def sortOk (xs : List D) : Bool := (xs.all fun x => xs.all fun y => alike x y) && ((xs.all fun x => match x with | .tuple (_ :: _) => true | _ => false) || (xs.all fun x => match x with | .none => false | .tuple _ => false | _ => true)) &&
  (xs.all fun x => decide (x.depth ≤ 60)) && decide (xs.length ≤ sizeLine) && noDictAll xs
def pSorted : List D → Option PO
  | [.list xs] => if sortOk xs then some (.l (xs.mergeSort (dataLe false id))) else none
  | [.tuple xs] => if sortOk xs then some (.l (xs.mergeSort (dataLe false id))) else none
  | _ => none
/-- a type's name against a value's -/
def isTy (n : String) : D → Option Bool
  | .none => some (n == "NoneType")
  | .bool _ => some (n == "bool" || n == "int")
  | .int _ => some (n == "int")
  | .str _ => some (n == "str")
  | .list _ => some (n == "list")
  | .tuple _ => some (n == "tuple")
  | .dict _ => none
theorem intsOf_dq {K : PySem.W.Frag} {G : Hp} : ∀ {ds : List D} {vs : List V} {ns : List Int}, intsOf ds = some ns → DqAll K G vs ds → vs = ns.map V.int ∧ ds = ns.map PyData.int
  | [], _, _, e, h => by cases e; cases h; exact ⟨rfl, rfl⟩
  | .int n :: ds, _, ns, e, h => by
    cases h with
    | cons h1 h2 =>
      cases h1
      unfold intsOf at e
      cases e2 : intsOf ds with
      | none => rw [e2] at e; cases e
      | some ms =>
        rw [e2] at e; cases e
        obtain ⟨a, b⟩ := intsOf_dq e2 h2
        rw [a, b]; exact ⟨rfl, rfl⟩
  | .none :: _, _, _, e, _ => by cases e
  | .bool _ :: _, _, _, e, _ => by cases e
  | .str _ :: _, _, _, e, _ => by cases e
  | .list _ :: _, _, _, e, _ => by cases e
  | .tuple _ :: _, _, _, e, _ => by cases e
  | .dict _ :: _, _, _, e, _ => by cases e
theorem boolsOf_dq {K : PySem.W.Frag} {G : Hp} : ∀ {ds : List D} {vs : List V} {ns : List Bool}, boolsOf ds = some ns → DqAll K G vs ds → vs = ns.map V.bl
  | [], _, _, e, h => by cases e; cases h; rfl
  | .bool n :: ds, _, ns, e, h => by
    cases h with
    | cons h1 h2 =>
      cases h1
      unfold boolsOf at e
      cases e2 : boolsOf ds with
      | none => rw [e2] at e; cases e
      | some ms =>
        rw [e2] at e; cases e
        rw [boolsOf_dq e2 h2]; rfl
  | .none :: _, _, _, e, _ => by cases e
  | .int _ :: _, _, _, e, _ => by cases e
  | .str _ :: _, _, _, e, _ => by cases e
  | .list _ :: _, _, _, e, _ => by cases e
  | .tuple _ :: _, _, _, e, _ => by cases e
  | .dict _ :: _, _, _, e, _ => by cases e
theorem intsOf_map (ns : List Int) : intsOf (ns.map PyData.int) = some ns := by
  induction ns with
  | nil => rfl
  | cons n ns ih => show (intsOf (ns.map PyData.int)).map (n :: ·) = _; rw [ih]; rfl
theorem boolsOf_map (ns : List Bool) : boolsOf (ns.map PyData.bool) = some ns := by
  induction ns with
  | nil => rfl
  | cons n ns ih => show (boolsOf (ns.map PyData.bool)).map (n :: ·) = _; rw [ih]; rfl
section
variable {K : PySem.W.Frag}
theorem prim_len : Prim K (fun xs H Q => ∃ x n, xs = [x] ∧ LenV K x H n ∧ Q (.int n) H) pLen := fun G H vs ds x Q sb rs e rt => by
  unfold pLen at e
  split at e
  · obtain ⟨v, rfl, rv⟩ := rpAll1 rs
    cases e
    obtain ⟨a, ys, rfl, h1, r1⟩ := rv.list sb
    exact ⟨_, _, rfl, .inl ⟨ys, SqL.of h1, rfl⟩, by rw [r1.length]; exact rt _ (.int _)⟩
  · obtain ⟨v, rfl, rv⟩ := rpAll1 rs
    cases e
    obtain ⟨a, ys, rfl, h1, r1⟩ := rv.tuple sb
    exact ⟨_, _, rfl, .inr ⟨ys, h1, rfl⟩, by rw [r1.length]; exact rt _ (.int _)⟩
  · obtain ⟨v, rfl, rv⟩ := rpAll1 rs
    split at e
    · rename_i hl
      cases e
      rw [rv.str]
      exact ⟨_, _, rfl, ⟨hl, rfl⟩, rt _ (.int _)⟩
    · cases e
  · obtain ⟨v, rfl, rv⟩ := rpAll1 rs
    cases e
    cases rv with
    | fz h => cases h with | scr ns h1 => exact ⟨_, _, rfl, .inl ⟨_, sb.l h1, rfl⟩, by rw [List.length_map, ← List.length_map (f := fun n => (PyData.none, PyData.int n))]; exact rt _ (.int _)⟩
  · cases e
theorem prim_list : Prim K (fun xs H Q => ∃ p ys, xs = [.ref p] ∧ (SqL K H p ys ∨ SqT K H p ys) ∧ ∀ l, H l = none → Q (.ref l) (upd H l (.lst ys))) pListOf := fun G H vs ds x Q sb rs e rt => by
  unfold pListOf at e
  split at e
  · obtain ⟨v, rfl, rv⟩ := rpAll1 rs
    cases e
    obtain ⟨a, ys, rfl, h1, r1⟩ := rv.list sb
    exact ⟨_, _, rfl, .inl (SqL.of h1), fun l hl => rt l _ hl r1⟩
  · obtain ⟨v, rfl, rv⟩ := rpAll1 rs
    cases e
    obtain ⟨a, ys, rfl, h1, r1⟩ := rv.tuple sb
    exact ⟨_, _, rfl, .inr h1, fun l hl => rt l _ hl r1⟩
  · cases e
theorem prim_tuple : Prim K (fun xs H Q => ∃ p ys, xs = [.ref p] ∧ ((SqL K H p ys ∧ ∀ l, H l = none → Q (.ref l) (upd H l (.tup ys))) ∨ (SqT K H p ys ∧ Q (.ref p) H))) pTupleOf := fun G H vs ds x Q sb rs e rt => by
  unfold pTupleOf at e
  split at e
  · obtain ⟨v, rfl, rv⟩ := rpAll1 rs
    cases e
    obtain ⟨a, ys, rfl, h1, r1⟩ := rv.list sb
    exact ⟨_, _, rfl, .inl ⟨SqL.of h1, fun l hl => rt.2 l _ hl r1⟩⟩
  · obtain ⟨v, rfl, rv⟩ := rpAll1 rs
    cases e
    cases rv with
    | fz h =>
      have h' := h
      cases h with
      | tup h1 r1 => exact ⟨_, _, rfl, .inr ⟨sb.t h1, rt _ h'⟩⟩
  · cases e
theorem prim_sum : Prim K (rSum K) pSum := fun G H vs ds x Q sb rs e rt => by
  unfold pSum at e
  split at e
  · obtain ⟨v, rfl, rv⟩ := rpAll1 rs
    obtain ⟨a, ys, rfl, h1, r1⟩ := rv.list sb
    rename_i xs
    cases e2 : intsOf xs with
    | none => rw [e2] at e; cases e
    | some ns =>
      rw [e2] at e; cases e
      obtain ⟨z, _⟩ := intsOf_dq e2 r1
      subst z
      exact ⟨a, ns, rfl, SqL.of h1, rt _ (.int _)⟩
  · cases e
theorem prim_any : Prim K (rAny K) pAny := fun G H vs ds x Q sb rs e rt => by
  unfold pAny at e
  split at e
  · obtain ⟨v, rfl, rv⟩ := rpAll1 rs
    obtain ⟨a, ys, rfl, h1, r1⟩ := rv.list sb
    rename_i xs
    cases e2 : boolsOf xs with
    | none => rw [e2] at e; cases e
    | some ns =>
      rw [e2] at e; cases e
      have z := boolsOf_dq e2 r1
      subst z
      exact ⟨a, ns, rfl, SqL.of h1, rt _ (.bl _)⟩
  · cases e
theorem prim_all : Prim K (rAll K) pAll := fun G H vs ds x Q sb rs e rt => by
  unfold pAll at e
  split at e
  · obtain ⟨v, rfl, rv⟩ := rpAll1 rs
    obtain ⟨a, ys, rfl, h1, r1⟩ := rv.list sb
    rename_i xs
    cases e2 : boolsOf xs with
    | none => rw [e2] at e; cases e
    | some ns =>
      rw [e2] at e; cases e
      have z := boolsOf_dq e2 r1
      subst z
      exact ⟨a, ns, rfl, SqL.of h1, rt _ (.bl _)⟩
  · cases e
theorem prim_abs : Prim K (fun xs H Q => ∃ i, xs = [.int i] ∧ Q (.int (if i < 0 then -i else i)) H) pAbs := fun G H vs ds x Q sb rs e rt => by
  unfold pAbs at e
  split at e
  · obtain ⟨v, rfl, rv⟩ := rpAll1 rs
    cases e
    rw [rv.int]; exact ⟨_, rfl, rt _ (.int _)⟩
  · cases e
theorem prim_int : Prim K (fun xs H Q => (∃ i, xs = [.int i] ∧ Q (.int i) H) ∨ ∃ k, xs = [.bl k] ∧ Q (.int (if k then 1 else 0)) H) pInt := fun G H vs ds x Q sb rs e rt => by
  unfold pInt at e
  split at e
  · obtain ⟨v, rfl, rv⟩ := rpAll1 rs
    cases e
    rw [rv.int]; exact .inl ⟨_, rfl, rt _ (.int _)⟩
  · obtain ⟨v, rfl, rv⟩ := rpAll1 rs
    cases e
    rw [rv.bool]; exact .inr ⟨_, rfl, rt _ (.int _)⟩
  · cases e
theorem prim_max2 : Prim K (fun xs H Q => ∃ i j, xs = [.int i, .int j] ∧ Q (.int (if j > i then j else i)) H) pMax2 := fun G H vs ds x Q sb rs e rt => by
  unfold pMax2 at e
  split at e
  · obtain ⟨v, u, rfl, rv, ru⟩ := rpAll2 rs
    cases e
    rw [rv.int, ru.int]; exact ⟨_, _, rfl, rt _ (.int _)⟩
  · cases e
theorem prim_min2 : Prim K (fun xs H Q => ∃ i j, xs = [.int i, .int j] ∧ Q (.int (if j < i then j else i)) H) pMin2 := fun G H vs ds x Q sb rs e rt => by
  unfold pMin2 at e
  split at e
  · obtain ⟨v, u, rfl, rv, ru⟩ := rpAll2 rs
    cases e
    rw [rv.int, ru.int]; exact ⟨_, _, rfl, rt _ (.int _)⟩
  · cases e
end
section
variable {X : Cx}
/-- max, min of a list, a tuple of ints -/
def rMm (K : PySem.W.Frag) (f : Int → Int → Int) : List V → Hp → VK → Prop := fun vs H Q => ∃ (a : Addr) (n : Int) (ns : List Int), vs = [.ref a] ∧ (SqL K H a ((n :: ns).map V.int) ∨ SqT K H a ((n :: ns).map V.int)) ∧ Q (.int (ns.foldl f n)) H
theorem reads_ints {h : Heap} {ns : List Int} : ∀ {its : List Value}, Vals (ns.map V.int) its → ∃ as, ReadsAll h its (ns.map PyData.int) as := by
  induction ns with
  | nil => intro its r; cases r; exact ⟨_, .nil⟩
  | cons n ns ih =>
    intro its r
    cases r with
    | cons r1 r2 =>
      obtain ⟨t, rfl⟩ := r1
      obtain ⟨as, h2⟩ := ih r2
      exact ⟨_, .cons (.int n t) h2⟩
theorem depth_ints (ns : List Int) : PyData.depthAll (ns.map PyData.int) ≤ 1 := by
  induction ns with
  | nil => simp [PyData.depthAll]
  | cons n ns ih => simp only [List.map_cons, PyData.depthAll, PyData.depth]; omega
theorem alike_ints (ns : List Int) : AlikeAll (ns.map PyData.int) := by
  refine ⟨fun x hx y hy => ?_, fun x hx => ?_⟩
  · obtain ⟨i, _, rfl⟩ := List.mem_map.mp hx
    obtain ⟨j, _, rfl⟩ := List.mem_map.mp hy
    rfl
  · obtain ⟨i, _, rfl⟩ := List.mem_map.mp hx
    simp
theorem int_end {pins : List (Addr × Obj)} {σ : L2.St} {H : Hp} {s : Shared} {Q : VK} {n : Int} {v : Value} {h' : Heap} {tk : Nat} {bs : List Addr} (I : Inv X pins σ H s) (q : Q (.int n) H) (r : Reads h' v (.int n) bs) (k : ∀ b o, s.heap.get? b = some o → h'.get? b = some o) : EP X pins σ Q v { s with heap := h', toks := tk } := by
  cases r
  exact ⟨.int n, H, I.kept k, ⟨_, rfl⟩, q⟩
theorem cr_maxP (hc : X.calm = true) (hu : X.A.units + 64 < cLine) : CallR X (.builtin "max") (rMm X.K max) := by
  intro pins s σ H vs us Q I r h
  obtain ⟨a, n, ns, rfl, hs, q⟩ := h
  rw [Vals.ref1 r]
  rcases hs with hs | hs
  · obtain ⟨its, rv, hl, _⟩ := I.list hs
    obtain ⟨as, ra⟩ := reads_ints (h := s.heap) rv
    exact max_list_data (I.ok.hd hc) hl.isList ra (alike_ints (n :: ns)) (by have := depth_ints (n :: ns); simp only [List.map_cons] at this; omega) fun i v h' tk bs _ rd k => by
      rw [maxD_ints] at rd
      exact int_end I q rd k
  · obtain ⟨its, rv, hl, _⟩ := I.tuple hs
    obtain ⟨as, ra⟩ := reads_ints (h := s.heap) rv
    exact max_tuple_data (I.ok.hd hc) (show s.heap.IsTuple a its.toArray from hl) ra (alike_ints (n :: ns)) (by have := depth_ints (n :: ns); simp only [List.map_cons] at this; omega) fun i v h' tk bs _ rd k => by
      rw [maxD_ints] at rd
      exact int_end I q rd k
theorem cr_minP (hc : X.calm = true) (hu : X.A.units + 64 < cLine) : CallR X (.builtin "min") (rMm X.K min) := by
  intro pins s σ H vs us Q I r h
  obtain ⟨a, n, ns, rfl, hs, q⟩ := h
  rw [Vals.ref1 r]
  rcases hs with hs | hs
  · obtain ⟨its, rv, hl, _⟩ := I.list hs
    obtain ⟨as, ra⟩ := reads_ints (h := s.heap) rv
    exact min_list_data (I.ok.hd hc) hl.isList ra (alike_ints (n :: ns)) (by have := depth_ints (n :: ns); simp only [List.map_cons] at this; omega) fun i v h' tk bs _ rd k => by
      rw [minD_ints] at rd
      exact int_end I q rd k
  · obtain ⟨its, rv, hl, _⟩ := I.tuple hs
    obtain ⟨as, ra⟩ := reads_ints (h := s.heap) rv
    exact min_tuple_data (I.ok.hd hc) (show s.heap.IsTuple a its.toArray from hl) ra (alike_ints (n :: ns)) (by have := depth_ints (n :: ns); simp only [List.map_cons] at this; omega) fun i v h' tk bs _ rd k => by
      rw [minD_ints] at rd
      exact int_end I q rd k
theorem prim_mm {K : PySem.W.Frag} {f : Int → Int → Int} {p : List D → Option PO} (h1 : ∀ xs, p [.list xs] = match intsOf xs with | some (n :: ns) => some (.d (.int (ns.foldl f n))) | _ => none)
    (h2 : ∀ xs, p [.tuple xs] = match intsOf xs with | some (n :: ns) => some (.d (.int (ns.foldl f n))) | _ => none) (h3 : ∀ ds x, p ds = some x → (∃ xs, ds = [.list xs]) ∨ ∃ xs, ds = [.tuple xs]) : Prim K (rMm K f) p := fun G H vs ds x Q sb rs e rt => by
  rcases h3 ds x e with ⟨xs, rfl⟩ | ⟨xs, rfl⟩
  · obtain ⟨v, rfl, rv⟩ := rpAll1 rs
    obtain ⟨a, ys, rfl, hh, r1⟩ := rv.list sb
    rw [h1] at e
    split at e
    · rename_i n ns e2
      cases e
      obtain ⟨z, _⟩ := intsOf_dq e2 r1
      subst z
      exact ⟨a, n, ns, rfl, .inl (SqL.of hh), rt _ (.int _)⟩
    · cases e
  · obtain ⟨v, rfl, rv⟩ := rpAll1 rs
    obtain ⟨a, ys, rfl, hh, r1⟩ := rv.tuple sb
    rw [h2] at e
    split at e
    · rename_i n ns e2
      cases e
      obtain ⟨z, _⟩ := intsOf_dq e2 r1
      subst z
      exact ⟨a, n, ns, rfl, .inr hh, rt _ (.int _)⟩
    · cases e
theorem pm_shape {p : List D → Option PO} {ds : List D} {x : PO} (h : p ds = some x) (hp : ∀ ds, (∀ xs, ds ≠ [.list xs]) → (∀ xs, ds ≠ [.tuple xs]) → p ds = none) : (∃ xs, ds = [.list xs]) ∨ ∃ xs, ds = [.tuple xs] := by
  by_cases h1 : ∃ xs, ds = [.list xs]
  · exact .inl h1
  · by_cases h2 : ∃ xs, ds = [.tuple xs]
    · exact .inr h2
    · rw [hp ds (fun xs e => h1 ⟨xs, e⟩) fun xs e => h2 ⟨xs, e⟩] at h; cases h
theorem prim_max {K : PySem.W.Frag} : Prim K (rMm K max) pMax := prim_mm (fun _ => rfl) (fun _ => rfl) fun ds x h => pm_shape h fun ds h1 h2 => by
  unfold pMax; split
  · exact absurd rfl (h1 _)
  · exact absurd rfl (h2 _)
  · rfl
theorem prim_min {K : PySem.W.Frag} : Prim K (rMm K min) pMin := prim_mm (fun _ => rfl) (fun _ => rfl) fun ds x h => pm_shape h fun ds h1 h2 => by
  unfold pMin; split
  · exact absurd rfl (h1 _)
  · exact absurd rfl (h2 _)
  · rfl

/-! sorted -/
def rSortD (K : PySem.W.Frag) : List V → Hp → VK → Prop := fun vs H Q => ∃ (a : Addr) (xs : List V) (ds : List D), vs = [.ref a] ∧ (SqL K H a xs ∨ SqT K H a xs) ∧ DqAll K H xs ds ∧ sortOk ds = true ∧
  ∀ p, H p = none → Q (.ref p) (upd H p (.lst (((xs.zip ds).mergeSort (dataLe false Prod.snd)).map Prod.fst)))
theorem each_zip {K : PySem.W.Frag} {H : Hp} : ∀ {xs : List V} {ds : List D} {its : List Value}, Vals xs its → DqAll K H xs ds → EachIs (fun (u : Value) (b : V × D) => RelV b.1 u) its (xs.zip ds)
  | _, _, _, .nil, h => by cases h; exact .nil
  | _, _, _, .cons r t, h => by cases h with | cons h1 h2 => exact .cons r (each_zip t h2)
theorem each_reads {pins : List (Addr × Obj)} {σ : L2.St} {H : Hp} {s : Shared} (I : Inv X pins σ H s) : ∀ {xs : List V} {ds : List D} {its : List Value}, noDictAll ds = true → Vals xs its → DqAll X.K H xs ds → EachIs (fun (u : Value) (b : V × D) => ∃ as, Reads s.heap u b.2 as) its (xs.zip ds)
  | _, _, _, _, .nil, h => by cases h; exact .nil
  | _, _, _, n, .cons r t, h => by
    cases h with
    | cons h1 h2 =>
      rw [noDictAll, Bool.and_eq_true] at n
      exact .cons (Dp.reads I _ _ _ (dq_dp n.1 h1) r) (each_reads I n.2 t h2)
theorem zip_snd {K : PySem.W.Frag} {H : Hp} : ∀ {xs : List V} {ds : List D}, DqAll K H xs ds → (xs.zip ds).map Prod.snd = ds
  | _, _, .nil => rfl
  | _, _, .cons _ t => by show _ :: (List.zip _ _).map Prod.snd = _; rw [zip_snd t]
theorem vals_each : ∀ {its : List Value} {bs : List (V × D)}, EachIs (fun (u : Value) (b : V × D) => RelV b.1 u) its bs → Vals (bs.map Prod.fst) its
  | _, _, .nil => .nil
  | _, _, .cons r t => .cons r (vals_each t)
theorem sortOk_of {xs : List D} (h : sortOk xs = true) : AllAlike xs ∧ Sortable xs ∧ (∀ x ∈ xs, x.depth ≤ 60) ∧ xs.length ≤ sizeLine ∧ noDictAll xs = true := by
  unfold sortOk at h
  simp only [Bool.and_eq_true, Bool.or_eq_true, List.all_eq_true, decide_eq_true_eq] at h
  obtain ⟨⟨⟨⟨h1, h2⟩, h3⟩, h4⟩, h5⟩ := h
  refine ⟨h1, ?_, h3, h4, h5⟩
  rcases h2 with h2 | h2
  · refine .inl fun d hd => ?_
    have z := h2 d hd
    split at z
    · exact ⟨_, _, rfl⟩
    · cases z
  · refine .inr fun d hd => ?_
    have z := h2 d hd
    refine ⟨fun e => ?_, fun xs e => ?_⟩
    · rw [e] at z; cases z
    · rw [e] at z; cases z
theorem cr_sortP (hu : X.A.units + 64 < cLine) : CallR X (.builtin "sorted") (rSortD X.K) := by
  intro pins s σ H vs us Q I r h
  obtain ⟨a, xs, ds, rfl, hs, hd, ho, q⟩ := h
  rw [Vals.ref1 r]
  obtain ⟨h1, h2, h3, h4, h5⟩ := sortOk_of ho
  obtain ⟨its, rv, hl⟩ : ∃ its : List Value, Vals xs its ∧ (s.heap.IsList a its.toArray ∨ s.heap.IsTuple a its.toArray) := by
    rcases hs with hs | hs
    · obtain ⟨its, rv, hl, _⟩ := I.list hs; exact ⟨its, rv, .inl hl.isList⟩
    · obtain ⟨its, rv, hl, _⟩ := I.tuple hs; exact ⟨its, rv, .inr hl⟩
  have hz : (xs.zip ds).length = ds.length := by rw [← List.length_map (f := Prod.snd), zip_snd hd]
  refine sorted_any hl (each_zip rv hd) (each_reads I h5 rv hd) (by rw [zip_snd hd]; exact h1) (by rw [zip_snd hd]; exact h2) (by rw [hz]; exact h4) (fun b hb => ?_) fun out ho he => ?_
  · have : b.2 ∈ (xs.zip ds).map Prod.snd := List.mem_map.mpr ⟨b, hb, rfl⟩
    rw [zip_snd hd] at this
    have := h3 _ this
    omega
  · obtain ⟨ep, he'⟩ := PyProof.Rows.sortedAll_at s.heap its out.toArray
    have hlen : (((xs.zip ds).mergeSort (dataLe false Prod.snd)).map Prod.fst).length ≤ sizeLine := by
      rw [List.length_map, List.length_mergeSort, hz]; exact h4
    exact ⟨.ref _, upd H (s.heap.objs.size + 1) (.lst (((xs.zip ds).mergeSort (dataLe false Prod.snd)).map Prod.fst)), I.laid (t' := s.toks) (fun _ _ => PyProof.Rows.sortedAll_old) (Nat.le_succ _) ⟨hlen, out, ep, vals_each he, he'⟩, rfl, q _ (I.hok.fresh (Nat.le_succ _))⟩
theorem dq_of_pairs {K : PySem.W.Frag} {G : Hp} : ∀ {l : List (V × D)}, (∀ p ∈ l, Dq K G p.1 p.2) → DqAll K G (l.map Prod.fst) (l.map Prod.snd)
  | [], _ => .nil
  | p :: l, h => .cons (h p List.mem_cons_self) (dq_of_pairs fun q hq => h q (List.mem_cons_of_mem _ hq))
theorem dq_zip_mem {K : PySem.W.Frag} {G : Hp} : ∀ {xs : List V} {ds : List D}, DqAll K G xs ds → ∀ p ∈ xs.zip ds, Dq K G p.1 p.2
  | _, _, .nil, p, h => by cases h
  | _, _, .cons r t, p, h => by
    rcases List.mem_cons.mp h with rfl | h
    · exact r
    · exact dq_zip_mem t p h
theorem sort_dq {K : PySem.W.Frag} {G : Hp} {xs : List V} {ds : List D} (h : DqAll K G xs ds) : DqAll K G (((xs.zip ds).mergeSort (dataLe false Prod.snd)).map Prod.fst) (ds.mergeSort (dataLe false id)) := by
  have e : ds.mergeSort (dataLe false id) = ((xs.zip ds).mergeSort (dataLe false Prod.snd)).map Prod.snd := by
    have := sort_maps (r := dataLe false (Prod.snd : V × D → D)) (s := dataLe false id) (l := xs.zip ds) Prod.snd (fun a _ b _ => rfl)
    rw [this, zip_snd h]
  rw [e]
  exact dq_of_pairs fun p hp => dq_zip_mem h p ((List.mergeSort_perm _ _).mem_iff.mp hp)
theorem prim_sorted {K : PySem.W.Frag} : Prim K (rSortD K) pSorted := fun G H vs ds x Q sb rs e rt => by
  unfold pSorted at e
  split at e
  · obtain ⟨v, rfl, rv⟩ := rpAll1 rs
    split at e
    · rename_i ho
      cases e
      obtain ⟨a, ys, rfl, h1, r1⟩ := rv.list sb
      exact ⟨a, ys, _, rfl, .inl (SqL.of h1), sb.dpAll r1, ho, fun p hp => rt p _ hp (sort_dq r1)⟩
    · cases e
  · obtain ⟨v, rfl, rv⟩ := rpAll1 rs
    split at e
    · rename_i ho
      cases e
      obtain ⟨a, ys, rfl, h1, r1⟩ := rv.tuple sb
      exact ⟨a, ys, _, rfl, .inr h1, sb.dpAll r1, ho, fun p hp => rt p _ hp (sort_dq r1)⟩
    · cases e
  · cases e
end
end L3

namespace L3
open PySem PySem.W PySem.Spec PyProof.Rows L2

/-! ### index, slice -/
def pIx : D → D → Option PO
  | .list xs, .int i => (atI xs i).map .d
  | .tuple xs, .int i => (atI xs i).map .d
  | .dict kvs, .int i => (atI (kvs.map (·.2)) i).map .d
  | _, _ => none
theorem atI_map {α β : Type} (f : α → β) (xs : List α) (i : Int) : atI (xs.map f) i = (atI xs i).map f := by
  unfold atI
  rw [List.length_map]
  cases ixN xs.length i with
  | none => rfl
  | some j => show (xs.map f)[j]? = _; rw [List.getElem?_map]; rfl
theorem prim_ix {K : PySem.W.Frag} : Prim2 K (rIx K) pIx := fun G H v u x y z Q sb rx ry hz rt => by
  unfold pIx at hz
  split at hz
  · rename_i xs i
    obtain ⟨a, ys, rfl, h1, r1⟩ := rx.list sb
    cases e : atI xs i with
    | none => rw [e] at hz; cases hz
    | some d =>
      rw [e] at hz; cases hz
      obtain ⟨w, hw, dw⟩ := atI_dp r1 e
      exact .inl ⟨a, ys, i, w, rfl, ry.int, SqL.of h1, hw, rt w dw⟩
  · rename_i xs i
    obtain ⟨a, ys, rfl, h1, r1⟩ := rx.tuple sb
    cases e : atI xs i with
    | none => rw [e] at hz; cases hz
    | some d =>
      rw [e] at hz; cases hz
      obtain ⟨w, hw, dw⟩ := atI_dp r1 e
      exact .inr (.inl ⟨a, ys, i, w, rfl, ry.int, h1, hw, rt w dw⟩)
  · rename_i kvs i
    cases rx with
    | fz h =>
      cases h with
      | @scr a ns h1 =>
        have em : (ns.map fun n => (PyData.none, PyData.int n)).map (·.2) = ns.map PyData.int := by rw [List.map_map]; rfl
        rw [em, atI_map] at hz
        cases e : atI ns i with
        | none => rw [e] at hz; cases hz
        | some n =>
          rw [e] at hz; cases hz
          exact .inl ⟨a, _, i, .int n, rfl, ry.int, sb.l h1, by rw [atI_map, e]; rfl, rt _ (.int n)⟩
  · cases hz
def cutL {α : Type} (xs : List α) (lo hi : Option Int) : List α := (xs.drop (HT.sIx xs.length 0 lo)).take (HT.sIx xs.length xs.length hi - HT.sIx xs.length 0 lo)
def partOf : Option D → Option (Option Int)
  | none => some none
  | some (.int i) => some (some i)
  | _ => none
def pSl (x : D) (lo hi : Option Int) : Option PO := match x with
  | .list xs => some (.l (cutL xs lo hi))
  | .tuple xs => some (.t (cutL xs lo hi))
  | _ => none
def rSlD (K : PySem.W.Frag) : V → Option Int → Option Int → Hp → VK → Prop := fun x lo hi H Q => rSlL K x lo hi H Q ∨ rSlA K x lo hi H Q
theorem sl_D {X : Cx} : SlR X (rSlD X.K) := sl_list.or sl_tupA
theorem cut_dq {K : PySem.W.Frag} {G : Hp} {xs : List V} {ds : List D} (h : DqAll K G xs ds) (lo hi : Option Int) : DqAll K G (cutV xs lo hi) (cutL ds lo hi) := by
  unfold cutV cutL
  rw [h.length]
  exact (h.drop _).take _
theorem cut_whole {ds : List D} {lo hi : Option Int} (h : HT.sIx ds.length 0 lo = 0 ∧ HT.sIx ds.length ds.length hi = ds.length) : cutL ds lo hi = ds := by
  unfold cutL
  rw [h.1, h.2, List.drop_zero, Nat.sub_zero, List.take_length]
theorem prim_sl {K : PySem.W.Frag} {G H : Hp} {v : V} {x : D} {lo hi : Option Int} {z : PO} {Q : VK} (sb : Sub G H) (rx : Rp K G H v x) (hz : pSl x lo hi = some z) (rt : Ret K G H Q z) : rSlD K v lo hi H Q := by
  unfold pSl at hz
  split at hz
  · cases hz
    obtain ⟨a, ys, rfl, h1, r1⟩ := rx.list sb
    exact .inl ⟨a, ys, rfl, SqL.of h1, fun p hp => rt p _ hp (cut_dq r1 lo hi)⟩
  · rename_i xs
    cases hz
    obtain ⟨a, ys, rfl, h1, r1⟩ := rx.tuple sb
    refine .inr ⟨a, ys, rfl, h1, fun e => ?_, fun _ p hp => rt.2 p _ hp (cut_dq r1 lo hi)⟩
    rw [r1.length] at e
    cases rx with
    | fz rx => exact rt.1 _ (by rw [cut_whole e]; exact rx)
  · cases hz
section
variable {ι : Type} {X : ι → Cx} {K : PySem.W.Frag} {E : WW} {e : Expr}
/-- a slice's part -/
structure SPt (X : ι → Cx) (K : PySem.W.Frag) (E : WW) (e : Option Expr) (f : M (Option Int)) : Prop where
  ex : ∃ t, (∀ z, L2.PO (X z) e t) ∧ ∀ {β : Type} {F : Hp → Out β → Prop} {k : Option Int → M β} {io L G σ s H} {Q : Option Int → Hp → Prop}, FK K E io L σ F → Wd K io L G σ s H → F G (mbind f k s) →
    (∀ o s' G' H', Sub G G' → Wd K io L G' σ s' H' → F G' (k o s') → Q o H') → t σ H Q
def isI : D → M Int
  | .int i => mret i
  | _ => mstuck
theorem sp_none : SPt X K E none (mret none) := ⟨_, fun _ => L2.po_none, fun {β F k io L G σ s H Q} fk w hf hq => hq none s G H (Sub.refl _) w hf⟩
theorem sp_some {a : Expr} {f : M D} (h : SV X K E a f) : SPt X K E (some a) (mbind f fun d => mbind (isI d) fun i => mret (some i)) := by
  obtain ⟨t, pe, h⟩ := h.use
  refine ⟨_, fun z => L2.po_some (pe z), fun {β F k io L G σ s H Q} fk w hf hq => ?_⟩
  rw [mbind_assoc] at hf
  refine h fk w hf fun v d s' G' H' sb w' dp f => ?_
  match d, dp, f with
  | .int i, dp, f => cases dp; exact ⟨i, rfl, hq _ s' G' H' sb w' f⟩
  | .none, _, f => exact (fk.stuck f).elim
  | .bool _, _, f => exact (fk.stuck f).elim
  | .str _, _, f => exact (fk.stuck f).elim
  | .list _, _, f => exact (fk.stuck f).elim
  | .tuple _, _, f => exact (fk.stuck f).elim
  | .dict _, _, f => exact (fk.stuck f).elim
def eSl (a : Opd) (lo hi : M (Option Int)) : M R := opS a fun h => mbind lo fun l => mbind hi fun u => rsv h fun x => mpo (pSl x l u)
theorem se_sl {a : Expr} {lo hi : Option Expr} {oa : Opd} {fl fh : M (Option Int)} {p2 pos : Pos} (hK : ∀ z, (X z).K = K) (h1 : SO X K E a oa) (hl : SPt X K E lo fl) (hh : SPt X K E hi fh) : SE X K E (.Subscript a (.Slice lo hi none p2) pos) (eSl oa fl fh) := by
  obtain ⟨t, pe, h1⟩ := h1.ex
  obtain ⟨tl, pl, hl⟩ := hl.ex
  obtain ⟨th, ph, hh⟩ := hh.ex
  refine ⟨_, fun z => hK z ▸ pe_slice (sl_D (X := X z)) (pe z) (pl z) (ph z), fun io L G σ s H Q w hf => ?_⟩
  refine h1 (fk_fin (Q := Q)) w hf fun v h s1 G1 H1 sb1 w1 hr f1 => ?_
  refine hl (fk_fin (Q := Q)) w1 f1 fun l s2 G2 H2 sb2 w2 f2 => ?_
  refine hh (fk_fin (Q := Q)) w2 f2 fun u s3 G3 H3 sb3 w3 f3 => ?_
  obtain ⟨x, rx, f4⟩ := (hr.mono (sb2.trans sb3)).use fk_fin w3 f3
  obtain ⟨z, e, rt⟩ := mpo_fin w3 f4
  exact prim_sl w3.sub rx e rt
end

/-! ### x is True, x is False -/
def pIsBo (x y : D) : Option Bool := match x, y with
  | .bool a, .bool b => some (a == b)
  | _, .bool _ => some false
  | _, _ => none
def rIsBo : R2 := fun x y H Q => ∃ b, y = .bl b ∧ Q (.bl (decide (x = .bl b))) H
theorem op_isBo {X : Cx} : OpR X (compareOp .Is) rIsBo := by
  intro pins s σ H x y v u Q I rx ry h
  obtain ⟨b, rfl, q⟩ := h
  cases ry
  cases x with
  | bl a => cases rx; exact wpAny_pure ⟨.bl _, H, I, by cases a <;> cases b <;> rfl, q⟩
  | non => cases rx; refine wpAny_pure ?_; exact ⟨.bl _, H, I, rfl, q⟩
  | int _ => obtain ⟨t, rfl⟩ := rx; refine wpAny_pure ?_; exact ⟨.bl _, H, I, rfl, q⟩
  | str _ => obtain ⟨t, rfl⟩ := rx; refine wpAny_pure ?_; exact ⟨.bl _, H, I, rfl, q⟩
  | byt _ => obtain ⟨t, rfl⟩ := rx; refine wpAny_pure ?_; exact ⟨.bl _, H, I, rfl, q⟩
  | flt _ => obtain ⟨t, rfl⟩ := rx; refine wpAny_pure ?_; exact ⟨.bl _, H, I, rfl, q⟩
  | ref _ => cases rx; refine wpAny_pure ?_; exact ⟨.bl _, H, I, rfl, q⟩
  | ty _ => cases rx; refine wpAny_pure ?_; exact ⟨.bl _, H, I, rfl, q⟩
theorem prim_isBo {K : PySem.W.Frag} : Prim2 K rIsBo (bO pIsBo) := fun G H v u x y z Q sb rx ry hz rt => by
  unfold bO pIsBo at hz
  split at hz
  · rename_i a b
    cases hz
    refine ⟨b, ry.bool, ?_⟩
    rw [rx.bool]
    have : decide (V.bl a = V.bl b) = (a == b) := by cases a <;> cases b <;> rfl
    rw [this]; exact rt _ (.bl _)
  · rename_i b hx
    cases hz
    refine ⟨b, ry.bool, ?_⟩
    have : decide (v = V.bl b) = false := by
      refine decide_eq_false fun e => ?_
      subst e
      cases rx with
      | fz h => cases h; exact hx _ rfl
    rw [this]; exact rt _ (.bl _)
  · cases hz

/-! ### isinstance -/
def eIsi (o : Opd) (n : String) : M R := opS o fun h => rsv h fun x => match isTy n x with
  | some b => mret (.val (.bool b))
  | none => mstuck
def tyName : D → String
  | .none => "NoneType"
  | .bool _ => "bool"
  | .int _ => "int"
  | .str _ => "str"
  | .list _ => "list"
  | .tuple _ => "tuple"
  | .dict _ => "?"
theorem rp_ty {K : PySem.W.Frag} {G H : Hp} {v : V} {x : D} (sb : Sub G H) (h : Rp K G H v x) (hd : ∀ kvs, x ≠ .dict kvs) : TyX K H v (.type (tyName x)) := by
  cases h with
  | fz h =>
    cases h with
    | non => exact .base .non
    | bl b => exact .base (.bl b)
    | int i => exact .base (.int i)
    | str z => exact .base (.str z)
    | lst h1 h2 => exact .base (.lst (sb _ _ h1))
    | tup h1 h2 =>
      rcases h1 with (h1 | ⟨o, h1⟩) | ⟨o, its, n, hk, hc, _⟩
      · exact .base (.tup (sb _ _ h1))
      · exact .fTuple (sb _ _ h1)
      · exact .kTuple hk hc
    | scr ns h1 => exact absurd rfl (hd _)
  | cell h1 h2 => exact .base (.lst h1)
/-- the built-in classes of which isinstance is asked -/
def kitN (n : String) : Prop := kitB "NoneType" n = some ("NoneType" == n) ∧ kitB "bool" n = some (n == "bool" || n == "int") ∧ kitB "int" n = some (n == "int") ∧ kitB "str" n = some (n == "str") ∧ kitB "list" n = some (n == "list") ∧ kitB "tuple" n = some (n == "tuple")
theorem kit_int : kitN "int" := ⟨by decide +kernel, by decide +kernel, by decide +kernel, by decide +kernel, by decide +kernel, by decide +kernel⟩
theorem kit_bool : kitN "bool" := ⟨by decide +kernel, by decide +kernel, by decide +kernel, by decide +kernel, by decide +kernel, by decide +kernel⟩
theorem kit_str : kitN "str" := ⟨by decide +kernel, by decide +kernel, by decide +kernel, by decide +kernel, by decide +kernel, by decide +kernel⟩
theorem kit_list : kitN "list" := ⟨by decide +kernel, by decide +kernel, by decide +kernel, by decide +kernel, by decide +kernel, by decide +kernel⟩
theorem kit_tuple : kitN "tuple" := ⟨by decide +kernel, by decide +kernel, by decide +kernel, by decide +kernel, by decide +kernel, by decide +kernel⟩
section
variable {ι : Type} {X : ι → Cx} {K : PySem.W.Frag} {E : WW} {e : Expr}
theorem se_isi {a b : Expr} {o : Opd} {n : String} (ha : SO X K E a o) (hb : ∀ z, PE (X z) b (tC (.ty n))) (hk : kitN n) (hs : ∀ z, starEach [a, b] (X z).env = (false, eval a (X z).env) :: starEach [b] (X z).env) (hs2 : ∀ z, starEach [b] (X z).env = (false, eval b (X z).env) :: starEach [] (X z).env)
    (hp : ∀ t, (∀ z, PA (X z) [a, b] t) → ∀ z, PE (X z) e (tCB (rIsi K) t)) : SE X K E e (eIsi o n) := by
  obtain ⟨t, pe, h⟩ := ha.ex
  refine ⟨_, hp _ fun z => pa_cons (pe z) (pa_cons (hb z) pa_nil (hs2 z)) (hs z), fun io L G σ s H Q w hf => ?_⟩
  refine h (fk_fin (Q := Q)) w hf fun v h s1 G1 H1 sb1 w1 hr f1 => ?_
  obtain ⟨x, rx, f2⟩ := hr.use fk_fin w1 f1
  cases ei : isTy n x with
  | none => rw [ei] at f2; exact f2.elim
  | some b =>
    rw [ei] at f2
    refine ⟨v, .ty n, .type (tyName x), .type n, b, rfl, .ty n, rp_ty w1.sub rx (fun kvs e => by rw [e] at ei; cases ei), kit_ty ?_, f2 _ G1 H1 (Sub.refl _) w1 (.bl b)⟩
    obtain ⟨k1, k2, k3, k4, k5, k6⟩ := hk
    cases x with
    | none => unfold isTy at ei; rw [← ei]; show kitB "NoneType" n = _; rw [k1, Bool.beq_comm]
    | bool _ => rw [← ei]; exact k2
    | int _ => rw [← ei]; exact k3
    | str _ => rw [← ei]; exact k4
    | list _ => rw [← ei]; exact k5
    | tuple _ => rw [← ei]; exact k6
    | dict _ => cases ei
end

/-! ### methods of lists -/
def mAppend : List D → List D → Option (D × List D)
  | ds, [x] => if ds.length < sizeLine then some (.none, ds ++ [x]) else none
  | _, _ => none
theorem prim_append {K : PySem.W.Frag} : PrimM K rAppend mAppend := fun G H a xs ds vs es d ds' Q sb hx rx rv e k => by
  unfold mAppend at e
  split at e
  · split at e
    · rename_i hl
      cases e
      cases rv with
      | cons r1 r2 =>
        cases r2
        exact ⟨a, xs, _, rfl, rfl, hx, by rw [rx.length]; exact hl, k _ _ .non (rx.append (.cons r1 .nil))⟩
    · cases e
  · cases e
def mExtend : List D → List D → Option (D × List D)
  | ds, [.list es] => if ds.length + es.length ≤ sizeLine then some (.none, ds ++ es) else none
  | _, _ => none
theorem prim_extend {K : PySem.W.Frag} : PrimM K rExtend mExtend := fun G H a xs ds vs es d ds' Q sb hx rx rv e k => by
  unfold mExtend at e
  split at e
  · split at e
    · rename_i hl
      cases e
      cases rv with
      | cons r1 r2 =>
        cases r2
        cases r1 with
        | lst h1 r1 => exact ⟨a, _, xs, _, rfl, rfl, hx, sb _ _ h1, by rw [rx.length, r1.length]; exact hl, k _ _ .non (rx.append r1)⟩
    · cases e
  · cases e
def mPopAt : List D → List D → Option (D × List D)
  | ds, [.int i] => if i.natAbs < 2 ^ 63 then match seqIndex? i ds.length with
    | some j => (ds[j]?).map fun x => (x, ds.eraseIdx j)
    | none => none
    else none
  | _, _ => none
theorem dq_erase {K : PySem.W.Frag} {G : Hp} : ∀ {xs : List V} {ds : List D} (j : Nat), DqAll K G xs ds → DqAll K G (xs.eraseIdx j) (ds.eraseIdx j)
  | _, _, _, .nil => .nil
  | _, _, 0, .cons _ t => t
  | _, _, j + 1, .cons r t => .cons r (dq_erase j t)
theorem prim_popAt {K : PySem.W.Frag} : PrimM K rPopAt mPopAt := fun G H a xs ds vs es d ds' Q sb hx rx rv e k => by
  unfold mPopAt at e
  split at e
  · rename_i i
    split at e
    · rename_i hi
      cases ej : seqIndex? i ds.length with
      | none => simp only [ej] at e; cases e
      | some j =>
        simp only [ej] at e
        cases ex : ds[j]? with
        | none => rw [ex] at e; cases e
        | some y =>
          rw [ex] at e; cases e
          obtain ⟨v, hv, dv⟩ := rx.get ex
          cases rv with
          | cons r1 r2 =>
            cases r1; cases r2
            exact ⟨a, xs, i, j, v, rfl, rfl, hx, by omega, by omega, by rw [rx.length]; exact ej, hv, k _ _ dv (dq_erase j rx)⟩
    · cases e
  · cases e
def mPop : List D → List D → Option (D × List D)
  | ds, [] => (ds[ds.length - 1]?).map fun x => (x, ds.dropLast)
  | _, _ => none
theorem dq_dropLast {K : PySem.W.Frag} {G : Hp} {xs : List V} {ds : List D} (h : DqAll K G xs ds) : DqAll K G xs.dropLast ds.dropLast := by
  rw [List.dropLast_eq_take, List.dropLast_eq_take, h.length]; exact h.take _
theorem prim_pop {K : PySem.W.Frag} : PrimM K rPop mPop := fun G H a xs ds vs es d ds' Q sb hx rx rv e k => by
  unfold mPop at e
  split at e
  · cases ex : ds[ds.length - 1]? with
    | none => rw [ex] at e; cases e
    | some y =>
      rw [ex] at e; cases e
      obtain ⟨v, hv, dv⟩ := rx.get ex
      cases rv
      exact ⟨a, xs, v, rfl, rfl, hx, by rw [rx.length]; exact hv, k _ _ dv (dq_dropLast rx)⟩
  · cases e
def mInsert : List D → List D → Option (D × List D)
  | ds, [.int i, x] => if ds.length < sizeLine ∧ 0 ≤ i ∧ i.natAbs < 2 ^ 63 then some (.none, ds.take i.toNat ++ [x] ++ ds.drop i.toNat) else none
  | _, _ => none
abbrev rInsert : V → List V → Hp → VK → Prop := fun x vs H Q => ∃ (l : Addr) (xs : List V) (i : Int) (y : V), x = .ref l ∧ vs = [.int i, y] ∧ H l = some (.lst xs) ∧ xs.length < sizeLine ∧ 0 ≤ i ∧ i < 2 ^ 63 ∧
    Q .non (upd H l (.lst (xs.take i.toNat ++ [y] ++ xs.drop i.toNat)))
theorem prim_insert {K : PySem.W.Frag} : PrimM K rInsert mInsert := fun G H a xs ds vs es d ds' Q sb hx rx rv e k => by
  unfold mInsert at e
  split at e
  · split at e
    · rename_i hl
      cases e
      cases rv with
      | cons r1 r2 =>
        cases r1
        cases r2 with
        | cons r2 r3 =>
          cases r3
          exact ⟨a, xs, _, _, rfl, rfl, hx, by rw [rx.length]; exact hl.1, hl.2.1, by omega, k _ _ .non (((rx.take _).append (.cons r2 .nil)).append (rx.drop _))⟩
    · cases e
  · cases e

/-! ### list(range(..)) -/
def eLRange (fs : List (M D)) (g : List D → Option (Int × Int)) : M R := evs fs fun ds => match g ds with
  | some (a, b) => if (a.natAbs < 2 ^ 62 ∧ b.natAbs < 2 ^ 62 ∧ (b - a).toNat ≤ 2 ^ 24) then mret (.new (.lst (dRange a (b - a).toNat))) else mstuck
  | none => mstuck
def eTRange (fs : List (M D)) (g : List D → Option (Int × Int)) : M R := evs fs fun ds => match g ds with
  | some (a, b) => if (a.natAbs < 2 ^ 62 ∧ b.natAbs < 2 ^ 62 ∧ (b - a).toNat ≤ 2 ^ 24) then mret (.val (.tuple (dRange a (b - a).toNat))) else mstuck
  | none => mstuck
def rg1 : List D → Option (Int × Int)
  | [.int n] => some (0, n)
  | _ => none
theorem rg_dq {K : PySem.W.Frag} {G : Hp} (a b : Int) : DqAll K G (rgV a b) (dRange a (b - a).toNat) := by
  unfold rgV dRange
  induction List.range (b - a).toNat with
  | nil => exact .nil
  | cons i is ih => exact .cons (.int _) ih
section
variable {ι : Type} {X : ι → Cx} {K : PySem.W.Frag} {E : WW}
theorem se_lrange1 {a : Expr} {f : M D} {p1 p2 pos pos2 : Pos} (hc : ∀ z, (X z).calm = true) (hgl : ∀ z, Gl (X z) "list") (hml : ∀ z, (X z).mg "list" = none) (hg : ∀ z, Gl (X z) "range") (hm : ∀ z, (X z).mg "range" = none) (ha : SV X K E a f)
    (na : ∀ z, starEach [a] (X z).env = (false, eval a (X z).env) :: starEach [] (X z).env := by intro _; rfl)
    (na2 : ∀ z, starEach [.Call (.Name "range" p1) [a] [] pos] (X z).env = (false, eval (.Call (.Name "range" p1) [a] [] pos) (X z).env) :: starEach [] (X z).env := by intro _; rfl) :
    SE X K E (.Call (.Name "list" p2) [.Call (.Name "range" p1) [a] [] pos] [] pos2) (eLRange [f] rg1) := by
  obtain ⟨t, pe, h⟩ := ha.use
  refine ⟨_, fun z => pe_listRg (hc z) (hgl z) (hml z) (prg_1 (hg z) (hm z) (pe z) (na z)) (na2 z), fun io L G σ s H Q w hf => ?_⟩
  refine h (fk_fin (Q := Q)) w hf fun v d s' G' H' sb w' dp f => ?_
  match d, dp, f with
  | .int n, dp, f =>
    cases dp
    have f : Fin K E io L σ G' Q ((if ((0 : Int).natAbs < 2 ^ 62 ∧ n.natAbs < 2 ^ 62 ∧ (n - 0).toNat ≤ 2 ^ 24) then mret (.new (.lst (dRange 0 (n - 0).toNat))) else mstuck : M R) s') := f
    split at f
    · rename_i hr
      exact ⟨n, rfl, ⟨by omega, by omega, by omega, by omega, hr.2.2⟩, fun q hq => ret_fin (x := .l (dRange 0 (n - 0).toNat)) w' f q _ hq (rg_dq 0 n)⟩
    · exact f.elim
  | .none, _, f => exact f.elim
  | .bool _, _, f => exact f.elim
  | .str _, _, f => exact f.elim
  | .list _, _, f => exact f.elim
  | .tuple _, _, f => exact f.elim
  | .dict _, _, f => exact f.elim
theorem se_trange1 {a : Expr} {f : M D} {p1 p2 pos pos2 : Pos} (hc : ∀ z, (X z).calm = true) (hgl : ∀ z, Gl (X z) "tuple") (hml : ∀ z, (X z).mg "tuple" = none) (hg : ∀ z, Gl (X z) "range") (hm : ∀ z, (X z).mg "range" = none) (ha : SV X K E a f)
    (na : ∀ z, starEach [a] (X z).env = (false, eval a (X z).env) :: starEach [] (X z).env := by intro _; rfl)
    (na2 : ∀ z, starEach [.Call (.Name "range" p1) [a] [] pos] (X z).env = (false, eval (.Call (.Name "range" p1) [a] [] pos) (X z).env) :: starEach [] (X z).env := by intro _; rfl) :
    SE X K E (.Call (.Name "tuple" p2) [.Call (.Name "range" p1) [a] [] pos] [] pos2) (eTRange [f] rg1) := by
  obtain ⟨t, pe, h⟩ := ha.use
  refine ⟨_, fun z => pe_tupRg (hc z) (hgl z) (hml z) (prg_1 (hg z) (hm z) (pe z) (na z)) (na2 z), fun io L G σ s H Q w hf => ?_⟩
  refine h (fk_fin (Q := Q)) w hf fun v d s' G' H' sb w' dp f => ?_
  match d, dp, f with
  | .int n, dp, f =>
    cases dp
    have f : Fin K E io L σ G' Q ((if ((0 : Int).natAbs < 2 ^ 62 ∧ n.natAbs < 2 ^ 62 ∧ (n - 0).toNat ≤ 2 ^ 24) then mret (.val (.tuple (dRange 0 (n - 0).toNat))) else mstuck : M R) s') := f
    split at f
    · rename_i hr
      exact ⟨n, rfl, ⟨by omega, by omega, by omega, by omega, hr.2.2⟩, fun q hq => (ret_fin (x := .t (dRange 0 (n - 0).toNat)) w' f).2 q _ hq (rg_dq 0 n)⟩
    · exact f.elim
  | .none, _, f => exact f.elim
  | .bool _, _, f => exact f.elim
  | .str _, _, f => exact f.elim
  | .list _, _, f => exact f.elim
  | .tuple _, _, f => exact f.elim
  | .dict _, _, f => exact f.elim
end
end L3

namespace L3
open PySem PySem.W PySem.Spec PyProof.Rows L2

/-! ### a < b < c -/
section
variable {ι : Type} {X : ι → Cx} {K : PySem.W.Frag} {E : WW} {e : Expr}
/-- p, q: the two comparisons -/
def t3 (a b c : Opd) (p q : D → D → Option Bool) : M Bool := opS a fun h => opS b fun g => rsv h fun x => rsv g fun y => match p x y with
  | some true => opS c fun k => rsv g fun y => rsv k fun z => match q y z with
    | some r => mret r
    | none => mstuck
  | some false => mret false
  | none => mstuck
theorem st_chain {a b c : Expr} {oa ob oc : Opd} {r r' : R2} {p q : D → D → Option Bool} (h1 : SO X K E a oa) (h2 : SO X K E b ob) (h3 : SO X K E c oc) (hp : ∀ ta tb tc, (∀ z, PE (X z) a ta) → (∀ z, PE (X z) b tb) → (∀ z, PE (X z) c tc) → ∀ z, PT (X z) e (tTest (tChain r r' ta tb tc)))
    (pr : Prim2 K r (bO p)) (pr' : Prim2 K r' (bO q)) : ST X K E e (t3 oa ob oc p q) := by
  obtain ⟨t, pe1, h1⟩ := h1.ex
  obtain ⟨u, pe2, h2⟩ := h2.ex
  obtain ⟨w3, pe3, h3⟩ := h3.ex
  refine ⟨_, hp t u w3 pe1 pe2 pe3, fun io L G σ s H Q w hf => ?_⟩
  refine h1 (fk_finT (Q := Q)) w hf fun v h s1 G1 H1 sb1 w1 hr f1 => ?_
  refine h2 (fk_finT (Q := Q)) w1 f1 fun v' g s2 G2 H2 sb2 w2 hr2 f2 => ?_
  obtain ⟨x, rx, f3⟩ := (hr.mono sb2).use fk_finT w2 f2
  obtain ⟨y, ry, f4⟩ := hr2.use fk_finT w2 f3
  cases e : p x y with
  | none => rw [e] at f4; exact (FK.stuck fk_finT f4).elim
  | some k =>
    rw [e] at f4
    refine pr G2 H2 v v' x y (.d (.bool k)) _ w2.sub rx ry (by unfold bO; rw [e]; rfl) ?_
    intro vb dp
    cases dp
    refine ⟨k, rfl, ?_⟩
    cases k with
    | false => exact iteF ⟨false, rfl, f4 G2 H2 (Sub.refl _) w2⟩
    | true =>
      refine iteT ?_
      refine h3 (fk_finT (Q := Q)) w2 f4 fun v3 l s3 G3 H3 sb3 w3 hr3 f5 => ?_
      obtain ⟨y', ry', f6⟩ := (hr2.mono sb3).use fk_finT w3 f5
      obtain ⟨z, rz, f7⟩ := hr3.use fk_finT w3 f6
      cases e2 : q y' z with
      | none => rw [e2] at f7; exact (FK.stuck fk_finT f7).elim
      | some k2 =>
        rw [e2] at f7
        refine pr' G3 H3 v' v3 y' z (.d (.bool k2)) _ w3.sub ry' rz (by unfold bO; rw [e2]; rfl) ?_
        intro vb dp
        cases dp
        exact ⟨k2, rfl, f7 G3 H3 (Sub.refl _) w3⟩
end

/-! ### dicts whose keys are ints, texts -/
def keyD : D → Option Key
  | .int i => some (.inl i)
  | .str x => some (.inr x)
  | _ => none
def kD : Key → D
  | .inl i => .int i
  | .inr x => .str x
theorem keyD_v {K : PySem.W.Frag} {G : Hp} {v : V} {x : D} {k : Key} (h : Dq K G v x) (e : keyD x = some k) : v = kV k := by
  cases h <;> cases e <;> rfl
theorem kD_dq {K : PySem.W.Frag} {G : Hp} (k : Key) : Dq K G (kV k) (kD k) := by cases k <;> constructor
def getK (kvs : List (Key × D)) (k : Key) : Option D := (kvs.find? fun kv => decide (kv.1 = k)).map (·.2)
def putD (kvs : List (Key × D)) (k : Key) (v : D) : List (Key × D) :=
  if (kvs.any fun kv => decide (kv.1 = k)) = true then kvs.map (fun kv => if kv.1 = k then (kv.1, v) else kv) else kvs ++ [(k, v)]
section
variable {K : PySem.W.Frag} {G : Hp}
theorem DpKV.length {kvs : List (Key × V)} {kds : List (Key × D)} (h : DpKV K G kvs kds) : kvs.length = kds.length := by
  induction h with
  | nil => rfl
  | cons _ _ ih => simp [ih]
theorem DpKV.get {kvs : List (Key × V)} {kds : List (Key × D)} (h : DpKV K G kvs kds) (k : Key) : (valV kvs k = none ∧ getK kds k = none) ∨ ∃ v d, valV kvs k = some v ∧ getK kds k = some d ∧ Dq K G v d := by
  induction h with
  | nil => exact .inl ⟨rfl, rfl⟩
  | @cons k0 v d kvs kds r _ ih =>
    by_cases e : k0 = k
    · exact .inr ⟨v, d, by simp [valV, e], by simp [getK, e], r⟩
    · have e1 : valV ((k0, v) :: kvs) k = valV kvs k := by simp [valV, e]
      have e2 : getK ((k0, d) :: kds) k = getK kds k := by simp [getK, e]
      rw [e1, e2]; exact ih
theorem DpKV.any {kvs : List (Key × V)} {kds : List (Key × D)} (h : DpKV K G kvs kds) (k : Key) : (kvs.any fun kv => decide (kv.1 = k)) = (kds.any fun kv => decide (kv.1 = k)) := by
  induction h with
  | nil => rfl
  | cons _ _ ih => simp only [List.any_cons, ih]
theorem DpKV.repl {kvs : List (Key × V)} {kds : List (Key × D)} (h : DpKV K G kvs kds) {k : Key} {v : V} {d : D} (r : Dq K G v d) : DpKV K G (kvs.map fun kv => if kv.1 = k then (kv.1, v) else kv) (kds.map fun kv => if kv.1 = k then (kv.1, d) else kv) := by
  induction h with
  | nil => exact .nil
  | @cons k0 v0 d0 kvs kds r0 _ ih =>
    simp only [List.map_cons]
    by_cases e : k0 = k
    · rw [if_pos e, if_pos e]; exact .cons r ih
    · rw [if_neg e, if_neg e]; exact .cons r0 ih
theorem DpKV.snoc {kvs : List (Key × V)} {kds : List (Key × D)} (h : DpKV K G kvs kds) {k : Key} {v : V} {d : D} (r : Dq K G v d) : DpKV K G (kvs ++ [(k, v)]) (kds ++ [(k, d)]) := by
  induction h with
  | nil => exact .cons r .nil
  | cons r0 _ ih => exact .cons r0 ih
theorem DpKV.put {kvs : List (Key × V)} {kds : List (Key × D)} (h : DpKV K G kvs kds) {k : Key} {v : V} {d : D} (r : Dq K G v d) : DpKV K G (putK kvs k v) (putD kds k d) := by
  unfold putK putD
  rw [h.any k]
  split
  · exact h.repl r
  · exact h.snoc r
theorem DpKV.keys {kvs : List (Key × V)} {kds : List (Key × D)} (h : DpKV K G kvs kds) : DqAll K G (kvs.map fun kv => kV kv.1) (kds.map fun kv => kD kv.1) := by
  induction h with
  | nil => exact .nil
  | cons _ _ ih => exact .cons (kD_dq _) ih
end
def S.dct (s : S) (i : Nat) : Option (List (Key × D)) := match s.env[i]? with
  | some (some (Sl.own (C.dct kds))) => some kds
  | _ => none
theorem Wd.dct {K : PySem.W.Frag} {io : Option Addr} {L G H : Hp} {σ : L2.St} {s : S} {i : Nat} {kds : List (Key × D)} (w : Wd K io L G σ s H) (h : s.dct i = some kds) :
    s.env[i]? = some (some (Sl.own (C.dct kds))) ∧ ∃ a kvs, σ[i]? = some (some (V.ref a)) ∧ H a = some (.dK kvs) ∧ DpKV K G kvs kds := by
  unfold S.dct at h
  split at h
  · rename_i c q
    cases h
    obtain ⟨a, o, e, g, ha, r, l, _⟩ := w.owns i _ q
    cases r with
    | dct r => exact ⟨q, a, _, e, ha, r⟩
  · cases h
section
variable {ι : Type} {X : ι → Cx} {K : PySem.W.Frag} {E : WW} {e : Expr}
def eNewD : M R := mret (.new (.dct []))
theorem se_newD {pos : Pos} : SE X K E (.Dict [] [] pos) eNewD := by
  refine ⟨_, fun _ => pe_dnewK, fun io L G σ s H Q w hf => fun p hp => ?_⟩
  obtain ⟨hL, w'⟩ := w.fresh (o := .dK []) hp
  exact hf p _ G _ (Sub.refl _) hL w' (.dct .nil)
/-- d[k] = v -/
def sDPut (i : Nat) (fv fk : M D) : M Fl := mbind fv fun v s => match s.dct i with
  | none => .stuck
  | some _ => mbind fk (fun k s' => match s'.dct i with
    | none => .stuck
    | some kds => match keyD k with
      | none => .stuck
      | some k => if kds.length < sizeLine then .ok .nx (s'.seto i (.dct (putD kds k v))) else .stuck) s
theorem ss_dput {i : Nat} {st : Stmt} {ev ek : Expr} {fv fk : M D} (hv : SV X K E ev fv) (hk : SV X K E ek fk) (hp : ∀ tv tk, (∀ z, PE (X z) ev tv) → (∀ z, PE (X z) ek tk) → ∀ z, PS (X z) st (L2.sDPut (tVar i) tk tv)) : SS X K E st (sDPut i fv fk) := by
  obtain ⟨tv, pv, hv⟩ := hv.use
  obtain ⟨tk, pk, hk⟩ := hk.use
  refine ⟨_, hp tv tk pv pk, fun io L G σ s H A w hf => ?_⟩
  refine hv (fk_finS (A := A)) w hf fun v x s1 G1 H1 sb1 w1 dp1 f1 => ?_
  split at f1
  · exact f1.elim
  · rename_i kds0 e0
    obtain ⟨_, a, kvs0, e1, _⟩ := w1.dct e0
    refine ⟨_, e1, ?_⟩
    refine hk (fk_finS (A := A)) w1 f1 fun u y s2 G2 H2 sb2 w2 dp2 f2 => ?_
    split at f2
    · exact f2.elim
    · rename_i kds ec
      obtain ⟨q, a', kvs, e2, ha, rk⟩ := w2.dct ec
      rw [e1] at e2; cases e2
      split at f2
      · exact f2.elim
      · rename_i k ek
        split at f2
        · rename_i hl
          have := keyD_v dp2 ek
          subst this
          refine ⟨a, _, rfl, DPut.k ha (by rw [rk.length]; exact hl), ?_⟩
          exact f2 _ G2 _ (Sub.refl _) (w2.writeO q e1 (.dct (rk.put (sb2.dp dp1))))
        · exact f2.elim
/-- d[k] -/
def eDGet (i : Nat) (fk : M D) : M R := fun s => match s.dct i with
  | none => .stuck
  | some _ => mbind fk (fun k s' => match s'.dct i with
    | none => .stuck
    | some kds => match keyD k with
      | none => .stuck
      | some k => match getK kds k with
        | none => .stuck
        | some d => .ok (.val d) s') s
theorem se_dget {i : Nat} {ek : Expr} {fk : M D} (hk : SV X K E ek fk) (hp : ∀ tk, (∀ z, PE (X z) ek tk) → ∀ z, PE (X z) e (tDGet (tVar i) tk)) : SE X K E e (eDGet i fk) := by
  obtain ⟨tk, pk, hk⟩ := hk.use
  refine ⟨_, hp tk pk, fun io L G σ s H Q w hf => ?_⟩
  unfold eDGet at hf
  split at hf
  · exact hf.elim
  · rename_i kds0 e0
    obtain ⟨_, a, kvs0, e1, _⟩ := w.dct e0
    refine ⟨_, e1, ?_⟩
    refine hk (fk_fin (Q := Q)) w hf fun u y s2 G2 H2 sb2 w2 dp2 f2 => ?_
    split at f2
    · exact f2.elim
    · rename_i kds ec
      obtain ⟨q, a', kvs, e2, ha, rk⟩ := w2.dct ec
      rw [e1] at e2; cases e2
      split at f2
      · exact f2.elim
      · rename_i k ek
        split at f2
        · exact f2.elim
        · rename_i d ed
          have := keyD_v dp2 ek
          subst this
          rcases rk.get k with ⟨_, q2⟩ | ⟨v, d', q1, q2, r⟩
          · rw [q2] at ed; cases ed
          · rw [q2] at ed; cases ed
            exact ⟨a, v, rfl, q1 ▸ DGet.k ha, f2 v G2 H2 (Sub.refl _) w2 r⟩
/-- k in d, k not in d -/
def tDIn (i : Nat) (fk : M D) (pos : Bool) : M Bool := mbind fk fun k s => match s.dct i with
  | none => .stuck
  | some kds => match keyD k with
    | none => .stuck
    | some k => .ok ((getK kds k).isSome == pos) s
theorem st_din {i : Nat} {ek : Expr} {fk : M D} (hk : SV X K E ek fk) (hp : ∀ tk, (∀ z, PE (X z) ek tk) → ∀ z, PT (X z) e (L2.tB (L2.tDIn tk (tVar i)))) : ST X K E e (tDIn i fk true) := by
  obtain ⟨tk, pk, hk⟩ := hk.use
  refine ⟨_, hp tk pk, fun io L G σ s H Q w hf => ?_⟩
  refine hk (fk_finT (Q := Q)) w hf fun u y s2 G2 H2 sb2 w2 dp2 f2 => ?_
  split at f2
  · exact f2.elim
  · rename_i kds ec
    obtain ⟨q, a, kvs, e1, ha, rk⟩ := w2.dct ec
    split at f2
    · exact f2.elim
    · rename_i k ek
      have := keyD_v dp2 ek
      subst this
      refine ⟨_, e1, a, _, rfl, DGet.k ha, _, rfl, ?_⟩
      have e2 : ((getK kds k).isSome == true) = (valV kvs k).isSome := by
        rcases rk.get k with ⟨q1, q2⟩ | ⟨v, d', q1, q2, r⟩ <;> rw [q1, q2] <;> rfl
      rw [← e2]
      exact f2 G2 H2 (Sub.refl _) w2
theorem st_dnotin {i : Nat} {ek : Expr} {fk : M D} (hk : SV X K E ek fk) (hp : ∀ tk, (∀ z, PE (X z) ek tk) → ∀ z, PT (X z) e (L2.tB (L2.tDNotIn tk (tVar i)))) : ST X K E e (tDIn i fk false) := by
  obtain ⟨tk, pk, hk⟩ := hk.use
  refine ⟨_, hp tk pk, fun io L G σ s H Q w hf => ?_⟩
  refine hk (fk_finT (Q := Q)) w hf fun u y s2 G2 H2 sb2 w2 dp2 f2 => ?_
  split at f2
  · exact f2.elim
  · rename_i kds ec
    obtain ⟨q, a, kvs, e1, ha, rk⟩ := w2.dct ec
    split at f2
    · exact f2.elim
    · rename_i k ek
      have := keyD_v dp2 ek
      subst this
      refine ⟨_, e1, a, _, rfl, DGet.k ha, _, rfl, ?_⟩
      have e2 : ((getK kds k).isSome == false) = !(valV kvs k).isSome := by
        rcases rk.get k with ⟨q1, q2⟩ | ⟨v, d', q1, q2, r⟩ <;> rw [q1, q2] <;> rfl
      rw [← e2]
      exact f2 G2 H2 (Sub.refl _) w2
/-- len(d), list(d), d a slot's dict -/
def eDLen (i : Nat) : M R := fun s => match s.dct i with
  | none => .stuck
  | some kds => .ok (.val (.int kds.length)) s
def eDList (i : Nat) : M R := fun s => match s.dct i with
  | none => .stuck
  | some kds => .ok (.new (.lst (kds.map fun kv => kD kv.1))) s
theorem se_dlen {i : Nat} {a : Expr} (ha : ∀ z, PE (X z) a (tVar i)) (hs : ∀ z, starEach [a] (X z).env = [(false, eval a (X z).env)]) (hp : ∀ t, (∀ z, PA (X z) [a] t) → ∀ z, PE (X z) e (tCB (fun xs H Q => ∃ a kvs, xs = [V.ref a] ∧ H a = some (.dK kvs) ∧ Q (.int kvs.length) H) t)) : SE X K E e (eDLen i) := by
  refine ⟨_, hp _ fun z => pa_cons (ha z) pa_nil (hs z), fun io L G σ s H Q w hf => ?_⟩
  unfold eDLen at hf
  split at hf
  · exact hf.elim
  · rename_i kds ec
    obtain ⟨q, a, kvs, e1, ha, rk⟩ := w.dct ec
    refine ⟨_, e1, a, kvs, rfl, ha, ?_⟩
    rw [rk.length]
    exact hf _ G H (Sub.refl _) w (.int _)
theorem se_dlist {i : Nat} {a : Expr} (ha : ∀ z, PE (X z) a (tVar i)) (hs : ∀ z, starEach [a] (X z).env = [(false, eval a (X z).env)]) (hp : ∀ t, (∀ z, PA (X z) [a] t) → ∀ z, PE (X z) e (tCB rListD t)) : SE X K E e (eDList i) := by
  refine ⟨_, hp _ fun z => pa_cons (ha z) pa_nil (hs z), fun io L G σ s H Q w hf => ?_⟩
  unfold eDList at hf
  split at hf
  · exact hf.elim
  · rename_i kds ec
    obtain ⟨q, a, kvs, e1, ha, rk⟩ := w.dct ec
    refine ⟨_, e1, a, kvs, rfl, ha, fun p hp => ?_⟩
    exact ret_fin (x := .l (kds.map fun kv => kD kv.1)) w hf p _ hp rk.keys
end
end L3

namespace L3
open PySem PySem.W PySem.Spec PyProof.Rows L2

theorem get_list {X : Cx} : PGet X rGetL := by
  intro pins s σ H x y v u Q I rx ry h
  obtain ⟨p, xs, i, z, rfl, rfl, hq, he, q⟩ := h
  cases rx
  obtain ⟨t, rfl⟩ := ry
  obtain ⟨its, r, pl, hz⟩ := I.list (SqL.of (K := X.K) hq)
  obtain ⟨j, h1, h2, h3, h4, h5⟩ := atI_get he
  obtain ⟨w, ew, rw'⟩ := r.get h2
  have hl := r.length
  have hn := line63
  have fin : EP X pins σ Q w s := ⟨z, H, I, rw', q⟩
  by_cases h0 : 0 ≤ i
  · have hj : i.toNat = j := by
      rw [seqIndex_of h0 h5] at h1
      exact Option.some.inj h1
    exact wpAny_getItem_list pl.isList h0 (by omega) (by rw [hj]; simpa using ew) fin
  · have hj : (i + (its.toArray.size : Int)).toNat = j := by
      rw [seqIndex_neg (by omega) h4] at h1
      rw [List.size_toArray, ← hl]
      exact Option.some.inj h1
    exact wpAny_getItem_list_neg pl.isList (by omega) (by rw [List.size_toArray] <;> omega) (by omega) (by rw [hj]; simpa using ew) fin

section
variable {ι : Type} {X : ι → Cx} {K : PySem.W.Frag} {E : WW} {e : Expr} {st : Stmt}
/-- (a, b) = e, e a tuple of that many -/
def sUnp (is : List Nat) (f : M D) : M Fl := mbind f fun d s => match gT is d s with
  | some s' => .ok .nx s'
  | none => .stuck
theorem ss_unp {is : List Nat} {f : M D} (he : SV X K E e f) (hp : ∀ te, (∀ z, PE (X z) e te) → ∀ z, PS (X z) st (tAsg te (gTup K is.length (gNames is)))) : SS X K E st (sUnp is f) := by
  obtain ⟨t, p, h⟩ := he.use
  refine ⟨_, hp t p, fun io L G σ s H A w hf => ?_⟩
  refine h (fk_finS (A := A)) w hf fun v d s' G' H' sb w' dp f => ?_
  unfold gT at f
  split at f
  · rename_i s2 e2
    split at e2
    · rename_i ds
      split at e2
      · rename_i hl
        cases e2
        cases dp with
        | tup h1 h2 => exact ⟨_, _, rfl, w'.sub.t h1, h2.length.trans hl, gNames_wd w' h2 hl fun σ' _ _ w2 => f _ G' H' (Sub.refl _) w2⟩
      · cases e2
    · cases e2
  · exact f.elim
/-- what a def of this program promises, found by its name -/
structure Cal (P : Program) (w : World) (K : PySem.W.Frag) (mg : Str → Option Value) (base : Heap) (x : Str) (ps : List Str) (lv : Nat) (bx : Bool) (g : Fn) (ds : List Value) : Prop where
  ex : ∃ f fd, FnOk P w K mg base CX0 lv f fd ps (spF K bx ps.length g) ∧ mg x = some (.ref f) ∧ PySem.W.keepIn K (.ref f) = true ∧ Binds K fd ps ds
end
theorem law_sp {K : PySem.W.Frag} {H : Hp} {a : Addr} {ns : List Int} {g : Fn} (m : ∃ bs, g [scr ns] [] = .ok (.val (.bool true)) bs) (hS : SqL K H a (ns.map V.int)) : spF K false 1 g [.ref a] H (fun v _ => v = .bl true) fun _ _ _ => False := by
  obtain ⟨bs, m⟩ := m
  refine ⟨H, none, [scr ns], [], [.ref a], Sub.refl _, rfl, rfl, .cons (.scr ns hS) .nil, rfl, fun a h => (by cases h), ?_⟩
  rw [m]
  intro G' H' _ v dp
  cases dp
  rfl
end L3

namespace L3
open PySem PySem.W PySem.Spec PyProof.Rows L2

theorem spF_stuck {K : PySem.W.Frag} {bx : Bool} {np : Nat} {vs : List V} {H : Hp} {Q : VK} {E : XK} : ¬ spF K bx np (fun _ _ => .stuck) vs H Q E := by
  rintro ⟨G, io, ds, box, ws, _, _, _, _, _, _, h⟩
  exact h
theorem fn_stuck {P : Program} {w : World} {K : PySem.W.Frag} {mg : Str → Option Value} {base : Heap} {k : Nat} {f : Addr} {fd : FuncData} {ps : List Str} {bx : Bool} {np : Nat} : FnOk P w K mg base CX0 k f fd ps (spF K bx np (fun _ _ => .stuck)) :=
  ⟨fun _ _ _ _ h => (spF_stuck h).elim, fun _ _ _ _ _ _ _ _ _ _ _ _ _ h => (spF_stuck h).elim⟩

section
variable {P : Program} {w : World} {K : PySem.W.Frag} {mg : Str → Option Value} {base : Heap}
/-- a def of the text is worth what its body's reading is worth -/
theorem fn_okD {x qual : Str} {st : Stmt} {f : Addr} {fd : FuncData} {N ps : List Str} {k : Nat} {b : M Fl} (bx : Bool) {dvs : List V} (F : FunD K x qual (defArgs st) (defBody st) (defScope st) dvs [] f fd) (S : FnScope N ps (defScope st)) (hps : ps.length ≤ N.length)
    (hb : ∀ (cdv : Value) (A : Around) (outer : List Env) (s : Shared) (H : Hp) (E : XK), Room k (A.deeper (envOfC qual (defScope st) s.heap.objs.size f cdv)) →
      SB (fun _ : Unit => (cxOf CX0 P w K mg base N qual (defScope st) f cdv A outer s H E).nox) K WW0 (defBody st) b) : FnOk P w K mg base CX0 (k + 1) f fd ps (spF K bx ps.length (runF bx N.length b)) := by
  refine F.ok S (fun vs H Q E h => ?_) (fun cdv A outer s H vs Q E hr h => ?_)
  · obtain ⟨G, io, ds, box, ws, _, _, _, _, hl, _⟩ := h
    exact hl
  · obtain ⟨G, io, ds, box, ws, sb, rfl, hbx, hd, hl, hio, hg⟩ := h
    obtain ⟨t, p, h⟩ := (hb cdv A outer s H E hr).ex
    refine ⟨t, (p ()).nox, ?_⟩
    have w0 := start_wd (N := N) sb hd (by omega) hio
    rw [hbx] at w0
    refine h io _ G _ _ H _ w0 ?_
    unfold runF at hg
    have ext : ∀ {L G' H' σ s'}, (∀ b o, H b = some o → G b = none → io ≠ some b → L b = some o) → Sub G G' → Wd K io L G' σ s' H' → Ext K G H io G' H' s'.box := fun {L G' H' σ s'} hL e w' =>
      ⟨e, w'.sub, fun b o h1 h2 h3 => w'.loose b o (hL b o h1 h2 h3), fun a ha => let ⟨g, _, q⟩ := w'.ios a ha; ⟨g, q⟩⟩
    have L0 : ∀ b o, H b = some o → G b = none → io ≠ some b → (if G b = none ∧ io ≠ some b then H b else none) = some o := fun b o h1 h2 h3 => by rw [if_pos ⟨h2, h3⟩]; exact h1
    cases e : b ⟨initE bx N.length ds, box⟩ with
    | stuck => rw [e] at hg; exact hg.elim
    | exc c d s' => rw [e] at hg; exact hg.elim
    | ok fl s' =>
      rw [e] at hg
      match fl, hg with
      | .nx, hg => exact fun σ' G' H' sb' w' => hg G' H' (ext L0 sb' w') _ .non
      | .rt (.val d), hg => exact fun v σ' G' H' sb' w' dp => hg G' H' (ext L0 sb' w') v dp
      | .rt (.new c), hg =>
        intro a o σ' G' H' sb' hL w' rc
        obtain ⟨hG', hH'⟩ := w'.loose a o upd_same
        have hioa : io ≠ some a := fun q => by
          have z := (w'.ios a q).2.1
          rw [upd_same] at z; cases z
        have hG : G a = none := sb'.none hG'
        have hH : H a = none := by
          have hL : (if G a = none ∧ io ≠ some a then H a else none) = none := hL
          rw [if_pos ⟨hG, hioa⟩] at hL
          exact hL
        exact hg G' H' (ext L0 sb' (w'.drop hL)) a o hH hG' hH' rc hioa
      | .bk, hg => exact hg.elim
      | .ct, hg => exact hg.elim
end
/-! ### calls with keywords -/
/-- the parameters' values, in order, out of the positional ones, the keywords' and the defaults -/
def arr {α : Type} (ix : List Nat) (nu nw : Nat) (ds us ws : List α) : List α := if us.length = nu ∧ ws.length = nw then ix.filterMap fun i => (us ++ (ws ++ ds))[i]? else []
theorem vals_pick {xs : List V} {us : List Value} (h : Vals xs us) : ∀ ix : List Nat, Vals (ix.filterMap fun i => xs[i]?) (ix.filterMap fun i => us[i]?)
  | [] => .nil
  | i :: ix => by
    rw [List.filterMap_cons, List.filterMap_cons]
    cases e : xs[i]? with
    | none =>
      have : us[i]? = none := by
        rw [List.getElem?_eq_none_iff] at e ⊢
        rw [← h.length]; exact e
      rw [this]
      exact vals_pick h ix
    | some x =>
      obtain ⟨u, eu, r⟩ := h.get e
      rw [eu]
      exact .cons r (vals_pick h ix)
theorem dq_pick {K : PySem.W.Frag} {G : Hp} {xs : List V} {us : List D} (h : DqAll K G xs us) : ∀ ix : List Nat, DqAll K G (ix.filterMap fun i => xs[i]?) (ix.filterMap fun i => us[i]?)
  | [] => .nil
  | i :: ix => by
    rw [List.filterMap_cons, List.filterMap_cons]
    cases e : us[i]? with
    | none =>
      have : xs[i]? = none := by
        rw [List.getElem?_eq_none_iff] at e ⊢
        rw [h.length]; exact e
      rw [this]
      exact dq_pick h ix
    | some x =>
      obtain ⟨u, eu, r⟩ := h.get e
      rw [eu]
      exact .cons r (dq_pick h ix)
theorem vals_app {a b : List V} {c d : List Value} (h : Vals a c) (h2 : Vals b d) : Vals (a ++ b) (c ++ d) := by
  induction h with
  | nil => exact h2
  | cons r _ ih => exact .cons r ih
theorem arr_vals {ix : List Nat} {nu nw : Nat} {dvs vs zs : List V} {ds us ws : List Value} (hd : Vals dvs ds) (h : Vals vs us) (h2 : Vals zs ws) : Vals (arr ix nu nw dvs vs zs) (arr ix nu nw ds us ws) := by
  unfold arr
  rw [h.length, h2.length]
  split
  · exact vals_pick (vals_app h (vals_app h2 hd)) ix
  · exact .nil
theorem kb_mk {K : PySem.W.Frag} {fd : FuncData} {ps ks : List Str} {ix : List Nat} {nu nw : Nat} {dvs : List V} {ds : List Value} (hd : Vals dvs ds)
    (h : ∀ (s : Shared) (us ws : List Value), K.In s.heap → us.length = nu → ws.length = nw → BindsTo s fd ⟨us, ks.zip ws⟩ (ps.zip (arr ix nu nw ds us ws))) (hp : ps ≠ []) : KBinds K fd ps ks (arr ix nu nw ds) (arr ix nu nw dvs) where
  to := fun s us ws hs hl => by
    by_cases c : us.length = nu ∧ ws.length = nw
    · exact h s us ws hs c.1 c.2
    · exfalso
      unfold arr at hl
      rw [if_neg c] at hl
      exact hp (List.length_eq_zero_iff.mp hl.symm)
  rel := fun r rz => arr_vals hd r rz
structure CalK (P : Program) (w : World) (K : PySem.W.Frag) (mg : Str → Option Value) (base : Heap) (x : Str) (ps ks : List Str) (lv : Nat) (bx : Bool) (g : Fn) (ix : List Nat) (nu nw : Nat) (ds : List Value) (dvs : List V) : Prop where
  ex : ∃ f fd, FnOk P w K mg base CX0 lv f fd ps (spF K bx ps.length g) ∧ mg x = some (.ref f) ∧ PySem.W.keepIn K (.ref f) = true ∧ KBinds K fd ps ks (arr ix nu nw ds) (arr ix nu nw dvs)
section
variable {X : Cx} {CX : CXT} {k : Nat} {f C : Addr} {fd : FuncData} {ps ks : List Str} {sp : Sp} {E : XK} {x m : Str} {p pos apos kpos : Pos} {e o : Expr} {es : List Expr} {kws : List Keyword} {te ta : TE} {t tk : TA} {nm : Option Str} {g : List Value → List Value → List Value} {gV : List V → List V → List V}
/-- f(k = v, ..) -/
theorem pe_callK0 (F : FnOk X.prog X.w X.K X.mg X.base CX k f fd ps sp) (hr : Room k X.A) (hg : Gl X x) (hm : X.mg x = some (.ref f)) (hk : PySem.W.keepIn X.K (.ref f) = true) (hb : KBinds X.K fd ps ks g gV) (hx : Passes CX X E)
    (hkw : PK X kws tk) (hall : (backToKw pos (keywordEach kws X.env)).all (·.1.isSome) = true := by rfl) (hks : (backToKw pos (keywordEach kws X.env)).filterMap (·.1) = ks := by rfl)
    (hdb : (x == ("__debug__" : Str)) = false := by decide)
    (hpl : (backToKw pos (keywordEach kws X.env)).any (·.1.isNone) = false := by rfl) :
    PE X (.Call (.Name x p) [] kws pos) (tCallK sp gV E tNil tk) := by
  refine ⟨fun pins s σ H Q I h => ?_⟩
  refine wpAny_Call_Name_kw (ld_glob I hg hm ?_ hdb)
  refine PySem.W.callWith_KW0 (h₀ := X.base) I.ok.mod.kin hk hall ?_ hpl
  refine thn (hkw.run pos pins s σ H _ I h) fun ws s2 ⟨zs, H2, I2, rz, q2⟩ => ⟨I2.kIn, ?_⟩
  rw [hks]
  exact run_fnk F hr hb hx I2 .nil rz q2
end
section
variable {ι : Type} {X : ι → Cx} {K : PySem.W.Frag} {E : WW} {e : Expr}
structure SKw {ι : Type} (X : ι → Cx) (K : PySem.W.Frag) (E : WW) (es : List Keyword) (fs : List (M D)) : Prop where
  ex : ∃ t, (∀ i, PK (X i) es t) ∧ ∀ {β : Type} {F : Hp → Out β → Prop} {k : List D → M β} {io L G σ s H} {Q : List V → Hp → Prop}, FK K E io L σ F → Wd K io L G σ s H → F G (evs fs k s) →
    (∀ vs ds s' G' H', Sub G G' → Wd K io L G' σ s' H' → DqAll K G' vs ds → F G' (k ds s') → Q vs H') → t σ H Q
theorem skw_nil : SKw X K E [] [] := ⟨_, fun _ => pk_nil, fun {β F k io L G σ s H Q} fk w hf hq => hq [] [] s G H (Sub.refl _) w .nil hf⟩
theorem skw_cons {nm : Option Str} {kpos : Pos} {e : Expr} {es : List Keyword} {f : M D} {fs : List (M D)} (h1 : SV X K E e f) (h2 : SKw X K E es fs) : SKw X K E (⟨nm, e, kpos⟩ :: es) (f :: fs) := by
  obtain ⟨t, pe, h1⟩ := h1.use
  obtain ⟨u, pa, h2⟩ := h2.ex
  refine ⟨_, fun z => pk_cons (pe z) (pa z), fun {β F k io L G σ s H Q} fk w hf hq => ?_⟩
  refine h1 fk w hf fun v d s1 G1 H1 sb1 w1 dp f1 => ?_
  refine h2 fk w1 f1 fun vs ds s2 G2 H2 sb2 w2 rs f2 => ?_
  exact hq _ _ s2 G2 H2 (sb1.trans sb2) w2 (.cons (sb2.dp dp) rs) f2
def eCallK (g : Fn) (ix : List Nat) (np nu nw : Nat) (fs ks : List (M D)) (dd : List D) : M R := evs fs fun us => evs ks fun ws s => if (arr ix nu nw dd us ws).length = np then (match g (arr ix nu nw dd us ws) [] with
  | .ok r _ => .ok r s
  | _ => .stuck) else .stuck
theorem arr_dq {K : PySem.W.Frag} {G : Hp} {ix : List Nat} {nu nw : Nat} {dvs vs zs : List V} {dd us ws : List D} (hd : DqAll K G dvs dd) (h : DqAll K G vs us) (h2 : DqAll K G zs ws) : DqAll K G (arr ix nu nw dvs vs zs) (arr ix nu nw dd us ws) := by
  unfold arr
  rw [h.length, h2.length]
  split
  · exact dq_pick (h.append (h2.append hd)) ix
  · exact .nil
theorem callK_end {io : Option Addr} {L G' H' : Hp} {σ : L2.St} {s' : S} {Q : VK} {g : Fn} {np : Nat} {as : List D} {ws : List V} (w' : Wd K io L G' σ s' H') (rs : DqAll K G' ws as) (f : Fin K E io L σ G' Q ((fun s => if as.length = np then (match g as [] with
  | .ok r _ => .ok r s
  | _ => .stuck) else .stuck : M R) s')) : spF K false np g ws H' Q E0 := by
  have f : Fin K E io L σ G' Q (if as.length = np then (match g as [] with
    | .ok r _ => .ok r s'
    | _ => .stuck) else .stuck) := f
  split at f
  · rename_i hl
    refine ⟨G', none, as, [], ws, w'.sub, rfl, rfl, rs, by rw [rs.length]; exact hl, fun a h => (by cases h), ?_⟩
    cases eg : g as [] with
    | stuck => rw [eg] at f; exact f.elim
    | exc _ _ _ => rw [eg] at f; exact f.elim
    | ok r bs =>
      rw [eg] at f
      intro G2 H2 x
      exact ret_caller (w'.extNew x) x.g f
  · exact f.elim
theorem se_callK {es : List Expr} {kws : List Keyword} {fs ks : List (M D)} {g : Fn} {ix : List Nat} {np nu nw : Nat} {dvs : List V} {dd : List D} (ha : SAv X K E es fs) (hk : SKw X K E kws ks) (hd : ∀ G, DqAll K G dvs dd)
    (hp : ∀ t tk, (∀ z, PA (X z) es t) → (∀ z, PK (X z) kws tk) → ∀ z, PE (X z) e (tCallK (spF K false np g) (arr ix nu nw dvs) E0 t tk)) : SE X K E e (eCallK g ix np nu nw fs ks dd) := by
  obtain ⟨t, pa, h⟩ := ha.ex
  obtain ⟨tk, pk, h2⟩ := hk.ex
  refine ⟨_, hp t tk pa pk, fun io L G σ s H Q w hf => ?_⟩
  refine h (fk_fin (Q := Q)) w hf fun vs us s1 G1 H1 sb1 w1 rs _ f => ?_
  refine h2 (fk_fin (Q := Q)) w1 f fun zs ws s2 G2 H2 sb2 w2 rz f2 => ?_
  exact callK_end w2 (arr_dq (hd G2) (sb2.dpAll rs) rz) f2
theorem se_callK0 {kws : List Keyword} {ks : List (M D)} {g : Fn} {ix : List Nat} {np nw : Nat} {dvs : List V} {dd : List D} (hk : SKw X K E kws ks) (hd : ∀ G, DqAll K G dvs dd)
    (hp : ∀ tk, (∀ z, PK (X z) kws tk) → ∀ z, PE (X z) e (tCallK (spF K false np g) (arr ix 0 nw dvs) E0 tNil tk)) : SE X K E e (eCallK g ix np 0 nw [] ks dd) := by
  obtain ⟨tk, pk, h2⟩ := hk.ex
  refine ⟨_, hp tk pk, fun io L G σ s H Q w hf => ?_⟩
  refine h2 (fk_fin (Q := Q)) w hf fun zs ws s2 G2 H2 sb2 w2 rz f2 => ?_
  exact callK_end w2 (arr_dq (hd G2) .nil rz) f2
end
end L3

/-! sets: sorted(set(..)), len(set(..)) (in work) -/
namespace L3
open PySem PySem.W PySem.Calls PySem.Spec PyProof.Rows L2
section
variable {P : Program} {w : World} {A : Around} {E : Value → Shared → Prop} {s : Shared} {β : Type} {enc : β → PyData} {R : Value → β → Prop}
/-- sorted of a set of data -/
theorem sorted_setD {a : Addr} {es : Array (Int × Value)} {ep : Nat} {t : SetTable} {b0 : List β} {Q : Value → Shared → Prop} (hh : A.handled = none) (ha : SetAt s.heap a es ep t) (hf : t.fits es.size = true) (hsz : es.size < scanBound) (r : Ris t.place.toList)
    (hl : w.params.followText "set-order" = true ∨ t.led = true)
    (e : ∀ vs : List Value, vs.Perm (es.toList.map (·.2)) → ∃ bs : List β, EachIs R vs bs ∧ bs.Perm b0)
    (er : ∀ v b, R v b → ∃ as, Reads s.heap v (enc b) as) (hal : AllAlike (b0.map enc)) (hk : Sortable (b0.map enc)) (hL : b0.length ≤ sizeLine) (hu : ∀ b, b ∈ b0 → A.units + 2 + (enc b).depth < cLine)
    (hQ : ∀ s' p (out : List Value) (c : Nat) (bs : List β), (∀ b o, s.heap.get? b = some o → s'.heap.get? b = some o) → s'.gens = s.gens → s'.os = s.os → s.heap.objs.size ≤ p →
      s'.heap.get? p = some (seqObj "list" out.toArray c) → out.length = b0.length → bs.Perm b0 → EachIs R out (bs.mergeSort (dataLe false enc)) → Q (.ref p) s') :
    wpAny (model P w) A (call (.builtin "sorted") [.ref a]) Q E s := by
  refine Calls.call_function_entry kind_sorted plain_sorted entry_sorted (args_sorted1 _) ?_
  unfold Builtin.«sorted»
  refine wpAny_bind (m := checkCount "sorted" 1 1 _) (wpAny_pure ?_)
  refine wpAny_bind (collect_set (A := A.in1) hh ha hf hsz r hl fun s1 vs k1 hz g1 o1 pm => ?_)
  obtain ⟨bs, eb, pb⟩ := e vs pm
  have hvl : vs.length = b0.length := by rw [eb.length, pb.length_eq]
  refine wpAny_bind (wpAny_newList ?_ (by rw [hvl]; exact hL))
  have hoL : (s1.heap.push (seqObj "list" vs.toArray 0)).get? s1.heap.objs.size = some (seqObj "list" vs.toArray 0) := Heap.get?_push_size _ rfl
  have old : ∀ b o, s.heap.get? b = some o → (sortingHeap (s1.heap.push (seqObj "list" vs.toArray 0)) s1.heap.objs.size vs).get? b = some o := fun b o q =>
    sortingHeap_old (Nat.ne_of_lt (Heap.lt_size (k1 b o q))) (Heap.get?_push_of_some _ (k1 b o q))
  have hmem : ∀ d, d ∈ bs.map enc → d ∈ b0.map enc := fun d hd => ((pb.map enc).mem_iff).mp hd
  have hal' : AllAlike (bs.map enc) := fun d hd d' hd' => hal d (hmem d hd) d' (hmem d' hd')
  have hk' : Sortable (bs.map enc) := hk.elim (fun h => .inl fun d hd => h d (hmem d hd)) fun h => .inr fun d hd => h d (hmem d hd)
  have er' : EachIs (fun v b => ∃ as, Reads (sortingHeap (s1.heap.push (seqObj "list" vs.toArray 0)) s1.heap.objs.size vs) v (enc b) as) vs bs := eb.mono fun v b h => by
    obtain ⟨as, q⟩ := er v b h
    exact ⟨as, PyProof.Rows.Reads.keeps old q⟩
  have S := SortsAt.data (prog := P) (w := w) (A := A.in1.in1) (s := { s1 with heap := sortingHeap (s1.heap.push (seqObj "list" vs.toArray 0)) s1.heap.objs.size vs }) (each_map (R := fun v d => ∃ as, Reads (sortingHeap (s1.heap.push (seqObj "list" vs.toArray 0)) s1.heap.objs.size vs) v d as) enc er') hal' hk' (bound_map fun b hb => hu b (pb.mem_iff.mp hb))
  refine wpAny_bind (wpAny_holding (wpAny_call_entry_kw slot_list_sort ⟨_, hoL, rfl⟩ entry_list_sort ?body (args_list_sort _)))
  case body =>
    refine list_sort_vals (s := { s1 with heap := s1.heap.push (seqObj "list" vs.toArray 0) }) hoL S (by rw [hvl]; exact hL) ?_
    refine ⟨_, rfl, wpAny_pure ⟨_, rfl, ?_⟩⟩
    obtain ⟨c, hc⟩ := sortedHeap_at (vs := vs) (out := (sortVals (dataKind (sortingHeap (s1.heap.push (seqObj "list" vs.toArray 0)) s1.heap.objs.size vs) (bs.map enc)) false vs vs).toArray) hoL
    refine hQ _ s1.heap.objs.size _ c bs (fun b u q => ?_) g1 o1 hz hc (by rw [sortVals_length false rfl]; exact hvl) pb (sortVals_data false eb er' hal')
    have q1 := k1 b u q
    have hlt := Heap.lt_size q1
    rw [sortedHeap_old (Nat.ne_of_lt hlt) (by rw [size_push']; exact Nat.lt_succ_of_lt hlt)]
    exact Heap.get?_push_of_some _ q1
end

/-! ### tuples of ints -/
def tupI (ns : List Int) : D := .tuple (ns.map .int)
def tupsOf : List D → Option (List (List Int))
  | [] => some []
  | .tuple xs :: ds => match intsOf xs with
    | some ns => (tupsOf ds).map (ns :: ·)
    | none => none
  | _ :: _ => none
theorem intsOf_eq : ∀ {ds : List D} {ns : List Int}, intsOf ds = some ns → ds = ns.map PyData.int
  | [], _, h => by cases h; rfl
  | d :: ds, ns, h => by
    cases d with
    | int n =>
      unfold intsOf at h
      cases e : intsOf ds with
      | none => rw [e] at h; cases h
      | some ms => rw [e] at h; cases h; rw [intsOf_eq e]; rfl
    | _ => cases h
theorem tupsOf_eq : ∀ {ds : List D} {nss : List (List Int)}, tupsOf ds = some nss → ds = nss.map tupI
  | [], _, h => by cases h; rfl
  | d :: ds, nss, h => by
    cases d with
    | tuple xs =>
      unfold tupsOf at h
      cases e1 : intsOf xs with
      | none => rw [e1] at h; cases h
      | some ns =>
        rw [e1] at h
        cases e : tupsOf ds with
        | none => rw [e] at h; cases h
        | some ms => rw [e] at h; cases h; rw [tupsOf_eq e, intsOf_eq e1]; rfl
    | _ => cases h
def nub {α : Type} [DecidableEq α] : List α → List α
  | [] => []
  | x :: xs => if x ∈ xs then nub xs else x :: nub xs
theorem nub_mem {α : Type} [DecidableEq α] {x : α} : ∀ {l : List α}, x ∈ nub l ↔ x ∈ l
  | [] => .rfl
  | y :: l => by
    unfold nub
    split
    · rename_i h
      rw [nub_mem (l := l), List.mem_cons]
      exact ⟨.inr, fun q => q.elim (fun e => e ▸ h) id⟩
    · rw [List.mem_cons, List.mem_cons, nub_mem (l := l)]
theorem nub_nodup {α : Type} [DecidableEq α] : ∀ l : List α, (nub l).Nodup
  | [] => List.nodup_nil
  | y :: l => by
    unfold nub
    split
    · exact nub_nodup l
    · rename_i h
      exact List.nodup_cons.mpr ⟨fun q => h (nub_mem.mp q), nub_nodup l⟩
theorem nub_length {α : Type} [DecidableEq α] : ∀ l : List α, (nub l).length ≤ l.length
  | [] => Nat.le_refl _
  | y :: l => by
    unfold nub
    split
    · exact Nat.le_succ_of_le (nub_length l)
    · exact Nat.succ_le_succ (nub_length l)
def leT (a b : List Int) : Bool := dataLe false tupI a b
def leI (a b : Int) : Bool := decide (a ≤ b)
def sortT (nss : List (List Int)) : List (List Int) := (nub nss).mergeSort leT
def sortI (ns : List Int) : List Int := (nub ns).mergeSort leI
def setOf (ds : List D) : Option (List D) := match intsOf ds with
  | some ns => if ns.length < 64 then some ((sortI ns).map .int) else none
  | none => match tupsOf ds with
    | some nss => if nss.length < 64 ∧ nss.all (fun w => !w.isEmpty) = true then some ((sortT nss).map tupI) else none
    | none => none
def pSortSet : List D → Option PO
  | [.list ds] => (setOf ds).map .l
  | [.tuple ds] => match intsOf ds with
    | some ns => if ns.length < 64 then some (.l ((sortI ns).map .int)) else none
    | none => none
  | _ => none
def pLenSet : List D → Option PO
  | [.list ds] => match intsOf ds with
    | some ns => if ns.length < 64 then some (.d (.int (nub ns).length)) else none
    | none => match tupsOf ds with
      | some nss => if nss.length < 64 then some (.d (.int (nub nss).length)) else none
      | none => none
  | [.tuple ds] => match intsOf ds with
    | some ns => if ns.length < 64 then some (.d (.int (nub ns).length)) else none
    | none => none
  | _ => none
theorem perm_of_map {α β : Type} (f : α → β) : ∀ {vs : List β} {l : List α}, vs.Perm (l.map f) → ∃ bs : List α, bs.Perm l ∧ vs = bs.map f
  | [], l, h => by
    have := h.length_eq
    rw [List.length_map] at this
    have e : l = [] := List.length_eq_zero_iff.mp this.symm
    subst e
    exact ⟨[], .refl _, rfl⟩
  | v :: vs, l, h => by
    obtain ⟨x, hx, rfl⟩ := List.mem_map.mp (h.mem_iff.mp List.mem_cons_self)
    obtain ⟨l1, l2, rfl⟩ := List.append_of_mem hx
    have h2 : (f x :: vs).Perm (f x :: (l1 ++ l2).map f) := h.trans (by
      rw [List.map_append, List.map_cons, List.map_append]
      exact List.perm_middle)
    obtain ⟨bs, p, e⟩ := perm_of_map f (List.Perm.cons_inv h2)
    exact ⟨x :: bs, (List.Perm.cons x p).trans List.perm_middle.symm, by rw [e]; rfl⟩
theorem toksI_inj : ∀ {a b : List Int}, keyToksAll (a.map PyData.int) = keyToksAll (b.map PyData.int) → a = b
  | [], [], _ => rfl
  | [], y :: ys, h => by
    rw [List.map_nil, List.map_cons, keyToksAll, keyToksAll] at h
    simp at h
  | x :: xs, [], h => by
    rw [List.map_nil, List.map_cons, keyToksAll, keyToksAll] at h
    simp at h
  | x :: xs, y :: ys, h => by
    rw [List.map_cons, List.map_cons, keyToksAll, keyToksAll] at h
    rw [keyToks, keyToks] at h
    simp only [List.cons_append, List.nil_append, List.cons.injEq, Sum.inl.injEq, true_and] at h
    have h2 := toksI_inj (a := xs) (b := ys) h.2
    rw [h.1, h2]
theorem leT_tot : TotalLe (sortLe (listOrd itemOrd) false fun w : List Int => keyToks (tupI w)) := sortLe_total _ _ _
theorem leT_def (a b : List Int) : leT a b = !((listOrd itemOrd).blt (keyToks (tupI b)) (keyToks (tupI a))) := rfl
theorem leT_anti {a b : List Int} (h1 : leT a b = true) (h2 : leT b a = true) : a = b := by
  rw [leT_def, Bool.not_eq_true'] at h1 h2
  have := (listOrd itemOrd).total _ _ h2 h1
  unfold tupI at this
  rw [keyToks, keyToks] at this
  exact toksI_inj this
theorem leT_sorted (l : List (List Int)) : (l.mergeSort leT).Pairwise fun a b => leT a b = true :=
  List.pairwise_mergeSort (le := leT) (fun a b c h1 h2 => leT_tot.trans a b c h1 h2) (fun a b => by rw [Bool.or_eq_true]; exact leT_tot.total a b) l
theorem leI_sorted (l : List Int) : (l.mergeSort leI).Pairwise fun a b => a ≤ b :=
  (List.pairwise_mergeSort (le := leI) (fun a b c h1 h2 => by unfold leI at *; simp at *; omega) (fun a b => by unfold leI; simp; omega) l).imp fun h => of_decide_eq_true h
theorem sortT_eq {l nss : List (List Int)} (hs : l.Pairwise fun a b => leT a b = true) (hn : l.Nodup) (hm : ∀ z, z ∈ l ↔ z ∈ nss) : l = sortT nss :=
  List.Perm.eq_of_pairwise (le := fun x y => leT x y = true) (fun x y _ _ h1 h2 => leT_anti h1 h2) hs (leT_sorted _) (((List.perm_ext_iff_of_nodup hn (nub_nodup nss)).mpr fun z => by rw [hm, nub_mem]).trans (List.mergeSort_perm _ _).symm)
theorem sortI_eq {l ns : List Int} (hs : l.Pairwise fun a b => a < b) (hm : ∀ z, z ∈ l ↔ z ∈ ns) : l = sortI ns := by
  have hn : l.Nodup := hs.imp fun h => Int.ne_of_lt h
  exact List.Perm.eq_of_pairwise (le := fun x y => x ≤ y) (fun x y _ _ h1 h2 => Int.le_antisymm h1 h2) (hs.imp fun h => Int.le_of_lt h) (leI_sorted _) (((List.perm_ext_iff_of_nodup hn (nub_nodup ns)).mpr fun z => by rw [hm, nub_mem]).trans (List.mergeSort_perm _ _).symm)
theorem depth_intsI (a : List Int) : PyData.depthAll (a.map PyData.int) = 0 := by
  induction a with
  | nil => rfl
  | cons x xs ih => show max (PyData.int x).depth (PyData.depthAll (xs.map PyData.int)) = 0; rw [ih]; rfl
theorem depth_tupI (a : List Int) : (tupI a).depth = 1 := by
  show PyData.depthAll (a.map PyData.int) + 1 = 1; rw [depth_intsI]
theorem noDict_intsI (a : List Int) : noDictAll (a.map PyData.int) = true := by
  induction a with
  | nil => rfl
  | cons x xs ih => show (noDict (PyData.int x) && noDictAll (xs.map PyData.int)) = true; rw [ih]; rfl
end L3

/-! set(..) of ints, a list's or a tuple's; sorted(set(..)) as one -/
namespace L3
open PySem PySem.W PySem.Calls PySem.Spec PyProof.Rows L2
section
variable {P : Program} {w : World} {A : Around} {E : Value → Shared → Prop} {s : Shared}
def setObj (w : World) : Obj := { cls := .type "set", dict := none, data := .set #[] 0 (.fresh 0 0 (!w.params.followText "set-order")) }
/-- set(x), by what set's own init does -/
theorem set_shell {a : Value} {T : Heap → Nat → Prop} {Q : Value → Shared → Prop}
    (init : ∀ E' : Value → Shared → Prop, wpAny (model P w) A.in1.in1 (Builtin.«set.__init__» ⟨[.ref s.heap.objs.size, a], []⟩) (fun f s2 => f = .done (.ret .none) ∧ ∃ h' tk, s2 = { s with heap := h', toks := tk } ∧ T h' tk) E' { s with heap := s.heap.push (setObj w) })
    (h : ∀ h' tk, T h' tk → Q (.ref s.heap.objs.size) { s with heap := h', toks := tk }) : wpAny (model P w) A (call (.type "set") [a]) Q E s := by
  have cs := F.called_set
  obtain ⟨c, tl, mro⟩ := cs.mro
  have made := cs.made; have sub := cs.sub; have noT := cs.notType; have can := cs.canCreate
  have tyc := F.typeCall_set_1 a
  refine wpAny_call (codeAny_of_tree ?_)
  show wpAny _ _ (callAny (.type "set") ⟨[a], []⟩) _ _ _
  refine wpAny_pure ⟨Code.quiet_builtin _ (by decide +kernel), codeAny_builtin F.entry_type_call ?_⟩
  rw [Around.under_plain (weight_type_call_type "set" [a] []) rfl]
  repeat (any_goals (first | assumption | wp_step))
  have at1 : (s.heap.push (setObj w)).get? s.heap.objs.size = some (setObj w) := Heap.get?_push_size _ rfl
  refine codeAny_mono (code_set_led1 a (E := E) (Q₁ := fun o s₁ => o = .ref s.heap.objs.size ∧ s₁ = { s with heap := s.heap.push (setObj w) }) ⟨rfl, rfl⟩) fun r s₁ hr => ?_
  match r, hr with
  | .error e, hr => exact hr
  | .ok (.ret o), hr =>
    obtain ⟨rfl, rfl⟩ := hr
    have ty : Shared.TypeIs { s with heap := s.heap.push (setObj w) } (.ref s.heap.objs.size) "set" := ⟨_, at1, rfl⟩
    have look := cs.init.lookup; have bind := cs.init.bind (.ref s.heap.objs.size)
    repeat (any_goals (first | assumption | wp_step))
    refine codeAny_mono (codeAny_call_builtin (R := wants (fun x s₂ => x = .none ∧ ∃ h' tk, s₂ = { s with heap := h', toks := tk } ∧ T h' tk) E) cs.init.plain F.entry_set_init (check_set_init_1 ty ?i)) fun r₂ s₂ hr₂ => ?n
    case i =>
      exact wpAny_mono (init E) (fun f s' hf => by obtain ⟨rfl, hf⟩ := hf; exact ⟨rfl, hf⟩) fun _ _ e => e
    case n =>
      match r₂, hr₂ with
      | .error e, hr₂ => exact hr₂
      | .ok (.ret x), hr₂ =>
        obtain ⟨rfl, h', tk, rfl, hT⟩ := hr₂
        repeat (any_goals (first | assumption | wp_step))
        exact h h' tk hT
theorem setObj_at {h : Heap} {a : Addr} {ns : List Int} (ho : h.get? a = some (setObj w)) : ∃ c, c ≤ 0 ∧ SetR w h a (fun j => decide (j ∈ ns.take 0)) c := ⟨0, Nat.le_refl _, setR_new_at ho⟩
/-- what set's init does with a list of ints -/
theorem set_init_list {l : Addr} {items : Array Value} (ns : List Int) {E' : Value → Shared → Prop} (hh : A.handled = none) (hl : s.heap.IsList l items) (hit : IntsAre items.toList ns) (hb : ns.length + 1 < scanBound) :
    wpAny (model P w) A.in1.in1 (Builtin.«set.__init__» ⟨[.ref s.heap.objs.size, .ref l], []⟩) (fun f s2 => f = .done (.ret .none) ∧ ∃ h' tk, s2 = { s with heap := h', toks := tk } ∧ ∃ c, c ≤ ns.length ∧ SetR w h' s.heap.objs.size (fun j => decide (j ∈ ns)) c ∧ ∀ b o, s.heap.get? b = some o → h'.get? b = some o) E' { s with heap := s.heap.push (setObj w) } := by
  have len : items.size = ns.length := by rw [← IntsAre.length hit, Array.length_toList]
  have at1 : (s.heap.push (setObj w)).get? s.heap.objs.size = some (setObj w) := Heap.get?_push_size _ rfl
  have l1 := hl.push (setObj w)
  obtain ⟨ol, hol, hcl, nl, hdl⟩ := hl
  have lt1 : l < s.heap.objs.size := Heap.lt_size hol
  have sz : (s.heap.push (setObj w)).objs.size = s.heap.objs.size + 1 := Heap.size_push ..
  obtain ⟨ocls, odict, odata, oslots⟩ := ol
  simp only at hcl hdl
  subst hcl; subst hdl
  have ol1 : (s.heap.push (setObj w)).get? l = some { cls := .type "list", dict := odict, data := .seq items nl, slots := oslots } := Heap.get?_push_of_some _ hol
  have ne1 : l ≠ (s.heap.push (setObj w)).objs.size := by rw [sz]; exact Nat.ne_of_lt (Nat.lt_succ_of_lt lt1)
  have ne2 : s.heap.objs.size ∉ [(s.heap.push (setObj w)).objs.size, l] := fun q => by
    rw [sz] at q
    rcases List.mem_cons.mp q with q | q
    · exact Nat.ne_of_lt (Nat.lt_succ_self _) q
    · exact Nat.ne_of_gt lt1 (List.mem_singleton.mp q)
  have n1 := F.sub_list_set; have n2 := F.sub_list_frozenset
  have n3 : (Value.type "list" == Value.type "dict") = false := by decide
  unfold Builtin.«set.__init__» noKeywords Builtin.Frozenset.updateFrom
  generalize e : pyIter = it
  wp_walk
  subst e
  refine wpAny_pyIter_list l1 ?_
  refine wpAny_bind (wpAny_runValue ?_)
  have val : ∀ (i : Nat) (v : Value), items[i]? = some v → ∃ k t, ns[i]? = some k ∧ v = .int k t := fun i v hv => by
    have hi : i < ns.length := len ▸ (Array.getElem?_eq_some_iff.mp hv).1
    obtain ⟨t, q⟩ := PyProof.Rows.IntsAre.int_at hit i v (by rw [Array.getElem?_toList]; exact hv)
    exact ⟨ns[i], t, List.getElem?_eq_getElem hi, by rw [q, List.getD_eq_getElem?_getD, List.getElem?_eq_getElem hi]; rfl⟩
  refine set_update_ints (P := P) (w := w) ((Walks.list (by simp [hh]) (s.heap.push (setObj w)).objs.size l ne1 items).toS) s.heap.objs.size ne2 ns len hb val _ 0 _ rfl (Nat.zero_le _) ⟨⟨_, Heap.get?_push_size _ rfl, rfl, rfl⟩, l1.push _⟩ (setObj_at (Heap.get?_push_of_some _ at1)) fun s' c m hc hR => ?_
  obtain ⟨h', g2, d', tk', os'⟩ := s'
  have eg : g2 = s.gens := m.gens
  have ed : d' = s.drawn := m.drawn
  have eo : os' = s.os := m.os
  subst eg; subst ed; subst eo
  refine wpAny_pure (wpAny_pure ⟨rfl, h', tk', rfl, c, by omega, hR, fun b o q => ?_⟩)
  have b0 : b < s.heap.objs.size := Heap.lt_size q
  refine m.heap b o (fun z => ?_) (Heap.get?_push_of_some _ (Heap.get?_push_of_some _ q))
  rcases List.mem_cons.mp z with z | z
  · exact Nat.ne_of_lt b0 z
  · rw [sz] at z
    exact Nat.ne_of_lt (Nat.lt_succ_of_lt b0) (List.mem_singleton.mp z)
/-- set(xs), a list of ints -/
theorem call_set_listN {l : Addr} {items : Array Value} (ns : List Int) {Q : Value → Shared → Prop} (hh : A.handled = none) (hl : s.heap.IsList l items) (hit : IntsAre items.toList ns) (hb : ns.length + 1 < scanBound)
    (h : ∀ (h' : Heap) (tk c : Nat), SetR w h' s.heap.objs.size (fun j => decide (j ∈ ns)) c → c ≤ ns.length → (∀ b o, s.heap.get? b = some o → h'.get? b = some o) → Q (.ref s.heap.objs.size) { s with heap := h', toks := tk }) :
    wpAny (model P w) A (call (.type "set") [.ref l]) Q E s :=
  set_shell (fun E' => set_init_list ns hh hl hit hb) fun h' tk ⟨c, hc, hR, hk⟩ => h h' tk c hR hc hk
end
section
variable {X : Cx}
/-- set(xs), a list or a tuple of ints -/
def rSetIL (K : PySem.W.Frag) (w : World) : List V → Hp → VK → Prop := fun xs H Q => ∃ (l : Addr) (ns : List Int), xs = [V.ref l] ∧ (SqL K H l (ns.map V.int) ∨ SqT K H l (ns.map V.int)) ∧ ns.length < 64 ∧
  ∀ a n, H a = none → n ≤ ns.length → Q (.ref a) (upd H a (SetO w a (fun j => decide (j ∈ ns)) n))
theorem cr_setIL (hc : X.calm = true) : CallR X (.type "set") (rSetIL X.K X.w) := by
  intro pins s σ H xs us Q I r h
  obtain ⟨l, ns, rfl, hl, hf, q⟩ := h
  rw [Vals.ref1 r]
  have hn : H s.heap.objs.size = none := I.hok.fresh (Nat.le_refl _)
  have hb : ns.length + 1 < scanBound := by unfold scanBound; omega
  have fin : ∀ (h' : Heap) (tk c : Nat), SetR X.w h' s.heap.objs.size (fun j => decide (j ∈ ns)) c → c ≤ ns.length → (∀ b o, s.heap.get? b = some o → h'.get? b = some o) → ∃ x H', Inv X pins σ H' { s with heap := h', toks := tk } ∧ RelV x (.ref s.heap.objs.size) ∧ Q x H' := fun h' tk c R hc k =>
    ⟨.ref s.heap.objs.size, upd H s.heap.objs.size (SetO X.w s.heap.objs.size (fun j => decide (j ∈ ns)) c), I.laid (t' := tk) k (Nat.le_refl _) (setO_new R), rfl, q _ c hn hc⟩
  rcases hl with hl | hl
  · obtain ⟨its, rv, pl, hz⟩ := I.list hl
    exact call_set_listN (P := X.prog) (w := X.w) ns (I.ok.hd hc) pl.isList (by simpa using L2.ints_vals rv) hb fin
  · obtain ⟨its, rv, pl, hz⟩ := I.tuple hl
    exact call_set_tupI (P := X.prog) (w := X.w) ns (I.ok.hd hc) pl (by simpa using L2.ints_vals rv) hb fin
/-- sorted(set), tuples of ints, by their own order -/
def rSortTD (K : PySem.W.Frag) (P : Program) (w : World) : List V → Hp → VK → Prop := fun vs H Q => ∃ (a : Addr) (L : List (Addr × List Int)), vs = [V.ref a] ∧ H a = some (SetTO P w a L) ∧ (∀ p ∈ L, SqT K H p.1 (p.2.map V.int)) ∧ (∀ p ∈ L, p.2 ≠ []) ∧
  ∀ (M : List (Addr × List Int)) (p : Addr), M.Perm L → (M.map (·.2)).Nodup → (M.map (·.2)).Pairwise (fun x y => leT x y = true) → H p = none → Q (.ref p) (upd H p (.lst (M.map fun q => V.ref q.1)))
theorem isT_reads {P : Program} {w : World} {h : Heap} {b : Addr} {k : List Int} (x : IsT P w h k b) : ∃ as, Reads h (.ref b) (tupI k) as := by
  obtain ⟨o, items, n, ho, hc, hd, hi⟩ := x
  have key : ∀ {vs : List Value} {ks : List Int}, IntsAre vs ks → ∃ as, ReadsAll h vs (ks.map PyData.int) as := by
    intro vs ks q
    induction q with
    | nil => exact ⟨_, .nil⟩
    | cons m t _ ih => obtain ⟨as, ih⟩ := ih; exact ⟨_, .cons (.int m t) ih⟩
  obtain ⟨as, q⟩ := key (ints_of_items hi)
  exact ⟨_, .tuple ho hc hd q⟩
theorem alike_tupI (a b : List Int) : alike (tupI a) (tupI b) = true := by
  show alikeAll (a.map PyData.int) (b.map PyData.int) = true
  induction a generalizing b with
  | nil => cases b <;> rfl
  | cons x xs ih =>
    cases b with
    | nil => rfl
    | cons y ys => show (alike (PyData.int x) (PyData.int y) && alikeAll (xs.map PyData.int) (ys.map PyData.int)) = true; rw [ih]; rfl
theorem each_refs {L : List (Addr × List Int)} : ∀ {out : List Value} {M : List (Addr × List Int)}, EachIs (fun (v : Value) (p : Addr × List Int) => v = .ref p.1 ∧ p ∈ L) out M → out = M.map fun q => Value.ref q.1
  | _, _, .nil => rfl
  | _, _, .cons h t => by rw [h.1, each_refs t]; rfl
theorem cr_sortTD (hc : X.calm = true) (hu : X.A.units + 64 < cLine) : CallR X (.builtin "sorted") (rSortTD X.K X.prog X.w) := by
  intro pins s σ H vs us Q I r h
  obtain ⟨a, L, rfl, ha, hk, hne, q⟩ := h
  have R0 : SetT0 X.prog X.w s.heap a L := (I.hok a _ ha).1
  obtain ⟨es, ep, t, R⟩ := R0.full fun p hp => I.isT (hk p hp)
  rw [Vals.ref1 r]
  obtain ⟨o, ho, hex, hd⟩ := R.ob
  have hes : es.toList.map (·.2) = L.map fun q => Value.ref q.1 := by
    have := congrArg (List.map (fun e : Int × Value => e.2)) R.rows
    rw [this]; unfold L2.rowsOf; rw [List.map_map]; rfl
  have hsz := R.size
  have few := R.few
  refine sorted_setD (β := Addr × List Int) (enc := fun p => tupI p.2) (R := fun v p => v = .ref p.1 ∧ p ∈ L) (b0 := L) (I.ok.hd hc) ⟨o, ho, hex.1, hd⟩ R.fits (by unfold scanBound; omega) R.tab.ris R.led (fun vs pm => ?_) (fun v b hb => ?_) (fun d hd d' hd' => ?_) (.inl fun d hd => ?_) (by rw [show sizeLine = 16777216 from rfl]; omega) (fun b hb => ?_) fun s' p out c bs k g o hp hg hl pm he => ?_
  · rw [hes] at pm
    obtain ⟨bs, pb, rfl⟩ := perm_of_map _ pm
    refine ⟨bs, ?_, pb⟩
    have : ∀ l : List (Addr × List Int), (∀ p ∈ l, p ∈ L) → EachIs (fun (v : Value) p => v = .ref p.1 ∧ p ∈ L) (l.map fun q => Value.ref q.1) l := by
      intro l
      induction l with
      | nil => exact fun _ => .nil
      | cons x l ih => exact fun h => .cons ⟨rfl, h x List.mem_cons_self⟩ (ih fun p hp => h p (List.mem_cons_of_mem _ hp))
    exact this bs fun p hp => pb.mem_iff.mp hp
  · obtain ⟨rfl, hb⟩ := hb
    exact isT_reads (P := X.prog) (w := X.w) (R.tup b hb)
  · obtain ⟨p, _, rfl⟩ := List.mem_map.mp hd
    obtain ⟨p', _, rfl⟩ := List.mem_map.mp hd'
    exact alike_tupI _ _
  · obtain ⟨p, hp, rfl⟩ := List.mem_map.mp hd
    cases e : p.2 with
    | nil => exact absurd e (hne p hp)
    | cons x xs => exact ⟨_, _, rfl⟩
  · rw [depth_tupI]; omega
  · have hn : H p = none := I.hok.fresh hp
    have hout := each_refs he
    have pM := (List.mergeSort_perm bs (dataLe false fun p : Addr × List Int => tupI p.2)).trans pm
    have leM : (bs.mergeSort (dataLe false fun p : Addr × List Int => tupI p.2)).Pairwise fun x y => leT x.2 y.2 = true := by
      have z := List.pairwise_mergeSort (le := dataLe false fun p : Addr × List Int => tupI p.2) (fun a b c h1 h2 => leT_tot.trans a.2 b.2 c.2 h1 h2) (fun a b => by rw [Bool.or_eq_true]; exact leT_tot.total a.2 b.2) bs
      exact z
    generalize bs.mergeSort (dataLe false fun p : Addr × List Int => tupI p.2) = M at he hout pM leM
    have hM : M.length < 64 := by rw [pM.length_eq]; exact few
    have hlen : (M.map fun q => V.ref q.1).length ≤ sizeLine := by rw [List.length_map, sizeLine_eq]; omega
    have hv : Vals (M.map fun q => V.ref q.1) out := by rw [hout]; exact vals_of_refs M
    have J : Inv X pins σ (upd H p (.lst (M.map fun q => V.ref q.1))) { s with heap := s'.heap, gens := s'.gens, drawn := s'.drawn, toks := s'.toks } :=
      I.call (ch := []) (Un.laid k hp hn) (I.hok.laid k hp ⟨hlen, out, c, hv, hg⟩) (by rw [g]; exact I.bare) (fun _ z => nomatch z)
    have es' : s' = { s with heap := s'.heap, gens := s'.gens, drawn := s'.drawn, toks := s'.toks } := by
      obtain ⟨_, _, _, _, _⟩ := s'
      obtain ⟨_, _, _, _, _⟩ := s
      subst o
      rfl
    rw [es']
    exact ⟨.ref p, _, J, rfl, q M p pM ((pM.map (·.2)).nodup_iff.mpr R.nd) (List.pairwise_map.mpr leM) hn⟩
end
end L3

/-! sorted(set(..)) -/
namespace L3
open PySem PySem.W PySem.Calls PySem.Spec PyProof.Rows L2
section
variable {X : Cx}
theorem cr_or {f : Value} {r1 r2 : List V → Hp → VK → Prop} (h1 : CallR X f r1) (h2 : CallR X f r2) : CallR X f (fun vs H Q => r1 vs H Q ∨ r2 vs H Q) := by
  intro pins s σ H vs us Q I r h
  rcases h with h | h
  · exact h1 pins s σ H vs us Q I r h
  · exact h2 pins s σ H vs us Q I r h
def rSetD (K : PySem.W.Frag) (P : Program) (w : World) : List V → Hp → VK → Prop := fun vs H Q => rSetIL K w vs H Q ∨ rSetOfT K P w vs H Q
def rSortS (K : PySem.W.Frag) (P : Program) (w : World) : List V → Hp → VK → Prop := fun vs H Q => rSortedSet w vs H Q ∨ rSortTD K P w vs H Q
theorem cr_setD (hc : X.calm = true) (hu : X.A.units + 64 < cLine) : CallR X (.type "set") (rSetD X.K X.prog X.w) := cr_or (cr_setIL hc) (cr_setOfT hc hu)
theorem cr_sortS (hc : X.calm = true) (hu : X.A.units + 64 < cLine) : CallR X (.builtin "sorted") (rSortS X.K X.prog X.w) := cr_or (cr_sortedSet hc) (cr_sortTD hc hu)
end
theorem tup_ks {K : PySem.W.Frag} {G : Hp} : ∀ {nss : List (List Int)} {xs : List V}, DqAll K G xs (nss.map tupI) → ∃ ks : List (Addr × List Int), xs = ks.map (fun p => V.ref p.1) ∧ ks.map (·.2) = nss ∧ ∀ p ∈ ks, Dq K G (.ref p.1) (tupI p.2)
  | [], _, h => by cases h; exact ⟨[], rfl, rfl, fun p hp => nomatch hp⟩
  | ns :: nss, _, h => by
    cases h with
    | cons h1 h2 =>
      obtain ⟨ks, e1, e2, h3⟩ := tup_ks h2
      have h1' := h1
      unfold tupI at h1
      cases h1 with
      | tup q1 q2 =>
        refine ⟨(_, ns) :: ks, by rw [e1]; rfl, by rw [← e2]; rfl, fun p hp => ?_⟩
        rcases List.mem_cons.mp hp with rfl | hp
        · exact h1'
        · exact h3 p hp
theorem dq_sqT {K : PySem.W.Frag} {G : Hp} {b : Addr} {ns : List Int} (h : Dq K G (.ref b) (tupI ns)) : SqT K G b (ns.map V.int) := by
  unfold tupI at h
  cases h with
  | tup q1 q2 => rw [DqAll.ints_inv q2] at q1; exact q1
theorem dq_refs {K : PySem.W.Frag} {G : Hp} : ∀ {M : List (Addr × List Int)}, (∀ p ∈ M, Dq K G (.ref p.1) (tupI p.2)) → DqAll K G (M.map fun q => V.ref q.1) ((M.map (·.2)).map tupI)
  | [], _ => .nil
  | p :: M, h => .cons (h p List.mem_cons_self) (dq_refs fun q hq => h q (List.mem_cons_of_mem _ hq))
section
variable {ι : Type} {X : ι → Cx} {K : PySem.W.Frag} {E : WW} {e : Expr} {P : Program} {w : World}
/-- sorted(set(x)) -/
theorem se_sortset {es : List Expr} {os : List Opd} (ha : SA X K E es os) (hp : ∀ t, (∀ z, PA (X z) es t) → ∀ z, PE (X z) e (tCB (rSortS K P w) (tCons (tCB (rSetD K P w) t) tNil))) : SE X K E e (eP os pSortSet) := by
  obtain ⟨t, pa, h⟩ := ha.ex
  refine ⟨_, hp t pa, fun io L G σ s H Q wd hf => ?_⟩
  refine h (fk_fin (Q := Q)) wd hf fun vs ds s' G' H' sb w' rs f => ?_
  have caseI : ∀ (l : Addr) (ns : List Int), vs = [.ref l] → (SqL K H' l (ns.map V.int) ∨ SqT K H' l (ns.map V.int)) → ns.length < 64 → pSortSet ds = some (.l ((sortI ns).map .int)) → rSetD K P w vs H' fun x H1 => rSortS K P w [x] H1 Q := by
    intro l ns hv hl hn hy
    subst hv
    refine .inl ⟨l, ns, rfl, hl, hn, fun a n ha hle => .inl ⟨a, _, n, rfl, upd_same, by omega, fun ms p hs hm hlen hp => ?_⟩⟩
    have hm' : ms = sortI ns := sortI_eq hs fun z => by rw [hm z]; simp
    subst hm'
    have w2 := w'.grow (o := SetO w a (fun j => decide (j ∈ ns)) n) ha
    have f2 : Fin K E io L σ G' Q (mret (PO.l ((sortI ns).map .int)).r s') := by
      have := f
      rw [hy] at this
      exact this
    exact ret_fin (x := .l ((sortI ns).map .int)) w2 (Fin.mono (Sub.new (w'.sub.none ha)) f2) p _ hp (DqAll.ints _)
  obtain ⟨y, ey, rt⟩ := mpo_fin w' f
  show rSetD K P w vs H' fun x H1 => rSortS K P w [x] H1 Q
  unfold pSortSet at ey
  split at ey
  · rename_i ds0
    obtain ⟨v, rfl, rv⟩ := rpAll1 rs
    obtain ⟨l, xs, rfl, hl, hd⟩ := rv.list w'.sub
    unfold setOf at ey
    cases e1 : intsOf ds0 with
    | some ns =>
      rw [e1] at ey
      by_cases hn : ns.length < 64
      · have hxs := (intsOf_dq e1 hd).1
        subst hxs
        exact caseI l ns rfl (.inl (SqL.of hl)) hn (by
          show (setOf ds0).map PO.l = _
          unfold setOf
          rw [e1]; simp only; rw [if_pos hn]; rfl)
      · simp [hn] at ey
    | none =>
      rw [e1] at ey
      cases e2 : tupsOf ds0 with
      | none => rw [e2] at ey; simp at ey
      | some nss =>
        rw [e2] at ey
        by_cases hn : nss.length < 64 ∧ (nss.all fun w => !w.isEmpty) = true
        · have e3 := tupsOf_eq e2
          rw [e3] at hd
          obtain ⟨ks, hks, hk2, hk3⟩ := tup_ks hd
          have hkl : ks.length = nss.length := by rw [← hk2, List.length_map]
          subst hks
          refine .inr ⟨l, ks, rfl, SqL.of hl, fun p hp => w'.sub.t (dq_sqT (hk3 p hp)), by omega, fun a L' ha hs hc => .inr ⟨a, L', rfl, upd_same, fun p hp => ?_, fun p hp => ?_, fun M p pM nd pw hp => ?_⟩⟩
          · exact (Sub.new ha).t (w'.sub.t (dq_sqT (hk3 p (hs p hp))))
          · have : p.2 ∈ nss := hk2 ▸ List.mem_map.mpr ⟨p, hs p hp, rfl⟩
            have := List.all_eq_true.mp hn.2 _ this
            intro e; rw [e] at this; simp at this
          · have hM : M.map (·.2) = sortT nss := sortT_eq pw nd fun z => by
              rw [← hk2]
              constructor
              · intro hz
                obtain ⟨q, hq, rfl⟩ := List.mem_map.mp hz
                exact List.mem_map.mpr ⟨q, hs q (pM.mem_iff.mp hq), rfl⟩
              · intro hz
                obtain ⟨q, hq, rfl⟩ := List.mem_map.mp hz
                obtain ⟨q', hq', e'⟩ := List.mem_map.mp (hc q hq)
                exact List.mem_map.mpr ⟨q', pM.mem_iff.mpr hq', e'⟩
            have w2 := w'.grow (o := SetTO P w a L') ha
            have f2 : Fin K E io L σ G' Q (mret (PO.l ((sortT nss).map tupI)).r s') := by
              have := f
              rw [show pSortSet [.list ds0] = some (.l ((sortT nss).map tupI)) from by
                show (setOf ds0).map PO.l = _
                unfold setOf
                rw [e1, e2]; simp only; rw [if_pos hn]; rfl] at this
              exact this
            rw [← hM] at f2
            exact ret_fin (x := .l ((M.map (·.2)).map tupI)) w2 (Fin.mono (Sub.new (w'.sub.none ha)) f2) p _ hp ((Sub.new (w'.sub.none ha)).dpAll (dq_refs fun q hq => hk3 q (hs q (pM.mem_iff.mp hq))))
        · simp only [if_neg hn] at ey; cases ey
  · rename_i ds0
    obtain ⟨v, rfl, rv⟩ := rpAll1 rs
    obtain ⟨l, xs, rfl, hl, hd⟩ := rv.tuple w'.sub
    cases e1 : intsOf ds0 with
    | some ns =>
      rw [e1] at ey
      by_cases hn : ns.length < 64
      · have hxs := (intsOf_dq e1 hd).1
        subst hxs
        exact caseI l ns rfl (.inr hl) hn (by
          show (match intsOf ds0 with | some ns => if ns.length < 64 then some (PO.l ((sortI ns).map .int)) else none | none => none) = _
          rw [e1]; simp only; rw [if_pos hn])
      · simp [hn] at ey
    | none => rw [e1] at ey; cases ey
  · cases ey
end
end L3

/-! a tuple times an int -/
namespace L3
open PySem PySem.W PySem.Spec PyProof.Rows L2
section
variable {l : Addr} {its : Array Value} {n : Nat} {dd : Option Addr} {sl : Array (Option Value)} {x : Int} {u : Tok}
abbrev tupOb (its : Array Value) (n : Nat) (dd : Option Addr) (sl : Array (Option Value)) : Obj := { cls := .type "tuple", dict := dd, data := .seq its n, slots := sl }
theorem mul_none (c0 : (decide (x < -(2 ^ 63)) || decide (x ≥ 2 ^ 63)) = false) (c1 : (its.isEmpty || x == 1) = false) (c2 : (decide (x ≤ 0) || its.isEmpty) = true) :
    Meets (Builtin.«tuple.__mul__» ⟨[.ref l, .int x u], []⟩) fun _ R s => s.heap.get? l = some (tupOb its n dd sl) ∧ R (.ok (.ret (Value.ref s.heap.objs.size))) { s with heap := s.heap.push { cls := Value.type "tuple", data := Data.seq #[] }, toks := s.toks } :=
  .of_wp fun prog w A R s ⟨hl, h⟩ => by
    obtain ⟨hp, g, d, tk, os⟩ := s
    have hl : hp.get? l = some { cls := .type "tuple", dict := dd, data := .seq its n, slots := sl } := hl
    have ix := AutoSeq1.idx_int
    wp_walk using wpAny_loadPart' hl
    repeat (first
      | (refine wpAny_ite_false (decide_eq_false (by rw [c0]; simp)) ?_; wp_walk using wpAny_loadPart' hl)
      | (refine wpAny_ite_false (decide_eq_false (by rw [c1]; simp)) ?_; wp_walk using wpAny_loadPart' hl)
      | (refine wpAny_ite_true (decide_eq_true (by rw [c2])) ?_; wp_walk using wpAny_loadPart' hl))
    exact ⟨_, rfl, h⟩
theorem mul_same (c0 : (decide (x < -(2 ^ 63)) || decide (x ≥ 2 ^ 63)) = false) (c1 : (its.isEmpty || x == 1) = true) :
    Meets (Builtin.«tuple.__mul__» ⟨[.ref l, .int x u], []⟩) fun _ R s => s.heap.get? l = some (tupOb its n dd sl) ∧ R (.ok (.ret (Value.ref l))) s :=
  .of_wp fun prog w A R s ⟨hl, h⟩ => by
    obtain ⟨hp, g, d, tk, os⟩ := s
    have hl : hp.get? l = some { cls := .type "tuple", dict := dd, data := .seq its n, slots := sl } := hl
    have ix := AutoSeq1.idx_int
    wp_walk using wpAny_loadPart' hl
    repeat (first
      | (refine wpAny_ite_false (decide_eq_false (by rw [c0]; simp)) ?_; wp_walk using wpAny_loadPart' hl)
      | (refine wpAny_ite_true (decide_eq_true (by rw [c1])) ?_; wp_walk using wpAny_loadPart' hl))
    exact ⟨_, rfl, h⟩
end
section
variable {X : Cx}
def rRep1 (K : PySem.W.Frag) : R2 := fun x y H Q => ∃ l k xs, x = .ref l ∧ y = .int k ∧ SqT K H l xs ∧ (xs = [] ∨ k = 1) ∧ -1000 ≤ k ∧ k ≤ 1000 ∧ Q (.ref l) H
def rRep0 (K : PySem.W.Frag) : R2 := fun x y H Q => ∃ l k xs, x = .ref l ∧ y = .int k ∧ SqT K H l xs ∧ xs ≠ [] ∧ -1000 ≤ k ∧ k ≤ 0 ∧ ∀ p, H p = none → Q (.ref p) (upd H p (.tup []))
theorem tup_nil {its : List Value} {xs : List V} (r : Vals xs its) : its.toArray.isEmpty = xs.isEmpty := by
  cases r <;> rfl
theorem op_rep1 : OpR X (binaryOp .Mult) (rRep1 X.K) := by
  intro pins s σ H x y v u Q I rx ry h
  obtain ⟨l, k, xs, rfl, rfl, hT, hk, h1, h2, q⟩ := h
  cases rx
  obtain ⟨t, rfl⟩ := ry
  obtain ⟨its, r, ⟨⟨cls, dd, data, sl⟩, ho, hc, n, hd⟩, _⟩ := I.tuple hT
  simp only at hc hd
  subst hc hd
  have c0 : (decide (k < -(2 ^ 63)) || decide (k ≥ 2 ^ 63)) = false := by
    rw [Bool.or_eq_false_iff]
    exact ⟨decide_eq_false (by omega), decide_eq_false (by omega)⟩
  have c1 : (its.toArray.isEmpty || k == 1) = true := by
    rw [tup_nil r, Bool.or_eq_true]
    rcases hk with rfl | rfl
    · exact .inl rfl
    · exact .inr rfl
  have ob : s.heap.get? l = some (tupOb its.toArray n dd sl) := ho
  have ty : s.TypeIs (.ref l) "tuple" := ⟨_, ho, rfl⟩
  refine wpAny_binaryOp_repeat_ref (T := "tuple") (U := "int") (by decide) ty (fun s' => typeIs_int s' k t) noFill_tuple_mul F.fills_int_mul F.slot_int_rmul repeat_tuple F.slot_int_index.lookup ?_
  refine call_meets F.slot_int_rmul (typeIs_int s k t) F.entry_int_rmul (F.args_int_rmul_2 _ _) (int_rmul_tuple k t l its.toArray n dd sl) ⟨ho, rfl, ty, ?_⟩
  refine call_meets F.slot_tuple_mul ty F.entry_tuple_mul (F.args_tuple_mul_2 _ _) (mul_same (dd := dd) (sl := sl) (n := n) c0 c1) ⟨ob, ?_⟩
  exact ⟨.ref l, H, I, rfl, q⟩
theorem op_rep0 : OpR X (binaryOp .Mult) (rRep0 X.K) := by
  intro pins s σ H x y v u Q I rx ry h
  obtain ⟨l, k, xs, rfl, rfl, hT, hne, h1, h2, q⟩ := h
  cases rx
  obtain ⟨t, rfl⟩ := ry
  obtain ⟨its, r, ⟨⟨cls, dd, data, sl⟩, ho, hc, n, hd⟩, _⟩ := I.tuple hT
  simp only at hc hd
  subst hc hd
  have c0 : (decide (k < -(2 ^ 63)) || decide (k ≥ 2 ^ 63)) = false := by
    rw [Bool.or_eq_false_iff]
    exact ⟨decide_eq_false (by omega), decide_eq_false (by omega)⟩
  have c1 : (its.toArray.isEmpty || k == 1) = false := by
    rw [tup_nil r, Bool.or_eq_false_iff]
    exact ⟨by cases xs <;> simp_all, beq_eq_false_iff_ne.mpr (by omega)⟩
  have c2 : (decide (k ≤ 0) || its.toArray.isEmpty) = true := by rw [decide_eq_true h2]; rfl
  have ob : s.heap.get? l = some (tupOb its.toArray n dd sl) := ho
  have ty : s.TypeIs (.ref l) "tuple" := ⟨_, ho, rfl⟩
  refine wpAny_binaryOp_repeat_ref (T := "tuple") (U := "int") (by decide) ty (fun s' => typeIs_int s' k t) noFill_tuple_mul F.fills_int_mul F.slot_int_rmul repeat_tuple F.slot_int_index.lookup ?_
  refine call_meets F.slot_int_rmul (typeIs_int s k t) F.entry_int_rmul (F.args_int_rmul_2 _ _) (int_rmul_tuple k t l its.toArray n dd sl) ⟨ho, rfl, ty, ?_⟩
  refine call_meets F.slot_tuple_mul ty F.entry_tuple_mul (F.args_tuple_mul_2 _ _) (mul_none (dd := dd) (sl := sl) (n := n) c0 c1 c2) ⟨ob, ?_⟩
  refine ⟨.ref s.heap.objs.size, _, I.laid (t' := s.toks) (o := .tup []) (fun b ob q => Heap.get?_push_of_some _ q) (Nat.le_refl _) ⟨Nat.zero_le _, [], .nil, IsTup.new _ _⟩, rfl, q _ (I.hok.fresh (Nat.le_refl _))⟩
def rMulT (K : PySem.W.Frag) : R2 := fun x y H Q => rMulD x y H Q ∨ (rRepT K x y H Q ∨ (rRep1 K x y H Q ∨ rRep0 K x y H Q))
theorem op_mulT : OpR X (binaryOp .Mult) (rMulT X.K) := op_mulD.or (op_repT.or (op_rep1.or op_rep0))
end
def pMulT (x y : D) : Option PO := match x, y with
  | .tuple xs, .int k => if -1000 ≤ k ∧ k ≤ 1000 ∧ xs.length ≤ 1000 then some (.t (List.replicate k.toNat xs).flatten) else none
  | .list xs, .int k => if -1000 ≤ k ∧ k ≤ 1000 ∧ xs.length ≤ 1000 then pMul (.list xs) (.int k) else none
  | x, y => pMul x y
theorem prim_mulT {K : PySem.W.Frag} : Prim2 K (rMulT K) pMulT := fun G H v u x y z Q sb rx ry hz rt => by
  unfold pMulT at hz
  split at hz
  · rename_i xs k
    split at hz
    · rename_i hc
      cases hz
      obtain ⟨a, vs, rfl, h1, r1⟩ := rx.tuple sb
      have hy := ry.int
      subst hy
      have hl := r1.length
      by_cases h0 : vs = [] ∨ k = 1
      · refine .inr (.inr (.inl ⟨a, k, vs, rfl, rfl, h1, h0, hc.1, hc.2.1, rt.1 _ ?_⟩))
        have e : (List.replicate k.toNat xs).flatten = xs := by
          rcases h0 with rfl | rfl
          · have : xs = [] := List.length_eq_zero_iff.mp hl.symm
            subst this
            simp
          · simp
        rw [e]
        cases rx with
        | fz h => exact h
      · have hv : vs ≠ [] := fun e => h0 (.inl e)
        by_cases h2 : k ≤ 0
        · refine .inr (.inr (.inr ⟨a, k, vs, rfl, rfl, h1, hv, hc.1, h2, fun p hp => ?_⟩))
          have e : k.toNat = 0 := by omega
          have := rt.2 p [] hp (by rw [e]; exact .nil)
          exact this
        · have h3 : k ≠ 1 := fun e => h0 (.inr e)
          exact .inr (.inl ⟨a, k, vs, rfl, rfl, h1, hv, by omega, hc.2.1, by rw [hl]; exact hc.2.2, fun p hp => rt.2 p _ hp (dq_rep r1 _)⟩)
    · cases hz
  · split at hz
    · exact .inl (prim_mul G H v u _ _ z Q sb rx ry hz rt)
    · cases hz
  · exact .inl (prim_mul G H v u _ _ z Q sb rx ry hz rt)
end L3

/-! a tuple or a list from behind: x[::-1] -/
namespace L3
open PySem PySem.W PySem.Spec PyProof.Rows L2 HT
section
variable {prog : Program} {w : World} {A : Around} {E : Value → Shared → Prop} {s : Shared}
theorem adjust_rev (n : Nat) : Builtin.Slice.sliceAdjust none none (-1) (n : Int) = ((n : Int) - 1, -1) := by
  unfold Builtin.Slice.sliceAdjust
  simp
theorem places_rev (n : Nat) : Builtin.Slice.slicePlaces ((n : Int) - 1) (-1) (-1) = n := by
  unfold Builtin.Slice.slicePlaces
  simp
  omega
theorem applied_rev {sl : Addr} {vl vu vs : Value} {n : Nat} {Q : Int × Int × Nat → Shared → Prop} (hs : s.heap.IsSliceOf sl vl vu vs) (pl : IsPart vl none) (pu : IsPart vu none) (ps : IsPart vs (some (-1))) (h : Q ((n : Int) - 1, -1, n) s) :
    wpAny (model prog w) A (Builtin.Slice.sliceApplied (.ref sl) (pure (n : Int))) Q E s := by
  obtain ⟨o, at1, _, parts⟩ := id hs
  unfold Builtin.Slice.sliceApplied Builtin.Slice.sliceFields
  refine wpAny_bind (wpAny_bind (wpAny_field at1 parts (x := vl) rfl (wpAny_bind (wpAny_field at1 parts (x := vu) rfl (wpAny_bind (wpAny_field at1 parts (x := vs) rfl (wpAny_pure ?_)))))))
  refine wpAny_bind (slicePart_ ps ?_)
  show wpAny _ _ (if ((-1 : Int) == 0) = true then _ else _) _ _ s
  rw [if_neg (by decide)]
  refine wpAny_bind (slicePart_ pl (wpAny_bind (slicePart_ pu (wpAny_bind (wpAny_pure ?_)))))
  show wpAny _ _ (match Builtin.Slice.sliceAdjust none none (-1) (n : Int) with | (a, b) => pure (a, (-1 : Int), Builtin.Slice.slicePlaces a b (-1))) _ _ s
  rw [adjust_rev]
  show wpAny _ _ (pure ((n : Int) - 1, (-1 : Int), Builtin.Slice.slicePlaces ((n : Int) - 1) (-1) (-1))) _ _ s
  rw [places_rev]
  exact wpAny_pure h
theorem fm_congr {α β : Type} {f g : α → Option β} : ∀ {l : List α}, (∀ x ∈ l, f x = g x) → l.filterMap f = l.filterMap g
  | [], _ => rfl
  | x :: l, h => by rw [List.filterMap_cons, List.filterMap_cons, h x List.mem_cons_self, fm_congr fun y hy => h y (List.mem_cons_of_mem _ hy)]
theorem pick_rev (xs : Array Value) : ((List.range xs.size).filterMap fun (k : Nat) => xs[((xs.size : Int) - 1 + (k : Int) * (-1)).toNat]?).toArray = xs.toList.reverse.toArray := by
  congr 1
  have e : ∀ k ∈ List.range xs.size, xs[((xs.size : Int) - 1 + (k : Int) * (-1)).toNat]? = xs.toList.reverse[k]? := fun k hk => by
    have hk := List.mem_range.mp hk
    rw [List.getElem?_reverse (by rw [Array.length_toList]; exact hk), Array.length_toList, Array.getElem?_toList]
    congr 1
    omega
  rw [fm_congr e]
  have len : xs.size = xs.toList.reverse.length := by rw [List.length_reverse, Array.length_toList]
  rw [len]
  generalize xs.toList.reverse = l
  refine List.ext_getElem? fun i => ?_
  have all : ∀ l : List Value, (List.range l.length).filterMap (fun k => l[k]?) = l := fun l => by
    induction l with
    | nil => rfl
    | cons a l ih =>
      rw [List.length_cons, List.range_succ_eq_map, List.filterMap_cons_some (by rfl), List.filterMap_map]
      congr 1
  rw [all]
theorem getItem_tup_rev {t sl : Addr} {items : Array Value} {vl vu vs : Value} {Q : Value → Shared → Prop} (ht : IsTup s.heap t items) (hs : s.heap.IsSliceOf sl vl vu vs) (pl : IsPart vl none) (pu : IsPart vu none) (ps : IsPart vs (some (-1)))
    (h : Q (.ref s.heap.objs.size) { s with heap := s.heap.push { cls := .type "tuple", data := .seq items.toList.reverse.toArray } }) (hsz : items.size ≤ sizeLine) : wpAny (model prog w) A (getItem (.ref t) (.ref sl)) Q E s := by
  have ok : sizeOk (.seq items.toList.reverse.toArray) := by
    show items.toList.reverse.toArray.size ≤ sizeLine
    rw [List.size_toArray, List.length_reverse, Array.length_toList]; exact hsz
  obtain ⟨o, at1, cl, _⟩ := id hs
  have ty : s.TypeIs (.ref sl) "slice" := ⟨o, at1, cl⟩
  unfold getItem
  try with_reducible refine wpAny_holding ?_
  first | refine wpAny_bind (wpAny_pure ?_) | skip
  refine wpAny_bind (wpAny_sequenceKey ht.typeIs (by decide) ?_)
  refine wpAny_bind (wpAny_callSpecial?_slot (name := Str.ofString "__getitem__") ht.typeIs PyProof.Rows.slot_tuple_getitem (wpAny_call_entry PyProof.Rows.slot_tuple_getitem ht.typeIs entry_tuple_getitem ?_ (args_tuple_getitem _ _)))
  show wpAny _ _ (Builtin.Tuple.tupleItemsOf (.ref t) >>= _) _ _ s
  refine wpAny_bind (tupleItemsOf_ ht ?_)
  refine wpAny_bind (wpAny_typeOf ty ?_)
  rw [if_pos (by decide)]
  refine wpAny_bind (applied_rev hs pl pu ps ?_)
  have no : ¬ ((((items.size : Int) - 1) == 0 && (-1 : Int) == 1 && items.size == items.size) = true) := by simp
  show wpAny _ _ (if (((items.size : Int) - 1) == 0 && (-1 : Int) == 1 && items.size == items.size) = true then _ else _) _ _ s
  rw [if_neg no, pick_rev]
  first
    | exact wpAny_bind (m := Builtin.Tuple.tupleExact _) (wpAny_newObj_type (wpAny_pure ⟨_, rfl, wpAny_pure h⟩) ok)
    | exact wpAny_bind (m := Builtin.Tuple.tupleExact _) (wpAny_newObj_type (wpAny_bind (wpAny_pure (wpAny_pure ⟨_, rfl, wpAny_pure h⟩))) ok)
    | exact wpAny_bind (wpAny_bind (m := Builtin.Tuple.tupleExact _) (wpAny_newObj_type (wpAny_pure (wpAny_pure ⟨_, rfl, wpAny_pure h⟩)) ok))
    | exact wpAny_bind (wpAny_bind (m := Builtin.Tuple.tupleExact _) (wpAny_newObj_type (wpAny_pure ⟨_, rfl, wpAny_pure h⟩) ok))
end
section
variable {X : Cx}
def tRevT (K : PySem.W.Frag) (te : TE) : TE := fun σ H Q => te σ H fun x H1 => ∃ a xs, x = .ref a ∧ SqT K H1 a xs ∧ ∀ p, H1 p = none → Q (.ref p) (upd H1 p (.tup xs.reverse))
theorem pe_revT {e : Expr} {te : TE} {k : Nat} {p1 p2 p3 pos : Pos} (he : PE X e te) : PE X (.Subscript e (.Slice none none (some (.UnaryOp .USub (.Constant (.int 1) k p1) p2)) p3) pos) (tRevT X.K te) := by
  refine ⟨fun pins s σ H Q I h => ?_⟩
  refine Subscript_ (thn (he.run pins s σ H _ I h) fun v s1 ⟨x, H1, I1, r1, q1⟩ => ?_)
  obtain ⟨a, xs, rfl, hx, q⟩ := q1
  cases r1
  have st : L2.PO X (some (.UnaryOp .USub (.Constant (.int 1) k p1) p2)) (tPart (tUn (rU fun i => .int (-i)) (tC (.int 1)))) := po_some (pe_un un_neg pe_int)
  refine wpAny_Slice (thn (po_none.run pins s1 σ H1 (fun o H2 => o = none ∧ H2 = H1) I1 ⟨rfl, rfl⟩) fun vl s2 ⟨_, _, I2, pl, z1, z2⟩ => ?_)
  cases z1; cases z2
  refine thn (po_none.run pins s2 σ H1 (fun o H3 => o = none ∧ H3 = H1) I2 ⟨rfl, rfl⟩) fun vu s3 ⟨_, _, I3, pu, z1, z2⟩ => ?_
  cases z1; cases z2
  refine thn (st.run pins s3 σ H1 (fun o H4 => o = some (-1) ∧ H4 = H1) I3 ⟨1, rfl, -1, rfl, rfl, rfl⟩) fun vs s4 ⟨_, _, I4, ps, z1, z2⟩ => ?_
  cases z1; cases z2
  have I5 : Inv X pins σ H1 { s4 with heap := s4.heap.push { cls := .type "slice", data := .fields #[vl, vu, vs] } } := I4.kept (t' := s4.toks) fun _ _ q => Heap.get?_push_of_some _ q
  obtain ⟨its, r, ht, hz⟩ := I5.tuple hx
  have hl := r.length
  show wpAny (model X.prog X.w) X.A (subscriptTail e (.Slice none none (some (.UnaryOp .USub (.Constant (.int 1) k p1) p2)) p3) (.ref a) (.ref s4.heap.objs.size)) (EP X pins σ Q) X.xe _
  refine tail_any (ops := [.ref a, .ref s4.heap.objs.size]) ht.typeIs PyProof.Rows.slot_tuple_getitem.lookup ?_ (by with_unfolding_all rfl)
  refine getItem_tup_rev ht (Heap.IsSliceOf.new _ vl vu vs) pl pu ps ?_ (by rw [List.size_toArray]; omega)
  refine ⟨.ref _, _, I5.laid (t' := s4.toks) (o := .tup xs.reverse) (fun _ _ q => Heap.get?_push_of_some _ q) (Nat.le_refl _) ?_, rfl, q _ (I5.hok.fresh (Nat.le_refl _))⟩
  exact ⟨by rw [List.length_reverse]; exact hz, _, r.reverse, IsTup.new _ _⟩
end
def pRev : D → Option PO
  | .tuple xs => some (.t xs.reverse)
  | _ => none
theorem DqAll.rev {K : PySem.W.Frag} {G : Hp} : ∀ {vs : List V} {ds : List D}, DqAll K G vs ds → DqAll K G vs.reverse ds.reverse
  | _, _, .nil => .nil
  | _, _, .cons h t => by rw [List.reverse_cons, List.reverse_cons]; exact (DqAll.rev t).append (.cons h .nil)
section
variable {ι : Type} {X : ι → Cx} {K : PySem.W.Frag} {E : WW}
theorem se_rev {a : Expr} {oa : Opd} {k : Nat} {p1 p2 p3 pos : Pos} (hK : ∀ z, (X z).K = K) (h1 : SO X K E a oa) : SE X K E (.Subscript a (.Slice none none (some (.UnaryOp .USub (.Constant (.int 1) k p1) p2)) p3) pos) (e1 oa pRev) := by
  obtain ⟨t, pe, h1⟩ := h1.ex
  refine ⟨tRevT K t, fun z => hK z ▸ pe_revT (X := X z) (pe z), fun io L G σ s H Q w hf => ?_⟩
  refine h1 (fk_fin (Q := Q)) w hf fun v h s1 G1 H1 sb1 w1 hr f1 => ?_
  obtain ⟨x, rx, f3⟩ := hr.use fk_fin w1 f1
  obtain ⟨z, e, rt⟩ := mpo_fin w1 f3
  unfold pRev at e
  split at e
  · cases e
    obtain ⟨b, ys, rfl, h2, r2⟩ := rx.tuple w1.sub
    exact ⟨b, ys, rfl, h2, fun p hp => rt.2 p _ hp (DqAll.rev r2)⟩
  · cases e
end
end L3

namespace L3
open PySem PySem.W PySem.Spec PyProof.Rows L2

/-! ### a stack of data and a list each -/
def S.stk (s : S) (j : Nat) : Option (List Row) := match s.env[j]? with
  | some (some (Sl.stk rows)) => some rows
  | _ => none
theorem stk_of {s : S} {j : Nat} {rows : List Row} (h : s.stk j = some rows) : s.env[j]? = some (some (Sl.stk rows)) := by
  unfold S.stk at h
  split at h
  · rename_i q; cases h; exact q
  · cases h
def S.putStk (s : S) (j : Nat) (rows : List Row) : S := { s with env := (clrE s.env).set j (some (Sl.stk rows)) }
def S.clr (s : S) (j : Nat) : S := { s with env := clrE (s.env.set j none) }
def noStk (env : List (Option Sl)) : Bool := env.all fun x => match x with
  | some (Sl.stk _) => false
  | _ => true
theorem noStk_of {env : List (Option Sl)} (h : noStk env = true) (k : Nat) (rows : List Row) : env[k]? ≠ some (some (Sl.stk rows)) := fun e => by
  unfold noStk at h
  have := List.all_eq_true.mp h _ (List.mem_of_getElem? e)
  cases this
def emp : Hp := fun _ => none
section
variable {K : PySem.W.Frag} {E : WW} {io : Option Addr} {L G H M : Hp} {σ : L2.St} {s : S} {i j : Nat} {a : Addr} {o o' : HO}
theorem un_emp : un L emp = L := by
  funext b
  unfold un emp
  cases L b <;> rfl
theorem un_updR (h : L a = none) : upd (un L M) a o = un L (upd M a o) := by
  funext b
  unfold un
  by_cases e : b = a
  · subst e; rw [upd_same, upd_same, h]
  · rw [upd_ne e, upd_ne e]
theorem un_un {T : Hp} : un L (un M T) = un (un L M) T := by
  funext b
  unfold un
  cases L b <;> rfl
/-- the stack's cells, loose -/
theorem Wd.stkOut {rows : List Row} (w : Wd K io L G σ s H) (h : s.env[j]? = some (some (Sl.stk rows))) : ∃ (M : Hp) (a : Addr) (as : List Addr) (xs : List V), (∀ b u, M b = some u → L b = none) ∧ σ[j]? = some (some (V.ref a)) ∧ M a = some (.lst xs.reverse) ∧ RowsRep K G M as xs rows ∧ (a :: as).Nodup ∧
    Wd K io (un L M) G σ (s.clr j) H ∧ (∀ (k : Nat) (r : List Row), (s.clr j).env[k]? ≠ some (some (Sl.stk r))) := by
  obtain ⟨T, hd, w0, st⟩ := w.ex
  obtain ⟨a, as, xs, h1, h2, h3, h4, _⟩ := st.at' j rows h
  have no : ∀ (k : Nat) (r : List Row), (s.clr j).env[k]? ≠ some (some (Sl.stk r)) := fun k r e => by
    have e1 := (clrE_some e).1
    rcases set_cases e1 with ⟨rfl, z⟩ | ⟨ne, z⟩
    · cases z
    · exact ne (st.one j k _ _ h z)
  refine ⟨T, a, as, xs, hd, h1, h2, h3, h4, ⟨emp, fun _ _ z => (by cases z), ?_, fun k r e => absurd e (no k r), fun k k' r r' e => absurd e (no k r)⟩, no⟩
  rw [un_emp]
  refine w0.re (by show _ = (clrE _).length; rw [clrE_len, List.length_set]; exact w0.len) (fun k x hk => ?_) (fun k c hk => ?_) fun k hk => ?_
  · rcases set_cases (clrE_some hk).1 with ⟨rfl, z⟩ | ⟨ne, z⟩
    · cases z
    · exact w0.vals k x z
  · rcases set_cases (clrE_some hk).1 with ⟨rfl, z⟩ | ⟨ne, z⟩
    · cases z
    · exact ⟨z, rfl⟩
  · rcases set_cases (clrE_some hk).1 with ⟨rfl, z⟩ | ⟨ne, z⟩
    · cases z
    · exact ⟨z, rfl⟩
/-- loose cells are a stack -/
theorem Wd.stkIn {rows : List Row} {as : List Addr} {xs : List V} (w : Wd K io (un L M) G σ s H) (hd : ∀ b u, M b = some u → L b = none) (hj : j < σ.length) (h2 : M a = some (.lst xs.reverse)) (h3 : RowsRep K G M as xs rows) (h4 : (a :: as).Nodup)
    (no : ∀ (k : Nat) (r : List Row), s.env[k]? ≠ some (some (Sl.stk r))) : Wd K io L G (σ.set j (some (V.ref a))) (s.putStk j rows) H := by
  obtain ⟨T, hd2, w0, st⟩ := w.ex
  rw [← un_un] at w0
  have only : ∀ (k : Nat) (r : List Row), (s.putStk j rows).env[k]? = some (some (Sl.stk r)) → k = j ∧ r = rows := fun k r e => by
    rcases set_cases e with ⟨rfl, z⟩ | ⟨ne, z⟩
    · cases z; exact ⟨rfl, rfl⟩
    · exact absurd (clrE_some z).1 (no k r)
  refine ⟨un M T, fun b u hb => ?_, ?_, ?_⟩
  · cases e : M b with
    | some v => exact hd b v e
    | none =>
      unfold un at hb
      rw [e] at hb
      exact un_left (hd2 b u hb)
  · have ne : ∀ (k : Nat) (x : Sl), (∀ r, x ≠ Sl.stk r) → (s.putStk j rows).env[k]? = some (some x) → j ≠ k ∧ s.env[k]? = some (some x) := fun k x hx hk => by
      rcases set_cases hk with ⟨rfl, z⟩ | ⟨ne, z⟩
      · cases z; exact absurd rfl (hx _)
      · exact ⟨ne, (clrE_some z).1⟩
    refine w0.re (by show _ = ((clrE _).set j _).length; rw [List.length_set, List.length_set, clrE_len]; exact w0.len) (fun k x hk => ?_) (fun k c hk => ?_) fun k hk => ?_
    · obtain ⟨n, z⟩ := ne k _ (fun r e => by cases e) hk
      obtain ⟨v, e1, e2⟩ := w0.vals k x z
      exact ⟨v, by rw [List.getElem?_set_ne n]; exact e1, e2⟩
    · obtain ⟨n, z⟩ := ne k _ (fun r e => by cases e) hk
      exact ⟨z, List.getElem?_set_ne n⟩
    · obtain ⟨n, z⟩ := ne k _ (fun r e => by cases e) hk
      exact ⟨z, List.getElem?_set_ne n⟩
  · refine ⟨fun k r e => ?_, fun k k' r r' e e' => (only k r e).1.trans (only k' r' e').1.symm⟩
    obtain ⟨rfl, rfl⟩ := only k r e
    refine ⟨a, as, xs, List.getElem?_set_self hj, un_l h2, h3.agree fun b hb => ?_, h4, fun k' hk' => ?_⟩
    · cases z : M b with
      | some v => exact un_l z
      | none => exact absurd z (h3.there b hb)
    · rcases set_cases hk' with ⟨rfl, z⟩ | ⟨n, z⟩
      · cases z
      · exact absurd rfl ((clrE_some z).2 _)
theorem Wd.writeM (w : Wd K io (un L M) G σ s H) (h : M a = some o) (hL : L a = none) : Wd K io (un L (upd M a o')) G σ s (upd H a o') := by
  rw [un_rm h hL] at w
  have w2 := w.writeL (o' := o') (un_none hL rm_same)
  have e : upd (un L (rm M a)) a o' = un L (upd M a o') := by
    rw [un_updR hL]
    congr 1
    funext b
    by_cases e : b = a
    · subst e; rw [upd_same, upd_same]
    · rw [upd_ne e, upd_ne e, rm_ne e]
  rw [e] at w2
  exact w2
theorem Wd.freshM (w : Wd K io (un L M) G σ s H) (hp : H a = none) : L a = none ∧ M a = none ∧ Wd K io (un L (upd M a o)) G σ s (upd H a o) := by
  obtain ⟨h1, w2⟩ := w.fresh (o := o) hp
  rw [un_updR (un_left h1)] at w2
  exact ⟨un_left h1, un_right h1, w2⟩
theorem Wd.stkAt {rows : List Row} (w : Wd K io L G σ s H) (h : s.env[j]? = some (some (Sl.stk rows))) : ∃ (a : Addr) (xs : List V), σ[j]? = some (some (V.ref a)) ∧ H a = some (.lst xs.reverse) ∧ xs.length = rows.length := by
  obtain ⟨T, hd, w0, st⟩ := w.ex
  obtain ⟨a, as, xs, h1, h2, h3, h4, _⟩ := st.at' j rows h
  exact ⟨a, xs, h1, (w0.loose _ _ (un_r h2 (hd _ _ h2))).2, h3.len⟩
def S.setTop (s : S) (i j : Nat) : S := { s with env := s.env.set i (some (Sl.top j)) }
/-- the top of the stack, read -/
theorem Wd.setTop {ds l : List D} {rest : List Row} (w : Wd K io L G σ s H) (h : s.env[j]? = some (some (Sl.stk ((ds, some l) :: rest)))) (hij : i ≠ j) (hi : i < σ.length) :
    ∃ a p q vs xs, σ[j]? = some (some (V.ref a)) ∧ H a = some (.lst (V.ref p :: xs).reverse) ∧ (H p = some (.tup (vs ++ [.ref q])) ∨ H p = some (.lst (vs ++ [.ref q]))) ∧ DqAll K G vs ds ∧ Wd K io L G (σ.set i (some (.ref q))) (s.setTop i j) H := by
  obtain ⟨T, hd, w0, st⟩ := w.ex
  obtain ⟨a, as, xs, h1, h2, h3, h4, h5⟩ := st.at' j _ h
  have lo : ∀ b u, T b = some u → H b = some u := fun b u e => (w0.loose _ _ (un_r e (hd _ _ e))).2
  have h3' := h3
  cases h3 with
  | @cons p q vs us _ _ as' xs' _ z1 z2 z3 z4 z5 =>
    refine ⟨a, p, q, vs, xs', h1, lo _ _ h2, z1.imp (lo _ _) (lo _ _), z2, T, hd, ?_, fun k r e => ?_, fun k k' r r' e e' => ?_⟩
    · refine w0.re (by show _ = (s.env.set i _).length; rw [List.length_set, List.length_set]; exact w0.len) (fun k x hk => ?_) (fun k c hk => ?_) fun k hk => ?_
      · rcases set_cases hk with ⟨rfl, z⟩ | ⟨ne, z⟩
        · cases z
        · obtain ⟨v, e1, e2⟩ := w0.vals k x z
          exact ⟨v, by rw [List.getElem?_set_ne ne]; exact e1, e2⟩
      · rcases set_cases hk with ⟨rfl, z⟩ | ⟨ne, z⟩
        · cases z
        · exact ⟨z, List.getElem?_set_ne ne⟩
      · rcases set_cases hk with ⟨rfl, z⟩ | ⟨ne, z⟩
        · cases z
        · exact ⟨z, List.getElem?_set_ne ne⟩
    · rcases set_cases e with ⟨rfl, z⟩ | ⟨ne, z⟩
      · cases z
      · have ej := st.one k j _ _ z h
        subst ej
        rw [h] at z
        cases z
        refine ⟨a, p :: q :: as', .ref p :: xs', by rw [List.getElem?_set_ne hij]; exact h1, h2, h3', h4, fun k' hk' => ?_⟩
        rcases set_cases hk' with ⟨rfl, z⟩ | ⟨n, z⟩
        · exact ⟨ds, l, rest, p, q, as', rfl, rfl, List.getElem?_set_self hi⟩
        · obtain ⟨ds', l', rest', p', q', as2, e1, e2, e3⟩ := h5 k' z
          exact ⟨ds', l', rest', p', q', as2, e1, e2, by rw [List.getElem?_set_ne n]; exact e3⟩
    · rcases set_cases e with ⟨rfl, z⟩ | ⟨ne, z⟩
      · cases z
      · rcases set_cases e' with ⟨rfl, z'⟩ | ⟨ne', z'⟩
        · cases z'
        · exact st.one k k' _ _ z z'
end

/-! ### readings -/
theorem eqNil {X : Cx} (hu : X.A.units + 64 < cLine) : OpR X (compareOp .Eq) (fun x y H Q => ∃ a b xs, x = .ref a ∧ y = .ref b ∧ H a = some (.lst xs) ∧ H b = some (.lst []) ∧ Q (.bl xs.isEmpty) H) := by
  intro pins s σ H x y v u Q I rx ry h
  obtain ⟨a, b, xs, rfl, rfl, h1, h2, q⟩ := h
  cases rx
  cases ry
  obtain ⟨its, r, pl, hz⟩ := I.list (SqL.of (K := X.K) h1)
  obtain ⟨its2, r2, pl2, hz2⟩ := I.list (SqL.of (K := X.K) h2)
  cases r2
  have hl := r.length
  refine (?_ : wpAny _ _ (compareOp .Eq _ _) _ _ s)
  cases xs with
  | nil =>
    cases r
    exact SeqAt.RcAt.lists (e := fun _ => true) pl.isList pl2.isList rfl (by omega) (fun j h _ => (by cases h)) _ _ _ _ ⟨.bl true, H, I, rfl, q⟩
  | cons x xs =>
    cases r with
    | cons _ _ => exact SeqAt.RcAt.lists_lengths pl.isList pl2.isList rfl (by omega) _ _ _ _ ⟨.bl false, H, I, rfl, q⟩
theorem neNil {X : Cx} (hu : X.A.units + 64 < cLine) : OpR X (compareOp .NotEq) (fun x y H Q => ∃ a b xs, x = .ref a ∧ y = .ref b ∧ H a = some (.lst xs) ∧ H b = some (.lst []) ∧ Q (.bl (!xs.isEmpty)) H) := by
  intro pins s σ H x y v u Q I rx ry h
  obtain ⟨a, b, xs, rfl, rfl, h1, h2, q⟩ := h
  cases rx
  cases ry
  obtain ⟨its, r, pl, hz⟩ := I.list (SqL.of (K := X.K) h1)
  obtain ⟨its2, r2, pl2, hz2⟩ := I.list (SqL.of (K := X.K) h2)
  cases r2
  have hl := r.length
  refine (?_ : wpAny _ _ (compareOp .NotEq _ _) _ _ s)
  cases xs with
  | nil =>
    cases r
    exact SeqAt.RcNeAt.lists (e := fun _ => true) pl.isList pl2.isList rfl (by omega) (fun j h _ => (by cases h)) _ _ _ _ ⟨.bl false, H, I, rfl, q⟩
  | cons x xs =>
    cases r with
    | cons _ _ => exact SeqAt.RcNeAt.lists_lengths pl.isList pl2.isList rfl (by omega) _ _ _ _ ⟨.bl true, H, I, rfl, q⟩
end L3

namespace L3
open PySem PySem.W PySem.Spec PyProof.Rows L2

def mkD (kd : Bool) (xs : List V) : HO := match kd with | true => .tup xs | false => .lst xs
def tDis (kd : Bool) (t : TA) : TE := fun σ H Q => t σ H fun xs H1 => xs.length ≤ sizeLine ∧ ∀ p, H1 p = none → Q (.ref p) (upd H1 p (mkD kd xs))
/-- data, and a list at the end -/
def spl : List R → Option (List D × List D)
  | [.new (.lst l)] => some ([], l)
  | .val d :: rs => (spl rs).map fun p => (d :: p.1, p.2)
  | _ => none
section
variable {ι : Type} {X : ι → Cx} {K : PySem.W.Frag} {E : WW} {e ex : Expr} {es : List Expr} {st : Stmt} {j : Nat}
theorem hold_spl {io : Option Addr} {G H : Hp} {σ : L2.St} {s : S} : ∀ {rs : List R} {L : Hp} {vs : List V} {ds l : List D}, Hold K io G σ s H L vs rs → spl rs = some (ds, l) → ∃ us q zs, vs = us ++ [.ref q] ∧ DqAll K G us ds ∧ L q = none ∧ DqAll K G zs l ∧ Wd K io (upd L q (.lst zs)) G σ s H
  | [], _, _, _, _, _, h => by cases h
  | .val d :: rs, L, vs, ds, l, hd, h => by
    cases hd with
    | val dp hd =>
      unfold spl at h
      cases e : spl rs with
      | none => rw [e] at h; cases h
      | some p =>
        rw [e] at h
        cases h
        obtain ⟨us, q, zs, e1, e2, e3, e4, e5⟩ := hold_spl hd e
        exact ⟨_ :: us, q, zs, by rw [e1]; rfl, .cons dp e2, e3, e4, e5⟩
  | [.new c], L, vs, ds, l, hd, h => by
    cases c with
    | dct _ => cases h
    | lst l' =>
      cases h
      cases hd with
      | new hL rc hd =>
        cases hd with
        | nil w =>
          cases rc with
          | lst r => exact ⟨[], _, _, rfl, .nil, hL, r, w⟩
  | .new c :: r :: rs, L, vs, ds, l, hd, h => by cases c <;> cases h

/-- len(stack) -/
def eLenS (j : Nat) : M R := fun s => match s.stk j with
  | some rows => .ok (.val (.int (rows.length : Int))) s
  | none => .stuck
theorem se_lenS (hx : ∀ z, PE (X z) ex (tVar j)) (hs : ∀ z, starEach [ex] (X z).env = [(false, eval ex (X z).env)] := by intro _; rfl)
    (hp : ∀ t, (∀ z, PA (X z) [ex] t) → ∀ z, PE (X z) e (tCB (fun xs H Q => ∃ x n, xs = [x] ∧ LenV K x H n ∧ Q (.int n) H) t)) : SE X K E e (eLenS j) := by
  refine ⟨_, hp _ fun z => pa_cons (hx z) pa_nil (hs z), fun io L G σ s H Q w hf => ?_⟩
  unfold eLenS at hf
  cases q : s.stk j with
  | none => rw [q] at hf; exact hf.elim
  | some rows =>
    rw [q] at hf
    obtain ⟨a, xs, e1, h1, hl⟩ := w.stkAt (stk_of q)
    refine ⟨_, e1, _, xs.reverse.length, rfl, ?_, ?_⟩
    · exact Or.inl ⟨_, SqL.of h1, rfl⟩
    · rw [List.length_reverse, hl]
      exact hf _ G H (Sub.refl _) w (.int _)
/-- stack == [] -/
def tEqS (j : Nat) (neg : Bool) : M Bool := fun s => match s.stk j with
  | some rows => .ok (rows.isEmpty != neg) s
  | none => .stuck
def rEqN (neg : Bool) : R2 := fun x y H Q => ∃ a b xs, x = .ref a ∧ y = .ref b ∧ H a = some (.lst xs) ∧ H b = some (.lst []) ∧ Q (.bl (xs.isEmpty != neg)) H
theorem eqNil2 {X : Cx} (hu : X.A.units + 64 < cLine) : OpR X (compareOp .Eq) (rEqN false) := by
  intro pins s σ H x y v u Q I rx ry h
  obtain ⟨a, b, xs, h1, h2, h3, h4, q⟩ := h
  exact eqNil hu pins s σ H x y v u Q I rx ry ⟨a, b, xs, h1, h2, h3, h4, by simpa using q⟩
theorem neNil2 {X : Cx} (hu : X.A.units + 64 < cLine) : OpR X (compareOp .NotEq) (rEqN true) := by
  intro pins s σ H x y v u Q I rx ry h
  obtain ⟨a, b, xs, h1, h2, h3, h4, q⟩ := h
  exact neNil hu pins s σ H x y v u Q I rx ry ⟨a, b, xs, h1, h2, h3, h4, by cases xs <;> simpa using q⟩
theorem st_eqS {pos : Pos} {neg : Bool} (hx : ∀ z, PE (X z) ex (tVar j)) (hp : ∀ ta tb, (∀ z, PE (X z) ex ta) → (∀ z, PE (X z) (.List [] pos) tb) → ∀ z, PT (X z) e (tTest (tOp (rEqN neg) ta tb))) : ST X K E e (tEqS j neg) := by
  refine ⟨_, hp _ _ hx (fun z => pe_lst pa_nil), fun io L G σ s H Q w hf => ?_⟩
  unfold tEqS at hf
  cases q : s.stk j with
  | none => rw [q] at hf; exact hf.elim
  | some rows =>
    rw [q] at hf
    obtain ⟨a, xs, e1, h1, hl⟩ := w.stkAt (stk_of q)
    refine ⟨_, e1, Nat.zero_le _, fun p hp => ⟨a, p, xs.reverse, rfl, rfl, ?_, upd_same, _, rfl, ?_⟩⟩
    · rw [upd_ne (ne_of_none h1 hp)]; exact h1
    · have e2 : xs.reverse.isEmpty = rows.isEmpty := by
        cases xs with
        | nil => cases rows with
          | nil => rfl
          | cons r rs => cases hl
        | cons x xs => cases rows with
          | nil => cases hl
          | cons r rs => simp
      rw [e2]
      obtain ⟨hL, w2⟩ := w.fresh (o := .lst []) hp
      exact hf G _ (Sub.refl _) (w2.drop hL)
/-- stack.pop() -/
def sPopS (j : Nat) : M Fl := fun s => match s.stk j with
  | some (_ :: rows) => .ok .nx (s.putStk j rows)
  | _ => .stuck
theorem σ_lt {σ : L2.St} {j : Nat} {x : Option V} (h : σ[j]? = some x) : j < σ.length := (List.getElem?_eq_some_iff.mp h).1
theorem clr_put {s : S} {j : Nat} {rows : List Row} : (s.clr j).putStk j rows = s.putStk j rows := by
  show ({ s with env := (clrE (clrE (s.env.set j none))).set j _ } : S) = { s with env := (clrE s.env).set j _ }
  congr 1
  apply List.ext_getElem?
  intro k
  by_cases e : j = k
  · subst e
    by_cases hl : j < s.env.length
    · rw [List.getElem?_set_self (by rw [clrE_len, clrE_len, List.length_set]; exact hl), List.getElem?_set_self (by rw [clrE_len]; exact hl)]
    · rw [List.getElem?_eq_none (by rw [List.length_set, clrE_len, clrE_len, List.length_set]; omega), List.getElem?_eq_none (by rw [List.length_set, clrE_len]; omega)]
  · rw [List.getElem?_set_ne e, List.getElem?_set_ne e, clrE_get, clrE_get, clrE_get, List.getElem?_set_ne e]
    cases s.env[k]? with
    | none => rfl
    | some x => cases x with
      | none => rfl
      | some x => cases x <;> rfl
theorem ss_popS {pos : Pos} (hp : ∀ z, PE (X z) e (tBM0 K "list" rPop (tVar j))) (hs : ∀ z, swapsWith e none pos.line (X z).env = pure false := by intro _; rfl) : SS X K E (.Expr e pos) (sPopS j) := by
  refine ⟨_, fun z => ps_expr (hp z) (hs z), fun io L G σ s H A w hf => ?_⟩
  unfold sPopS at hf
  split at hf
  · rename_i r rows q
    obtain ⟨M, a, as, xs, hd, e1, hM, rr, nd, w2, no⟩ := w.stkOut (stk_of q)
    have ha : H a = some (.lst xs.reverse) := (w2.loose _ _ (un_r hM (hd _ _ hM))).2
    have key : ∃ x xs' as', xs = x :: xs' ∧ RowsRep K G M as' xs' rows ∧ (a :: as').Nodup := by
      cases rr with
      | cons z1 z2 z3 z4 z5 =>
        refine ⟨_, _, _, rfl, z5, ?_⟩
        simp only [List.nodup_cons, List.mem_cons, not_or] at nd ⊢
        exact ⟨nd.1.2.2, nd.2.2.2⟩
      | frz z => exact ⟨_, _, _, rfl, z, nd⟩
    obtain ⟨x, xs', as', rfl, rr', nd'⟩ := key
    have er : (x :: xs').reverse = xs'.reverse ++ [x] := List.reverse_cons
    rw [er] at ha hM
    refine ⟨_, e1, .inl ⟨rfl, _, SqL.of ha⟩, a, _, x, rfl, rfl, ha, by simp, ?_⟩
    rw [List.dropLast_concat]
    have w3 := w2.writeM (o' := .lst xs'.reverse) hM (hd _ _ hM)
    have w4 := w3.stkIn (j := j) (fun b u hb => ?_) (σ_lt e1) upd_same (rr'.agree fun b hb => upd_ne fun z => (List.nodup_cons.mp nd').1 (by rw [← z]; exact hb)) nd' no
    · rw [set_back e1, clr_put] at w4
      exact hf σ G _ (Sub.refl _) w4
    · by_cases z : b = a
      · rw [z]; exact hd _ _ hM
      · rw [upd_ne z] at hb; exact hd _ _ hb
  · exact hf.elim
/-- stack.append((.., [])) -/
def sPush (j : Nat) (fs : List (M R)) : M Fl := fun s => match s.stk j with
  | none => .stuck
  | some _ => evr fs (fun rs s => match spl rs, s.stk j with
    | some p, some rows => if rs.length ≤ sizeLine ∧ rows.length < sizeLine then .ok .nx (s.putStk j ((p.1, some p.2) :: rows)) else .stuck
    | _, _ => .stuck) s
/-- three fresh cells and an old one: the stack grows -/
theorem push_wd {io : Option Addr} {L G H : Hp} {σ : L2.St} {s : S} {rows : List Row} {us zs : List V} {ds l : List D} {q p a : Addr} {kd : Bool} {xs : List V} (w : Wd K io (upd L q (.lst zs)) G σ s H) (hq : L q = none) (ru : DqAll K G us ds) (rz : DqAll K G zs l)
    (hs : s.env[j]? = some (some (Sl.stk rows))) (hp : H p = none) (ea : σ[j]? = some (some (V.ref a))) (ha : H a = some (.lst xs)) :
    Wd K io L G σ (s.putStk j ((ds, some l) :: rows)) (upd (upd H p (mkD kd (us ++ [.ref q]))) a (.lst (xs ++ [.ref p]))) := by
  obtain ⟨M, a', as, xs', hd, e1, hM, rr, nd, w2, no⟩ := w.stkOut hs
  rw [ea] at e1; cases e1
  have hM' : L a = none := by
    have z := hd _ _ hM
    by_cases e : a = q
    · rw [e]; exact hq
    · rw [upd_ne e] at z; exact z
  have ha' : H a = some (.lst xs'.reverse) := (w2.loose _ _ (un_r hM (hd _ _ hM))).2
  rw [ha] at ha'; cases ha'
  have hMq : M q = none := by
    cases z : M q with
    | none => rfl
    | some u => have := hd _ _ z; rw [upd_same] at this; cases this
  have qa : q ≠ a := fun z => by rw [z, hM] at hMq; cases hMq
  have hdL : ∀ b u, M b = some u → L b = none := fun b u hb => by
    have z := hd b u hb
    by_cases e : b = q
    · rw [e]; exact hq
    · rw [upd_ne e] at z; exact z
  have w3 : Wd K io (un L (upd M q (.lst zs))) G σ (s.clr j) H := by
    have e : un (upd L q (.lst zs)) M = un L (upd M q (.lst zs)) := by rw [un_upd, un_updR hq]
    rw [e] at w2; exact w2
  obtain ⟨hLp, hMp, w4⟩ := w3.freshM (o := mkD kd (us ++ [.ref q])) hp
  have pq : p ≠ q := fun z => by rw [z, upd_same] at hMp; cases hMp
  rw [upd_ne pq] at hMp
  have pa : p ≠ a := fun z => by rw [z, hM] at hMp; cases hMp
  have hMa : upd (upd M q (.lst zs)) p (mkD kd (us ++ [.ref q])) a = some (.lst xs'.reverse) := by
    rw [upd_ne (Ne.symm pa), upd_ne (Ne.symm qa)]; exact hM
  have w5 := w4.writeM (o' := .lst (xs'.reverse ++ [.ref p])) hMa hM'
  have w6 := w5.stkIn (j := j) (a := a) (rows := (ds, some l) :: rows) (as := p :: q :: as) (xs := .ref p :: xs') ?_ (σ_lt ea) ?_ ?_ ?_ no
  · rw [set_back ea, clr_put] at w6; exact w6
  · intro b u hb
    by_cases e : b = a
    · rw [e]; exact hM'
    · rw [upd_ne e] at hb
      by_cases e : b = p
      · rw [e]; exact hLp
      · rw [upd_ne e] at hb
        by_cases e : b = q
        · rw [e]; exact hq
        · rw [upd_ne e] at hb; exact hdL b u hb
  · rw [upd_same, List.reverse_cons]
  · refine .cons (vs := us) ?_ ru ?_ rz (rr.agree fun b hb => ?_)
    · rw [upd_ne pa, upd_same]
      cases kd
      · exact .inr rfl
      · exact .inl rfl
    · rw [upd_ne qa, upd_ne (Ne.symm pq), upd_same]
    · have h1 := rr.there b hb
      rw [upd_ne (fun z => (List.nodup_cons.mp nd).1 (by rw [← z]; exact hb)), upd_ne (fun z => h1 (by rw [z]; exact hMp)), upd_ne (fun z => h1 (by rw [z]; exact hMq))]
  · simp only [List.nodup_cons, List.mem_cons, not_or] at nd ⊢
    exact ⟨⟨Ne.symm pa, Ne.symm qa, nd.1⟩, ⟨pq, fun hb => rr.there _ hb hMp⟩, fun hb => rr.there _ hb hMq, nd.2⟩
theorem ss_push {pos : Pos} {et : Expr} {fs : List (M R)} (kd : Bool) (ha : SAr X K E es fs) (ht : ∀ t, (∀ z, PA (X z) es t) → ∀ z, PE (X z) et (tDis kd t)) (hp : ∀ t, (∀ z, PA (X z) [et] t) → ∀ z, PE (X z) e (tBM K "list" rAppend (tVar j) t))
    (hs : ∀ z, swapsWith e none pos.line (X z).env = pure false := by intro _; rfl) (hs2 : ∀ z, starEach [et] (X z).env = [(false, eval et (X z).env)] := by intro _; rfl) : SS X K E (.Expr e pos) (sPush j fs) := by
  obtain ⟨t, pa, h⟩ := ha.ex
  refine ⟨_, fun z => ps_expr (hp _ (fun z => pa_cons (ht t pa z) pa_nil (hs2 z)) z) (hs z), fun io L G σ s H A w hf => ?_⟩
  unfold sPush at hf
  cases q0 : s.stk j with
  | none => rw [q0] at hf; exact hf.elim
  | some rows0 =>
  rw [q0] at hf
  obtain ⟨a, xs, ea, hxa, _⟩ := w.stkAt (stk_of q0)
  refine ⟨_, ea, .inl ⟨rfl, _, SqL.of hxa⟩, ?_⟩
  refine h (fk_finS (A := A)) w hf fun vs rs s' G' H' sb hd f => ?_
  split at f
  · rename_i p rows e1 e2
    split at f
    · rename_i hz
      obtain ⟨us, q, zs, rfl, ru, hq, rz, w2⟩ := hold_spl hd e1
      refine ⟨by rw [hd.len]; exact hz.1, fun p' hp' => ?_⟩
      obtain ⟨a', xs', ea', hxa', hl'⟩ := w2.stkAt (stk_of e2)
      rw [ea] at ea'; cases ea'
      have ne : a ≠ p' := ne_of_none hxa' hp'
      refine ⟨a, xs'.reverse, _, rfl, rfl, by rw [upd_ne ne]; exact hxa', by rw [List.length_reverse, hl']; exact hz.2, ?_⟩
      exact f σ G' _ (Sub.refl _) (push_wd w2 hq ru rz (stk_of e2) hp' ea hxa')
    · exact f.elim
  · exact f.elim

/-- a, stack = e, [(.., [])] -/
def sInit (i j : Nat) (f : M R) (fs : List (M R)) : M Fl := mbind f fun r => evr fs fun rs s => match spl rs with
  | some p => if noStk s.env = true ∧ rs.length ≤ sizeLine then .ok .nx ((s.putStk j [(p.1, some p.2)]).put i r) else .stuck
  | none => .stuck
def sInit0 (i j : Nat) (f : M R) (fs : List (M R)) : M Fl := fun s => if j < s.env.length then sInit i j f fs s else .stuck
theorem init_wd {io : Option Addr} {L G H : Hp} {σ : L2.St} {s : S} {us zs : List V} {ds l : List D} {q p a : Addr} {kd : Bool} (w : Wd K io (upd L q (.lst zs)) G σ s H) (hq : L q = none) (ru : DqAll K G us ds) (rz : DqAll K G zs l)
    (no : noStk s.env = true) (hp : H p = none) (ha : upd H p (mkD kd (us ++ [.ref q])) a = none) (hj : j < σ.length) :
    Wd K io L G (σ.set j (some (.ref a))) (s.putStk j [(ds, some l)]) (upd (upd H p (mkD kd (us ++ [.ref q]))) a (.lst [.ref p])) := by
  have w0 : Wd K io (un L (upd emp q (.lst zs))) G σ s H := by
    rw [← un_updR hq, un_emp]; exact w
  obtain ⟨hLp, hMp, w1⟩ := w0.freshM (o := mkD kd (us ++ [.ref q])) hp
  have pq : p ≠ q := fun z => by rw [z, upd_same] at hMp; cases hMp
  obtain ⟨hLa, hMa, w2⟩ := w1.freshM (o := .lst [.ref p]) ha
  have ap : a ≠ p := fun z => by rw [z, upd_same] at hMa; cases hMa
  rw [upd_ne ap] at hMa
  have aq : a ≠ q := fun z => by rw [z, upd_same] at hMa; cases hMa
  refine w2.stkIn (as := [p, q]) (xs := [.ref p]) (fun b u hb => ?_) hj upd_same (.cons (vs := us) ?_ ru ?_ rz .nil) ?_ (noStk_of no)
  · by_cases e : b = a
    · rw [e]; exact hLa
    · rw [upd_ne e] at hb
      by_cases e : b = p
      · rw [e]; exact hLp
      · rw [upd_ne e] at hb
        by_cases e : b = q
        · rw [e]; exact hq
        · rw [upd_ne e] at hb; cases hb
  · rw [upd_ne (Ne.symm ap), upd_same]
    cases kd
    · exact .inr rfl
    · exact .inl rfl
  · rw [upd_ne (Ne.symm aq), upd_ne (Ne.symm pq), upd_same]
  · simp [ap, aq, pq]
theorem ss_init {i : Nat} {p2 : Pos} {et e1 : Expr} {f : M R} {fs : List (M R)} (kd : Bool) (hij : i ≠ j) (h1 : SE X K E e1 f) (ha : SAr X K E es fs) (ht : ∀ t, (∀ z, PA (X z) es t) → ∀ z, PE (X z) et (tDis kd t)) (hp : ∀ t, (∀ z, PA (X z) [e1, .List [et] p2] t) → ∀ z, PS (X z) st (tPar i j t))
    (hs1 : ∀ z, starEach [e1, .List [et] p2] (X z).env = (false, eval e1 (X z).env) :: starEach [.List [et] p2] (X z).env := by intro _; rfl) (hs2 : ∀ z, starEach [.List [et] p2] (X z).env = [(false, eval (.List [et] p2) (X z).env)] := by intro _; rfl)
    (hs3 : ∀ z, starEach [et] (X z).env = [(false, eval et (X z).env)] := by intro _; rfl) : SS X K E st (sInit0 i j f fs) := by
  obtain ⟨t1, q1, h1⟩ := h1.use
  obtain ⟨t2, q2, h2⟩ := ha.ex
  refine ⟨_, hp _ fun z => pa_cons (q1 z) (pa_cons (pe_lst (pa_cons (ht t2 q2 z) pa_nil (hs3 z))) pa_nil (hs2 z)) (hs1 z), fun io L G σ s H A w hf => ?_⟩
  unfold sInit0 at hf
  split at hf
  · rename_i hjl
    have hjσ : j < σ.length := by rw [w.len]; exact hjl
    unfold sInit at hf
    refine h1 (fk_finS (A := A)) w hf (fun v d s' G' H' sb w' dp f => ?_) fun a o c s' G' H' sb hL w' rc f => ?_
    · refine h2 (fk_finS (A := A)) w' f fun vs rs s2 G2 H2 sb2 hd f2 => ?_
      split at f2
      · rename_i p e1
        split at f2
        · rename_i hz
          obtain ⟨us, q, zs, rfl, ru, hq, rz, w2⟩ := hold_spl hd e1
          refine ⟨by rw [hd.len]; exact hz.2, fun p' hp' => ⟨by show 1 ≤ sizeLine; decide, fun a ha => ⟨_, _, rfl, ?_⟩⟩⟩
          have w3 := (init_wd w2 hq ru rz hz.1 hp' ha hjσ).setv (i := i) (sb2.dp dp)
          rw [List.set_comm _ _ hij]
          exact f2 _ G2 _ (Sub.refl _) w3
        · exact f2.elim
      · exact f2.elim
    · refine h2 ((fk_finS (A := A)).up hL) w' f fun vs rs s2 G2 H2 sb2 hd f2 => ?_
      split at f2
      · rename_i p e1
        split at f2
        · rename_i hz
          obtain ⟨us, q, zs, rfl, ru, hq, rz, w2⟩ := hold_spl hd e1
          refine ⟨by rw [hd.len]; exact hz.2, fun p' hp' => ⟨by show 1 ≤ sizeLine; decide, fun a' ha => ⟨_, _, rfl, ?_⟩⟩⟩
          have w3 := (init_wd w2 hq ru rz hz.1 hp' ha hjσ).seto (i := i) hL (sb2.repC rc)
          rw [List.set_comm _ _ hij]
          exact f2 _ G2 _ (Sub.refl _) w3
        · exact f2.elim
      · exact f2.elim
  · exact hf.elim

theorem ss_initC {i : Nat} {p2 : Pos} {et e1 : Expr} {f : M R} {fs : List (M R)} (kd : Bool) (hij : i ≠ j) (h1 : SE X K E e1 f) (ha : SAr X K E es fs) (ht : ∀ t, (∀ z, PA (X z) es t) → ∀ z, PE (X z) et (tDis kd t)) (hp : ∀ t, (∀ z, PA (X z) [e1, .List [et] p2] t) → ∀ z, PS (X z) st (tAsg (tTup t) (gTup K 2 (gNames [i, j]))))
    (hs1 : ∀ z, starEach [e1, .List [et] p2] (X z).env = (false, eval e1 (X z).env) :: starEach [.List [et] p2] (X z).env := by intro _; rfl) (hs2 : ∀ z, starEach [.List [et] p2] (X z).env = [(false, eval (.List [et] p2) (X z).env)] := by intro _; rfl)
    (hs3 : ∀ z, starEach [et] (X z).env = [(false, eval et (X z).env)] := by intro _; rfl) : SS X K E st (sInit0 i j f fs) := by
  obtain ⟨t1, q1, h1⟩ := h1.use
  obtain ⟨t2, q2, h2⟩ := ha.ex
  refine ⟨_, hp _ fun z => pa_cons (q1 z) (pa_cons (pe_lst (pa_cons (ht t2 q2 z) pa_nil (hs3 z))) pa_nil (hs2 z)) (hs1 z), fun io L G σ s H A w hf => ?_⟩
  unfold sInit0 at hf
  split at hf
  · rename_i hjl
    have hjσ : j < σ.length := by rw [w.len]; exact hjl
    unfold sInit at hf
    refine h1 (fk_finS (A := A)) w hf (fun v d s' G' H' sb w' dp f => ?_) fun a o c s' G' H' sb hL w' rc f => ?_
    · refine h2 (fk_finS (A := A)) w' f fun vs rs s2 G2 H2 sb2 hd f2 => ?_
      split at f2
      · rename_i p e1
        split at f2
        · rename_i hz
          obtain ⟨us, q, zs, rfl, ru, hq, rz, w2⟩ := hold_spl hd e1
          refine ⟨by rw [hd.len]; exact hz.2, fun p' hp' => ⟨by show 1 ≤ sizeLine; decide, fun a ha => ⟨by show 2 ≤ sizeLine; decide, fun T hT => ⟨T, _, rfl, SqT.of upd_same, rfl, ?_⟩⟩⟩⟩
          have w3 := (init_wd w2 hq ru rz hz.1 hp' ha hjσ).setv (i := i) (sb2.dp dp)
          refine gNames_of (is := [i, j]) (by simp [hij]) rfl ?_
          exact f2 _ _ _ (Sub.new (w3.sub.none hT)) (w3.grow hT)
        · exact f2.elim
      · exact f2.elim
    · refine h2 ((fk_finS (A := A)).up hL) w' f fun vs rs s2 G2 H2 sb2 hd f2 => ?_
      split at f2
      · rename_i p e1
        split at f2
        · rename_i hz
          obtain ⟨us, q, zs, rfl, ru, hq, rz, w2⟩ := hold_spl hd e1
          refine ⟨by rw [hd.len]; exact hz.2, fun p' hp' => ⟨by show 1 ≤ sizeLine; decide, fun a' ha => ⟨by show 2 ≤ sizeLine; decide, fun T hT => ⟨T, _, rfl, SqT.of upd_same, rfl, ?_⟩⟩⟩⟩
          have w3 := (init_wd w2 hq ru rz hz.1 hp' ha hjσ).seto (i := i) hL (sb2.repC rc)
          refine gNames_of (is := [i, j]) (by simp [hij]) rfl ?_
          exact f2 _ _ _ (Sub.new (w3.sub.none hT)) (w3.grow hT)
        · exact f2.elim
      · exact f2.elim
  · exact hf.elim

theorem atI_lastS {α : Type} {xs : List α} {v : α} : atI (xs ++ [v]) (-1) = some v := by
  unfold atI ixN
  rw [if_neg (by omega), if_pos (by simp; omega)]
  show (xs ++ [v])[_]? = _
  have e : ((-1 : Int) + ((xs ++ [v]).length : Int)).toNat = xs.length := by simp; omega
  rw [e]
  simp
theorem atI_endS {α : Type} {xs : List α} {v : α} : atI (xs ++ [v]) (xs.length : Int) = some v := by
  unfold atI ixN
  rw [if_pos (by omega), if_pos (by simp; omega)]
  show (xs ++ [v])[_]? = _
  have e : ((xs.length : Int)).toNat = xs.length := by omega
  rw [e]
  simp
def gAny (K : PySem.W.Frag) (n : Nat) (t : TGs) : TG := fun v σ H Q => gTup K n t v σ H Q ∨ gUnl K n t v σ H Q
theorem pg_any {X : Cx} {t : TGs} {ets : List Expr} {k : Nat} {pos : Pos} {n : Nat} (h1 : PG X (.Tuple ets k pos) (gTup X.K n t)) (h2 : PG X (.Tuple ets k pos) (gUnl X.K n t)) : PG X (.Tuple ets k pos) (gAny X.K n t) :=
  ⟨fun pins s σ H v u Q I r h => h.elim (h1.run pins s σ H v u Q I r) (h2.run pins s σ H v u Q I r)⟩
theorem setAll_snoc {σ : L2.St} {ia : Nat} {x : V} : ∀ {is : List Nat} {vs : List V}, vs.length = is.length → setAll σ (is ++ [ia]) (vs ++ [x]) = setAll (σ.set ia (some x)) is vs
  | [], [], _ => rfl
  | i :: is, v :: vs, h => by
    show (setAll σ (is ++ [ia]) (vs ++ [x])).set i (some v) = (setAll (σ.set ia (some x)) is vs).set i (some v)
    rw [setAll_snoc (Nat.succ.inj h)]
  | [], _ :: _, h => by cases h
  | _ :: _, [], h => by cases h
theorem hold_vals {io : Option Addr} {L G H : Hp} {σ : L2.St} {s : S} (w : Wd K io L G σ s H) : ∀ {vs : List V} {ds : List D}, DqAll K G vs ds → Hold K io G σ s H L vs (ds.map R.val)
  | _, _, .nil => .nil w
  | _, _, .cons r t => .val r (hold_vals w t)
/-- a, .., l = stack[-1] -/
def sBorrow (is : List Nat) (ia j : Nat) (fi : M D) : M Fl := fun s => match s.stk j with
  | none => .stuck
  | some _ => mbind fi (fun x s => match x, s.stk j with
    | .int n, some ((ds, some _) :: _) => if n = -1 ∧ ds.length = is.length then .ok .nx ((s.setTop ia j).putAll is (ds.map R.val)) else .stuck
    | _, _ => .stuck) s
def sBorrow0 (is : List Nat) (ia j : Nat) (fi : M D) : M Fl := fun s => if ia < s.env.length then sBorrow is ia j fi s else .stuck
theorem ss_borrow {is : List Nat} {ia : Nat} {ei : Expr} {fi : M D} (nd : (is ++ [ia]).Nodup) (hij : ia ≠ j) (hx : ∀ z, PE (X z) ex (tVar j)) (hi : SV X K E ei fi)
    (hp : ∀ ta tb, (∀ z, PE (X z) ex ta) → (∀ z, PE (X z) ei tb) → ∀ z, PS (X z) st (tAsg (tOp (rIx K) ta tb) (gAny K (is ++ [ia]).length (gNames (is ++ [ia]))))) : SS X K E st (sBorrow0 is ia j fi) := by
  obtain ⟨t, pi, h⟩ := hi.use
  refine ⟨_, hp _ _ hx pi, fun io L G σ s H A w hf => ?_⟩
  unfold sBorrow0 at hf
  split at hf
  · rename_i hil
    unfold sBorrow at hf
    cases q0 : s.stk j with
    | none => rw [q0] at hf; exact hf.elim
    | some rows0 =>
    rw [q0] at hf
    obtain ⟨a, _, ea, _⟩ := w.stkAt (stk_of q0)
    refine ⟨_, ea, ?_⟩
    refine h (fk_finS (A := A)) w hf fun v d s' G' H' sb w' dp f => ?_
    split at f
    · rename_i n ds l rest q
      split at f
      · rename_i hz
        obtain ⟨hz1, hz2⟩ := hz
        subst hz1
        cases dp
        obtain ⟨a', p, q', vs, xs, ea', ha, hpp, rv, w2⟩ := w'.setTop (i := ia) (stk_of q) hij (by rw [w.len]; exact hil)
        rw [ea] at ea'; cases ea'
        refine .inl ⟨a, _, -1, .ref p, rfl, rfl, SqL.of ha, by rw [List.reverse_cons]; exact atI_lastS, ?_⟩
        have hl : (vs ++ [V.ref q']).length = (is ++ [ia]).length := by simp [rv.length, hz2]
        have w3 := (hold_vals w2 rv).put (is := is) (by rw [rv.length, hz2])
        have fin : gNames (is ++ [ia]) (vs ++ [V.ref q']) σ H' A.nx := gNames_of nd hl (by
          rw [setAll_snoc (by rw [rv.length, hz2])]
          exact f _ G' H' (Sub.refl _) w3)
        rcases hpp with hpp | hpp
        · exact .inl ⟨p, _, rfl, SqT.of hpp, hl, fin⟩
        · exact .inr ⟨p, _, rfl, SqL.of hpp, hl, fin⟩
      · exact f.elim
    · exact f.elim
  · exact hf.elim
theorem Wd0.weak {io : Option Addr} {L L' G H : Hp} {σ : L2.St} {s : S} (w : Wd0 K io L G σ s H) (h : ∀ b u, L' b = some u → L b = some u) : Wd0 K io L' G σ s H := by
  have hn : ∀ b, L b = none → L' b = none := fun b hb => by
    cases e : L' b with
    | none => rfl
    | some u => rw [h b u e] at hb; cases hb
  exact ⟨w.sub, w.len, w.vals, fun i c q => let ⟨a, o, h1, h2, h3, h4, h5, h6⟩ := w.owns i c q; ⟨a, o, h1, h2, h3, h4, hn a h5, h6⟩, w.apart, fun a q => let ⟨h1, h2, h3⟩ := w.ios a q; ⟨h1, hn a h2, h3⟩, w.refs, fun a o q => w.loose a o (h a o q)⟩
theorem Wd.dropM {io : Option Addr} {L M G H : Hp} {σ : L2.St} {s : S} (w : Wd K io (un L M) G σ s H) : Wd K io L G σ s H := by
  obtain ⟨T, hd, w0, st⟩ := w.ex
  refine ⟨T, fun b u hb => un_left (hd b u hb), w0.weak fun b u hb => ?_, st⟩
  unfold un at hb
  cases e : L b with
  | some v => rw [e] at hb; cases hb; exact un_l (un_l e)
  | none => rw [e] at hb; exact un_r hb (hd b u hb)
theorem FK.upM {io : Option Addr} {L M : Hp} {σ : L2.St} {β : Type} {F : Hp → Out β → Prop} (h : FK K E io L σ F) : FK K E io (un L M) σ F :=
  ⟨h.stuck, fun z dx v G H sb w => h.exc z dx v G H sb w.dropM, h.mono⟩
/-- stack[-1][k].append(e) -/
def sTopApp (j : Nat) (fi fk fe : M D) : M Fl := fun s => match s.stk j with
  | none => .stuck
  | some _ => mbind fi (fun x s => match x, s.stk j with
    | .int n, some ((ds, some l) :: rest) => if n = -1 ∧ l.length < sizeLine then mbind fk (fun y s => match y with
      | .int k => if k = (ds.length : Int) then mbind fe (fun d s => if noStk s.env = true then .ok .nx (s.putStk j ((ds, some (l ++ [d])) :: rest)) else .stuck) s else .stuck
      | _ => .stuck) (s.clr j) else .stuck
    | _, _ => .stuck) s
theorem ss_topApp {pos : Pos} {ei ek ee : Expr} {fi fk fe : M D} (hx : ∀ z, PE (X z) ex (tVar j)) (hi : SV X K E ei fi) (hk : SV X K E ek fk) (he : SV X K E ee fe)
    (hp : ∀ ta tb tc t, (∀ z, PE (X z) ex ta) → (∀ z, PE (X z) ei tb) → (∀ z, PE (X z) ek tc) → (∀ z, PA (X z) [ee] t) → ∀ z, PE (X z) e (tBM K "list" rAppend (tOp (rIx K) (tOp (rIx K) ta tb) tc) t))
    (hs : ∀ z, swapsWith e none pos.line (X z).env = pure false := by intro _; rfl) (hs2 : ∀ z, starEach [ee] (X z).env = [(false, eval ee (X z).env)] := by intro _; rfl) : SS X K E (.Expr e pos) (sTopApp j fi fk fe) := by
  obtain ⟨t1, p1, h1⟩ := hi.use
  obtain ⟨t2, p2, h2⟩ := hk.use
  obtain ⟨t3, p3, h3⟩ := he.use
  refine ⟨_, fun z => ps_expr (hp _ _ _ _ hx p1 p2 (fun z => pa_cons (p3 z) pa_nil (hs2 z)) z) (hs z), fun io L G σ s H A w hf => ?_⟩
  unfold sTopApp at hf
  cases q0 : s.stk j with
  | none => rw [q0] at hf; exact hf.elim
  | some rows0 =>
  rw [q0] at hf
  obtain ⟨a, _, ea, _⟩ := w.stkAt (stk_of q0)
  refine ⟨_, ea, ?_⟩
  refine h1 (fk_finS (A := A)) w hf fun v d s1 G1 H1 sb1 w1 dp f1 => ?_
  split at f1
  · rename_i n ds l rest q
    split at f1
    · rename_i hz
      obtain ⟨hz1, hz2⟩ := hz
      subst hz1
      cases dp
      obtain ⟨M, a', as, xs, hd, ea', hM, rr, nd, w2, no⟩ := w1.stkOut (stk_of q)
      rw [ea] at ea'; cases ea'
      cases rr with
      | @cons p q' vs us _ _ as' xs' _ z1 z2 z3 z4 z5 =>
        have lo : ∀ {G' H' s' b u}, Wd K io (un L M) G' σ s' H' → M b = some u → H' b = some u := fun w e => (w.loose _ _ (un_r e (hd _ _ e))).2
        refine .inl ⟨a, _, -1, .ref p, rfl, rfl, SqL.of (lo w2 hM), by rw [List.reverse_cons]; exact atI_lastS, ?_⟩
        refine h2 ((fk_finS (A := A)).upM) w2 f1 fun v d s3 G3 H3 sb3 w3 dp f3 => ?_
        split at f3
        · rename_i k
          cases dp
          split at f3
          · rename_i hk
            have e2 : k = (vs.length : Int) := by rw [z2.length]; exact hk
            subst e2
            have hpr : rIx K (V.ref p) (V.int (vs.length : Int)) H3 (fun x H => tyV K "list" x H ∧ tCons t3 tNil σ H fun xs H2 => rAppend x xs H2 fun _ H => A.nx σ H) := by
              have fin : tyV K "list" (V.ref q') H3 ∧ tCons t3 tNil σ H3 fun xs H2 => rAppend (V.ref q') xs H2 fun _ H => A.nx σ H := by
                refine ⟨.inl ⟨rfl, _, SqL.of (lo w3 z3)⟩, ?_⟩
                refine h3 ((fk_finS (A := A)).upM) w3 f3 fun v d s4 G4 H4 sb4 w4 dp f4 => ?_
                split at f4
                · rename_i hno
                  refine ⟨q', us, v, rfl, rfl, lo w4 z3, by rw [z4.length]; exact hz2, ?_⟩
                  have hq : L q' = none := hd _ _ z3
                  have w5 := w4.writeM (o' := .lst (us ++ [v])) z3 hq
                  have nd' := nd
                  simp only [List.nodup_cons, List.mem_cons, not_or] at nd'
                  have sb5 := sb3.trans sb4
                  have w6 := w5.stkIn (j := j) (a := a) (rows := (ds, some (l ++ [d])) :: rest) (as := p :: q' :: as') (xs := .ref p :: xs') (fun b u hb => ?_) (σ_lt ea) (by rw [upd_ne nd'.1.2.1]; exact hM)
                    (.cons (vs := vs) (by rw [upd_ne nd'.2.1.1]; exact z1) (sb5.dpAll z2) upd_same ((sb5.dpAll z4).append (.cons dp .nil)) ((z5.mono sb5).agree fun b hb => upd_ne fun e => nd'.2.2.1 (by rw [← e]; exact hb))) nd (noStk_of hno)
                  · rw [set_back ea] at w6
                    exact f4 σ G4 _ (Sub.refl _) w6
                  · by_cases e : b = q'
                    · rw [e]; exact hq
                    · rw [upd_ne e] at hb; exact hd _ _ hb
                · exact f4.elim
              rcases z1 with z1 | z1
              · exact .inr (.inl ⟨p, _, _, .ref q', rfl, rfl, SqT.of (lo w3 z1), atI_endS, fin⟩)
              · exact .inl ⟨p, _, _, .ref q', rfl, rfl, SqL.of (lo w3 z1), atI_endS, fin⟩
            exact hpr
          · exact f3.elim
        · exact f3.elim
    · exact f1.elim
  · exact f1.elim
end
end L3

namespace L3
open PySem PySem.W PySem.Spec PyProof.Rows L2

/-! ### min of data -/
def mnOk (xs : List D) : Bool := (xs.all fun x => xs.all fun y => alike x y) && (xs.all fun x => match x with | .none => false | _ => true) && decide (PyData.depthAll xs ≤ 60) && noDictAll xs && PyData.canLayAll0 xs
def pMinA : List D → Option PO := fun ds => match pMin ds with
  | some x => some x
  | none => match ds with
    | [.list (x :: xs)] => if mnOk (x :: xs) then some (.d (minD x xs)) else none
    | [.tuple (x :: xs)] => if mnOk (x :: xs) then some (.d (minD x xs)) else none
    | _ => none
def rMinA (K : PySem.W.Frag) : List V → Hp → VK → Prop := fun vs H Q => rMm K min vs H Q ∨ ∃ (a : Addr) (xs : List V) (d : D) (ds : List D), vs = [.ref a] ∧ (SqL K H a xs ∨ SqT K H a xs) ∧ DqAll K H xs (d :: ds) ∧ mnOk (d :: ds) = true ∧
  ∀ (i : Nat) (v : V), xs[i]? = some v → (d :: ds)[i]? = some (minD d ds) → Q v H
theorem mnOk_of {xs : List D} (h : mnOk xs = true) : AlikeAll xs ∧ PyData.depthAll xs ≤ 60 ∧ noDictAll xs = true ∧ PyData.canLayAll0 xs = true := by
  unfold mnOk at h
  simp only [Bool.and_eq_true, List.all_eq_true, decide_eq_true_eq] at h
  obtain ⟨⟨⟨⟨h1, h2⟩, h3⟩, h4⟩, h5⟩ := h
  exact ⟨⟨h1, fun x hx e => by have := h2 x hx; rw [e] at this; cases this⟩, h3, h4, h5⟩
theorem readsAll_of {X : Cx} {pins : List (Addr × Obj)} {σ : L2.St} {H : Hp} {s : Shared} (I : Inv X pins σ H s) : ∀ {xs : List V} {ds : List D} {its : List Value}, noDictAll ds = true → Vals xs its → DqAll X.K H xs ds → ∃ as, ReadsAll s.heap its ds as
  | _, _, _, _, .nil, h => by cases h; exact ⟨_, .nil⟩
  | _, _, _, n, .cons r t, h => by
    cases h with
    | cons h1 h2 =>
      rw [noDictAll, Bool.and_eq_true] at n
      obtain ⟨as, ra⟩ := Dp.reads I _ _ _ (dq_dp n.1 h1) r
      obtain ⟨bs, rb⟩ := readsAll_of I n.2 t h2
      exact ⟨_, .cons ra rb⟩
theorem canLay_at : ∀ {ds : List D} {i : Nat} {d : D}, PyData.canLayAll0 ds = true → ds[i]? = some d → d.canLay0 = true
  | [], _, _, _, h => by simp at h
  | x :: xs, 0, d, h, e => by
    have h' : x.canLay0 = true ∧ PyData.canLayAll0 xs = true := by simpa [PyData.canLayAll0] using h
    simp at e; subst e; exact h'.1
  | x :: xs, i + 1, d, h, e => by
    have h' : x.canLay0 = true ∧ PyData.canLayAll0 xs = true := by simpa [PyData.canLayAll0] using h
    exact canLay_at (i := i) h'.2 (by simpa using e)
theorem noDict_at : ∀ {ds : List D} {i : Nat} {d : D}, noDictAll ds = true → ds[i]? = some d → noDict d = true
  | [], _, _, _, h => by simp at h
  | x :: xs, 0, d, h, e => by
    rw [noDictAll, Bool.and_eq_true] at h
    simp at e; subst e; exact h.1
  | x :: xs, i + 1, d, h, e => by
    rw [noDictAll, Bool.and_eq_true] at h
    exact noDict_at (i := i) h.2 (by simpa using e)
theorem min_end {X : Cx} {pins : List (Addr × Obj)} {σ : L2.St} {H : Hp} {s : Shared} {Q : VK} {xs : List V} {d : D} {ds : List D} {its : List Value} {h' : Heap} {tk : Nat} {bs : List Addr} {i : Nat} {v : Value} (I : Inv X pins σ H s) (rv : Vals xs its) (hd : DqAll X.K H xs (d :: ds)) (hn : noDictAll (d :: ds) = true) (hc : PyData.canLayAll0 (d :: ds) = true)
    (hi : its[i]? = some v) (rd : Reads h' v (minD d ds) bs) (k : ∀ b o, s.heap.get? b = some o → h'.get? b = some o) (q : ∀ (i : Nat) (v : V), xs[i]? = some v → (d :: ds)[i]? = some (minD d ds) → Q v H) : EP X pins σ Q v { s with heap := h', toks := tk } := by
  have hl := rv.length
  obtain ⟨hil, _⟩ := List.getElem?_eq_some_iff.mp hi
  have hx : xs[i]? = some (xs[i]'(by omega)) := List.getElem?_eq_getElem (by omega)
  obtain ⟨u, hu, ru⟩ := rv.get hx
  rw [hi] at hu; cases hu
  obtain ⟨dd, hdd, rq⟩ := hd.get' hx
  obtain ⟨as, ra⟩ := Dp.reads I _ _ _ (dq_dp (noDict_at hn hdd) rq) ru
  have e := SeqAt.Reads.unique dd (minD d ds) v _ _ (canLay_at hc hdd) (PyProof.Rows.Reads.keeps k ra) rd
  exact ⟨_, H, I.kept k, ru, q i _ hx (by rw [hdd, e])⟩
theorem cr_minA {X : Cx} (hc : X.calm = true) (hu : X.A.units + 64 < cLine) : CallR X (.builtin "min") (rMinA X.K) := by
  intro pins s σ H vs us Q I r h
  rcases h with h | h
  · exact cr_minP hc hu pins s σ H vs us Q I r h
  · obtain ⟨a, xs, d, ds, rfl, hs, hd, ho, q⟩ := h
    rw [Vals.ref1 r]
    obtain ⟨h1, h2, h3, h4⟩ := mnOk_of ho
    rcases hs with hs | hs
    · obtain ⟨its, rv, hl, _⟩ := I.list hs
      obtain ⟨as, ra⟩ := readsAll_of I h3 rv hd
      exact min_list_data (I.ok.hd hc) hl.isList ra h1 (by omega) fun i v h' tk bs hi rd k => min_end I rv hd h3 h4 (by simpa using hi) rd k q
    · obtain ⟨its, rv, hl, _⟩ := I.tuple hs
      obtain ⟨as, ra⟩ := readsAll_of I h3 rv hd
      exact min_tuple_data (I.ok.hd hc) (show s.heap.IsTuple a its.toArray from hl) ra h1 (by omega) fun i v h' tk bs hi rd k => min_end I rv hd h3 h4 (by simpa using hi) rd k q
theorem dq_pick1 {K : PySem.W.Frag} {G H : Hp} {Q : VK} {ys : List V} {ds : List D} {x : D} (r1 : DqAll K G ys ds) (rt : ∀ v, Dq K G v x → Q v H) : ∀ (i : Nat) (v : V), ys[i]? = some v → ds[i]? = some x → Q v H := fun i v h1 h2 => by
  obtain ⟨d, e, r⟩ := r1.get' h1
  rw [h2] at e; cases e
  exact rt v r
theorem prim_minA {K : PySem.W.Frag} : Prim K (rMinA K) pMinA := fun G H vs ds x Q sb rs e rt => by
  unfold pMinA at e
  cases h : pMin ds with
  | some y =>
    rw [h] at e; cases e
    exact Or.inl (prim_min G H vs ds x Q sb rs h rt)
  | none =>
    rw [h] at e
    dsimp only at e
    split at e
    · rename_i d ds
      split at e
      · rename_i ho
        cases e
        obtain ⟨v, rfl, rv⟩ := rpAll1 rs
        obtain ⟨a, ys, rfl, h1, r1⟩ := rv.list sb
        exact Or.inr ⟨a, ys, d, ds, rfl, .inl (SqL.of h1), sb.dpAll r1, ho, dq_pick1 r1 rt⟩
      · cases e
    · rename_i d ds
      split at e
      · rename_i ho
        cases e
        obtain ⟨v, rfl, rv⟩ := rpAll1 rs
        obtain ⟨a, ys, rfl, h1, r1⟩ := rv.tuple sb
        exact Or.inr ⟨a, ys, d, ds, rfl, .inr h1, sb.dpAll r1, ho, dq_pick1 r1 rt⟩
      · cases e
    · cases e
end L3

namespace L3
open PySem PySem.W PySem.Spec PyProof.Rows L2

/-! ### defs whose last parameter is a list that is read, and stays the caller's -/
def initL (n : Nat) (ds : List D) : List (Option Sl) := (ds.map fun d => some (Sl.val d)) ++ some Sl.io :: List.replicate (n - (ds.length + 1)) none
def runL (n : Nat) (b : M Fl) : Fn := fun ds box => match b ⟨initL n ds, box⟩ with
  | .ok (.rt r) s => .ok r s.box
  | .ok .nx s => .ok (.val .none) s.box
  | .exc c d s => .exc c d s.box
  | _ => .stuck
def spL (K : PySem.W.Frag) (np : Nat) (g : Fn) : Sp := fun vs H Q _ =>
  ∃ (G : Hp) (a : Addr) (ds box : List D) (ws : List V), Sub G H ∧ vs = ws ++ [.ref a] ∧ DqAll K G ws ds ∧ vs.length = np ∧ (G a = none ∧ ∃ xs, H a = some (.lst xs) ∧ DqAll K G xs box) ∧
    match g ds box with
    | .ok r es => ∀ G' H', Ext K G H (some a) G' H' es → RetR K H G' H' (some a) Q r
    | _ => False
section
variable {P : Program} {w : World} {K : PySem.W.Frag} {mg : Str → Option Value} {base : Heap}
theorem initL_at {n : Nat} {ds : List D} {i : Nat} {x : Option Sl} (h : (initL n ds)[i]? = some x) : (∃ d, ds[i]? = some d ∧ x = some (Sl.val d)) ∨ (i = ds.length ∧ x = some Sl.io) ∨ x = none := by
  unfold initL at h
  by_cases hi : i < ds.length
  · rw [List.getElem?_append_left (by simpa using hi), List.getElem?_map] at h
    cases e : ds[i]? with
    | none => rw [e] at h; cases h
    | some d => rw [e] at h; exact .inl ⟨d, rfl, (Option.some.inj h).symm⟩
  · rw [List.getElem?_append_right (by simp; omega)] at h
    simp only [List.length_map] at h
    cases e : i - ds.length with
    | zero =>
      rw [e] at h
      exact .inr (.inl ⟨by omega, (Option.some.inj h).symm⟩)
    | succ k =>
      rw [e] at h
      have h : (List.replicate (n - (ds.length + 1)) (none : Option Sl))[k]? = some x := h
      rw [List.getElem?_replicate] at h
      split at h
      · exact .inr (.inr (Option.some.inj h).symm)
      · cases h
theorem start_wdL {K : PySem.W.Frag} {G H : Hp} {a : Addr} {ds box : List D} {ws : List V} {N : List Str} (sb : Sub G H) (hd : DqAll K G ws ds) (hn : ws.length + 1 ≤ N.length) (hio : G a = none ∧ ∃ xs, H a = some (.lst xs) ∧ DqAll K G xs box) :
    Wd K (some a) (fun b => if G b = none ∧ some a ≠ some b then H b else none) G (L2.start N (ws ++ [V.ref a])) ⟨initL N.length ds, box⟩ H := by
  have hl : ws.length = ds.length := hd.length
  have stw : ∀ (i : Nat) (v : V), ws[i]? = some v → (L2.start N (ws ++ [V.ref a]))[i]? = some (some v) := fun i v h => by
    obtain ⟨hi, _⟩ := List.getElem?_eq_some_iff.mp h
    show ((ws ++ [V.ref a]).map some ++ List.replicate (N.length - (ws ++ [V.ref a]).length) none)[i]? = _
    rw [List.getElem?_append_left (by simp; omega), List.getElem?_map, List.getElem?_append_left hi, h]; rfl
  have sta : (L2.start N (ws ++ [V.ref a]))[ds.length]? = some (some (V.ref a)) := by
    show ((ws ++ [V.ref a]).map some ++ List.replicate (N.length - (ws ++ [V.ref a]).length) none)[_]? = _
    rw [List.getElem?_append_left (by simp; omega), List.getElem?_map, List.getElem?_append_right (by omega), ← hl, Nat.sub_self]; rfl
  have e : un (fun b => if G b = none ∧ some a ≠ some b then H b else none) emp = (fun b => if G b = none ∧ some a ≠ some b then H b else none) := un_emp
  refine ⟨emp, fun _ _ h => (by cases h), ?_, ⟨fun j rows hj => ?_, fun j j' rows rows' hj _ => ?_⟩⟩
  · rw [e]
    refine ⟨sb, ?_, fun i d h => ?_, fun i c h => ?_, fun i j c c' b h => ?_, fun b h => ?_, fun i h => ?_, fun b o h => ?_⟩
    · show ((ws ++ [V.ref a]).map some ++ List.replicate (N.length - (ws ++ [V.ref a]).length) none).length = ((ds.map fun d => some (Sl.val d)) ++ some Sl.io :: List.replicate (N.length - (ds.length + 1)) none).length
      simp; omega
    · rcases initL_at h with ⟨d', e1, e2⟩ | ⟨_, e2⟩ | e2
      · cases e2
        obtain ⟨v, e3, r⟩ := hd.get e1
        exact ⟨v, stw i v e3, r⟩
      · cases e2
      · cases e2
    · rcases initL_at h with ⟨d', e1, e2⟩ | ⟨_, e2⟩ | e2 <;> cases e2
    · rcases initL_at h with ⟨d', e1, e2⟩ | ⟨_, e2⟩ | e2 <;> cases e2
    · cases h
      exact ⟨hio.1, by simp, hio.2⟩
    · rcases initL_at h with ⟨d', e1, e2⟩ | ⟨e1, e2⟩ | e2
      · cases e2
      · subst e1; exact ⟨a, rfl, sta⟩
      · cases e2
    · split at h
      · rename_i q; exact ⟨q.1, h⟩
      · cases h
  · rcases initL_at hj with ⟨d', e1, e2⟩ | ⟨_, e2⟩ | e2 <;> cases e2
  · rcases initL_at hj with ⟨d', e1, e2⟩ | ⟨_, e2⟩ | e2 <;> cases e2
theorem fn_okL {x qual : Str} {st : Stmt} {f : Addr} {fd : FuncData} {N ps : List Str} {k : Nat} {b : M Fl} (F : Fun K x qual st f fd) (S : FnScope N ps (defScope st)) (hps : ps.length ≤ N.length)
    (hb : ∀ (cdv : Value) (A : Around) (outer : List Env) (s : Shared) (H : Hp) (E : XK), Room k (A.deeper (envOfC qual (defScope st) s.heap.objs.size f cdv)) →
      SB (fun _ : Unit => (cxOf CX0 P w K mg base N qual (defScope st) f cdv A outer s H E).nox) K WW0 (defBody st) b) : FnOk P w K mg base CX0 (k + 1) f fd ps (spL K ps.length (runL N.length b)) := by
  refine F.ok S (fun vs H Q E h => ?_) (fun cdv A outer s H vs Q E hr h => ?_)
  · obtain ⟨G, a, ds, box, ws, _, _, _, hl, _⟩ := h
    exact hl
  · obtain ⟨G, io, ds, box, ws, sb, rfl, hd, hl, hio, hg⟩ := h
    obtain ⟨t, p, h⟩ := (hb cdv A outer s H E hr).ex
    refine ⟨t, p (), ?_⟩
    have w0 := start_wdL (N := N) (box := box) sb hd (by have : (ws ++ [V.ref io]).length = ps.length := hl; simp at this; omega) hio
    refine h (some io) _ G _ _ H _ w0 ?_
    unfold runL at hg
    have ext : ∀ {L G' H' σ s'}, (∀ b o, H b = some o → G b = none → some io ≠ some b → L b = some o) → Sub G G' → Wd K (some io) L G' σ s' H' → Ext K G H (some io) G' H' s'.box := fun {L G' H' σ s'} hL e w' =>
      ⟨e, w'.sub, fun b o h1 h2 h3 => w'.loose b o (hL b o h1 h2 h3), fun a ha => let ⟨g, _, q⟩ := w'.ios a ha; ⟨g, q⟩⟩
    have L0 : ∀ b o, H b = some o → G b = none → some io ≠ some b → (if G b = none ∧ some io ≠ some b then H b else none) = some o := fun b o h1 h2 h3 => by rw [if_pos ⟨h2, h3⟩]; exact h1
    cases e : b ⟨initL N.length ds, box⟩ with
    | stuck => rw [e] at hg; exact hg.elim
    | exc c d s' => rw [e] at hg; exact hg.elim
    | ok fl s' =>
      rw [e] at hg
      match fl, hg with
      | .nx, hg => exact fun σ' G' H' sb' w' => hg G' H' (ext L0 sb' w') _ .non
      | .rt (.val d), hg => exact fun v σ' G' H' sb' w' dp => hg G' H' (ext L0 sb' w') v dp
      | .rt (.new c), hg =>
        intro a o σ' G' H' sb' hL w' rc
        obtain ⟨hG', hH'⟩ := w'.loose a o upd_same
        have hioa : some io ≠ some a := fun q => by
          have z := (w'.ios a q).2.1
          rw [upd_same] at z; cases z
        have hG : G a = none := sb'.none hG'
        have hH : H a = none := by
          have hL : (if G a = none ∧ some io ≠ some a then H a else none) = none := hL
          rw [if_pos ⟨hG, hioa⟩] at hL
          exact hL
        exact hg G' H' (ext L0 sb' (w'.drop hL)) a o hH hG' hH' rc hioa
      | .bk, hg => exact hg.elim
      | .ct, hg => exact hg.elim
structure CalL (P : Program) (w : World) (K : PySem.W.Frag) (mg : Str → Option Value) (base : Heap) (x : Str) (ps : List Str) (lv : Nat) (g : Fn) : Prop where
  ex : ∃ f fd, FnOk P w K mg base CX0 lv f fd ps (spL K ps.length g) ∧ mg x = some (.ref f) ∧ PySem.W.keepIn K (.ref f) = true ∧ Binds K fd ps []
end

/-! ### calls -/
section
variable {ι : Type} {X : ι → Cx} {K : PySem.W.Frag} {E : WW} {e : Expr} {es : List Expr} {fs : List (M D)} {g : Fn}
structure SAL {ι : Type} (X : ι → Cx) (K : PySem.W.Frag) (E : WW) (es : List Expr) (i : Nat) (fs : List (M D)) : Prop where
  ex : ∃ t, (∀ z, PA (X z) es t) ∧ ∀ {β : Type} {F : Hp → Out β → Prop} {k : List D → M β} {io L G σ s H a} {Q : List V → Hp → Prop}, σ[i]? = some (some (V.ref a)) → FK K E io L σ F → Wd K io L G σ s H → F G (evs fs k s) →
    (∀ vs ds s' G' H', Sub G G' → Wd K io L G' σ s' H' → DqAll K G' vs ds → ds.length = fs.length → F G' (k ds s') → Q (vs ++ [.ref a]) H') → t σ H Q
theorem sal_one {i : Nat} {eb : Expr} (hb : ∀ z, PE (X z) eb (tVar i)) (hs : ∀ z, starEach [eb] (X z).env = [(false, eval eb (X z).env)] := by intro _; rfl) : SAL X K E [eb] i [] :=
  ⟨_, fun z => pa_cons (hb z) pa_nil (hs z), fun {β F k io L G σ s H a Q} ea fk w hf hq => ⟨_, ea, hq [] [] s G H (Sub.refl _) w .nil rfl hf⟩⟩
theorem sal_cons {i : Nat} {f : M D} (h1 : SV X K E e f) (h2 : SAL X K E es i fs) (hs : ∀ z, starEach (e :: es) (X z).env = (false, eval e (X z).env) :: starEach es (X z).env := by intro _; rfl) : SAL X K E (e :: es) i (f :: fs) := by
  obtain ⟨t, pe, h1⟩ := h1.use
  obtain ⟨u, pa, h2⟩ := h2.ex
  refine ⟨_, fun z => pa_cons (pe z) (pa z) (hs z), fun {β F k io L G σ s H a Q} ea fk w hf hq => ?_⟩
  refine h1 fk w hf fun v d s1 G1 H1 sb1 w1 dp f1 => ?_
  refine h2 ea fk w1 f1 fun vs ds s2 G2 H2 sb2 w2 rs hl f2 => ?_
  exact hq _ _ s2 G2 H2 (sb1.trans sb2) w2 (.cons (sb2.dp dp) rs) (congrArg Nat.succ hl) f2
theorem se_callL {i : Nat} {np : Nat} (ha : SAL X K E es i fs) (hl : fs.length + 1 = np)
    (hp : ∀ t, (∀ z, PA (X z) es t) → ∀ z, PE (X z) e (tCall (spL K np g) [] E0 t)) : SE X K E e (eCallB g i fs []) := by
  obtain ⟨t, pa, h⟩ := ha.ex
  refine ⟨_, hp _ pa, fun io L G σ s H Q w hf => ?_⟩
  unfold eCallB at hf
  split at hf
  · exact hf.elim
  · rename_i ds0 e0
    obtain ⟨a, xs0, e1, _⟩ := w.cell e0
    refine h e1 (fk_fin (Q := Q)) w hf fun vs ds s' G' H' sb w' rs hds f => ?_
    split at f
    · exact f.elim
    · rename_i bs ec
      obtain ⟨a', xs, e2, ga, la, hx, rx, _⟩ := w'.cell ec
      rw [e1] at e2; cases e2
      refine ⟨G', a, ds, bs, vs, w'.sub, by rw [List.append_nil], rs, ?_, ⟨ga, xs, hx, rx⟩, ?_⟩
      · rw [List.append_nil, List.length_append, rs.length, hds]; exact hl
      · rw [List.append_nil] at f
        cases eg : g ds bs with
        | stuck => rw [eg] at f; exact f.elim
        | exc _ _ _ => rw [eg] at f; exact f.elim
        | ok r bs' =>
          rw [eg] at f
          intro G2 H2 x
          exact ret_caller (w'.extBNew ec e1 x) x.g f
end
end L3

namespace L3
open PySem PySem.W PySem.Spec PyProof.Rows L2

/-! ### comprehensions over a list of one's own that goes on to be changed -/
def S.ownl (s : S) (j : Nat) : Option (List D) := match s.env[j]? with
  | some (some (Sl.own (C.lst ds))) => some ds
  | _ => none
theorem ownl_env {s : S} {j : Nat} {ds : List D} (h : s.ownl j = some ds) : s.env[j]? = some (some (Sl.own (C.lst ds))) := by
  unfold S.ownl at h
  split at h
  · rename_i e
    cases h
    exact e
  · cases h
open Classical in
noncomputable def compP (all : List D) (j : Nat) (g : D → S → Option S) (c : M Bool) (f : M D) (vs : List Nat) : List D → List D → M (List D)
  | [], acc => fun s => if s.ownl j = some all then .ok acc (s.wipe vs) else .stuck
  | d :: ds, acc => fun s => if s.ownl j = some all then (match g d (s.wipe vs) with
    | none => .stuck
    | some s1 => mbind c (fun b => if b then mbind f fun x => if acc.length < sizeLine then compP all j g c f vs ds (acc ++ [x]) else mstuck else compP all j g c f vs ds acc) s1) else .stuck
/-- [f for g in name if c], the name's list its own -/
noncomputable def eCompP (j : Nat) (vs : List Nat) (g : D → S → Option S) (c : M Bool) (f : M D) : M R := fun s0 => match s0.ownl j with
  | none => .stuck
  | some all => if s0.clean vs && !vs.contains j then (match compP all j g c f vs all [] s0 with
    | .ok acc s => .ok (.new (.lst acc)) (s.back s0 vs)
    | _ => .stuck) else .stuck
section
variable {ι : Type} {X : ι → Cx} {K : PySem.W.Frag} {E : WW}
open Classical in
theorem compP_ex {j : Nat} {elt tg iter : Expr} {ifs : List Expr} {scope : Scope} {own : List (Str × Nat)} {is : List Nat} {g : D → S → Option S} {c : M Bool} {f : M D} (hK : ∀ z, (X z).K = K) (hv : ∀ z, PE (X z) iter (tVar j))
    (hg : SG (blkX X scope) K tg is g) (his : ∀ j ∈ is, j ∈ own.map (·.2)) (ht : STs (blkX X scope) K WW0 ifs c) (he : SV (blkX X scope) K WW0 elt f) :
    ∃ wi tgt tt te, (∀ z, PI (X z) tg iter wi) ∧ (∀ z, PG (blkX X scope z) tg tgt) ∧ (∀ z, PTs (blkX X scope z) ifs tt) ∧ (∀ z, PE (blkX X scope z) elt te) ∧
      ∀ io L G σ s H Q, Wd K io L G σ s H → Fin K E io L σ G Q (eCompP j (own.map (·.2)) g c f s) → tLc wi tgt tt te (own.map (·.2)) σ H Q := by
  obtain ⟨tgt, pg, hg⟩ := hg.ex
  obtain ⟨tt, pt, ht⟩ := ht.use
  obtain ⟨te, pe, he⟩ := he.use
  refine ⟨_, tgt, tt, te, fun z => hK z ▸ pi_seq (hv z), pg, pt, pe, fun io L G0 σ s0 H0 Q w0 hf => ?_⟩
  generalize own.map (·.2) = vs at his hf ⊢
  unfold eCompP at hf
  split at hf
  · exact hf.elim
  rename_i ds hown
  split at hf
  rename_i hcl
  · rw [Bool.and_eq_true] at hcl
    obtain ⟨hcl, hjv⟩ := hcl
    have hjv : j ∉ vs := by simpa using hjv
    obtain ⟨a, o, ea, _, hao, rc, _, _⟩ := w0.owns j _ (ownl_env hown)
    have live : ∀ {G : Hp} {L' : Hp} {s : S} {H : Hp}, Wd K io L' G (L2.wipe σ vs) (S.wipe s vs) H → s.ownl j = some ds → ∃ us, H a = some (.lst us) ∧ DqAll K G us ds := fun {G L' s H} w h => by
      have h1 : (S.wipe s vs).env[j]? = some (some (Sl.own (C.lst ds))) := (wipeE_at hjv).trans (ownl_env h)
      obtain ⟨a', o', e', _, ho', rc', _, _⟩ := w.owns j _ h1
      rw [wipe_at hjv, ea] at e'
      cases e'
      cases rc' with
      | lst r => exact ⟨_, ho', r⟩
    have f0 : CEnd K E io L σ vs s0 Q G0 (compP ds j g c f vs ds [] s0) := by
      cases e : compP ds j g c f vs ds [] s0 with
      | stuck => rw [e] at hf; exact hf.elim
      | exc _ _ _ => rw [e] at hf; exact hf.elim
      | ok acc s => rw [e] at hf; exact hf
    cases rc with
    | lst rc0 =>
    refine ⟨_, ea, a, rfl, .inl ⟨_, SqL.of hao, ?_⟩⟩
    intro Da hD
    have hL : L Da = none := (w0.fresh (o := .lst []) hD).1
    refine ⟨fun i m H => m = ds.length - i ∧ i ≤ ds.length ∧ ∃ s G acc xs, Sub G0 G ∧ Wd K io (upd L Da (.lst xs)) G (L2.wipe σ vs) (S.wipe s vs) H ∧ DqAll K G xs acc ∧ CEnd K E io L σ vs s0 Q G (compP ds j g c f vs (ds.drop i) acc s), ⟨ds.length, by simp, Nat.zero_le _, s0, G0, [], [], Sub.refl _, Wd.wipe (w0.fresh hD).2, .nil, f0⟩, ?_⟩
    rintro i m H ⟨rfl, hil, s, G, acc, xs, sb, w, ra, fe⟩
    have hHD : H Da = some (.lst xs) := (w.loose Da _ upd_same).2
    by_cases hlt : i < ds.length
    · have ed : ds.drop i = ds[i] :: ds.drop (i + 1) := List.drop_eq_getElem_cons hlt
      rw [ed] at fe
      have fe : CEnd K E io L σ vs s0 Q G (if s.ownl j = some ds then (match g ds[i] (s.wipe vs) with
        | none => .stuck
        | some s1 => mbind c (fun b => if b then mbind f fun x => if acc.length < sizeLine then compP ds j g c f vs (ds.drop (i + 1)) (acc ++ [x]) else mstuck else compP ds j g c f vs (ds.drop (i + 1)) acc) s1) else .stuck) := fe
      split at fe
      rotate_left
      · exact fe.elim
      rename_i hst
      obtain ⟨us, hus, rus⟩ := live w hst
      have hx : i < us.length := by rw [rus.length]; exact hlt
      refine .inr ⟨⟨us, us[i], SqL.of hus, List.getElem?_eq_getElem hx⟩, fun H => i + 1 ≤ ds.length ∧ ∃ s G acc xs, Sub G0 G ∧ Wd K io (upd L Da (.lst xs)) G (L2.wipe σ vs) (S.wipe s vs) H ∧ DqAll K G xs acc ∧ CEnd K E io L σ vs s0 Q G (compP ds j g c f vs (ds.drop (i + 1)) acc s), fun H' h => ⟨ds.length - (i + 1), by omega, rfl, h⟩, fun x H' y => ?_⟩
      obtain ⟨rfl, y⟩ := y
      obtain ⟨d, e, dp⟩ := rus.get' (y us (SqL.of hus))
      have ede : ds[i] = d := by
        rw [List.getElem?_eq_getElem hlt] at e
        exact Option.some.inj e
      rw [ede] at fe
      cases eg : g d (s.wipe vs) with
      | none => rw [eg] at fe; exact fe.elim
      | some s1 =>
        rw [eg] at fe
        refine hg w dp eg fun σ2 hσ hl w3 => ?_
        have ew : L2.wipe σ2 vs = L2.wipe σ vs := by
          apply List.ext_getElem?
          intro j
          by_cases hj : j ∈ vs
          · have q : ∀ (τ : L2.St), τ.length = σ.length → (L2.wipe τ vs)[j]? = if j < σ.length then some none else none := fun τ hτ => by
              by_cases hlt : j < σ.length
              · rw [if_pos hlt]; exact wipe_in hj (by omega)
              · rw [if_neg hlt, List.getElem?_eq_none (by rw [wipe_len]; omega)]
            rw [q σ2 (by rw [hl, wipe_len]), q σ rfl]
          · rw [wipe_at hj, wipe_at hj, hσ j (fun z => hj (his j z)), wipe_at hj]
        refine ⟨ew, ?_⟩
        refine ht (cend_fk (E := E) (L := L) (σ := σ) (vs := vs) (s0 := s0) (Q := Q)) w3 fe fun b s4 G4 H4 sb4 w4 f4 => ?_
        cases b with
        | false =>
          refine iteF ⟨hlt, s4, G4, acc, xs, sb.trans sb4, ?_, sb4.dpAll ra, f4⟩
          rw [← ew]; exact Wd.wipe w4
        | true =>
          refine iteT (he (cend_fk (E := E) (L := L) (σ := σ) (vs := vs) (s0 := s0) (Q := Q)) w4 f4 fun v x s5 G5 H5 sb5 w5 dp5 f5 => ?_)
          split at f5
          · rename_i hsz
            have ra5 := (sb4.trans sb5).dpAll ra
            refine ⟨xs, (w5.loose Da _ upd_same).2, by rw [ra5.length]; exact hsz, hlt, s5, G5, acc ++ [x], xs ++ [v], sb.trans (sb4.trans sb5), ?_, ra5.append (.cons dp5 .nil), f5⟩
            rw [← ew]; exact Wd.wipe (w5.writeL hL)
          · exact f5.elim
    · have e : i = ds.length := by omega
      subst e
      rw [List.drop_length] at fe
      have fe : CEnd K E io L σ vs s0 Q G (if s.ownl j = some ds then .ok acc (s.wipe vs) else .stuck) := fe
      split at fe
      rotate_left
      · exact fe.elim
      rename_i hst
      obtain ⟨us, hus, rus⟩ := live w hst
      refine .inl ⟨⟨us, SqL.of hus, by rw [rus.length]; exact Nat.le_refl _⟩, ?_⟩
      have fe : Fin K E io L σ G Q (.ok (.new (.lst acc)) ((s.wipe vs).back s0 vs)) := fe
      have wb := Wd.backs (vs := vs) (w0.fresh (o := .lst xs) hD).2 (sb) w hcl
      rw [backS_wipe] at wb
      exact fe Da _ G H (Sub.refl _) hL wb (.lst ra)
  · exact hf.elim
theorem se_compP {j : Nat} {elt tg iter : Expr} {ifs : List Expr} {scope : Scope} {own : List (Str × Nat)} {pos : Pos} {is : List Nat} {g : D → S → Option S} {c : M Bool} {f : M D} (hc : ∀ z, (X z).calm = true) (hN : ∀ z, (X z).N.Nodup) (hK : ∀ z, (X z).K = K) (hv : ∀ z, PE (X z) iter (tVar j))
    (ok : ∀ z, BlkOk (X z).N (X z).env.scope scope own) (hg : SG (blkX X scope) K tg is g) (his : ∀ j ∈ is, j ∈ own.map (·.2)) (ht : STs (blkX X scope) K WW0 ifs c) (he : SV (blkX X scope) K WW0 elt f)
    (hs : ∀ z x, foldedSetIterable iter (X z).env x = pure x := by intro _ _; rfl) :
    SE X K E (.ListComp elt [⟨tg, iter, ifs, 0⟩] scope pos) (eCompP j (own.map (·.2)) g c f) := by
  obtain ⟨wi, tgt, tt, te, pi, pg, pt, pe, h⟩ := compP_ex (j := j) hK hv hg his ht he
  exact ⟨_, fun z => pe_lc (hc z) (hN z) (pi z) (ok z) (fun s H C cl fp => pg (z, s, H, C, cl, fp)) (fun s H C cl fp => pt (z, s, H, C, cl, fp)) (fun s H C cl fp => pe (z, s, H, C, cl, fp)) (hs z), h⟩
end
end L3

namespace L3
open PySem PySem.W PySem.Spec PyProof.Rows L2

/-! ### what a run ends in -/
def Wp {α : Type} (o : Out α) (Q : α → S → Prop) : Prop := match o with
  | .ok a s => Q a s
  | _ => False
def WpF (r : Res) (Q : R → List D → Prop) : Prop := match r with
  | .ok a b => Q a b
  | _ => False
theorem Wp.mono {α : Type} {o : Out α} {Q Q' : α → S → Prop} (h : Wp o Q) (hq : ∀ a s, Q a s → Q' a s) : Wp o Q' := by
  cases o with
  | ok a s => exact hq a s h
  | stuck => exact h
  | exc _ _ _ => exact h
theorem WpF.mono {o : Res} {Q Q' : R → List D → Prop} (h : WpF o Q) (hq : ∀ a s, Q a s → Q' a s) : WpF o Q' := by
  cases o with
  | ok a s => exact hq a s h
  | stuck => exact h
  | exc _ _ _ => exact h
theorem WpF.eq {o : Res} {r : R} {b : List D} (h : WpF o fun x y => x = r ∧ y = b) : o = .ok r b := by
  cases o with
  | ok a s => obtain ⟨rfl, rfl⟩ := h; rfl
  | stuck => exact h.elim
  | exc _ _ _ => exact h.elim
section
variable {α β : Type} {Q : α → S → Prop} {s : S}
def asV (Q : D → S → Prop) : R → S → Prop := fun r s => match r with
  | .val d => Q d s
  | .new (.lst ds) => Q (.list ds) s
  | .new (.dct _) => False
@[simp ↓] theorem asV_val {Q : D → S → Prop} {d : D} : asV Q (.val d) s = Q d s := rfl
@[simp ↓] theorem asV_lst {Q : D → S → Prop} {ds : List D} : asV Q (.new (.lst ds)) s = Q (.list ds) s := rfl
def goS (g : M Fl) (Q : Fl → S → Prop) : Fl → S → Prop := fun fl s => match fl with
  | .nx => Wp (g s) Q
  | .rt r => Q (.rt r) s
  | .bk => Q .bk s
  | .ct => Q .ct s
@[simp ↓] theorem goS_nx {g : M Fl} {Q : Fl → S → Prop} : goS g Q .nx s = Wp (g s) Q := rfl
@[simp ↓] theorem goS_rt {g : M Fl} {Q : Fl → S → Prop} {r : R} : goS g Q (.rt r) s = Q (.rt r) s := rfl
@[simp ↓] theorem goS_bk {g : M Fl} {Q : Fl → S → Prop} : goS g Q .bk s = Q .bk s := rfl
@[simp ↓] theorem goS_ct {g : M Fl} {Q : Fl → S → Prop} : goS g Q .ct s = Q .ct s := rfl
@[simp ↓] theorem wp_ok {a : α} : Wp (.ok a s) Q = Q a s := rfl
@[simp ↓] theorem wp_mret {a : α} : Wp (mret a s) Q = Q a s := rfl
@[simp ↓] theorem wp_mstuck : Wp ((mstuck : M α) s) Q = False := rfl
@[simp ↓] theorem wp_stuck : Wp (.stuck : Out α) Q = False := rfl
@[simp ↓] theorem wp_mbind {m : M α} {f : α → M β} {Q : β → S → Prop} : Wp (mbind m f s) Q = Wp (m s) fun a s' => Wp (f a s') Q := by
  unfold mbind
  cases m s <;> rfl
theorem wp_ite {c : Prop} [Decidable c] {a b : Out α} : Wp (if c then a else b) Q = if c then Wp a Q else Wp b Q := by split <;> rfl
@[simp ↓] theorem wp_frz {f : M R} {Q : D → S → Prop} : Wp (frz f s) Q = Wp (f s) (asV Q) := by
  unfold frz mbind
  cases e : f s with
  | ok r s' => match r with
    | .val d => rfl
    | .new (.lst ds) => rfl
    | .new (.dct _) => rfl
  | stuck => rfl
  | exc _ _ _ => rfl
@[simp ↓] theorem wp_val {f : M D} {Q : R → S → Prop} : Wp (val f s) Q = Wp (f s) fun d s' => Q (.val d) s' := wp_mbind
@[simp ↓] theorem wp_sNil {Q : Fl → S → Prop} : Wp (sNil s) Q = Q .nx s := rfl
@[simp ↓] theorem wp_sSeq {f g : M Fl} {Q : Fl → S → Prop} : Wp (sSeq f g s) Q = Wp (f s) (goS g Q) := by
  unfold sSeq mbind
  cases e : f s with
  | ok r s' => match r with
    | .nx => rfl
    | .bk => rfl
    | .ct => rfl
    | .rt _ => rfl
  | stuck => rfl
  | exc _ _ _ => rfl
@[simp ↓] theorem wp_sSet {i : Nat} {f : M R} {Q : Fl → S → Prop} : Wp (sSet i f s) Q = Wp (f s) fun r s' => Q .nx (s'.put i r) := wp_mbind
@[simp ↓] theorem wp_sRet {f : M R} {Q : Fl → S → Prop} : Wp (sRet f s) Q = Wp (f s) fun r s' => Q (.rt r) s' := wp_mbind
@[simp ↓] theorem wp_sRetN {Q : Fl → S → Prop} : Wp (sRetN s) Q = Q (.rt (.val .none)) s := rfl
@[simp ↓] theorem wp_sDrop {f : M R} {Q : Fl → S → Prop} : Wp (sDrop f s) Q = Wp (f s) fun r s' => Q .nx s' := wp_mbind
theorem wp_if {c : M Bool} {a b : M α} : Wp (mbind c (fun x => if x then a else b) s) Q = Wp (c s) fun x s' => (x = true → Wp (a s') Q) ∧ (x = false → Wp (b s') Q) := by
  rw [wp_mbind]
  congr 1
  funext x s'
  cases x <;> simp
@[simp ↓] theorem wp_sIf {c : M Bool} {a b : M Fl} {Q : Fl → S → Prop} : Wp (sIf c a b s) Q = Wp (c s) fun x s' => (x = true → Wp (a s') Q) ∧ (x = false → Wp (b s') Q) := wp_if
@[simp ↓] theorem wp_eIf {c : M Bool} {a b : M α} : Wp (eIf c a b s) Q = Wp (c s) fun x s' => (x = true → Wp (a s') Q) ∧ (x = false → Wp (b s') Q) := wp_if
@[simp ↓] theorem wp_tAnd {a b : M Bool} {Q : Bool → S → Prop} : Wp (tAnd a b s) Q = Wp (a s) fun x s' => (x = true → Wp (b s') Q) ∧ (x = false → Q false s') := wp_if
@[simp ↓] theorem wp_tOr {a b : M Bool} {Q : Bool → S → Prop} : Wp (tOr a b s) Q = Wp (a s) fun x s' => (x = true → Q true s') ∧ (x = false → Wp (b s') Q) := wp_if
@[simp ↓] theorem wp_tNot {a : M Bool} {Q : Bool → S → Prop} : Wp (tNot a s) Q = Wp (a s) fun x s' => Q (!x) s' := wp_mbind
def asB (Q : Bool → S → Prop) : D → S → Prop := fun d s => match d with
  | .bool b => Q b s
  | _ => False
@[simp ↓] theorem asB_bool {Q : Bool → S → Prop} {b : Bool} : asB Q (.bool b) s = Q b s := rfl
@[simp ↓] theorem wp_tB {f : M D} {Q : Bool → S → Prop} : Wp (tB f s) Q = Wp (f s) (asB Q) := by
  unfold tB mbind
  cases e : f s with
  | ok r s' => cases r <;> rfl
  | stuck => rfl
  | exc _ _ _ => rfl
@[simp ↓] theorem wp_ofB {f : M Bool} {Q : R → S → Prop} : Wp (ofB f s) Q = Wp (f s) fun b s' => Q (.val (.bool b)) s' := wp_mbind
@[simp ↓] theorem wp_vAnd {a : M D} {b : M R} {Q : R → S → Prop} : Wp (vAnd a b s) Q = Wp (tB a s) fun x s' => (x = true → Wp (b s') Q) ∧ (x = false → Q (.val (.bool false)) s') := wp_if
@[simp ↓] theorem wp_vOr {a : M D} {b : M R} {Q : R → S → Prop} : Wp (vOr a b s) Q = Wp (tB a s) fun x s' => (x = true → Q (.val (.bool true)) s') ∧ (x = false → Wp (b s') Q) := wp_if
@[simp ↓] theorem wp_vNot {a : M D} {Q : R → S → Prop} : Wp (vNot a s) Q = Wp (tB a s) fun x s' => Q (.val (.bool !x)) s' := wp_mbind
@[simp ↓] theorem wp_eC {d : D} {Q : R → S → Prop} : Wp (eC d s) Q = Q (.val d) s := rfl
@[simp ↓] theorem wp_eNewD {Q : R → S → Prop} : Wp (eNewD s) Q = Q (.new (.dct [])) s := rfl

/-! states as they stand -/
variable {env : List (Option Sl)} {box : List D}
def topV (i j : Nat) (env : List (Option Sl)) (box : List D) (Q : R → S → Prop) : Option (Option Sl) → Prop
  | some (some (Sl.stk ((ds, some l) :: rest))) => Q (.val (.list l)) ⟨((clrE env).set j (some (Sl.stk ((ds, none) :: rest)))).set i (some (Sl.val (.list l))), box⟩
  | _ => False
@[simp ↓] theorem topV_stk {i j : Nat} {Q : R → S → Prop} {ds l : List D} {rest : List Row} : topV i j env box Q (some (some (Sl.stk ((ds, some l) :: rest)))) = Q (.val (.list l)) ⟨((clrE env).set j (some (Sl.stk ((ds, none) :: rest)))).set i (some (Sl.val (.list l))), box⟩ := rfl
def varV (i : Nat) (env : List (Option Sl)) (box : List D) (Q : R → S → Prop) : Option (Option Sl) → Prop
  | some (some (.val d)) => Q (.val d) ⟨env, box⟩
  | some (some (.own (.lst ds))) => Q (.val (.list ds)) ⟨env.set i (some (.val (.list ds))), box⟩
  | some (some (.top j)) => topV i j env box Q env[j]?
  | _ => False
def movV (i : Nat) (env : List (Option Sl)) (box : List D) (Q : R → S → Prop) : Option (Option Sl) → Prop
  | some (some (.val d)) => Q (.val d) ⟨env, box⟩
  | some (some (.own c)) => Q (.new c) ⟨env.set i none, box⟩
  | _ => False
@[simp ↓] theorem varV_val {i : Nat} {Q : R → S → Prop} {d : D} : varV i env box Q (some (some (.val d))) = Q (.val d) ⟨env, box⟩ := rfl
@[simp ↓] theorem varV_own {i : Nat} {Q : R → S → Prop} {ds : List D} : varV i env box Q (some (some (.own (.lst ds)))) = Q (.val (.list ds)) ⟨env.set i (some (.val (.list ds))), box⟩ := rfl
@[simp ↓] theorem varV_top {i j : Nat} {Q : R → S → Prop} : varV i env box Q (some (some (.top j))) = topV i j env box Q env[j]? := rfl
@[simp] theorem clrE_nil : clrE [] = [] := rfl
@[simp] theorem clrE_none {e : List (Option Sl)} : clrE (none :: e) = none :: clrE e := rfl
@[simp] theorem clrE_val {d : D} {e : List (Option Sl)} : clrE (some (.val d) :: e) = some (.val d) :: clrE e := rfl
@[simp] theorem clrE_own {c : C} {e : List (Option Sl)} : clrE (some (.own c) :: e) = some (.own c) :: clrE e := rfl
@[simp] theorem clrE_io {e : List (Option Sl)} : clrE (some .io :: e) = some .io :: clrE e := rfl
@[simp] theorem clrE_stk {r : List Row} {e : List (Option Sl)} : clrE (some (.stk r) :: e) = some (.stk r) :: clrE e := rfl
@[simp] theorem clrE_top {j : Nat} {e : List (Option Sl)} : clrE (some (.top j) :: e) = none :: clrE e := rfl
@[simp ↓] theorem movV_val {i : Nat} {Q : R → S → Prop} {d : D} : movV i env box Q (some (some (.val d))) = Q (.val d) ⟨env, box⟩ := rfl
@[simp ↓] theorem movV_own {i : Nat} {Q : R → S → Prop} {c : C} : movV i env box Q (some (some (.own c))) = Q (.new c) ⟨env.set i none, box⟩ := rfl
@[simp] theorem wp_eVar {i : Nat} {Q : R → S → Prop} : Wp (eVar i ⟨env, box⟩) Q = varV i env box Q env[i]? := by
  unfold eVar
  dsimp only
  generalize env[i]? = o
  match o with
  | none => rfl
  | some none => rfl
  | some (some .io) => rfl
  | some (some (.val d)) => rfl
  | some (some (.own (.lst _))) => rfl
  | some (some (.own (.dct _))) => rfl
  | some (some (.stk _)) => rfl
  | some (some (.top j)) =>
    dsimp only [varV]
    generalize env[j]? = u
    match u with
    | none => rfl
    | some none => rfl
    | some (some .io) => rfl
    | some (some (.val d)) => rfl
    | some (some (.own _)) => rfl
    | some (some (.top j)) => rfl
    | some (some (.stk [])) => rfl
    | some (some (.stk ((ds, none) :: rest))) => rfl
    | some (some (.stk ((ds, some l) :: rest))) => rfl
@[simp] theorem wp_eMove {i : Nat} {Q : R → S → Prop} : Wp (eMove i ⟨env, box⟩) Q = movV i env box Q env[i]? := by
  unfold eMove
  dsimp only
  generalize env[i]? = o
  match o with
  | none => rfl
  | some none => rfl
  | some (some .io) => rfl
  | some (some (.val d)) => rfl
  | some (some (.own _)) => rfl
  | some (some (.stk _)) => rfl
  | some (some (.top _)) => rfl
@[simp] theorem setv_mk {i : Nat} {d : D} : S.setv ⟨env, box⟩ i d = ⟨env.set i (some (.val d)), box⟩ := rfl
@[simp] theorem seto_mk {i : Nat} {c : C} : S.seto ⟨env, box⟩ i c = ⟨env.set i (some (.own c)), box⟩ := rfl
@[simp] theorem drop_mk {i : Nat} : S.drop ⟨env, box⟩ i = ⟨env.set i none, box⟩ := rfl
@[simp] theorem put_val {i : Nat} {d : D} : S.put ⟨env, box⟩ i (.val d) = ⟨env.set i (some (.val d)), box⟩ := rfl
@[simp] theorem put_new {i : Nat} {c : C} : S.put ⟨env, box⟩ i (.new c) = ⟨env.set i (some (.own c)), box⟩ := rfl
def topP : Option (Option Sl) → Option D
  | some (some (Sl.stk ((_, some l) :: _))) => some (.list l)
  | _ => none
@[simp] theorem topP_stk {ds l : List D} {r : List Row} : topP (some (some (.stk ((ds, some l) :: r)))) = some (.list l) := rfl
def slP (env : List (Option Sl)) (box : List D) : Option (Option Sl) → Option D
  | some (some (Sl.val d)) => some d
  | some (some (Sl.own (C.lst ds))) => some (.list ds)
  | some (some Sl.io) => some (.list box)
  | some (some (Sl.top j)) => topP env[j]?
  | _ => none
@[simp] theorem slP_val {d : D} : slP env box (some (some (.val d))) = some d := rfl
@[simp] theorem slP_own {ds : List D} : slP env box (some (some (.own (.lst ds)))) = some (.list ds) := rfl
@[simp] theorem slP_io : slP env box (some (some .io)) = some (.list box) := rfl
@[simp] theorem slP_top {j : Nat} : slP env box (some (some (.top j))) = topP env[j]? := rfl
@[simp] theorem peek_mk {i : Nat} : S.peek ⟨env, box⟩ i = slP env box env[i]? := by
  unfold S.peek
  dsimp only
  generalize env[i]? = o
  match o with
  | none => rfl
  | some none => rfl
  | some (some .io) => rfl
  | some (some (.val d)) => rfl
  | some (some (.own (.lst _))) => rfl
  | some (some (.own (.dct _))) => rfl
  | some (some (.stk _)) => rfl
  | some (some (.top j)) =>
    dsimp only [slP]
    generalize env[j]? = u
    match u with
    | none => rfl
    | some none => rfl
    | some (some .io) => rfl
    | some (some (.val d)) => rfl
    | some (some (.own _)) => rfl
    | some (some (.top j)) => rfl
    | some (some (.stk [])) => rfl
    | some (some (.stk ((ds, none) :: rest))) => rfl
    | some (some (.stk ((ds, some l) :: rest))) => rfl
def slC (box : List D) : Option (Option Sl) → Option (List D)
  | some (some (Sl.own (C.lst ds))) => some ds
  | some (some Sl.io) => some box
  | _ => none
@[simp] theorem slC_own {ds : List D} : slC box (some (some (.own (.lst ds)))) = some ds := rfl
@[simp] theorem slC_io : slC box (some (some .io)) = some box := rfl
@[simp] theorem cell_mk {i : Nat} : S.cell ⟨env, box⟩ i = slC box env[i]? := rfl
def putE (env : List (Option Sl)) (box : List D) (i : Nat) (ds : List D) : Option (Option Sl) → S
  | some (some Sl.io) => ⟨env, ds⟩
  | _ => ⟨env.set i (some (.own (.lst ds))), box⟩
@[simp] theorem putE_own {i : Nat} {ds : List D} {c : C} : putE env box i ds (some (some (.own c))) = ⟨env.set i (some (.own (.lst ds))), box⟩ := rfl
@[simp] theorem putE_io {i : Nat} {ds : List D} : putE env box i ds (some (some .io)) = ⟨env, ds⟩ := rfl
@[simp] theorem putc_mk {i : Nat} {ds : List D} : S.putc ⟨env, box⟩ i ds = putE env box i ds env[i]? := by
  unfold S.putc putE
  show (match env[i]? with | some (some Sl.io) => _ | _ => _) = _
  match env[i]? with
  | none => rfl
  | some none => rfl
  | some (some .io) => rfl
  | some (some (.val d)) => rfl
  | some (some (.own _)) => rfl
  | some (some (.stk _)) => rfl
  | some (some (.top _)) => rfl
def slD : Option (Option Sl) → Option (List (Key × D))
  | some (some (Sl.own (C.dct kds))) => some kds
  | _ => none
@[simp] theorem slD_own {kds : List (Key × D)} : slD (some (some (.own (.dct kds)))) = some kds := rfl
@[simp] theorem dct_mk {i : Nat} : S.dct ⟨env, box⟩ i = slD env[i]? := rfl

/-! operands -/
def opV (o : Option D) (P : D → Prop) : Prop := match o with
  | some x => P x
  | none => False
@[simp ↓] theorem opV_some {P : D → Prop} {x : D} : opV (some x) P = P x := rfl
/-- the value that an operand is worth in the end -/
@[simp ↓] theorem wp_rsv_var {i : Nat} {k : D → M α} : Wp (rsv (.var i) k s) Q = opV (s.peek i) fun x => Wp (k x s) Q := by
  show Wp (match s.peek i with | some x => k x s | none => .stuck) Q = _
  cases s.peek i <;> rfl
@[simp ↓] theorem wp_rsv_d {x : D} {k : D → M α} : Wp (rsv (.d x) k s) Q = Wp (k x s) Q := rfl
@[simp ↓] theorem wp_opS_var {i : Nat} {k : Hd → M α} : Wp (opS (.var i) k s) Q = opV (s.peek i) fun _ => Wp (k (.var i) s) Q := by
  show Wp (match s.peek i with | some _ => k (.var i) s | none => .stuck) Q = _
  cases s.peek i <;> rfl
@[simp ↓] theorem wp_opS_ex {f : M D} {k : Hd → M α} : Wp (opS (.ex f) k s) Q = Wp (f s) fun x s' => Wp (k (.d x) s') Q := wp_mbind
@[simp ↓] theorem wp_ops_nil {k : List D → M α} : Wp (ops [] k s) Q = Wp (k [] s) Q := rfl
@[simp ↓] theorem wp_ops_cons {o : Opd} {os : List Opd} {k : List D → M α} : Wp (ops (o :: os) k s) Q = Wp (opS o (fun h => ops os fun ds => rsv h fun x => k (x :: ds)) s) Q := rfl
@[simp ↓] theorem wp_evs_nil {k : List D → M α} : Wp (evs [] k s) Q = Wp (k [] s) Q := rfl
@[simp ↓] theorem wp_evs_cons {f : M D} {fs : List (M D)} {k : List D → M α} : Wp (evs (f :: fs) k s) Q = Wp (f s) fun x s' => Wp (evs fs (fun xs => k (x :: xs)) s') Q := wp_mbind
@[simp ↓] theorem wp_evr_nil {k : List R → M α} : Wp (evr [] k s) Q = Wp (k [] s) Q := rfl
@[simp ↓] theorem wp_evr_cons {f : M R} {fs : List (M R)} {k : List R → M α} : Wp (evr (f :: fs) k s) Q = Wp (f s) fun x s' => Wp (evr fs (fun xs => k (x :: xs)) s') Q := wp_mbind
def poV (o : Option PO) (P : R → Prop) : Prop := match o with
  | some x => P x.r
  | none => False
@[simp ↓] theorem poV_some {P : R → Prop} {x : PO} : poV (some x) P = P x.r := rfl
@[simp ↓] theorem wp_mpo {o : Option PO} {Q : R → S → Prop} : Wp (mpo o s) Q = poV o fun r => Q r s := by cases o <;> rfl
@[simp] theorem r_d {x : D} : PO.r (.d x) = .val x := rfl
@[simp] theorem r_l {x : List D} : PO.r (.l x) = .new (.lst x) := rfl
@[simp] theorem r_t {x : List D} : PO.r (.t x) = .val (.tuple x) := rfl
@[simp ↓] theorem wp_eP {os : List Opd} {p : List D → Option PO} {Q : R → S → Prop} : Wp (eP os p s) Q = Wp (ops os (fun ds => mpo (p ds)) s) Q := rfl
@[simp ↓] theorem wp_e2 {a b : Opd} {p : D → D → Option PO} {Q : R → S → Prop} : Wp (e2 a b p s) Q = Wp (opS a (fun h => opS b fun g => rsv h fun x => rsv g fun y => mpo (p x y)) s) Q := rfl
@[simp ↓] theorem wp_e1 {a : Opd} {p : D → Option PO} {Q : R → S → Prop} : Wp (e1 a p s) Q = Wp (opS a (fun h => rsv h fun x => mpo (p x)) s) Q := rfl
def boV (o : Option Bool) (P : Bool → Prop) : Prop := match o with
  | some x => P x
  | none => False
@[simp ↓] theorem boV_some {P : Bool → Prop} {x : Bool} : boV (some x) P = P x := rfl
@[simp ↓] theorem wp_t2 {a b : Opd} {p : D → D → Option Bool} {Q : Bool → S → Prop} : Wp (t2 a b p s) Q = Wp (opS a (fun h => opS b fun g => rsv h fun x => rsv g fun y => match p x y with | some c => mret c | none => mstuck) s) Q := rfl
@[simp ↓] theorem wp_bo {o : Option Bool} {Q : Bool → S → Prop} : Wp ((match o with | some c => mret c | none => mstuck : M Bool) s) Q = boV o fun b => Q b s := by cases o <;> rfl
@[simp ↓] theorem wp_eTup {fs : List (M D)} {Q : R → S → Prop} : Wp (eTup fs s) Q = Wp (evs fs (fun ds => if ds.length ≤ sizeLine then mret (.val (.tuple ds)) else mstuck) s) Q := rfl
@[simp ↓] theorem wp_eLst {fs : List (M D)} {Q : R → S → Prop} : Wp (eLst fs s) Q = Wp (evs fs (fun ds => if ds.length ≤ sizeLine then mret (.new (.lst ds)) else mstuck) s) Q := rfl
@[simp ↓] theorem wp_iteM {c : Prop} [Decidable c] {a b : M α} : Wp ((if c then a else b) s) Q = if c then Wp (a s) Q else Wp (b s) Q := by split <;> rfl
end
/-! ### defs -/
def fnE (Q : R → List D → Prop) : Fl → S → Prop := fun fl s => match fl with
  | .rt r => Q r s.box
  | .nx => Q (.val .none) s.box
  | _ => False
@[simp ↓] theorem fnE_rt {Q : R → List D → Prop} {r : R} {s : S} : fnE Q (.rt r) s = Q r s.box := rfl
@[simp ↓] theorem fnE_nx {Q : R → List D → Prop} {s : S} : fnE Q .nx s = Q (.val .none) s.box := rfl
theorem wpF_runF {bx : Bool} {n : Nat} {b : M Fl} {ds box : List D} {Q : R → List D → Prop} : WpF (runF bx n b ds box) Q = Wp (b ⟨initE bx n ds, box⟩) (fnE Q) := by
  unfold runF
  cases b ⟨initE bx n ds, box⟩ with
  | stuck => rfl
  | exc _ _ _ => rfl
  | ok fl s => cases fl <;> rfl
@[simp] theorem initE_t {n : Nat} {ds : List D} : initE true n ds = some Sl.io :: ((ds.map fun d => some (Sl.val d)) ++ List.replicate (n - (ds.length + 1)) none) := rfl
@[simp] theorem initE_f {n : Nat} {ds : List D} : initE false n ds = (ds.map fun d => some (Sl.val d)) ++ List.replicate (n - ds.length) none := rfl
end L3

namespace L3
open PySem PySem.W PySem.Spec PyProof.Rows L2
section
variable {α β : Type} {Q : α → S → Prop} {s : S} {env : List (Option Sl)} {box : List D}
/-! ### calls -/
@[simp ↓] theorem wpF_ok {r : R} {b : List D} {Q : R → List D → Prop} : WpF (.ok r b) Q = Q r b := rfl
def kC (g : Fn) (dd : List D) (ds : List D) : M R := fun s => match g (ds ++ dd) [] with
  | .ok r _ => .ok r s
  | _ => .stuck
@[simp ↓] theorem wp_eCall {g : Fn} {fs : List (M D)} {dd : List D} {Q : R → S → Prop} : Wp (eCall g fs dd s) Q = Wp (evs fs (kC g dd) s) Q := rfl
@[simp ↓] theorem wp_kC {g : Fn} {dd ds : List D} {Q : R → S → Prop} : Wp (kC g dd ds s) Q = WpF (g (ds ++ dd) []) fun r _ => Q r s := by
  unfold kC
  cases g (ds ++ dd) [] <;> rfl
def cV {γ : Type} (o : Option γ) (P : γ → Prop) : Prop := match o with
  | some ds => P ds
  | none => False
@[simp ↓] theorem cV_some {γ : Type} {P : γ → Prop} {ds : γ} : cV (some ds) P = P ds := rfl
@[simp ↓] theorem cV_none {γ : Type} {P : γ → Prop} : cV (none : Option γ) P = False := rfl
@[simp] theorem cV_ite {γ : Type} {c : Prop} [Decidable c] {x : γ} {P : γ → Prop} : cV (if c then some x else none) P = (c ∧ P x) := by by_cases h : c <;> simp [h]
@[simp] theorem cV_map {γ δ : Type} {f : γ → δ} {o : Option γ} {P : δ → Prop} : cV (o.map f) P = cV o fun x => P (f x) := by cases o <;> rfl
@[simp] theorem poV_ite {c : Prop} [Decidable c] {x : PO} {P : R → Prop} : poV (if c then some x else none) P = (c ∧ P x.r) := by
  by_cases h : c <;> simp [h, poV]
@[simp] theorem poV_map {γ : Type} {f : γ → PO} {o : Option γ} {P : R → Prop} : poV (o.map f) P = cV o fun x => P (f x).r := by cases o <;> rfl
@[simp] theorem boV_ite {c : Prop} [Decidable c] {x : Bool} {P : Bool → Prop} : boV (if c then some x else none) P = (c ∧ P x) := by
  by_cases h : c <;> simp [h, boV]
@[simp] theorem boV_map {f : Bool → Bool} {o : Option Bool} {P : Bool → Prop} : boV (o.map f) P = boV o fun x => P (f x) := by cases o <;> rfl
@[simp] theorem opV_none {P : D → Prop} : opV none P = False := rfl
def kCB (g : Fn) (i : Nat) (dd : List D) (ds : List D) : M R := fun s' => match s'.cell i with
  | none => .stuck
  | some bs => match g (ds ++ dd) bs with
    | .ok r bs' => .ok r (s'.putc i bs')
    | _ => .stuck
@[simp ↓] theorem wp_eCallB {g : Fn} {i : Nat} {fs : List (M D)} {dd : List D} {Q : R → S → Prop} : Wp (eCallB g i fs dd s) Q = cV (s.cell i) fun _ => Wp (evs fs (kCB g i dd) s) Q := by
  unfold eCallB
  cases s.cell i <;> rfl
@[simp ↓] theorem wp_kCB {g : Fn} {i : Nat} {dd ds : List D} {Q : R → S → Prop} : Wp (kCB g i dd ds s) Q = cV (s.cell i) fun bs => WpF (g (ds ++ dd) bs) fun r bs' => Q r (s.putc i bs') := by
  unfold kCB
  cases s.cell i with
  | none => rfl
  | some bs =>
    show Wp (match g (ds ++ dd) bs with | .ok r bs' => .ok r (s.putc i bs') | _ => .stuck) Q = WpF (g (ds ++ dd) bs) fun r bs' => Q r (s.putc i bs')
    cases g (ds ++ dd) bs <;> rfl
/-! ### methods, stores -/
def kM (i : Nat) (p : List D → List D → Option (D × List D)) (es : List D) : M R := fun s' => match s'.cell i with
  | none => .stuck
  | some ds => match p ds es with
    | none => .stuck
    | some (d, ds') => .ok (.val d) (s'.putc i ds')
@[simp ↓] theorem wp_eM {i : Nat} {fs : List (M D)} {p : List D → List D → Option (D × List D)} {Q : R → S → Prop} : Wp (eM i fs p s) Q = cV (s.cell i) fun _ => Wp (evs fs (kM i p) s) Q := by
  unfold eM
  cases s.cell i <;> rfl
@[simp ↓] theorem wp_kM {i : Nat} {p : List D → List D → Option (D × List D)} {es : List D} {Q : R → S → Prop} : Wp (kM i p es s) Q = cV (s.cell i) fun ds => cV (p ds es) fun x => Q (.val x.1) (s.putc i x.2) := by
  unfold kM
  cases s.cell i with
  | none => rfl
  | some ds =>
    show Wp (match p ds es with | none => .stuck | some (d, ds') => .ok (.val d) (s.putc i ds')) Q = cV (p ds es) fun x => Q (.val x.1) (s.putc i x.2)
    cases p ds es <;> rfl
@[simp ↓] theorem wp_sSetIx {i : Nat} {fe fk : M D} {Q : Fl → S → Prop} : Wp (sSetIx i fe fk s) Q = Wp (fe s) fun x s1 => cV (s1.cell i) fun _ => Wp (fk s1) fun k s2 => cV (s2.cell i) fun ds => cV (setAt ds k x) fun ds' => Q .nx (s2.putc i ds') := by
  unfold sSetIx
  rw [wp_mbind]
  congr 1
  funext x s1
  cases s1.cell i with
  | none => rfl
  | some ds =>
    show Wp (mbind fk _ s1) Q = Wp (fk s1) _
    rw [wp_mbind]
    congr 1
    funext k s2
    cases s2.cell i with
    | none => rfl
    | some ds =>
      dsimp only [cV_some]
      cases setAt ds k x <;> rfl
def augV (x : D) (y : D) (P : Int → Int → Prop) : Prop := match x, y with
  | .int x, .int y => P x y
  | _, _ => False
@[simp ↓] theorem augV_int {x y : Int} {P : Int → Int → Prop} : augV (.int x) (.int y) P = P x y := rfl
def intV (x : D) (P : Int → Prop) : Prop := match x with
  | .int x => P x
  | _ => False
@[simp ↓] theorem intV_int {x : Int} {P : Int → Prop} : intV (.int x) P = P x := rfl
@[simp ↓] theorem wp_sAugIx {i : Nat} {fk fe : M D} {g : Int → Int → Int} {Q : Fl → S → Prop} : Wp (sAugIx i fk fe g s) Q = cV (s.cell i) fun _ => Wp (fk s) fun k s1 => cV (s1.cell i) fun ds => intV k fun n => cV (atI ds n) fun x => intV x fun x => Wp (fe s1) fun y s2 => intV y fun y =>
    cV (s2.cell i) fun es => cV (setAt es (.int n) (.int (g x y))) fun es' => Q .nx (s2.putc i es') := by
  unfold sAugIx
  cases s.cell i with
  | none => rfl
  | some ds =>
    show Wp (mbind fk _ s) Q = Wp (fk s) _
    rw [wp_mbind]
    congr 1
    funext k s1
    cases s1.cell i with
    | none => rfl
    | some ds =>
      dsimp only [cV_some]
      cases k with
      | int n =>
        dsimp only [intV_int]
        cases atI ds n with
        | none => rfl
        | some x =>
          dsimp only [cV_some]
          cases x with
          | int x =>
            dsimp only [intV_int]
            rw [wp_mbind]
            congr 1
            funext y s2
            cases y with
            | int y =>
              dsimp only [intV_int]
              cases s2.cell i with
              | none => rfl
              | some es =>
                dsimp only [cV_some]
                cases setAt es (.int n) (.int (g x y)) <;> rfl
            | _ => rfl
          | _ => rfl
      | _ => rfl
def slI : Option (Option Sl) → (Int → Prop) → Prop
  | some (some (Sl.val (.int x))), P => P x
  | _, _ => False
@[simp ↓] theorem slI_int {x : Int} {P : Int → Prop} : slI (some (some (.val (.int x)))) P = P x := rfl
@[simp] theorem wp_sAug {i : Nat} {f : M D} {g : Int → Int → Int} {Q : Fl → S → Prop} : Wp (sAug i f g ⟨env, box⟩) Q = slI env[i]? fun x => Wp (f ⟨env, box⟩) fun y s' => intV y fun y => Q .nx (s'.setv i (.int (g x y))) := by
  unfold sAug
  dsimp only
  generalize env[i]? = o
  match o with
  | none => rfl
  | some none => rfl
  | some (some .io) => rfl
  | some (some (.own _)) => rfl
  | some (some (.stk _)) => rfl
  | some (some (.top _)) => rfl
  | some (some (.val (.int x))) =>
    show Wp (mbind f _ _) Q = Wp (f _) _
    rw [wp_mbind]
    congr 1
    funext y s'
    cases y <;> rfl
  | some (some (.val .none)) => rfl
  | some (some (.val (.bool _))) => rfl
  | some (some (.val (.str _))) => rfl
  | some (some (.val (.list _))) => rfl
  | some (some (.val (.tuple _))) => rfl
  | some (some (.val (.dict _))) => rfl
@[simp ↓] theorem wp_sPar {is : List Nat} {fs : List (M R)} {Q : Fl → S → Prop} : Wp (sPar is fs s) Q = Wp (evr fs (fun rs s => if rs.length = is.length then .ok .nx (s.putAll is rs) else .stuck) s) Q := rfl
@[simp] theorem putAll_cons {i : Nat} {is : List Nat} {r : R} {rs : List R} : S.putAll s (i :: is) (r :: rs) = (s.putAll is rs).put i r := rfl
@[simp] theorem putAll_nil {rs : List R} : S.putAll s [] rs = s := rfl
@[simp] theorem wp_iteO {c : Prop} [Decidable c] {a : Out α} : Wp (if c then a else .stuck) Q = (c ∧ Wp a Q) := by by_cases h : c <;> simp [h, Wp]
@[simp ↓] theorem wp_sUnp {is : List Nat} {f : M D} {Q : Fl → S → Prop} : Wp (sUnp is f s) Q = Wp (f s) fun d s' => cV (gT is d s') fun s2 => Q .nx s2 := by
  unfold sUnp
  rw [wp_mbind]
  congr 1
  funext d s'
  cases gT is d s' <;> rfl
@[simp] theorem gT_tup {is : List Nat} {ds : List D} : gT is (.tuple ds) s = if ds.length = is.length then some (s.setvs is ds) else none := rfl
@[simp] theorem gN_def {i : Nat} {d : D} : gN i d s = some (s.setv i d) := rfl
@[simp] theorem setvs_cons {i : Nat} {is : List Nat} {d : D} {ds : List D} : S.setvs s (i :: is) (d :: ds) = (s.setv i d).setvs is ds := rfl
@[simp] theorem setvs_nil {ds : List D} : S.setvs s [] ds = s := rfl
/-! ### dicts -/
@[simp ↓] theorem wp_sDPut {i : Nat} {fv fk : M D} {Q : Fl → S → Prop} : Wp (sDPut i fv fk s) Q = Wp (fv s) fun v s1 => cV (s1.dct i) fun _ => Wp (fk s1) fun k s2 => cV (s2.dct i) fun kds => cV (keyD k) fun k => kds.length < sizeLine ∧ Q .nx (s2.seto i (.dct (putD kds k v))) := by
  unfold sDPut
  rw [wp_mbind]
  congr 1
  funext v s1
  cases s1.dct i with
  | none => rfl
  | some _ =>
    show Wp (mbind fk _ s1) Q = Wp (fk s1) _
    rw [wp_mbind]
    congr 1
    funext k s2
    cases s2.dct i with
    | none => rfl
    | some kds =>
      dsimp only [cV_some]
      cases keyD k with
      | none => rfl
      | some k =>
        dsimp only [cV_some]
        by_cases h : kds.length < sizeLine <;> simp [h, Wp]
@[simp ↓] theorem wp_eDGet {i : Nat} {fk : M D} {Q : R → S → Prop} : Wp (eDGet i fk s) Q = cV (s.dct i) fun _ => Wp (fk s) fun k s2 => cV (s2.dct i) fun kds => cV (keyD k) fun k => cV (getK kds k) fun d => Q (.val d) s2 := by
  unfold eDGet
  cases s.dct i with
  | none => rfl
  | some _ =>
    show Wp (mbind fk _ s) Q = Wp (fk s) _
    rw [wp_mbind]
    congr 1
    funext k s2
    cases s2.dct i with
    | none => rfl
    | some kds =>
      dsimp only [cV_some]
      cases keyD k with
      | none => rfl
      | some k =>
        dsimp only [cV_some]
        cases getK kds k <;> rfl
@[simp ↓] theorem wp_tDIn {i : Nat} {fk : M D} {pos : Bool} {Q : Bool → S → Prop} : Wp (tDIn i fk pos s) Q = Wp (fk s) fun k s2 => cV (s2.dct i) fun kds => cV (keyD k) fun k => Q ((getK kds k).isSome == pos) s2 := by
  unfold tDIn
  rw [wp_mbind]
  congr 1
  funext k s2
  cases s2.dct i with
  | none => rfl
  | some kds =>
    dsimp only [cV_some]
    cases keyD k <;> rfl
@[simp ↓] theorem wp_eDLen {i : Nat} {Q : R → S → Prop} : Wp (eDLen i s) Q = cV (s.dct i) fun kds => Q (.val (.int kds.length)) s := by
  unfold eDLen
  cases s.dct i <;> rfl
@[simp ↓] theorem wp_eDList {i : Nat} {Q : R → S → Prop} : Wp (eDList i s) Q = cV (s.dct i) fun kds => Q (.new (.lst (kds.map fun kv => kD kv.1))) s := by
  unfold eDList
  cases s.dct i <;> rfl
@[simp] theorem keyD_int {i : Int} : keyD (.int i) = some (.inl i) := rfl
@[simp] theorem keyD_str {x : Str} : keyD (.str x) = some (.inr x) := rfl
/-! ### the rest of expressions -/
def k3 (g : Hd) (q : D → D → Option Bool) (k : Hd) : M Bool := rsv g fun y => rsv k fun z => match q y z with
  | some r => mret r
  | none => mstuck
@[simp ↓] theorem wp_t3 {a b c : Opd} {p q : D → D → Option Bool} {Q : Bool → S → Prop} : Wp (t3 a b c p q s) Q = Wp (opS a (fun h => opS b fun g => rsv h fun x => rsv g fun y => match p x y with | some true => opS c (k3 g q) | some false => mret false | none => mstuck) s) Q := rfl
@[simp ↓] theorem wp_bo3 {o : Option Bool} {m : M Bool} {Q : Bool → S → Prop} : Wp ((match o with | some true => m | some false => mret false | none => mstuck : M Bool) s) Q = boV o fun b => (b = true → Wp (m s) Q) ∧ (b = false → Q false s) := by
  match o with
  | none => rfl
  | some true => simp [boV]
  | some false => simp [boV]
@[simp ↓] theorem wp_k3 {g k : Hd} {q : D → D → Option Bool} {Q : Bool → S → Prop} : Wp (k3 g q k s) Q = Wp (rsv g (fun y => rsv k fun z => match q y z with | some r => mret r | none => mstuck) s) Q := rfl
@[simp ↓] theorem wp_eSl {a : Opd} {lo hi : M (Option Int)} {Q : R → S → Prop} : Wp (eSl a lo hi s) Q = Wp (opS a (fun h => mbind lo fun l => mbind hi fun u => rsv h fun x => mpo (pSl x l u)) s) Q := rfl
@[simp ↓] theorem wp_isI {d : D} {Q : Int → S → Prop} : Wp (isI d s) Q = intV d fun i => Q i s := by cases d <;> rfl
@[simp ↓] theorem wp_eIsi {o : Opd} {n : String} {Q : R → S → Prop} : Wp (eIsi o n s) Q = Wp (opS o (fun h => rsv h fun x => match isTy n x with | some b => mret (.val (.bool b)) | none => mstuck) s) Q := rfl
@[simp ↓] theorem wp_bor {o : Option Bool} {Q : R → S → Prop} : Wp ((match o with | some b => mret (.val (.bool b)) | none => mstuck : M R) s) Q = boV o fun b => Q (.val (.bool b)) s := by cases o <;> rfl
def lrOk (a b : Int) : Prop := a.natAbs < 2 ^ 62 ∧ b.natAbs < 2 ^ 62 ∧ (b - a).toNat ≤ 2 ^ 24
theorem lrOk_of {a b : Int} (h0 : 0 ≤ a) (h1 : 0 ≤ b) (ha : a ≤ 2 ^ 24) (hb : b ≤ 2 ^ 24) : lrOk a b := by
  refine ⟨by omega, by omega, ?_⟩
  have : (2 : Nat) ^ 24 = 16777216 := rfl
  omega
def kLR (g : List D → Option (Int × Int)) (mk : List D → R) (ds : List D) : M R := match g ds with
  | some (a, b) => if (a.natAbs < 2 ^ 62 ∧ b.natAbs < 2 ^ 62 ∧ (b - a).toNat ≤ 2 ^ 24) then mret (mk (dRange a (b - a).toNat)) else mstuck
  | none => mstuck
@[simp ↓] theorem wp_eLRange {fs : List (M D)} {g : List D → Option (Int × Int)} {Q : R → S → Prop} : Wp (eLRange fs g s) Q = Wp (evs fs (kLR g fun l => .new (.lst l)) s) Q := rfl
@[simp ↓] theorem wp_eTRange {fs : List (M D)} {g : List D → Option (Int × Int)} {Q : R → S → Prop} : Wp (eTRange fs g s) Q = Wp (evs fs (kLR g fun l => .val (.tuple l)) s) Q := rfl
@[simp ↓] theorem wp_kLR {g : List D → Option (Int × Int)} {mk : List D → R} {ds : List D} {Q : R → S → Prop} : Wp (kLR g mk ds s) Q = cV (g ds) fun p => lrOk p.1 p.2 ∧ Q (mk (dRange p.1 (p.2 - p.1).toNat)) s := by
  unfold kLR
  cases g ds with
  | none => rfl
  | some p =>
    obtain ⟨a, b⟩ := p
    dsimp only [cV_some]
    unfold lrOk
    by_cases h : a.natAbs < 2 ^ 62 ∧ b.natAbs < 2 ^ 62 ∧ (b - a).toNat ≤ 2 ^ 24
    · rw [if_pos h, wp_mret]; exact propext ⟨fun q => ⟨h, q⟩, fun q => q.2⟩
    · rw [if_neg h, wp_mstuck]; exact propext ⟨fun q => q.elim, fun q => (h q.1).elim⟩
@[simp] theorem rg1_int {n : Int} : rg1 [.int n] = some (0, n) := rfl
/-! ### what is walked -/
@[simp ↓] theorem wp_iVal {f : M D} {Q : List D → S → Prop} : Wp (iVal f s) Q = Wp (f s) fun d s' => Wp (itemsM d s') Q := wp_mbind
@[simp] theorem itemsM_list {ds : List D} : itemsM (.list ds) = mret ds := rfl
@[simp] theorem itemsM_tuple {ds : List D} : itemsM (.tuple ds) = mret ds := rfl
def rOk (j : Int) : Prop := j.natAbs < 2 ^ 62
theorem rOk_of {j : Int} (h0 : 0 ≤ j) (h : j < 2 ^ 62) : rOk j := by unfold rOk; omega
@[simp ↓] theorem wp_rng1 {j : Int} {Q : List D → S → Prop} : Wp (rng1 [.int j] s) Q = (rOk j ∧ Q (dRange 0 j.toNat) s) := by
  show Wp ((if j.natAbs < 2 ^ 62 then mret (dRange 0 j.toNat) else mstuck : M (List D)) s) Q = (rOk j ∧ _)
  unfold rOk
  by_cases h : j.natAbs < 2 ^ 62
  · rw [if_pos h, wp_mret]; exact propext ⟨fun q => ⟨h, q⟩, fun q => q.2⟩
  · rw [if_neg h, wp_mstuck]; exact propext ⟨fun q => q.elim, fun q => (h q.1).elim⟩
@[simp ↓] theorem wp_rng2 {i j : Int} {Q : List D → S → Prop} : Wp (rng2 [.int i, .int j] s) Q = (rOk i ∧ rOk j ∧ Q (dRange i (j - i).toNat) s) := by
  show Wp ((if i.natAbs < 2 ^ 62 ∧ j.natAbs < 2 ^ 62 then mret (dRange i (j - i).toNat) else mstuck : M (List D)) s) Q = (rOk i ∧ rOk j ∧ _)
  unfold rOk
  by_cases h : i.natAbs < 2 ^ 62 ∧ j.natAbs < 2 ^ 62
  · rw [if_pos h, wp_mret]; exact propext ⟨fun q => ⟨h.1, h.2, q⟩, fun q => q.2.2⟩
  · rw [if_neg h, wp_mstuck]; exact propext ⟨fun q => q.elim, fun q => (h ⟨q.1, q.2.1⟩).elim⟩
@[simp] theorem enM_list {ds : List D} : enM [.list ds] = mret (dEnum ds) := rfl
@[simp] theorem enM_tuple {ds : List D} : enM [.tuple ds] = mret (dEnum ds) := rfl
@[simp] theorem zipM_list {ds es : List D} : zipM [.list ds, .list es] = mret (dZip ds es) := rfl
@[simp] theorem zipM_tuple {ds es : List D} : zipM [.tuple ds, .tuple es] = mret (dZip ds es) := rfl
@[simp ↓] theorem wp_sFor {it : M (List D)} {g : D → S → Option S} {b : M Fl} {Q : Fl → S → Prop} : Wp (sFor it g b s) Q = Wp (it s) fun ds s' => Wp (forL g b ds s') Q := wp_mbind
@[simp ↓] theorem wp_eComp {it : M (List D)} {vs : List Nat} {g : D → S → Option S} {c : M Bool} {f : M D} {Q : R → S → Prop} : Wp (eComp it vs g c f s) Q = Wp (it s) fun ds s0 => s0.clean vs = true ∧ Wp (compL g c f vs ds [] s0) fun acc s' => Q (.new (.lst acc)) (s'.back s0 vs) := by
  unfold eComp
  rw [wp_mbind]
  congr 1
  funext ds s0
  by_cases h : s0.clean vs = true
  · rw [if_pos h]
    cases compL g c f vs ds [] s0 with
    | ok acc s' => simp [h, Wp]
    | stuck => simp [h, Wp]
    | exc _ _ _ => simp [h, Wp]
  · rw [if_neg h]
    simp [h, Wp]
/-- a loop, by what stands ahead of each turn -/
theorem wp_forL {g : D → S → Option S} {b : M Fl} {Q : Fl → S → Prop} {ds : List D} (I : Nat → S → Prop) (h0 : I 0 s)
    (hs : ∀ i d s, ds[i]? = some d → I i s → cV (g d s) fun s1 => Wp (b s1) fun fl s2 => match fl with
      | .nx => I (i + 1) s2
      | .ct => I (i + 1) s2
      | .bk => Q .nx s2
      | .rt r => Q (.rt r) s2)
    (he : ∀ s, I ds.length s → Q .nx s) : Wp (forL g b ds s) Q := by
  have key : ∀ n i s, n = ds.length - i → i ≤ ds.length → I i s → Wp (forL g b (ds.drop i) s) Q := by
    intro n
    induction n with
    | zero =>
      intro i s hn hi h
      have e : i = ds.length := by omega
      subst e
      rw [List.drop_length]
      exact he s h
    | succ n ih =>
      intro i s hn hi h
      have hlt : i < ds.length := by omega
      have ed : ds.drop i = ds[i] :: ds.drop (i + 1) := List.drop_eq_getElem_cons hlt
      have h1 := hs i ds[i] s (List.getElem?_eq_getElem hlt) h
      rw [ed]
      show Wp (match g ds[i] s with | none => .stuck | some s1 => loopK (b s1) (forL g b (ds.drop (i + 1)))) Q
      cases e1 : g ds[i] s with
      | none => rw [e1] at h1; exact h1.elim
      | some s1 =>
        rw [e1] at h1
        have h1 : Wp (b s1) _ := h1
        show Wp (loopK (b s1) (forL g b (ds.drop (i + 1)))) Q
        cases e2 : b s1 with
        | stuck => rw [e2] at h1; exact h1.elim
        | exc _ _ _ => rw [e2] at h1; exact h1.elim
        | ok fl s2 =>
          rw [e2] at h1
          match fl, h1 with
          | .nx, h1 => exact ih (i + 1) s2 (by omega) hlt h1
          | .ct, h1 => exact ih (i + 1) s2 (by omega) hlt h1
          | .bk, h1 => exact h1
          | .rt r, h1 => exact h1
  have := key ds.length 0 s (by omega) (Nat.zero_le _) h0
  rwa [List.drop_zero] at this
/-- a comprehension's walk -/
theorem wp_compL {g : D → S → Option S} {c : M Bool} {f : M D} {vs : List Nat} {Q : List D → S → Prop} {ds : List D} (I : Nat → List D → S → Prop) (h0 : I 0 [] s)
    (hs : ∀ i d acc s, ds[i]? = some d → I i acc s → cV (g d (s.wipe vs)) fun s1 => Wp (c s1) fun b s2 => (b = true → Wp (f s2) fun x s3 => acc.length < sizeLine ∧ I (i + 1) (acc ++ [x]) s3) ∧ (b = false → I (i + 1) acc s2))
    (he : ∀ acc s, I ds.length acc s → Q acc (s.wipe vs)) : Wp (compL g c f vs ds [] s) Q := by
  have key : ∀ n i acc s, n = ds.length - i → i ≤ ds.length → I i acc s → Wp (compL g c f vs (ds.drop i) acc s) Q := by
    intro n
    induction n with
    | zero =>
      intro i acc s hn hi h
      have e : i = ds.length := by omega
      subst e
      rw [List.drop_length]
      exact he acc s h
    | succ n ih =>
      intro i acc s hn hi h
      have hlt : i < ds.length := by omega
      have ed : ds.drop i = ds[i] :: ds.drop (i + 1) := List.drop_eq_getElem_cons hlt
      have h1 := hs i ds[i] acc s (List.getElem?_eq_getElem hlt) h
      rw [ed]
      show Wp (match g ds[i] (s.wipe vs) with | none => .stuck | some s1 => mbind c (fun b => if b then mbind f fun x => if acc.length < sizeLine then compL g c f vs (ds.drop (i + 1)) (acc ++ [x]) else mstuck else compL g c f vs (ds.drop (i + 1)) acc) s1) Q
      cases e1 : g ds[i] (s.wipe vs) with
      | none => rw [e1] at h1; exact h1.elim
      | some s1 =>
        rw [e1] at h1
        have h1 : Wp (c s1) _ := h1
        show Wp (mbind c _ s1) Q
        rw [wp_mbind]
        refine h1.mono fun b s2 h2 => ?_
        cases b with
        | false => exact ih (i + 1) acc s2 (by omega) hlt (h2.2 rfl)
        | true =>
          show Wp (mbind f _ s2) Q
          rw [wp_mbind]
          refine (h2.1 rfl).mono fun x s3 h3 => ?_
          rw [if_pos h3.1]
          exact ih (i + 1) (acc ++ [x]) s3 (by omega) hlt h3.2
  have := key ds.length 0 [] s (by omega) (Nat.zero_le _) h0
  rwa [List.drop_zero] at this
end
end L3

namespace L3
open PySem PySem.W PySem.Spec PyProof.Rows L2
section
variable {env : List (Option Sl)} {box : List D} {i j : Nat}
def stkV (P : List Row → Prop) : Option (Option Sl) → Prop
  | some (some (Sl.stk rows)) => P rows
  | _ => False
@[simp ↓] theorem stkV_stk {P : List Row → Prop} {rows : List Row} : stkV P (some (some (.stk rows))) = P rows := rfl
theorem stk_wp {α : Type} {Q : α → S → Prop} {f : List Row → Out α} : Wp (match S.stk ⟨env, box⟩ j with | some rows => f rows | none => .stuck) Q = stkV (fun rows => Wp (f rows) Q) env[j]? := by
  unfold S.stk
  dsimp only
  generalize env[j]? = o
  match o with
  | none => rfl
  | some none => rfl
  | some (some (.val _)) => rfl
  | some (some (.own _)) => rfl
  | some (some .io) => rfl
  | some (some (.top _)) => rfl
  | some (some (.stk _)) => rfl
@[simp] theorem noStk_nil : noStk [] = true := rfl
@[simp] theorem noStk_none {e : List (Option Sl)} : noStk (none :: e) = noStk e := rfl
@[simp] theorem noStk_val {d : D} {e : List (Option Sl)} : noStk (some (.val d) :: e) = noStk e := rfl
@[simp] theorem noStk_own {c : C} {e : List (Option Sl)} : noStk (some (.own c) :: e) = noStk e := rfl
@[simp] theorem noStk_io {e : List (Option Sl)} : noStk (some .io :: e) = noStk e := rfl
@[simp] theorem noStk_top {j : Nat} {e : List (Option Sl)} : noStk (some (.top j) :: e) = noStk e := rfl
@[simp] theorem wp_eLenS {Q : R → S → Prop} : Wp (eLenS j ⟨env, box⟩) Q = stkV (fun rows => Q (.val (.int (rows.length : Int))) ⟨env, box⟩) env[j]? := stk_wp
@[simp] theorem wp_tEqS {neg : Bool} {Q : Bool → S → Prop} : Wp (tEqS j neg ⟨env, box⟩) Q = stkV (fun rows => Q (rows.isEmpty != neg) ⟨env, box⟩) env[j]? := stk_wp
def popV (P : List Row → Prop) : List Row → Prop
  | _ :: rows => P rows
  | [] => False
@[simp ↓] theorem popV_cons {P : List Row → Prop} {r : Row} {rows : List Row} : popV P (r :: rows) = P rows := rfl
@[simp] theorem putStk_mk {rows : List Row} : S.putStk ⟨env, box⟩ j rows = ⟨(clrE env).set j (some (.stk rows)), box⟩ := rfl
@[simp] theorem clr_mk : S.clr ⟨env, box⟩ j = ⟨clrE (env.set j none), box⟩ := rfl
@[simp] theorem setTop_mk : S.setTop ⟨env, box⟩ i j = ⟨env.set i (some (.top j)), box⟩ := rfl
@[simp] theorem wp_sPopS {Q : Fl → S → Prop} : Wp (sPopS j ⟨env, box⟩) Q = stkV (popV fun rows => Q .nx (S.putStk ⟨env, box⟩ j rows)) env[j]? := by
  have : sPopS j ⟨env, box⟩ = (match S.stk ⟨env, box⟩ j with | some rows => (match rows with | _ :: rows => .ok .nx (S.putStk ⟨env, box⟩ j rows) | [] => .stuck) | none => .stuck) := by
    unfold sPopS
    cases S.stk ⟨env, box⟩ j with
    | none => rfl
    | some rows => cases rows <;> rfl
  rw [this, stk_wp]
  congr 1
  funext rows
  cases rows <;> rfl
@[simp] theorem spl_new {l : List D} : spl [.new (.lst l)] = some ([], l) := rfl
@[simp] theorem spl_val {d : D} {rs : List R} : spl (.val d :: rs) = (spl rs).map fun p => (d :: p.1, p.2) := rfl
def splV (P : List D × List D → Prop) : Option (List D × List D) → Prop
  | some p => P p
  | none => False
@[simp ↓] theorem splV_some {P : List D × List D → Prop} {p : List D × List D} : splV P (some p) = P p := rfl
def pushK (j : Nat) : List R → M Fl := fun rs s => match spl rs, s.stk j with
  | some p, some rows => if rs.length ≤ sizeLine ∧ rows.length < sizeLine then .ok .nx (s.putStk j ((p.1, some p.2) :: rows)) else .stuck
  | _, _ => .stuck
@[simp] theorem wp_sPush {fs : List (M R)} {Q : Fl → S → Prop} : Wp (sPush j fs ⟨env, box⟩) Q = stkV (fun _ => Wp (evr fs (pushK j) ⟨env, box⟩) Q) env[j]? := by
  have : sPush j fs ⟨env, box⟩ = (match S.stk ⟨env, box⟩ j with | some _ => evr fs (pushK j) ⟨env, box⟩ | none => .stuck) := by
    unfold sPush
    cases S.stk ⟨env, box⟩ j <;> rfl
  rw [this, stk_wp]
@[simp] theorem wp_pushK {rs : List R} {Q : Fl → S → Prop} : Wp (pushK j rs ⟨env, box⟩) Q = splV (fun p => stkV (fun rows => (rs.length ≤ sizeLine ∧ rows.length < sizeLine) ∧ Q .nx (S.putStk ⟨env, box⟩ j ((p.1, some p.2) :: rows))) env[j]?) (spl rs) := by
  unfold pushK
  cases spl rs with
  | none => rfl
  | some p =>
    have e : (match some p, S.stk ⟨env, box⟩ j with | some p, some rows => if rs.length ≤ sizeLine ∧ rows.length < sizeLine then Out.ok Fl.nx (S.putStk ⟨env, box⟩ j ((p.1, some p.2) :: rows)) else .stuck | _, _ => .stuck)
      = (match S.stk ⟨env, box⟩ j with | some rows => (if rs.length ≤ sizeLine ∧ rows.length < sizeLine then Out.ok Fl.nx (S.putStk ⟨env, box⟩ j ((p.1, some p.2) :: rows)) else .stuck) | none => .stuck) := by
      cases S.stk ⟨env, box⟩ j <;> rfl
    refine (congrArg (fun o => Wp o Q) e).trans ?_
    rw [stk_wp]
    show stkV _ _ = stkV _ _
    congr 1
    funext rows
    by_cases h : rs.length ≤ sizeLine ∧ rows.length < sizeLine
    · rw [if_pos h]; simp only [h, and_self, true_and]; rfl
    · rw [if_neg h]; simp only [h, false_and]; rfl
def initK (i j : Nat) (r : R) : List R → M Fl := fun rs s => match spl rs with
  | some p => if noStk s.env = true ∧ rs.length ≤ sizeLine then .ok .nx ((s.putStk j [(p.1, some p.2)]).put i r) else .stuck
  | none => .stuck
@[simp] theorem wp_sInit0 {f : M R} {fs : List (M R)} {Q : Fl → S → Prop} : Wp (sInit0 i j f fs ⟨env, box⟩) Q = (j < env.length ∧ Wp (f ⟨env, box⟩) fun r s => Wp (evr fs (initK i j r) s) Q) := by
  unfold sInit0
  by_cases h : j < env.length
  · rw [if_pos h]
    simp only [h, true_and]
    show Wp (mbind f _ _) Q = _
    rw [wp_mbind]
    rfl
  · rw [if_neg h]; simp only [h, false_and]; rfl
@[simp] theorem wp_initK {r : R} {rs : List R} {Q : Fl → S → Prop} : Wp (initK i j r rs ⟨env, box⟩) Q = splV (fun p => (noStk env = true ∧ rs.length ≤ sizeLine) ∧ Q .nx ((S.putStk ⟨env, box⟩ j [(p.1, some p.2)]).put i r)) (spl rs) := by
  unfold initK
  cases spl rs with
  | none => rfl
  | some p =>
    show Wp (if noStk env = true ∧ rs.length ≤ sizeLine then _ else .stuck) Q = _
    by_cases h : noStk env = true ∧ rs.length ≤ sizeLine
    · rw [if_pos h]; simp only [splV, h, and_self, true_and]; rfl
    · rw [if_neg h]; simp only [splV, h, false_and]; rfl
def topS (P : List D → List D → List Row → Prop) : List Row → Prop
  | (ds, some l) :: rest => P ds l rest
  | _ => False
@[simp ↓] theorem topS_cons {P : List D → List D → List Row → Prop} {ds l : List D} {rest : List Row} : topS P ((ds, some l) :: rest) = P ds l rest := rfl
def intW (x : D) (P : Int → Prop) : Prop := match x with
  | .int n => P n
  | _ => False
@[simp ↓] theorem intW_int {n : Int} {P : Int → Prop} : intW (.int n) P = P n := rfl
def borK (is : List Nat) (ia j : Nat) : D → M Fl := fun x s => match x, s.stk j with
  | .int n, some ((ds, some _) :: _) => if n = -1 ∧ ds.length = is.length then .ok .nx ((s.setTop ia j).putAll is (ds.map R.val)) else .stuck
  | _, _ => .stuck
@[simp] theorem wp_sBorrow0 {is : List Nat} {fi : M D} {Q : Fl → S → Prop} : Wp (sBorrow0 is i j fi ⟨env, box⟩) Q = (i < env.length ∧ stkV (fun _ => Wp (fi ⟨env, box⟩) fun x s => Wp (borK is i j x s) Q) env[j]?) := by
  unfold sBorrow0
  by_cases h : i < env.length
  · rw [if_pos h]
    simp only [h, true_and]
    have : sBorrow is i j fi ⟨env, box⟩ = (match S.stk ⟨env, box⟩ j with | some _ => mbind fi (borK is i j) ⟨env, box⟩ | none => .stuck) := by
      unfold sBorrow
      cases S.stk ⟨env, box⟩ j <;> rfl
    rw [this, stk_wp]
    simp only [wp_mbind]
  · rw [if_neg h]; simp only [h, false_and]; rfl
@[simp] theorem wp_borK {is : List Nat} {x : D} {Q : Fl → S → Prop} : Wp (borK is i j x ⟨env, box⟩) Q = intW x fun n => stkV (topS fun ds l rest => (n = -1 ∧ ds.length = is.length) ∧ Q .nx ((S.setTop ⟨env, box⟩ i j).putAll is (ds.map R.val))) env[j]? := by
  cases x with
  | int n =>
    have : borK is i j (.int n) ⟨env, box⟩ = (match S.stk ⟨env, box⟩ j with | some rows => (match rows with | (ds, some _) :: _ => if n = -1 ∧ ds.length = is.length then .ok .nx ((S.setTop ⟨env, box⟩ i j).putAll is (ds.map R.val)) else .stuck | _ => .stuck) | none => .stuck) := by
      unfold borK
      cases S.stk ⟨env, box⟩ j with
      | none => rfl
      | some rows => match rows with
        | [] => rfl
        | (ds, none) :: _ => rfl
        | (ds, some _) :: _ => rfl
    rw [this, stk_wp]
    show stkV _ _ = stkV _ _
    congr 1
    funext rows
    match rows with
    | [] => rfl
    | (ds, none) :: _ => rfl
    | (ds, some l) :: rest =>
      show Wp (if n = -1 ∧ ds.length = is.length then _ else .stuck) Q = _
      by_cases h : n = -1 ∧ ds.length = is.length
      · rw [if_pos h]; simp only [topS, h, and_self, true_and]; rfl
      · rw [if_neg h]; simp only [topS, h, false_and]; rfl
  | _ => rfl
def appK2 (j : Nat) (fe : M D) (ds l : List D) (rest : List Row) : D → M Fl := fun y s => match y with
  | .int k => if k = (ds.length : Int) then mbind fe (fun d s => if noStk s.env = true then .ok .nx (s.putStk j ((ds, some (l ++ [d])) :: rest)) else .stuck) s else .stuck
  | _ => .stuck
def appK (j : Nat) (fk fe : M D) : D → M Fl := fun x s => match x, s.stk j with
    | .int n, some ((ds, some l) :: rest) => if n = -1 ∧ l.length < sizeLine then mbind fk (appK2 j fe ds l rest) (s.clr j) else .stuck
    | _, _ => .stuck
@[simp] theorem wp_sTopApp {fi fk fe : M D} {Q : Fl → S → Prop} : Wp (sTopApp j fi fk fe ⟨env, box⟩) Q = stkV (fun _ => Wp (fi ⟨env, box⟩) fun x s => Wp (appK j fk fe x s) Q) env[j]? := by
  have : sTopApp j fi fk fe ⟨env, box⟩ = (match S.stk ⟨env, box⟩ j with | some _ => mbind fi (appK j fk fe) ⟨env, box⟩ | none => .stuck) := by
    unfold sTopApp
    cases S.stk ⟨env, box⟩ j <;> rfl
  rw [this, stk_wp]
  simp only [wp_mbind]
@[simp] theorem wp_appK {x : D} {fk fe : M D} {Q : Fl → S → Prop} : Wp (appK j fk fe x ⟨env, box⟩) Q = intW x fun n => stkV (topS fun ds l rest => (n = -1 ∧ l.length < sizeLine) ∧ Wp (fk (S.clr ⟨env, box⟩ j)) fun y s => Wp (appK2 j fe ds l rest y s) Q) env[j]? := by
  cases x with
  | int n =>
    have : appK j fk fe (.int n) ⟨env, box⟩ = (match S.stk ⟨env, box⟩ j with | some rows => (match rows with | (ds, some l) :: rest => if n = -1 ∧ l.length < sizeLine then mbind fk (appK2 j fe ds l rest) (S.clr ⟨env, box⟩ j) else .stuck | _ => .stuck) | none => .stuck) := by
      unfold appK
      cases S.stk ⟨env, box⟩ j with
      | none => rfl
      | some rows => match rows with
        | [] => rfl
        | (ds, none) :: _ => rfl
        | (ds, some _) :: _ => rfl
    rw [this, stk_wp]
    show stkV _ _ = stkV _ _
    congr 1
    funext rows
    match rows with
    | [] => rfl
    | (ds, none) :: _ => rfl
    | (ds, some l) :: rest =>
      show Wp (if n = -1 ∧ l.length < sizeLine then _ else .stuck) Q = _
      by_cases h : n = -1 ∧ l.length < sizeLine
      · rw [if_pos h]; simp only [topS, h, and_self, true_and]; exact wp_mbind
      · rw [if_neg h]; simp only [topS, h, false_and]; rfl
  | _ => rfl
@[simp] theorem wp_appK2 {y : D} {fe : M D} {ds l : List D} {rest : List Row} {Q : Fl → S → Prop} : Wp (appK2 j fe ds l rest y ⟨env, box⟩) Q = intW y fun k => k = (ds.length : Int) ∧ Wp (fe ⟨env, box⟩) fun d s => noStk s.env = true ∧ Q .nx (s.putStk j ((ds, some (l ++ [d])) :: rest)) := by
  cases y with
  | int k =>
    show Wp (if k = (ds.length : Int) then _ else .stuck) Q = _
    by_cases h : k = (ds.length : Int)
    · rw [if_pos h]; simp only [intW, h, true_and]
      rw [wp_mbind]
      congr 1
      funext d s
      by_cases g : noStk s.env = true
      · rw [if_pos g]; simp only [g, true_and]; rfl
      · rw [if_neg g]
        have g' : noStk s.env = false := by simpa using g
        rw [g']
        show False = _
        simp
    · rw [if_neg h]; simp only [intW, h, false_and]; rfl
  | _ => rfl
end
theorem wpF_runL {n : Nat} {b : M Fl} {ds box : List D} {Q : R → List D → Prop} : WpF (runL n b ds box) Q = Wp (b ⟨initL n ds, box⟩) (fnE Q) := by
  unfold runL
  cases b ⟨initL n ds, box⟩ with
  | stuck => rfl
  | exc _ _ _ => rfl
  | ok fl s => cases fl <;> rfl
@[simp] theorem initL_def {n : Nat} {ds : List D} : initL n ds = (ds.map fun d => some (Sl.val d)) ++ some Sl.io :: List.replicate (n - (ds.length + 1)) none := rfl
end L3

namespace L3
open PySem PySem.W PySem.Spec PyProof.Rows L2

@[simp] theorem pAdd_int {i j : Int} : pAdd (.int i) (.int j) = some (.d (.int (i + j))) := rfl
@[simp] theorem pAdd_list {xs ys : List D} : pAdd (.list xs) (.list ys) = if xs.length + ys.length ≤ sizeLine then some (.l (xs ++ ys)) else none := rfl
@[simp] theorem pAdd_tuple {xs ys : List D} : pAdd (.tuple xs) (.tuple ys) = if xs.length + ys.length ≤ sizeLine then some (.t (xs ++ ys)) else none := rfl
@[simp] theorem pSub_int {i j : Int} : pSub (.int i) (.int j) = some (.d (.int (i - j))) := rfl
@[simp] theorem pMul_int {i j : Int} : pMul (.int i) (.int j) = if i.natAbs.log2 + j.natAbs.log2 < 1000000 then some (.d (.int (i * j))) else none := rfl
@[simp] theorem pDiv_int {i j : Int} : pDiv (.int i) (.int j) = if 0 < j ∧ j.natAbs.log2 < 9000 then some (.d (.int (i / j))) else none := rfl
@[simp] theorem pMod_int {i j : Int} : pMod (.int i) (.int j) = if 0 < j then some (.d (.int (i % j))) else none := rfl
@[simp] theorem pPow_int {i j : Int} : pPow (.int i) (.int j) = if 0 ≤ j ∧ j ≤ 1000000 ∧ i.natAbs < 2 ^ 64 then some (.d (.int (i ^ j.toNat))) else none := rfl
@[simp] theorem pNeg_int {i : Int} : pNeg (.int i) = some (.d (.int (-i))) := rfl
@[simp] theorem ndLt {i j : Int} : nd2 pLt (.int i) (.int j) = some (decide (i < j)) := rfl
@[simp] theorem ndLe {i j : Int} : nd2 pLe (.int i) (.int j) = some (decide (i ≤ j)) := rfl
@[simp] theorem ndGt {i j : Int} : nd2 pGt (.int i) (.int j) = some (decide (j < i)) := rfl
@[simp] theorem ndGe {i j : Int} : nd2 pGe (.int i) (.int j) = some (decide (j ≤ i)) := rfl
@[simp] theorem ndEq {i j : Int} : nd2 pEq (.int i) (.int j) = some (decide (i = j)) := by
  show some (PyData.eqv (.int i) (.int j)) = _
  congr 1
@[simp] theorem ndNe {i j : Int} : nd2 pNe (.int i) (.int j) = some (!decide (i = j)) := by
  show some (!PyData.eqv (.int i) (.int j)) = _
  congr 1
@[simp] theorem bO_some {f : D → D → Option Bool} {x y : D} : bO f x y = (f x y).map fun c => .d (.bool c) := rfl
@[simp] theorem pLen_list {xs : List D} : pLen [.list xs] = some (.d (.int xs.length)) := rfl
@[simp] theorem pLen_tuple {xs : List D} : pLen [.tuple xs] = some (.d (.int xs.length)) := rfl
@[simp] theorem pListOf_list {xs : List D} : pListOf [.list xs] = some (.l xs) := rfl
@[simp] theorem pListOf_tuple {xs : List D} : pListOf [.tuple xs] = some (.l xs) := rfl
@[simp] theorem pTupleOf_list {xs : List D} : pTupleOf [.list xs] = some (.t xs) := rfl
@[simp] theorem pTupleOf_tuple {xs : List D} : pTupleOf [.tuple xs] = some (.d (.tuple xs)) := rfl
@[simp] theorem pAbs_int {i : Int} : pAbs [.int i] = some (.d (.int (if i < 0 then -i else i))) := rfl
@[simp] theorem pInt_int {i : Int} : pInt [.int i] = some (.d (.int i)) := rfl
@[simp] theorem pMax2_int {i j : Int} : pMax2 [.int i, .int j] = some (.d (.int (if j > i then j else i))) := rfl
@[simp] theorem pMin2_int {i j : Int} : pMin2 [.int i, .int j] = some (.d (.int (if j < i then j else i))) := rfl
@[simp] theorem pSum_list {xs : List D} : pSum [.list xs] = (intsOf xs).map fun ns => .d (.int ns.sum) := rfl
@[simp] theorem pAll_list {xs : List D} : pAll [.list xs] = (boolsOf xs).map fun bs => .d (.bool (bs.all id)) := rfl
@[simp] theorem pAny_list {xs : List D} : pAny [.list xs] = (boolsOf xs).map fun bs => .d (.bool (bs.any id)) := rfl
@[simp] theorem pSorted_list {xs : List D} : pSorted [.list xs] = if sortOk xs then some (.l (xs.mergeSort (dataLe false id))) else none := rfl
@[simp] theorem pSorted_tuple {xs : List D} : pSorted [.tuple xs] = if sortOk xs then some (.l (xs.mergeSort (dataLe false id))) else none := rfl
@[simp] theorem pIx_list {xs : List D} {i : Int} : pIx (.list xs) (.int i) = (atI xs i).map .d := rfl
@[simp] theorem pIx_tuple {xs : List D} {i : Int} : pIx (.tuple xs) (.int i) = (atI xs i).map .d := rfl
@[simp] theorem isTy_int {n : String} {i : Int} : isTy n (.int i) = some (n == "int") := rfl
@[simp] theorem isTy_list {n : String} {i : List D} : isTy n (.list i) = some (n == "list") := rfl
@[simp] theorem isTy_tuple {n : String} {i : List D} : isTy n (.tuple i) = some (n == "tuple") := rfl
@[simp] theorem isTy_none {n : String} : isTy n .none = some (n == "NoneType") := rfl
@[simp] theorem isTy_bool {n : String} {b : Bool} : isTy n (.bool b) = some (n == "bool" || n == "int") := rfl
@[simp] theorem isTy_str {n : String} {b : Str} : isTy n (.str b) = some (n == "str") := rfl
@[simp] theorem mAppend_def {ds : List D} {x : D} : mAppend ds [x] = if ds.length < sizeLine then some (.none, ds ++ [x]) else none := rfl
@[simp] theorem setAt_int {ds : List D} {n : Int} {x : D} : setAt ds (.int n) x = (ixN ds.length n).map fun j => ds.set j x := rfl
theorem ixN_nat {n : Nat} {i : Nat} : ixN n (i : Int) = if i < n then some i else none := by
  unfold ixN
  rw [if_pos (Int.natCast_nonneg i)]
  by_cases h : i < n
  · rw [if_pos h, if_pos (by omega)]; simp
  · rw [if_neg h, if_neg (by omega)]
theorem atI_n {α : Type} {xs : List α} {i : Nat} : atI xs (i : Int) = xs[i]? := by
  unfold atI
  rw [ixN_nat]
  by_cases h : i < xs.length
  · rw [if_pos h]; rfl
  · rw [if_neg h, List.getElem?_eq_none (by omega)]; rfl
@[simp] theorem atI_0 {α : Type} {x : α} {xs : List α} : atI (x :: xs) 0 = some x := atI_n (i := 0)
@[simp] theorem atI_1 {α : Type} {x y : α} {xs : List α} : atI (x :: y :: xs) 1 = some y := atI_n (i := 1)
@[simp] theorem atI_2 {α : Type} {x y z : α} {xs : List α} : atI (x :: y :: z :: xs) 2 = some z := atI_n (i := 2)
@[simp] theorem ixN_0 {n : Nat} : ixN (n + 1) 0 = some 0 := by rw [show (0 : Int) = ((0 : Nat) : Int) from rfl, ixN_nat, if_pos (by omega)]
@[simp] theorem ixN_1 {n : Nat} : ixN (n + 1 + 1) 1 = some 1 := by rw [show (1 : Int) = ((1 : Nat) : Int) from rfl, ixN_nat, if_pos (by omega)]
theorem atI_toNat {α : Type} {xs : List α} {i : Int} (h : 0 ≤ i) : atI xs i = xs[i.toNat]? := by
  obtain ⟨n, rfl⟩ := Int.eq_ofNat_of_zero_le h
  exact atI_n
theorem cV_n {α : Type} {xs : List α} {i : Nat} {P : α → Prop} (h : i < xs.length) : cV (atI xs (i : Int)) P = P xs[i] := by
  rw [atI_n, List.getElem?_eq_getElem h]; rfl
theorem cV_at {α : Type} {xs : List α} {i : Int} {P : α → Prop} (h0 : 0 ≤ i) (h : i < xs.length) (hp : ∀ x, x ∈ xs → P x) : cV (atI xs i) P := by
  obtain ⟨n, rfl⟩ := Int.eq_ofNat_of_zero_le h0
  have hn : n < xs.length := by omega
  rw [cV_n hn]
  exact hp _ (List.getElem_mem hn)
theorem log2_lt {n k : Nat} (h : n < 2 ^ (k + 1)) : n.log2 ≤ k := by
  by_cases h0 : n = 0
  · subst h0; simp
  · have := (Nat.log2_lt h0).mpr h
    omega
end L3

namespace L3
open PySem PySem.W PySem.Spec PyProof.Rows L2

/-! ### numbers, ways, families as data -/
def nD (n : Nat) : D := .int n
def tN (w : List Nat) : D := .tuple (w.map nD)
def fN (F : List (List Nat)) : D := .tuple (F.map tN)
theorem nD_inj {a b : Nat} (h : nD a = nD b) : a = b := by
  unfold nD at h
  injection h with h
  exact Int.ofNat.inj h
theorem nDs_inj : ∀ {a b : List Nat}, a.map nD = b.map nD → a = b
  | [], [], _ => rfl
  | [], _ :: _, h => by cases h
  | _ :: _, [], h => by cases h
  | x :: xs, y :: ys, h => by
    simp only [List.map_cons, List.cons.injEq] at h
    rw [nD_inj h.1, nDs_inj h.2]
theorem tN_inj {a b : List Nat} (h : tN a = tN b) : a = b := by
  unfold tN at h
  injection h with h
  exact nDs_inj h
theorem alike_ints_all : ∀ (a b : List Nat), alikeAll (a.map nD) (b.map nD) = true
  | [], _ => rfl
  | _ :: _, [] => rfl
  | x :: xs, y :: ys => by
    show (alike (nD x) (nD y) && alikeAll (xs.map nD) (ys.map nD)) = true
    rw [alike_ints_all xs ys]; rfl
theorem alike_tN (a b : List Nat) : alike (tN a) (tN b) = true := alike_ints_all a b
theorem depth_nDs (a : List Nat) : PyData.depthAll (a.map nD) = 0 := by
  induction a with
  | nil => rfl
  | cons x xs ih => show max (nD x).depth (PyData.depthAll (xs.map nD)) = 0; rw [ih]; rfl
theorem depth_tN (a : List Nat) : (tN a).depth = 1 := by
  show PyData.depthAll (a.map nD) + 1 = 1; rw [depth_nDs]
theorem depth_tNs (a : List (List Nat)) : PyData.depthAll (a.map tN) ≤ 1 := by
  induction a with
  | nil => exact Nat.zero_le _
  | cons x xs ih => show max (tN x).depth (PyData.depthAll (xs.map tN)) ≤ 1; rw [depth_tN]; omega
theorem noDict_nDs (a : List Nat) : noDictAll (a.map nD) = true := by
  induction a with
  | nil => rfl
  | cons x xs ih => show (noDict (nD x) && noDictAll (xs.map nD)) = true; rw [ih]; rfl
theorem noDict_tN (a : List Nat) : noDict (tN a) = true := noDict_nDs a
theorem noDict_tNs (a : List (List Nat)) : noDictAll (a.map tN) = true := by
  induction a with
  | nil => rfl
  | cons x xs ih => show (noDict (tN x) && noDictAll (xs.map tN)) = true; rw [ih, noDict_tN]; rfl
theorem sortOk_ints {a : List Nat} (h : a.length ≤ sizeLine) : sortOk (a.map nD) = true := by
  unfold sortOk
  rw [noDict_nDs]
  simp only [List.length_map, h, decide_true, Bool.and_true, List.all_eq_true, Bool.and_eq_true, List.mem_map, forall_exists_index, and_imp, forall_apply_eq_imp_iff₂, Bool.or_eq_true]
  refine ⟨⟨fun x _ y _ => rfl, .inr fun x _ => rfl⟩, fun x _ => ?_⟩
  refine decide_eq_true ?_
  show (0 : Nat) ≤ 60
  omega
theorem sortOk_ways {a : List (List Nat)} (h : a.length ≤ sizeLine) (hn : ∀ w ∈ a, w ≠ []) : sortOk (a.map tN) = true := by
  unfold sortOk
  rw [noDict_tNs]
  simp only [List.length_map, h, decide_true, Bool.and_true, List.all_eq_true, Bool.and_eq_true, List.mem_map, forall_exists_index, and_imp, forall_apply_eq_imp_iff₂, Bool.or_eq_true]
  refine ⟨⟨fun x _ y _ => alike_tN x y, .inl fun x hx => ?_⟩, fun x _ => ?_⟩
  · cases x with
    | nil => exact absurd rfl (hn _ hx)
    | cons _ _ => rfl
  · rw [depth_tN]; decide
def leN (a b : Nat) : Bool := dataLe false id (nD a) (nD b)
def srtN (ns : List Nat) : List Nat := ns.mergeSort leN
def leW (a b : List Nat) : Bool := dataLe false id (tN a) (tN b)
def srtW (ns : List (List Nat)) : List (List Nat) := ns.mergeSort leW
theorem sort_ints (ns : List Nat) : (ns.map nD).mergeSort (dataLe false id) = (srtN ns).map nD := (List.map_mergeSort (r := leN) (s := dataLe false id) (f := nD) (l := ns) fun _ _ _ _ => rfl).symm
theorem sort_ways (ns : List (List Nat)) : (ns.map tN).mergeSort (dataLe false id) = (srtW ns).map tN := (List.map_mergeSort (r := leW) (s := dataLe false id) (f := tN) (l := ns) fun _ _ _ _ => rfl).symm
theorem srtN_perm (ns : List Nat) : (srtN ns).Perm ns := List.mergeSort_perm _ _
theorem srtW_perm (ns : List (List Nat)) : (srtW ns).Perm ns := List.mergeSort_perm _ _
theorem intsOf_nDs (ns : List Nat) : intsOf (ns.map nD) = some (ns.map fun (n : Nat) => (n : Int)) := by
  induction ns with
  | nil => rfl
  | cons n ns ih => show (intsOf (ns.map nD)).map ((n : Int) :: ·) = _; rw [ih]; rfl
theorem boolsOf_bools {α : Type} (f : α → Bool) (xs : List α) : boolsOf (xs.map fun x => PyData.bool (f x)) = some (xs.map f) := by
  induction xs with
  | nil => rfl
  | cons n ns ih => show (boolsOf (ns.map _)).map (f n :: ·) = _; rw [ih]; rfl

/-! ### boxes: what is drawn from -/
def VB (b : List D) : Prop := ∃ g r : Int, b = [.int g, .int r] ∧ 0 ≤ g ∧ 0 ≤ r ∧ r < 2 ^ 40
theorem log_small {n : Int} (h0 : 0 ≤ n) {k : Nat} (h : n < 2 ^ (k + 1)) : n.natAbs.log2 ≤ k := by
  refine log2_lt ?_
  have e : (n.natAbs : Int) = n := Int.natAbs_of_nonneg h0
  have : (n.natAbs : Int) < ((2 ^ (k + 1) : Nat) : Int) := by rw [e, Int.natCast_pow]; exact h
  exact Int.ofNat_lt.mp this

@[simp] theorem pLen_scr {ns : List Int} : pLen [scr ns] = some (.d (.int ns.length)) := by
  show some (PO.d (PyData.int ((ns.map fun n => (PyData.none, PyData.int n)).length : Nat))) = _
  rw [List.length_map]
@[simp] theorem pIx_scr {ns : List Int} {i : Int} : pIx (scr ns) (.int i) = (atI ns i).map fun n => .d (.int n) := by
  show (atI ((ns.map fun n => (PyData.none, PyData.int n)).map (·.2)) i).map PO.d = _
  have em : (ns.map fun n => (PyData.none, PyData.int n)).map (·.2) = ns.map PyData.int := by rw [List.map_map]; rfl
  rw [em, atI_map, Option.map_map]
  rfl
theorem mulS {a b : Nat} (ha : a < 2 ^ 64) (hb : b < 2 ^ 64) : a.log2 + b.log2 < 1000000 := by
  have h1 := log2_lt (k := 63) ha
  have h2 := log2_lt (k := 63) hb
  omega
theorem divS {a : Nat} (ha : a < 2 ^ 64) : a.log2 < 9000 := by
  have h1 := log2_lt (k := 63) ha
  omega
theorem modN (x : Int) {m : Int} (h : 0 < m) : ∃ d : Nat, x % m = d ∧ (d : Int) < m :=
  ⟨(x % m).toNat, by rw [Int.toNat_of_nonneg (Int.emod_nonneg x (by omega))], by rw [Int.toNat_of_nonneg (Int.emod_nonneg x (by omega))]; exact Int.emod_lt_of_pos x h⟩
/-! ### comprehensions that change nothing -/
theorem back_same {env : List (Option Sl)} {v : Nat} {x : Option Sl} (h : env[v]? = some x) (y : Option Sl) : (env.set v y).set v (slotOf env v) = env := by
  rw [List.set_set]
  have hv : v < env.length := (List.getElem?_eq_some_iff.mp h).1
  have e : slotOf env v = env[v] := by
    unfold slotOf
    rw [List.getElem?_eq_getElem hv]
  rw [e, List.set_getElem_self]
theorem wp_map1 {env : List (Option Sl)} {box : List D} {v : Nat} {f : M D} {Q : List D → S → Prop} {ds : List D} (h : D → D) (hl : ds.length ≤ sizeLine)
    (hb : ∀ d ∈ ds, Wp (f ⟨env.set v (some (.val d)), box⟩) fun x s' => x = h d ∧ s' = ⟨env.set v (some (.val d)), box⟩)
    (hq : Q (ds.map h) ⟨env.set v none, box⟩) : Wp (compL (gN v) (mret true) f [v] ds [] ⟨env, box⟩) Q := by
  refine wp_compL (fun i acc s => acc = (ds.take i).map h ∧ ∃ y, s = ⟨env.set v y, box⟩ ∨ (i = 0 ∧ s = ⟨env, box⟩)) ⟨by simp, none, .inr ⟨rfl, rfl⟩⟩ (fun i d acc s hi hI => ?_) fun acc s hI => ?_
  · obtain ⟨rfl, y, hs⟩ := hI
    have es : s.wipe [v] = ⟨env.set v none, box⟩ := by
      rcases hs with rfl | ⟨_, rfl⟩
      · show (⟨(env.set v y).set v none, box⟩ : S) = _
        rw [List.set_set]
      · rfl
    rw [es]
    simp only [gN_def, cV_some, wp_mret, setv_mk, List.set_set]
    refine ⟨fun _ => ?_, fun z => by cases z⟩
    have hm : d ∈ ds := List.mem_of_getElem? hi
    have hlt : i < ds.length := (List.getElem?_eq_some_iff.mp hi).1
    refine (hb d hm).mono fun x s' hx => ?_
    obtain ⟨rfl, rfl⟩ := hx
    refine ⟨?_, ?_, some (.val d), .inl rfl⟩
    · rw [List.length_map, List.length_take]; omega
    · rw [List.take_add_one, hi, List.map_append]; rfl
  · obtain ⟨rfl, y, hs⟩ := hI
    rw [List.take_length]
    rcases hs with rfl | ⟨_, rfl⟩
    · show Q _ ⟨(env.set v y).set v none, box⟩
      rw [List.set_set]; exact hq
    · exact hq
/-- with a test -/
theorem wp_filter1 {env : List (Option Sl)} {box : List D} {v : Nat} {c : M Bool} {f : M D} {Q : List D → S → Prop} {ds : List D} (p : D → Bool) (h : D → D) (hl : ds.length ≤ sizeLine)
    (hc : ∀ d ∈ ds, Wp (c ⟨env.set v (some (.val d)), box⟩) fun x s' => x = p d ∧ s' = ⟨env.set v (some (.val d)), box⟩)
    (hb : ∀ d ∈ ds, p d = true → Wp (f ⟨env.set v (some (.val d)), box⟩) fun x s' => x = h d ∧ s' = ⟨env.set v (some (.val d)), box⟩)
    (hq : Q ((ds.filter p).map h) ⟨env.set v none, box⟩) : Wp (compL (gN v) c f [v] ds [] ⟨env, box⟩) Q := by
  refine wp_compL (fun i acc s => acc = ((ds.take i).filter p).map h ∧ ∃ y, s = ⟨env.set v y, box⟩ ∨ (i = 0 ∧ s = ⟨env, box⟩)) ⟨by simp, none, .inr ⟨rfl, rfl⟩⟩ (fun i d acc s hi hI => ?_) fun acc s hI => ?_
  · obtain ⟨rfl, y, hs⟩ := hI
    have es : s.wipe [v] = ⟨env.set v none, box⟩ := by
      rcases hs with rfl | ⟨_, rfl⟩
      · show (⟨(env.set v y).set v none, box⟩ : S) = _
        rw [List.set_set]
      · rfl
    rw [es]
    simp only [gN_def, cV_some, setv_mk, List.set_set]
    have hm : d ∈ ds := List.mem_of_getElem? hi
    have hlt : i < ds.length := (List.getElem?_eq_some_iff.mp hi).1
    refine (hc d hm).mono fun x s' hx => ?_
    obtain ⟨rfl, rfl⟩ := hx
    refine ⟨fun hp => (hb d hm hp).mono fun x s' hx => ?_, fun hp => ⟨?_, some (.val d), .inl rfl⟩⟩
    · obtain ⟨rfl, rfl⟩ := hx
      refine ⟨?_, ?_, some (.val d), .inl rfl⟩
      · rw [List.length_map]
        have := List.length_filter_le p (ds.take i)
        rw [List.length_take] at this
        omega
      · rw [List.take_add_one, hi, List.filter_append, List.map_append]; simp [hp]
    · rw [List.take_add_one, hi, List.filter_append, List.map_append]; simp [hp]
  · obtain ⟨rfl, y, hs⟩ := hI
    rw [List.take_length]
    rcases hs with rfl | ⟨_, rfl⟩
    · show Q _ ⟨(env.set v y).set v none, box⟩
      rw [List.set_set]; exact hq
    · exact hq
@[simp] theorem back_mk {env env0 : List (Option Sl)} {box box0 : List D} {vs : List Nat} : S.back ⟨env, box⟩ ⟨env0, box0⟩ vs = ⟨backE env0 env vs, box⟩ := rfl
@[simp] theorem backE_cons {env env0 : List (Option Sl)} {v : Nat} {vs : List Nat} : backE env0 env (v :: vs) = backE env0 (env.set v (slotOf env0 v)) vs := rfl
@[simp] theorem backE_nil {env env0 : List (Option Sl)} : backE env0 env [] = env := rfl
@[simp] theorem clean_mk {env : List (Option Sl)} {box : List D} {vs : List Nat} : S.clean ⟨env, box⟩ vs = vs.all fun v => okSlot env[v]? := rfl
@[simp] theorem wipe_mk {env : List (Option Sl)} {box : List D} {vs : List Nat} : S.wipe ⟨env, box⟩ vs = ⟨wipeE env vs, box⟩ := rfl
@[simp] theorem wipeE_cons {env : List (Option Sl)} {v : Nat} {vs : List Nat} : wipeE env (v :: vs) = (wipeE env vs).set v none := rfl
@[simp] theorem wipeE_nil {env : List (Option Sl)} : wipeE env [] = env := rfl
@[simp] theorem okSlot_none : okSlot (some none) = true := rfl
@[simp] theorem okSlot_val {d : D} : okSlot (some (some (.val d))) = true := rfl
@[simp] theorem slotOf_mk {env : List (Option Sl)} {v : Nat} : slotOf env v = match env[v]? with | some x => x | none => none := rfl
end L3

namespace L3
open PySem PySem.W PySem.Spec PyProof.Rows L2

theorem size_eq : sizeLine = 16777216 := rfl
theorem popAt_n {ds : List D} {d : Nat} (h : d < ds.length) (hl : ds.length ≤ sizeLine) : mPopAt ds [.int (d : Int)] = some (ds[d], ds.eraseIdx d) := by
  unfold mPopAt
  rw [size_eq] at hl
  have h2 : seqIndex? (d : Int) ds.length = some d := by
    rw [seqIndex_of (by omega) (by omega)]; simp
  simp only [h2]
  rw [if_pos (by omega), List.getElem?_eq_getElem h]
  rfl
theorem erase_perm {α : Type} : ∀ {l : List α} {d : Nat} (h : d < l.length), (l[d] :: l.eraseIdx d).Perm l
  | [], _, h => by cases h
  | x :: xs, 0, _ => .refl _
  | x :: xs, d + 1, h => by
    have := erase_perm (l := xs) (d := d) (by simpa using h)
    exact (List.Perm.swap x _ _).trans (this.cons x)
theorem perm_pop {α : Type} {f l xs : List α} {d : Nat} (h : d < l.length) (p : (f ++ l).Perm xs) : ((f ++ [l[d]]) ++ l.eraseIdx d).Perm xs := by
  refine List.Perm.trans ?_ p
  rw [List.append_assoc]
  refine List.Perm.append_left f ?_
  exact erase_perm h
theorem range_nD (n : Nat) : dRange 0 n = (List.range n).map nD := by
  unfold dRange nD
  refine List.map_congr_left fun i _ => ?_
  simp
theorem range_at {n i : Nat} {d : D} (h : (dRange 0 n)[i]? = some d) : i < n ∧ d = .int (i : Int) := by
  rw [range_nD, List.getElem?_map] at h
  by_cases hi : i < n
  · rw [List.getElem?_range hi] at h
    cases h
    exact ⟨hi, rfl⟩
  · rw [List.getElem?_eq_none (by simpa using hi)] at h
    cases h
@[simp] theorem range_len (a : Int) (n : Nat) : (dRange a n).length = n := by unfold dRange; simp
end L3

namespace L3
open PySem PySem.W PySem.Spec PyProof.Rows L2

/-! ### all that occur, each once -/
def addK (ks : List Nat) (n : Nat) : List Nat := if n ∈ ks then ks else ks ++ [n]
def joinedN (F : List (List Nat)) : List Nat := srtN (F.flatten.foldl addK [])
def trueK (ks : List Nat) : List (Key × D) := ks.map fun (n : Nat) => (Sum.inl (n : Int), PyData.bool true)
theorem trueK_len (ks : List Nat) : (trueK ks).length = ks.length := by unfold trueK; simp
theorem keys_true (ks : List Nat) : (trueK ks).map (fun kv => kD kv.1) = ks.map nD := by unfold trueK; rw [List.map_map]; rfl
theorem any_true (ks : List Nat) (n : Nat) : ((trueK ks).any fun kv => decide (kv.1 = Sum.inl (n : Int))) = decide (n ∈ ks) := by
  unfold trueK
  induction ks with
  | nil => simp
  | cons k ks ih =>
    rw [List.map_cons, List.any_cons, ih]
    by_cases h : k = n
    · subst h; simp
    · have h2 : ¬ (n = k) := fun e => h e.symm
      have h3 : ¬ ((k : Int) = (n : Int)) := fun e => h (Int.ofNat.inj e)
      simp [h2, h3]
theorem putD_true (ks : List Nat) (n : Nat) : putD (trueK ks) (Sum.inl (n : Int)) (.bool true) = trueK (addK ks n) := by
  unfold putD addK
  rw [any_true]
  by_cases h : n ∈ ks
  · rw [if_pos (decide_eq_true h), if_pos h]
    unfold trueK
    rw [List.map_map]
    refine List.map_congr_left fun k _ => ?_
    by_cases e : (k : Int) = (n : Int)
    · simp [e]
    · simp [e]
  · rw [if_neg (by simpa using h), if_neg h]
    unfold trueK
    rw [List.map_append]; rfl
theorem addK_len (ns : List Nat) : ∀ ks : List Nat, (ns.foldl addK ks).length ≤ ks.length + ns.length := by
  induction ns with
  | nil => intro ks; simp
  | cons n ns ih =>
    intro ks
    rw [List.foldl_cons]
    have := ih (addK ks n)
    have h2 : (addK ks n).length ≤ ks.length + 1 := by unfold addK; split <;> simp
    simp only [List.length_cons]
    omega
theorem addK_mem (ns : List Nat) : ∀ (ks : List Nat) (x : Nat), x ∈ ns.foldl addK ks ↔ x ∈ ks ∨ x ∈ ns := by
  induction ns with
  | nil => intro ks x; simp
  | cons n ns ih =>
    intro ks x
    rw [List.foldl_cons, ih]
    unfold addK
    by_cases h : n ∈ ks
    · rw [if_pos h]
      constructor
      · rintro (h1 | h1)
        · exact .inl h1
        · exact .inr (List.mem_cons_of_mem _ h1)
      · rintro (h1 | h1)
        · exact .inl h1
        · rcases List.mem_cons.mp h1 with rfl | h1
          · exact .inl h
          · exact .inr h1
    · rw [if_neg h]
      simp [or_assoc]
theorem addK_nodup (ns : List Nat) : ∀ (ks : List Nat), ks.Nodup → (ns.foldl addK ks).Nodup := by
  induction ns with
  | nil => intro ks h; exact h
  | cons n ns ih =>
    intro ks h
    rw [List.foldl_cons]
    refine ih _ ?_
    unfold addK
    split
    · exact h
    · rename_i hn
      exact List.nodup_append.mpr ⟨h, by simp, fun a ha b hb e => by
        simp at hb; subst hb; subst e; exact hn ha⟩
theorem joinedN_mem {F : List (List Nat)} {x : Nat} : x ∈ joinedN F ↔ ∃ w ∈ F, x ∈ w := by
  unfold joinedN
  rw [(srtN_perm _).mem_iff, addK_mem]
  simp [List.mem_flatten]
theorem joinedN_nodup (F : List (List Nat)) : (joinedN F).Nodup := (srtN_perm _).nodup_iff.mpr (addK_nodup _ _ List.nodup_nil)
/-- two lists without doubles, of the same things, are of one length -/
theorem len_of_mem {xs ys : List Nat} (hx : xs.Nodup) (hy : ys.Nodup) (h : ∀ a, a ∈ xs ↔ a ∈ ys) : xs.length = ys.length :=
  ((List.perm_ext_iff_of_nodup hx hy).mpr h).length_eq
theorem joinedN_range {F : List (List Nat)} {n : Nat} (h : ∀ x, (∃ w ∈ F, x ∈ w) ↔ x < n) : (joinedN F).length = n := by
  have := len_of_mem (joinedN_nodup F) (List.nodup_range (n := n)) fun a => by rw [joinedN_mem, h, List.mem_range]
  rw [this, List.length_range]
end L3

namespace L3
open PySem PySem.W PySem.Spec PyProof.Rows L2

/-! ### loads -/
def occ (F : List (List Nat)) (st : List Nat) : List Nat := st.flatMap fun j => F.getD j []
def loadsN (n : Nat) (ws : List Nat) : List Nat := (List.range n).map fun t => ws.count t
theorem loadsN_len (n : Nat) (ws : List Nat) : (loadsN n ws).length = n := by unfold loadsN; simp
theorem loadsN_nil (n : Nat) : loadsN n [] = (List.range n).map fun _ => 0 := by unfold loadsN; simp
theorem loadsN_get {n : Nat} {ws : List Nat} {t : Nat} (h : t < n) : (loadsN n ws)[t]? = some (ws.count t) := by
  unfold loadsN
  rw [List.getElem?_map, List.getElem?_range h]; rfl
theorem loads_set {n : Nat} {ws : List Nat} {t : Nat} (h : t < n) : ((loadsN n ws).map nD).set t (.int ((ws.count t : Nat) + 1 : Int)) = (loadsN n (ws ++ [t])).map nD := by
  apply List.ext_getElem?
  intro i
  have hl : ((loadsN n ws).map nD).length = n := by rw [List.length_map, loadsN_len]
  by_cases e : t = i
  · subst e
    rw [List.getElem?_set_self (by rw [hl]; exact h), List.getElem?_map, loadsN_get h]
    show some (PyData.int _) = some (nD _)
    unfold nD
    rw [List.count_append]
    simp
  · rw [List.getElem?_set_ne e, List.getElem?_map, List.getElem?_map]
    by_cases hi : i < n
    · rw [loadsN_get hi, loadsN_get hi, List.count_append]
      have : List.count i [t] = 0 := by
        rw [List.count_eq_zero]; simp; exact fun z => e z.symm
      rw [this]; rfl
    · rw [List.getElem?_eq_none (by rw [loadsN_len]; omega), List.getElem?_eq_none (by rw [loadsN_len]; omega)]
theorem occ_take {F : List (List Nat)} {st : List Nat} {i j : Nat} {w : List Nat} (h : st[i]? = some j) (hw : F[j]? = some w) : occ F (st.take (i + 1)) = occ F (st.take i) ++ w := by
  unfold occ
  rw [List.take_add_one, h, List.flatMap_append]
  simp [List.getD, hw]
theorem loads_0 (n : Nat) : (dRange 0 n).map (fun _ => PyData.int 0) = (loadsN n []).map nD := by
  rw [loadsN_nil, range_nD, List.map_map, List.map_map]; rfl
end L3

namespace L3
open PySem PySem.W PySem.Spec PyProof.Rows L2

/-- [f for v in xs], the xs coded as e -/
theorem wp_mapE {α : Type} {env : List (Option Sl)} {box : List D} {v : Nat} {f : M D} {Q : List D → S → Prop} {xs : List α} (e : α → D) (h : α → D) (hl : xs.length ≤ sizeLine)
    (hb : ∀ x ∈ xs, Wp (f ⟨env.set v (some (.val (e x))), box⟩) fun y s' => y = h x ∧ s' = ⟨env.set v (some (.val (e x))), box⟩)
    (hq : Q (xs.map h) ⟨env.set v none, box⟩) : Wp (compL (gN v) (mret true) f [v] (xs.map e) [] ⟨env, box⟩) Q := by
  refine wp_compL (fun i acc s => acc = (xs.take i).map h ∧ ∃ y, s = ⟨env.set v y, box⟩ ∨ (i = 0 ∧ s = ⟨env, box⟩)) ⟨by simp, none, .inr ⟨rfl, rfl⟩⟩ (fun i d acc s hi hI => ?_) fun acc s hI => ?_
  · obtain ⟨rfl, y, hs⟩ := hI
    have es : s.wipe [v] = ⟨env.set v none, box⟩ := by
      rcases hs with rfl | ⟨_, rfl⟩
      · show (⟨(env.set v y).set v none, box⟩ : S) = _
        rw [List.set_set]
      · rfl
    rw [es]
    simp only [gN_def, cV_some, wp_mret, setv_mk, List.set_set]
    refine ⟨fun _ => ?_, fun z => by cases z⟩
    rw [List.getElem?_map] at hi
    cases hx : xs[i]? with
    | none => rw [hx] at hi; cases hi
    | some x =>
      rw [hx] at hi; cases hi
      have hm : x ∈ xs := List.mem_of_getElem? hx
      have hlt : i < xs.length := (List.getElem?_eq_some_iff.mp hx).1
      refine (hb x hm).mono fun y s' hx' => ?_
      obtain ⟨rfl, rfl⟩ := hx'
      refine ⟨?_, ?_, some (.val (e x)), .inl rfl⟩
      · rw [List.length_map, List.length_take]; omega
      · rw [List.take_add_one, hx, List.map_append]; rfl
  · obtain ⟨rfl, y, hs⟩ := hI
    rw [List.length_map, List.take_length]
    rcases hs with rfl | ⟨_, rfl⟩
    · show Q _ ⟨(env.set v y).set v none, box⟩
      rw [List.set_set]; exact hq
    · exact hq
/-- [f for v in xs if c], the xs coded as e -/
theorem wp_filterE {α : Type} {env : List (Option Sl)} {box : List D} {v : Nat} {c : M Bool} {f : M D} {Q : List D → S → Prop} {xs : List α} (e : α → D) (p : α → Bool) (h : α → D) (hl : xs.length ≤ sizeLine)
    (hc : ∀ x ∈ xs, Wp (c ⟨env.set v (some (.val (e x))), box⟩) fun y s' => y = p x ∧ s' = ⟨env.set v (some (.val (e x))), box⟩)
    (hb : ∀ x ∈ xs, p x = true → Wp (f ⟨env.set v (some (.val (e x))), box⟩) fun y s' => y = h x ∧ s' = ⟨env.set v (some (.val (e x))), box⟩)
    (hq : Q ((xs.filter p).map h) ⟨env.set v none, box⟩) : Wp (compL (gN v) c f [v] (xs.map e) [] ⟨env, box⟩) Q := by
  refine wp_compL (fun i acc s => acc = ((xs.take i).filter p).map h ∧ ∃ y, s = ⟨env.set v y, box⟩ ∨ (i = 0 ∧ s = ⟨env, box⟩)) ⟨by simp, none, .inr ⟨rfl, rfl⟩⟩ (fun i d acc s hi hI => ?_) fun acc s hI => ?_
  · obtain ⟨rfl, y, hs⟩ := hI
    have es : s.wipe [v] = ⟨env.set v none, box⟩ := by
      rcases hs with rfl | ⟨_, rfl⟩
      · show (⟨(env.set v y).set v none, box⟩ : S) = _
        rw [List.set_set]
      · rfl
    rw [es]
    simp only [gN_def, cV_some, setv_mk, List.set_set]
    rw [List.getElem?_map] at hi
    cases hx : xs[i]? with
    | none => rw [hx] at hi; cases hi
    | some x =>
      rw [hx] at hi; cases hi
      have hm : x ∈ xs := List.mem_of_getElem? hx
      have hlt : i < xs.length := (List.getElem?_eq_some_iff.mp hx).1
      refine (hc x hm).mono fun y s' hx' => ?_
      obtain ⟨rfl, rfl⟩ := hx'
      refine ⟨fun hp => (hb x hm hp).mono fun y s' hx' => ?_, fun hp => ⟨?_, some (.val (e x)), .inl rfl⟩⟩
      · obtain ⟨rfl, rfl⟩ := hx'
        refine ⟨?_, ?_, some (.val (e x)), .inl rfl⟩
        · rw [List.length_map]
          have := List.length_filter_le p (xs.take i)
          rw [List.length_take] at this
          omega
        · rw [List.take_add_one, hx, List.filter_append, List.map_append]; simp [hp]
      · rw [List.take_add_one, hx, List.filter_append, List.map_append]; simp [hp]
  · obtain ⟨rfl, y, hs⟩ := hI
    rw [List.length_map, List.take_length]
    rcases hs with rfl | ⟨_, rfl⟩
    · show Q _ ⟨(env.set v y).set v none, box⟩
      rw [List.set_set]; exact hq
    · exact hq
theorem enum_at {α : Type} {e : α → D} {xs : List α} {i : Nat} {d : D} (h : (dEnum (xs.map e))[i]? = some d) : ∃ x, xs[i]? = some x ∧ d = .tuple [.int (i : Int), e x] := by
  unfold dEnum at h
  rw [List.getElem?_zipWith] at h
  cases hx : xs[i]? with
  | none =>
    rw [List.getElem?_map, hx] at h
    cases h2 : (List.range (xs.map e).length)[i]? <;> rw [h2] at h <;> cases h
  | some x =>
    have hlt : i < xs.length := (List.getElem?_eq_some_iff.mp hx).1
    rw [List.getElem?_map, hx, List.getElem?_range (by rw [List.length_map]; exact hlt)] at h
    exact ⟨x, rfl, (Option.some.inj h).symm⟩
@[simp] theorem itemsM_tN {w : List Nat} : itemsM (tN w) = mret (w.map nD) := rfl
@[simp] theorem itemsM_fN {w : List (List Nat)} : itemsM (fN w) = mret (w.map tN) := rfl
@[simp] theorem pIx_tN {w : List Nat} {i : Int} : pIx (tN w) (.int i) = (atI (w.map nD) i).map .d := rfl
@[simp] theorem pIx_fN {w : List (List Nat)} {i : Int} : pIx (fN w) (.int i) = (atI (w.map tN) i).map .d := rfl
@[simp] theorem pLen_tN {w : List Nat} : pLen [tN w] = some (.d (.int w.length)) := by show some (PO.d (.int ((w.map nD).length : Nat))) = _; rw [List.length_map]
@[simp] theorem pLen_fN {w : List (List Nat)} : pLen [fN w] = some (.d (.int w.length)) := by show some (PO.d (.int ((w.map tN).length : Nat))) = _; rw [List.length_map]
@[simp] theorem enM_fN {w : List (List Nat)} : enM [fN w] = mret (dEnum (w.map tN)) := rfl
@[simp] theorem enM_tN {w : List Nat} : enM [tN w] = mret (dEnum (w.map nD)) := rfl
@[simp] theorem dEnum_len' (ds : List D) : (dEnum ds).length = ds.length := dEnum_len
end L3

namespace L3
open PySem PySem.W PySem.Spec PyProof.Rows L2

theorem fold_max : ∀ (ns : List Int) (a : Int), (ns.foldl max a = a ∨ ns.foldl max a ∈ ns) ∧ a ≤ ns.foldl max a ∧ ∀ x ∈ ns, x ≤ ns.foldl max a
  | [], a => ⟨.inl rfl, Int.le_refl _, fun x h => by cases h⟩
  | n :: ns, a => by
    obtain ⟨h1, h2, h3⟩ := fold_max ns (max a n)
    rw [List.foldl_cons]
    refine ⟨?_, by omega, fun x hx => ?_⟩
    · rcases h1 with h1 | h1
      · rw [h1]
        by_cases h : a ≤ n
        · right; rw [Int.max_eq_right h]; exact List.mem_cons_self
        · left; exact Int.max_eq_left (by omega)
      · exact .inr (List.mem_cons_of_mem _ h1)
    · rcases List.mem_cons.mp hx with rfl | hx
      · omega
      · exact h3 x hx
theorem fold_min : ∀ (ns : List Int) (a : Int), (ns.foldl min a = a ∨ ns.foldl min a ∈ ns) ∧ ns.foldl min a ≤ a ∧ ∀ x ∈ ns, ns.foldl min a ≤ x
  | [], a => ⟨.inl rfl, Int.le_refl _, fun x h => by cases h⟩
  | n :: ns, a => by
    obtain ⟨h1, h2, h3⟩ := fold_min ns (min a n)
    rw [List.foldl_cons]
    refine ⟨?_, by omega, fun x hx => ?_⟩
    · rcases h1 with h1 | h1
      · rw [h1]
        by_cases h : n ≤ a
        · right; rw [Int.min_eq_right h]; exact List.mem_cons_self
        · left; exact Int.min_eq_left (by omega)
      · exact .inr (List.mem_cons_of_mem _ h1)
    · rcases List.mem_cons.mp hx with rfl | hx
      · omega
      · exact h3 x hx
theorem intsOf_ints {α : Type} (f : α → Int) (xs : List α) : intsOf (xs.map fun x => PyData.int (f x)) = some (xs.map f) := by
  induction xs with
  | nil => rfl
  | cons n ns ih => show (intsOf (ns.map _)).map (f n :: ·) = _; rw [ih]; rfl
/-- max of a list, a tuple -/
theorem pMax_of {α : Type} (f : α → Int) {xs : List α} {L : D} (hL : L = .list (xs.map fun x => PyData.int (f x)) ∨ L = .tuple (xs.map fun x => PyData.int (f x))) (h : xs ≠ []) : ∃ m, pMax [L] = some (.d (.int m)) ∧ (∃ x ∈ xs, m = f x) ∧ ∀ x ∈ xs, f x ≤ m := by
  cases xs with
  | nil => exact absurd rfl h
  | cons a xs =>
    obtain ⟨h1, h2, h3⟩ := fold_max (xs.map f) (f a)
    refine ⟨(xs.map f).foldl max (f a), ?_, ?_, fun x hx => ?_⟩
    · rcases hL with rfl | rfl
      · show (match intsOf ((a :: xs).map fun x => PyData.int (f x)) with | some (n :: ns) => some (PO.d (.int (ns.foldl max n))) | _ => none) = _
        rw [intsOf_ints]; rfl
      · show (match intsOf ((a :: xs).map fun x => PyData.int (f x)) with | some (n :: ns) => some (PO.d (.int (ns.foldl max n))) | _ => none) = _
        rw [intsOf_ints]; rfl
    · rcases h1 with h1 | h1
      · exact ⟨a, List.mem_cons_self, h1⟩
      · obtain ⟨x, hx, e⟩ := List.mem_map.mp h1
        exact ⟨x, List.mem_cons_of_mem _ hx, e.symm⟩
    · rcases List.mem_cons.mp hx with rfl | hx
      · exact h2
      · exact h3 _ (List.mem_map_of_mem hx)
theorem pMin_of {α : Type} (f : α → Int) {xs : List α} {L : D} (hL : L = .list (xs.map fun x => PyData.int (f x)) ∨ L = .tuple (xs.map fun x => PyData.int (f x))) (h : xs ≠ []) : ∃ m, pMin [L] = some (.d (.int m)) ∧ (∃ x ∈ xs, m = f x) ∧ ∀ x ∈ xs, m ≤ f x := by
  cases xs with
  | nil => exact absurd rfl h
  | cons a xs =>
    obtain ⟨h1, h2, h3⟩ := fold_min (xs.map f) (f a)
    refine ⟨(xs.map f).foldl min (f a), ?_, ?_, fun x hx => ?_⟩
    · rcases hL with rfl | rfl
      · show (match intsOf ((a :: xs).map fun x => PyData.int (f x)) with | some (n :: ns) => some (PO.d (.int (ns.foldl min n))) | _ => none) = _
        rw [intsOf_ints]; rfl
      · show (match intsOf ((a :: xs).map fun x => PyData.int (f x)) with | some (n :: ns) => some (PO.d (.int (ns.foldl min n))) | _ => none) = _
        rw [intsOf_ints]; rfl
    · rcases h1 with h1 | h1
      · exact ⟨a, List.mem_cons_self, h1⟩
      · obtain ⟨x, hx, e⟩ := List.mem_map.mp h1
        exact ⟨x, List.mem_cons_of_mem _ hx, e.symm⟩
    · rcases List.mem_cons.mp hx with rfl | hx
      · exact h2
      · exact h3 _ (List.mem_map_of_mem hx)
/-- x in t, of numbers -/
theorem plain_nDs (w : List Nat) : PyData.plainAll (w.map nD) = true := by
  induction w with
  | nil => rfl
  | cons x xs ih => show ((nD x).plain && PyData.plainAll (xs.map nD)) = true; rw [ih]; rfl
theorem any_nDs (w : List Nat) (t : Nat) : ((w.map nD).any fun z => PyData.eqv z (nD t)) = decide (t ∈ w) := by
  induction w with
  | nil => rfl
  | cons x xs ih =>
    rw [List.map_cons, List.any_cons, ih]
    have : PyData.eqv (nD x) (nD t) = decide (x = t) := by
      show ((x : Int) == (t : Int)) = decide (x = t)
      by_cases h : x = t
      · subst h; simp
      · have h3 : ¬ ((x : Int) = (t : Int)) := fun e => h (Int.ofNat.inj e)
        simp [h, h3]
    rw [this]
    by_cases h : x = t
    · subst h; simp
    · have h2 : ¬ (t = x) := fun e => h e.symm
      simp [h, h2]
theorem pIn_tN (t : Nat) (w : List Nat) : nd2 pIn (.int (t : Int)) (tN w) = some (decide (t ∈ w)) := by
  refine nd2_some ?_ rfl (noDict_tN w)
  show (if inOk (nD t) (w.map nD) then some ((w.map nD).any fun z => PyData.eqv z (nD t)) else none) = _
  have : inOk (nD t) (w.map nD) = true := by
    unfold inOk
    rw [plain_nDs]
    rfl
  rw [if_pos this, any_nDs]
theorem count_nodup : ∀ {w : List Nat} (h : w.Nodup) (t : Nat), w.count t = if t ∈ w then 1 else 0
  | [], _, t => by simp
  | x :: xs, h, t => by
    rw [List.nodup_cons] at h
    rw [List.count_cons, count_nodup h.2 t]
    by_cases e : x = t
    · subst e
      simp [h.1]
    · have e2 : ¬ (t = x) := fun z => e z.symm
      simp [e, e2]
/-- how many of a state's comers use a thing, by membership -/
theorem occ_count {F : List (List Nat)} (hn : ∀ w ∈ F, w.Nodup) {st : List Nat} (hs : ∀ j ∈ st, j < F.length) (t : Nat) : (occ F st).count t = (st.filter fun j => decide (t ∈ F.getD j [])).length := by
  induction st with
  | nil => rfl
  | cons j st ih =>
    have hj := hs j List.mem_cons_self
    have e : occ F (j :: st) = F.getD j [] ++ occ F st := rfl
    rw [e, List.count_append, ih fun i hi => hs i (List.mem_cons_of_mem _ hi), List.filter_cons]
    have hw : F.getD j [] ∈ F := by
      rw [List.getD_eq_getElem?_getD, List.getElem?_eq_getElem hj]
      exact List.getElem_mem hj
    rw [count_nodup (hn _ hw)]
    by_cases h : t ∈ F.getD j []
    · rw [if_pos h, if_pos (decide_eq_true h), List.length_cons]; omega
    · rw [if_neg h, if_neg (by simpa using h)]; omega
end L3

namespace L3
open PySem PySem.W PySem.Spec PyProof.Rows L2

/-- data of at most n levels of tuples -/
inductive Okd : Nat → D → Prop
  | non (n : Nat) : Okd n .none
  | bool (n : Nat) (b : Bool) : Okd n (.bool b)
  | int (n : Nat) (i : Int) : Okd n (.int i)
  | str (n : Nat) (x : Str) : PyData.strOk x = true → Okd n (.str x)
  | tup (n : Nat) (xs : List D) : (∀ x ∈ xs, Okd n x) → Okd (n + 1) (.tuple xs)
theorem okd_tN (n : Nat) (w : List Nat) : Okd (n + 1) (tN w) := .tup n _ fun x hx => by
  obtain ⟨k, _, rfl⟩ := List.mem_map.mp hx
  exact .int n _
theorem okd_fN (n : Nat) (F : List (List Nat)) : Okd (n + 2) (fN F) := .tup (n + 1) _ fun x hx => by
  obtain ⟨w, _, rfl⟩ := List.mem_map.mp hx
  exact okd_tN n w
theorem ndEqS {x : Str} (h : PyData.strOk x = true) : nd2 pEq (.str x) (.str x) = some true := by
  refine nd2_some ?_ rfl rfl
  unfold pEq
  have : SeqAt.shaped (.str x) = true := by
    unfold SeqAt.shaped
    have h1 : (PyData.str x).canLay0 = true := by rw [PyData.canLay0]; exact h
    have h2 : (PyData.str x).depth = 0 := by rw [PyData.depth]
    rw [h1, h2]; rfl
  rw [this]
  show some (PyData.eqv (.str x) (.str x)) = some true
  rw [PyData.eqv, beq_self_eq_true]
@[simp] theorem ndEqB {a b : Bool} : nd2 pEq (.bool a) (.bool b) = some (a == b) := rfl
@[simp] theorem isBo_bool {a b : Bool} : pIsBo (.bool a) (.bool b) = some (a == b) := rfl
@[simp] theorem isBo_int {a : Int} {b : Bool} : pIsBo (.int a) (.bool b) = some false := rfl
@[simp] theorem isBo_str {a : Str} {b : Bool} : pIsBo (.str a) (.bool b) = some false := rfl
@[simp] theorem isBo_none {b : Bool} : pIsBo .none (.bool b) = some false := rfl
@[simp] theorem isBo_tuple {a : List D} {b : Bool} : pIsBo (.tuple a) (.bool b) = some false := rfl
@[simp] theorem isN_int {a : Int} : pIsN (.int a) .none = some false := rfl
@[simp] theorem isN_str {a : Str} : pIsN (.str a) .none = some false := rfl
@[simp] theorem isN_bool {a : Bool} : pIsN (.bool a) .none = some false := rfl
@[simp] theorem isN_none : pIsN .none .none = some true := rfl
@[simp] theorem isN_tuple {a : List D} : pIsN (.tuple a) .none = some false := rfl
@[simp] theorem notN_int {a : Int} : pNotN (.int a) .none = some true := rfl
@[simp] theorem notN_none : pNotN .none .none = some false := rfl
@[simp] theorem notN_tuple {a : List D} : pNotN (.tuple a) .none = some true := rfl
theorem zip_at {xs ys : List D} {i : Nat} {d : D} (h : (dZip xs ys)[i]? = some d) : ∃ x y, xs[i]? = some x ∧ ys[i]? = some y ∧ d = .tuple [x, y] := by
  unfold dZip at h
  rw [List.getElem?_zipWith] at h
  cases hx : xs[i]? with
  | none => rw [hx] at h; cases h2 : ys[i]? <;> rw [h2] at h <;> cases h
  | some x =>
    cases hy : ys[i]? with
    | none => rw [hx, hy] at h; cases h
    | some y => rw [hx, hy] at h; exact ⟨x, y, rfl, rfl, (Option.some.inj h).symm⟩
@[simp] theorem dZip_len' (xs ys : List D) : (dZip xs ys).length = min xs.length ys.length := dZip_len
end L3

namespace L3
open PySem PySem.W PySem.Spec PyProof.Rows L2

section
variable {s : S} {env : List (Option Sl)} {box : List D}
@[simp ↓] theorem wp_eComp2 {it : M (List D)} {vs : List Nat} {g : D → S → Option S} {c : M Bool} {it1 : M (List D)} {vs1 : List Nat} {g1 : D → S → Option S} {c1 : M Bool} {f : M D} {Q : R → S → Prop} :
    Wp (eComp2 it vs g c it1 vs1 g1 c1 f s) Q = Wp (it s) fun ds s0 => s0.clean vs = true ∧ Wp (compO g c it1 g1 c1 f vs vs1 ds [] s0) fun acc s' => Q (.new (.lst acc)) (s'.back s0 vs) := by
  unfold eComp2
  rw [wp_mbind]
  congr 1
  funext ds s0
  by_cases h : s0.clean vs = true
  · rw [if_pos h]
    cases compO g c it1 g1 c1 f vs vs1 ds [] s0 with
    | ok acc s' => simp [h, Wp]
    | stuck => simp [h, Wp]
    | exc _ _ _ => simp [h, Wp]
  · rw [if_neg h]
    simp [h, Wp]
theorem wp_compI {g : D → S → Option S} {c : M Bool} {f : M D} {vs : List Nat} {k : List D → M (List D)} {Q : List D → S → Prop} {ds acc : List D} (I : Nat → List D → S → Prop) (h0 : I 0 acc s)
    (hs : ∀ i d acc s, ds[i]? = some d → I i acc s → cV (g d (s.wipe vs)) fun s1 => Wp (c s1) fun b s2 => (b = true → Wp (f s2) fun x s3 => acc.length < sizeLine ∧ I (i + 1) (acc ++ [x]) s3) ∧ (b = false → I (i + 1) acc s2))
    (he : ∀ acc s, I ds.length acc s → Wp (k acc s) Q) : Wp (compI g c f vs k ds acc s) Q := by
  have key : ∀ n i acc s, n = ds.length - i → i ≤ ds.length → I i acc s → Wp (compI g c f vs k (ds.drop i) acc s) Q := by
    intro n
    induction n with
    | zero =>
      intro i acc s hn hi h
      have e : i = ds.length := by omega
      subst e
      rw [List.drop_length]
      exact he acc s h
    | succ n ih =>
      intro i acc s hn hi h
      have hlt : i < ds.length := by omega
      have ed : ds.drop i = ds[i] :: ds.drop (i + 1) := List.drop_eq_getElem_cons hlt
      have h1 := hs i ds[i] acc s (List.getElem?_eq_getElem hlt) h
      rw [ed]
      show Wp (match g ds[i] (s.wipe vs) with | none => .stuck | some s1 => mbind c (fun b => if b then mbind f fun x => if acc.length < sizeLine then compI g c f vs k (ds.drop (i + 1)) (acc ++ [x]) else mstuck else compI g c f vs k (ds.drop (i + 1)) acc) s1) Q
      cases e1 : g ds[i] (s.wipe vs) with
      | none => rw [e1] at h1; exact h1.elim
      | some s1 =>
        rw [e1] at h1
        have h1 : Wp (c s1) _ := h1
        show Wp (mbind c _ s1) Q
        rw [wp_mbind]
        refine h1.mono fun b s2 h2 => ?_
        cases b with
        | false => exact ih (i + 1) acc s2 (by omega) hlt (h2.2 rfl)
        | true =>
          show Wp (mbind f _ s2) Q
          rw [wp_mbind]
          refine (h2.1 rfl).mono fun x s3 h3 => ?_
          rw [if_pos h3.1]
          exact ih (i + 1) (acc ++ [x]) s3 (by omega) hlt h3.2
  have := key ds.length 0 acc s (by omega) (Nat.zero_le _) h0
  rwa [List.drop_zero] at this
theorem wp_compO {g : D → S → Option S} {c : M Bool} {it1 : M (List D)} {g1 : D → S → Option S} {c1 : M Bool} {f : M D} {vs vs1 : List Nat} {Q : List D → S → Prop} {ds : List D} (I : Nat → List D → S → Prop) (h0 : I 0 [] s)
    (hs : ∀ i d acc s, ds[i]? = some d → I i acc s → cV (g d (s.wipe vs)) fun s1 => Wp (c s1) fun b s2 => (b = true → Wp (it1 s2) fun es s3 => ∀ k : List D → M (List D), (∀ acc' s', I (i + 1) acc' s' → Wp (k acc' s') Q) → Wp (compI g1 c1 f vs1 k es acc s3) Q) ∧ (b = false → I (i + 1) acc s2))
    (he : ∀ acc s, I ds.length acc s → Q acc (s.wipe vs)) : Wp (compO g c it1 g1 c1 f vs vs1 ds [] s) Q := by
  have key : ∀ n i acc s, n = ds.length - i → i ≤ ds.length → I i acc s → Wp (compO g c it1 g1 c1 f vs vs1 (ds.drop i) acc s) Q := by
    intro n
    induction n with
    | zero =>
      intro i acc s hn hi h
      have e : i = ds.length := by omega
      subst e
      rw [List.drop_length]
      exact he acc s h
    | succ n ih =>
      intro i acc s hn hi h
      have hlt : i < ds.length := by omega
      have ed : ds.drop i = ds[i] :: ds.drop (i + 1) := List.drop_eq_getElem_cons hlt
      have h1 := hs i ds[i] acc s (List.getElem?_eq_getElem hlt) h
      rw [ed]
      show Wp (match g ds[i] (s.wipe vs) with | none => .stuck | some s1 => mbind c (fun b => if b then mbind it1 fun es => compI g1 c1 f vs1 (compO g c it1 g1 c1 f vs vs1 (ds.drop (i + 1))) es acc else compO g c it1 g1 c1 f vs vs1 (ds.drop (i + 1)) acc) s1) Q
      cases e1 : g ds[i] (s.wipe vs) with
      | none => rw [e1] at h1; exact h1.elim
      | some s1 =>
        rw [e1] at h1
        have h1 : Wp (c s1) _ := h1
        show Wp (mbind c _ s1) Q
        rw [wp_mbind]
        refine h1.mono fun b s2 h2 => ?_
        cases b with
        | false => exact ih (i + 1) acc s2 (by omega) hlt (h2.2 rfl)
        | true =>
          show Wp (mbind it1 _ s2) Q
          rw [wp_mbind]
          refine (h2.1 rfl).mono fun es s3 h3 => ?_
          exact h3 _ fun acc' s' hI => ih (i + 1) acc' s' (by omega) hlt hI
  have := key ds.length 0 [] s (by omega) (Nat.zero_le _) h0
  rwa [List.drop_zero] at this
/-- [f for v in xs for v1 in ys if c1] -/
theorem wp_comp2E {α β : Type} {v v1 : Nat} (hv : v ≠ v1) {it1 : M (List D)} {c1 : M Bool} {f : M D} {Q : List D → S → Prop} {xs : List α} (e : α → D) (ys : α → List β) (e1 : β → D) (p : α → β → Bool) (h : α → β → D)
    (hi : ∀ x ∈ xs, ∀ b, Wp (it1 ⟨(env.set v (some (.val (e x)))).set v1 b, box⟩) fun es s' => es = (ys x).map e1 ∧ s' = ⟨(env.set v (some (.val (e x)))).set v1 b, box⟩)
    (hc : ∀ x ∈ xs, ∀ y ∈ ys x, Wp (c1 ⟨(env.set v (some (.val (e x)))).set v1 (some (.val (e1 y))), box⟩) fun b s' => b = p x y ∧ s' = ⟨(env.set v (some (.val (e x)))).set v1 (some (.val (e1 y))), box⟩)
    (hf : ∀ x ∈ xs, ∀ y ∈ ys x, p x y = true → Wp (f ⟨(env.set v (some (.val (e x)))).set v1 (some (.val (e1 y))), box⟩) fun d s' => d = h x y ∧ s' = ⟨(env.set v (some (.val (e x)))).set v1 (some (.val (e1 y))), box⟩)
    (hl : (xs.flatMap fun x => ((ys x).filter (p x)).map (h x)).length ≤ sizeLine)
    (hq : Q (xs.flatMap fun x => ((ys x).filter (p x)).map (h x)) ⟨(env.set v none).set v1 none, box⟩) : Wp (compO (gN v) (mret true) it1 (gN v1) c1 f [v, v1] [v1] (xs.map e) [] ⟨env, box⟩) Q := by
  have sc : ∀ (a b c : Option Sl) (l : List (Option Sl)), ((l.set v a).set v1 b).set v c = (l.set v c).set v1 b := fun a b c l => by
    rw [List.set_comm _ _ hv, List.set_set, List.set_comm _ _ hv.symm]
  let H : List α → List D := fun l => l.flatMap fun x => ((ys x).filter (p x)).map (h x)
  refine wp_compO (fun i acc s => acc = H (xs.take i) ∧ ∃ a b, s = ⟨(env.set v a).set v1 b, box⟩ ∨ (i = 0 ∧ s = ⟨env, box⟩)) ⟨by simp [H], none, none, .inr ⟨rfl, rfl⟩⟩ (fun i d acc s hi' hI => ?_) fun acc s hI => ?_
  · obtain ⟨rfl, a, b, hs⟩ := hI
    have es : s.wipe [v, v1] = ⟨(env.set v none).set v1 none, box⟩ := by
      rcases hs with rfl | ⟨_, rfl⟩
      · show (⟨(((env.set v a).set v1 b).set v1 none).set v none, box⟩ : S) = _
        rw [List.set_set, sc]
      · show (⟨(env.set v1 none).set v none, box⟩ : S) = _
        rw [List.set_comm _ _ hv.symm]
    rw [es]
    rw [List.getElem?_map] at hi'
    cases hx : xs[i]? with
    | none => rw [hx] at hi'; cases hi'
    | some x =>
      rw [hx] at hi'; cases hi'
      have hm : x ∈ xs := List.mem_of_getElem? hx
      simp only [gN_def, cV_some, wp_mret, setv_mk]
      refine ⟨fun _ => ?_, fun z => by cases z⟩
      rw [sc]
      refine (hi x hm none).mono fun es s3 h3 => ?_
      obtain ⟨rfl, rfl⟩ := h3
      intro k hk
      have e2 : H (xs.take (i + 1)) = H (xs.take i) ++ ((ys x).filter (p x)).map (h x) := by
        show List.flatMap _ _ = List.flatMap _ _ ++ _
        rw [List.take_add_one, hx, List.flatMap_append]
        simp
      have hlen : (H (xs.take i)).length + (((ys x).filter (p x)).map (h x)).length ≤ sizeLine := by
        rw [← List.length_append, ← e2]
        have e3 : xs.flatMap (fun x => ((ys x).filter (p x)).map (h x)) = H (xs.take (i + 1)) ++ H (xs.drop (i + 1)) := by
          show _ = List.flatMap _ _ ++ List.flatMap _ _
          rw [← List.flatMap_append, List.take_append_drop]
        rw [e3, List.length_append] at hl
        omega
      refine wp_compI (fun j acc s => acc = H (xs.take i) ++ (((ys x).take j).filter (p x)).map (h x) ∧ ∃ b, s = ⟨(env.set v (some (.val (e x)))).set v1 b, box⟩) ⟨by simp, none, rfl⟩ (fun j d acc s hj hJ => ?_) fun acc s hJ => ?_
      · obtain ⟨rfl, b, rfl⟩ := hJ
        rw [List.getElem?_map] at hj
        cases hy : (ys x)[j]? with
        | none => rw [hy] at hj; cases hj
        | some y =>
          rw [hy] at hj; cases hj
          have hmy : y ∈ ys x := List.mem_of_getElem? hy
          have es : S.wipe ⟨(env.set v (some (.val (e x)))).set v1 b, box⟩ [v1] = ⟨(env.set v (some (.val (e x)))).set v1 none, box⟩ := by
            show (⟨((env.set v (some (.val (e x)))).set v1 b).set v1 none, box⟩ : S) = _
            rw [List.set_set]
          rw [es]
          simp only [gN_def, cV_some, setv_mk, List.set_set]
          refine (hc x hm y hmy).mono fun q s2 h2 => ?_
          obtain ⟨rfl, rfl⟩ := h2
          have hjl : j < (ys x).length := (List.getElem?_eq_some_iff.mp hy).1
          refine ⟨fun hp => (hf x hm y hmy hp).mono fun d s3 h3 => ?_, fun hp => ⟨?_, _, rfl⟩⟩
          · obtain ⟨rfl, rfl⟩ := h3
            refine ⟨?_, ?_, _, rfl⟩
            · rw [List.length_append]
              have h5 : (((ys x).take j).filter (p x)).length + 1 ≤ ((ys x).filter (p x)).length := by
                have h6 : (ys x) = (ys x).take j ++ (y :: (ys x).drop (j + 1)) := by
                  obtain ⟨_, e5⟩ := List.getElem?_eq_some_iff.mp hy
                  rw [← e5, ← List.drop_eq_getElem_cons hjl, List.take_append_drop]
                conv => rhs; rw [h6]
                rw [List.filter_append, List.filter_cons, if_pos hp, List.length_append, List.length_cons]
                omega
              rw [List.length_map] at hlen ⊢
              omega
            · rw [List.take_add_one, hy, List.filter_append, List.map_append, List.append_assoc]; simp [hp]
          · rw [List.take_add_one, hy, List.filter_append, List.map_append]; simp [hp]
      · obtain ⟨rfl, b, rfl⟩ := hJ
        rw [List.length_map, List.take_length]
        exact hk _ _ ⟨by rw [e2], _, _, .inl rfl⟩
  · obtain ⟨rfl, a, b, hs⟩ := hI
    rw [List.length_map, List.take_length]
    have es : s.wipe [v, v1] = ⟨(env.set v none).set v1 none, box⟩ := by
      rcases hs with rfl | ⟨_, rfl⟩
      · show (⟨(((env.set v a).set v1 b).set v1 none).set v none, box⟩ : S) = _
        rw [List.set_set, sc]
      · show (⟨(env.set v1 none).set v none, box⟩ : S) = _
        rw [List.set_comm _ _ hv.symm]
    rw [es]
    exact hq
end
end L3

namespace L3
open PySem PySem.W PySem.Spec PyProof.Rows L2

@[simp] theorem pSl_list {xs : List D} {lo hi : Option Int} : pSl (.list xs) lo hi = some (.l (cutL xs lo hi)) := rfl
@[simp] theorem pSl_tuple {xs : List D} {lo hi : Option Int} : pSl (.tuple xs) lo hi = some (.t (cutL xs lo hi)) := rfl
@[simp] theorem pSl_tN {w : List Nat} {lo hi : Option Int} : pSl (tN w) lo hi = some (.t (cutL (w.map nD) lo hi)) := rfl
theorem cut_from {α : Type} {xs : List α} {i : Nat} : cutL xs (some (i : Int)) none = xs.drop i := by
  unfold cutL
  rw [HT.sIx_nat, HT.sIx_none]
  by_cases h : i ≤ xs.length
  · rw [Nat.min_eq_left h, List.take_of_length_le (by rw [List.length_drop]; omega)]
  · rw [Nat.min_eq_right (by omega), List.drop_eq_nil_of_le (by omega), List.drop_eq_nil_of_le (by omega)]; simp
theorem cut_to {α : Type} {xs : List α} {i : Nat} : cutL xs none (some (i : Int)) = xs.take i := by
  unfold cutL
  rw [HT.sIx_nat, HT.sIx_none, List.drop_zero, Nat.sub_zero]
  by_cases h : i ≤ xs.length
  · rw [Nat.min_eq_left h]
  · rw [Nat.min_eq_right (by omega), List.take_length, List.take_of_length_le (by omega)]
@[simp] theorem cut_1 {α : Type} {xs : List α} : cutL xs (some 1) none = xs.drop 1 := cut_from (i := 1)
theorem cut_ab {α : Type} {xs : List α} {i j : Nat} : cutL xs (some (i : Int)) (some (j : Int)) = (xs.drop i).take (j - i) := by
  unfold cutL
  rw [HT.sIx_nat, HT.sIx_nat]
  by_cases h : i ≤ xs.length
  · rw [Nat.min_eq_left h]
    by_cases h2 : j ≤ xs.length
    · rw [Nat.min_eq_left h2]
    · rw [Nat.min_eq_right (by omega), List.take_of_length_le (by rw [List.length_drop]; omega), List.take_of_length_le (by rw [List.length_drop]; omega)]
  · rw [Nat.min_eq_right (show xs.length ≤ i by omega), List.drop_eq_nil_of_le (Nat.le_refl xs.length), List.drop_eq_nil_of_le (show xs.length ≤ i by omega)]; simp
/-! equality of numbers' rows -/
theorem lay_nDs (w : List Nat) : PyData.canLayAll0 (w.map nD) = true := by
  induction w with
  | nil => rw [List.map_nil, PyData.canLayAll0]
  | cons x xs ih => rw [List.map_cons, PyData.canLayAll0, ih]; unfold nD; rw [PyData.canLay0]; rfl
theorem lay_tN (w : List Nat) : (tN w).canLay0 = true := by unfold tN; rw [PyData.canLay0]; exact lay_nDs w
theorem lay_tNs (w : List (List Nat)) : PyData.canLayAll0 (w.map tN) = true := by
  induction w with
  | nil => rw [List.map_nil, PyData.canLayAll0]
  | cons x xs ih => rw [List.map_cons, PyData.canLayAll0, ih, lay_tN]; rfl
theorem lay_fN (w : List (List Nat)) : (fN w).canLay0 = true := by unfold fN; rw [PyData.canLay0]; exact lay_tNs w
theorem shaped_tN (w : List Nat) : SeqAt.shaped (tN w) = true := by
  unfold SeqAt.shaped
  rw [lay_tN, depth_tN]; rfl
theorem shaped_fN (w : List (List Nat)) : SeqAt.shaped (fN w) = true := by
  unfold SeqAt.shaped
  rw [lay_fN]
  have : (fN w).depth ≤ 64 := by
    show PyData.depthAll (w.map tN) + 1 ≤ 64
    have := depth_tNs w
    omega
  simp [this]
theorem eqv_nD (a b : Nat) : PyData.eqv (nD a) (nD b) = decide (a = b) := by
  unfold nD
  rw [PyData.eqv]
  by_cases h : a = b
  · subst h; simp
  · have h3 : ¬ ((a : Int) = (b : Int)) := fun e => h (Int.ofNat.inj e)
    simp [h, h3]
theorem eqv_nDs : ∀ a b : List Nat, PyData.eqvAll (a.map nD) (b.map nD) = decide (a = b)
  | [], [] => by simp [PyData.eqvAll]
  | [], _ :: _ => by simp [PyData.eqvAll]
  | _ :: _, [] => by simp [PyData.eqvAll]
  | x :: xs, y :: ys => by
    rw [List.map_cons, List.map_cons, PyData.eqvAll, eqv_nD, eqv_nDs xs ys]
    by_cases h : x = y <;> simp [h]
theorem eqv_tN (a b : List Nat) : PyData.eqv (tN a) (tN b) = decide (a = b) := by
  unfold tN
  rw [PyData.eqv]
  exact eqv_nDs a b
theorem eqv_tNs : ∀ a b : List (List Nat), PyData.eqvAll (a.map tN) (b.map tN) = decide (a = b)
  | [], [] => by simp [PyData.eqvAll]
  | [], _ :: _ => by simp [PyData.eqvAll]
  | _ :: _, [] => by simp [PyData.eqvAll]
  | x :: xs, y :: ys => by
    rw [List.map_cons, List.map_cons, PyData.eqvAll, eqv_tN, eqv_tNs xs ys]
    by_cases h : x = y <;> simp [h]
@[simp] theorem ndEq_tN {a b : List Nat} : nd2 pEq (tN a) (tN b) = some (decide (a = b)) := by
  refine nd2_some ?_ (noDict_tN a) (noDict_tN b)
  unfold pEq
  rw [shaped_tN, shaped_tN]
  show some (PyData.eqv (tN a) (tN b)) = _
  rw [eqv_tN]
theorem noDict_fN (a : List (List Nat)) : noDict (fN a) = true := noDict_tNs a
@[simp] theorem ndEq_fN {a b : List (List Nat)} : nd2 pEq (fN a) (fN b) = some (decide (a = b)) := by
  refine nd2_some ?_ (noDict_fN a) (noDict_fN b)
  unfold pEq
  rw [shaped_fN, shaped_fN]
  show some (PyData.eqv (fN a) (fN b)) = _
  unfold fN
  rw [PyData.eqv, eqv_tNs]
@[simp] theorem ndIn_tN {t : Nat} {w : List Nat} : nd2 pIn (.int (t : Int)) (tN w) = some (decide (t ∈ w)) := pIn_tN t w
@[simp] theorem ndNotIn_tN {t : Nat} {w : List Nat} : nd2 pNotIn (.int (t : Int)) (tN w) = some (!decide (t ∈ w)) := by
  have h := pIn_tN t w
  unfold nd2 at h ⊢
  split at h
  · rename_i c
    rw [if_pos c]
    unfold pNotIn
    rw [h]; rfl
  · cases h
/-! names of shapes -/
inductive Shp | path | fan | bridge | square deriving DecidableEq
def Shp.s : Shp → Str
  | .path => "path"
  | .fan => "fan"
  | .bridge => "bridge"
  | .square => "square"
def shD (k : Shp) : D := .str k.s
@[simp] theorem shp_fan (k : Shp) : nd2 pEq (shD k) (.str "fan") = some (decide (k = .fan)) := by cases k <;> decide +kernel
@[simp] theorem shp_bridge (k : Shp) : nd2 pEq (shD k) (.str "bridge") = some (decide (k = .bridge)) := by cases k <;> decide +kernel
@[simp] theorem shp_path (k : Shp) : nd2 pEq (shD k) (.str "path") = some (decide (k = .path)) := by cases k <;> decide +kernel
@[simp] theorem shpN_fan (k : Shp) : nd2 pNe (shD k) (.str "fan") = some (!decide (k = .fan)) := by cases k <;> decide +kernel
theorem okd_shD (n : Nat) (k : Shp) : Okd n (shD k) := .str n _ (by cases k <;> decide +kernel)
end L3

namespace L3
open PySem PySem.W PySem.Spec PyProof.Rows L2

/-! ### things in rows and side by side -/
def cross (J W : List (List Nat)) : List (List Nat) := J.flatMap fun w => W.map fun m => srtN (w ++ m)
def crossAll (Ws : List (List (List Nat))) : List (List Nat) := Ws.foldl cross [[]]
abbrev Pt := D × List (List Nat) × List Nat
def ptD (p : Pt) : D := .tuple [p.1, .list (p.2.1.map tN)]
def rowD (ts : List D) : D := .tuple [.str "row", .tuple ts]
def sideD (ts : List D) : D := .tuple [.str "side", .tuple ts]
/-- a term as data, its ways, its things; rows have at most m ways -/
inductive Sp (m : Nat) : D → List (List Nat) → List Nat → Prop
  | leaf (n : Nat) : Sp m (nD n) [[n]] [n]
  | row (ps : List Pt) : (∀ p ∈ ps, Sp m p.1 p.2.1 p.2.2) → 2 ≤ ps.length → ps.length ≤ 3 → (crossAll (ps.map (·.2.1))).length ≤ m → Sp m (rowD (ps.map (·.1))) (crossAll (ps.map (·.2.1))) (ps.flatMap (·.2.2))
  | side (ps : List Pt) : (∀ p ∈ ps, Sp m p.1 p.2.1 p.2.2) → 2 ≤ ps.length → ps.length ≤ 3 → Sp m (sideD (ps.map (·.1))) (ps.flatMap (·.2.1)) (ps.flatMap (·.2.2))

theorem cross_len (J W : List (List Nat)) : (cross J W).length = J.length * W.length := by
  unfold cross
  induction J with
  | nil => simp
  | cons a J ih => rw [List.flatMap_cons, List.length_append, ih, List.length_map, List.length_cons, Nat.add_mul, Nat.one_mul, Nat.add_comm]
theorem cross_mem {J W : List (List Nat)} {v : List Nat} : v ∈ cross J W ↔ ∃ w ∈ J, ∃ m ∈ W, v = srtN (w ++ m) := by
  unfold cross
  rw [List.mem_flatMap]
  constructor
  · rintro ⟨w, hw, hv⟩
    obtain ⟨m, hm, rfl⟩ := List.mem_map.mp hv
    exact ⟨w, hw, m, hm, rfl⟩
  · rintro ⟨w, hw, m, hm, rfl⟩
    exact ⟨w, hw, List.mem_map.mpr ⟨m, hm, rfl⟩⟩
theorem srtN_mem {w : List Nat} {x : Nat} : x ∈ srtN w ↔ x ∈ w := (srtN_perm w).mem_iff
theorem srtN_count (w : List Nat) (x : Nat) : (srtN w).count x = w.count x := (srtN_perm w).count_eq x
/-- what holds of the ways of a term: things in th -/
structure Ways (W : List (List Nat)) (th : List Nat) : Prop where
  nodup : ∀ w ∈ W, w.Nodup
  sub : ∀ w ∈ W, ∀ x ∈ w, x ∈ th
  all : ∀ x ∈ th, ∃ w ∈ W, x ∈ w
  some : W ≠ []
theorem Ways.cross {J W : List (List Nat)} {a b : List Nat} (h1 : Ways J a) (h2 : Ways W b) (hd : ∀ x ∈ a, x ∉ b) : Ways (cross J W) (a ++ b) where
  nodup := fun v hv => by
    obtain ⟨w, hw, m, hm, rfl⟩ := cross_mem.mp hv
    refine (srtN_perm _).nodup_iff.mpr (List.nodup_append.mpr ⟨h1.nodup w hw, h2.nodup m hm, fun x hx y hy e => ?_⟩)
    subst e
    exact hd x (h1.sub w hw x hx) (h2.sub m hm x hy)
  sub := fun v hv x hx => by
    obtain ⟨w, hw, m, hm, rfl⟩ := cross_mem.mp hv
    rw [srtN_mem, List.mem_append] at hx
    rw [List.mem_append]
    rcases hx with hx | hx
    · exact .inl (h1.sub w hw x hx)
    · exact .inr (h2.sub m hm x hx)
  all := fun x hx => by
    obtain ⟨w0, hw0⟩ := List.exists_mem_of_ne_nil _ h1.some
    obtain ⟨m0, hm0⟩ := List.exists_mem_of_ne_nil _ h2.some
    rw [List.mem_append] at hx
    rcases hx with hx | hx
    · obtain ⟨w, hw, hxw⟩ := h1.all x hx
      exact ⟨_, cross_mem.mpr ⟨w, hw, m0, hm0, rfl⟩, srtN_mem.mpr (List.mem_append_left _ hxw)⟩
    · obtain ⟨w, hw, hxw⟩ := h2.all x hx
      exact ⟨_, cross_mem.mpr ⟨w0, hw0, w, hw, rfl⟩, srtN_mem.mpr (List.mem_append_right _ hxw)⟩
  some := fun e => by
    obtain ⟨w0, hw0⟩ := List.exists_mem_of_ne_nil _ h1.some
    obtain ⟨m0, hm0⟩ := List.exists_mem_of_ne_nil _ h2.some
    have := cross_mem.mpr ⟨w0, hw0, m0, hm0, rfl⟩
    rw [e] at this; cases this
theorem ways_unit : Ways [[]] [] where
  nodup := fun w hw => by
    rw [List.mem_singleton.mp hw]; exact List.nodup_nil
  sub := fun w hw x hx => by
    rw [List.mem_singleton.mp hw] at hx; exact hx
  all := fun x hx => by cases hx
  some := by simp
theorem foldl_cross_ways : ∀ (ps : List Pt) (J : List (List Nat)) (a : List Nat), Ways J a → (∀ p ∈ ps, Ways p.2.1 p.2.2) → (a ++ ps.flatMap (·.2.2)).Nodup → Ways ((ps.map (·.2.1)).foldl L3.cross J) (a ++ ps.flatMap (·.2.2))
  | [], J, a, h, _, _ => by simpa using h
  | p :: ps, J, a, h, hp, hn => by
    rw [List.flatMap_cons, ← List.append_assoc] at hn ⊢
    have hn' := List.nodup_append.mp hn
    have hn2 := List.nodup_append.mp hn'.1
    refine foldl_cross_ways ps (L3.cross J p.2.1) (a ++ p.2.2) (h.cross (hp p List.mem_cons_self) fun x hx hy => hn2.2.2 x hx x hy rfl) (fun q hq => hp q (List.mem_cons_of_mem _ hq)) hn
theorem Sp.ways {m : Nat} {t : D} {W : List (List Nat)} {th : List Nat} (h : Sp m t W th) : th.Nodup → Ways W th := by
  induction h with
  | leaf n =>
    intro _
    refine ⟨fun w hw => ?_, fun w hw x hx => ?_, fun x hx => ⟨[n], List.mem_singleton.mpr rfl, hx⟩, by simp⟩
    · rw [List.mem_singleton.mp hw]; simp
    · rw [List.mem_singleton.mp hw] at hx; exact hx
  | row ps hp h2 h3 hm ih =>
    intro hn
    have : ∀ p ∈ ps, Ways p.2.1 p.2.2 := fun p hpm => ih p hpm (by
      have := List.Sublist.nodup (l₁ := p.2.2) (l₂ := ps.flatMap (·.2.2)) ?_ hn
      · exact this
      · rw [List.flatMap_def]; exact List.sublist_flatten_of_mem (List.mem_map_of_mem hpm))
    have := foldl_cross_ways ps [[]] [] ways_unit this (by simpa using hn)
    simpa [crossAll] using this
  | side ps hp h2 h3 ih =>
    intro hn
    have hw : ∀ p ∈ ps, Ways p.2.1 p.2.2 := fun p hpm => ih p hpm (by
      have := List.Sublist.nodup (l₁ := p.2.2) (l₂ := ps.flatMap (·.2.2)) ?_ hn
      · exact this
      · rw [List.flatMap_def]; exact List.sublist_flatten_of_mem (List.mem_map_of_mem hpm))
    refine ⟨fun w h => ?_, fun w h x hx => ?_, fun x hx => ?_, fun e => ?_⟩
    · obtain ⟨p, hpm, hwp⟩ := List.mem_flatMap.mp h
      exact (hw p hpm).nodup w hwp
    · obtain ⟨p, hpm, hwp⟩ := List.mem_flatMap.mp h
      exact List.mem_flatMap.mpr ⟨p, hpm, (hw p hpm).sub w hwp x hx⟩
    · obtain ⟨p, hpm, hxp⟩ := List.mem_flatMap.mp hx
      obtain ⟨w, hwp, hxw⟩ := (hw p hpm).all x hxp
      exact ⟨w, List.mem_flatMap.mpr ⟨p, hpm, hwp⟩, hxw⟩
    · match ps, h2, hw, e with
      | p :: ps, _, hw, e =>
        rw [List.flatMap_cons, List.append_eq_nil_iff] at e
        exact (hw p List.mem_cons_self).some e.1
theorem Sp.things {m : Nat} {t : D} {W : List (List Nat)} {th : List Nat} (h : Sp m t W th) : th ≠ [] := by
  induction h with
  | leaf n => simp
  | row ps hp h2 h3 hm ih =>
    match ps, h2, ih with
    | p :: ps, _, ih =>
      intro e
      rw [List.flatMap_cons, List.append_eq_nil_iff] at e
      exact ih p List.mem_cons_self e.1
  | side ps hp h2 h3 ih =>
    match ps, h2, ih with
    | p :: ps, _, ih =>
      intro e
      rw [List.flatMap_cons, List.append_eq_nil_iff] at e
      exact ih p List.mem_cons_self e.1
theorem foldl_cross_ne : ∀ (ps : List Pt) (J : List (List Nat)), (∀ w ∈ J, w ≠ []) → ∀ w ∈ (ps.map (·.2.1)).foldl cross J, w ≠ []
  | [], J, h => h
  | p :: ps, J, h => by
    rw [List.map_cons, List.foldl_cons]
    refine foldl_cross_ne ps _ fun v hv e => ?_
    obtain ⟨w, hw, m, hm, rfl⟩ := cross_mem.mp hv
    have h0 : w ++ m = [] := by
      have := (srtN_perm (w ++ m)).length_eq
      rw [e] at this
      exact List.length_eq_zero_iff.mp this.symm
    exact h w hw (List.append_eq_nil_iff.mp h0).1
theorem Sp.ne {m : Nat} {t : D} {W : List (List Nat)} {th : List Nat} (h : Sp m t W th) : ∀ w ∈ W, w ≠ [] := by
  induction h with
  | leaf n => intro w hw; simp at hw; subst hw; simp
  | row ps hp h2 h3 hm ih =>
    match ps, h2, ih with
    | p :: ps, _, ih =>
      refine foldl_cross_ne ps _ fun v hv e => ?_
      obtain ⟨w, hw, m, hm, rfl⟩ := cross_mem.mp hv
      have h0 : w ++ m = [] := by
        have := (srtN_perm (w ++ m)).length_eq
        rw [e] at this
        exact List.length_eq_zero_iff.mp this.symm
      exact ih p List.mem_cons_self m hm (List.append_eq_nil_iff.mp h0).2
  | side ps hp h2 h3 ih =>
    intro w hw
    obtain ⟨p, hpm, hwp⟩ := List.mem_flatMap.mp hw
    exact ih p hpm w hwp
/-- at most m ways for each thing -/
theorem Sp.few {m : Nat} (hm1 : 1 ≤ m) {t : D} {W : List (List Nat)} {th : List Nat} (h : Sp m t W th) : W.length ≤ m * th.length := by
  induction h with
  | leaf n => simpa using hm1
  | row ps hp h2 h3 hm ih =>
    have h0 : (Sp.row ps hp h2 h3 hm).things ≠ (Sp.row ps hp h2 h3 hm).things → False := fun h => h rfl
    have : 0 < (ps.flatMap (·.2.2)).length := List.length_pos_iff.mpr (Sp.row ps hp h2 h3 hm).things
    exact Nat.le_trans hm (Nat.le_mul_of_pos_right m this)
  | side ps hp h2 h3 ih =>
    have : ∀ qs : List Pt, (∀ q ∈ qs, q.2.1.length ≤ m * q.2.2.length) → (qs.flatMap (·.2.1)).length ≤ m * (qs.flatMap (·.2.2)).length := by
      intro qs
      induction qs with
      | nil => intro _; simp
      | cons q qs ih2 =>
        intro hq
        rw [List.flatMap_cons, List.flatMap_cons, List.length_append, List.length_append, Nat.mul_add]
        have h1 := hq q List.mem_cons_self
        have h2 := ih2 fun q hq' => hq q (List.mem_cons_of_mem _ hq')
        omega
    exact this ps ih
/-- the ways' number, along the parts -/
theorem crossAll_len (Ws : List (List (List Nat))) : ∀ J, (Ws.foldl cross J).length = J.length * (Ws.map List.length).foldl (· * ·) 1 := by
  have key : ∀ (l : List Nat) (a b : Nat), l.foldl (· * ·) (a * b) = a * l.foldl (· * ·) b := by
    intro l
    induction l with
    | nil => intro a b; rfl
    | cons x l ih => intro a b; rw [List.foldl_cons, List.foldl_cons, Nat.mul_assoc, ih]
  induction Ws with
  | nil => intro J; simp
  | cons W Ws ih =>
    intro J
    rw [List.foldl_cons, ih, cross_len, List.map_cons, List.foldl_cons, Nat.one_mul, Nat.mul_assoc]
    congr 1
    have := key (Ws.map List.length) W.length 1
    rw [Nat.mul_one] at this
    exact this.symm
end L3

namespace L3
open PySem PySem.W PySem.Spec PyProof.Rows L2

/-! ### some used way is nowhere less used -/
def Nowhere (W : List (List Nat)) : Prop := ∀ one two : List (List Nat), (∀ w ∈ one, w ∈ W) → (∀ w ∈ two, w ∈ W) → two.length ≤ one.length → one ≠ [] →
  ∃ w ∈ W, ∀ t ∈ w, 0 < one.flatten.count t ∧ two.flatten.count t ≤ one.flatten.count t
theorem flat_zero {l : List (List Nat)} {t : Nat} (h : ∀ w ∈ l, t ∉ w) : l.flatten.count t = 0 := by
  rw [List.count_eq_zero]
  intro hm
  obtain ⟨w, hw, ht⟩ := List.mem_flatten.mp hm
  exact h w hw ht
theorem flat_split (l : List (List Nat)) (p : List Nat → Bool) (t : Nat) : l.flatten.count t = (l.filter p).flatten.count t + (l.filter fun w => !p w).flatten.count t := by
  induction l with
  | nil => rfl
  | cons w l ih =>
    rw [List.flatten_cons, List.count_append, ih, List.filter_cons, List.filter_cons]
    by_cases h : p w = true
    · rw [if_pos h, if_neg (by simp [h]), List.flatten_cons, List.count_append]; omega
    · rw [if_neg h, if_pos (by simp [h]), List.flatten_cons, List.count_append]; omega
theorem len_split (l : List (List Nat)) (p : List Nat → Bool) : l.length = (l.filter p).length + (l.filter fun w => !p w).length := by
  induction l with
  | nil => rfl
  | cons w l ih =>
    rw [List.filter_cons, List.filter_cons, List.length_cons, ih]
    by_cases h : p w = true
    · rw [if_pos h, if_neg (by simp [h]), List.length_cons]; omega
    · rw [if_neg h, if_pos (by simp [h]), List.length_cons]; omega
theorem nowhere_side {A B : List (List Nat)} {a b : List Nat} (hA : Nowhere A) (hB : Nowhere B) (sa : ∀ w ∈ A, ∀ x ∈ w, x ∈ a) (sb : ∀ w ∈ B, ∀ x ∈ w, x ∈ b) (hd : ∀ x ∈ a, x ∉ b) : Nowhere (A ++ B) := by
  intro one two h1 h2 hl hne
  let p : List Nat → Bool := fun w => decide (w ∈ A)
  have ia : ∀ l : List (List Nat), ∀ w ∈ l.filter p, w ∈ A := fun l w hw => by
    have := (List.mem_filter.mp hw).2
    exact of_decide_eq_true this
  have ib : ∀ l : List (List Nat), (∀ w ∈ l, w ∈ A ++ B) → ∀ w ∈ l.filter (fun w => !p w), w ∈ B := fun l hl w hw => by
    have hm := List.mem_filter.mp hw
    have hn : ¬ w ∈ A := by simpa [p] using hm.2
    rcases List.mem_append.mp (hl w hm.1) with h | h
    · exact absurd h hn
    · exact h
  have l1 := len_split one p
  have l2 := len_split two p
  have hpos : 0 < one.length := List.length_pos_iff.mpr hne
  by_cases hc : (two.filter p).length ≤ (one.filter p).length ∧ 0 < (one.filter p).length
  · obtain ⟨w, hw, hg⟩ := hA _ _ (ia one) (ia two) hc.1 (List.length_pos_iff.mp hc.2)
    refine ⟨w, List.mem_append_left _ hw, fun t ht => ?_⟩
    have g := hg t ht
    have c1 := flat_split one p t
    have c2 := flat_split two p t
    have z : (two.filter fun w => !p w).flatten.count t = 0 := flat_zero fun v hv htv => hd t (sa w hw t ht) (sb v (ib two h2 v hv) t htv)
    omega
  · have hc2 : (two.filter fun w => !p w).length ≤ (one.filter fun w => !p w).length ∧ 0 < (one.filter fun w => !p w).length := by omega
    obtain ⟨w, hw, hg⟩ := hB _ _ (ib one h1) (ib two h2) hc2.1 (List.length_pos_iff.mp hc2.2)
    refine ⟨w, List.mem_append_right _ hw, fun t ht => ?_⟩
    have g := hg t ht
    have c1 := flat_split one p t
    have c2 := flat_split two p t
    have z : (two.filter p).flatten.count t = 0 := flat_zero fun v hv htv => hd t (sa v (ia two v hv) t htv) (sb w hw t ht)
    omega
theorem nowhere_cross {A B : List (List Nat)} {a b : List Nat} (hA : Nowhere A) (hB : Nowhere B) (sa : ∀ w ∈ A, ∀ x ∈ w, x ∈ a) (sb : ∀ w ∈ B, ∀ x ∈ w, x ∈ b) (hd : ∀ x ∈ a, x ∉ b) : Nowhere (cross A B) := by
  intro one two h1 h2 hl hne
  have ex : ∀ v : List Nat, ∃ p : List Nat × List Nat, v ∈ cross A B → p.1 ∈ A ∧ p.2 ∈ B ∧ v = srtN (p.1 ++ p.2) := fun v => by
    by_cases h : v ∈ cross A B
    · obtain ⟨w, hw, m, hm, e⟩ := cross_mem.mp h
      exact ⟨(w, m), fun _ => ⟨hw, hm, e⟩⟩
    · exact ⟨([], []), fun z => absurd z h⟩
  let f : List Nat → List Nat × List Nat := fun v => (ex v).choose
  have hf : ∀ v ∈ cross A B, (f v).1 ∈ A ∧ (f v).2 ∈ B ∧ v = srtN ((f v).1 ++ (f v).2) := fun v hv => (ex v).choose_spec hv
  have c1 : ∀ l : List (List Nat), (∀ v ∈ l, v ∈ cross A B) → ∀ t, t ∉ b → l.flatten.count t = (l.map fun v => (f v).1).flatten.count t := by
    intro l
    induction l with
    | nil => intro _ t _; rfl
    | cons v l ih =>
      intro hl t ht
      rw [List.flatten_cons, List.map_cons, List.flatten_cons, List.count_append, List.count_append, ih (fun u hu => hl u (List.mem_cons_of_mem _ hu)) t ht]
      obtain ⟨q1, q2, q3⟩ := hf v (hl v List.mem_cons_self)
      have : v.count t = (f v).1.count t := by
        conv => lhs; rw [q3]
        rw [srtN_count, List.count_append]
        have : (f v).2.count t = 0 := List.count_eq_zero.mpr fun z => ht (sb _ q2 t z)
        omega
      omega
  have c2 : ∀ l : List (List Nat), (∀ v ∈ l, v ∈ cross A B) → ∀ t, t ∉ a → l.flatten.count t = (l.map fun v => (f v).2).flatten.count t := by
    intro l
    induction l with
    | nil => intro _ t _; rfl
    | cons v l ih =>
      intro hl t ht
      rw [List.flatten_cons, List.map_cons, List.flatten_cons, List.count_append, List.count_append, ih (fun u hu => hl u (List.mem_cons_of_mem _ hu)) t ht]
      obtain ⟨q1, q2, q3⟩ := hf v (hl v List.mem_cons_self)
      have : v.count t = (f v).2.count t := by
        conv => lhs; rw [q3]
        rw [srtN_count, List.count_append]
        have : (f v).1.count t = 0 := List.count_eq_zero.mpr fun z => ht (sa _ q1 t z)
        omega
      omega
  have m1 : ∀ l : List (List Nat), (∀ v ∈ l, v ∈ cross A B) → ∀ w ∈ l.map fun v => (f v).1, w ∈ A := fun l hl w hw => by
    obtain ⟨v, hv, rfl⟩ := List.mem_map.mp hw
    exact (hf v (hl v hv)).1
  have m2 : ∀ l : List (List Nat), (∀ v ∈ l, v ∈ cross A B) → ∀ w ∈ l.map fun v => (f v).2, w ∈ B := fun l hl w hw => by
    obtain ⟨v, hv, rfl⟩ := List.mem_map.mp hw
    exact (hf v (hl v hv)).2.1
  obtain ⟨w, hw, gw⟩ := hA (one.map fun v => (f v).1) (two.map fun v => (f v).1) (m1 one h1) (m1 two h2) (by simpa using hl) (by simpa using hne)
  obtain ⟨m, hm, gm⟩ := hB (one.map fun v => (f v).2) (two.map fun v => (f v).2) (m2 one h1) (m2 two h2) (by simpa using hl) (by simpa using hne)
  refine ⟨_, cross_mem.mpr ⟨w, hw, m, hm, rfl⟩, fun t ht => ?_⟩
  rw [srtN_mem, List.mem_append] at ht
  rcases ht with ht | ht
  · have hb : t ∉ b := hd t (sa w hw t ht)
    rw [c1 one h1 t hb, c1 two h2 t hb]
    exact gw t ht
  · have ha : t ∉ a := fun z => hd t z (sb m hm t ht)
    rw [c2 one h1 t ha, c2 two h2 t ha]
    exact gm t ht
theorem nowhere_unit : Nowhere [[]] := fun _ _ _ _ _ _ => ⟨[], by simp, fun t ht => by cases ht⟩
theorem nowhere_none : Nowhere [] := fun one two h1 _ _ hne => by
  obtain ⟨w, hw⟩ := List.exists_mem_of_ne_nil _ hne
  cases h1 w hw
theorem nowhere_foldl : ∀ (ps : List Pt) (J : List (List Nat)) (a : List Nat), Nowhere J → (∀ w ∈ J, ∀ x ∈ w, x ∈ a) → (∀ p ∈ ps, Nowhere p.2.1) → (∀ p ∈ ps, ∀ w ∈ p.2.1, ∀ x ∈ w, x ∈ p.2.2) → (a ++ ps.flatMap (·.2.2)).Nodup → Nowhere ((ps.map (·.2.1)).foldl cross J)
  | [], J, a, h, _, _, _, _ => h
  | p :: ps, J, a, h, sa, hp, sp, hn => by
    rw [List.flatMap_cons, ← List.append_assoc] at hn
    have hn2 := List.nodup_append.mp (List.nodup_append.mp hn).1
    refine nowhere_foldl ps (cross J p.2.1) (a ++ p.2.2) (nowhere_cross h (hp p List.mem_cons_self) sa (sp p List.mem_cons_self) fun x hx hy => hn2.2.2 x hx x hy rfl) (fun v hv x hx => ?_) (fun q hq => hp q (List.mem_cons_of_mem _ hq)) (fun q hq => sp q (List.mem_cons_of_mem _ hq)) hn
    obtain ⟨w, hw, m, hm, rfl⟩ := cross_mem.mp hv
    rw [srtN_mem, List.mem_append] at hx
    rw [List.mem_append]
    rcases hx with hx | hx
    · exact .inl (sa w hw x hx)
    · exact .inr (sp p List.mem_cons_self m hm x hx)
theorem nowhere_flat : ∀ (ps : List Pt), (∀ p ∈ ps, Nowhere p.2.1) → (∀ p ∈ ps, ∀ w ∈ p.2.1, ∀ x ∈ w, x ∈ p.2.2) → (ps.flatMap (·.2.2)).Nodup → Nowhere (ps.flatMap (·.2.1))
  | [], _, _, _ => nowhere_none
  | p :: ps, hp, sp, hn => by
    rw [List.flatMap_cons] at hn ⊢
    have hn2 := List.nodup_append.mp hn
    refine nowhere_side (hp p List.mem_cons_self) (nowhere_flat ps (fun q hq => hp q (List.mem_cons_of_mem _ hq)) (fun q hq => sp q (List.mem_cons_of_mem _ hq)) hn2.2.1) (sp p List.mem_cons_self) (b := ps.flatMap (·.2.2)) (fun w hw x hx => ?_) fun x hx hy => hn2.2.2 x hx x hy rfl
    obtain ⟨q, hq, hwq⟩ := List.mem_flatMap.mp hw
    exact List.mem_flatMap.mpr ⟨q, hq, sp q (List.mem_cons_of_mem _ hq) w hwq x hx⟩
theorem part_nodup {ps : List Pt} (hn : (ps.flatMap (·.2.2)).Nodup) : ∀ p ∈ ps, p.2.2.Nodup := fun p hpm => by
  refine List.Sublist.nodup ?_ hn
  rw [List.flatMap_def]; exact List.sublist_flatten_of_mem (List.mem_map_of_mem hpm)
theorem Sp.nowhere {m : Nat} {t : D} {W : List (List Nat)} {th : List Nat} (h : Sp m t W th) : th.Nodup → Nowhere W := by
  induction h with
  | leaf n =>
    intro _ one two h1 h2 hl hne
    refine ⟨[n], by simp, fun t ht => ?_⟩
    have e : t = n := by simpa using ht
    subst e
    have key : ∀ l : List (List Nat), (∀ w ∈ l, w ∈ [[t]]) → l.flatten.count t = l.length := by
      intro l
      induction l with
      | nil => intro _; rfl
      | cons w l ih =>
        intro hl
        have e : w = [t] := by simpa using hl w List.mem_cons_self
        subst e
        rw [List.flatten_cons, List.count_append, ih fun u hu => hl u (List.mem_cons_of_mem _ hu), List.length_cons]
        simp; omega
    rw [key one h1, key two h2]
    exact ⟨List.length_pos_iff.mpr hne, hl⟩
  | row ps hp h2 h3 hm ih =>
    intro hn
    have pn := part_nodup hn
    exact nowhere_foldl ps [[]] [] nowhere_unit (fun w hw x hx => by rw [List.mem_singleton.mp hw] at hx; exact hx) (fun p hpm => ih p hpm (pn p hpm)) (fun p hpm => ((hp p hpm).ways (pn p hpm)).sub) (by simpa using hn)
  | side ps hp h2 h3 ih =>
    intro hn
    have pn := part_nodup hn
    exact nowhere_flat ps (fun p hpm => ih p hpm (pn p hpm)) (fun p hpm => ((hp p hpm).ways (pn p hpm)).sub) hn
end L3

namespace L3
open PySem PySem.W PySem.Spec PyProof.Rows L2

theorem three_small : ∀ a < 13, ∀ b < 13, ∀ c < 13, a + b + c ≤ 12 → a * b * c ≤ 64 := by decide +kernel
theorem two_small : ∀ a < 13, ∀ b < 13, a + b ≤ 12 → a * b ≤ 36 := by decide +kernel
/-- few enough ways, all along -/
theorem cross_small {m : Nat} (hm1 : 1 ≤ m) (hm : m ≤ 60) {ps : List Pt} (hp : ∀ p ∈ ps, Sp m p.1 p.2.1 p.2.2) (h3 : ps.length ≤ 3) (hl : (ps.flatMap (·.2.2)).length ≤ 12) (j : Nat) : (((ps.take j).map (·.2.1)).foldl cross [[]]).length ≤ 13824000 := by
  have fw : ∀ p ∈ ps, p.2.1.length ≤ 60 * p.2.2.length := fun p hpm => Nat.le_trans ((hp p hpm).few hm1) (Nat.mul_le_mul_right _ hm)
  rw [crossAll_len]
  match ps, hp, h3, hl, fw with
  | [], _, _, _, _ => simp
  | [p], _, _, hl, fw =>
    have h1 := fw p (by simp)
    simp at hl
    match j with
    | 0 => simp
    | j + 1 => simp; omega
  | [p, q], _, _, hl, fw =>
    have h1 := fw p (by simp)
    have h2 := fw q (by simp)
    simp at hl
    have h12 := Nat.mul_le_mul h1 h2
    have e12 : 60 * p.2.2.length * (60 * q.2.2.length) = 3600 * (p.2.2.length * q.2.2.length) := by
      rw [Nat.mul_mul_mul_comm]
    have t := two_small p.2.2.length (by omega) q.2.2.length (by omega) (by omega)
    match j with
    | 0 => simp
    | 1 => simp; omega
    | j + 2 => simp; omega
  | [p, q, r], _, _, hl, fw =>
    have h1 := fw p (by simp)
    have h2 := fw q (by simp)
    have h3 := fw r (by simp)
    simp at hl
    have h12 := Nat.mul_le_mul h1 h2
    have h123 := Nat.mul_le_mul h12 h3
    have e12 : 60 * p.2.2.length * (60 * q.2.2.length) = 3600 * (p.2.2.length * q.2.2.length) := by
      rw [Nat.mul_mul_mul_comm]
    have e123 : 60 * p.2.2.length * (60 * q.2.2.length) * (60 * r.2.2.length) = 216000 * (p.2.2.length * q.2.2.length * r.2.2.length) := by
      rw [e12, Nat.mul_mul_mul_comm]
    have t := two_small p.2.2.length (by omega) q.2.2.length (by omega) (by omega)
    have t3 := three_small p.2.2.length (by omega) q.2.2.length (by omega) r.2.2.length (by omega) (by omega)
    match j with
    | 0 => simp
    | 1 => simp; omega
    | 2 => simp; omega
    | j + 3 => simp; omega
theorem flat_small {m : Nat} (hm1 : 1 ≤ m) (hm : m ≤ 60) : ∀ {ps : List Pt}, (∀ p ∈ ps, Sp m p.1 p.2.1 p.2.2) → (ps.flatMap (·.2.1)).length ≤ 60 * (ps.flatMap (·.2.2)).length
  | [], _ => by simp
  | p :: ps, hp => by
    have h1 := flat_small hm1 hm fun q hq => hp q (List.mem_cons_of_mem _ hq)
    have h2 := Nat.le_trans ((hp p List.mem_cons_self).few hm1) (Nat.mul_le_mul_right _ hm)
    rw [List.flatMap_cons, List.flatMap_cons, List.length_append, List.length_append]
    omega
theorem cross_take {J W : List (List Nat)} {i : Nat} {w : List Nat} (h : J[i]? = some w) : cross (J.take (i + 1)) W = cross (J.take i) W ++ W.map fun m => srtN (w ++ m) := by
  unfold cross
  rw [List.take_add_one, h, List.flatMap_append]
  simp
theorem erase_map {α β : Type} (e : α → β) : ∀ (xs : List α) (d : Nat), (xs.map e).eraseIdx d = (xs.eraseIdx d).map e
  | [], _ => rfl
  | x :: xs, 0 => rfl
  | x :: xs, d + 1 => by
    show e x :: (xs.map e).eraseIdx d = e x :: (xs.eraseIdx d).map e
    rw [erase_map e xs d]
theorem popAt_map {α : Type} (e : α → D) {ps : List α} {d : Nat} (h : d < ps.length) (hl : ps.length ≤ sizeLine) : mPopAt (ps.map e) [.int (d : Int)] = some (e ps[d], (ps.eraseIdx d).map e) := by
  rw [popAt_n (by rw [List.length_map]; exact h) (by rw [List.length_map]; exact hl), List.getElem_map, erase_map]
@[simp] theorem pAdd_tN {w m : List Nat} : pAdd (tN w) (tN m) = if w.length + m.length ≤ sizeLine then some (.t ((w ++ m).map nD)) else none := by
  show (if (w.map nD).length + (m.map nD).length ≤ sizeLine then some (PO.t (w.map nD ++ m.map nD)) else none) = _
  rw [List.length_map, List.length_map, List.map_append]
@[simp high] theorem sorted_nDs {w : List Nat} : pSorted [.tuple (w.map nD)] = if w.length ≤ sizeLine then some (.l ((srtN w).map nD)) else none := by
  show (if sortOk (w.map nD) then some (PO.l ((w.map nD).mergeSort (dataLe false id))) else none) = _
  rw [sort_ints]
  by_cases h : w.length ≤ sizeLine
  · rw [if_pos h, if_pos (sortOk_ints h)]
  · have : sortOk (w.map nD) = false := by
      unfold sortOk
      rw [List.length_map]
      simp [h]
    rw [if_neg h, this]; rfl
theorem foldl_long {k : Nat} : ∀ (ps : List Pt) (J : List (List Nat)) (c : Nat), (∀ w ∈ J, w.length ≤ c) → (∀ p ∈ ps, ∀ w ∈ p.2.1, w.length ≤ k) → ∀ w ∈ (ps.map (·.2.1)).foldl cross J, w.length ≤ c + k * ps.length
  | [], J, c, h, _ => h
  | p :: ps, J, c, h, hp => by
    intro w hw
    have := foldl_long ps (cross J p.2.1) (c + k) (fun v hv => by
      obtain ⟨x, hx, m, hm, rfl⟩ := cross_mem.mp hv
      rw [(srtN_perm _).length_eq, List.length_append]
      have h1 := h x hx
      have h2 := hp p List.mem_cons_self m hm
      omega) (fun q hq => hp q (List.mem_cons_of_mem _ hq)) w hw
    rw [List.length_cons, Nat.mul_add]
    omega
@[simp] theorem ptD_0 {p : Pt} : pIx (ptD p) (.int 0) = some (.d p.1) := rfl
@[simp] theorem ptD_1 {p : Pt} : pIx (ptD p) (.int 1) = some (.d (.list (p.2.1.map tN))) := rfl
theorem sorted_ways {W : List (List Nat)} (h : W.length ≤ sizeLine) (hn : ∀ w ∈ W, w ≠ []) : pSorted [.list (W.map tN)] = some (.l ((srtW W).map tN)) := by
  rw [pSorted_list, if_pos (sortOk_ways h hn), sort_ways]
theorem len_le_of_sub : ∀ {w th : List Nat}, w.Nodup → (∀ x ∈ w, x ∈ th) → w.length ≤ th.length
  | [], _, _, _ => Nat.zero_le _
  | x :: xs, th, hn, hs => by
    rw [List.nodup_cons] at hn
    have hx := hs x List.mem_cons_self
    have := len_le_of_sub (w := xs) (th := th.erase x) hn.2 fun y hy => (List.mem_erase_of_ne (show y ≠ x from fun e => hn.1 (by rw [← e]; exact hy))).mpr (hs y (List.mem_cons_of_mem _ hy))
    rw [List.length_erase_of_mem hx] at this
    have : 0 < th.length := List.length_pos_of_mem hx
    rw [List.length_cons]
    omega
theorem row_row : nd2 pEq (.str "row") (.str "row") = some true := by decide +kernel
theorem side_row : nd2 pEq (.str "side") (.str "row") = some false := by decide +kernel
theorem mem_map_at {α : Type} {e : α → D} {xs : List α} {i : Nat} {d : D} (h : (xs.map e)[i]? = some d) : ∃ x, xs[i]? = some x ∧ d = e x := by
  rw [List.getElem?_map] at h
  cases hx : xs[i]? with
  | none => rw [hx] at h; cases h
  | some x => rw [hx] at h; exact ⟨x, rfl, (Option.some.inj h).symm⟩
end L3

namespace L3
open PySem PySem.W PySem.Spec PyProof.Rows L2

/-- a family of n things, 0 .. n - 1 -/
structure Fam (F : List (List Nat)) (n : Nat) : Prop where
  some : 1 ≤ F.length
  few : F.length ≤ 1000
  ne : ∀ w ∈ F, w ≠ []
  nodup : ∀ w ∈ F, w.Nodup
  dense : ∀ x, (∃ w ∈ F, x ∈ w) ↔ x < n
  flat : F.flatten.length ≤ 100000
  small : n ≤ 12
theorem Fam.lt {F : List (List Nat)} {n : Nat} (h : Fam F n) : ∀ w ∈ F, ∀ t ∈ w, t < n := fun w hw t ht => (h.dense t).mp ⟨w, hw, ht⟩
theorem Fam.joined {F : List (List Nat)} {n : Nat} (h : Fam F n) : (joinedN F).length = n := joinedN_range h.dense
theorem Fam.nil {F : List (List Nat)} {n : Nat} (h : Fam F n) : F ≠ [] := fun e => by have := h.some; rw [e] at this; cases this
theorem flat_le {k : Nat} : ∀ {F : List (List Nat)}, (∀ w ∈ F, w.length ≤ k) → F.flatten.length ≤ k * F.length
  | [], _ => by simp
  | w :: F, h => by
    rw [List.flatten_cons, List.length_append, List.length_cons, Nat.mul_add]
    have h1 := h w List.mem_cons_self
    have h2 := flat_le fun v hv => h v (List.mem_cons_of_mem _ hv)
    omega
theorem Sp.fam {m : Nat} {t : D} {W : List (List Nat)} {th : List Nat} {n : Nat} (h : Sp m t W th) (hm1 : 1 ≤ m) (hm : m ≤ 60) (hth : th.Perm (List.range n)) (hn : n ≤ 12) : Fam (srtW W) n where
  some := by
    have := (h.ways (hth.nodup_iff.mpr List.nodup_range)).some
    rw [(srtW_perm W).length_eq]
    exact List.length_pos_iff.mpr this
  few := by
    rw [(srtW_perm W).length_eq]
    have h1 := h.few hm1
    have h2 : th.length = n := by rw [hth.length_eq, List.length_range]
    have h3 : m * th.length ≤ 60 * 12 := Nat.mul_le_mul hm (by omega)
    omega
  ne := fun w hw => h.ne w ((srtW_perm W).mem_iff.mp hw)
  nodup := fun w hw => (h.ways (hth.nodup_iff.mpr List.nodup_range)).nodup w ((srtW_perm W).mem_iff.mp hw)
  dense := fun x => by
    have hw := h.ways (hth.nodup_iff.mpr List.nodup_range)
    constructor
    · rintro ⟨w, hw1, hx⟩
      have := hw.sub w ((srtW_perm W).mem_iff.mp hw1) x hx
      exact List.mem_range.mp (hth.mem_iff.mp this)
    · intro hx
      obtain ⟨w, hw1, hx1⟩ := hw.all x (hth.mem_iff.mpr (List.mem_range.mpr hx))
      exact ⟨w, (srtW_perm W).mem_iff.mpr hw1, hx1⟩
  flat := by
    have hw := h.ways (hth.nodup_iff.mpr List.nodup_range)
    have h2 : th.length = n := by rw [hth.length_eq, List.length_range]
    have h1 : (srtW W).flatten.length ≤ 12 * (srtW W).length := flat_le fun w hw1 => by
      have := len_le_of_sub (hw.nodup w ((srtW_perm W).mem_iff.mp hw1)) (hw.sub w ((srtW_perm W).mem_iff.mp hw1))
      omega
    have h3 := h.few hm1
    have h4 : m * th.length ≤ 60 * 12 := Nat.mul_le_mul hm (by omega)
    rw [(srtW_perm W).length_eq] at h1
    omega
  small := hn
theorem Nowhere.perm {A B : List (List Nat)} (h : Nowhere A) (p : ∀ w, w ∈ A ↔ w ∈ B) : Nowhere B := fun one two h1 h2 hl hne => by
  obtain ⟨w, hw, hg⟩ := h one two (fun w hw => (p w).mpr (h1 w hw)) (fun w hw => (p w).mpr (h2 w hw)) hl hne
  exact ⟨w, (p w).mp hw, hg⟩
theorem occ_map (F : List (List Nat)) (st : List Nat) : occ F st = (st.map fun j => F.getD j []).flatten := List.flatMap_def
theorem getD_mem {F : List (List Nat)} {j : Nat} (h : j < F.length) : F.getD j [] ∈ F := by
  rw [List.getD_eq_getElem?_getD, List.getElem?_eq_getElem h]
  exact List.getElem_mem h
/-- of two states of as many comers, or fewer in the second -/
theorem Nowhere.states {F : List (List Nat)} (h : Nowhere F) {s1 s2 : List Nat} (h1 : ∀ j ∈ s1, j < F.length) (h2 : ∀ j ∈ s2, j < F.length) (hl : s2.length ≤ s1.length) (hne : 0 < s1.length) : ∃ w ∈ F, ∀ t ∈ w, 0 < (occ F s1).count t ∧ (occ F s2).count t ≤ (occ F s1).count t := by
  rw [occ_map, occ_map]
  refine h _ _ (fun w hw => ?_) (fun w hw => ?_) (by rw [List.length_map, List.length_map]; exact hl) ?_
  · obtain ⟨j, hj, rfl⟩ := List.mem_map.mp hw
    exact getD_mem (h1 j hj)
  · obtain ⟨j, hj, rfl⟩ := List.mem_map.mp hw
    exact getD_mem (h2 j hj)
  · intro e
    have := congrArg List.length e
    rw [List.length_map] at this
    simp at this
    rw [this] at hne
    simp at hne
end L3

namespace L3
open PySem PySem.W PySem.Spec PyProof.Rows L2

theorem leN_eq (a b : Nat) : leN a b = decide (a ≤ b) := by
  have h : leN a b = !(PyProof.Rows.lexLt itemOrd [Sum.inl (b : Int)] [Sum.inl (a : Int)]) := by
    unfold leN dataLe sortLe nD
    simp only [id, keyToks]
    rfl
  rw [h, PyProof.Rows.lex_cons]
  show (!(decide ((b : Int) < a) || (!decide ((a : Int) < b) && PyProof.Rows.lexLt itemOrd [] []))) = _
  have e : PyProof.Rows.lexLt itemOrd [] [] = false := by first | rfl | rw [PyProof.Rows.lexLt]
  rw [e]
  by_cases h : a ≤ b
  · have h2 : ¬ ((b : Int) < a) := by omega
    simp [h, h2]
  · have h2 : ((b : Int) < a) := by omega
    simp [h, h2]
theorem srtN_sorted (w : List Nat) : (srtN w).Pairwise fun a b => a ≤ b := by
  have := List.pairwise_mergeSort (le := leN) (fun a b c h1 h2 => by rw [leN_eq] at *; simp at *; omega) (fun a b => by rw [leN_eq, leN_eq]; simp; omega) w
  refine this.imp fun {a b} h => ?_
  rw [leN_eq] at h
  exact of_decide_eq_true h
theorem sorted_eq {a b : List Nat} (ha : a.Pairwise fun x y => x ≤ y) (hb : b.Pairwise fun x y => x ≤ y) (p : a.Perm b) : a = b :=
  List.Perm.eq_of_pairwise (le := fun x y => x ≤ y) (fun x y _ _ h1 h2 => Nat.le_antisymm h1 h2) ha hb p
theorem srtN_eq {a b : List Nat} (p : a.Perm b) : srtN a = srtN b := sorted_eq (srtN_sorted a) (srtN_sorted b) ((srtN_perm a).trans (p.trans (srtN_perm b).symm))
theorem joinedN_eq {F : List (List Nat)} {ns : List Nat} (hn : ns.Nodup) (h : ∀ x, (∃ w ∈ F, x ∈ w) ↔ x ∈ ns) : joinedN F = srtN ns := by
  unfold joinedN
  refine srtN_eq ((List.perm_ext_iff_of_nodup (addK_nodup _ _ List.nodup_nil) hn).mpr fun x => ?_)
  rw [addK_mem, ← h]
  simp [List.mem_flatten]
end L3

namespace L3
open PySem PySem.W PySem.Spec PyProof.Rows L2

theorem toks_inj : ∀ {a b : List Nat}, keyToksAll (a.map nD) = keyToksAll (b.map nD) → a = b
  | [], [], _ => rfl
  | [], y :: ys, h => by
    rw [List.map_nil, List.map_cons, keyToksAll, keyToksAll] at h
    simp at h
  | x :: xs, [], h => by
    rw [List.map_nil, List.map_cons, keyToksAll, keyToksAll] at h
    simp at h
  | x :: xs, y :: ys, h => by
    rw [List.map_cons, List.map_cons, keyToksAll, keyToksAll] at h
    unfold nD at h
    rw [keyToks, keyToks] at h
    simp only [List.cons_append, List.nil_append, List.cons.injEq, Sum.inl.injEq, true_and] at h
    have h2 := toks_inj (a := xs) (b := ys) h.2
    rw [Int.ofNat.inj h.1, h2]
theorem leW_def (a b : List Nat) : leW a b = !((listOrd itemOrd).blt (keyToks (tN b)) (keyToks (tN a))) := rfl
theorem leW_tot : TotalLe (sortLe (listOrd itemOrd) false fun w : List Nat => keyToks (tN w)) := sortLe_total _ _ _
theorem leW_anti {a b : List Nat} (h1 : leW a b = true) (h2 : leW b a = true) : a = b := by
  rw [leW_def, Bool.not_eq_true'] at h1 h2
  have := (listOrd itemOrd).total _ _ h2 h1
  unfold tN at this
  rw [keyToks, keyToks] at this
  exact toks_inj this
theorem srtW_sorted (w : List (List Nat)) : (srtW w).Pairwise fun a b => leW a b = true :=
  List.pairwise_mergeSort (le := leW) (fun a b c h1 h2 => leW_tot.trans a b c h1 h2) (fun a b => by rw [Bool.or_eq_true]; exact leW_tot.total a b) w
theorem srtW_eq {a b : List (List Nat)} (p : a.Perm b) : srtW a = srtW b :=
  List.Perm.eq_of_pairwise (le := fun x y => leW x y = true) (fun x y _ _ h1 h2 => leW_anti h1 h2) (srtW_sorted a) (srtW_sorted b) ((srtW_perm a).trans (p.trans (srtW_perm b).symm))
end L3

namespace L3
open PySem PySem.W PySem.Spec PyProof.Rows L2
section
variable {s : S}
def kK (g : Fn) (as : List D) (np : Nat) : M R := fun s => if as.length = np then (match g as [] with
  | .ok r _ => .ok r s
  | _ => .stuck) else .stuck
@[simp ↓] theorem wp_eCallK {g : Fn} {ix : List Nat} {np nu nw : Nat} {fs ks : List (M D)} {dd : List D} {Q : R → S → Prop} : Wp (eCallK g ix np nu nw fs ks dd s) Q = Wp (evs fs (fun us => evs ks fun ws => kK g (arr ix nu nw dd us ws) np) s) Q := rfl
@[simp ↓] theorem wp_kK {g : Fn} {as : List D} {np : Nat} {Q : R → S → Prop} : Wp (kK g as np s) Q = (as.length = np ∧ WpF (g as []) fun r _ => Q r s) := by
  unfold kK
  by_cases h : as.length = np
  · rw [if_pos h]
    cases g as [] with
    | ok r b => simp [h, Wp, WpF]
    | stuck => simp [Wp, WpF]
    | exc _ _ _ => simp [Wp, WpF]
  · rw [if_neg h]
    simp [h, Wp]
@[simp] theorem arr_def {α : Type} {ix : List Nat} {nu nw : Nat} {ds us ws : List α} : arr ix nu nw ds us ws = if us.length = nu ∧ ws.length = nw then ix.filterMap fun i => (us ++ (ws ++ ds))[i]? else [] := rfl
end
end L3

/-! sets of numbers and of ways; least lots; named anew -/
namespace L3
open PySem PySem.W PySem.Spec PyProof.Rows L2

def lN (w : List Nat) : D := .list (w.map nD)
@[simp] theorem itemsM_lN {w : List Nat} : itemsM (lN w) = mret (w.map nD) := rfl
@[simp] theorem pLen_lN {w : List Nat} : pLen [lN w] = some (.d (.int w.length)) := by show some (PO.d (.int ((w.map nD).length : Nat))) = _; rw [List.length_map]
def sN (w : List Nat) : List Nat := srtN (nub w)
def sW (F : List (List Nat)) : List (List Nat) := srtW (nub F)
theorem sN_mem {w : List Nat} {x : Nat} : x ∈ sN w ↔ x ∈ w := by unfold sN; rw [(srtN_perm _).mem_iff, nub_mem]
theorem sN_nodup (w : List Nat) : (sN w).Nodup := (srtN_perm _).nodup_iff.mpr (nub_nodup w)
theorem sN_sorted (w : List Nat) : (sN w).Pairwise fun a b => a ≤ b := srtN_sorted _
theorem sN_lt (w : List Nat) : (sN w).Pairwise fun a b => a < b := ((sN_sorted w).and (sN_nodup w)).imp fun h => by have := h.2; omega
theorem sN_len (w : List Nat) : (sN w).length ≤ w.length := by unfold sN; rw [(srtN_perm _).length_eq]; exact nub_length w
theorem sN_nil {w : List Nat} : sN w = [] ↔ w = [] := by
  constructor
  · intro h
    cases w with
    | nil => rfl
    | cons x w => have : x ∈ sN (x :: w) := sN_mem.mpr List.mem_cons_self; rw [h] at this; cases this
  · rintro rfl; unfold sN srtN nub; exact List.mergeSort_nil
theorem sW_mem {F : List (List Nat)} {x : List Nat} : x ∈ sW F ↔ x ∈ F := by unfold sW; rw [(srtW_perm _).mem_iff, nub_mem]
theorem sW_nodup (F : List (List Nat)) : (sW F).Nodup := (srtW_perm _).nodup_iff.mpr (nub_nodup F)
theorem sW_len (F : List (List Nat)) : (sW F).length ≤ F.length := by unfold sW; rw [(srtW_perm _).length_eq]; exact nub_length F
theorem sW_sorted (F : List (List Nat)) : (sW F).Pairwise fun a b => leW a b = true := srtW_sorted _
theorem sorted_self {w : List Nat} (h : w.Pairwise fun a b => a < b) : sN w = w := by
  have hn : w.Nodup := h.imp fun h => Nat.ne_of_lt h
  exact sorted_eq (sN_sorted w) (h.imp fun h => Nat.le_of_lt h) ((List.perm_ext_iff_of_nodup (sN_nodup w) hn).mpr fun x => sN_mem)
theorem srtN_lt {w : List Nat} (h : w.Nodup) : (srtN w).Pairwise fun a b => a < b := ((srtN_sorted w).and ((srtN_perm w).nodup_iff.mpr h)).imp fun h => by have := h.2; omega

theorem sortI_nat (w : List Nat) : sortI (w.map fun (n : Nat) => (n : Int)) = (sN w).map fun (n : Nat) => (n : Int) := by
  symm
  refine sortI_eq ?_ fun z => ?_
  · rw [List.pairwise_map]
    exact (sN_lt w).imp fun h => by omega
  · rw [List.mem_map, List.mem_map]
    exact ⟨fun ⟨a, h, e⟩ => ⟨a, sN_mem.mp h, e⟩, fun ⟨a, h, e⟩ => ⟨a, sN_mem.mpr h, e⟩⟩
theorem tupI_nat (w : List Nat) : tupI (w.map fun (n : Nat) => (n : Int)) = tN w := by
  unfold tupI tN
  rw [List.map_map]; rfl
theorem leT_nat (a b : List Nat) : leT (a.map fun (n : Nat) => (n : Int)) (b.map fun (n : Nat) => (n : Int)) = leW a b := by
  rw [leT_def, leW_def, tupI_nat, tupI_nat]
theorem cast_inj {a b : List Nat} (h : a.map (fun (n : Nat) => (n : Int)) = b.map fun (n : Nat) => (n : Int)) : a = b :=
  List.map_inj_right (fun x y h => Int.ofNat.inj h) |>.mp h
theorem sortT_nat (F : List (List Nat)) : sortT (F.map fun w => w.map fun (n : Nat) => (n : Int)) = (sW F).map fun w => w.map fun (n : Nat) => (n : Int) := by
  symm
  refine sortT_eq ?_ ?_ fun z => ?_
  · rw [List.pairwise_map]
    exact (sW_sorted F).imp fun h => by rw [leT_nat]; exact h
  · exact List.pairwise_map.mpr ((sW_nodup F).imp fun h e => h (cast_inj e))
  · rw [List.mem_map, List.mem_map]
    exact ⟨fun ⟨a, h, e⟩ => ⟨a, sW_mem.mp h, e⟩, fun ⟨a, h, e⟩ => ⟨a, sW_mem.mpr h, e⟩⟩
theorem tupsOf_tNs (F : List (List Nat)) : tupsOf (F.map tN) = some (F.map fun w => w.map fun (n : Nat) => (n : Int)) := by
  induction F with
  | nil => rfl
  | cons w F ih =>
    show (match intsOf (w.map nD) with | some ns => (tupsOf (F.map tN)).map (ns :: ·) | none => none) = _
    rw [intsOf_nDs, ih]; rfl
@[simp] theorem sortSet_lN {w : List Nat} : pSortSet [lN w] = if w.length < 64 then some (.l ((sN w).map nD)) else none := by
  show (setOf (w.map nD)).map PO.l = _
  unfold setOf
  rw [intsOf_nDs]
  simp only [List.length_map]
  by_cases h : w.length < 64
  · rw [if_pos h, if_pos h, sortI_nat, List.map_map]; rfl
  · rw [if_neg h, if_neg h]; rfl
@[simp] theorem sortSet_tN {w : List Nat} : pSortSet [tN w] = if w.length < 64 then some (.l ((sN w).map nD)) else none := by
  show (match intsOf (w.map nD) with | some ns => if ns.length < 64 then some (PO.l ((sortI ns).map .int)) else none | none => none) = _
  rw [intsOf_nDs]
  simp only [List.length_map]
  by_cases h : w.length < 64
  · rw [if_pos h, if_pos h, sortI_nat, List.map_map]; rfl
  · rw [if_neg h, if_neg h]
theorem sortSet_ways {F : List (List Nat)} (h : F.length < 64) (hn : ∀ w ∈ F, w ≠ []) : pSortSet [.list (F.map tN)] = some (.l ((sW F).map tN)) := by
  show (setOf (F.map tN)).map PO.l = _
  unfold setOf
  cases F with
  | nil =>
    have e : sortI [] = [] := by unfold sortI nub; exact List.mergeSort_nil
    have e2 : sW [] = [] := by unfold sW srtW nub; exact List.mergeSort_nil
    rw [e2]
    show Option.map PO.l (if (0 : Nat) < 64 then some (List.map PyData.int (sortI [])) else none) = _
    rw [e]; rfl
  | cons w F =>
    have e : intsOf ((w :: F).map tN) = none := rfl
    rw [e, tupsOf_tNs]
    have h2 : ((w :: F).map fun w => w.map fun (n : Nat) => (n : Int)).length < 64 ∧ (((w :: F).map fun w => w.map fun (n : Nat) => (n : Int)).all fun w => !w.isEmpty) = true := by
      refine ⟨by simpa using h, ?_⟩
      rw [List.all_eq_true]
      intro v hv
      obtain ⟨u, hu, rfl⟩ := List.mem_map.mp hv
      have := hn u hu
      simpa using this
    simp only
    rw [if_pos h2, sortT_nat]
    show some (PO.l (List.map tupI _)) = _
    rw [List.map_map]
    congr 2
    exact List.map_congr_left fun v _ => tupI_nat v
/-! ### least lots -/
def inN (a b : List Nat) : Bool := a.all fun x => decide (x ∈ b)
theorem inN_iff {a b : List Nat} : inN a b = true ↔ ∀ x ∈ a, x ∈ b := by
  unfold inN
  simp
def leastN (ls : List (List Nat)) : List (List Nat) := (sW (ls.map sN)).filter fun lot => (sW (ls.map sN)).all fun o => decide (o = lot) || !inN o lot
theorem leastN_mem {ls : List (List Nat)} {w : List Nat} : w ∈ leastN ls ↔ (∃ l ∈ ls, sN l = w) ∧ ∀ l ∈ ls, inN (sN l) w = true → sN l = w := by
  unfold leastN
  simp only [List.mem_filter, List.all_eq_true, sW_mem, List.mem_map, forall_exists_index, and_imp, forall_apply_eq_imp_iff₂]
  refine and_congr .rfl ⟨fun h l hl hi => ?_, fun h l hl => ?_⟩
  · have := h l hl
    rw [hi] at this
    simpa using this
  · by_cases hi : inN (sN l) w = true
    · rw [h l hl hi]; simp
    · rw [Bool.not_eq_true] at hi
      rw [hi]; simp
theorem leastN_nodup (ls : List (List Nat)) : (leastN ls).Nodup := (sW_nodup _).sublist List.filter_sublist
theorem leastN_sorted (ls : List (List Nat)) : (leastN ls).Pairwise fun a b => leW a b = true := (sW_sorted _).sublist List.filter_sublist
theorem leastN_len (ls : List (List Nat)) : (leastN ls).length ≤ ls.length := by
  refine Nat.le_trans List.filter_sublist.length_le (Nat.le_trans (sW_len _) ?_)
  rw [List.length_map]
  exact Nat.le_refl _
theorem nodup_sub_len {a b : List Nat} (ha : a.Nodup) (h : ∀ x ∈ a, x ∈ b) : a.length ≤ b.length := len_le_of_sub ha h
theorem sub_eq_of_len {a b : List Nat} (ha : a.Pairwise fun x y => x < y) (hb : b.Pairwise fun x y => x < y) (h : ∀ x ∈ a, x ∈ b) (hl : b.length ≤ a.length) : a = b := by
  have na : a.Nodup := ha.imp fun h => Nat.ne_of_lt h
  have nb : b.Nodup := hb.imp fun h => Nat.ne_of_lt h
  have hsub : ∀ x ∈ b, x ∈ a := by
    intro x hx
    rcases Classical.em (x ∈ a) with h1 | h1
    · exact h1
    · have : (x :: a).length ≤ b.length := len_le_of_sub (List.nodup_cons.mpr ⟨h1, na⟩) fun y hy => by
        rcases List.mem_cons.mp hy with rfl | hy
        · exact hx
        · exact h y hy
      simp at this
      omega
  exact sorted_eq (ha.imp fun h => Nat.le_of_lt h) (hb.imp fun h => Nat.le_of_lt h) ((List.perm_ext_iff_of_nodup na nb).mpr fun x => ⟨h x, hsub x⟩)
/-- each lot has a least one within -/
theorem leastN_below {ls : List (List Nat)} : ∀ (n : Nat) (l : List Nat), l ∈ ls → (sN l).length ≤ n → ∃ w ∈ leastN ls, ∀ x ∈ w, x ∈ l := by
  intro n
  induction n with
  | zero =>
    intro l hl hn
    refine ⟨sN l, leastN_mem.mpr ⟨⟨l, hl, rfl⟩, fun m hm hi => ?_⟩, fun x hx => sN_mem.mp hx⟩
    exact sub_eq_of_len (sN_lt m) (sN_lt l) (inN_iff.mp hi) (by omega)
  | succ n ih =>
    intro l hl hn
    by_cases h : ∀ m ∈ ls, inN (sN m) (sN l) = true → sN m = sN l
    · exact ⟨sN l, leastN_mem.mpr ⟨⟨l, hl, rfl⟩, h⟩, fun x hx => sN_mem.mp hx⟩
    · have h : ∃ m ∈ ls, inN (sN m) (sN l) = true ∧ sN m ≠ sN l := by
        rcases Classical.em (∃ m ∈ ls, inN (sN m) (sN l) = true ∧ sN m ≠ sN l) with q | q
        · exact q
        · exact absurd (fun m hm hi => Classical.byContradiction fun hne => q ⟨m, hm, hi, hne⟩) h
      obtain ⟨m, hm, hi, hne⟩ := h
      have hi := inN_iff.mp hi
      have hlt : (sN m).length < (sN l).length := by
        rcases Nat.lt_or_ge (sN m).length (sN l).length with q | q
        · exact q
        · exact absurd (sub_eq_of_len (sN_lt m) (sN_lt l) hi q) hne
      obtain ⟨w, hw, hs⟩ := ih m hm (by omega)
      exact ⟨w, hw, fun x hx => sN_mem.mp (hi x (sN_mem.mpr (hs x hx)))⟩
theorem leastN_ne {ls : List (List Nat)} (h : ls ≠ []) : leastN ls ≠ [] := by
  cases ls with
  | nil => exact absurd rfl h
  | cons l ls =>
    obtain ⟨w, hw, _⟩ := leastN_below (ls := l :: ls) _ l List.mem_cons_self (Nat.le_refl _)
    exact fun e => by rw [e] at hw; cases hw
theorem leastN_way {ls : List (List Nat)} {w : List Nat} (h : w ∈ leastN ls) : w.Pairwise fun a b => a < b := by
  obtain ⟨⟨l, _, rfl⟩, _⟩ := leastN_mem.mp h
  exact sN_lt l
theorem leastN_anti {ls : List (List Nat)} {v w : List Nat} (hv : v ∈ leastN ls) (hw : w ∈ leastN ls) (h : ∀ x ∈ v, x ∈ w) : v = w := by
  obtain ⟨⟨l, hl, rfl⟩, _⟩ := leastN_mem.mp hv
  exact (leastN_mem.mp hw).2 l hl (inN_iff.mpr h)

/-! ### lists of ones -/
theorem lay_lN (w : List Nat) : (lN w).canLay0 = true := by unfold lN; rw [PyData.canLay0]; exact lay_nDs w
theorem depth_lN (a : List Nat) : (lN a).depth = 1 := by
  show PyData.depthAll (a.map nD) + 1 = 1; rw [depth_nDs]
theorem shaped_lN (w : List Nat) : SeqAt.shaped (lN w) = true := by
  unfold SeqAt.shaped
  rw [lay_lN, depth_lN]; rfl
theorem eqv_lN (a b : List Nat) : PyData.eqv (lN a) (lN b) = decide (a = b) := by
  unfold lN
  rw [PyData.eqv]
  exact eqv_nDs a b
theorem noDict_lN (a : List Nat) : noDict (lN a) = true := noDict_nDs a
@[simp] theorem ndEq_lN {a b : List Nat} : nd2 pEq (lN a) (lN b) = some (decide (a = b)) := by
  refine nd2_some ?_ (noDict_lN a) (noDict_lN b)
  unfold pEq
  rw [shaped_lN, shaped_lN]
  show some (PyData.eqv (lN a) (lN b)) = _
  rw [eqv_lN]
theorem ones_lN {α : Type} (xs : List α) : PyData.list (xs.map fun _ => PyData.int 1) = lN (xs.map fun _ => 1) := by
  unfold lN; rw [List.map_map]; rfl
@[simp high] theorem ndEq_ones {α : Type} {xs : List α} : nd2 pEq (.list (xs.map fun _ => .int 1)) (.list []) = some xs.isEmpty := by
  rw [ones_lN, show PyData.list [] = lN [] from rfl, ndEq_lN]
  cases xs <;> simp
@[simp high] theorem ndNe_ones {α : Type} {xs : List α} : nd2 pNe (.list (xs.map fun _ => .int 1)) (.list []) = some (!xs.isEmpty) := by
  have h := ndEq_ones (xs := xs)
  unfold nd2 at h ⊢
  unfold pNe
  split at h
  · rename_i q
    rw [if_pos q, h]; rfl
  · cases h
@[simp] theorem ndNe_tN {a b : List Nat} : nd2 pNe (tN a) (tN b) = some (!decide (a = b)) := by
  have h := ndEq_tN (a := a) (b := b)
  unfold nd2 at h ⊢
  unfold pNe
  split at h
  · rename_i q
    rw [if_pos q, h]; rfl
  · cases h
theorem ones_isEmpty {α : Type} (xs : List α) (p : α → Bool) : (xs.filter p).isEmpty = xs.all fun x => !p x := by
  rw [Bool.eq_iff_iff]
  simp [List.filter_eq_nil_iff]

theorem pIn_lN (t : Nat) (w : List Nat) : nd2 pIn (.int (t : Int)) (lN w) = nd2 pIn (.int (t : Int)) (tN w) := rfl
@[simp] theorem ndIn_lN {t : Nat} {w : List Nat} : nd2 pIn (.int (t : Int)) (lN w) = some (decide (t ∈ w)) := ndIn_tN
@[simp] theorem ndNotIn_lN {t : Nat} {w : List Nat} : nd2 pNotIn (.int (t : Int)) (lN w) = some (!decide (t ∈ w)) := ndNotIn_tN
@[simp] theorem ndIn_ln {t : Nat} {w : List Nat} : nd2 pIn (.int (t : Int)) (.list (w.map nD)) = some (decide (t ∈ w)) := ndIn_tN
@[simp] theorem ndNotIn_ln {t : Nat} {w : List Nat} : nd2 pNotIn (.int (t : Int)) (.list (w.map nD)) = some (!decide (t ∈ w)) := ndNotIn_tN
/-! ### names -/
def nameF (ks : List Nat) (n : Nat) : List (Key × D) := match ks with
  | [] => []
  | k :: ks => (Sum.inl (k : Int), PyData.int (n : Int)) :: nameF ks (n + 1)
def nameK (ks : List Nat) : List (Key × D) := nameF ks 0
theorem nameF_len : ∀ (ks : List Nat) (n : Nat), (nameF ks n).length = ks.length
  | [], _ => rfl
  | k :: ks, n => by show (nameF ks (n + 1)).length + 1 = _; rw [nameF_len]; rfl
theorem nameK_len (ks : List Nat) : (nameK ks).length = ks.length := nameF_len ks 0
theorem nameF_app : ∀ (ks : List Nat) (n x : Nat), nameF (ks ++ [x]) n = nameF ks n ++ [(Sum.inl (x : Int), PyData.int ((n + ks.length : Nat) : Int))]
  | [], n, x => rfl
  | k :: ks, n, x => by
    show _ :: nameF (ks ++ [x]) (n + 1) = _ :: (nameF ks (n + 1) ++ _)
    rw [nameF_app, show n + 1 + ks.length = n + (k :: ks).length from by simp; omega]
theorem nameK_app (ks : List Nat) (x : Nat) : nameK (ks ++ [x]) = nameK ks ++ [(Sum.inl (x : Int), PyData.int (ks.length : Int))] := by
  unfold nameK; rw [nameF_app, Nat.zero_add]
theorem nameF_get : ∀ (ks : List Nat) (n x : Nat), getK (nameF ks n) (Sum.inl (x : Int)) = if x ∈ ks then some (PyData.int ((n + ks.idxOf x : Nat) : Int)) else none
  | [], n, x => rfl
  | k :: ks, n, x => by
    unfold getK
    show ((((Sum.inl (k : Int) : Key), PyData.int (n : Int)) :: nameF ks (n + 1)).find? fun kv => decide (kv.1 = Sum.inl (x : Int))).map (·.2) = _
    by_cases h : k = x
    · subst h
      rw [List.find?_cons_of_pos (by simp), List.idxOf_cons_self]; simp
    · have h2 : ¬ ((Sum.inl (k : Int) : Key) = Sum.inl (x : Int)) := fun e => h (Int.ofNat.inj (Sum.inl.inj e))
      rw [List.find?_cons_of_neg (by simpa using h2)]
      have := nameF_get ks (n + 1) x
      unfold getK at this
      rw [this]
      have h3 : (k == x) = false := by simpa using h
      rw [List.idxOf_cons, h3]
      have h4 : x ∈ k :: ks ↔ x ∈ ks := by rw [List.mem_cons]; exact ⟨fun q => q.elim (fun e => absurd e.symm h) id, .inr⟩
      by_cases h5 : x ∈ ks
      · rw [if_pos h5, if_pos (h4.mpr h5), show n + 1 + ks.idxOf x = n + (ks.idxOf x + 1) from by omega]; rfl
      · rw [if_neg h5, if_neg fun q => h5 (h4.mp q)]
theorem nameK_get (ks : List Nat) (x : Nat) : getK (nameK ks) (Sum.inl (x : Int)) = if x ∈ ks then some (PyData.int ((ks.idxOf x : Nat) : Int)) else none := by
  unfold nameK; rw [nameF_get, Nat.zero_add]
theorem nameF_any : ∀ (ks : List Nat) (n x : Nat), ((nameF ks n).any fun kv => decide (kv.1 = Sum.inl (x : Int))) = decide (x ∈ ks)
  | [], n, x => rfl
  | k :: ks, n, x => by
    show (decide ((Sum.inl (k : Int) : Key) = Sum.inl (x : Int)) || ((nameF ks (n + 1)).any fun kv => decide (kv.1 = Sum.inl (x : Int)))) = _
    rw [nameF_any ks (n + 1) x]
    have h2 : decide ((Sum.inl (k : Int) : Key) = Sum.inl (x : Int)) = decide (x = k) := by
      rw [decide_eq_decide]
      exact ⟨fun e => (Int.ofNat.inj (Sum.inl.inj e)).symm, fun e => by rw [e]⟩
    rw [h2]
    simp [List.mem_cons]
theorem nameK_put {ks : List Nat} {x : Nat} (h : x ∉ ks) : putD (nameK ks) (Sum.inl (x : Int)) (.int (ks.length : Int)) = nameK (ks ++ [x]) := by
  unfold putD
  have := nameF_any ks 0 x
  rw [nameK_app]
  show (if ((nameF ks 0).any fun kv => decide (kv.1 = Sum.inl (x : Int))) = true then _ else _) = _
  rw [this, if_neg (by simpa using h)]
def usedStep (u w : List Nat) : List Nat := u ++ w.filter fun x => !decide (x ∈ u)
def usedN (W : List (List Nat)) : List Nat := W.foldl usedStep []
theorem usedStep_mem {u w : List Nat} {x : Nat} : x ∈ usedStep u w ↔ x ∈ u ∨ x ∈ w := by
  unfold usedStep
  simp only [List.mem_append, List.mem_filter, Bool.not_eq_true', decide_eq_false_iff_not]
  by_cases h : x ∈ u <;> simp [h]
theorem usedStep_nodup {u w : List Nat} (hu : u.Nodup) (hw : w.Nodup) : (usedStep u w).Nodup := by
  unfold usedStep
  rw [List.nodup_append]
  refine ⟨hu, hw.filter _, fun a ha b hb e => ?_⟩
  subst e
  have := (List.mem_filter.mp hb).2
  simp [ha] at this
theorem used_fold_mem : ∀ (W : List (List Nat)) (u : List Nat) (x : Nat), x ∈ W.foldl usedStep u ↔ x ∈ u ∨ ∃ w ∈ W, x ∈ w
  | [], u, x => by simp
  | w :: W, u, x => by
    rw [List.foldl_cons, used_fold_mem W, usedStep_mem]
    simp [or_assoc]
theorem usedN_mem {W : List (List Nat)} {x : Nat} : x ∈ usedN W ↔ ∃ w ∈ W, x ∈ w := by unfold usedN; rw [used_fold_mem]; simp
theorem used_fold_nodup : ∀ (W : List (List Nat)) (u : List Nat), u.Nodup → (∀ w ∈ W, w.Nodup) → (W.foldl usedStep u).Nodup
  | [], u, h, _ => h
  | w :: W, u, h, hw => used_fold_nodup W _ (usedStep_nodup h (hw w List.mem_cons_self)) fun v hv => hw v (List.mem_cons_of_mem _ hv)
def nmStep (u ks : List Nat) (x : Nat) : List Nat := if x ∈ u ∧ x ∉ ks then ks ++ [x] else ks
theorem nm_mem (u : List Nat) : ∀ (xs ks : List Nat) (x : Nat), x ∈ xs.foldl (nmStep u) ks ↔ x ∈ ks ∨ (x ∈ xs ∧ x ∈ u)
  | [], ks, x => by simp
  | y :: xs, ks, x => by
    rw [List.foldl_cons, nm_mem u xs]
    have : x ∈ nmStep u ks y ↔ x ∈ ks ∨ (x = y ∧ x ∈ u) := by
      unfold nmStep
      by_cases h : y ∈ u ∧ y ∉ ks
      · rw [if_pos h, List.mem_append, List.mem_singleton]
        constructor
        · rintro (q | rfl)
          · exact .inl q
          · exact .inr ⟨rfl, h.1⟩
        · rintro (q | ⟨rfl, _⟩)
          · exact .inl q
          · exact .inr rfl
      · rw [if_neg h]
        refine ⟨.inl, ?_⟩
        rintro (q | ⟨rfl, q⟩)
        · exact q
        · exact Classical.byContradiction fun z => h ⟨q, z⟩
    rw [this, List.mem_cons]
    constructor
    · rintro ((h | ⟨h, h2⟩) | ⟨h, h2⟩)
      · exact .inl h
      · exact .inr ⟨.inl h, h2⟩
      · exact .inr ⟨.inr h, h2⟩
    · rintro (h | ⟨h | h, h2⟩)
      · exact .inl (.inl h)
      · exact .inl (.inr ⟨h, h2⟩)
      · exact .inr ⟨h, h2⟩
theorem nm_nodup (u : List Nat) : ∀ (xs ks : List Nat), ks.Nodup → (xs.foldl (nmStep u) ks).Nodup
  | [], ks, h => h
  | y :: xs, ks, h => by
    refine nm_nodup u xs _ ?_
    unfold nmStep
    split
    · rename_i q
      rw [List.nodup_append]
      exact ⟨h, by simp, fun a ha b hb e => by rw [List.mem_singleton] at hb; subst hb; subst e; exact q.2 ha⟩
    · exact h
/-- W's ways named anew by g, onto 0 .. n-1 -/
structure Nam (W : List (List Nat)) (g : Nat → Nat) (n : Nat) : Prop where
  inj : ∀ x y, (∃ w ∈ W, x ∈ w) → (∃ w ∈ W, y ∈ w) → g x = g y → x = y
  lt : ∀ w ∈ W, ∀ x ∈ w, g x < n
  onto : ∀ k, k < n → ∃ w ∈ W, ∃ x ∈ w, g x = k
  len : ∀ m, (∀ w ∈ W, ∀ x ∈ w, x < m) → n ≤ m
def reN (W : List (List Nat)) (g : Nat → Nat) : List (List Nat) := srtW (W.map fun w => srtN (w.map g))
theorem nam_of {W : List (List Nat)} {ks : List Nat} (hk : ks.Nodup) (hm : ∀ x, x ∈ ks ↔ ∃ w ∈ W, x ∈ w) : Nam W ks.idxOf ks.length where
  inj := fun x y hx hy e => by
    have h1 := List.idxOf_lt_length_iff.mpr ((hm x).mpr hx)
    have h2 := List.idxOf_lt_length_iff.mpr ((hm y).mpr hy)
    have e1 := List.getElem_idxOf h1
    have e2 := List.getElem_idxOf h2
    rw [← e1, ← e2]
    congr 1
  lt := fun w hw x hx => List.idxOf_lt_length_iff.mpr ((hm x).mpr ⟨w, hw, hx⟩)
  onto := fun k hlt => by
    obtain ⟨w, hw, hx⟩ := (hm ks[k]).mp (List.getElem_mem hlt)
    exact ⟨w, hw, _, hx, hk.idxOf_getElem k hlt⟩
  len := fun m h => by
    have := len_le_of_sub (th := List.range m) hk fun x hx => by
      obtain ⟨w, hw, hx⟩ := (hm x).mp hx
      exact List.mem_range.mpr (h w hw x hx)
    rwa [List.length_range] at this
theorem eq_nil_lN : PyData.list [] = lN [] := rfl
@[simp] theorem ndNe_nil {xs : List Nat} : nd2 pNe (.list (xs.map nD)) (.list []) = some (!xs.isEmpty) := by
  have h := ndEq_lN (a := xs) (b := [])
  unfold lN at h
  unfold nd2 at h ⊢
  unfold pNe
  split at h
  · rename_i q
    rw [show ([] : List D) = ([] : List Nat).map nD from rfl, if_pos q, h]
    cases xs <;> simp
  · cases h
@[simp] theorem ndEq_nil {xs : List Nat} : nd2 pEq (.list (xs.map nD)) (.list []) = some xs.isEmpty := by
  have h := ndEq_lN (a := xs) (b := [])
  unfold lN at h
  rw [show ([] : List D) = ([] : List Nat).map nD from rfl, h]
  cases xs <;> simp
end L3

/-! families as they are drawn -/
namespace L3
open PySem PySem.W PySem.Spec PyProof.Rows L2

structure Gam (F : List (List Nat)) (n : Nat) : Prop extends Fam F n where
  few40 : F.length ≤ 40
  rise : ∀ w ∈ F, w.Pairwise fun a b => a < b
  anti : ∀ v ∈ F, ∀ w ∈ F, (∀ x ∈ v, x ∈ w) → v = w
  once : F.Nodup
  ord : F.Pairwise fun a b => leW a b = true
def Inc (v w : List Nat) : Prop := (¬ ∀ x ∈ v, x ∈ w) ∧ ¬ ∀ x ∈ w, x ∈ v
/-- rows of the things th, none within another -/
structure RowsOk (R : List (List Nat)) (th : List Nat) : Prop where
  ne : ∀ w ∈ R, w ≠ []
  nodup : ∀ w ∈ R, w.Nodup
  cover : ∀ x, (∃ w ∈ R, x ∈ w) ↔ x ∈ th
  inc : R.Pairwise Inc
theorem inc_eq {R : List (List Nat)} (h : R.Pairwise Inc) {v w : List Nat} (hv : v ∈ R) (hw : w ∈ R) (hs : ∀ x ∈ v, x ∈ w) : v = w := by
  induction h with
  | nil => cases hv
  | cons h1 h2 ih =>
    rcases List.mem_cons.mp hv with rfl | hv' <;> rcases List.mem_cons.mp hw with rfl | hw'
    · rfl
    · exact absurd hs (h1 _ hw').1
    · exact absurd hs (h1 _ hv').2
    · exact ih hv' hw'
theorem inc_nodup {R : List (List Nat)} (h : R.Pairwise Inc) : R.Nodup := h.imp fun {a b} h e => by subst e; exact h.1 fun x hx => hx
theorem gam_rows {R : List (List Nat)} {th : List Nat} {n : Nat} (h : RowsOk R th) (hth : th.Perm (List.range n)) (hn : n ≤ 12) (hR : R.length ≤ 40) (hR1 : 1 ≤ R.length) : Gam (srtW (R.map srtN)) n := by
  have mem : ∀ w, w ∈ srtW (R.map srtN) ↔ ∃ v ∈ R, srtN v = w := fun w => by rw [(srtW_perm _).mem_iff, List.mem_map]
  have len : (srtW (R.map srtN)).length = R.length := by rw [(srtW_perm _).length_eq, List.length_map]
  have dense : ∀ x, (∃ w ∈ srtW (R.map srtN), x ∈ w) ↔ x < n := fun x => by
    rw [← List.mem_range, ← hth.mem_iff, ← h.cover x]
    constructor
    · rintro ⟨w, hw, hx⟩
      obtain ⟨v, hv, rfl⟩ := (mem w).mp hw
      exact ⟨v, hv, srtN_mem.mp hx⟩
    · rintro ⟨v, hv, hx⟩
      exact ⟨srtN v, (mem _).mpr ⟨v, hv, rfl⟩, srtN_mem.mpr hx⟩
  have nd : ∀ w ∈ srtW (R.map srtN), w.Nodup := fun w hw => by
    obtain ⟨v, hv, rfl⟩ := (mem w).mp hw
    exact (srtN_perm v).nodup_iff.mpr (h.nodup v hv)
  have anti : ∀ v ∈ R, ∀ w ∈ R, (∀ x ∈ srtN v, x ∈ srtN w) → v = w := fun v hv w hw hs => inc_eq h.inc hv hw fun x hx => srtN_mem.mp (hs x (srtN_mem.mpr hx))
  refine { some := by omega, few := by omega, ne := ?_, nodup := nd, dense := dense, flat := ?_, small := hn, few40 := by omega, rise := ?_, anti := ?_, once := ?_, ord := srtW_sorted _ }
  · intro w hw e
    obtain ⟨v, hv, rfl⟩ := (mem w).mp hw
    have := (srtN_perm v).length_eq
    rw [e] at this
    exact h.ne v hv (List.length_eq_zero_iff.mp this.symm)
  · refine Nat.le_trans (flat_le (k := 12) fun w hw => ?_) (by omega)
    have := len_le_of_sub (th := List.range n) (nd w hw) fun x hx => List.mem_range.mpr ((dense x).mp ⟨w, hw, hx⟩)
    rw [List.length_range] at this
    omega
  · intro w hw
    obtain ⟨v, hv, rfl⟩ := (mem w).mp hw
    exact srtN_lt (h.nodup v hv)
  · intro v hv w hw hs
    obtain ⟨v, hv', rfl⟩ := (mem v).mp hv
    obtain ⟨w, hw', rfl⟩ := (mem w).mp hw
    rw [anti v hv' w hw' hs]
  · refine (srtW_perm _).nodup_iff.mpr ?_
    refine List.pairwise_map.mpr (List.Pairwise.imp_of_mem (fun {v w} hv hw hne e => ?_) (inc_nodup h.inc))
    exact hne (anti v hv w hw (by rw [e]; exact fun x hx => hx))
theorem RowsOk.leaf (k : Nat) : RowsOk [[k]] [k] where
  ne := by simp
  nodup := by simp
  cover := by simp
  inc := by simp
theorem RowsOk.side {A B : List (List Nat)} {a b : List Nat} (hA : RowsOk A a) (hB : RowsOk B b) (hd : ∀ x ∈ a, x ∉ b) : RowsOk (A ++ B) (a ++ b) where
  ne := fun w hw => (List.mem_append.mp hw).elim (hA.ne w) (hB.ne w)
  nodup := fun w hw => (List.mem_append.mp hw).elim (hA.nodup w) (hB.nodup w)
  cover := fun x => by
    rw [List.mem_append, ← hA.cover x, ← hB.cover x]
    constructor
    · rintro ⟨w, hw, hx⟩
      rcases List.mem_append.mp hw with h | h
      · exact .inl ⟨w, h, hx⟩
      · exact .inr ⟨w, h, hx⟩
    · rintro (⟨w, h, hx⟩ | ⟨w, h, hx⟩)
      · exact ⟨w, List.mem_append_left _ h, hx⟩
      · exact ⟨w, List.mem_append_right _ h, hx⟩
  inc := by
    rw [List.pairwise_append]
    refine ⟨hA.inc, hB.inc, fun v hv w hw => ?_⟩
    have hx := List.exists_mem_of_ne_nil v (hA.ne v hv)
    have hy := List.exists_mem_of_ne_nil w (hB.ne w hw)
    obtain ⟨x, hx⟩ := hx
    obtain ⟨y, hy⟩ := hy
    exact ⟨fun h => hd x ((hA.cover x).mp ⟨v, hv, hx⟩) ((hB.cover x).mp ⟨w, hw, h x hx⟩), fun h => hd y ((hA.cover y).mp ⟨v, hv, h y hy⟩) ((hB.cover y).mp ⟨w, hw, hy⟩)⟩
theorem RowsOk.cross {A B : List (List Nat)} {a b : List Nat} (hA : RowsOk A a) (hB : RowsOk B b) (nA : A ≠ []) (nB : B ≠ []) (hd : ∀ x ∈ a, x ∉ b) : RowsOk (L3.cross A B) (a ++ b) where
  ne := fun w hw => by
    obtain ⟨v, hv, m, hm, rfl⟩ := cross_mem.mp hw
    obtain ⟨x, hx⟩ := List.exists_mem_of_ne_nil v (hA.ne v hv)
    exact List.ne_nil_of_mem (srtN_mem.mpr (List.mem_append_left m hx))
  nodup := fun w hw => by
    obtain ⟨v, hv, m, hm, rfl⟩ := cross_mem.mp hw
    refine (srtN_perm _).nodup_iff.mpr (List.nodup_append.mpr ⟨hA.nodup v hv, hB.nodup m hm, fun x hx y hy e => ?_⟩)
    subst e
    exact hd x ((hA.cover x).mp ⟨v, hv, hx⟩) ((hB.cover x).mp ⟨m, hm, hy⟩)
  cover := fun x => by
    rw [List.mem_append, ← hA.cover x, ← hB.cover x]
    constructor
    · rintro ⟨w, hw, hx⟩
      obtain ⟨v, hv, m, hm, rfl⟩ := cross_mem.mp hw
      rcases List.mem_append.mp (srtN_mem.mp hx) with h | h
      · exact .inl ⟨v, hv, h⟩
      · exact .inr ⟨m, hm, h⟩
    · rintro (⟨v, hv, hx⟩ | ⟨m, hm, hx⟩)
      · obtain ⟨m, hm⟩ := List.exists_mem_of_ne_nil B nB
        exact ⟨_, cross_mem.mpr ⟨v, hv, m, hm, rfl⟩, srtN_mem.mpr (List.mem_append_left _ hx)⟩
      · obtain ⟨v, hv⟩ := List.exists_mem_of_ne_nil A nA
        exact ⟨_, cross_mem.mpr ⟨v, hv, m, hm, rfl⟩, srtN_mem.mpr (List.mem_append_right _ hx)⟩
  inc := by
    have spl : ∀ v ∈ A, ∀ m ∈ B, ∀ v' ∈ A, ∀ m' ∈ B, (∀ x ∈ srtN (v ++ m), x ∈ srtN (v' ++ m')) → (∀ x ∈ v, x ∈ v') ∧ ∀ x ∈ m, x ∈ m' := fun v hv m hm v' hv' m' hm' h => by
      refine ⟨fun x hx => ?_, fun x hx => ?_⟩
      · rcases List.mem_append.mp (srtN_mem.mp (h x (srtN_mem.mpr (List.mem_append_left _ hx)))) with q | q
        · exact q
        · exact absurd ((hB.cover x).mp ⟨m', hm', q⟩) (hd x ((hA.cover x).mp ⟨v, hv, hx⟩))
      · rcases List.mem_append.mp (srtN_mem.mp (h x (srtN_mem.mpr (List.mem_append_right _ hx)))) with q | q
        · exact absurd ((hB.cover x).mp ⟨m, hm, hx⟩) (hd x ((hA.cover x).mp ⟨v', hv', q⟩))
        · exact q
    unfold L3.cross
    rw [List.pairwise_flatMap]
    refine ⟨fun v hv => ?_, List.Pairwise.imp_of_mem (fun {v v'} hv hv' h w hw w' hw' => ?_) hA.inc⟩
    · refine List.pairwise_map.mpr (List.Pairwise.imp_of_mem (fun {m m'} hm hm' h => ?_) hB.inc)
      exact ⟨fun q => h.1 (spl v hv m hm v hv m' hm' q).2, fun q => h.2 (spl v hv m' hm' v hv m hm q).2⟩
    · obtain ⟨m, hm, rfl⟩ := List.mem_map.mp hw
      obtain ⟨m', hm', rfl⟩ := List.mem_map.mp hw'
      exact ⟨fun q => h.1 (spl v hv m hm v' hv' m' hm' q).1, fun q => h.2 (spl v' hv' m' hm' v hv m hm q).1⟩
theorem cross_rise {A B : List (List Nat)} {a b : List Nat} (hA : RowsOk A a) (hB : RowsOk B b) (hd : ∀ x ∈ a, x ∉ b) : (cross A B).map srtN = cross A B := by
  have : ∀ w ∈ cross A B, srtN w = w := fun w hw => by
    obtain ⟨v, hv, m, hm, rfl⟩ := cross_mem.mp hw
    exact srtN_eq (srtN_perm _)
  exact (List.map_congr_left this).trans (List.map_id _)
theorem gam_least {ls : List (List Nat)} {g : Nat → Nat} {n m : Nat} (hN : Nam (leastN ls) g n) (hls : ls ≠ []) (hne : ∀ w ∈ ls, w ≠ []) (hlen : ls.length ≤ 40) (hx : ∀ w ∈ ls, ∀ x ∈ w, x < m) (hm : m ≤ 12) : Gam (reN (leastN ls) g) n := by
  have hmem : ∀ w ∈ leastN ls, ∃ l ∈ ls, sN l = w := fun w hw => (leastN_mem.mp hw).1
  have hlt : ∀ w ∈ leastN ls, ∀ x ∈ w, x < m := fun w hw x hx' => by
    obtain ⟨l, hl, rfl⟩ := hmem w hw
    exact hx l hl x (sN_mem.mp hx')
  have inj : ∀ v ∈ leastN ls, ∀ w ∈ leastN ls, ∀ x ∈ v, g x ∈ w.map g → x ∈ w := fun v hv w hw x hx' h => by
    obtain ⟨y, hy, e⟩ := List.mem_map.mp h
    rw [hN.inj x y ⟨v, hv, hx'⟩ ⟨w, hw, hy⟩ e.symm]
    exact hy
  have hsub : ∀ v ∈ leastN ls, ∀ w ∈ leastN ls, (∀ x ∈ v.map g, x ∈ w.map g) → v = w := fun v hv w hw h => leastN_anti hv hw fun x hx' => inj v hv w hw x hx' (h _ (List.mem_map.mpr ⟨x, hx', rfl⟩))
  have rows : RowsOk ((leastN ls).map fun w => w.map g) (List.range n) := by
    refine ⟨?_, ?_, fun x => ?_, ?_⟩
    · intro w hw e
      obtain ⟨v, hv, rfl⟩ := List.mem_map.mp hw
      obtain ⟨l, hl, rfl⟩ := hmem v hv
      exact hne l hl (sN_nil.mp (List.map_eq_nil_iff.mp e))
    · intro w hw
      obtain ⟨v, hv, rfl⟩ := List.mem_map.mp hw
      refine List.pairwise_map.mpr (List.Pairwise.imp_of_mem (fun {x y} hx' hy h e => ?_) (leastN_way hv))
      have := hN.inj x y ⟨v, hv, hx'⟩ ⟨v, hv, hy⟩ e
      omega
    · rw [List.mem_range]
      constructor
      · rintro ⟨w, hw, hx'⟩
        obtain ⟨v, hv, rfl⟩ := List.mem_map.mp hw
        obtain ⟨y, hy, rfl⟩ := List.mem_map.mp hx'
        exact hN.lt v hv y hy
      · intro h
        obtain ⟨w, hw, y, hy, e⟩ := hN.onto x h
        exact ⟨w.map g, List.mem_map.mpr ⟨w, hw, rfl⟩, List.mem_map.mpr ⟨y, hy, e⟩⟩
    · refine List.pairwise_map.mpr (List.Pairwise.imp_of_mem (fun {v w} hv hw h => ?_) (leastN_nodup ls))
      exact ⟨fun q => h (hsub v hv w hw q), fun q => h (hsub w hw v hv q).symm⟩
  have := gam_rows rows (.refl _) (Nat.le_trans (hN.len m hlt) hm) (by rw [List.length_map]; exact Nat.le_trans (leastN_len ls) hlen) (by
    rw [List.length_map]
    exact List.length_pos_iff.mpr (leastN_ne hls))
  rw [List.map_map] at this
  exact this
/-- the ways of a shape: rows as they are told -/
def shapeRows : Shp → List Nat → List (List Nat)
  | .fan, t :: ts => ts.map (fun x => [t, x]) ++ [ts]
  | .bridge, [a, b, c, d, e] => [[a, b], [c, d], [a, e, d], [c, e, b]]
  | .path, [a, b, c, d] => [[a, b], [b, c], [c, d]]
  | .square, [a, b, c, d] => [[a, c], [a, d], [b, c], [b, d]]
  | _, _ => []
def shapeW (k : Shp) (ts : List Nat) : List (List Nat) := srtW ((shapeRows k ts).map srtN)
/-- as many things as the shape wants -/
def shapeOk : Shp → Nat → Prop
  | .fan, n => 3 ≤ n ∧ n ≤ 20
  | .bridge, n => n = 5
  | .path, n => n = 4
  | .square, n => n = 4
theorem shape_rows {k : Shp} {ts : List Nat} (hn : ts.Nodup) (h : shapeOk k ts.length) : RowsOk (shapeRows k ts) ts := by
  cases k with
  | fan =>
    cases ts with
    | nil => exact absurd h.1 (by simp)
    | cons t ts =>
      obtain ⟨h1, h2⟩ := List.nodup_cons.mp hn
      have h3 : 2 ≤ ts.length := by have := h.1; simp at this; omega
      obtain ⟨x0, x1, xs, rfl⟩ : ∃ a b l, ts = a :: b :: l := by
        match ts, h3 with
        | a :: b :: l, _ => exact ⟨a, b, l, rfl⟩
      refine ⟨fun w hw => ?_, fun w hw => ?_, fun x => ?_, ?_⟩
      · rcases List.mem_append.mp (show w ∈ (x0 :: x1 :: xs).map (fun x => [t, x]) ++ [x0 :: x1 :: xs] from hw) with q | q
        · obtain ⟨y, _, rfl⟩ := List.mem_map.mp q; simp
        · rw [List.mem_singleton.mp q]; simp
      · rcases List.mem_append.mp (show w ∈ (x0 :: x1 :: xs).map (fun x => [t, x]) ++ [x0 :: x1 :: xs] from hw) with q | q
        · obtain ⟨y, hy, rfl⟩ := List.mem_map.mp q
          have : t ≠ y := fun e => h1 (e ▸ hy)
          simp [this]
        · rw [List.mem_singleton.mp q]; exact h2
      · show (∃ w ∈ (x0 :: x1 :: xs).map (fun x => [t, x]) ++ [x0 :: x1 :: xs], x ∈ w) ↔ _
        constructor
        · rintro ⟨w, hw, hx⟩
          rcases List.mem_append.mp hw with q | q
          · obtain ⟨y, hy, rfl⟩ := List.mem_map.mp q
            rcases List.mem_cons.mp hx with rfl | hx
            · exact List.mem_cons_self
            · rw [List.mem_singleton.mp hx]; exact List.mem_cons_of_mem _ hy
          · rw [List.mem_singleton.mp q] at hx; exact List.mem_cons_of_mem _ hx
        · intro hx
          rcases List.mem_cons.mp hx with rfl | hx
          · exact ⟨[x, x0], by simp, by simp⟩
          · exact ⟨x0 :: x1 :: xs, by simp, hx⟩
      · show ((x0 :: x1 :: xs).map (fun x => [t, x]) ++ [x0 :: x1 :: xs]).Pairwise Inc
        rw [List.pairwise_append]
        refine ⟨?_, by simp, fun v hv w hw => ?_⟩
        · refine List.pairwise_map.mpr (List.Pairwise.imp_of_mem (fun {x y} hx hy hne => ?_) h2)
          have e1 : t ≠ x := fun e => h1 (e ▸ hx)
          have e2 : t ≠ y := fun e => h1 (e ▸ hy)
          refine ⟨fun q => ?_, fun q => ?_⟩
          · have := q x (by simp)
            simp at this
            rcases this with z | z
            · exact e1 z.symm
            · exact hne z
          · have := q y (by simp)
            simp at this
            rcases this with z | z
            · exact e2 z.symm
            · exact hne z.symm
        · obtain ⟨y, hy, rfl⟩ := List.mem_map.mp hv
          rw [List.mem_singleton.mp hw]
          refine ⟨fun q => h1 (q t (by simp)), fun q => ?_⟩
          have a1 := q x0 (by simp)
          have a2 := q x1 (by simp)
          have b1 : x0 ≠ t := fun e => h1 (e ▸ by simp)
          have b2 : x1 ≠ t := fun e => h1 (e ▸ by simp)
          simp [b1] at a1
          simp [b2] at a2
          have : x0 ≠ x1 := by
            have := (List.nodup_cons.mp h2).1
            simp at this
            exact this.1
          exact this (a1.trans a2.symm)
  | bridge =>
    match ts, h, hn with
    | [a, b, c, d, e], _, hn =>
      simp at hn
      obtain ⟨⟨h1, h2, h3, h4⟩, ⟨h5, h6, h7⟩, ⟨h8, h9⟩, h10⟩ := hn
      have n1 := Ne.symm h1; have n2 := Ne.symm h2; have n3 := Ne.symm h3; have n4 := Ne.symm h4; have n5 := Ne.symm h5; have n6 := Ne.symm h6; have n7 := Ne.symm h7; have n8 := Ne.symm h8; have n9 := Ne.symm h9; have n10 := Ne.symm h10
      refine ⟨by simp [shapeRows], by simp [shapeRows, *], fun x => by simp [shapeRows]; omega, by simp [shapeRows, Inc, *]⟩
  | path =>
    match ts, h, hn with
    | [a, b, c, d], _, hn =>
      simp at hn
      obtain ⟨⟨h1, h2, h3⟩, ⟨h5, h6⟩, h8⟩ := hn
      have n1 := Ne.symm h1; have n2 := Ne.symm h2; have n3 := Ne.symm h3; have n5 := Ne.symm h5; have n6 := Ne.symm h6; have n8 := Ne.symm h8
      refine ⟨by simp [shapeRows], by simp [shapeRows, *], fun x => by simp [shapeRows]; omega, by simp [shapeRows, Inc, *]⟩
  | square =>
    match ts, h, hn with
    | [a, b, c, d], _, hn =>
      simp at hn
      obtain ⟨⟨h1, h2, h3⟩, ⟨h5, h6⟩, h8⟩ := hn
      have n1 := Ne.symm h1; have n2 := Ne.symm h2; have n3 := Ne.symm h3; have n5 := Ne.symm h5; have n6 := Ne.symm h6; have n8 := Ne.symm h8
      refine ⟨by simp [shapeRows], by simp [shapeRows, *], fun x => by simp [shapeRows]; omega, by simp [shapeRows, Inc, *]⟩
theorem shapeRows_len {k : Shp} {ts : List Nat} (h : shapeOk k ts.length) : 1 ≤ (shapeRows k ts).length ∧ (shapeRows k ts).length ≤ 20 := by
  cases k with
  | fan =>
    cases ts with
    | nil => exact absurd h.1 (by simp)
    | cons t ts =>
      have h1 : 3 ≤ ts.length + 1 := h.1
      have h2 : ts.length + 1 ≤ 20 := h.2
      have : (shapeRows .fan (t :: ts)).length = ts.length + 1 := by
        show (ts.map (fun x => [t, x]) ++ [ts]).length = _
        simp
      omega
  | bridge =>
    match ts, h with
    | [a, b, c, d, e], _ => exact ⟨by simp [shapeRows], by simp [shapeRows]⟩
  | path =>
    match ts, h with
    | [a, b, c, d], _ => exact ⟨by simp [shapeRows], by simp [shapeRows]⟩
  | square =>
    match ts, h with
    | [a, b, c, d], _ => exact ⟨by simp [shapeRows], by simp [shapeRows]⟩
theorem gam_shape {k : Shp} {ts : List Nat} {n : Nat} (hp : ts.Perm (List.range n)) (h : shapeOk k ts.length) (hn : n ≤ 12) : Gam (shapeW k ts) n := by
  have hl := shapeRows_len h
  exact gam_rows (shape_rows (hp.nodup_iff.mpr List.nodup_range) h) hp hn (by omega) hl.1
end L3

/-! comprehensions over pairs -/
namespace L3
open PySem PySem.W PySem.Spec PyProof.Rows L2
theorem enum_map {α : Type} (e : α → D) (xs : List α) : dEnum (xs.map e) = xs.zipIdx.map fun a => PyData.tuple [.int (a.2 : Int), e a.1] := by
  refine List.ext_getElem? fun i => ?_
  rw [List.getElem?_map, List.getElem?_zipIdx]
  cases hx : xs[i]? with
  | none =>
    have : (dEnum (xs.map e))[i]? = none := by
      rw [List.getElem?_eq_none_iff, dEnum_len', List.length_map]
      exact List.getElem?_eq_none_iff.mp hx
    rw [this]; rfl
  | some x =>
    have hlt : i < (dEnum (xs.map e)).length := by
      rw [dEnum_len', List.length_map]
      exact (List.getElem?_eq_some_iff.mp hx).1
    obtain ⟨y, hy, h⟩ := enum_at (List.getElem?_eq_getElem hlt)
    rw [hx] at hy; cases hy
    rw [List.getElem?_eq_getElem hlt, h]
    simp
theorem zip_map {α β : Type} (e : α → D) (e' : β → D) (xs : List α) (ys : List β) : dZip (xs.map e) (ys.map e') = (xs.zip ys).map fun a => PyData.tuple [e a.1, e' a.2] := by
  refine List.ext_getElem? fun i => ?_
  rw [List.getElem?_map]
  by_cases hi : i < (dZip (xs.map e) (ys.map e')).length
  · obtain ⟨x, y, h1, h2, h3⟩ := zip_at (List.getElem?_eq_getElem hi)
    rw [List.getElem?_eq_getElem hi, h3]
    rw [List.getElem?_map] at h1 h2
    cases hx : xs[i]? with
    | none => rw [hx] at h1; cases h1
    | some a =>
      cases hy : ys[i]? with
      | none => rw [hy] at h2; cases h2
      | some b =>
        rw [hx] at h1; rw [hy] at h2; cases h1; cases h2
        have : (xs.zip ys)[i]? = some (a, b) := List.getElem?_zip_eq_some.mpr ⟨hx, hy⟩
        rw [this]; rfl
  · rw [List.getElem?_eq_none (by omega)]
    rw [dZip_len', List.length_map, List.length_map] at hi
    rw [List.getElem?_eq_none (by rw [List.length_zip]; omega)]; rfl
theorem wp_pairE {α : Type} {env : List (Option Sl)} {box : List D} {v v1 : Nat} {c : M Bool} {f : M D} {Q : List D → S → Prop} {xs : List α} (hv : v ≠ v1) (e1 e2 : α → D) (p : α → Bool) (h : α → D) (hl : xs.length ≤ sizeLine)
    (hc : ∀ x ∈ xs, Wp (c ⟨(env.set v (some (.val (e1 x)))).set v1 (some (.val (e2 x))), box⟩) fun y s' => y = p x ∧ s' = ⟨(env.set v (some (.val (e1 x)))).set v1 (some (.val (e2 x))), box⟩)
    (hb : ∀ x ∈ xs, p x = true → Wp (f ⟨(env.set v (some (.val (e1 x)))).set v1 (some (.val (e2 x))), box⟩) fun y s' => y = h x ∧ s' = ⟨(env.set v (some (.val (e1 x)))).set v1 (some (.val (e2 x))), box⟩)
    (hq : Q ((xs.filter p).map h) ⟨(env.set v none).set v1 none, box⟩) : Wp (compL (gT [v, v1]) c f [v, v1] (xs.map fun x => PyData.tuple [e1 x, e2 x]) [] ⟨env, box⟩) Q := by
  have sc : ∀ (a b x y : Option Sl), (((env.set v a).set v1 b).set v1 y).set v x = (env.set v x).set v1 y := fun a b x y => by
    rw [List.set_set, List.set_comm _ _ hv.symm, List.set_set]
  have sc0 : ∀ (x y : Option Sl), ((env.set v1 y).set v x) = (env.set v x).set v1 y := fun x y => List.set_comm _ _ hv.symm
  have sc2 : ∀ (a b x y : Option Sl), (((env.set v a).set v1 b).set v x).set v1 y = (env.set v x).set v1 y := fun a b x y => by
    rw [List.set_comm (l := (env.set v a)) _ _ hv.symm, List.set_set, List.set_set]
  refine wp_compL (fun i acc s => acc = ((xs.take i).filter p).map h ∧ ((∃ y z, s = ⟨(env.set v y).set v1 z, box⟩) ∨ (i = 0 ∧ s = ⟨env, box⟩))) ⟨by simp, .inr ⟨rfl, rfl⟩⟩ (fun i d acc s hi hI => ?_) fun acc s hI => ?_
  · obtain ⟨rfl, hs⟩ := hI
    have es : s.wipe [v, v1] = ⟨(env.set v none).set v1 none, box⟩ := by
      rcases hs with ⟨y, z, rfl⟩ | ⟨_, rfl⟩
      · show (⟨(((env.set v y).set v1 z).set v1 none).set v none, box⟩ : S) = _
        rw [sc]
      · show (⟨(env.set v1 none).set v none, box⟩ : S) = _
        rw [sc0]
    rw [es]
    rw [List.getElem?_map] at hi
    cases hx : xs[i]? with
    | none => rw [hx] at hi; cases hi
    | some x =>
      rw [hx] at hi; cases hi
      have hm : x ∈ xs := List.mem_of_getElem? hx
      have hlt : i < xs.length := (List.getElem?_eq_some_iff.mp hx).1
      simp only [gT_tup, List.length_cons, List.length_nil, if_true, cV_some, setvs_cons, setvs_nil, setv_mk, sc2]
      refine (hc x hm).mono fun y s' hx' => ?_
      obtain ⟨rfl, rfl⟩ := hx'
      refine ⟨fun hp => (hb x hm hp).mono fun y s' hx' => ?_, fun hp => ⟨?_, .inl ⟨_, _, rfl⟩⟩⟩
      · obtain ⟨rfl, rfl⟩ := hx'
        refine ⟨?_, ?_, .inl ⟨_, _, rfl⟩⟩
        · rw [List.length_map]
          have := List.length_filter_le p (xs.take i)
          rw [List.length_take] at this
          omega
        · rw [List.take_add_one, hx, List.filter_append, List.map_append]; simp [hp]
      · rw [List.take_add_one, hx, List.filter_append, List.map_append]; simp [hp]
  · obtain ⟨rfl, hs⟩ := hI
    rw [List.length_map, List.take_length]
    rcases hs with ⟨y, z, rfl⟩ | ⟨_, rfl⟩
    · show Q _ ⟨(((env.set v y).set v1 z).set v1 none).set v none, box⟩
      rw [sc]; exact hq
    · show Q _ ⟨(env.set v1 none).set v none, box⟩
      rw [sc0]; exact hq
theorem zipIdx_mem {α : Type} {xs : List α} {a : α × Nat} (h : a ∈ xs.zipIdx) : xs[a.2]? = some a.1 := by
  obtain ⟨i, hi⟩ := List.mem_iff_getElem?.mp h
  rw [List.getElem?_zipIdx] at hi
  cases hx : xs[i]? with
  | none => rw [hx] at hi; cases hi
  | some x =>
    rw [hx] at hi
    simp at hi
    rw [← hi]
    exact hx
/-- the first of the places at which p -/
theorem first_idx {α : Type} {p : α → Bool} : ∀ {xs : List α} {n i : Nat} {w : α}, xs[i]? = some w → p w = true → (∀ v ∈ xs.take i, p v = false) → ((xs.zipIdx n).filter fun a => p a.1).head? = some (w, n + i)
  | [], _, i, _, h, _, _ => by simp at h
  | x :: xs, n, 0, w, h, hp, _ => by
    simp at h; subst h
    rw [List.zipIdx_cons, List.filter_cons_of_pos (by exact hp)]; rfl
  | x :: xs, n, i + 1, w, h, hp, hn => by
    have h0 : p x = false := hn x (by simp)
    rw [List.zipIdx_cons, List.filter_cons_of_neg (by simp [h0])]
    have := first_idx (xs := xs) (n := n + 1) (i := i) (w := w) (by simpa using h) hp fun v hv => hn v (by rw [List.take_succ_cons]; exact List.mem_cons_of_mem _ hv)
    rw [this, show n + 1 + i = n + (i + 1) from by omega]
@[simp] theorem pListOf_fN {F : List (List Nat)} : pListOf [fN F] = some (.l (F.map tN)) := rfl
@[simp] theorem pListOf_tN {w : List Nat} : pListOf [tN w] = some (.l (w.map nD)) := rfl
@[simp] theorem pTupleOf_tN {w : List Nat} : pTupleOf [tN w] = some (.d (tN w)) := rfl
@[simp] theorem pTupleOf_fN {w : List (List Nat)} : pTupleOf [fN w] = some (.d (fN w)) := rfl
end L3

namespace L3
open PySem PySem.W PySem.Spec PyProof.Rows L2
@[simp] theorem pMulT_int {i j : Int} : pMulT (.int i) (.int j) = if i.natAbs.log2 + j.natAbs.log2 < 1000000 then some (.d (.int (i * j))) else none := rfl
@[simp] theorem pMulT_list {xs : List D} {k : Int} : pMulT (.list xs) (.int k) = if -1000 ≤ k ∧ k ≤ 1000 ∧ xs.length ≤ 1000 then some (.l (List.replicate k.toNat xs).flatten) else none := by
  show (if -1000 ≤ k ∧ k ≤ 1000 ∧ xs.length ≤ 1000 then pMul (.list xs) (.int k) else none) = _
  by_cases h : -1000 ≤ k ∧ k ≤ 1000 ∧ xs.length ≤ 1000
  · rw [if_pos h, if_pos h]
    have h2 : xs.length * k.toNat ≤ 1000 * 1000 := Nat.mul_le_mul h.2.2 (by omega)
    have h3 : -(2 ^ 63) ≤ k ∧ k < 2 ^ 63 ∧ xs.length * k.toNat ≤ sizeLine := ⟨by omega, by omega, by have : sizeLine = 16777216 := rfl; omega⟩
    show (if -(2 ^ 63) ≤ k ∧ k < 2 ^ 63 ∧ xs.length * k.toNat ≤ sizeLine then some (PO.l (List.replicate k.toNat xs).flatten) else none) = _
    rw [if_pos h3]
  · rw [if_neg h, if_neg h]
@[simp] theorem pMulT_tuple {xs : List D} {k : Int} : pMulT (.tuple xs) (.int k) = if -1000 ≤ k ∧ k ≤ 1000 ∧ xs.length ≤ 1000 then some (.t (List.replicate k.toNat xs).flatten) else none := rfl
theorem rep_one {α : Type} (x : α) : ∀ n : Nat, (List.replicate n [x]).flatten = List.replicate n x
  | 0 => rfl
  | n + 1 => by rw [List.replicate_succ, List.flatten_cons, rep_one x n, List.replicate_succ]; rfl
theorem atI_last {α : Type} {xs : List α} {x : α} (h : xs.getLast? = some x) : atI xs (-1) = some x := by
  have hl : 1 ≤ xs.length := by
    cases xs with
    | nil => cases h
    | cons a l => simp
  unfold atI
  have : ixN xs.length (-1) = some (xs.length - 1) := by
    unfold ixN
    rw [if_neg (by omega), if_pos (by omega)]
    congr 1
    omega
  rw [this]
  rw [List.getLast?_eq_getElem?] at h
  exact h
end L3

/-! tables, prices -/
namespace L3
open PySem PySem.W PySem.Spec PyProof.Rows L2

def oD : Option Nat → D
  | some n => .int (n : Int)
  | none => .none
def tabD (t : List (Option Nat)) : D := .tuple (t.map oD)
def tabsD (T : List (List (Option Nat))) : D := .tuple (T.map tabD)
@[simp] theorem oD_some {n : Nat} : oD (some n) = .int (n : Int) := rfl
@[simp] theorem oD_none : oD none = .none := rfl
@[simp] theorem itemsM_tabD {t : List (Option Nat)} : itemsM (tabD t) = mret (t.map oD) := rfl
@[simp] theorem itemsM_tabsD {t : List (List (Option Nat))} : itemsM (tabsD t) = mret (t.map tabD) := rfl
@[simp] theorem pIx_tabD {t : List (Option Nat)} {i : Int} : pIx (tabD t) (.int i) = (atI (t.map oD) i).map .d := rfl
@[simp] theorem pIx_tabsD {t : List (List (Option Nat))} {i : Int} : pIx (tabsD t) (.int i) = (atI (t.map tabD) i).map .d := rfl
@[simp] theorem pLen_tabD {t : List (Option Nat)} : pLen [tabD t] = some (.d (.int t.length)) := by show some (PO.d (.int ((t.map oD).length : Nat))) = _; rw [List.length_map]
@[simp] theorem pLen_tabsD {t : List (List (Option Nat))} : pLen [tabsD t] = some (.d (.int t.length)) := by show some (PO.d (.int ((t.map tabD).length : Nat))) = _; rw [List.length_map]
@[simp] theorem pSl_tabD {w : List (Option Nat)} {lo hi : Option Int} : pSl (tabD w) lo hi = some (.t (cutL (w.map oD) lo hi)) := rfl
@[simp] theorem enM_tabsD {t : List (List (Option Nat))} : enM [tabsD t] = mret (dEnum (t.map tabD)) := rfl
@[simp] theorem enM_tabD {t : List (Option Nat)} : enM [tabD t] = mret (dEnum (t.map oD)) := rfl
@[simp] theorem isN_oD {o : Option Nat} : pIsN (oD o) .none = some o.isNone := by cases o <;> rfl
@[simp] theorem notN_oD {o : Option Nat} : pNotN (oD o) .none = some o.isSome := by cases o <;> rfl
def tabAt (T : List (List (Option Nat))) (t : Nat) : List (Option Nat) := T.getD t []
def atN (L : List Nat) (t : Nat) : Nat := L.getD t 0
def entN (t : List (Option Nat)) (l : Nat) : Option Nat := (t[l]?).getD none
def optSum (os : List (Option Nat)) : Option Nat := if os.any Option.isNone then none else some (os.map fun o => o.getD 0).sum
def priceN (T : List (List (Option Nat))) (L : List Nat) (w : List Nat) : Option Nat := optSum (w.map fun t => entN (tabAt T t) (atN L t))
theorem plain_oDs (w : List (Option Nat)) : PyData.plainAll (w.map oD) = true := by
  induction w with
  | nil => rfl
  | cons x xs ih =>
    rw [List.map_cons, PyData.plainAll, ih]
    cases x <;> rfl
theorem noDict_oDs (w : List (Option Nat)) : noDictAll (w.map oD) = true := by
  induction w with
  | nil => rfl
  | cons x xs ih =>
    show (noDict (oD x) && noDictAll (xs.map oD)) = true
    rw [ih]
    cases x <;> rfl
@[simp] theorem ndIn_none {os : List (Option Nat)} : nd2 pIn .none (.list (os.map oD)) = some (os.any Option.isNone) := by
  refine nd2_some ?_ rfl (noDict_oDs os)
  show (if inOk .none (os.map oD) then some ((os.map oD).any fun z => PyData.eqv z .none) else none) = _
  have h1 : inOk .none (os.map oD) = true := by
    unfold inOk
    rw [plain_oDs]; rfl
  rw [if_pos h1]
  congr 1
  rw [List.any_map]
  congr 1
  funext o
  cases o <;> rfl
theorem sum_cast (ns : List Nat) : (ns.map fun (n : Nat) => (n : Int)).sum = ((ns.sum : Nat) : Int) := by
  induction ns with
  | nil => rfl
  | cons n ns ih => rw [List.map_cons, List.sum_cons, List.sum_cons, ih]; omega
theorem all_some : ∀ {os : List (Option Nat)}, os.any Option.isNone = false → os = (os.map fun o => o.getD 0).map some
  | [], _ => rfl
  | o :: os, h => by
    rw [List.any_cons, Bool.or_eq_false_iff] at h
    rw [List.map_cons, List.map_cons, ← all_some h.2]
    cases o with
    | none => exact absurd h.1 (by simp)
    | some n => rfl
theorem sum_oD {os : List (Option Nat)} (h : os.any Option.isNone = false) : pSum [.list (os.map oD)] = some (.d (oD (optSum os))) := by
  have e := all_some h
  have e2 : os.map oD = (os.map fun o => o.getD 0).map nD := by
    conv => lhs; rw [e]
    rw [List.map_map]; rfl
  rw [e2, pSum_list, intsOf_nDs]
  show some (PO.d (.int _)) = _
  rw [sum_cast]
  unfold optSum
  rw [h]; rfl
theorem ints_oD {os : List (Option Nat)} (h : os.any Option.isNone = false) : ∃ ns, intsOf (os.map oD) = some ns ∧ PyData.int ns.sum = oD (optSum os) := by
  have := sum_oD h
  rw [pSum_list] at this
  cases e : intsOf (os.map oD) with
  | none => rw [e] at this; cases this
  | some ns =>
    rw [e] at this
    exact ⟨ns, rfl, PO.d.inj (Option.some.inj this)⟩
theorem optSum_none {os : List (Option Nat)} (h : os.any Option.isNone = true) : optSum os = none := by unfold optSum; rw [if_pos h]
/-! the cheapest -/
def isLeast (os : List (Option Nat)) (o : Option Nat) : Bool := match o with
  | none => false
  | some x => os.all fun q => match q with
    | none => true
    | some y => decide (x ≤ y)
def cheapIx (os : List (Option Nat)) : List Nat := (os.zipIdx.filter fun a => isLeast os a.1).map (·.2)
def cheapN (F : List (List Nat)) (T : List (List (Option Nat))) (L : List Nat) : List Nat := cheapIx (F.map (priceN T L))
theorem some_oD (os : List (Option Nat)) : (os.filter Option.isSome).map oD = (os.filterMap id).map fun n => PyData.int ((n : Nat) : Int) := by
  induction os with
  | nil => rfl
  | cons o os ih =>
    cases o with
    | none => rw [List.filter_cons_of_neg (by simp), List.filterMap_cons_none rfl, ih]
    | some n => rw [List.filter_cons_of_pos (by simp), show List.filterMap id (some n :: os) = n :: List.filterMap id os from rfl, List.map_cons, List.map_cons, ih]; rfl
theorem least_eq {os : List (Option Nat)} {x : Nat} (hx : some x ∈ os) : ∃ m : Int, pMin [.list ((os.filterMap id).map fun n => PyData.int ((n : Nat) : Int))] = some (.d (.int m)) ∧ decide ((x : Int) = m) = isLeast os (some x) := by
  have hx2 : x ∈ os.filterMap id := List.mem_filterMap.mpr ⟨some x, hx, rfl⟩
  obtain ⟨m, h1, ⟨y, hy, h2⟩, h3⟩ := pMin_of (fun n : Nat => (n : Int)) (xs := os.filterMap id) (.inl rfl) (List.ne_nil_of_mem hx2)
  refine ⟨m, h1, ?_⟩
  rw [Bool.eq_iff_iff, decide_eq_true_iff]
  show _ ↔ os.all _ = true
  rw [List.all_eq_true]
  constructor
  · rintro rfl q hq
    cases q with
    | none => rfl
    | some z =>
      have := h3 z (List.mem_filterMap.mpr ⟨some z, hq, rfl⟩)
      exact decide_eq_true (by omega)
  · intro h
    have hy2 : some y ∈ os := by
      obtain ⟨q, hq, e⟩ := List.mem_filterMap.mp hy
      cases q with
      | none => cases e
      | some z => cases e; exact hq
    have h4 := of_decide_eq_true (h (some y) hy2)
    have h5 := h3 x hx2
    omega
/-! loads -/
def lessN (L : List Nat) (w : List Nat) : List Nat := L.zipIdx.map fun a => if a.2 ∈ w then a.1 - 1 else a.1
def moreN (L : List Nat) (w : List Nat) : List Nat := L.zipIdx.map fun a => if a.2 ∈ w then a.1 + 1 else a.1
theorem zipIdx_map_len {α β : Type} (xs : List α) (f : α × Nat → β) : (xs.zipIdx.map f).length = xs.length := by rw [List.length_map, List.length_zipIdx]
theorem lessN_len (L w : List Nat) : (lessN L w).length = L.length := zipIdx_map_len _ _
theorem moreN_len (L w : List Nat) : (moreN L w).length = L.length := zipIdx_map_len _ _
theorem getD_lt {α : Type} {xs : List α} {i : Nat} {d : α} (h : i < xs.length) : xs[i]? = some (xs.getD i d) := by
  rw [List.getD_eq_getElem?_getD, List.getElem?_eq_getElem h]; rfl
theorem lessN_get {L w : List Nat} {t : Nat} (h : t < L.length) : atN (lessN L w) t = if t ∈ w then atN L t - 1 else atN L t := by
  unfold lessN atN
  rw [List.getD_eq_getElem?_getD, List.getElem?_map, List.getElem?_zipIdx, getD_lt (d := 0) h]
  simp
theorem moreN_get {L w : List Nat} {t : Nat} (h : t < L.length) : atN (moreN L w) t = if t ∈ w then atN L t + 1 else atN L t := by
  unfold moreN atN
  rw [List.getD_eq_getElem?_getD, List.getElem?_map, List.getElem?_zipIdx, getD_lt (d := 0) h]
  simp
theorem loadsN_getD {n : Nat} {ws : List Nat} {t : Nat} (h : t < n) : atN (loadsN n ws) t = ws.count t := by
  unfold atN
  rw [List.getD_eq_getElem?_getD, loadsN_get h]; rfl
def tabSum (t : List (Option Nat)) (l : Nat) : Nat := ((t.take l).map fun o => o.getD 0).sum
def wholeN (T : List (List (Option Nat))) (L : List Nat) : Nat := ((T.zip L).map fun a => tabSum a.1 a.2).sum
def standsN (T : List (List (Option Nat))) (L : List Nat) : Bool := L.zipIdx.all fun a => decide (a.1 ≤ (tabAt T a.2).length) && (decide (a.1 = 0) || (entN (tabAt T a.2) (a.1 - 1)).isSome)
/-- a table: rising entries, closed from a place on -/
structure Tab (m : Nat) (t : List (Option Nat)) : Prop where
  shape : ∃ (r : List Nat) (k : Nat), t = r.map some ++ List.replicate k none ∧ r.Pairwise (fun a b => a ≤ b) ∧ ∀ x ∈ r, x ≤ 1000000
  len : t.length = m
structure Tabs (n m : Nat) (T : List (List (Option Nat))) : Prop where
  all : ∀ t ∈ T, Tab m t
  len : T.length = n
  small : m ≤ 100
theorem take_some {r : List Nat} {k l : Nat} (h : l ≤ r.length) : (r.map some ++ List.replicate k (none : Option Nat)).take l = (r.take l).map some := by
  rw [List.take_append_of_le_length (by rw [List.length_map]; exact h), List.map_take]
theorem stands_open {m : Nat} {t : List (Option Nat)} {l : Nat} (h : Tab m t) (h0 : l = 0 ∨ (entN t (l - 1)).isSome = true) : (t.take l).any Option.isNone = false := by
  obtain ⟨r, k, rfl, _, _⟩ := h.shape
  have hl : l ≤ r.length := by
    rcases h0 with rfl | h0
    · exact Nat.zero_le _
    · unfold entN at h0
      rcases Nat.lt_or_ge (l - 1) r.length with q | q
      · omega
      · rw [List.getElem?_append_right (by rw [List.length_map]; exact q), List.getElem?_replicate] at h0
        split at h0 <;> simp at h0
  rw [take_some hl, List.any_map]
  exact List.any_eq_false.mpr fun x _ => by simp

def wayAt (F : List (List Nat)) (j : Nat) : List Nat := F.getD j []
theorem wayAt_mem {F : List (List Nat)} {j : Nat} (h : j < F.length) : wayAt F j ∈ F := getD_mem h
theorem atF {F : List (List Nat)} {j : Nat} (h : j < F.length) : atI (F.map tN) (j : Int) = some (tN (wayAt F j)) := by
  rw [atI_n, List.getElem?_map, getD_lt (d := []) h]; rfl
theorem atN_mem {st : List Nat} {c : Nat} (h : c < st.length) : atN st c ∈ st := by
  unfold atN
  rw [List.getD_eq_getElem?_getD, List.getElem?_eq_getElem h]
  exact List.getElem_mem h
/-- what comer c pays in the state st -/
def costN (F : List (List Nat)) (T : List (List (Option Nat))) (n : Nat) (st : List Nat) (c : Nat) : Option Nat := priceN T (lessN (loadsN n (occ F st)) (wayAt F (atN st c))) (wayAt F (atN st c))
theorem occ_pos {F : List (List Nat)} {st : List Nat} {c t : Nat} (hc : c < st.length) (ht : t ∈ wayAt F (atN st c)) : 1 ≤ (occ F st).count t :=
  List.count_pos_iff.mpr (List.mem_flatMap.mpr ⟨atN st c, atN_mem hc, ht⟩)
theorem loads_pos {F : List (List Nat)} {n : Nat} {st : List Nat} {c : Nat} (hc : c < st.length) : ∀ t ∈ wayAt F (atN st c), t < (loadsN n (occ F st)).length → 1 ≤ atN (loadsN n (occ F st)) t := fun t ht hl => by
  rw [loadsN_len] at hl
  rw [loadsN_getD hl]
  exact occ_pos hc ht
theorem len_way {F : List (List Nat)} {n : Nat} (h : Fam F n) {w : List Nat} (hw : w ∈ F) : w.length ≤ 12 := by
  have := len_le_of_sub (th := List.range n) (h.nodup w hw) fun x hx => List.mem_range.mpr (h.lt w hw x hx)
  rw [List.length_range] at this
  have := h.small
  omega
theorem zipM_TL {T : List (List (Option Nat))} {L : List Nat} : zipM [tabsD T, tN L] = mret (dZip (T.map tabD) (L.map nD)) := rfl
theorem ints_cast {α : Type} (f : α → Nat) (xs : List α) : intsOf (xs.map fun x => PyData.int ((f x : Nat) : Int)) = some ((xs.map f).map fun (n : Nat) => (n : Int)) := by
  rw [intsOf_ints (fun x => ((f x : Nat) : Int)), List.map_map]; rfl
theorem tabSum_eq {t : List (Option Nat)} {l : Nat} (h : (t.take l).any Option.isNone = false) : pSum [.list ((t.map oD).take l)] = some (.d (.int (tabSum t l : Nat))) := by
  rw [← List.map_take, sum_oD h]
  unfold optSum tabSum
  rw [h]; rfl
theorem stands_at {m n : Nat} {T : List (List (Option Nat))} {L : List Nat} (hT : Tabs n m T) (hL : L.length = n) (h : standsN T L = true) {t : Nat} (ht : t < n) : ((tabAt T t).take (atN L t)).any Option.isNone = false ∧ atN L t ≤ (tabAt T t).length := by
  unfold standsN at h
  have h1 := List.all_eq_true.mp h (atN L t, t) (by
    refine List.mem_iff_getElem?.mpr ⟨t, ?_⟩
    rw [List.getElem?_zipIdx, getD_lt (d := 0) (by omega)]
    simp [atN])
  simp only [Bool.and_eq_true, decide_eq_true_eq, Bool.or_eq_true] at h1
  have hm : tabAt T t ∈ T := by
    unfold tabAt
    rw [List.getD_eq_getElem?_getD, List.getElem?_eq_getElem (by rw [hT.len]; exact ht)]
    exact List.getElem_mem _
  exact ⟨stands_open (hT.all _ hm) h1.2, h1.1⟩
theorem zip_at2 {T : List (List (Option Nat))} {L : List Nat} {a : List (Option Nat) × Nat} (h : a ∈ T.zip L) : ∃ t, t < T.length ∧ t < L.length ∧ a = (tabAt T t, atN L t) := by
  obtain ⟨i, hi⟩ := List.mem_iff_getElem?.mp h
  obtain ⟨h1, h2⟩ := List.getElem?_zip_eq_some.mp hi
  have l1 := (List.getElem?_eq_some_iff.mp h1).1
  have l2 := (List.getElem?_eq_some_iff.mp h2).1
  refine ⟨i, l1, l2, ?_⟩
  unfold tabAt atN
  rw [List.getD_eq_getElem?_getD, List.getD_eq_getElem?_getD, h1, h2]; rfl
def shutN (T : List (List (Option Nat))) : List (List (Option Nat)) := T.map fun t => t.map fun _ => none
theorem shut_none {T : List (List (Option Nat))} {F : List (List Nat)} {L : List Nat} (hw : ∀ w ∈ F, w ≠ []) : cheapN F (shutN T) L = [] := by
  have ent : ∀ t l, entN (tabAt (shutN T) t) l = none := fun t l => by
    unfold entN tabAt shutN
    rw [List.getD_eq_getElem?_getD, List.getElem?_map]
    cases T[t]? with
    | none => simp
    | some x => simp only [Option.map_some, Option.getD_some, List.getElem?_map]; cases x[l]? <;> rfl
  unfold cheapN cheapIx
  rw [List.map_eq_nil_iff, List.filter_eq_nil_iff]
  intro a ha
  obtain ⟨w, hw', e⟩ := List.mem_map.mp (List.mem_of_getElem? (zipIdx_mem ha))
  have : a.1 = none := by
    rw [← e]
    unfold priceN optSum
    cases w with
    | nil => exact absurd rfl (hw _ hw')
    | cons t w => simp [ent]
  rw [this]
  simp [isLeast]

theorem tab_of {r : List Nat} {m cut : Nat} (hr : r.Pairwise fun a b => a ≤ b) (hx : ∀ x ∈ r, x ≤ 1000000) (hl : r.length = m) (hc : cut ≤ m) : Tab m ((r.take cut).map some ++ List.replicate (m - cut) none) where
  shape := ⟨r.take cut, m - cut, rfl, hr.sublist (List.take_sublist _ _), fun x h => hx x (List.mem_of_mem_take h)⟩
  len := by simp; omega
theorem tab_D {r : List Nat} {m cut : Nat} : PyData.tuple ((r.map nD).take cut ++ List.replicate (m - cut) PyData.none) = tabD ((r.take cut).map some ++ List.replicate (m - cut) none) := by
  unfold tabD
  rw [List.map_append, List.map_replicate, ← List.map_take, List.map_map]; rfl
theorem tabs_rep {t : List (Option Nat)} (n : Nat) : PyData.tuple (List.replicate n (tabD t)) = tabsD (List.replicate n t) := by
  unfold tabsD
  rw [List.map_replicate]

theorem pAdd_snoc {st : List Nat} {j : Nat} : pAdd (tN st) (.tuple [.int (j : Int)]) = if st.length + 1 ≤ sizeLine then some (.t (st.map nD ++ [nD j])) else none := by
  show (if (st.map nD).length + [PyData.int (j : Int)].length ≤ sizeLine then _ else _) = _
  rw [List.length_map]; rfl
theorem snoc_tN {st : List Nat} {j : Nat} : PyData.tuple (st.map nD ++ [nD j]) = tN (st ++ [j]) := by unfold tN; rw [List.map_append]; rfl
end L3

/-! comers one after another -/
namespace L3
open PySem PySem.W PySem.Spec PyProof.Rows L2
theorem occ_snoc (F : List (List Nat)) (st : List Nat) (j : Nat) : occ F (st ++ [j]) = occ F st ++ wayAt F j := by
  unfold occ wayAt
  rw [List.flatMap_append]; simp
theorem more_loads {F : List (List Nat)} {n : Nat} {st : List Nat} {j : Nat} (hn : ∀ w ∈ F, w.Nodup) (hj : j < F.length) : moreN (loadsN n (occ F st)) (wayAt F j) = loadsN n (occ F (st ++ [j])) := by
  refine List.ext_getElem? fun i => ?_
  rw [occ_snoc]
  unfold moreN loadsN
  rw [List.getElem?_map, List.getElem?_zipIdx, List.getElem?_map, List.getElem?_map]
  cases h : (List.range n)[i]? with
  | none => rfl
  | some t =>
    have : t = i := by
      obtain ⟨h1, h2⟩ := List.getElem?_eq_some_iff.mp h
      rw [List.getElem_range] at h2; exact h2.symm
    subst this
    simp only [Option.map_some, Nat.zero_add, List.count_append]
    rw [count_nodup (hn _ (wayAt_mem hj))]
    by_cases hw : t ∈ wayAt F j
    · rw [if_pos hw, if_pos hw]
    · rw [if_neg hw, if_neg hw]; rfl
def bestAt (F : List (List Nat)) (T : List (List (Option Nat))) (n : Nat) (st : List Nat) : List Nat := cheapN F T (loadsN n (occ F st))
def pickAt (P : List Nat) (best : List Nat) (i : Nat) : Nat := atN best (atN P (i % P.length) % best.length)
def comeStep (F : List (List Nat)) (T : List (List (Option Nat))) (n : Nat) (P : List Nat) (p : List Nat × List (Option Nat)) (i : Nat) : List Nat × List (Option Nat) :=
  if bestAt F T n p.1 = [] then p else (p.1 ++ [pickAt P (bestAt F T n p.1) i], p.2 ++ [priceN T (loadsN n (occ F p.1)) (wayAt F (pickAt P (bestAt F T n p.1) i))])
def comeIt (F : List (List Nat)) (T : List (List (Option Nat))) (n : Nat) (P : List Nat) (m : Nat) : List Nat × List (Option Nat) := (List.range m).foldl (comeStep F T n P) ([], [])
theorem comeIt_succ (F : List (List Nat)) (T : List (List (Option Nat))) (n : Nat) (P : List Nat) (m : Nat) : comeIt F T n P (m + 1) = comeStep F T n P (comeIt F T n P m) m := by
  unfold comeIt; rw [List.range_succ, List.foldl_append]; rfl
theorem comeIt_stop {F : List (List Nat)} {T : List (List (Option Nat))} {n : Nat} {P : List Nat} {i : Nat} (h : bestAt F T n (comeIt F T n P i).1 = []) : ∀ k, comeIt F T n P (i + k) = comeIt F T n P i
  | 0 => rfl
  | k + 1 => by
    rw [← Nat.add_assoc, comeIt_succ, comeIt_stop h k]
    unfold comeStep
    rw [if_pos h]
theorem cheap_lt {F : List (List Nat)} {T : List (List (Option Nat))} {L : List Nat} {j : Nat} (h : j ∈ cheapN F T L) : j < F.length := by
  unfold cheapN cheapIx at h
  obtain ⟨a, ha, rfl⟩ := List.mem_map.mp h
  have := zipIdx_mem (List.mem_filter.mp ha).1
  have := (List.getElem?_eq_some_iff.mp this).1
  rwa [List.length_map] at this
theorem pick_lt {P best : List Nat} {i : Nat} (h : best ≠ []) : pickAt P best i ∈ best := atN_mem (Nat.mod_lt _ (List.length_pos_iff.mpr h))
theorem comeIt_ok {F : List (List Nat)} {T : List (List (Option Nat))} {n : Nat} {P : List Nat} : ∀ m, (∀ j ∈ (comeIt F T n P m).1, j < F.length) ∧ (comeIt F T n P m).1.length ≤ m ∧ (comeIt F T n P m).2.length ≤ m
  | 0 => ⟨(fun j h => by cases h), Nat.le_refl 0, Nat.le_refl 0⟩
  | m + 1 => by
    obtain ⟨h1, h2, h3⟩ := comeIt_ok (F := F) (T := T) (n := n) (P := P) m
    rw [comeIt_succ]
    unfold comeStep
    split
    · exact ⟨h1, by omega, by omega⟩
    · rename_i hb
      refine ⟨fun j hj => ?_, by simp; omega, by simp; omega⟩
      rcases List.mem_append.mp hj with h | h
      · exact h1 j h
      · rw [List.mem_singleton.mp h]
        exact cheap_lt (pick_lt hb)
theorem pAdd_snocT {t : List (Option Nat)} {o : Option Nat} : pAdd (tabD t) (.tuple [oD o]) = if t.length + 1 ≤ sizeLine then some (.t (t.map oD ++ [oD o])) else none := by
  show (if (t.map oD).length + [oD o].length ≤ sizeLine then _ else _) = _
  rw [List.length_map]; rfl
theorem snoc_tab {t : List (Option Nat)} {o : Option Nat} : PyData.tuple (t.map oD ++ [oD o]) = tabD (t ++ [o]) := by unfold tabD; rw [List.map_append]; rfl
end L3

/-! states that stand, wishes -/
namespace L3
open PySem PySem.W PySem.Spec PyProof.Rows L2
theorem tab_down {m : Nat} {t : List (Option Nat)} (h : Tab m t) {i k : Nat} (hi : (entN t i).isSome = true) (hk : k ≤ i) : (entN t k).isSome = true := by
  obtain ⟨r, q, rfl, _, _⟩ := h.shape
  unfold entN at hi ⊢
  have hlt : i < r.length := by
    rcases Nat.lt_or_ge i r.length with z | z
    · exact z
    · rw [List.getElem?_append_right (by rw [List.length_map]; exact z), List.getElem?_replicate] at hi
      split at hi <;> simp at hi
  rw [List.getElem?_append_left (by rw [List.length_map]; omega), List.getElem?_map, List.getElem?_eq_getElem (show k < r.length by omega)]
  rfl
theorem optSum_some {os : List (Option Nat)} : (optSum os).isSome = true ↔ ∀ o ∈ os, o.isSome = true := by
  unfold optSum
  by_cases h : os.any Option.isNone = true
  · rw [if_pos h]
    obtain ⟨o, ho, h2⟩ := List.any_eq_true.mp h
    constructor
    · intro z; cases z
    · intro z
      have := z o ho
      rw [Option.isNone_iff_eq_none.mp h2] at this; cases this
  · rw [if_neg h]
    refine ⟨fun _ o ho => ?_, fun _ => rfl⟩
    rw [Bool.not_eq_true, List.any_eq_false] at h
    have := h o ho
    cases o with
    | none => exact absurd rfl this
    | some x => rfl
theorem price_some {T : List (List (Option Nat))} {L w : List Nat} : (priceN T L w).isSome = true ↔ ∀ t ∈ w, (entN (tabAt T t) (atN L t)).isSome = true := by
  unfold priceN
  rw [optSum_some]
  simp
/-- a state that stands: what is used is open -/
structure Stand (F : List (List Nat)) (T : List (List (Option Nat))) (n : Nat) (st : List Nat) : Prop where
  lt : ∀ j ∈ st, j < F.length
  op : ∀ t, t < n → ∀ i, i < (occ F st).count t → (entN (tabAt T t) i).isSome = true
theorem tab_at {n m : Nat} {T : List (List (Option Nat))} (hT : Tabs n m T) {t : Nat} (ht : t < n) : Tab m (tabAt T t) := by
  refine hT.all _ ?_
  unfold tabAt
  rw [List.getD_eq_getElem?_getD, List.getElem?_eq_getElem (by rw [hT.len]; exact ht)]
  exact List.getElem_mem _
theorem stand_of {F : List (List Nat)} {T : List (List (Option Nat))} {n m : Nat} {st : List Nat} (hT : Tabs n m T) (hl : ∀ j ∈ st, j < F.length) (h : standsN T (loadsN n (occ F st)) = true) : Stand F T n st where
  lt := hl
  op := fun t ht i hi => by
    unfold standsN at h
    have h1 := List.all_eq_true.mp h ((occ F st).count t, t) (by
      refine List.mem_iff_getElem?.mpr ⟨t, ?_⟩
      rw [List.getElem?_zipIdx, loadsN_get ht]
      simp)
    simp only [Bool.and_eq_true, decide_eq_true_eq, Bool.or_eq_true] at h1
    rcases h1.2 with h2 | h2
    · omega
    · exact tab_down (tab_at hT ht) h2 (by omega)
theorem of_stand {F : List (List Nat)} {T : List (List (Option Nat))} {n : Nat} {st : List Nat} (h : Stand F T n st) : standsN T (loadsN n (occ F st)) = true := by
  unfold standsN
  rw [List.all_eq_true]
  intro a ha
  have hz := zipIdx_mem ha
  have hlt : a.2 < n := by
    have := (List.getElem?_eq_some_iff.mp hz).1
    rwa [loadsN_len] at this
  rw [loadsN_get hlt] at hz
  have e : a.1 = (occ F st).count a.2 := (Option.some.inj hz).symm
  rw [Bool.and_eq_true, Bool.or_eq_true, decide_eq_true_eq, decide_eq_true_eq]
  by_cases h0 : a.1 = 0
  · exact ⟨by omega, .inl h0⟩
  · have h1 := h.op a.2 hlt (a.1 - 1) (by omega)
    refine ⟨?_, .inr h1⟩
    unfold entN at h1
    rcases Nat.lt_or_ge (a.1 - 1) (tabAt T a.2).length with q | q
    · omega
    · rw [List.getElem?_eq_none q] at h1; cases h1
theorem stand_nil (F : List (List Nat)) (T : List (List (Option Nat))) (n : Nat) : Stand F T n [] := ⟨fun j h => (by cases h), fun t _ i hi => absurd hi (Nat.not_lt_zero _)⟩
theorem stand_snoc {F : List (List Nat)} {T : List (List (Option Nat))} {n : Nat} {st : List Nat} {j : Nat} (hn : ∀ w ∈ F, w.Nodup) (hlt : ∀ w ∈ F, ∀ t ∈ w, t < n) (h : Stand F T n st) (hj : j < F.length) (hp : (priceN T (loadsN n (occ F st)) (wayAt F j)).isSome = true) : Stand F T n (st ++ [j]) where
  lt := fun k hk => by
    rcases List.mem_append.mp hk with q | q
    · exact h.lt k q
    · rw [List.mem_singleton.mp q]; exact hj
  op := fun t ht i hi => by
    rw [occ_snoc, List.count_append, count_nodup (hn _ (wayAt_mem hj))] at hi
    by_cases hw : t ∈ wayAt F j
    · rw [if_pos hw] at hi
      by_cases h2 : i < (occ F st).count t
      · exact h.op t ht i h2
      · have := price_some.mp hp t hw
        rw [loadsN_getD ht] at this
        rw [show i = (occ F st).count t from by omega]
        exact this
    · rw [if_neg hw] at hi
      exact h.op t ht i hi
/-- the loads without comer c -/
def lessC (F : List (List Nat)) (n : Nat) (st : List Nat) (c : Nat) : List Nat := lessN (loadsN n (occ F st)) (wayAt F (atN st c))
theorem lessC_len (F : List (List Nat)) (n : Nat) (st : List Nat) (c : Nat) : (lessC F n st c).length = n := by unfold lessC; rw [lessN_len, loadsN_len]
theorem lessC_get {F : List (List Nat)} {n : Nat} {st : List Nat} {c t : Nat} (ht : t < n) : atN (lessC F n st c) t = (occ F st).count t - (if t ∈ wayAt F (atN st c) then 1 else 0) := by
  unfold lessC
  rw [lessN_get (by rw [loadsN_len]; exact ht), loadsN_getD ht]
  split <;> rfl
theorem stand_cost {F : List (List Nat)} {T : List (List (Option Nat))} {n : Nat} {st : List Nat} {c : Nat} (hlt : ∀ w ∈ F, ∀ t ∈ w, t < n) (h : Stand F T n st) (hc : c < st.length) : (costN F T n st c).isSome = true := by
  unfold costN
  rw [price_some]
  intro t ht
  have htn := hlt _ (wayAt_mem (h.lt _ (atN_mem hc))) t ht
  have e := lessC_get (F := F) (st := st) (c := c) htn
  unfold lessC at e
  rw [e, if_pos ht]
  refine h.op t htn _ ?_
  have := occ_pos hc ht
  omega
def chgN (st : List Nat) (c j : Nat) : List Nat := st.take c ++ [j] ++ st.drop (c + 1)
theorem chg_len {st : List Nat} {c j : Nat} (hc : c < st.length) : (chgN st c j).length = st.length := by
  unfold chgN
  rw [List.length_append, List.length_append, List.length_take, List.length_drop, List.length_singleton]
  omega
theorem chg_at {st : List Nat} {c j : Nat} (hc : c < st.length) : atN (chgN st c j) c = j := by
  unfold chgN atN
  rw [List.getD_eq_getElem?_getD, List.append_assoc, List.getElem?_append_right (by rw [List.length_take]; omega)]
  rw [List.length_take, show c - min c st.length = 0 from by omega]
  rfl
theorem st_split {st : List Nat} {c : Nat} (hc : c < st.length) : st = st.take c ++ [atN st c] ++ st.drop (c + 1) := by
  have : atN st c = st[c] := by unfold atN; rw [List.getD_eq_getElem?_getD, List.getElem?_eq_getElem hc]; rfl
  rw [this, List.append_assoc, List.singleton_append, ← List.drop_eq_getElem_cons hc, List.take_append_drop]
theorem chg_mem {st : List Nat} {c j k : Nat} (h : k ∈ chgN st c j) : k = j ∨ k ∈ st := by
  unfold chgN at h
  rcases List.mem_append.mp h with h | h
  · rcases List.mem_append.mp h with h | h
    · exact .inr (List.mem_of_mem_take h)
    · exact .inl (List.mem_singleton.mp h)
  · exact .inr (List.mem_of_mem_drop h)
theorem chg_count {F : List (List Nat)} {n : Nat} {st : List Nat} {c j : Nat} (hn : ∀ w ∈ F, w.Nodup) (hst : ∀ k ∈ st, k < F.length) (hc : c < st.length) (hj : j < F.length) {t : Nat} (ht : t < n) : (occ F (chgN st c j)).count t = atN (lessC F n st c) t + (if t ∈ wayAt F j then 1 else 0) := by
  have e1 : (occ F st).count t = (occ F (st.take c)).count t + (if t ∈ wayAt F (atN st c) then 1 else 0) + (occ F (st.drop (c + 1))).count t := by
    conv => lhs; rw [st_split hc]
    unfold occ
    rw [List.flatMap_append, List.flatMap_append, List.count_append, List.count_append]
    rw [← count_nodup (hn _ (wayAt_mem (hst _ (atN_mem hc))))]
    simp [wayAt]
  have e2 : (occ F (chgN st c j)).count t = (occ F (st.take c)).count t + (if t ∈ wayAt F j then 1 else 0) + (occ F (st.drop (c + 1))).count t := by
    unfold chgN occ
    rw [List.flatMap_append, List.flatMap_append, List.count_append, List.count_append]
    rw [← count_nodup (hn _ (wayAt_mem hj))]
    simp [wayAt]
  rw [lessC_get ht, e1, e2]
  split <;> split <;> omega
theorem stand_chg {F : List (List Nat)} {T : List (List (Option Nat))} {n : Nat} {st : List Nat} {c j : Nat} (hn : ∀ w ∈ F, w.Nodup) (h : Stand F T n st) (hc : c < st.length) (hj : j < F.length) (hp : (priceN T (lessC F n st c) (wayAt F j)).isSome = true) : Stand F T n (chgN st c j) where
  lt := fun k hk => by
    rcases chg_mem hk with rfl | q
    · exact hj
    · exact h.lt k q
  op := fun t ht i hi => by
    rw [chg_count hn h.lt hc hj ht] at hi
    have hle : atN (lessC F n st c) t ≤ (occ F st).count t := by rw [lessC_get ht]; omega
    by_cases hw : t ∈ wayAt F j
    · rw [if_pos hw] at hi
      by_cases h2 : i < atN (lessC F n st c) t
      · exact h.op t ht i (by omega)
      · rw [show i = atN (lessC F n st c) t from by omega]
        exact price_some.mp hp t hw
    · rw [if_neg hw] at hi
      exact h.op t ht i (by omega)
/-! ### the cheapest -/
theorem least_ex : ∀ (os : List (Option Nat)), (∃ o ∈ os, o.isSome = true) → ∃ o ∈ os, isLeast os o = true
  | os, ⟨o, ho, hs⟩ => by
    have hx : os.filterMap id ≠ [] := by
      cases o with
      | none => cases hs
      | some x => exact List.ne_nil_of_mem (List.mem_filterMap.mpr ⟨some x, ho, rfl⟩)
    obtain ⟨m, _, ⟨y, hy, e⟩, h3⟩ := pMin_of (fun n : Nat => (n : Int)) (xs := os.filterMap id) (.inl rfl) hx
    have hy2 : some y ∈ os := by
      obtain ⟨q, hq, e⟩ := List.mem_filterMap.mp hy
      cases q with
      | none => cases e
      | some z => cases e; exact hq
    refine ⟨some y, hy2, ?_⟩
    show os.all _ = true
    rw [List.all_eq_true]
    intro q hq
    cases q with
    | none => rfl
    | some z =>
      have := h3 z (List.mem_filterMap.mpr ⟨some z, hq, rfl⟩)
      exact decide_eq_true (by omega)
theorem cheap_ne {F : List (List Nat)} {T : List (List (Option Nat))} {L : List Nat} {w : List Nat} (hw : w ∈ F) (h : (priceN T L w).isSome = true) : cheapN F T L ≠ [] := by
  obtain ⟨o, ho, hl⟩ := least_ex (F.map (priceN T L)) ⟨_, List.mem_map.mpr ⟨w, hw, rfl⟩, h⟩
  obtain ⟨i, hi⟩ := List.mem_iff_getElem?.mp ho
  unfold cheapN cheapIx
  refine List.ne_nil_of_mem (List.mem_map.mpr ⟨(o, i), List.mem_filter.mpr ⟨List.mem_iff_getElem?.mpr ⟨i, ?_⟩, hl⟩, rfl⟩)
  rw [List.getElem?_zipIdx, hi]; simp
theorem cheap_mem {F : List (List Nat)} {T : List (List (Option Nat))} {L : List Nat} {j : Nat} (h : j ∈ cheapN F T L) : isLeast (F.map (priceN T L)) (priceN T L (wayAt F j)) = true := by
  have hj := cheap_lt h
  unfold cheapN cheapIx at h
  obtain ⟨a, ha, rfl⟩ := List.mem_map.mp h
  obtain ⟨h1, h2⟩ := List.mem_filter.mp ha
  have hz := zipIdx_mem h1
  rw [List.getElem?_map, getD_lt (d := []) hj] at hz
  have : a.1 = priceN T L (wayAt F a.2) := (Option.some.inj hz).symm
  rwa [this] at h2
theorem least_some {os : List (Option Nat)} {o : Option Nat} (h : isLeast os o = true) : o.isSome = true := by
  cases o with
  | none => cases h
  | some x => rfl
/-! ### wishes -/
def headC (F : List (List Nat)) (T : List (List (Option Nat))) (n : Nat) (st : List Nat) (c : Nat) : Nat := atN (cheapN F T (lessC F n st c)) 0
def wishC (F : List (List Nat)) (T : List (List (Option Nat))) (n : Nat) (st : List Nat) (c : Nat) : Option Nat :=
  if (priceN T (lessC F n st c) (wayAt F (headC F T n st c))).getD 0 < (costN F T n st c).getD 0 then some (headC F T n st c) else none
def firstW (f : Nat → Option Nat) : Nat → Option (Nat × Nat)
  | 0 => none
  | n + 1 => match firstW f n with
    | some x => some x
    | none => (f n).map fun j => (n, j)
theorem firstW_none {f : Nat → Option Nat} : ∀ {n : Nat}, (∀ c, c < n → f c = none) → firstW f n = none
  | 0, _ => rfl
  | n + 1, h => by
    unfold firstW
    rw [firstW_none fun c hc => h c (by omega), h n (by omega)]; rfl
theorem firstW_at {f : Nat → Option Nat} {i j : Nat} : ∀ {n : Nat}, (∀ c, c < i → f c = none) → f i = some j → i < n → firstW f n = some (i, j)
  | 0, _, _, h => absurd h (Nat.not_lt_zero _)
  | n + 1, h0, h1, h => by
    unfold firstW
    by_cases e : i = n
    · subst e
      rw [firstW_none h0, h1]; rfl
    · rw [firstW_at h0 h1 (show i < n by omega)]
theorem firstW_inv {f : Nat → Option Nat} {i j : Nat} : ∀ {n : Nat}, firstW f n = some (i, j) → i < n ∧ f i = some j
  | 0, h => by cases h
  | n + 1, h => by
    unfold firstW at h
    cases e : firstW f n with
    | some x =>
      rw [e] at h; cases h
      have := firstW_inv e
      exact ⟨by omega, this.2⟩
    | none =>
      rw [e] at h
      cases e2 : f n with
      | none => rw [e2] at h; cases h
      | some y => rw [e2] at h; cases h; exact ⟨by omega, e2⟩
def wishN (F : List (List Nat)) (T : List (List (Option Nat))) (n : Nat) (st : List Nat) : Option (Nat × Nat) := firstW (wishC F T n st) st.length
def wD : Option (Nat × Nat) → D
  | some (c, j) => .tuple [.int (c : Int), .int (j : Int)]
  | none => .none
/-- what is so of comer c in a state that stands -/
structure Cm (F : List (List Nat)) (T : List (List (Option Nat))) (n : Nat) (st : List Nat) (c : Nat) : Prop where
  cost : ∃ v : Nat, costN F T n st c = some v
  head : headC F T n st c ∈ cheapN F T (lessC F n st c)
  price : ∃ v : Nat, priceN T (lessC F n st c) (wayAt F (headC F T n st c)) = some v
  lt : headC F T n st c < F.length
theorem cm_of {F : List (List Nat)} {T : List (List (Option Nat))} {n : Nat} {st : List Nat} {c : Nat} (hlt : ∀ w ∈ F, ∀ t ∈ w, t < n) (h : Stand F T n st) (hc : c < st.length) : Cm F T n st c := by
  have h1 := stand_cost hlt h hc
  have h2 : cheapN F T (lessC F n st c) ≠ [] := cheap_ne (wayAt_mem (h.lt _ (atN_mem hc))) h1
  have h3 : headC F T n st c ∈ cheapN F T (lessC F n st c) := atN_mem (List.length_pos_iff.mpr h2)
  have h4 := least_some (cheap_mem h3)
  exact ⟨Option.isSome_iff_exists.mp h1, h3, Option.isSome_iff_exists.mp h4, cheap_lt h3⟩

theorem chg_D {st : List Nat} {c j : Nat} : PyData.tuple (cutL (st.map nD) none (some (c : Int)) ++ PyData.int (j : Int) :: cutL (st.map nD) (some ((c : Int) + 1)) none) = tN (chgN st c j) := by
  rw [cut_to, show (c : Int) + 1 = ((c + 1 : Nat) : Int) from by omega, cut_from]
  unfold tN chgN
  rw [List.map_append, List.map_append, List.map_take, List.map_drop, List.append_assoc]; rfl
theorem cut_len_to {st : List Nat} {c : Nat} : (cutL (st.map nD) none (some (c : Int))).length ≤ st.length := by
  rw [cut_to, List.length_take, List.length_map]; omega
theorem cut_len_from {st : List Nat} {c : Nat} : (cutL (st.map nD) (some ((c : Int) + 1)) none).length ≤ st.length := by
  rw [show (c : Int) + 1 = ((c + 1 : Nat) : Int) from by omega, cut_from, List.length_drop, List.length_map]; omega
def cjD (p : Nat × Nat) : D := .tuple [.int (p.1 : Int), .int (p.2 : Int)]

theorem ndEq_any {ds : List D} (h1 : noDictAll ds = true) (h2 : PyData.canLayAll0 ds = true) (h3 : PyData.depthAll ds ≤ 60) : nd2 pEq (.list ds) (.list []) = some ds.isEmpty := by
  refine nd2_some ?_ h1 rfl
  unfold pEq
  have s1 : SeqAt.shaped (.list ds) = true := by
    unfold SeqAt.shaped
    rw [PyData.canLay0, h2]
    have : (PyData.list ds).depth ≤ 64 := by
      show PyData.depthAll ds + 1 ≤ 64
      omega
    simp [this]
  have s2 : SeqAt.shaped (.list []) = true := shaped_lN []
  rw [s1, s2]
  show some (PyData.eqv (.list ds) (.list [])) = _
  cases ds with
  | nil => rfl
  | cons d ds => rfl
theorem cj_tN (x : Nat × Nat) : cjD x = tN [x.1, x.2] := rfl
@[simp] theorem ndEq_cj {xs : List (Nat × Nat)} : nd2 pEq (.list (xs.map cjD)) (.list []) = some xs.isEmpty := by
  have e : xs.map cjD = (xs.map fun x => [x.1, x.2]).map tN := by rw [List.map_map]; rfl
  rw [e, ndEq_any (noDict_tNs _) (lay_tNs _) (Nat.le_trans (depth_tNs _) (by omega))]
  cases xs <;> rfl
end L3

/-! the whole, and what a change does to it -/
namespace L3
open PySem PySem.W PySem.Spec PyProof.Rows L2
theorem tabSum_succ (t : List (Option Nat)) (l : Nat) : tabSum t (l + 1) = tabSum t l + (entN t l).getD 0 := by
  unfold tabSum entN
  rw [List.take_add_one, List.map_append, List.sum_append]
  cases t[l]? <;> simp
theorem whole_range {T : List (List (Option Nat))} {L : List Nat} {n : Nat} (hT : T.length = n) (hL : L.length = n) : wholeN T L = ((List.range n).map fun t => tabSum (tabAt T t) (atN L t)).sum := by
  unfold wholeN
  congr 1
  refine List.ext_getElem? fun i => ?_
  rw [List.getElem?_map, List.getElem?_map]
  by_cases h : i < n
  · have h1 : (T.zip L)[i]? = some (tabAt T i, atN L i) := List.getElem?_zip_eq_some.mpr ⟨getD_lt (by omega), getD_lt (by omega)⟩
    rw [h1, List.getElem?_range h]; rfl
  · rw [List.getElem?_eq_none (by rw [List.length_zip]; omega), List.getElem?_eq_none (by rw [List.length_range]; omega)]; rfl
theorem sum_ite (p : Nat → Bool) (g : Nat → Nat) : ∀ l : List Nat, (l.map fun t => if p t then g t else 0).sum = ((l.filter p).map g).sum
  | [] => rfl
  | x :: l => by
    rw [List.map_cons, List.sum_cons, sum_ite p g l]
    by_cases h : p x = true
    · rw [if_pos h, List.filter_cons_of_pos h, List.map_cons, List.sum_cons]
    · rw [if_neg h, List.filter_cons_of_neg h]; omega
theorem sum_way {w : List Nat} {n : Nat} (g : Nat → Nat) (hn : w.Nodup) (hl : ∀ t ∈ w, t < n) : ((List.range n).map fun t => if t ∈ w then g t else 0).sum = (w.map g).sum := by
  have e : ((List.range n).map fun t => if t ∈ w then g t else 0) = (List.range n).map fun t => if decide (t ∈ w) = true then g t else 0 := List.map_congr_left fun t _ => by simp
  rw [e, sum_ite]
  refine List.Perm.sum_nat (List.Perm.map g ?_)
  refine (List.perm_ext_iff_of_nodup (List.nodup_range.sublist List.filter_sublist) hn).mpr fun t => ?_
  rw [List.mem_filter, List.mem_range]
  simp
  exact hl t
theorem sum_add {l : List Nat} (f g : Nat → Nat) : (l.map fun t => f t + g t).sum = (l.map f).sum + (l.map g).sum := by
  induction l with
  | nil => rfl
  | cons x l ih => simp only [List.map_cons, List.sum_cons, ih]; omega
theorem price_sum {T : List (List (Option Nat))} {L w : List Nat} {v : Nat} (h : priceN T L w = some v) : v = (w.map fun t => (entN (tabAt T t) (atN L t)).getD 0).sum := by
  unfold priceN optSum at h
  split at h
  · cases h
  · rw [List.map_map] at h
    exact (Option.some.inj h).symm
/-- one more along w: the whole rises by w's price -/
theorem whole_add {T : List (List (Option Nat))} {L L' w : List Nat} {n v : Nat} (hT : T.length = n) (hL : L.length = n) (hL' : L'.length = n) (hn : w.Nodup) (hl : ∀ t ∈ w, t < n) (hd : ∀ t, t < n → atN L' t = atN L t + (if t ∈ w then 1 else 0)) (hp : priceN T L w = some v) : wholeN T L' = wholeN T L + v := by
  rw [whole_range hT hL, whole_range hT hL', price_sum hp, ← sum_way _ hn hl, ← sum_add]
  congr 1
  refine List.map_congr_left fun t ht => ?_
  rw [hd t (List.mem_range.mp ht)]
  by_cases h : t ∈ w
  · rw [if_pos h, if_pos h, tabSum_succ]
  · rw [if_neg h, if_neg h]; rfl
def wholeS (F : List (List Nat)) (T : List (List (Option Nat))) (n : Nat) (st : List Nat) : Nat := wholeN T (loadsN n (occ F st))
section
variable {F : List (List Nat)} {T : List (List (Option Nat))} {n : Nat} {st : List Nat} {c j v p : Nat}
theorem whole_own (hT : T.length = n) (hn : ∀ w ∈ F, w.Nodup) (hlt : ∀ w ∈ F, ∀ t ∈ w, t < n) (hst : ∀ k ∈ st, k < F.length) (hc : c < st.length) (hv : costN F T n st c = some v) : wholeS F T n st = wholeN T (lessC F n st c) + v := by
  have hw := wayAt_mem (hst _ (atN_mem hc))
  refine whole_add hT (lessC_len F n st c) (loadsN_len _ _) (hn _ hw) (hlt _ hw) (fun t ht => ?_) hv
  rw [loadsN_getD ht, lessC_get ht]
  split
  · rename_i h
    have := occ_pos hc h
    omega
  · omega
theorem whole_chg (hT : T.length = n) (hn : ∀ w ∈ F, w.Nodup) (hlt : ∀ w ∈ F, ∀ t ∈ w, t < n) (hst : ∀ k ∈ st, k < F.length) (hc : c < st.length) (hj : j < F.length) (hp : priceN T (lessC F n st c) (wayAt F j) = some p) : wholeS F T n (chgN st c j) = wholeN T (lessC F n st c) + p := by
  have hw := wayAt_mem hj
  refine whole_add hT (lessC_len F n st c) (loadsN_len _ _) (hn _ hw) (hlt _ hw) (fun t ht => ?_) hp
  rw [loadsN_getD ht, chg_count hn hst hc hj ht]
theorem chg_lt (hst : ∀ k ∈ st, k < F.length) (hj : j < F.length) : ∀ k ∈ chgN st c j, k < F.length := fun k hk => by
  rcases chg_mem hk with rfl | q
  · exact hj
  · exact hst k q
theorem lessC_chg (hn : ∀ w ∈ F, w.Nodup) (hst : ∀ k ∈ st, k < F.length) (hc : c < st.length) (hj : j < F.length) : lessC F n (chgN st c j) c = lessC F n st c := by
  refine List.ext_getElem? fun t => ?_
  by_cases h : t < n
  · rw [getD_lt (d := 0) (by rw [lessC_len]; exact h), getD_lt (d := 0) (xs := lessC F n st c) (by rw [lessC_len]; exact h)]
    congr 1
    show atN (lessC F n (chgN st c j) c) t = atN (lessC F n st c) t
    rw [lessC_get h, chg_at hc, chg_count hn hst hc hj h]
    split <;> omega
  · rw [List.getElem?_eq_none (by rw [lessC_len]; omega), List.getElem?_eq_none (by rw [lessC_len]; omega)]
theorem cost_chg (hn : ∀ w ∈ F, w.Nodup) (hst : ∀ k ∈ st, k < F.length) (hc : c < st.length) (hj : j < F.length) : costN F T n (chgN st c j) c = priceN T (lessC F n st c) (wayAt F j) := by
  have e := lessC_chg (n := n) hn hst hc hj
  unfold costN
  rw [chg_at hc]
  unfold lessC at e ⊢
  rw [chg_at hc] at e
  rw [e]
theorem stand_take (h : Stand F T n st) (k : Nat) : Stand F T n (st.take k) where
  lt := fun j hj => h.lt j (List.mem_of_mem_take hj)
  op := fun t ht i hi => h.op t ht i (by
    have : (occ F st).count t = (occ F (st.take k)).count t + (occ F (st.drop k)).count t := by
      rw [← List.count_append]
      unfold occ
      rw [← List.flatMap_append, List.take_append_drop]
    omega)
/-- who wishes: the whole falls -/
theorem wish_falls (hT : T.length = n) (hn : ∀ w ∈ F, w.Nodup) (hlt : ∀ w ∈ F, ∀ t ∈ w, t < n) (hS : Stand F T n st) (h : wishN F T n st = some (c, j)) : c < st.length ∧ j < F.length ∧ Stand F T n (chgN st c j) ∧ wholeS F T n (chgN st c j) < wholeS F T n st := by
  obtain ⟨hc, hw⟩ := firstW_inv h
  have hcm := cm_of hlt hS hc
  obtain ⟨v, hv⟩ := hcm.cost
  obtain ⟨p, hp⟩ := hcm.price
  unfold wishC at hw
  rw [hv, hp] at hw
  split at hw
  · rename_i hlt2
    have e : headC F T n st c = j := Option.some.inj hw
    have hlt2 : p < v := hlt2
    have hj := hcm.lt
    rw [e] at hp hj
    refine ⟨hc, hj, stand_chg hn hS hc hj (by rw [hp]; rfl), ?_⟩
    rw [whole_own hT hn hlt hS.lt hc hv, whole_chg hT hn hlt hS.lt hc hj hp]
    omega
  · cases hw
end
/-- wish by wish -/
def roundStep (F : List (List Nat)) (T : List (List (Option Nat))) (n : Nat) (p : List Nat × Nat) : List Nat × Nat := match wishN F T n p.1 with
  | none => p
  | some (c, j) => (chgN p.1 c j, p.2 + 1)
def roundIt (F : List (List Nat)) (T : List (List (Option Nat))) (n : Nat) (st : List Nat) : Nat → List Nat × Nat
  | 0 => (st, 0)
  | k + 1 => roundStep F T n (roundIt F T n st k)
section
variable {F : List (List Nat)} {T : List (List (Option Nat))} {n : Nat} {st : List Nat}
theorem step_none {p : List Nat × Nat} (h : wishN F T n p.1 = none) : roundStep F T n p = p := by unfold roundStep; rw [h]
theorem step_some {p : List Nat × Nat} {c j : Nat} (h : wishN F T n p.1 = some (c, j)) : roundStep F T n p = (chgN p.1 c j, p.2 + 1) := by unfold roundStep; rw [h]
theorem roundIt_succ (k : Nat) : roundIt F T n st (k + 1) = roundStep F T n (roundIt F T n st k) := rfl
theorem roundIt_stop {i : Nat} (h : wishN F T n (roundIt F T n st i).1 = none) : ∀ k, roundIt F T n st (i + k) = roundIt F T n st i
  | 0 => rfl
  | k + 1 => by
    rw [← Nat.add_assoc, roundIt_succ, roundIt_stop h k, step_none h]
theorem roundIt_ok (hT : T.length = n) (hn : ∀ w ∈ F, w.Nodup) (hlt : ∀ w ∈ F, ∀ t ∈ w, t < n) (hS : Stand F T n st) : ∀ k, Stand F T n (roundIt F T n st k).1 ∧ (roundIt F T n st k).1.length = st.length ∧ (roundIt F T n st k).2 ≤ k ∧ wholeS F T n (roundIt F T n st k).1 + (roundIt F T n st k).2 ≤ wholeS F T n st ∧ ((roundIt F T n st k).2 < k → wishN F T n (roundIt F T n st k).1 = none)
  | 0 => ⟨hS, rfl, Nat.le_refl _, Nat.le_refl _, fun h => absurd h (Nat.not_lt_zero _)⟩
  | k + 1 => by
    obtain ⟨h1, h2, h3, h4, h5⟩ := roundIt_ok hT hn hlt hS k
    rw [roundIt_succ]
    generalize roundIt F T n st k = p at h1 h2 h3 h4 h5
    cases e : wishN F T n p.1 with
    | none =>
      rw [step_none e]
      exact ⟨h1, h2, by omega, h4, fun _ => e⟩
    | some x =>
      obtain ⟨c, j⟩ := x
      obtain ⟨hc, hj, hS2, hf⟩ := wish_falls hT hn hlt h1 e
      rw [step_some e]
      refine ⟨hS2, by rw [chg_len hc]; exact h2, by show p.2 + 1 ≤ k + 1; omega, by show wholeS F T n (chgN p.1 c j) + (p.2 + 1) ≤ _; omega, fun h => ?_⟩
      have h : p.2 + 1 < k + 1 := h
      rw [h5 (by omega)] at e
      cases e
/-- as long as somebody wishes, the number is the turns' -/
theorem roundIt_num {i : Nat} (h : ∀ k, k < i → wishN F T n (roundIt F T n st k).1 ≠ none) : (roundIt F T n st i).2 = i := by
  induction i with
  | zero => rfl
  | succ i ih =>
    have e := ih fun k hk => h k (by omega)
    have h2 := h i (by omega)
    rw [roundIt_succ]
    cases hw : wishN F T n (roundIt F T n st i).1 with
    | none => exact absurd hw h2
    | some x => obtain ⟨c, j⟩ := x; rw [step_some hw]; show (roundIt F T n st i).2 + 1 = i + 1; rw [e]
end
end L3

/-! things each once: whoever came calm stays calm -/
namespace L3
open PySem PySem.W PySem.Spec PyProof.Rows L2
def leO (a b : Option Nat) : Prop := match a, b with
  | _, none => True
  | none, some _ => False
  | some x, some y => x ≤ y
def addO (a b : Option Nat) : Option Nat := match a, b with
  | some x, some y => some (x + y)
  | _, _ => none
theorem leO_refl (a : Option Nat) : leO a a := by cases a <;> simp [leO]
theorem leO_trans {a b c : Option Nat} (h1 : leO a b) (h2 : leO b c) : leO a c := by
  cases a <;> cases b <;> cases c <;> simp [leO] at * <;> omega
theorem leO_add {a b c d : Option Nat} (h1 : leO a c) (h2 : leO b d) : leO (addO a b) (addO c d) := by
  cases a <;> cases b <;> cases c <;> cases d <;> simp [leO, addO] at * <;> omega
theorem leO_left {a c b : Option Nat} {y : Nat} (hb : b = some y) (h : leO (addO a b) (addO c b)) : leO a c := by
  subst hb
  cases a <;> cases c <;> simp [leO, addO] at * <;> omega
theorem leO_right {a c b : Option Nat} {y : Nat} (hb : b = some y) (h : leO (addO b a) (addO b c)) : leO a c := by
  subst hb
  cases a <;> cases c <;> simp [leO, addO] at * <;> omega
theorem leO_some {a : Option Nat} {y : Nat} (h : leO a (some y)) : ∃ x, a = some x ∧ x ≤ y := by
  cases a with
  | none => exact absurd h (by simp [leO])
  | some x => exact ⟨x, rfl, h⟩
theorem addO_some {a b : Option Nat} {z : Nat} (h : addO a b = some z) : ∃ x y, a = some x ∧ b = some y := by
  cases a <;> cases b <;> simp [addO] at h
  exact ⟨_, _, rfl, rfl⟩
/-- a way's price by the loads f -/
def priceF (T : List (List (Option Nat))) (f : Nat → Nat) (w : List Nat) : Option Nat := optSum (w.map fun t => entN (tabAt T t) (f t))
theorem priceN_F (T : List (List (Option Nat))) (L w : List Nat) : priceN T L w = priceF T (atN L) w := rfl
theorem optSum_append (a b : List (Option Nat)) : optSum (a ++ b) = addO (optSum a) (optSum b) := by
  unfold optSum
  rw [List.any_append]
  cases ha : a.any Option.isNone <;> cases hb : b.any Option.isNone <;> simp [addO]
theorem optSum_perm {a b : List (Option Nat)} (p : a.Perm b) : optSum a = optSum b := by
  unfold optSum
  have h : a.any Option.isNone = b.any Option.isNone := by
    rw [Bool.eq_iff_iff, List.any_eq_true, List.any_eq_true]
    exact ⟨fun ⟨x, hx, h⟩ => ⟨x, p.mem_iff.mp hx, h⟩, fun ⟨x, hx, h⟩ => ⟨x, p.mem_iff.mpr hx, h⟩⟩
  rw [h, (p.map _).sum_nat]
theorem priceF_app (T : List (List (Option Nat))) (f : Nat → Nat) (a b : List Nat) : priceF T f (srtN (a ++ b)) = addO (priceF T f a) (priceF T f b) := by
  unfold priceF
  rw [optSum_perm ((srtN_perm (a ++ b)).map _), List.map_append, optSum_append]
theorem priceF_congr {T : List (List (Option Nat))} {f g : Nat → Nat} {w : List Nat} (h : ∀ t ∈ w, f t = g t) : priceF T f w = priceF T g w := by
  unfold priceF
  congr 1
  exact List.map_congr_left fun t ht => by rw [h t ht]
/-- tables that rise -/
def RiseT (T : List (List (Option Nat))) : Prop := ∀ t i j, i ≤ j → leO (entN (tabAt T t) i) (entN (tabAt T t) j)
theorem optSum_cons (o : Option Nat) (l : List (Option Nat)) : optSum (o :: l) = addO o (optSum l) := by
  have := optSum_append [o] l
  rw [List.singleton_append] at this
  rw [this]
  congr 1
  cases o <;> simp [optSum]
theorem priceF_mono {T : List (List (Option Nat))} (hR : RiseT T) {f g : Nat → Nat} : ∀ {w : List Nat}, (∀ t ∈ w, f t ≤ g t) → leO (priceF T f w) (priceF T g w)
  | [], _ => leO_refl _
  | t :: w, h => by
    unfold priceF
    rw [List.map_cons, List.map_cons, optSum_cons, optSum_cons]
    exact leO_add (hR t _ _ (h t List.mem_cons_self)) (priceF_mono hR fun x hx => h x (List.mem_cons_of_mem _ hx))
theorem tab_rise {m : Nat} {t : List (Option Nat)} (h : Tab m t) {i j : Nat} (hij : i ≤ j) : leO (entN t i) (entN t j) := by
  cases e : entN t j with
  | none => cases entN t i <;> simp [leO]
  | some y =>
    have h1 := tab_down h (i := j) (k := i) (by rw [e]; rfl) hij
    obtain ⟨x, hx⟩ := Option.isSome_iff_exists.mp h1
    rw [hx]
    obtain ⟨r, k, rfl, hr, _⟩ := h.shape
    have get : ∀ (i : Nat) (x : Nat), entN (r.map some ++ List.replicate k none) i = some x → r[i]? = some x := fun i x hx => by
      unfold entN at hx
      rcases Nat.lt_or_ge i r.length with q | q
      · rw [List.getElem?_append_left (by rw [List.length_map]; exact q), List.getElem?_map, List.getElem?_eq_getElem q] at hx
        rw [List.getElem?_eq_getElem q]
        exact hx
      · rw [List.getElem?_append_right (by rw [List.length_map]; exact q), List.getElem?_replicate] at hx
        split at hx <;> simp at hx
    have g1 := get _ _ hx
    have g2 := get _ _ e
    show x ≤ y
    by_cases hij2 : i = j
    · subst hij2; rw [g1] at g2; cases g2; exact Nat.le_refl _
    · obtain ⟨l1, q1⟩ := List.getElem?_eq_some_iff.mp g1
      obtain ⟨l2, q2⟩ := List.getElem?_eq_some_iff.mp g2
      have := List.pairwise_iff_getElem.mp hr i j l1 l2 (by omega)
      omega
theorem rise_of {n m : Nat} {T : List (List (Option Nat))} (hT : Tabs n m T) : RiseT T := fun t i j hij => by
  by_cases h : t < n
  · exact tab_rise (tab_at hT h) hij
  · have : tabAt T t = [] := by
      unfold tabAt
      rw [List.getD_eq_getElem?_getD, List.getElem?_eq_none (by have := hT.len; omega)]; rfl
    rw [this]
    exact leO_refl _
def Best (T : List (List (Option Nat))) (W : List (List Nat)) (f : Nat → Nat) (w : List Nat) : Prop := w ∈ W ∧ (priceF T f w).isSome = true ∧ ∀ x ∈ W, leO (priceF T f w) (priceF T f x)
def outF (f : Nat → Nat) (w : List Nat) : Nat → Nat := fun t => f t - (if t ∈ w then 1 else 0)
def inF (f : Nat → Nat) (v : List Nat) : Nat → Nat := fun t => f t + (if t ∈ v then 1 else 0)
/-- who is content stays content, and pays no more than the newest -/
def Calm (W : List (List Nat)) : Prop := ∀ (T : List (List (Option Nat))) (f : Nat → Nat) (w v : List Nat), RiseT T → (∀ t ∈ w, 1 ≤ f t) → Best T W (outF f w) w → Best T W f v → Best T W (outF (inF f v) w) w ∧ leO (priceF T (outF (inF f v) w) w) (priceF T f v)
theorem calm_unit : Calm [[]] := fun T f w v hR hf hw hv => by
  have e1 := List.mem_singleton.mp hw.1
  have e2 := List.mem_singleton.mp hv.1
  subst e1; subst e2
  exact ⟨⟨List.mem_singleton.mpr rfl, rfl, fun x hx => by rw [List.mem_singleton.mp hx]; exact leO_refl _⟩, leO_refl _⟩
theorem calm_none : Calm [] := fun T f w v hR hf hw hv => absurd hw.1 (by simp)
theorem calm_leaf (k : Nat) : Calm [[k]] := fun T f w v hR hf hw hv => by
  have e1 := List.mem_singleton.mp hw.1
  have e2 := List.mem_singleton.mp hv.1
  subst e1; subst e2
  have e : priceF T (outF (inF f [k]) [k]) [k] = priceF T f [k] := priceF_congr fun t ht => by
    have h2 := List.mem_singleton.mp ht
    subst h2
    unfold outF inF
    simp
  refine ⟨⟨List.mem_singleton.mpr rfl, by rw [e]; exact hv.2.1, fun x hx => by rw [List.mem_singleton.mp hx]; exact leO_refl _⟩, by rw [e]; exact leO_refl _⟩
theorem calm_side {A B : List (List Nat)} {a b : List Nat} (hA : Calm A) (hB : Calm B) (sa : ∀ w ∈ A, ∀ x ∈ w, x ∈ a) (sb : ∀ w ∈ B, ∀ x ∈ w, x ∈ b) (hd : ∀ x ∈ a, x ∉ b) : Calm (A ++ B) := by
  -- one half; the other by turning
  have half : ∀ {A B : List (List Nat)} {a b : List Nat}, Calm A → (∀ w ∈ A, ∀ x ∈ w, x ∈ a) → (∀ w ∈ B, ∀ x ∈ w, x ∈ b) → (∀ x ∈ a, x ∉ b) → ∀ (T : List (List (Option Nat))) (f : Nat → Nat) (w v : List Nat), RiseT T → (∀ t ∈ w, 1 ≤ f t) → w ∈ A → (priceF T (outF f w) w).isSome = true → (∀ x, x ∈ A ∨ x ∈ B → leO (priceF T (outF f w) w) (priceF T (outF f w) x)) → (v ∈ A ∨ v ∈ B) → (priceF T f v).isSome = true → (∀ x, x ∈ A ∨ x ∈ B → leO (priceF T f v) (priceF T f x)) →
      (priceF T (outF (inF f v) w) w).isSome = true ∧ (∀ x, x ∈ A ∨ x ∈ B → leO (priceF T (outF (inF f v) w) w) (priceF T (outF (inF f v) w) x)) ∧ leO (priceF T (outF (inF f v) w) w) (priceF T f v) := by
    intro A B a b hA sa sb hd T f w v hR hf hwA hw1 hw2 hv0 hv1 hv2
    have outB : ∀ x ∈ B, ∀ g : Nat → Nat, priceF T (outF g w) x = priceF T g x := fun x hx g => priceF_congr fun t ht => by
      unfold outF
      rw [if_neg fun q => hd t (sa w hwA t q) (sb x hx t ht)]; omega
    rcases hv0 with hvA | hvB
    · obtain ⟨h1, h2⟩ := hA T f w v hR hf ⟨hwA, hw1, fun x hx => hw2 x (.inl hx)⟩ ⟨hvA, hv1, fun x hx => hv2 x (.inl hx)⟩
      refine ⟨h1.2.1, fun x hx => ?_, h2⟩
      rcases hx with hx | hx
      · exact h1.2.2 x hx
      · rw [outB x hx]
        have e : priceF T (inF f v) x = priceF T f x := priceF_congr fun t ht => by
          unfold inF
          rw [if_neg fun q => hd t (sa v hvA t q) (sb x hx t ht)]; omega
        rw [e]
        exact leO_trans h2 (hv2 x (.inr hx))
    · have inA : ∀ x ∈ A, priceF T (outF (inF f v) w) x = priceF T (outF f w) x := fun x hx => priceF_congr fun t ht => by
        unfold outF inF
        rw [if_neg (fun q => hd t (sa x hx t ht) (sb v hvB t q) : ¬ t ∈ v)]; omega
      rw [inA w hwA]
      have h3 : leO (priceF T (outF f w) w) (priceF T f v) := by
        have := hw2 v (.inr hvB)
        rwa [outB v hvB] at this
      refine ⟨hw1, fun x hx => ?_, h3⟩
      rcases hx with hx | hx
      · rw [inA x hx]; exact hw2 x (.inl hx)
      · rw [outB x hx]
        refine leO_trans h3 (leO_trans (hv2 x (.inr hx)) (priceF_mono hR fun t _ => ?_))
        unfold inF; omega
  intro T f w v hR hf hw hv
  have all : ∀ {g : Nat → Nat} {u : List Nat}, (∀ x ∈ A ++ B, leO (priceF T g u) (priceF T g x)) → ∀ x, x ∈ A ∨ x ∈ B → leO (priceF T g u) (priceF T g x) := fun h x hx => h x (List.mem_append.mpr hx)
  rcases List.mem_append.mp hw.1 with hwA | hwB
  · obtain ⟨h1, h2, h3⟩ := half hA sa sb hd T f w v hR hf hwA hw.2.1 (all hw.2.2) (List.mem_append.mp hv.1) hv.2.1 (all hv.2.2)
    exact ⟨⟨hw.1, h1, fun x hx => h2 x (List.mem_append.mp hx)⟩, h3⟩
  · obtain ⟨h1, h2, h3⟩ := half hB sb sa (fun x hx hx2 => hd x hx2 hx) T f w v hR hf hwB hw.2.1 (fun x hx => all hw.2.2 x hx.symm) (List.mem_append.mp hv.1).symm hv.2.1 (fun x hx => all hv.2.2 x hx.symm)
    exact ⟨⟨hw.1, h1, fun x hx => h2 x (List.mem_append.mp hx).symm⟩, h3⟩
theorem calm_cross {A B : List (List Nat)} {a b : List Nat} (hA : Calm A) (hB : Calm B) (sa : ∀ w ∈ A, ∀ x ∈ w, x ∈ a) (sb : ∀ w ∈ B, ∀ x ∈ w, x ∈ b) (hd : ∀ x ∈ a, x ∉ b) : Calm (cross A B) := by
  intro T f w v hR hf hw hv
  -- best of a product: best in both
  have split : ∀ (g : Nat → Nat) (w1 w2 : List Nat), w1 ∈ A → w2 ∈ B → Best T (cross A B) g (srtN (w1 ++ w2)) → Best T A g w1 ∧ Best T B g w2 := by
    intro g w1 w2 h1 h2 hb
    have hp := hb.2.1
    obtain ⟨z, hz⟩ := Option.isSome_iff_exists.mp hp
    rw [priceF_app] at hz
    obtain ⟨x, y, hx, hy⟩ := addO_some hz
    refine ⟨⟨h1, by rw [hx]; rfl, fun u hu => ?_⟩, ⟨h2, by rw [hy]; rfl, fun u hu => ?_⟩⟩
    · have := hb.2.2 _ (cross_mem.mpr ⟨u, hu, w2, h2, rfl⟩)
      rw [priceF_app, priceF_app] at this
      exact leO_left hy this
    · have := hb.2.2 _ (cross_mem.mpr ⟨w1, h1, u, hu, rfl⟩)
      rw [priceF_app, priceF_app] at this
      exact leO_right hx this
  obtain ⟨w1, hw1, w2, hw2, rfl⟩ := cross_mem.mp hw.1
  obtain ⟨v1, hv1, v2, hv2, rfl⟩ := cross_mem.mp hv.1
  obtain ⟨bw1, bw2⟩ := split _ _ _ hw1 hw2 hw
  obtain ⟨bv1, bv2⟩ := split _ _ _ hv1 hv2 hv
  have mA : ∀ (x1 x2 : List Nat), x1 ∈ A → x2 ∈ B → ∀ t ∈ a, (t ∈ srtN (x1 ++ x2)) = (t ∈ x1) := fun x1 x2 h1 h2 t ht => by
    rw [srtN_mem, List.mem_append]
    exact propext ⟨fun q => q.elim id fun z => absurd (sb x2 h2 t z) (hd t ht), .inl⟩
  have mB : ∀ (x1 x2 : List Nat), x1 ∈ A → x2 ∈ B → ∀ t ∈ b, (t ∈ srtN (x1 ++ x2)) = (t ∈ x2) := fun x1 x2 h1 h2 t ht => by
    rw [srtN_mem, List.mem_append]
    exact propext ⟨fun q => q.elim (fun z => absurd ht (hd t (sa x1 h1 t z))) id, .inr⟩
  have oA : ∀ (x : List Nat), x ∈ A → priceF T (outF f (srtN (w1 ++ w2))) x = priceF T (outF f w1) x := fun x hx => priceF_congr fun t ht => by
    unfold outF; simp only [mA w1 w2 hw1 hw2 t (sa x hx t ht)]
  have oB : ∀ (x : List Nat), x ∈ B → priceF T (outF f (srtN (w1 ++ w2))) x = priceF T (outF f w2) x := fun x hx => priceF_congr fun t ht => by
    unfold outF; simp only [mB w1 w2 hw1 hw2 t (sb x hx t ht)]
  have pA : ∀ (x : List Nat), x ∈ A → priceF T (outF (inF f (srtN (v1 ++ v2))) (srtN (w1 ++ w2))) x = priceF T (outF (inF f v1) w1) x := fun x hx => priceF_congr fun t ht => by
    unfold outF inF; simp only [mA w1 w2 hw1 hw2 t (sa x hx t ht), mA v1 v2 hv1 hv2 t (sa x hx t ht)]
  have pB : ∀ (x : List Nat), x ∈ B → priceF T (outF (inF f (srtN (v1 ++ v2))) (srtN (w1 ++ w2))) x = priceF T (outF (inF f v2) w2) x := fun x hx => priceF_congr fun t ht => by
    unfold outF inF; simp only [mB w1 w2 hw1 hw2 t (sb x hx t ht), mB v1 v2 hv1 hv2 t (sb x hx t ht)]
  have f1 : ∀ t ∈ w1, 1 ≤ f t := fun t ht => hf t (srtN_mem.mpr (List.mem_append_left _ ht))
  have f2 : ∀ t ∈ w2, 1 ≤ f t := fun t ht => hf t (srtN_mem.mpr (List.mem_append_right _ ht))
  have b1 : Best T A (outF f w1) w1 := ⟨hw1, by rw [← oA w1 hw1]; exact bw1.2.1, fun x hx => by rw [← oA w1 hw1, ← oA x hx]; exact bw1.2.2 x hx⟩
  have b2 : Best T B (outF f w2) w2 := ⟨hw2, by rw [← oB w2 hw2]; exact bw2.2.1, fun x hx => by rw [← oB w2 hw2, ← oB x hx]; exact bw2.2.2 x hx⟩
  obtain ⟨c1, d1⟩ := hA T f w1 v1 hR f1 b1 bv1
  obtain ⟨c2, d2⟩ := hB T f w2 v2 hR f2 b2 bv2
  have e : priceF T (outF (inF f (srtN (v1 ++ v2))) (srtN (w1 ++ w2))) (srtN (w1 ++ w2)) = addO (priceF T (outF (inF f v1) w1) w1) (priceF T (outF (inF f v2) w2) w2) := by
    rw [priceF_app, pA w1 hw1, pB w2 hw2]
  refine ⟨⟨hw.1, ?_, fun x hx => ?_⟩, ?_⟩
  · rw [e]
    obtain ⟨x, hx⟩ := Option.isSome_iff_exists.mp c1.2.1
    obtain ⟨y, hy⟩ := Option.isSome_iff_exists.mp c2.2.1
    rw [hx, hy]; rfl
  · obtain ⟨x1, hx1, x2, hx2, rfl⟩ := cross_mem.mp hx
    rw [e, priceF_app, pA x1 hx1, pB x2 hx2]
    exact leO_add (c1.2.2 x1 hx1) (c2.2.2 x2 hx2)
  · rw [e, priceF_app]
    exact leO_add d1 d2
theorem Calm.perm {A B : List (List Nat)} (h : Calm A) (p : ∀ w, w ∈ A ↔ w ∈ B) : Calm B := by
  intro T f w v hR hf hw hv
  have bs : ∀ (g : Nat → Nat) (u : List Nat), Best T B g u → Best T A g u := fun g u hb => ⟨(p u).mpr hb.1, hb.2.1, fun x hx => hb.2.2 x ((p x).mp hx)⟩
  obtain ⟨h1, h2⟩ := h T f w v hR hf (bs _ _ hw) (bs _ _ hv)
  exact ⟨⟨hw.1, h1.2.1, fun x hx => h1.2.2 x ((p x).mpr hx)⟩, h2⟩
/-- what is so of parts is so of what is put together of them -/
theorem ind_foldl {P : List (List Nat) → Prop} (hc : ∀ (A B : List (List Nat)) (a b : List Nat), P A → P B → (∀ w ∈ A, ∀ x ∈ w, x ∈ a) → (∀ w ∈ B, ∀ x ∈ w, x ∈ b) → (∀ x ∈ a, x ∉ b) → P (cross A B)) : ∀ (ps : List Pt) (J : List (List Nat)) (a : List Nat), P J → (∀ w ∈ J, ∀ x ∈ w, x ∈ a) → (∀ p ∈ ps, P p.2.1) → (∀ p ∈ ps, ∀ w ∈ p.2.1, ∀ x ∈ w, x ∈ p.2.2) → (a ++ ps.flatMap (·.2.2)).Nodup → P ((ps.map (·.2.1)).foldl cross J)
  | [], J, a, h, _, _, _, _ => h
  | p :: ps, J, a, h, sa, hp, sp, hn => by
    rw [List.flatMap_cons, ← List.append_assoc] at hn
    have hn2 := List.nodup_append.mp (List.nodup_append.mp hn).1
    refine ind_foldl hc ps (cross J p.2.1) (a ++ p.2.2) (hc _ _ a p.2.2 h (hp p List.mem_cons_self) sa (sp p List.mem_cons_self) fun x hx hy => hn2.2.2 x hx x hy rfl) (fun v hv x hx => ?_) (fun q hq => hp q (List.mem_cons_of_mem _ hq)) (fun q hq => sp q (List.mem_cons_of_mem _ hq)) hn
    obtain ⟨w, hw, m, hm, rfl⟩ := cross_mem.mp hv
    rw [srtN_mem, List.mem_append] at hx
    rw [List.mem_append]
    rcases hx with hx | hx
    · exact .inl (sa w hw x hx)
    · exact .inr (sp p List.mem_cons_self m hm x hx)
theorem ind_flat {P : List (List Nat) → Prop} (h0 : P []) (hs : ∀ (A B : List (List Nat)) (a b : List Nat), P A → P B → (∀ w ∈ A, ∀ x ∈ w, x ∈ a) → (∀ w ∈ B, ∀ x ∈ w, x ∈ b) → (∀ x ∈ a, x ∉ b) → P (A ++ B)) : ∀ (ps : List Pt), (∀ p ∈ ps, P p.2.1) → (∀ p ∈ ps, ∀ w ∈ p.2.1, ∀ x ∈ w, x ∈ p.2.2) → (ps.flatMap (·.2.2)).Nodup → P (ps.flatMap (·.2.1))
  | [], _, _, _ => h0
  | p :: ps, hp, sp, hn => by
    rw [List.flatMap_cons] at hn ⊢
    have hn2 := List.nodup_append.mp hn
    refine hs _ _ p.2.2 (ps.flatMap (·.2.2)) (hp p List.mem_cons_self) (ind_flat h0 hs ps (fun q hq => hp q (List.mem_cons_of_mem _ hq)) (fun q hq => sp q (List.mem_cons_of_mem _ hq)) hn2.2.1) (sp p List.mem_cons_self) (fun w hw x hx => ?_) fun x hx hy => hn2.2.2 x hx x hy rfl
    obtain ⟨q, hq, hwq⟩ := List.mem_flatMap.mp hw
    exact List.mem_flatMap.mpr ⟨q, hq, sp q (List.mem_cons_of_mem _ hq) w hwq x hx⟩
theorem Sp.ind {P : List (List Nat) → Prop} (hu : P [[]]) (h0 : P []) (hl : ∀ k, P [[k]]) (hc : ∀ (A B : List (List Nat)) (a b : List Nat), P A → P B → (∀ w ∈ A, ∀ x ∈ w, x ∈ a) → (∀ w ∈ B, ∀ x ∈ w, x ∈ b) → (∀ x ∈ a, x ∉ b) → P (cross A B))
    (hs : ∀ (A B : List (List Nat)) (a b : List Nat), P A → P B → (∀ w ∈ A, ∀ x ∈ w, x ∈ a) → (∀ w ∈ B, ∀ x ∈ w, x ∈ b) → (∀ x ∈ a, x ∉ b) → P (A ++ B)) {m : Nat} {t : D} {W : List (List Nat)} {th : List Nat} (h : Sp m t W th) : th.Nodup → P W := by
  induction h with
  | leaf n => exact fun _ => hl n
  | row ps hp h2 h3 hm ih =>
    intro hn
    have pn := part_nodup hn
    exact ind_foldl hc ps [[]] [] hu (fun w hw x hx => by rw [List.mem_singleton.mp hw] at hx; exact hx) (fun p hpm => ih p hpm (pn p hpm)) (fun p hpm => ((hp p hpm).ways (pn p hpm)).sub) (by simpa using hn)
  | side ps hp h2 h3 ih =>
    intro hn
    have pn := part_nodup hn
    exact ind_flat h0 hs ps (fun p hpm => ih p hpm (pn p hpm)) (fun p hpm => ((hp p hpm).ways (pn p hpm)).sub) hn
theorem Sp.calm {m : Nat} {t : D} {W : List (List Nat)} {th : List Nat} (h : Sp m t W th) (hn : th.Nodup) : Calm W :=
  h.ind calm_unit calm_none calm_leaf (fun A B a b => calm_cross) (fun A B a b => calm_side) hn
/-! ### comers -/
theorem least_iff {os : List (Option Nat)} {o : Option Nat} : isLeast os o = true ↔ o.isSome = true ∧ ∀ q ∈ os, leO o q := by
  cases o with
  | none => simp [isLeast]
  | some x =>
    show os.all _ = true ↔ _
    rw [List.all_eq_true]
    refine ⟨fun h => ⟨rfl, fun q hq => ?_⟩, fun h q hq => ?_⟩
    · have := h q hq
      cases q with
      | none => trivial
      | some y => exact (show x ≤ y from of_decide_eq_true this)
    · have := h.2 q hq
      cases q with
      | none => rfl
      | some y =>
        have h2 : x ≤ y := this
        simpa using h2
theorem cheap_iff {F : List (List Nat)} {T : List (List (Option Nat))} {L : List Nat} {j : Nat} : j ∈ cheapN F T L ↔ j < F.length ∧ Best T F (atN L) (wayAt F j) := by
  constructor
  · intro h
    have h1 := cheap_lt h
    obtain ⟨h2, h3⟩ := least_iff.mp (cheap_mem h)
    exact ⟨h1, wayAt_mem h1, h2, fun x hx => h3 _ (List.mem_map.mpr ⟨x, hx, rfl⟩)⟩
  · rintro ⟨h1, h2, h3, h4⟩
    unfold cheapN cheapIx
    refine List.mem_map.mpr ⟨(priceN T L (wayAt F j), j), List.mem_filter.mpr ⟨List.mem_iff_getElem?.mpr ⟨j, ?_⟩, ?_⟩, rfl⟩
    · rw [List.getElem?_zipIdx, List.getElem?_map, getD_lt (d := []) h1]
      simp [wayAt]
    · refine least_iff.mpr ⟨h3, fun q hq => ?_⟩
      obtain ⟨x, hx, rfl⟩ := List.mem_map.mp hq
      exact h4 x hx
/-- comer c's way is one of the cheapest, without him -/
def Content (F : List (List Nat)) (T : List (List (Option Nat))) (n : Nat) (st : List Nat) (c : Nat) : Prop := Best T F (atN (lessC F n st c)) (wayAt F (atN st c))
theorem best_congr {T : List (List (Option Nat))} {F : List (List Nat)} {n : Nat} (hlt : ∀ w ∈ F, ∀ t ∈ w, t < n) {f g : Nat → Nat} (h : ∀ t, t < n → f t = g t) {w : List Nat} (hb : Best T F f w) : Best T F g w := by
  have e : ∀ x ∈ F, priceF T f x = priceF T g x := fun x hx => priceF_congr fun t ht => h t (hlt x hx t ht)
  exact ⟨hb.1, by rw [← e w hb.1]; exact hb.2.1, fun x hx => by rw [← e w hb.1, ← e x hx]; exact hb.2.2 x hx⟩
section
variable {F : List (List Nat)} {T : List (List (Option Nat))} {n : Nat} {st : List Nat} {c j : Nat}
theorem snoc_at (hc : c < st.length) : atN (st ++ [j]) c = atN st c := by
  unfold atN
  rw [List.getD_eq_getElem?_getD, List.getD_eq_getElem?_getD, List.getElem?_append_left hc]
theorem snoc_last : atN (st ++ [j]) st.length = j := by
  unfold atN
  rw [List.getD_eq_getElem?_getD, List.getElem?_append_right (Nat.le_refl _)]
  simp
theorem less_out {t : Nat} (ht : t < n) : atN (lessC F n st c) t = outF (fun t => (occ F st).count t) (wayAt F (atN st c)) t := lessC_get ht
theorem snoc_count (hn : ∀ w ∈ F, w.Nodup) (hj : j < F.length) (t : Nat) : (occ F (st ++ [j])).count t = inF (fun t => (occ F st).count t) (wayAt F j) t := by
  rw [occ_snoc, List.count_append, count_nodup (hn _ (wayAt_mem hj))]; rfl
theorem loads_best (hlt : ∀ w ∈ F, ∀ t ∈ w, t < n) (hj : j ∈ cheapN F T (loadsN n (occ F st))) : Best T F (fun t => (occ F st).count t) (wayAt F j) :=
  best_congr hlt (fun t ht => loadsN_getD ht) (cheap_iff.mp hj).2
theorem content_snoc (hC : Calm F) (hR : RiseT T) (hn : ∀ w ∈ F, w.Nodup) (hlt : ∀ w ∈ F, ∀ t ∈ w, t < n) (hc : c < st.length) (h : Content F T n st c) (hj : j ∈ cheapN F T (loadsN n (occ F st))) : Content F T n (st ++ [j]) c ∧ leO (costN F T n (st ++ [j]) c) (priceN T (loadsN n (occ F st)) (wayAt F j)) := by
  have hjl := cheap_lt hj
  have b1 : Best T F (outF (fun t => (occ F st).count t) (wayAt F (atN st c))) (wayAt F (atN st c)) := best_congr hlt (fun t ht => less_out ht) h
  obtain ⟨h1, h2⟩ := hC T (fun t => (occ F st).count t) (wayAt F (atN st c)) (wayAt F j) hR (fun t ht => occ_pos hc ht) b1 (loads_best hlt hj)
  have e : ∀ t, t < n → outF (inF (fun t => (occ F st).count t) (wayAt F j)) (wayAt F (atN st c)) t = atN (lessC F n (st ++ [j]) c) t := fun t ht => by
    rw [less_out ht, snoc_at hc]
    unfold outF
    simp only [snoc_count hn hjl]
  have b2 := best_congr hlt e h1
  refine ⟨by unfold Content; rw [snoc_at hc]; exact b2, ?_⟩
  have e2 : costN F T n (st ++ [j]) c = priceF T (outF (inF (fun t => (occ F st).count t) (wayAt F j)) (wayAt F (atN st c))) (wayAt F (atN st c)) := by
    unfold costN
    rw [snoc_at hc, priceN_F]
    refine (priceF_congr fun t ht => ?_).symm
    have := e t (hlt _ h.1 t ht)
    rw [this]
    unfold lessC
    rw [snoc_at hc]
  have e3 : priceN T (loadsN n (occ F st)) (wayAt F j) = priceF T (fun t => (occ F st).count t) (wayAt F j) := by
    rw [priceN_F]
    exact priceF_congr fun t ht => loadsN_getD (hlt _ (wayAt_mem hjl) t ht)
  rw [e2, e3]
  exact h2
theorem content_last (hn : ∀ w ∈ F, w.Nodup) (hlt : ∀ w ∈ F, ∀ t ∈ w, t < n) (hj : j ∈ cheapN F T (loadsN n (occ F st))) : Content F T n (st ++ [j]) st.length ∧ costN F T n (st ++ [j]) st.length = priceN T (loadsN n (occ F st)) (wayAt F j) := by
  have hjl := cheap_lt hj
  have e : ∀ t, t < n → (occ F st).count t = atN (lessC F n (st ++ [j]) st.length) t := fun t ht => by
    rw [less_out ht, snoc_last]
    unfold outF
    simp only [snoc_count hn hjl, inF]
    split <;> omega
  have b := best_congr hlt e (loads_best hlt hj)
  refine ⟨by unfold Content; rw [snoc_last]; exact b, ?_⟩
  unfold costN
  rw [snoc_last, priceN_F, priceN_F]
  refine priceF_congr fun t ht => ?_
  have ht2 := hlt _ (wayAt_mem hjl) t ht
  have := e t ht2
  unfold lessC at this
  rw [snoc_last] at this
  rw [← this, loadsN_getD ht2]
end
/-- states of comers who came one after another -/
inductive Came (F : List (List Nat)) (T : List (List (Option Nat))) (n : Nat) : List Nat → Prop
  | nil : Came F T n []
  | snoc {st : List Nat} {j : Nat} : Came F T n st → j ∈ cheapN F T (loadsN n (occ F st)) → Came F T n (st ++ [j])
theorem Came.take {F : List (List Nat)} {T : List (List (Option Nat))} {n : Nat} {st : List Nat} (h : Came F T n st) : ∀ k, Came F T n (st.take k) := by
  induction h with
  | nil => intro k; rw [List.take_nil]; exact .nil
  | @snoc st j h1 h2 ih =>
    intro k
    by_cases hk : k ≤ st.length
    · rw [List.take_append_of_le_length hk]; exact ih k
    · rw [List.take_of_length_le (by rw [List.length_append, List.length_singleton]; omega)]
      exact .snoc h1 h2
theorem came_it {F : List (List Nat)} {T : List (List (Option Nat))} {n : Nat} {P : List Nat} : ∀ m, Came F T n (comeIt F T n P m).1
  | 0 => .nil
  | m + 1 => by
    have ih := came_it (F := F) (T := T) (n := n) (P := P) m
    rw [comeIt_succ]
    unfold comeStep
    split
    · exact ih
    · rename_i hb
      exact .snoc ih (pick_lt hb)
theorem came_stand {F : List (List Nat)} {T : List (List (Option Nat))} {n : Nat} {st : List Nat} (hn : ∀ w ∈ F, w.Nodup) (hlt : ∀ w ∈ F, ∀ t ∈ w, t < n) (h : Came F T n st) : Stand F T n st := by
  induction h with
  | nil => exact stand_nil F T n
  | snoc h1 h2 ih => exact stand_snoc hn hlt ih (cheap_lt h2) (least_some (cheap_mem h2))
theorem came_content {F : List (List Nat)} {T : List (List (Option Nat))} {n : Nat} {st : List Nat} (hC : Calm F) (hR : RiseT T) (hn : ∀ w ∈ F, w.Nodup) (hlt : ∀ w ∈ F, ∀ t ∈ w, t < n) (h : Came F T n st) : ∀ c, c < st.length → Content F T n st c := by
  induction h with
  | nil => exact fun c hc => absurd hc (Nat.not_lt_zero _)
  | @snoc st j h1 h2 ih =>
    intro c hc
    by_cases e : c < st.length
    · exact (content_snoc hC hR hn hlt e (ih c e) h2).1
    · have : c = st.length := by rw [List.length_append, List.length_singleton] at hc; omega
      subst this
      exact (content_last hn hlt h2).1
theorem content_rest {F : List (List Nat)} {T : List (List (Option Nat))} {n : Nat} {st : List Nat} (hlt : ∀ w ∈ F, ∀ t ∈ w, t < n) (hS : Stand F T n st) (h : ∀ c, c < st.length → Content F T n st c) : wishN F T n st = none := by
  refine firstW_none fun c hc => ?_
  have hcm := cm_of hlt hS hc
  obtain ⟨v, hv⟩ := hcm.cost
  obtain ⟨p, hp⟩ := hcm.price
  have := (h c hc).2.2 _ (wayAt_mem hcm.lt)
  unfold wishC
  rw [hv, hp]
  have e1 : priceF T (atN (lessC F n st c)) (wayAt F (atN st c)) = some v := hv
  have e2 : priceF T (atN (lessC F n st c)) (wayAt F (headC F T n st c)) = some p := hp
  rw [e1, e2] at this
  have this : v ≤ p := this
  rw [if_neg (by simp; omega)]
end L3

/-! who judges comers -/
namespace L3
open PySem PySem.W PySem.Spec PyProof.Rows L2
@[simp] theorem pRev_tuple {xs : List D} : pRev (.tuple xs) = some (.t xs.reverse) := rfl
@[simp] theorem pRev_tN {w : List Nat} : pRev (tN w) = some (.t (w.reverse.map nD)) := by
  show some (PO.t (w.map nD).reverse) = _
  rw [List.map_reverse]
inductive Ato : D → Prop
  | int (n : Nat) : Ato (.int (n : Int))
  | bool (b : Bool) : Ato (.bool b)
/-- the values that are judged -/
inductive Vl : D → Prop
  | none : Vl .none
  | lst (ds : List D) : Vl (.list ds)
  | short (ds : List D) : ds.length ≠ 2 → Vl (.tuple ds)
  | left (x y : D) (b : Bool) : isTy "tuple" x = some false → isTy "tuple" y = some b → Vl (.tuple [x, y])
  | right (xs : List D) (y : D) : isTy "tuple" y = some false → Vl (.tuple [.tuple xs, y])
  | pair (xs ys : List D) : (∀ x ∈ xs, Ato x) → (∀ y ∈ ys, Ato y) → xs.length ≤ 100 → ys.length ≤ 100 → Vl (.tuple [.tuple xs, .tuple ys])
def stepOk (F : List (List Nat)) (T : List (List (Option Nat))) (n : Nat) (st : List Nat) (x y : D) : Option Nat := match x, y with
  | .int i, .int q => if i.toNat ∈ cheapN F T (loadsN n (occ F st)) ∧ priceN T (loadsN n (occ F st)) (wayAt F i.toNat) = some q.toNat then some i.toNat else none
  | _, _ => none
def runOk (F : List (List Nat)) (T : List (List (Option Nat))) (n : Nat) : List (D × D) → List Nat → Bool
  | [], _ => true
  | (x, y) :: r, st => match stepOk F T n st x y with
    | some j => runOk F T n r (st ++ [j])
    | none => false
def judge (F : List (List Nat)) (T : List (List (Option Nat))) (n : Nat) : D → Bool
  | .tuple [.tuple xs, .tuple ys] => if xs.length = ys.length then runOk F T n (xs.zip ys) [] else false
  | _ => false
section
variable {F : List (List Nat)} {T : List (List (Option Nat))} {n : Nat}
theorem run_some {zs : List (D × D)} {i : Nat} {x y : D} {st : List Nat} {j : Nat} {b : Bool} (hz : zs[i]? = some (x, y)) (h : b = runOk F T n (zs.drop i) st) (hs : stepOk F T n st x y = some j) : b = runOk F T n (zs.drop (i + 1)) (st ++ [j]) := by
  obtain ⟨hi, e⟩ := List.getElem?_eq_some_iff.mp hz
  rw [List.drop_eq_getElem_cons hi, e] at h
  unfold runOk at h
  rw [hs] at h
  exact h
theorem run_none {zs : List (D × D)} {i : Nat} {x y : D} {st : List Nat} {b : Bool} (hz : zs[i]? = some (x, y)) (h : b = runOk F T n (zs.drop i) st) (hs : stepOk F T n st x y = none) : b = false := by
  obtain ⟨hi, e⟩ := List.getElem?_eq_some_iff.mp hz
  rw [List.drop_eq_getElem_cons hi, e] at h
  unfold runOk at h
  rw [hs] at h
  exact h
theorem step_bool_l {st : List Nat} {b : Bool} {y : D} : stepOk F T n st (.bool b) y = none := rfl
theorem step_bool_r {st : List Nat} {b : Bool} {i : Int} : stepOk F T n st (.int i) (.bool b) = none := rfl
theorem step_int {st : List Nat} {i q : Nat} : stepOk F T n st (.int (i : Int)) (.int (q : Int)) = if i ∈ cheapN F T (loadsN n (occ F st)) ∧ priceN T (loadsN n (occ F st)) (wayAt F i) = some q then some i else none := rfl
theorem judge_short {ds : List D} (hd : ds.length ≠ 2) : judge F T n (.tuple ds) = false := by
  unfold judge
  split
  · rename_i h
    have h := PyData.tuple.inj h
    rw [h] at hd
    exact absurd rfl hd
  · rfl
theorem run_end {zs : List (D × D)} {i : Nat} {st : List Nat} {b : Bool} (hi : zs.length ≤ i) (h : b = runOk F T n (zs.drop i) st) : b = true := by
  rw [List.drop_of_length_le hi] at h; exact h
end
end L3
namespace L3
open PySem PySem.W PySem.Spec PyProof.Rows L2
theorem ato_nD {w : List Nat} : ∀ x ∈ w.map nD, Ato x := fun x hx => by
  obtain ⟨k, _, rfl⟩ := List.mem_map.mp hx
  exact .int k
theorem ato_app {a b : List D} (ha : ∀ x ∈ a, Ato x) (hb : ∀ x ∈ b, Ato x) : ∀ x ∈ a ++ b, Ato x := fun x hx => (List.mem_append.mp hx).elim (ha x) (hb x)
theorem ato_cut {a : List D} {lo hi : Option Int} (ha : ∀ x ∈ a, Ato x) : ∀ x ∈ cutL a lo hi, Ato x := fun x hx => by
  unfold cutL at hx
  exact ha x (List.mem_of_mem_drop (List.mem_of_mem_take hx))
theorem len_cut {a : List D} {lo hi : Option Int} : (cutL a lo hi).length ≤ a.length := by
  unfold cutL
  rw [List.length_take, List.length_drop]
  omega
theorem ato_cons {a : D} {b : List D} (ha : Ato a) (hb : ∀ x ∈ b, Ato x) : ∀ x ∈ a :: b, Ato x := fun x hx => by
  rcases List.mem_cons.mp hx with rfl | h
  · exact ha
  · exact hb x h
theorem come_prices {F : List (List Nat)} {T : List (List (Option Nat))} {n : Nat} {P : List Nat} : ∀ m, ∃ ps : List Nat, (comeIt F T n P m).2 = ps.map some ∧ ps.length = (comeIt F T n P m).1.length
  | 0 => ⟨[], rfl, rfl⟩
  | m + 1 => by
    obtain ⟨ps, h1, h2⟩ := come_prices (F := F) (T := T) (n := n) (P := P) m
    rw [comeIt_succ]
    unfold comeStep
    split
    · exact ⟨ps, h1, h2⟩
    · rename_i hb
      obtain ⟨p, hp⟩ := Option.isSome_iff_exists.mp (least_some (cheap_mem (pick_lt (P := P) (i := m) hb)))
      have hp : priceN T (loadsN n (occ F (comeIt F T n P m).1)) (wayAt F (pickAt P (bestAt F T n (comeIt F T n P m).1) m)) = some p := hp
      exact ⟨ps ++ [p], by rw [List.map_append, h1]; show _ ++ [_] = _ ++ [_]; rw [hp], by simp [h2]⟩
theorem tab_some (ps : List Nat) : tabD (ps.map some) = tN ps := by
  unfold tabD tN
  rw [List.map_map]; rfl
end L3

namespace L3
open PySem PySem.W PySem.Spec PyProof.Rows L2

/-! ### while -/
theorem wp_whileN {c : M Bool} {b : M Fl} {Q : Fl → S → Prop} (J : Nat → S → Prop)
    (hs : ∀ n s, J n s → Wp (c s) fun x s1 => (x = false → Q .nx s1) ∧ (x = true → ∃ m, n = m + 1 ∧ Wp (b s1) fun fl s2 => match fl with
      | .nx => J m s2
      | .ct => J m s2
      | .bk => Q .nx s2
      | .rt r => Q (.rt r) s2)) : ∀ n s, J n s → Wp (whileN c b (n + 1) s) Q := by
  intro n
  induction n with
  | zero =>
    intro s hJ
    have h1 := hs 0 s hJ
    unfold whileN
    rw [wp_mbind]
    refine h1.mono fun x s1 hx => ?_
    cases x with
    | false => exact hx.1 rfl
    | true => obtain ⟨m, hm, _⟩ := hx.2 rfl; omega
  | succ n ih =>
    intro s hJ
    have h1 := hs (n + 1) s hJ
    unfold whileN
    rw [wp_mbind]
    refine h1.mono fun x s1 hx => ?_
    cases x with
    | false => exact hx.1 rfl
    | true =>
      obtain ⟨m, hm, hb⟩ := hx.2 rfl
      have em : m = n := by omega
      subst em
      show Wp (loopK (b s1) (whileN c b (m + 1))) Q
      cases e2 : b s1 with
      | stuck => rw [e2] at hb; exact hb.elim
      | exc _ _ _ => rw [e2] at hb; exact hb.elim
      | ok fl s2 =>
        rw [e2] at hb
        match fl, hb with
        | .nx, hb => exact ih s2 hb
        | .ct, hb => exact ih s2 hb
        | .bk, hb => exact hb
        | .rt r, hb => exact hb
theorem wp_while {c : M Bool} {b : M Fl} {Q : Fl → S → Prop} {n : Nat} {s : S} (J : Nat → S → Prop) (h0 : J n s)
    (hs : ∀ n s, J n s → Wp (c s) fun x s1 => (x = false → Q .nx s1) ∧ (x = true → ∃ m, n = m + 1 ∧ Wp (b s1) fun fl s2 => match fl with
      | .nx => J m s2
      | .ct => J m s2
      | .bk => Q .nx s2
      | .rt r => Q (.rt r) s2)) : Wp (sWhile c b s) Q := by
  have h := wp_whileN J hs n s h0
  have ne : whileN c b (n + 1) s ≠ .stuck := fun e => by rw [e] at h; exact h
  rw [sWhile_of ne]
  exact h

/-! ### terms as trees -/
inductive Tr where
  | leaf (x : Nat)
  | node (row : Bool) (ps : List Tr)
def kindS (row : Bool) : Str := if row then "row" else "side"
mutual
def trD : Tr → D
  | .leaf x => .int (x : Int)
  | .node k ps => .tuple [.str (kindS k), .tuple (trDs ps)]
def trDs : List Tr → List D
  | [] => []
  | p :: ps => trD p :: trDs ps
end
mutual
def cnt : Tr → Nat
  | .leaf _ => 1
  | .node _ ps => cnts ps + 1
def cnts : List Tr → Nat
  | [] => 0
  | p :: ps => cnt p + cnts ps
end
mutual
/-- the things of a part, sorted at each part -/
def thS : Tr → List Nat
  | .leaf x => [x]
  | .node _ ps => srtN (thSs ps)
def thSs : List Tr → List Nat
  | [] => []
  | p :: ps => thS p ++ thSs ps
end
abbrev RowT := Option Bool × List Nat × List Nat
def ends (o : Nat) : List Tr → List Nat
  | [] => []
  | p :: ps => (o + cnt p - 1) :: ends (o + cnt p) ps
mutual
def rowsT (o : Nat) : Tr → List RowT
  | .leaf x => [(none, [], [x])]
  | .node k ps => rowsL o ps ++ [(some k, ends o ps, thS (.node k ps))]
def rowsL (o : Nat) : List Tr → List RowT
  | [] => []
  | p :: ps => rowsT o p ++ rowsL (o + cnt p) ps
end
mutual
def subs : Tr → List Tr
  | .leaf x => [.leaf x]
  | .node k ps => subsL ps ++ [.node k ps]
def subsL : List Tr → List Tr
  | [] => []
  | p :: ps => subs p ++ subsL ps
end
theorem cnt_pos (t : Tr) : 1 ≤ cnt t := by
  cases t with
  | leaf x => unfold cnt; omega
  | node k ps => unfold cnt; omega
mutual
theorem rowsT_len (o : Nat) : ∀ t, (rowsT o t).length = cnt t
  | .leaf x => by unfold rowsT cnt; rfl
  | .node k ps => by unfold rowsT cnt; rw [List.length_append, rowsL_len o ps]; rfl
theorem rowsL_len (o : Nat) : ∀ ps, (rowsL o ps).length = cnts ps
  | [] => by unfold rowsL cnts; rfl
  | p :: ps => by unfold rowsL cnts; rw [List.length_append, rowsT_len o p, rowsL_len (o + cnt p) ps]
end
mutual
theorem subs_len : ∀ t, (subs t).length = cnt t
  | .leaf x => by unfold subs cnt; rfl
  | .node k ps => by unfold subs cnt; rw [List.length_append, subsL_len ps]; rfl
theorem subsL_len : ∀ ps, (subsL ps).length = cnts ps
  | [] => by unfold subsL cnts; rfl
  | p :: ps => by unfold subsL cnts; rw [List.length_append, subs_len p, subsL_len ps]
end
theorem ends_len : ∀ (o : Nat) (ps : List Tr), (ends o ps).length = ps.length
  | _, [] => rfl
  | o, p :: ps => by unfold ends; rw [List.length_cons, ends_len, List.length_cons]
theorem trDs_len : ∀ ps, (trDs ps).length = ps.length
  | [] => rfl
  | p :: ps => by unfold trDs; rw [List.length_cons, trDs_len, List.length_cons]
theorem trDs_map : ∀ ps, trDs ps = ps.map trD
  | [] => rfl
  | p :: ps => by unfold trDs; rw [trDs_map, List.map_cons]
theorem rowsT_last (o : Nat) (t : Tr) : ∃ r, (rowsT o t)[cnt t - 1]? = some r ∧ r.2.2 = thS t := by
  cases t with
  | leaf x => unfold rowsT cnt thS; exact ⟨_, rfl, rfl⟩
  | node k ps =>
    refine ⟨(some k, ends o ps, thS (.node k ps)), ?_, rfl⟩
    unfold rowsT cnt
    rw [Nat.add_sub_cancel, List.getElem?_append_right (by rw [rowsL_len]; omega), rowsL_len, Nat.sub_self]
    rfl

/-! ### the stack's turns -/
abbrev PS := List RowT × List (Tr × List Nat)
def bump (n : Nat) : List (Tr × List Nat) → List (Tr × List Nat)
  | [] => []
  | (u, l) :: st => (u, l ++ [n]) :: st
def thOf (R : List RowT) (n : Nat) : List Nat := match R[n]? with
  | some r => r.2.2
  | none => []
def step : PS → PS
  | (R, []) => (R, [])
  | (R, (.leaf x, _) :: st) => (R ++ [(none, [], [x])], bump R.length st)
  | (R, (.node k ps, l) :: st) => match ps[l.length]? with
    | some p => (R, (p, []) :: (.node k ps, l) :: st)
    | none => (R ++ [(some k, l, srtN (l.flatMap (thOf R)))], bump R.length st)
def it : Nat → PS → PS
  | 0, s => s
  | n + 1, s => it n (step s)
theorem it_add : ∀ (n m : Nat) (s : PS), it (n + m) s = it m (it n s)
  | 0, m, s => by rw [Nat.zero_add]; rfl
  | n + 1, m, s => by
    rw [Nat.add_right_comm]
    show it (n + m) (step s) = it m (it n (step s))
    exact it_add n m _
theorem it_succ (n : Nat) (s : PS) : it (n + 1) s = step (it n s) := by rw [it_add]; rfl
theorem thOf_app {R R' : List RowT} {n : Nat} (h : n < R.length) : thOf (R ++ R') n = thOf R n := by unfold thOf; rw [List.getElem?_append_left h]
theorem ends_ths : ∀ (ps : List Tr) (R : List RowT), (ends R.length ps).flatMap (thOf (R ++ rowsL R.length ps)) = thSs ps
  | [], R => by unfold ends thSs; rfl
  | p :: ps, R => by
    unfold ends thSs rowsL
    rw [List.flatMap_cons, ← List.append_assoc]
    have e : (R ++ rowsT R.length p).length = R.length + cnt p := by rw [List.length_append, rowsT_len]
    have ih := ends_ths ps (R ++ rowsT R.length p)
    rw [e] at ih
    rw [ih]
    congr 1
    rw [thOf_app (by have := cnt_pos p; omega)]
    obtain ⟨r, h1, h2⟩ := rowsT_last R.length p
    unfold thOf
    have hp := cnt_pos p
    rw [List.getElem?_append_right (by omega)]
    have e2 : R.length + cnt p - 1 - R.length = cnt p - 1 := by omega
    rw [e2, h1]
    exact h2
mutual
theorem run_t : ∀ (t : Tr) (R : List RowT) (st : List (Tr × List Nat)), it (2 * cnt t - 1) (R, (t, []) :: st) = (R ++ rowsT R.length t, bump (R.length + cnt t - 1) st)
  | .leaf x, R, st => by
    unfold rowsT cnt
    show step (R, (.leaf x, []) :: st) = _
    rfl
  | .node k ps, R, st => by
    have h := run_l ps k [] [] R st rfl
    unfold cnt
    have e : 2 * (cnts ps + 1) - 1 = 2 * cnts ps + 1 := by omega
    rw [e, it_succ]
    rw [List.nil_append, List.nil_append] at h
    rw [h]
    have e2 : ps[(ends R.length ps).length]? = none := List.getElem?_eq_none (by rw [ends_len]; exact Nat.le_refl _)
    show (match ps[(ends R.length ps).length]? with | some p => _ | none => _) = _
    rw [e2]
    show (_, _) = _
    rw [ends_ths ps R]
    unfold rowsT
    rw [List.append_assoc, List.length_append, rowsL_len]
    congr 1
theorem run_l : ∀ (ps : List Tr) (k : Bool) (done : List Tr) (E : List Nat) (R : List RowT) (st : List (Tr × List Nat)), E.length = done.length →
    it (2 * cnts ps) (R, (.node k (done ++ ps), E) :: st) = (R ++ rowsL R.length ps, (.node k (done ++ ps), E ++ ends R.length ps) :: st)
  | [], k, done, E, R, st, h => by
    unfold cnts rowsL ends
    rw [List.append_nil, List.append_nil, List.append_nil]
    rfl
  | p :: ps, k, done, E, R, st, h => by
    unfold cnts rowsL ends
    have e1 : 2 * (cnt p + cnts ps) = 1 + ((2 * cnt p - 1) + 2 * cnts ps) := by have := cnt_pos p; omega
    rw [e1, it_add]
    have s1 : it 1 (R, (Tr.node k (done ++ p :: ps), E) :: st) = (R, (p, []) :: (.node k (done ++ p :: ps), E) :: st) := by
      show (match (done ++ p :: ps)[E.length]? with | some p => _ | none => _) = _
      rw [h, List.getElem?_append_right (Nat.le_refl _), Nat.sub_self]
      rfl
    rw [s1, it_add, run_t p R]
    have ih := run_l ps k (done ++ [p]) (E ++ [R.length + cnt p - 1]) (R ++ rowsT R.length p) st (by simp [h])
    rw [List.append_assoc, List.singleton_append] at ih
    show it (2 * cnts ps) (R ++ rowsT R.length p, (Tr.node k (done ++ p :: ps), E ++ [R.length + cnt p - 1]) :: st) = _
    rw [ih, List.length_append, rowsT_len, List.append_assoc, List.append_assoc]
    rfl
end
theorem run_all (t : Tr) : it (2 * cnt t - 1) ([], [(t, [])]) = (rowsT 0 t, []) := by
  have h := run_t t [] []
  rw [List.nil_append] at h
  exact h
end L3

namespace L3
open PySem PySem.W PySem.Spec PyProof.Rows L2
/-- a slot of a frozen value, of an object, of nothing -/
def oS : Option (D ⊕ C) → Option Sl
  | none => none
  | some (.inl d) => some (.val d)
  | some (.inr c) => some (.own c)
@[simp] theorem clrE_oS {x : Option (D ⊕ C)} {e : List (Option Sl)} : clrE (oS x :: e) = oS x :: clrE e := by
  match x with
  | none => rfl
  | some (.inl d) => rfl
  | some (.inr c) => rfl
@[simp] theorem noStk_oS {x : Option (D ⊕ C)} {e : List (Option Sl)} : noStk (oS x :: e) = noStk e := by
  match x with
  | none => rfl
  | some (.inl d) => rfl
  | some (.inr c) => rfl
@[simp] theorem okSlot_oS {x : Option D} : okSlot (some (oS (x.map Sum.inl))) = true := by cases x <;> rfl
def kdD : Option Bool → D
  | none => .none
  | some k => .str (kindS k)
def rowD3 (r : RowT) : D := .tuple [kdD r.1, tN r.2.1, tN r.2.2]
def entD (e : Tr × List Nat) : Row := ([trD e.1], some (e.2.map nD))
/-! what holds at each turn -/
theorem step_push {R : List RowT} {k : Bool} {ps : List Tr} {l : List Nat} {st : List (Tr × List Nat)} {p : Tr} (e : ps[l.length]? = some p) : step (R, (.node k ps, l) :: st) = (R, (p, []) :: (.node k ps, l) :: st) := by
  show (match ps[l.length]? with | some p => _ | none => _) = _
  rw [e]
theorem step_pop {R : List RowT} {k : Bool} {ps : List Tr} {l : List Nat} {st : List (Tr × List Nat)} (e : ps[l.length]? = none) : step (R, (.node k ps, l) :: st) = (R ++ [(some k, l, srtN (l.flatMap (thOf R)))], bump R.length st) := by
  show (match ps[l.length]? with | some p => _ | none => _) = _
  rw [e]
theorem step_leaf {R : List RowT} {x : Nat} {l : List Nat} {st : List (Tr × List Nat)} : step (R, (.leaf x, l) :: st) = (R ++ [(none, [], [x])], bump R.length st) := rfl
def Sz (i : Nat) (s : PS) : Prop := s.1.length ≤ i ∧ s.2.length ≤ i + 1 ∧ ∀ e ∈ s.2, e.2.length ≤ i ∧ ∀ n ∈ e.2, n < s.1.length
theorem bump_sz {i : Nat} {R R' : List RowT} (hR' : R'.length = R.length + 1) : ∀ {st : List (Tr × List Nat)}, (∀ e ∈ st, e.2.length ≤ i ∧ ∀ n ∈ e.2, n < R.length) → (bump R.length st).length = st.length ∧ ∀ e ∈ bump R.length st, e.2.length ≤ i + 1 ∧ ∀ n ∈ e.2, n < R'.length
  | [], _ => ⟨rfl, fun e he => by cases he⟩
  | (u, l) :: st, h => by
    refine ⟨rfl, fun e he => ?_⟩
    rcases List.mem_cons.mp he with rfl | he
    · have := h (u, l) List.mem_cons_self
      refine ⟨?_, fun n hn => ?_⟩
      · have := this.1
        show (l ++ [R.length]).length ≤ _
        rw [List.length_append]
        show l.length + 1 ≤ _
        exact Nat.succ_le_succ this
      · rcases List.mem_append.mp hn with hn | hn
        · have := this.2 n hn; omega
        · rw [List.mem_singleton.mp hn]; omega
    · have := h e (List.mem_cons_of_mem _ he)
      exact ⟨by omega, fun n hn => by have := this.2 n hn; omega⟩
theorem step_sz {i : Nat} : ∀ {s : PS}, Sz i s → Sz (i + 1) (step s)
  | (R, []), ⟨h1, h2, h3⟩ => ⟨Nat.le_succ_of_le h1, Nat.zero_le _, fun e he => by cases he⟩
  | (R, (.leaf x, l) :: st), ⟨h1, h2, h3⟩ => by
    have h1 : R.length ≤ i := h1
    have h2 : st.length + 1 ≤ i + 1 := h2
    obtain ⟨b1, b2⟩ := bump_sz (i := i) (R := R) (R' := R ++ [(none, [], [x])]) (by simp) (st := st) fun e he => h3 e (List.mem_cons_of_mem _ he)
    refine ⟨?_, ?_, b2⟩
    · show (R ++ [_]).length ≤ _; rw [List.length_append]; show R.length + 1 ≤ _; omega
    · show (bump _ _).length ≤ _; rw [b1]; omega
  | (R, (.node k ps, l) :: st), ⟨h1, h2, h3⟩ => by
    have h1 : R.length ≤ i := h1
    have h2 : st.length + 1 ≤ i + 1 := h2
    cases e : ps[l.length]? with
    | some p =>
      rw [step_push e]
      refine ⟨by show R.length ≤ _; omega, by show st.length + 1 + 1 ≤ _; omega, fun e he => ?_⟩
      rcases List.mem_cons.mp he with rfl | he
      · exact ⟨Nat.zero_le _, fun n hn => by cases hn⟩
      · have := h3 e he
        exact ⟨by omega, this.2⟩
    | none =>
      rw [step_pop e]
      obtain ⟨b1, b2⟩ := bump_sz (i := i) (R := R) (R' := R ++ [(some k, l, srtN (l.flatMap (thOf R)))]) (by simp) (st := st) fun e he => h3 e (List.mem_cons_of_mem _ he)
      refine ⟨?_, ?_, b2⟩
      · show (R ++ [_]).length ≤ _; rw [List.length_append]; show R.length + 1 ≤ _; omega
      · show (bump _ _).length ≤ _; rw [b1]; omega
theorem it_sz (t : Tr) : ∀ i, Sz i (it i ([], [(t, [])]))
  | 0 => ⟨Nat.le_refl _, Nat.le_refl _, fun e he => by
    rw [List.mem_singleton.mp he]
    exact ⟨Nat.le_refl _, fun n hn => by cases hn⟩⟩
  | i + 1 => by rw [it_succ]; exact step_sz (it_sz t i)
theorem step_pre (s : PS) : s.1 <+: (step s).1 := by
  match s with
  | (R, []) => exact List.prefix_refl _
  | (R, (.leaf x, l) :: st) => exact List.prefix_append _ _
  | (R, (.node k ps, l) :: st) =>
    cases e : ps[l.length]? with
    | some p => rw [step_push e]; exact List.prefix_refl _
    | none => rw [step_pop e]; exact List.prefix_append _ _
theorem it_pre (s : PS) : ∀ n, s.1 <+: (it n s).1
  | 0 => List.prefix_refl _
  | n + 1 => by rw [it_succ]; exact (it_pre s n).trans (step_pre _)
theorem it_pre2 {s : PS} {i j : Nat} (h : i ≤ j) : (it i s).1 <+: (it j s).1 := by
  have e : j = i + (j - i) := by omega
  rw [e, it_add]
  exact it_pre _ _
theorem it_done {s : PS} {i : Nat} (h : (it i s).2 = []) : ∀ k, it (i + k) s = it i s
  | 0 => rfl
  | k + 1 => by
    show it (i + k + 1) s = _
    rw [it_succ, it_done h k]
    generalize it i s = q at h ⊢
    obtain ⟨R, st⟩ := q
    have h : st = [] := h
    subst h
    rfl
theorem it_end {t : Tr} {i : Nat} (h : (it i ([], [(t, [])])).2 = []) (hi : i ≤ 2 * cnt t - 1) : (it i ([], [(t, [])])).1 = rowsT 0 t := by
  have := it_done h (2 * cnt t - 1 - i)
  have e : i + (2 * cnt t - 1 - i) = 2 * cnt t - 1 := by omega
  rw [e, run_all] at this
  rw [← this]
mutual
theorem th_le (o : Nat) : ∀ (t : Tr) (r : RowT), r ∈ rowsT o t → r.2.2.length ≤ (thS t).length
  | .leaf x, r, h => by
    unfold rowsT at h
    rw [List.mem_singleton.mp h]
    unfold thS
    exact Nat.le_refl _
  | .node k ps, r, h => by
    unfold rowsT at h
    have e : (thS (.node k ps)).length = (thSs ps).length := by unfold thS; exact (srtN_perm _).length_eq
    rcases List.mem_append.mp h with h | h
    · rw [e]; exact th_les o ps r h
    · rw [List.mem_singleton.mp h]
      exact Nat.le_refl _
theorem th_les (o : Nat) : ∀ (ps : List Tr) (r : RowT), r ∈ rowsL o ps → r.2.2.length ≤ (thSs ps).length
  | [], r, h => by unfold rowsL at h; cases h
  | p :: ps, r, h => by
    unfold rowsL at h
    unfold thSs
    rw [List.length_append]
    rcases List.mem_append.mp h with h | h
    · have := th_le o p r h; omega
    · have := th_les (o + cnt p) ps r h; omega
end
mutual
theorem th_nodup (o : Nat) : ∀ (t : Tr) (r : RowT), r ∈ rowsT o t → (thS t).Nodup → r.2.2.Nodup
  | .leaf x, r, h, hn => by
    unfold rowsT at h
    rw [List.mem_singleton.mp h]
    simp
  | .node k ps, r, h, hn => by
    unfold rowsT at h
    rcases List.mem_append.mp h with h | h
    · unfold thS at hn
      exact th_nodups o ps r h ((srtN_perm _).nodup_iff.mp hn)
    · rw [List.mem_singleton.mp h]
      exact hn
theorem th_nodups (o : Nat) : ∀ (ps : List Tr) (r : RowT), r ∈ rowsL o ps → (thSs ps).Nodup → r.2.2.Nodup
  | [], r, h, _ => by unfold rowsL at h; cases h
  | p :: ps, r, h, hn => by
    unfold rowsL at h
    unfold thSs at hn
    have hn := List.nodup_append.mp hn
    rcases List.mem_append.mp h with h | h
    · exact th_nodup o p r h hn.1
    · exact th_nodups (o + cnt p) ps r h hn.2.1
end
/-- what a row that is made has for things: no thing twice -/
theorem pop_nodup {t : Tr} {i : Nat} {R : List RowT} {k : Bool} {ps : List Tr} {l : List Nat} {st : List (Tr × List Nat)} (e : it i ([], [(t, [])]) = (R, (.node k ps, l) :: st)) (hp : ps[l.length]? = none) (hi : i + 1 ≤ 2 * cnt t - 1) (hn : (thS t).Nodup) : (l.flatMap (thOf R)).Nodup := by
  have h1 := it_pre2 (s := ([], [(t, [])])) hi
  rw [run_all, it_succ, e, step_pop hp] at h1
  have h2 := th_nodup 0 t (some k, l, srtN (l.flatMap (thOf R))) (h1.subset (by simp)) hn
  exact (srtN_perm _).nodup_iff.mp h2
theorem thOf_le {t : Tr} {i : Nat} (hi : i ≤ 2 * cnt t - 1) (n : Nat) : (thOf (it i ([], [(t, [])])).1 n).length ≤ (thS t).length := by
  unfold thOf
  cases e : (it i ([], [(t, [])])).1[n]? with
  | none => exact Nat.zero_le _
  | some r =>
    have hp := it_pre2 (s := ([], [(t, [])])) hi
    rw [run_all] at hp
    exact th_le 0 t r (hp.subset (List.mem_of_getElem? e))
theorem flatMap_le {α β : Type} (l : List α) (f : α → List β) (b : Nat) (h : ∀ x ∈ l, (f x).length ≤ b) : (l.flatMap f).length ≤ l.length * b := by
  induction l with
  | nil => simp
  | cons a l ih =>
    have h1 := ih fun x hx => h x (List.mem_cons_of_mem _ hx)
    have h2 := h a List.mem_cons_self
    rw [List.flatMap_cons, List.length_append, List.length_cons, Nat.add_mul]
    omega
/-- a slot of anything but a stack -/
def Sk (s : Option Sl) : Prop := ∃ x, s = oS x
/-- a slot of a frozen value, or of nothing -/
def Ck (s : Option Sl) : Prop := ∃ x : Option D, s = oS (x.map Sum.inl)
@[simp] theorem sk_none : Sk none := ⟨none, rfl⟩
@[simp] theorem sk_val {d : D} : Sk (some (.val d)) := ⟨some (.inl d), rfl⟩
@[simp] theorem sk_own {c : C} : Sk (some (.own c)) := ⟨some (.inr c), rfl⟩
@[simp] theorem sk_oS {x : Option (D ⊕ C)} : Sk (oS x) := ⟨x, rfl⟩
@[simp] theorem ck_none : Ck none := ⟨none, rfl⟩
@[simp] theorem ck_val {d : D} : Ck (some (.val d)) := ⟨some d, rfl⟩
@[simp] theorem ck_oS {x : Option D} : Ck (oS (x.map Sum.inl)) := ⟨x, rfl⟩
end L3

namespace L3
open PySem PySem.W PySem.Spec PyProof.Rows L2

/-! ### a term's tree: ways, things -/
mutual
def waysT : Tr → List (List Nat)
  | .leaf x => [[x]]
  | .node k ps => if k then crossAll (waysTs ps) else (waysTs ps).flatten
def waysTs : List Tr → List (List (List Nat))
  | [] => []
  | p :: ps => waysT p :: waysTs ps
end
mutual
def thF : Tr → List Nat
  | .leaf x => [x]
  | .node _ ps => thFs ps
def thFs : List Tr → List Nat
  | [] => []
  | p :: ps => thF p ++ thFs ps
end
mutual
def Ar : Tr → Prop
  | .leaf _ => True
  | .node _ ps => 2 ≤ ps.length ∧ ps.length ≤ 3 ∧ Ars ps
def Ars : List Tr → Prop
  | [] => True
  | p :: ps => Ar p ∧ Ars ps
end
theorem tr_list : ∀ (ps : List Pt), (∀ p ∈ ps, ∃ t, p.1 = trD t ∧ p.2.1 = waysT t ∧ p.2.2 = thF t ∧ Ar t) → ∃ ts, ps.map (·.1) = trDs ts ∧ ps.map (·.2.1) = waysTs ts ∧ ps.flatMap (·.2.2) = thFs ts ∧ Ars ts ∧ ts.length = ps.length
  | [], _ => ⟨[], rfl, rfl, rfl, trivial, rfl⟩
  | p :: ps, h => by
    obtain ⟨t, h1, h2, h3, h4⟩ := h p List.mem_cons_self
    obtain ⟨ts, g1, g2, g3, g4, g5⟩ := tr_list ps fun q hq => h q (List.mem_cons_of_mem _ hq)
    refine ⟨t :: ts, ?_, ?_, ?_, ⟨h4, g4⟩, by simp [g5]⟩
    · rw [List.map_cons, g1, h1]; rfl
    · rw [List.map_cons, g2, h2]; rfl
    · rw [List.flatMap_cons, g3, h3]; rfl
theorem flatMap_flat {α β : Type} (f : α → List β) (xs : List α) : xs.flatMap f = (xs.map f).flatten := List.flatMap_def ..
theorem Sp.tr {m : Nat} {t : D} {W : List (List Nat)} {th : List Nat} (h : Sp m t W th) : ∃ u, t = trD u ∧ W = waysT u ∧ th = thF u ∧ Ar u := by
  induction h with
  | leaf n => exact ⟨.leaf n, rfl, rfl, rfl, trivial⟩
  | row ps hp h2 h3 hm ih =>
    obtain ⟨ts, g1, g2, g3, g4, g5⟩ := tr_list ps ih
    refine ⟨.node true ts, ?_, ?_, ?_, by unfold Ar; exact ⟨by omega, by omega, g4⟩⟩
    · rw [g1]; rfl
    · rw [g2]; unfold waysT; rw [if_pos rfl]
    · rw [g3]; rfl
  | side ps hp h2 h3 ih =>
    obtain ⟨ts, g1, g2, g3, g4, g5⟩ := tr_list ps ih
    refine ⟨.node false ts, ?_, ?_, ?_, by unfold Ar; exact ⟨by omega, by omega, g4⟩⟩
    · rw [g1]; rfl
    · rw [flatMap_flat, g2]; unfold waysT; rfl
    · rw [g3]; rfl
mutual
theorem thF_pos : ∀ t, Ar t → 1 ≤ (thF t).length
  | .leaf x, _ => by unfold thF; simp
  | .node k ps, h => by
    unfold Ar at h
    unfold thF
    have := thFs_pos ps h.2.2
    omega
theorem thFs_pos : ∀ ps, Ars ps → ps.length ≤ (thFs ps).length
  | [], _ => Nat.zero_le _
  | p :: ps, h => by
    unfold Ars at h
    unfold thFs
    rw [List.length_append, List.length_cons]
    have h1 := thF_pos p h.1
    have h2 := thFs_pos ps h.2
    omega
end
mutual
theorem cnt_le : ∀ t, Ar t → cnt t + 1 ≤ 2 * (thF t).length
  | .leaf x, _ => by unfold cnt thF; simp
  | .node k ps, h => by
    unfold Ar at h
    unfold cnt thF
    have := cnts_le ps h.2.2
    omega
theorem cnts_le : ∀ ps, Ars ps → cnts ps + ps.length ≤ 2 * (thFs ps).length
  | [], _ => by unfold cnts; simp
  | p :: ps, h => by
    unfold Ars at h
    unfold cnts thFs
    rw [List.length_append, List.length_cons]
    have h1 := cnt_le p h.1
    have h2 := cnts_le ps h.2
    omega
end
mutual
theorem thS_perm : ∀ t, (thS t).Perm (thF t)
  | .leaf x => by unfold thS thF; exact List.Perm.refl _
  | .node k ps => by
    unfold thS thF
    exact (srtN_perm _).trans (thSs_perm ps)
theorem thSs_perm : ∀ ps, (thSs ps).Perm (thFs ps)
  | [] => by unfold thSs thFs; exact List.Perm.refl _
  | p :: ps => by
    unfold thSs thFs
    exact (thS_perm p).append (thSs_perm ps)
end
/-! ### what is told of the rows' trees -/
def RowOk (U : List Tr) (o i : Nat) (u : Tr) (r : RowT) : Prop := match u with
  | .leaf x => r = (none, [], [x])
  | .node k ps => ∃ E, r = (some k, E, thS (.node k ps)) ∧ (∀ n ∈ E, o ≤ n ∧ n < o + i) ∧ E.map (fun n => U[n - o]?) = ps.map some
theorem RowOk.left {U V : List Tr} {o i : Nat} {u : Tr} {r : RowT} (h : RowOk U o i u r) (hi : i ≤ U.length) : RowOk (U ++ V) o i u r := by
  cases u with
  | leaf x => exact h
  | node k ps =>
    obtain ⟨E, h1, h2, h3⟩ := h
    refine ⟨E, h1, h2, ?_⟩
    rw [← h3]
    refine List.map_congr_left fun n hn => ?_
    have := h2 n hn
    exact List.getElem?_append_left (by omega)
theorem RowOk.right {U V : List Tr} {o i : Nat} {u : Tr} {r : RowT} (h : RowOk V (o + U.length) i u r) : RowOk (U ++ V) o (U.length + i) u r := by
  cases u with
  | leaf x => exact h
  | node k ps =>
    obtain ⟨E, h1, h2, h3⟩ := h
    refine ⟨E, h1, fun n hn => by have := h2 n hn; omega, ?_⟩
    rw [← h3]
    refine List.map_congr_left fun n hn => ?_
    have := h2 n hn
    show (U ++ V)[n - o]? = V[n - (o + U.length)]?
    rw [List.getElem?_append_right (by omega)]
    congr 1
    omega
theorem subs_last (t : Tr) : (subs t)[cnt t - 1]? = some t := by
  cases t with
  | leaf x => unfold subs cnt; rfl
  | node k ps =>
    unfold subs cnt
    rw [Nat.add_sub_cancel, List.getElem?_append_right (by rw [subsL_len]; exact Nat.le_refl _), subsL_len, Nat.sub_self]
    rfl
theorem ends_sub : ∀ (ps : List Tr) (o : Nat), (∀ n ∈ ends o ps, o ≤ n ∧ n < o + cnts ps) ∧ (ends o ps).map (fun n => (subsL ps)[n - o]?) = ps.map some
  | [], o => by unfold ends; exact ⟨fun n hn => (by cases hn), rfl⟩
  | p :: ps, o => by
    obtain ⟨h1, h2⟩ := ends_sub ps (o + cnt p)
    have hp := cnt_pos p
    unfold ends cnts subsL
    refine ⟨fun n hn => ?_, ?_⟩
    · rcases List.mem_cons.mp hn with rfl | hn
      · omega
      · have := h1 n hn; omega
    · rw [List.map_cons, List.map_cons]
      congr 1
      · have e : o + cnt p - 1 - o = cnt p - 1 := by omega
        show (subs p ++ subsL ps)[_]? = _
        rw [e, List.getElem?_append_left (by rw [subs_len]; omega)]
        exact subs_last p
      · rw [← h2]
        refine List.map_congr_left fun n hn => ?_
        have := h1 n hn
        show (subs p ++ subsL ps)[n - o]? = (subsL ps)[n - (o + cnt p)]?
        rw [List.getElem?_append_right (by rw [subs_len]; omega), subs_len]
        congr 1
        omega
mutual
theorem rows_sub : ∀ (t : Tr) (o i : Nat) (u : Tr), (subs t)[i]? = some u → ∃ r, (rowsT o t)[i]? = some r ∧ RowOk (subs t) o i u r
  | .leaf x, o, i, u, h => by
    unfold subs at h
    unfold rowsT
    cases i with
    | zero => cases h; exact ⟨_, rfl, rfl⟩
    | succ i => simp at h
  | .node k ps, o, i, u, h => by
    unfold subs at h ⊢
    unfold rowsT
    rcases Nat.lt_or_ge i (subsL ps).length with hi | hi
    · rw [List.getElem?_append_left hi] at h
      obtain ⟨r, h1, h2⟩ := rows_subs ps o i u h
      exact ⟨r, by rw [List.getElem?_append_left (by rw [rowsL_len, ← subsL_len]; exact hi)]; exact h1, h2.left (by omega)⟩
    · rw [List.getElem?_append_right hi] at h
      have hi0 : i - (subsL ps).length = 0 := by
        rcases Nat.eq_zero_or_pos (i - (subsL ps).length) with h0 | h0
        · exact h0
        · rw [List.getElem?_eq_none (by show 1 ≤ _; omega)] at h; cases h
      rw [hi0] at h
      cases h
      have ei : i = cnts ps := by rw [subsL_len] at hi hi0; omega
      subst ei
      obtain ⟨g1, g2⟩ := ends_sub ps o
      refine ⟨(some k, ends o ps, thS (.node k ps)), by rw [List.getElem?_append_right (by rw [rowsL_len]; exact Nat.le_refl _), rowsL_len, Nat.sub_self]; rfl, ends o ps, rfl, g1, ?_⟩
      rw [← g2]
      refine List.map_congr_left fun n hn => ?_
      have := g1 n hn
      exact List.getElem?_append_left (by rw [subsL_len]; omega)
theorem rows_subs : ∀ (ps : List Tr) (o i : Nat) (u : Tr), (subsL ps)[i]? = some u → ∃ r, (rowsL o ps)[i]? = some r ∧ RowOk (subsL ps) o i u r
  | [], o, i, u, h => by unfold subsL at h; simp at h
  | p :: ps, o, i, u, h => by
    unfold subsL at h ⊢
    unfold rowsL
    rcases Nat.lt_or_ge i (subs p).length with hi | hi
    · rw [List.getElem?_append_left hi] at h
      obtain ⟨r, h1, h2⟩ := rows_sub p o i u h
      exact ⟨r, by rw [List.getElem?_append_left (by rw [rowsT_len, ← subs_len]; exact hi)]; exact h1, h2.left (by omega)⟩
    · rw [List.getElem?_append_right hi] at h
      obtain ⟨r, h1, h2⟩ := rows_subs ps (o + cnt p) (i - (subs p).length) u h
      refine ⟨r, by rw [List.getElem?_append_right (by rw [rowsT_len, ← subs_len]; exact hi), rowsT_len]; rw [subs_len] at h1; exact h1, ?_⟩
      have e : i = (subs p).length + (i - (subs p).length) := by omega
      rw [e]
      rw [← subs_len p] at h2
      exact h2.right
end
/-- the told ones of a part's own parts -/
theorem told_kids {α : Type} {U : List Tr} {i : Nat} {k : Bool} {ps : List Tr} {E : List Nat} (f : Tr → α) (h2 : ∀ n ∈ E, 0 ≤ n ∧ n < 0 + i) (h3 : E.map (fun n => U[n - 0]?) = ps.map some) : E.map (fun n => ((U.take i).map f)[n]?) = (ps.map f).map some := by
  have e : E.map (fun n => ((U.take i).map f)[n]?) = (E.map (fun n => U[n - 0]?)).map (Option.map f) := by
    rw [List.map_map]
    refine List.map_congr_left fun n hn => ?_
    have := h2 n hn
    rw [List.getElem?_map, List.getElem?_take]
    rw [if_pos (by omega)]
    rfl
  rw [e, h3, List.map_map, List.map_map]
  rfl
end L3

namespace L3
open PySem PySem.W PySem.Spec PyProof.Rows L2

/-! ### lots that are as narrow -/
def ctD (p : Nat × List Nat) : D := .tuple [nD p.1, tN p.2]
def minP (x : Nat × List Nat) (xs : List (Nat × List Nat)) : Nat × List Nat := xs.foldl (fun a y => if dataLt (ctD y) (ctD a) then y else a) x
theorem minP_eq (xs : List (Nat × List Nat)) : ∀ x, minD (ctD x) (xs.map ctD) = ctD (minP x xs) := by
  induction xs with
  | nil => intro x; rfl
  | cons y ys ih =>
    intro x
    show (ys.map ctD).foldl _ (if dataLt (ctD y) (ctD x) then ctD y else ctD x) = ctD (ys.foldl _ (if dataLt (ctD y) (ctD x) then y else x))
    have := ih (if dataLt (ctD y) (ctD x) then y else x)
    unfold minD minP at this
    rw [← this]
    congr 1
    split <;> rfl
theorem minP_mem (xs : List (Nat × List Nat)) : ∀ x, minP x xs ∈ x :: xs := by
  induction xs with
  | nil => intro x; exact List.mem_singleton.mpr rfl
  | cons y ys ih =>
    intro x
    have := ih (if dataLt (ctD y) (ctD x) then y else x)
    show ys.foldl _ (if dataLt (ctD y) (ctD x) then y else x) ∈ _
    rcases List.mem_cons.mp this with h | h
    · unfold minP at h
      rw [h]
      split
      · exact List.mem_cons_of_mem _ List.mem_cons_self
      · exact List.mem_cons_self
    · exact List.mem_cons_of_mem _ (List.mem_cons_of_mem _ h)
theorem noDict_prs (xs : List (Nat × List Nat)) : noDictAll (xs.map ctD) = true := by
  induction xs with
  | nil => rfl
  | cons x xs ih =>
    show (noDict (ctD x) && noDictAll (xs.map ctD)) = true
    rw [ih, Bool.and_true]
    show (true && (noDictAll (x.2.map nD) && true)) = true
    rw [noDict_nDs]; rfl
theorem canLay_nDs (ns : List Nat) : PyData.canLayAll0 (ns.map nD) = true := by
  induction ns with
  | nil => rfl
  | cons n ns ih => simp [PyData.canLayAll0, PyData.canLay0, nD, ih]
theorem canLay_prs (xs : List (Nat × List Nat)) : PyData.canLayAll0 (xs.map ctD) = true := by
  induction xs with
  | nil => rfl
  | cons x xs ih =>
    rw [List.map_cons]
    unfold PyData.canLayAll0
    rw [ih, Bool.and_true]
    simp [ctD, PyData.canLay0, PyData.canLayAll0, nD, tN, canLay_nDs]
theorem depth_nsD (ns : List Nat) : PyData.depthAll (ns.map nD) ≤ 1 := by
  induction ns with
  | nil => simp [PyData.depthAll]
  | cons n ns ih => simp only [List.map_cons, PyData.depthAll, nD, PyData.depth] at ih ⊢; omega
theorem depth_prs (xs : List (Nat × List Nat)) : PyData.depthAll (xs.map ctD) ≤ 4 := by
  induction xs with
  | nil => simp [PyData.depthAll]
  | cons x xs ih =>
    have := depth_nsD x.2
    simp only [List.map_cons, PyData.depthAll, ctD, PyData.depth, tN, nD] at ih this ⊢
    omega
theorem alike_ns : ∀ (a b : List Nat), alikeAll (a.map nD) (b.map nD) = true
  | [], _ => by unfold alikeAll; rfl
  | _ :: _, [] => by unfold alikeAll; rfl
  | x :: a, y :: b => by
    have := alike_ns a b
    simp only [List.map_cons, alikeAll, this, Bool.and_true]
    rfl
theorem alike_pr (p q : Nat × List Nat) : alike (ctD p) (ctD q) = true := by
  have := alike_ns p.2 q.2
  simp only [ctD, alike, alikeAll, tN, this, Bool.and_true]
  rfl
theorem mnOk_prs (xs : List (Nat × List Nat)) : mnOk (xs.map ctD) = true := by
  unfold mnOk
  rw [noDict_prs, canLay_prs]
  have := depth_prs xs
  simp only [Bool.and_true, Bool.and_eq_true, List.all_eq_true, decide_eq_true_eq]
  refine ⟨⟨fun x hx y hy => ?_, fun x hx => ?_⟩, by omega⟩
  · obtain ⟨p, _, rfl⟩ := List.mem_map.mp hx
    obtain ⟨q, _, rfl⟩ := List.mem_map.mp hy
    exact alike_pr p q
  · obtain ⟨p, _, rfl⟩ := List.mem_map.mp hx
    rfl
theorem sortOk_prs {xs : List (Nat × List Nat)} (h : xs.length ≤ sizeLine) : sortOk (xs.map ctD) = true := by
  unfold sortOk
  rw [noDict_prs]
  simp only [Bool.and_true, Bool.and_eq_true, Bool.or_eq_true, List.all_eq_true, decide_eq_true_eq]
  refine ⟨⟨⟨fun x hx y hy => ?_, .inl fun x hx => ?_⟩, fun x hx => ?_⟩, by simpa using h⟩
  · obtain ⟨p, _, rfl⟩ := List.mem_map.mp hx
    obtain ⟨q, _, rfl⟩ := List.mem_map.mp hy
    exact alike_pr p q
  · obtain ⟨p, _, rfl⟩ := List.mem_map.mp hx
    rfl
  · obtain ⟨p, _, rfl⟩ := List.mem_map.mp hx
    have := depth_prs [p]
    simp only [List.map_cons, List.map_nil, PyData.depthAll] at this
    omega
mutual
/-- the least width of what meets each way, and where -/
def cutT (W : List Nat) : Tr → Nat × List Nat
  | .leaf x => (W.getD x 0, [x])
  | .node k ps => match k, cutTs W ps with
    | true, c :: cs => minP c cs
    | true, [] => (0, [])
    | false, cs => ((cs.map (·.1)).sum, srtN (cs.flatMap (·.2)))
def cutTs (W : List Nat) : List Tr → List (Nat × List Nat)
  | [] => []
  | p :: ps => cutT W p :: cutTs W ps
end
theorem cutTs_map (W : List Nat) : ∀ ps, cutTs W ps = ps.map (cutT W)
  | [] => by unfold cutTs; rfl
  | p :: ps => by unfold cutTs; rw [cutTs_map W ps]; rfl
/-- a lot that meets each way, each of whose things is alone in some way -/
structure Blk (lot : List Nat) (W : List (List Nat)) : Prop where
  meets : ∀ w ∈ W, ∃ x ∈ w, x ∈ lot
  needs : ∀ x ∈ lot, ∃ w ∈ W, ∀ y ∈ w, y ∈ lot → y = x
inductive Sel : List (List Nat) → List (List (List Nat)) → Prop
  | nil : Sel [] []
  | cons {w : List Nat} {ws : List (List Nat)} {W : List (List Nat)} {Ws : List (List (List Nat))} : w ∈ W → Sel ws Ws → Sel (w :: ws) (W :: Ws)
theorem cross_of : ∀ (Ws : List (List (List Nat))) (J : List (List Nat)) (v : List Nat), v ∈ Ws.foldl cross J → ∃ u ∈ J, ∃ ws, Sel ws Ws ∧ ∀ x, x ∈ v ↔ x ∈ u ∨ ∃ w ∈ ws, x ∈ w
  | [], J, v, h => ⟨v, h, [], .nil, fun x => by simp⟩
  | W :: Ws, J, v, h => by
    obtain ⟨u, hu, ws, hs, hx⟩ := cross_of Ws (cross J W) v h
    obtain ⟨j, hj, m, hm, rfl⟩ := cross_mem.mp hu
    refine ⟨j, hj, m :: ws, .cons hm hs, fun x => ?_⟩
    rw [hx, srtN_mem, List.mem_append]
    constructor
    · rintro ((h | h) | ⟨w, hw, h⟩)
      · exact .inl h
      · exact .inr ⟨m, List.mem_cons_self, h⟩
      · exact .inr ⟨w, List.mem_cons_of_mem _ hw, h⟩
    · rintro (h | ⟨w, hw, h⟩)
      · exact .inl (.inl h)
      · rcases List.mem_cons.mp hw with rfl | hw
        · exact .inl (.inr h)
        · exact .inr ⟨w, hw, h⟩
theorem of_cross : ∀ (Ws : List (List (List Nat))) (J : List (List Nat)) (u : List Nat) (ws : List (List Nat)), u ∈ J → Sel ws Ws → ∃ v ∈ Ws.foldl cross J, ∀ x, x ∈ v ↔ x ∈ u ∨ ∃ w ∈ ws, x ∈ w
  | [], J, u, _, hu, .nil => ⟨u, hu, fun x => by simp⟩
  | W :: Ws, J, u, _, hu, .cons (w := w) (ws := ws) hw hs => by
    obtain ⟨v, hv, hx⟩ := of_cross Ws (cross J W) (srtN (u ++ w)) ws (cross_mem.mpr ⟨u, hu, w, hw, rfl⟩) hs
    refine ⟨v, hv, fun x => ?_⟩
    rw [hx, srtN_mem, List.mem_append]
    constructor
    · rintro ((h | h) | ⟨w', hw', h⟩)
      · exact .inl h
      · exact .inr ⟨w, List.mem_cons_self, h⟩
      · exact .inr ⟨w', List.mem_cons_of_mem _ hw', h⟩
    · rintro (h | ⟨w', hw', h⟩)
      · exact .inl (.inl h)
      · rcases List.mem_cons.mp hw' with rfl | hw'
        · exact .inl (.inr h)
        · exact .inr ⟨w', hw', h⟩
mutual
theorem waysT_in : ∀ (t : Tr), ∀ w ∈ waysT t, ∀ x ∈ w, x ∈ thF t
  | .leaf n, w, h, x, hx => by
    unfold waysT at h
    unfold thF
    rw [List.mem_singleton.mp h] at hx; exact hx
  | .node k ps, w, h, x, hx => by
    unfold waysT at h
    unfold thF
    split at h
    · obtain ⟨u, hu, ws, hs, hv⟩ := cross_of _ _ _ h
      rw [hv] at hx
      rcases hx with hx | ⟨m, hm, hx⟩
      · rw [List.mem_singleton.mp hu] at hx; cases hx
      · exact waysT_ins ps ws hs m hm x hx
    · obtain ⟨W, hW, hw⟩ := List.mem_flatten.mp h
      exact waysT_inf ps W hW w hw x hx
theorem waysT_ins : ∀ (ps : List Tr) (ws : List (List Nat)), Sel ws (waysTs ps) → ∀ w ∈ ws, ∀ x ∈ w, x ∈ thFs ps
  | [], _, h, w, hw, x, hx => by unfold waysTs at h; cases h; cases hw
  | p :: ps, _, h, w, hw, x, hx => by
    unfold waysTs at h
    unfold thFs
    cases h with
    | cons h1 h2 =>
      rcases List.mem_cons.mp hw with rfl | hw
      · exact List.mem_append_left _ (waysT_in p _ h1 x hx)
      · exact List.mem_append_right _ (waysT_ins ps _ h2 w hw x hx)
theorem waysT_inf : ∀ (ps : List Tr), ∀ W ∈ waysTs ps, ∀ w ∈ W, ∀ x ∈ w, x ∈ thFs ps
  | [], W, h, w, hw, x, hx => by unfold waysTs at h; cases h
  | p :: ps, W, h, w, hw, x, hx => by
    unfold waysTs at h
    unfold thFs
    rcases List.mem_cons.mp h with rfl | h
    · exact List.mem_append_left _ (waysT_in p _ hw x hx)
    · exact List.mem_append_right _ (waysT_inf ps W h w hw x hx)
end
theorem Sel.at {ws : List (List Nat)} {Ws : List (List (List Nat))} (h : Sel ws Ws) : ∀ {j : Nat} {W : List (List Nat)}, Ws[j]? = some W → ∃ w, ws[j]? = some w ∧ w ∈ W := by
  induction h with
  | nil => intro j W h; simp at h
  | cons h1 h2 ih =>
    intro j W h
    cases j with
    | zero => cases h; exact ⟨_, rfl, h1⟩
    | succ j => exact ih (by simpa using h)
theorem Sel.set {ws : List (List Nat)} {Ws : List (List (List Nat))} (h : Sel ws Ws) : ∀ {j : Nat} {W : List (List Nat)} {w : List Nat}, Ws[j]? = some W → w ∈ W → Sel (ws.set j w) Ws := by
  induction h with
  | nil => intro j W w h; simp at h
  | cons h1 h2 ih =>
    intro j W w h hw
    cases j with
    | zero => cases h; exact .cons hw h2
    | succ j => exact .cons h1 (ih (by simpa using h) hw)
mutual
theorem sel_some : ∀ (t : Tr), Ar t → ∃ w, w ∈ waysT t
  | .leaf n, _ => ⟨[n], by unfold waysT; simp⟩
  | .node k ps, h => by
    unfold Ar at h
    obtain ⟨ws, hs⟩ := sels_some ps h.2.2
    unfold waysT
    split
    · obtain ⟨v, hv, _⟩ := of_cross (waysTs ps) [[]] [] ws (List.mem_singleton.mpr rfl) hs
      exact ⟨v, hv⟩
    · match ps, h.1, hs with
      | p :: ps, _, hs =>
        unfold waysTs at hs ⊢
        cases hs with
        | cons h1 _ => exact ⟨_, List.mem_flatten.mpr ⟨_, List.mem_cons_self, h1⟩⟩
theorem sels_some : ∀ (ps : List Tr), Ars ps → ∃ ws, Sel ws (waysTs ps)
  | [], _ => ⟨[], by unfold waysTs; exact .nil⟩
  | p :: ps, h => by
    unfold Ars at h
    obtain ⟨w, hw⟩ := sel_some p h.1
    obtain ⟨ws, hs⟩ := sels_some ps h.2
    exact ⟨w :: ws, by unfold waysTs; exact .cons hw hs⟩
end
theorem waysTs_map : ∀ ps, waysTs ps = ps.map waysT
  | [] => by unfold waysTs; rfl
  | p :: ps => by unfold waysTs; rw [waysTs_map ps]; rfl
theorem thFs_flat : ∀ ps, thFs ps = ps.flatMap thF
  | [] => by unfold thFs; rfl
  | p :: ps => by unfold thFs; rw [thFs_flat ps]; rfl
/-- parts have no thing in common -/
theorem thFs_apart : ∀ (ps : List Tr) (i j : Nat) (p q : Tr), (thFs ps).Nodup → ps[i]? = some p → ps[j]? = some q → i ≠ j → ∀ x ∈ thF p, x ∉ thF q
  | [], i, j, p, q, _, h, _, _ => by simp at h
  | a :: ps, i, j, p, q, hn, hi, hj, ne => by
    unfold thFs at hn
    have hn := List.nodup_append.mp hn
    have inl : ∀ (k : Nat) (r : Tr), ps[k]? = some r → ∀ x ∈ thF r, x ∈ thFs ps := fun k r h x hx => by
      rw [thFs_flat]
      exact List.mem_flatMap.mpr ⟨r, List.mem_of_getElem? h, hx⟩
    cases i with
    | zero =>
      cases hi
      cases j with
      | zero => exact absurd rfl ne
      | succ j => exact fun x hx hy => hn.2.2 x hx x (inl j q (by simpa using hj) x hy) rfl
    | succ i =>
      cases j with
      | zero => cases hj; exact fun x hx hy => hn.2.2 x hy x (inl i p (by simpa using hi) x hx) rfl
      | succ j => exact thFs_apart ps i j p q hn.2.1 (by simpa using hi) (by simpa using hj) fun e => ne (by rw [e])
theorem thFs_part : ∀ (ps : List Tr), (thFs ps).Nodup → ∀ p ∈ ps, (thF p).Nodup
  | [], _, p, h => by cases h
  | a :: ps, hn, p, h => by
    unfold thFs at hn
    have hn := List.nodup_append.mp hn
    rcases List.mem_cons.mp h with rfl | h
    · exact hn.1
    · exact thFs_part ps hn.2.1 p h
/-- all that is asked of a lot -/
structure Cut (lot : List Nat) (t : Tr) : Prop where
  blk : Blk lot (waysT t)
  sub : ∀ x ∈ lot, x ∈ thF t
  srt : lot.Pairwise (· < ·)
theorem srt_of_nodup {l : List Nat} (h : l.Nodup) : (srtN l).Pairwise (· < ·) := by
  have h1 : (srtN l).Pairwise (fun a b => leN a b = true) := List.pairwise_mergeSort (fun a b c h1 h2 => by rw [leN_eq, decide_eq_true_eq] at h1 h2 ⊢; omega) (fun a b => by rw [leN_eq, leN_eq, Bool.or_eq_true, decide_eq_true_eq, decide_eq_true_eq]; omega) l
  have h2 : (srtN l).Nodup := (srtN_perm l).nodup_iff.mpr h
  have h3 := List.Pairwise.and h1 h2
  refine h3.imp fun {a b} ⟨h4, h5⟩ => ?_
  rw [leN_eq, decide_eq_true_eq] at h4
  have := h4
  exact Nat.lt_of_le_of_ne this h5
theorem cut_nodup {W : List Nat} : ∀ {ps : List Tr}, (thFs ps).Nodup → (∀ p ∈ ps, Cut (cutT W p).2 p) → (ps.flatMap fun p => (cutT W p).2).Nodup
  | [], _, _ => by simp
  | p :: ps, hn, hc => by
    rw [List.flatMap_cons]
    unfold thFs at hn
    have hn2 := List.nodup_append.mp hn
    refine List.nodup_append.mpr ⟨((hc p List.mem_cons_self).srt.imp Nat.ne_of_lt), cut_nodup hn2.2.1 (fun q hq => hc q (List.mem_cons_of_mem _ hq)), fun x hx y hy e => ?_⟩
    subst e
    obtain ⟨q, hq, hxq⟩ := List.mem_flatMap.mp hy
    exact hn2.2.2 x ((hc p List.mem_cons_self).sub x hx) x (by rw [thFs_flat]; exact List.mem_flatMap.mpr ⟨q, hq, (hc q (List.mem_cons_of_mem _ hq)).sub x hxq⟩) rfl
mutual
theorem cut_ok (W : List Nat) : ∀ t, Ar t → (thF t).Nodup → Cut (cutT W t).2 t
  | .leaf x, _, _ => by
    unfold cutT
    refine ⟨⟨fun w hw => ?_, fun y hy => ⟨[x], ?_, fun z hz h => ?_⟩⟩, fun y hy => ?_, by simp⟩
    · unfold waysT at hw
      rw [List.mem_singleton.mp hw]
      exact ⟨x, by simp, by simp⟩
    · unfold waysT; simp
    · rw [List.mem_singleton.mp hz, List.mem_singleton.mp hy]
    · unfold thF; exact hy
  | .node k ps, ha, hn => by
    unfold Ar at ha
    unfold thF at hn
    have hc := cuts_ok W ps ha.2.2 hn
    unfold cutT
    rw [cutTs_map]
    cases k with
    | true =>
      match ps, ha, hn, hc with
      | [], ha, hn, hc => exact absurd ha.1 (by simp)
      | p :: ps, ha, hn, hc =>
        obtain ⟨j, hj⟩ := List.mem_iff_getElem?.mp (minP_mem (ps.map (cutT W)) (cutT W p))
        obtain ⟨q, hq, eq⟩ : ∃ q, (p :: ps)[j]? = some q ∧ cutT W q = minP (cutT W p) (ps.map (cutT W)) := by
          have hj' : ((p :: ps).map (cutT W))[j]? = some (minP (cutT W p) (ps.map (cutT W))) := hj
          rw [List.getElem?_map] at hj'
          cases e : (p :: ps)[j]? with
          | none => rw [e] at hj'; cases hj'
          | some q => rw [e] at hj'; exact ⟨q, rfl, Option.some.inj hj'⟩
        show Cut (minP (cutT W p) (ps.map (cutT W))).2 _
        rw [← eq]
        have hqm := List.mem_of_getElem? hq
        have cq := hc q hqm
        have hW : (waysTs (p :: ps))[j]? = some (waysT q) := by rw [waysTs_map, List.getElem?_map, hq]; rfl
        have inT : ∀ x ∈ thF q, x ∈ thFs (p :: ps) := fun x hx => by rw [thFs_flat]; exact List.mem_flatMap.mpr ⟨q, hqm, hx⟩
        refine ⟨⟨fun v hv => ?_, fun x hx => ?_⟩, fun x hx => ?_, cq.srt⟩
        · unfold waysT at hv
          rw [if_pos rfl] at hv
          obtain ⟨u, hu, ws, hs, hx⟩ := cross_of _ _ _ hv
          obtain ⟨w, hw, hwq⟩ := hs.at hW
          obtain ⟨x, hxw, hxl⟩ := cq.blk.meets w hwq
          exact ⟨x, (hx x).mpr (.inr ⟨w, List.mem_of_getElem? hw, hxw⟩), hxl⟩
        · obtain ⟨w, hw, hu⟩ := cq.blk.needs x hx
          obtain ⟨ws, hs⟩ := sels_some (p :: ps) ha.2.2
          have hs2 := hs.set hW hw
          obtain ⟨v, hv, hvx⟩ := of_cross (waysTs (p :: ps)) [[]] [] _ (List.mem_singleton.mpr rfl) hs2
          refine ⟨v, by unfold waysT; rw [if_pos rfl]; exact hv, fun y hy hyl => ?_⟩
          rw [hvx] at hy
          rcases hy with hy | ⟨w', hw', hy⟩
          · cases hy
          · obtain ⟨i, hi⟩ := List.mem_iff_getElem?.mp hw'
            by_cases e : j = i
            · subst e
              obtain ⟨w2, h2, _⟩ := hs2.at hW
              have hil := (List.getElem?_eq_some_iff.mp hi).1
              rw [List.length_set] at hil
              rw [List.getElem?_set_self hil] at hi
              cases hi
              exact hu y hy hyl
            · exfalso
              rw [List.getElem?_set_ne e] at hi
              have hyT : ∃ r, (p :: ps)[i]? = some r ∧ y ∈ thF r := by
                have hil : i < (waysTs (p :: ps)).length := by
                  have := (List.getElem?_eq_some_iff.mp hi).1
                  have hlen : ∀ {ws : List (List Nat)} {Ws : List (List (List Nat))}, Sel ws Ws → ws.length = Ws.length := fun h => by
                    induction h with
                    | nil => rfl
                    | cons _ _ ih => simp [ih]
                  rw [hlen hs] at this; exact this
                rw [waysTs_map, List.length_map] at hil
                have hr : (p :: ps)[i]? = some (p :: ps)[i] := List.getElem?_eq_getElem hil
                obtain ⟨w3, h3, h4⟩ := hs.at (j := i) (W := waysT (p :: ps)[i]) (by rw [waysTs_map, List.getElem?_map, hr]; rfl)
                rw [hi] at h3; cases h3
                exact ⟨_, hr, waysT_in _ _ h4 y hy⟩
              obtain ⟨r, hr, hyr⟩ := hyT
              exact thFs_apart (p :: ps) j i q r hn hq hr e y (cq.sub y hyl) hyr
        · unfold thF; exact inT x (cq.sub x hx)
    | false =>
      have mem : ∀ x, x ∈ srtN ((ps.map (cutT W)).flatMap (·.2)) ↔ ∃ p ∈ ps, x ∈ (cutT W p).2 := fun x => by
        rw [srtN_mem, List.mem_flatMap]
        constructor
        · rintro ⟨c, hc, hx⟩
          obtain ⟨p, hp, rfl⟩ := List.mem_map.mp hc
          exact ⟨p, hp, hx⟩
        · rintro ⟨p, hp, hx⟩
          exact ⟨_, List.mem_map.mpr ⟨p, hp, rfl⟩, hx⟩
      have memW : ∀ w, w ∈ waysT (.node false ps) ↔ ∃ p ∈ ps, w ∈ waysT p := fun w => by
        have e : waysT (.node false ps) = (waysTs ps).flatten := by unfold waysT; rfl
        rw [e, waysTs_map, List.mem_flatten]
        constructor
        · rintro ⟨l, hl, hw⟩
          obtain ⟨p, hp, rfl⟩ := List.mem_map.mp hl
          exact ⟨p, hp, hw⟩
        · rintro ⟨p, hp, hw⟩
          exact ⟨_, List.mem_map.mpr ⟨p, hp, rfl⟩, hw⟩
      show Cut (srtN ((ps.map (cutT W)).flatMap (·.2))) _
      refine ⟨⟨fun w hw => ?_, fun x hx => ?_⟩, fun x hx => ?_, srt_of_nodup ?_⟩
      · obtain ⟨p, hp, hwp⟩ := (memW w).mp hw
        obtain ⟨x, hx, hl⟩ := (hc p hp).blk.meets w hwp
        exact ⟨x, hx, (mem x).mpr ⟨p, hp, hl⟩⟩
      · obtain ⟨p, hp, hxp⟩ := (mem x).mp hx
        obtain ⟨w, hw, hu⟩ := (hc p hp).blk.needs x hxp
        refine ⟨w, (memW w).mpr ⟨p, hp, hw⟩, fun y hy hyl => ?_⟩
        obtain ⟨q, hq, hyq⟩ := (mem y).mp hyl
        obtain ⟨i, hi⟩ := List.mem_iff_getElem?.mp hp
        obtain ⟨j, hj⟩ := List.mem_iff_getElem?.mp hq
        by_cases e : i = j
        · subst e
          rw [hi] at hj; cases hj
          exact hu y hy hyq
        · exact absurd ((hc q hq).sub y hyq) (thFs_apart ps i j p q hn hi hj e y (waysT_in p w hw y hy))
      · obtain ⟨p, hp, hxp⟩ := (mem x).mp hx
        unfold thF
        rw [thFs_flat]
        exact List.mem_flatMap.mpr ⟨p, hp, (hc p hp).sub x hxp⟩
      · rw [List.flatMap_map]
        exact cut_nodup hn hc
theorem cuts_ok (W : List Nat) : ∀ ps, Ars ps → (thFs ps).Nodup → ∀ p ∈ ps, Cut (cutT W p).2 p
  | [], _, _, p, h => by cases h
  | a :: ps, ha, hn, p, h => by
    unfold Ars at ha
    unfold thFs at hn
    have hn2 := List.nodup_append.mp hn
    rcases List.mem_cons.mp h with e | h
    · rw [e]; exact cut_ok W a ha.1 hn2.1
    · exact cuts_ok W ps ha.2 hn2.2.1 p h
end
mutual
theorem cut_len (W : List Nat) : ∀ t, (cutT W t).2.length ≤ (thF t).length
  | .leaf x => by unfold cutT thF; exact Nat.le_refl _
  | .node k ps => by
    have h := cuts_len W ps
    unfold thF cutT
    cases k with
    | true =>
      cases e : cutTs W ps with
      | nil => exact Nat.zero_le _
      | cons c cs =>
        have hm := minP_mem cs c
        rw [e] at h
        have := h.1 _ hm
        exact this
    | false =>
      show (srtN ((cutTs W ps).flatMap (·.2))).length ≤ _
      rw [(srtN_perm _).length_eq]
      exact h.2
theorem cuts_len (W : List Nat) : ∀ ps, (∀ c ∈ cutTs W ps, c.2.length ≤ (thFs ps).length) ∧ ((cutTs W ps).flatMap (·.2)).length ≤ (thFs ps).length
  | [] => by unfold cutTs thFs; exact ⟨fun c h => (by cases h), by simp⟩
  | p :: ps => by
    have h1 := cut_len W p
    have h2 := cuts_len W ps
    unfold cutTs thFs
    refine ⟨fun c hc => ?_, ?_⟩
    · rw [List.length_append]
      rcases List.mem_cons.mp hc with rfl | hc
      · omega
      · have := h2.1 c hc; omega
    · rw [List.flatMap_cons, List.length_append, List.length_append]
      have := h2.2
      omega
end
mutual
theorem subs_in : ∀ (t u : Tr), u ∈ subs t → (thF u).length ≤ (thF t).length ∧ ∀ x ∈ thF u, x ∈ thF t
  | .leaf n, u, h => by
    unfold subs at h
    rw [List.mem_singleton.mp h]
    exact ⟨Nat.le_refl _, fun x hx => hx⟩
  | .node k ps, u, h => by
    unfold subs at h
    rcases List.mem_append.mp h with h | h
    · have := subs_ins ps u h
      unfold thF
      unfold thF at this
      exact this
    · rw [List.mem_singleton.mp h]
      exact ⟨Nat.le_refl _, fun x hx => hx⟩
theorem subs_ins : ∀ (ps : List Tr) (u : Tr), u ∈ subsL ps → (thF u).length ≤ (thFs ps).length ∧ ∀ x ∈ thF u, x ∈ thFs ps
  | [], u, h => by unfold subsL at h; cases h
  | p :: ps, u, h => by
    unfold subsL at h
    unfold thFs
    rw [List.length_append]
    rcases List.mem_append.mp h with h | h
    · have := subs_in p u h
      exact ⟨by omega, fun x hx => List.mem_append_left _ (this.2 x hx)⟩
    · have := subs_ins ps u h
      exact ⟨by omega, fun x hx => List.mem_append_right _ (this.2 x hx)⟩
end
mutual
theorem subs_nodup : ∀ (t u : Tr), u ∈ subs t → (thF t).Nodup → (thF u).Nodup
  | .leaf n, u, h, ha => by
    unfold subs at h
    rw [List.mem_singleton.mp h]
    exact ha
  | .node k ps, u, h, ha => by
    unfold subs at h
    rcases List.mem_append.mp h with h | h
    · unfold thF at ha
      exact subs_nodups ps u h ha
    · rw [List.mem_singleton.mp h]
      exact ha
theorem subs_nodups : ∀ (ps : List Tr) (u : Tr), u ∈ subsL ps → (thFs ps).Nodup → (thF u).Nodup
  | [], u, h, _ => by unfold subsL at h; cases h
  | p :: ps, u, h, ha => by
    unfold subsL at h
    unfold thFs at ha
    have hn := List.nodup_append.mp ha
    rcases List.mem_append.mp h with h | h
    · exact subs_nodup p u h hn.1
    · exact subs_nodups ps u h hn.2.1
end
theorem thF_node {k : Bool} {ps : List Tr} : thF (.node k ps) = thFs ps := by unfold thF; rfl
theorem cut_row {W : List Nat} {ps : List Tr} {c : Nat × List Nat} {cs : List (Nat × List Nat)} (h : ps.map (cutT W) = c :: cs) : cutT W (.node true ps) = minP c cs := by
  unfold cutT; rw [cutTs_map, h]
theorem cut_side {W : List Nat} {ps : List Tr} : cutT W (.node false ps) = (((ps.map (cutT W)).map (·.1)).sum, srtN ((ps.map (cutT W)).flatMap (·.2))) := by
  unfold cutT; rw [cutTs_map]
mutual
theorem subs_ar : ∀ (t u : Tr), u ∈ subs t → Ar t → Ar u
  | .leaf n, u, h, ha => by
    unfold subs at h
    rw [List.mem_singleton.mp h]
    exact ha
  | .node k ps, u, h, ha => by
    unfold subs at h
    rcases List.mem_append.mp h with h | h
    · unfold Ar at ha
      exact subs_ars ps u h ha.2.2
    · rw [List.mem_singleton.mp h]
      exact ha
theorem subs_ars : ∀ (ps : List Tr) (u : Tr), u ∈ subsL ps → Ars ps → Ar u
  | [], u, h, _ => by unfold subsL at h; cases h
  | p :: ps, u, h, ha => by
    unfold subsL at h
    unfold Ars at ha
    rcases List.mem_append.mp h with h | h
    · exact subs_ar p u h ha.1
    · exact subs_ars ps u h ha.2
end
theorem pMinA_prs (c : Nat × List Nat) (cs : List (Nat × List Nat)) : pMinA [.list ((c :: cs).map ctD)] = some (.d (ctD (minP c cs))) := by
  have e : pMin [.list ((c :: cs).map ctD)] = none := by
    have : intsOf ((c :: cs).map ctD) = none := rfl
    show (match intsOf ((c :: cs).map ctD) with | some (n :: ns) => some (PO.d (.int (ns.foldl min n))) | _ => none) = none
    rw [this]
  unfold pMinA
  rw [e]
  show (if mnOk ((c :: cs).map ctD) then _ else none) = _
  rw [if_pos (mnOk_prs _)]
  show some (PO.d (minD (ctD c) (cs.map ctD))) = _
  rw [minP_eq]
end L3

namespace L3
open PySem PySem.W PySem.Spec PyProof.Rows L2
theorem kind_row {k : Bool} : nd2 pEq (.str (kindS k)) (.str "row") = some k := by
  cases k
  · decide +kernel
  · decide +kernel
/-- how a told list's entries are read by their numbers -/
theorem told_get {α : Type} {T : List α} {e : α → D} {E : List Nat} {cs : List α} (h : E.map (fun n => T[n]?) = cs.map some) : ∀ n ∈ E, ∃ c, atI (T.map e) (n : Int) = some (e c) ∧ e c = ((T.map e)[n]?).getD .none := fun n hn => by
  have hm : T[n]? ∈ E.map (fun n => T[n]?) := List.mem_map.mpr ⟨n, hn, rfl⟩
  rw [h] at hm
  obtain ⟨c, hc, e1⟩ := List.mem_map.mp hm
  refine ⟨c, ?_, ?_⟩
  · rw [atI_map, atI_nat e1.symm]; rfl
  · rw [List.getElem?_map, ← e1]; rfl
theorem told_all {α : Type} {T : List α} {e : α → D} {E : List Nat} {cs : List α} (h : E.map (fun n => T[n]?) = cs.map some) : E.map (fun n => ((T.map e)[n]?).getD .none) = cs.map e := by
  have e1 : E.map (fun n => ((T.map e)[n]?).getD .none) = (E.map (fun n => T[n]?)).map (fun o => (o.map e).getD .none) := by
    rw [List.map_map]
    refine List.map_congr_left fun n _ => ?_
    show ((T.map e)[n]?).getD .none = ((T[n]?).map e).getD .none
    rw [List.getElem?_map]
  rw [e1, h, List.map_map]
  rfl
theorem intsOf_mapN {α : Type} (f : α → Nat) (xs : List α) : intsOf (xs.map fun x => nD (f x)) = some (xs.map fun x => ((f x : Nat) : Int)) := by
  rw [show (xs.map fun x => nD (f x)) = (xs.map f).map nD from by rw [List.map_map]; rfl, intsOf_nDs, List.map_map]; rfl
theorem sum_natI (xs : List Nat) : (xs.map fun (x : Nat) => (x : Int)).sum = (xs.sum : Nat) := by
  induction xs with
  | nil => rfl
  | cons x xs ih => rw [List.map_cons, List.sum_cons, ih, List.sum_cons]; omega
def fstD : D → D
  | .tuple (a :: _) => a
  | _ => .none
def sndD : D → D
  | .tuple (_ :: b :: _) => b
  | _ => .none
end L3

namespace L3
open PySem PySem.W PySem.Spec PyProof.Rows L2

/-! ### all lots, by their sizes; blockers -/
def subsN : Nat → List (List Nat)
  | 0 => [[]]
  | n + 1 => subsN n ++ (subsN n).map (· ++ [n])
theorem subsN_mem : ∀ {n : Nat} {l : List Nat}, l ∈ subsN n ↔ l.Pairwise (· < ·) ∧ ∀ x ∈ l, x < n
  | 0, l => by
    unfold subsN
    constructor
    · intro h; rw [List.mem_singleton.mp h]; simp
    · intro h
      cases l with
      | nil => exact List.mem_singleton.mpr rfl
      | cons x l => exact absurd (h.2 x (by simp)) (Nat.not_lt_zero _)
  | n + 1, l => by
    unfold subsN
    rw [List.mem_append, List.mem_map]
    constructor
    · rintro (h | ⟨v, h, rfl⟩)
      · obtain ⟨h1, h2⟩ := subsN_mem.mp h
        exact ⟨h1, fun x hx => Nat.lt_succ_of_lt (h2 x hx)⟩
      · obtain ⟨h1, h2⟩ := subsN_mem.mp h
        refine ⟨List.pairwise_append.mpr ⟨h1, List.pairwise_singleton _ _, fun a ha b hb => ?_⟩, fun x hx => ?_⟩
        · rw [List.mem_singleton.mp hb]; exact h2 a ha
        · rcases List.mem_append.mp hx with h | h
          · exact Nat.lt_succ_of_lt (h2 x h)
          · rw [List.mem_singleton.mp h]; exact Nat.lt_succ_self n
    · rintro ⟨h1, h2⟩
      by_cases hn : n ∈ l
      · right
        obtain ⟨a, b, rfl⟩ := List.append_of_mem hn
        rw [List.pairwise_append] at h1
        obtain ⟨p1, p2, p3⟩ := h1
        rw [List.pairwise_cons] at p2
        have hb : b = [] := by
          cases b with
          | nil => rfl
          | cons y b =>
            have q1 := p2.1 y (by simp)
            have q2 := h2 y (by simp)
            omega
        subst hb
        exact ⟨a, subsN_mem.mpr ⟨p1, fun x hx => p3 x hx n (by simp)⟩, rfl⟩
      · left
        exact subsN_mem.mpr ⟨h1, fun x hx => by
          have := h2 x hx
          have : x ≠ n := fun e => hn (e ▸ hx)
          omega⟩
theorem subsN_len : ∀ n, (subsN n).length = 2 ^ n
  | 0 => rfl
  | n + 1 => by unfold subsN; rw [List.length_append, List.length_map, subsN_len n, Nat.pow_succ]; omega
theorem subsN_nodup : ∀ n, (subsN n).Nodup
  | 0 => by unfold subsN; simp
  | n + 1 => by
    unfold subsN
    rw [List.nodup_append]
    refine ⟨subsN_nodup n, ?_, fun a ha b hb e => ?_⟩
    · exact List.Pairwise.map _ (fun a b h e => h (List.append_cancel_right e)) (subsN_nodup n)
    · obtain ⟨v, _, rfl⟩ := List.mem_map.mp hb
      have := (subsN_mem.mp ha).2 n (by rw [e]; simp)
      omega
theorem subs_le {n : Nat} {l : List Nat} (h : l ∈ subsN n) : l.length ≤ n := by
  obtain ⟨h1, h2⟩ := subsN_mem.mp h
  have := nodup_sub_len (b := List.range n) (h1.imp fun h => Nat.ne_of_lt h) fun x hx => List.mem_range.mpr (h2 x hx)
  rwa [List.length_range] at this
theorem sets_eq {a b : List Nat} (ha : a.Pairwise (· < ·)) (hb : b.Pairwise (· < ·)) (h : ∀ x, x ∈ a ↔ x ∈ b) : a = b :=
  sub_eq_of_len ha hb (fun x hx => (h x).mp hx) (nodup_sub_len (hb.imp fun h => Nat.ne_of_lt h) fun x hx => (h x).mpr hx)
theorem sub_lt {a b : List Nat} (ha : a.Pairwise (· < ·)) (hb : b.Pairwise (· < ·)) (h : ∀ x ∈ a, x ∈ b) (hne : a ≠ b) : a.length < b.length := by
  rcases Nat.lt_or_ge a.length b.length with h1 | h1
  · exact h1
  · exact absurd (sub_eq_of_len ha hb h h1) hne
/-! pairs of a number and a lot, in order -/
def leP (a b : Nat × List Nat) : Bool := dataLe false id (ctD a) (ctD b)
def srtP (ps : List (Nat × List Nat)) : List (Nat × List Nat) := ps.mergeSort leP
theorem sort_prs (ps : List (Nat × List Nat)) : (ps.map ctD).mergeSort (dataLe false id) = (srtP ps).map ctD := (List.map_mergeSort (r := leP) (s := dataLe false id) (f := ctD) (l := ps) fun _ _ _ _ => rfl).symm
theorem srtP_perm (ps : List (Nat × List Nat)) : (srtP ps).Perm ps := List.mergeSort_perm _ _
theorem leP_tot : TotalLe (sortLe (listOrd itemOrd) false fun w : Nat × List Nat => keyToks (ctD w)) := sortLe_total _ _ _
theorem srtP_sorted (ps : List (Nat × List Nat)) : (srtP ps).Pairwise fun a b => leP a b = true :=
  List.pairwise_mergeSort (le := leP) (fun a b c h1 h2 => leP_tot.trans a b c h1 h2) (fun a b => by rw [Bool.or_eq_true]; exact leP_tot.total a b) ps
theorem toks_ct (a : Nat × List Nat) : keyToks (ctD a) = .inl 1 :: .inl (a.1 : Int) :: .inl 1 :: (keyToks (tN a.2) ++ [.inl 0]) := by
  unfold ctD
  rw [keyToks, keyToksAll, keyToksAll, keyToksAll]
  unfold nD
  rw [keyToks]
  rfl
theorem lexC {x y : Int} {r t : List (Int ⊕ List Nat)} : PyProof.Rows.lexLt itemOrd (.inl x :: r) (.inl y :: t) = true ↔ x < y ∨ (¬ y < x ∧ PyProof.Rows.lexLt itemOrd r t = true) := by
  rw [lex_true]
  show decide (x < y) = true ∨ (decide (y < x) = false ∧ _) ↔ _
  rw [decide_eq_true_eq, decide_eq_false_iff_not]
theorem leP_iff {a b : Nat × List Nat} (h : leP a b = true) : a.1 < b.1 ∨ (a.1 = b.1 ∧ ¬ PyProof.Rows.lexLt itemOrd (keyToks (tN b.2) ++ [.inl 0]) (keyToks (tN a.2) ++ [.inl 0]) = true) := by
  have h : (!(PyProof.Rows.lexLt itemOrd (keyToks (ctD b)) (keyToks (ctD a)))) = true := h
  rw [Bool.not_eq_true', ← Bool.not_eq_true, toks_ct, toks_ct, lexC, lexC, lexC] at h
  simp only [Int.lt_irrefl, not_false_eq_true, false_or, true_and, not_or, not_and] at h
  rcases Nat.lt_trichotomy a.1 b.1 with h1 | h1 | h1
  · exact .inl h1
  · exact .inr ⟨h1, h.2 (by omega)⟩
  · exact absurd (show ((b.1 : Int) < (a.1 : Int)) by omega) h.1
theorem leP_len {a b : Nat × List Nat} (h : leP a b = true) : a.1 ≤ b.1 := by
  rcases leP_iff h with h | h
  · exact Nat.le_of_lt h
  · exact Nat.le_of_eq h.1
def lotP (l : List Nat) : Nat × List Nat := (l.length, l)
def lotsN (n : Nat) : List (List Nat) := (srtP ((subsN n).map lotP)).map (·.2)
theorem lotsN_perm (n : Nat) : (lotsN n).Perm (subsN n) := by
  have := (srtP_perm ((subsN n).map lotP)).map (·.2)
  rw [List.map_map] at this
  have e : (subsN n).map ((·.2) ∘ lotP) = subsN n := by
    have : ((·.2) ∘ lotP : List Nat → List Nat) = id := rfl
    rw [this, List.map_id]
  rwa [e] at this
theorem lotsN_mem {n : Nat} {l : List Nat} : l ∈ lotsN n ↔ l.Pairwise (· < ·) ∧ ∀ x ∈ l, x < n := (lotsN_perm n).mem_iff.trans subsN_mem
theorem lotsN_nodup (n : Nat) : (lotsN n).Nodup := (lotsN_perm n).nodup_iff.mpr (subsN_nodup n)
theorem lotsN_len (n : Nat) : (lotsN n).length = 2 ^ n := (lotsN_perm n).length_eq.trans (subsN_len n)
theorem lotsN_rise (n : Nat) : (lotsN n).Pairwise fun a b => a.length ≤ b.length := by
  unfold lotsN
  rw [List.pairwise_map]
  refine List.Pairwise.imp_of_mem ?_ (srtP_sorted ((subsN n).map lotP))
  intro a b ha hb h
  have e : ∀ a ∈ srtP ((subsN n).map lotP), a.1 = a.2.length := fun a ha => by
    obtain ⟨l, _, rfl⟩ := List.mem_map.mp ((srtP_perm _).mem_iff.mp ha)
    rfl
  rw [← e a ha, ← e b hb]
  exact leP_len h
/-! blockers -/
def meetsN (W : List (List Nat)) (l : List Nat) : Bool := W.all fun w => w.any fun x => decide (x ∈ l)
theorem meetsN_iff {W : List (List Nat)} {l : List Nat} : meetsN W l = true ↔ ∀ w ∈ W, ∃ x ∈ w, x ∈ l := by
  unfold meetsN
  rw [List.all_eq_true]
  constructor
  · intro h w hw
    obtain ⟨x, hx, e⟩ := List.any_eq_true.mp (h w hw)
    exact ⟨x, hx, of_decide_eq_true e⟩
  · intro h w hw
    obtain ⟨x, hx, e⟩ := h w hw
    exact List.any_eq_true.mpr ⟨x, hx, decide_eq_true e⟩
structure MinBlk (n : Nat) (W : List (List Nat)) (l : List Nat) : Prop where
  lot : l ∈ subsN n
  meets : meetsN W l = true
  least : ∀ o ∈ subsN n, meetsN W o = true → (∀ x ∈ o, x ∈ l) → o = l
theorem minBlk_in {n : Nat} {W : List (List Nat)} : ∀ (k : Nat) (l : List Nat), l.length ≤ k → l ∈ subsN n → meetsN W l = true → ∃ o, MinBlk n W o ∧ ∀ x ∈ o, x ∈ l
  | k, l, hk, hl, hm => by
    by_cases h : ∃ o ∈ subsN n, meetsN W o = true ∧ (∀ x ∈ o, x ∈ l) ∧ o ≠ l
    · obtain ⟨o, ho, h1, h2, h3⟩ := h
      have hlt := sub_lt (subsN_mem.mp ho).1 (subsN_mem.mp hl).1 h2 h3
      match k, hk with
      | 0, hk => omega
      | k + 1, hk =>
        obtain ⟨u, hu, hs⟩ := minBlk_in k o (by omega) ho h1
        exact ⟨u, hu, fun x hx => h2 x (hs x hx)⟩
    · refine ⟨l, ⟨hl, hm, fun o ho h1 h2 => ?_⟩, fun x hx => hx⟩
      rcases Classical.em (o = l) with e | e
      · exact e
      · exact absurd ⟨o, ho, h1, h2, e⟩ h
def blkStep (W fd : List (List Nat)) (l : List Nat) : List (List Nat) := if (meetsN W l && fd.all fun o => !inN o l) = true then fd ++ [l] else fd
def blkF (n : Nat) (W : List (List Nat)) : List (List Nat) := (lotsN n).foldl (blkStep W) []
theorem blk_fold {n : Nat} {W : List (List Nat)} : ∀ (q p : List (List Nat)), lotsN n = p ++ q → (∀ l, l ∈ p.foldl (blkStep W) [] ↔ l ∈ p ∧ MinBlk n W l) → ∀ l, l ∈ (p ++ q).foldl (blkStep W) [] ↔ l ∈ p ++ q ∧ MinBlk n W l
  | [], p, _, h => by simpa using h
  | v :: q, p, e, h => by
    have e' : p ++ v :: q = (p ++ [v]) ++ q := by simp
    rw [e'] at e ⊢
    refine blk_fold q (p ++ [v]) e fun l => ?_
    rw [List.foldl_append]
    show l ∈ blkStep W (p.foldl (blkStep W) []) v ↔ _
    have hnd := lotsN_nodup n
    have hri := lotsN_rise n
    have hv : v ∈ lotsN n := by rw [e]; simp
    have hvs := (lotsN_perm n).mem_iff.mp hv
    have key : (meetsN W v && (p.foldl (blkStep W) []).all fun o => !inN o v) = true ↔ MinBlk n W v := by
      rw [Bool.and_eq_true, List.all_eq_true]
      constructor
      · rintro ⟨h1, h2⟩
        refine ⟨hvs, h1, fun o ho h3 h4 => ?_⟩
        rcases Classical.em (o = v) with e1 | e1
        · exact e1
        · exfalso
          obtain ⟨u, hu, hs⟩ := minBlk_in (n := n) (W := W) o.length o (Nat.le_refl _) ho h3
          have hlt := sub_lt (subsN_mem.mp ho).1 (subsN_mem.mp hvs).1 h4 e1
          have hle : u.length ≤ o.length := nodup_sub_len ((subsN_mem.mp hu.lot).1.imp fun h => Nat.ne_of_lt h) hs
          have hup : u ∈ p := by
            have hul := (lotsN_perm n).mem_iff.mpr hu.lot
            rw [e] at hul hri
            rcases List.mem_append.mp hul with h5 | h5
            · rcases List.mem_append.mp h5 with h5 | h5
              · exact h5
              · rw [List.mem_singleton.mp h5] at hle; omega
            · have := (List.pairwise_append.mp hri).2.2 v (by simp) u h5
              omega
          have := h2 u ((h u).mpr ⟨hup, hu⟩)
          rw [inN_iff.mpr fun x hx => h4 x (hs x hx)] at this
          cases this
      · intro hm
        refine ⟨hm.meets, fun o ho => ?_⟩
        obtain ⟨ho1, ho2⟩ := (h o).mp ho
        cases ei : inN o v with
        | false => rfl
        | true =>
          have := hm.least o ho2.lot ho2.meets (inN_iff.mp ei)
          subst this
          rw [e] at hnd
          have h7 := List.nodup_append.mp (List.nodup_append.mp hnd).1
          exact absurd rfl (h7.2.2 o ho1 o (by simp))
    have es : blkStep W (p.foldl (blkStep W) []) v = if (meetsN W v && (p.foldl (blkStep W) []).all fun o => !inN o v) = true then p.foldl (blkStep W) [] ++ [v] else p.foldl (blkStep W) [] := rfl
    rw [es]
    by_cases hk : MinBlk n W v
    · rw [if_pos (key.mpr hk), List.mem_append, h l, List.mem_append]
      constructor
      · rintro (⟨a, b⟩ | a)
        · exact ⟨.inl a, b⟩
        · rw [List.mem_singleton.mp a]; exact ⟨.inr (by simp), hk⟩
      · rintro ⟨a | a, b⟩
        · exact .inl ⟨a, b⟩
        · exact .inr a
    · rw [if_neg (fun hh => hk (key.mp hh)), h l, List.mem_append]
      constructor
      · rintro ⟨a, b⟩; exact ⟨.inl a, b⟩
      · rintro ⟨a | a, b⟩
        · exact ⟨a, b⟩
        · rw [List.mem_singleton.mp a] at b; exact absurd b hk
theorem blkF_mem {n : Nat} {W : List (List Nat)} {l : List Nat} : l ∈ blkF n W ↔ MinBlk n W l := by
  have := blk_fold (n := n) (W := W) (lotsN n) [] rfl (fun l => by simp) l
  unfold blkF
  rw [List.nil_append] at this
  rw [this]
  exact ⟨fun h => h.2, fun h => ⟨(lotsN_perm n).mem_iff.mpr h.lot, h⟩⟩
theorem blkF_sub (W : List (List Nat)) : ∀ (ls fd : List (List Nat)), ∃ r, ls.foldl (blkStep W) fd = fd ++ r ∧ r.Sublist ls
  | [], fd => ⟨[], by simp, .slnil⟩
  | l :: ls, fd => by
    obtain ⟨r, e, s⟩ := blkF_sub W ls (blkStep W fd l)
    rw [List.foldl_cons, e]
    unfold blkStep
    split
    · exact ⟨l :: r, by simp, s.cons_cons l⟩
    · exact ⟨r, rfl, s.cons l⟩
theorem blkF_nodup (n : Nat) (W : List (List Nat)) : (blkF n W).Nodup := by
  obtain ⟨r, e, s⟩ := blkF_sub W (lotsN n) []
  unfold blkF
  rw [e, List.nil_append]
  exact (lotsN_nodup n).sublist s
theorem blk_le (W : List (List Nat)) (ls : List (List Nat)) : (ls.foldl (blkStep W) []).length ≤ ls.length := by
  obtain ⟨r, e, s⟩ := blkF_sub W ls []
  rw [e, List.nil_append]
  exact s.length_le
def blkN (n : Nat) (W : List (List Nat)) : List (List Nat) := srtW (blkF n W)
theorem blkN_mem {n : Nat} {W : List (List Nat)} {l : List Nat} : l ∈ blkN n W ↔ MinBlk n W l := (srtW_perm _).mem_iff.trans blkF_mem
theorem blk_ne {n : Nat} {W : List (List Nat)} {l : List Nat} (hW : W ≠ []) (h : MinBlk n W l) : l ≠ [] := fun e => by
  subst e
  obtain ⟨w, W, rfl⟩ := List.exists_cons_of_ne_nil hW
  obtain ⟨x, _, h⟩ := meetsN_iff.mp h.meets w (by simp)
  cases h
theorem min_of_cut {n : Nat} {t : Tr} {W : List (List Nat)} {lot : List Nat} (h : Cut lot t) (hW : ∀ w, w ∈ W ↔ w ∈ waysT t) (hn : ∀ x ∈ thF t, x < n) : MinBlk n W lot where
  lot := subsN_mem.mpr ⟨h.srt, fun x hx => hn x (h.sub x hx)⟩
  meets := meetsN_iff.mpr fun w hw => h.blk.meets w ((hW w).mp hw)
  least := fun o ho hm hs => sets_eq (subsN_mem.mp ho).1 h.srt fun x => ⟨hs x, fun hx => by
    obtain ⟨w, hw, hu⟩ := h.blk.needs x hx
    obtain ⟨y, hy, hyo⟩ := meetsN_iff.mp hm w ((hW w).mpr hw)
    have := hu y hy (hs y hyo)
    subst this
    exact hyo⟩
end L3

namespace L3
open PySem PySem.W PySem.Spec PyProof.Rows L2
section
variable {env : List (Option Sl)} {box : List D}
def slO : Option (Option Sl) → Option (List D)
  | some (some (Sl.own (C.lst ds))) => some ds
  | _ => none
@[simp] theorem slO_own {ds : List D} : slO (some (some (.own (.lst ds)))) = some ds := rfl
@[simp] theorem ownl_mk {j : Nat} : S.ownl ⟨env, box⟩ j = slO env[j]? := rfl
@[simp ↓] theorem wp_eCompP {j : Nat} {vs : List Nat} {g : D → S → Option S} {c : M Bool} {f : M D} {s : S} {Q : R → S → Prop} : Wp (eCompP j vs g c f s) Q = cV (s.ownl j) fun all => (s.clean vs = true ∧ vs.contains j = false) ∧ Wp (compP all j g c f vs all [] s) fun acc s' => Q (.new (.lst acc)) (s'.back s vs) := by
  unfold eCompP
  cases s.ownl j with
  | none => rfl
  | some all =>
    dsimp only [cV_some]
    by_cases h : s.clean vs = true
    · cases h2 : vs.contains j with
      | true => simp [Wp]
      | false =>
        simp only [h, Bool.not_false, Bool.and_true, if_true, true_and]
        cases compP all j g c f vs all [] s <;> rfl
    · simp [h, Wp]
theorem wp_compP {g : D → S → Option S} {c : M Bool} {f : M D} {vs : List Nat} {j : Nat} {all : List D} {Q : List D → S → Prop} {ds : List D} {s : S} (I : Nat → List D → S → Prop) (h0 : I 0 [] s)
    (hj : ∀ i acc s, I i acc s → s.ownl j = some all)
    (hs : ∀ i d acc s, ds[i]? = some d → I i acc s → cV (g d (s.wipe vs)) fun s1 => Wp (c s1) fun b s2 => (b = true → Wp (f s2) fun x s3 => acc.length < sizeLine ∧ I (i + 1) (acc ++ [x]) s3) ∧ (b = false → I (i + 1) acc s2))
    (he : ∀ acc s, I ds.length acc s → Q acc (s.wipe vs)) : Wp (compP all j g c f vs ds [] s) Q := by
  have key : ∀ n i acc s, n = ds.length - i → i ≤ ds.length → I i acc s → Wp (compP all j g c f vs (ds.drop i) acc s) Q := by
    intro n
    induction n with
    | zero =>
      intro i acc s hn hi h
      have e : i = ds.length := by omega
      subst e
      rw [List.drop_length]
      unfold compP
      rw [if_pos (hj _ _ _ h)]
      exact he acc s h
    | succ n ih =>
      intro i acc s hn hi h
      have hlt : i < ds.length := by omega
      have ed : ds.drop i = ds[i] :: ds.drop (i + 1) := List.drop_eq_getElem_cons hlt
      have h1 := hs i ds[i] acc s (List.getElem?_eq_getElem hlt) h
      rw [ed]
      unfold compP
      rw [if_pos (hj _ _ _ h)]
      cases e1 : g ds[i] (s.wipe vs) with
      | none => rw [e1] at h1; exact h1.elim
      | some s1 =>
        rw [e1] at h1
        have h1 : Wp (c s1) _ := h1
        show Wp (mbind c _ s1) Q
        rw [wp_mbind]
        refine h1.mono fun b s2 h2 => ?_
        cases b with
        | false => exact ih (i + 1) acc s2 (by omega) hlt (h2.2 rfl)
        | true =>
          show Wp (mbind f _ s2) Q
          rw [wp_mbind]
          refine (h2.1 rfl).mono fun x s3 h3 => ?_
          rw [if_pos h3.1]
          exact ih (i + 1) (acc ++ [x]) s3 (by omega) hlt h3.2
  have := key ds.length 0 [] s (by omega) (Nat.zero_le _) h0
  rwa [List.drop_zero] at this
theorem wp_filterP {α : Type} {v j : Nat} {c : M Bool} {f : M D} {all : List D} {Q : List D → S → Prop} {xs : List α} (e : α → D) (p : α → Bool) (h : α → D) (hl : xs.length ≤ sizeLine) (hj : env[j]? = some (some (.own (.lst all)))) (hv : v ≠ j)
    (hc : ∀ x ∈ xs, Wp (c ⟨env.set v (some (.val (e x))), box⟩) fun y s' => y = p x ∧ s' = ⟨env.set v (some (.val (e x))), box⟩)
    (hb : ∀ x ∈ xs, p x = true → Wp (f ⟨env.set v (some (.val (e x))), box⟩) fun y s' => y = h x ∧ s' = ⟨env.set v (some (.val (e x))), box⟩)
    (hq : Q ((xs.filter p).map h) ⟨env.set v none, box⟩) : Wp (compP all j (gN v) c f [v] (xs.map e) [] ⟨env, box⟩) Q := by
  refine wp_compP (fun i acc s => acc = ((xs.take i).filter p).map h ∧ ∃ y, s = ⟨env.set v y, box⟩ ∨ (i = 0 ∧ s = ⟨env, box⟩)) ⟨by simp, none, .inr ⟨rfl, rfl⟩⟩ (fun i acc s hI => ?_) (fun i d acc s hi hI => ?_) fun acc s hI => ?_
  · obtain ⟨_, y, hs⟩ := hI
    rcases hs with rfl | ⟨_, rfl⟩
    · rw [ownl_mk, List.getElem?_set_ne hv, hj]; rfl
    · rw [ownl_mk, hj]; rfl
  · obtain ⟨rfl, y, hs⟩ := hI
    have es : s.wipe [v] = ⟨env.set v none, box⟩ := by
      rcases hs with rfl | ⟨_, rfl⟩
      · show (⟨(env.set v y).set v none, box⟩ : S) = _
        rw [List.set_set]
      · rfl
    rw [es]
    simp only [gN_def, cV_some, setv_mk, List.set_set]
    rw [List.getElem?_map] at hi
    cases hx : xs[i]? with
    | none => rw [hx] at hi; cases hi
    | some x =>
      rw [hx] at hi; cases hi
      have hm : x ∈ xs := List.mem_of_getElem? hx
      have hlt : i < xs.length := (List.getElem?_eq_some_iff.mp hx).1
      refine (hc x hm).mono fun y s' hx' => ?_
      obtain ⟨rfl, rfl⟩ := hx'
      refine ⟨fun hp => (hb x hm hp).mono fun y s' hx' => ?_, fun hp => ⟨?_, some (.val (e x)), .inl rfl⟩⟩
      · obtain ⟨rfl, rfl⟩ := hx'
        refine ⟨?_, ?_, some (.val (e x)), .inl rfl⟩
        · rw [List.length_map]
          have := List.length_filter_le p (xs.take i)
          rw [List.length_take] at this
          omega
        · rw [List.take_add_one, hx, List.filter_append, List.map_append]; simp [hp]
      · rw [List.take_add_one, hx, List.filter_append, List.map_append]; simp [hp]
  · obtain ⟨rfl, y, hs⟩ := hI
    rw [List.length_map, List.take_length]
    rcases hs with rfl | ⟨_, rfl⟩
    · show Q _ ⟨(env.set v y).set v none, box⟩
      rw [List.set_set]; exact hq
    · exact hq
end
end L3

namespace L3
open PySem PySem.W PySem.Spec PyProof.Rows L2

/-! ### who judges lots -/
/-- a lot of things from a on, to m -/
def lotOk (m : Int) : Int → List D → Bool
  | _, [] => true
  | a, .int i :: r => decide (a ≤ i) && (decide (i ≤ m) && lotOk m (i + 1) r)
  | _, _ :: _ => false
theorem lotOk_of {m : Int} : ∀ (ds : List D) (a : Int), 0 ≤ a → lotOk m a ds = true → ∃ l : List Nat, ds = l.map nD ∧ l.Pairwise (· < ·) ∧ ∀ x ∈ l, a ≤ (x : Int) ∧ (x : Int) ≤ m
  | [], _, _, _ => ⟨[], rfl, .nil, by simp⟩
  | .int i :: r, a, ha, h => by
    unfold lotOk at h
    rw [Bool.and_eq_true, Bool.and_eq_true, decide_eq_true_eq, decide_eq_true_eq] at h
    obtain ⟨l, rfl, h1, h2⟩ := lotOk_of r (i + 1) (by omega) h.2.2
    refine ⟨i.toNat :: l, ?_, ?_, ?_⟩
    · rw [List.map_cons]; unfold nD; rw [Int.toNat_of_nonneg (by omega)]
    · rw [List.pairwise_cons]; exact ⟨fun x hx => by have := (h2 x hx).1; omega, h1⟩
    · intro x hx
      rcases List.mem_cons.mp hx with rfl | hx
      · omega
      · have := h2 x hx; omega
  | .none :: r, a, _, h => by unfold lotOk at h; cases h
  | .bool _ :: r, a, _, h => by unfold lotOk at h; cases h
  | .str _ :: r, a, _, h => by unfold lotOk at h; cases h
  | .list _ :: r, a, _, h => by unfold lotOk at h; cases h
  | .tuple _ :: r, a, _, h => by unfold lotOk at h; cases h
  | .dict _ :: r, a, _, h => by unfold lotOk at h; cases h
theorem of_lotOk {m : Int} : ∀ (l : List Nat) (a : Int), l.Pairwise (· < ·) → (∀ x ∈ l, a ≤ (x : Int) ∧ (x : Int) ≤ m) → lotOk m a (l.map nD) = true
  | [], _, _, _ => rfl
  | x :: l, a, h1, h2 => by
    rw [List.map_cons]
    unfold nD lotOk
    rw [List.pairwise_cons] at h1
    rw [Bool.and_eq_true, Bool.and_eq_true, decide_eq_true_eq, decide_eq_true_eq]
    have := h2 x (by simp)
    exact ⟨this.1, this.2, of_lotOk l _ h1.2 fun y hy => ⟨by have := h1.1 y hy; omega, (h2 y (by simp [hy])).2⟩⟩
/-- things that are numbers from 0 on, below n -/
def thOk (n : Nat) : D → Bool
  | .int i => decide (0 ≤ i) && decide (i < n)
  | _ => false
theorem thOk_of {n : Nat} : ∀ (ds : List D), (∀ d ∈ ds, thOk n d = true) → ∃ l : List Nat, ds = l.map nD ∧ ∀ x ∈ l, x < n
  | [], _ => ⟨[], rfl, by simp⟩
  | d :: r, h => by
    obtain ⟨l, rfl, h2⟩ := thOk_of r fun x hx => h x (by simp [hx])
    have h1 := h d (by simp)
    cases d with
    | int i =>
      unfold thOk at h1
      rw [Bool.and_eq_true, decide_eq_true_eq, decide_eq_true_eq] at h1
      refine ⟨i.toNat :: l, ?_, ?_⟩
      · rw [List.map_cons]; unfold nD; rw [Int.toNat_of_nonneg (by omega)]
      · intro x hx
        rcases List.mem_cons.mp hx with rfl | hx
        · omega
        · exact h2 x hx
    | none => cases h1
    | bool _ => cases h1
    | str _ => cases h1
    | list _ => cases h1
    | tuple _ => cases h1
    | dict _ => cases h1
/-- neighbours that rise -/
theorem adj_rise : ∀ {l : List Nat}, (∀ p ∈ l.zip (l.drop 1), p.1 < p.2) → l.Pairwise (· < ·)
  | [], _ => .nil
  | [x], _ => List.pairwise_singleton _ _
  | x :: y :: l, h => by
    have h1 : (y :: l).Pairwise (· < ·) := adj_rise fun p hp => h p (by simp at hp ⊢; exact .inr hp)
    have h0 : x < y := h (x, y) (by simp)
    rw [List.pairwise_cons]
    refine ⟨fun z hz => ?_, h1⟩
    rcases List.mem_cons.mp hz with rfl | hz
    · exact h0
    · exact Nat.lt_trans h0 ((List.pairwise_cons.mp h1).1 z hz)
theorem rise_adj : ∀ {l : List Nat}, l.Pairwise (· < ·) → ∀ p ∈ l.zip (l.drop 1), p.1 < p.2
  | [], _, p, hp => by simp at hp
  | [x], _, p, hp => by simp at hp
  | x :: y :: l, h, p, hp => by
    rw [List.pairwise_cons] at h
    have hp : p = (x, y) ∨ p ∈ (y :: l).zip ((y :: l).drop 1) := by simpa using hp
    rcases hp with rfl | hp
    · exact h.1 y (by simp)
    · exact rise_adj h.2 p hp
theorem wp_filterI {env : List (Option Sl)} {box : List D} {v : Nat} {c : M Bool} {f : M D} {Q : List D → S → Prop} {xs : List D} (p : D → Bool) (h : D → D) (hl : xs.length ≤ sizeLine)
    (hc : ∀ x ∈ xs, Wp (c ⟨env.set v (some (.val x)), box⟩) fun y s' => y = p x ∧ s' = ⟨env.set v (some (.val x)), box⟩)
    (hb : ∀ x ∈ xs, p x = true → Wp (f ⟨env.set v (some (.val x)), box⟩) fun y s' => y = h x ∧ s' = ⟨env.set v (some (.val x)), box⟩)
    (hq : Q ((xs.filter p).map h) ⟨env.set v none, box⟩) : Wp (compL (gN v) c f [v] xs [] ⟨env, box⟩) Q := by
  have := wp_filterE (xs := xs) (fun d => d) p h hl hc hb hq
  rwa [List.map_id'] at this
theorem ato_of_th {n : Nat} {ds : List D} (h : ds.all (thOk n) = true) : ∃ l : List Nat, ds = l.map nD ∧ ∀ x ∈ l, x < n := thOk_of ds (List.all_eq_true.mp h)
inductive CVl : D → Prop
  | none : CVl .none
  | lst (ds : List D) : CVl (.list ds)
  | short (ds : List D) : ds.length ≠ 2 → CVl (.tuple ds)
  | right (x : D) (ds : List D) : Ato x → CVl (.tuple [x, .list ds])
  | pair (x : D) (ds : List D) : Ato x → (∀ y ∈ ds, Ato y) → ds.length ≤ 100 → CVl (.tuple [x, .tuple ds])
def wSum (W l : List Nat) : Nat := (l.map fun t => atN W t).sum
open Classical in
noncomputable def cutOk (F : List (List Nat)) (W : List Nat) (n : Nat) (d : D) : Bool := decide (∃ (k : Nat) (l : List Nat), d = .tuple [nD k, tN l] ∧ l.Pairwise (· < ·) ∧ (∀ x ∈ l, x < n) ∧ meetsN F l = true ∧ wSum W l = k)
open Classical in
theorem cutOk_no {F : List (List Nat)} {W : List Nat} {n : Nat} {d : D} (h : ∀ (k : Nat) (l : List Nat), d = .tuple [nD k, tN l] → l.Pairwise (· < ·) → (∀ x ∈ l, x < n) → meetsN F l = true → wSum W l = k → False) : cutOk F W n d = false := by
  unfold cutOk
  exact decide_eq_false fun ⟨k, l, h1, h2, h3, h4, h5⟩ => h k l h1 h2 h3 h4 h5
open Classical in
theorem cutOk_yes {F : List (List Nat)} {W : List Nat} {n k : Nat} {l : List Nat} (h2 : l.Pairwise (· < ·)) (h3 : ∀ x ∈ l, x < n) : cutOk F W n (.tuple [.int (k : Int), .tuple (l.map nD)]) = (meetsN F l && decide (wSum W l = k)) := by
  unfold cutOk
  rw [Bool.eq_iff_iff, Bool.and_eq_true, decide_eq_true_eq, decide_eq_true_eq]
  constructor
  · rintro ⟨k', l', e, _, _, h4, h5⟩
    unfold nD tN at e
    simp only [PyData.tuple.injEq, List.cons.injEq, PyData.int.injEq] at e
    obtain ⟨e1, e2, _⟩ := e
    have e1 := Int.ofNat.inj e1
    have e2 := nDs_inj e2
    subst e1; subst e2
    exact ⟨h4, h5⟩
  · rintro ⟨h4, h5⟩
    exact ⟨k, l, rfl, h2, h3, h4, h5⟩
theorem atLN {L : List Nat} {t : Nat} (h : t < L.length) : atI (L.map nD) (t : Int) = some (.int (atN L t : Nat)) := by
  rw [atI_n, List.getElem?_map, getD_lt h]; rfl
theorem pIxLN {L : List Nat} {LD : D} {i : Int} (hL : LD = tN L ∨ LD = lN L) : pIx LD (.int i) = (atI (L.map nD) i).map .d := by rcases hL with rfl | rfl <;> rfl
theorem plain_tNs (F : List (List Nat)) : PyData.plainAll (F.map tN) = true := by
  induction F with
  | nil => rfl
  | cons w F ih =>
    rw [List.map_cons, PyData.plainAll, ih, Bool.and_true]
    unfold tN
    rw [PyData.plain]
    exact plain_nDs w
theorem any_tNs (F : List (List Nat)) (w : List Nat) : ((F.map tN).any fun z => PyData.eqv z (tN w)) = decide (w ∈ F) := by
  rw [Bool.eq_iff_iff, List.any_eq_true, decide_eq_true_eq]
  constructor
  · rintro ⟨z, hz, h⟩
    obtain ⟨v, hv, rfl⟩ := List.mem_map.mp hz
    rw [eqv_tN, decide_eq_true_eq] at h
    rw [← h]; exact hv
  · intro h
    exact ⟨tN w, List.mem_map.mpr ⟨w, h, rfl⟩, by rw [eqv_tN, decide_eq_true_eq]⟩
theorem inOk_tNs (w : List Nat) (F : List (List Nat)) : inOk (tN w) (F.map tN) = true := by
  unfold inOk
  rw [plain_tNs, depth_tN]
  unfold tN
  rw [PyData.plain, plain_nDs]; rfl
@[simp] theorem ndIn_fN {w : List Nat} {F : List (List Nat)} : nd2 pIn (tN w) (fN F) = some (decide (w ∈ F)) := by
  refine nd2_some ?_ (noDict_tN w) (noDict_fN F)
  show (if inOk (tN w) (F.map tN) then some ((F.map tN).any fun z => PyData.eqv z (tN w)) else none) = _
  rw [if_pos (inOk_tNs w F), any_tNs]
@[simp] theorem ndNotIn_fN {w : List Nat} {F : List (List Nat)} : nd2 pNotIn (tN w) (fN F) = some (!decide (w ∈ F)) := by
  refine nd2_some ?_ (noDict_tN w) (noDict_fN F)
  show (pIn (tN w) (fN F)).map (!·) = _
  show (if inOk (tN w) (F.map tN) then some ((F.map tN).any fun z => PyData.eqv z (tN w)) else none).map (!·) = _
  rw [if_pos (inOk_tNs w F), any_tNs]; rfl
@[simp] theorem ndIn_lNs {w : List Nat} {F : List (List Nat)} : nd2 pIn (tN w) (.list (F.map tN)) = some (decide (w ∈ F)) := by
  refine nd2_some ?_ (noDict_tN w) (noDict_tNs F)
  show (if inOk (tN w) (F.map tN) then some ((F.map tN).any fun z => PyData.eqv z (tN w)) else none) = _
  rw [if_pos (inOk_tNs w F), any_tNs]
theorem okd_ctD (n : Nat) (p : Nat × List Nat) : Okd (n + 2) (ctD p) := .tup (n + 1) _ fun x hx => by
  rcases List.mem_cons.mp hx with rfl | hx
  · exact .int _ _
  · rw [List.mem_singleton.mp hx]; exact okd_tN n _
end L3

namespace Law
open PySem PySem.W PySem.Spec PyProof.Rows L2 L3
def top (i : Nat) : Stmt := PySem.Challenge.pw_newestpays_k42_lots_that_are_as_narrow.main.body.getD i (.Pass ⟨0, 0, 0, 0⟩)
structure Txt (K : PySem.W.Frag) (mg : Str → Option Value) : Prop where
  abs : mg "abs" = none
  any : mg "any" = none
  bool : mg "bool" = none
  int : mg "int" = none
  isinstance : mg "isinstance" = none
  len : mg "len" = none
  list : mg "list" = none
  max : mg "max" = none
  min : mg "min" = none
  range : mg "range" = none
  set : mg "set" = none
  sorted : mg "sorted" = none
  str : mg "str" = none
  sum : mg "sum" = none
  tuple : mg "tuple" = none
  zip : mg "zip" = none
  c_ROW : ∃ u, mg "ROW" = some u ∧ RelV (.str "row") u
/-! ### each def as it computes -/
abbrev s_is_int : Stmt := top 2
def b_is_int : M Fl :=
  sRet (vAnd (frz (eIsi (.var 0) "int")) (vNot (frz (eIsi (.var 0) "bool"))))
def g_is_int : Fn := runF false 1 b_is_int
abbrev s_is_number : Stmt := top 3
def b_is_number : M Fl :=
  sRet (vAnd (frz (eCall g_is_int [frz (eVar 0)] [])) (vAnd (frz (e2 (.var 0) (.var 1) (bO (nd2 pGe)))) (vOr (frz (e2 (.var 2) (.ex (frz (eC .none))) (bO pIsN))) (e2 (.var 0) (.var 2) (bO (nd2 pLe))))))
def g_is_number : Fn := runF false 3 b_is_number
abbrev s_is_tuple : Stmt := top 4
def b_is_tuple : M Fl :=
  sRet (vAnd (frz (eIsi (.var 0) "tuple")) (vOr (frz (e2 (.var 1) (.ex (frz (eC .none))) (bO pIsN))) (e2 (.ex (frz (eP [.var 0] pLen))) (.var 1) (bO (nd2 pEq)))))
def g_is_tuple : Fn := runF false 2 b_is_tuple
abbrev s_is_lot : Stmt := top 5
def b_is_lot : M Fl :=
  sSeq (sIf (tNot (tB (frz (eIsi (.var 0) "tuple")))) (sRet (eC (.bool false))) (sNil))
    (sSeq (sFor (iVal (frz (eVar 0))) (gN 3) (sSeq (sIf (tNot (tB (frz (eCall g_is_number [frz (eVar 3), frz (eVar 2), frz (eVar 1)] [])))) (sRet (eC (.bool false))) (sNil))
    (sSet 2 (e2 (.var 3) (.ex (frz (eC (.int 1)))) pAdd))))
    (sRet (eC (.bool true))))
def g_is_lot : Fn := runF false 4 b_is_lot
abbrev s_common_of : Stmt := top 6
def b_common_of : M Fl :=
  sRet (eP [.ex (frz (eComp (iVal (frz (eVar 0))) [2] (gN 2) (t2 (.var 2) (.var 1) (nd2 pIn)) (frz (eVar 2))))] pTupleOf)
def g_common_of : Fn := runF false 3 b_common_of
abbrev s_joined_lots : Stmt := top 7
def b_joined_lots : M Fl :=
  sSeq (sSet 1 (eNewD))
    (sSeq (sFor (iVal (frz (eVar 0))) (gN 2) (sFor (iVal (frz (eVar 2))) (gN 3) (sDPut 1 (frz (eC (.bool true))) (frz (eVar 3)))))
    (sRet (eP [.ex (frz (eP [.ex (frz (eDList 1))] pSorted))] pTupleOf)))
def g_joined_lots : Fn := runF false 4 b_joined_lots
abbrev s_family_things : Stmt := top 9
def b_family_things : M Fl :=
  sRet (eP [.ex (frz (eCall g_joined_lots [frz (eVar 0)] []))] pLen)
def g_family_things : Fn := runF false 1 b_family_things
abbrev s_term_rows : Stmt := top 11
noncomputable def b_term_rows : M Fl :=
  sSeq (sInit0 1 2 (eLst []) [val (frz (eVar 0)), eLst []])
    (sSeq (sWhile (t2 (.ex (frz (eLenS 2))) (.ex (frz (eC (.int 0)))) (nd2 pGt)) (sSeq (sBorrow0 [3] 4 2 (frz (e1 (.ex (frz (eC (.int 1)))) pNeg)))
    (sIf (tAnd (tNot (tB (frz (eCall g_is_number [frz (eVar 3)] [.int 0, .none])))) (t2 (.ex (frz (eP [.var 4] pLen))) (.ex (frz (eP [.ex (frz (e2 (.var 3) (.ex (frz (eC (.int 1)))) pIx))] pLen))) (nd2 pLt))) (sPush 2 [val (frz (e2 (.ex (frz (e2 (.var 3) (.ex (frz (eC (.int 1)))) pIx))) (.ex (frz (eP [.var 4] pLen))) pIx)), eLst []]) (sSeq (sIf (tB (frz (eCall g_is_number [frz (eVar 3)] [.int 0, .none]))) (sDrop (eM 1 [frz (eTup [frz (eC .none), frz (eTup []), frz (eTup [frz (eVar 3)])])] mAppend)) (sDrop (eM 1 [frz (eTup [frz (e2 (.var 3) (.ex (frz (eC (.int 0)))) pIx), frz (eP [.var 4] pTupleOf), frz (eCall g_joined_lots [frz (eComp (iVal (frz (eVar 4))) [5] (gN 5) (mret true) (frz (e2 (.ex (frz (e2 (.var 1) (.var 5) pIx))) (.ex (frz (eC (.int 2)))) pIx)))] [])])] mAppend)))
    (sSeq (sPopS 2)
    (sIf (t2 (.ex (frz (eLenS 2))) (.ex (frz (eC (.int 0)))) (nd2 pGt)) (sTopApp 2 (frz (e1 (.ex (frz (eC (.int 1)))) pNeg)) (frz (eC (.int 1))) (frz (e2 (.ex (frz (eP [.var 1] pLen))) (.ex (frz (eC (.int 1)))) pSub))) (sNil)))))))
    (sRet (eP [.var 1] pTupleOf)))
noncomputable def g_term_rows : Fn := runF false 6 b_term_rows
abbrev s_part_cut : Stmt := top 13
def b_part_cut : M Fl :=
  sSeq (sUnp [3, 4, 5] (frz (eVar 0)))
    (sSeq (sIf (t2 (.var 3) (.ex (frz (eC .none))) pIsN) (sRet (eTup [frz (e2 (.var 1) (.ex (frz (e2 (.var 5) (.ex (frz (eC (.int 0)))) pIx))) pIx), frz (eVar 5)])) (sNil))
    (sSeq (sIf (t2 (.var 3) (.ex (frz (eC (.str "row")))) (nd2 pEq)) (sRet (eP [.ex (frz (eComp (iVal (frz (eVar 4))) [6] (gN 6) (mret true) (frz (e2 (.var 2) (.var 6) pIx))))] pMinA)) (sNil))
    (sRet (eTup [frz (eP [.ex (frz (eComp (iVal (frz (eVar 4))) [6] (gN 6) (mret true) (frz (e2 (.ex (frz (e2 (.var 2) (.var 6) pIx))) (.ex (frz (eC (.int 0)))) pIx))))] pSum), frz (eCall g_joined_lots [frz (eComp (iVal (frz (eVar 4))) [6] (gN 6) (mret true) (frz (e2 (.ex (frz (e2 (.var 2) (.var 6) pIx))) (.ex (frz (eC (.int 1)))) pIx)))] [])]))))
def g_part_cut : Fn := runL 7 b_part_cut
abbrev s_wide_cut : Stmt := top 14
noncomputable def b_wide_cut : M Fl :=
  sSeq (sSet 2 (eLst []))
    (sSeq (sFor (iVal (frz (eCall g_term_rows [frz (eVar 0)] []))) (gN 3) (sDrop (eM 2 [frz (eCallB g_part_cut 2 [frz (eVar 3), frz (eVar 1)] [])] mAppend)))
    (sRet (e2 (.var 2) (.ex (frz (e1 (.ex (frz (eC (.int 1)))) pNeg))) pIx)))
noncomputable def g_wide_cut : Fn := runF false 4 b_wide_cut
abbrev s_cut_serves : Stmt := top 15
def b_cut_serves : M Fl :=
  sSeq (sIf (tOr (tNot (tB (frz (eCall g_is_tuple [frz (eVar 2), frz (eC (.int 2))] [])))) (tOr (tNot (tB (frz (eCall g_is_number [frz (e2 (.var 2) (.ex (frz (eC (.int 0)))) pIx)] [.int 0, .none])))) (tNot (tB (frz (eCall g_is_lot [frz (e2 (.var 2) (.ex (frz (eC (.int 1)))) pIx), frz (e2 (.ex (frz (eCall g_family_things [frz (eVar 0)] []))) (.ex (frz (eC (.int 1)))) pSub)] [.int 0])))))) (sRet (eC (.bool false))) (sNil))
    (sSeq (sIf (tB (frz (eP [.ex (frz (eComp (iVal (frz (eVar 0))) [3] (gN 3) (mret true) (frz (e2 (.ex (frz (eP [.ex (frz (eCall g_common_of [frz (e2 (.var 2) (.ex (frz (eC (.int 1)))) pIx), frz (eVar 3)] []))] pLen))) (.ex (frz (eC (.int 0)))) (bO (nd2 pEq))))))] pAny))) (sRet (eC (.bool false))) (sNil))
    (sRet (e2 (.ex (frz (eP [.ex (frz (eComp (iVal (frz (e2 (.var 2) (.ex (frz (eC (.int 1)))) pIx))) [4] (gN 4) (mret true) (frz (e2 (.var 1) (.var 4) pIx))))] pSum))) (.ex (frz (e2 (.var 2) (.ex (frz (eC (.int 0)))) pIx))) (bO (nd2 pEq)))))
def g_cut_serves : Fn := runF false 5 b_cut_serves
abbrev s__law_box : Stmt := top 17
def b__law_box : M Fl :=
  sSeq (sSet 2 (e2 (.ex (frz (e2 (.ex (frz (eC (.int 7919)))) (.var 1) pMulT))) (.ex (frz (eC (.int 3121)))) pAdd))
    (sSeq (sIf (t2 (.var 1) (.ex (frz (eP [.var 0] pLen))) (nd2 pLt)) (sSet 2 (eP [.ex (frz (eP [.ex (frz (e2 (.var 0) (.var 1) pIx))] pInt))] pAbs)) (sIf (t2 (.ex (frz (eP [.var 0] pLen))) (.ex (frz (eC (.int 0)))) (nd2 pGt)) (sSet 2 (e2 (.var 2) (.ex (frz (e2 (.ex (frz (e2 (.ex (frz (eP [.ex (frz (eP [.ex (frz (eP [.ex (frz (e2 (.var 0) (.ex (frz (e2 (.ex (frz (eP [.var 1] pInt))) (.ex (frz (eP [.var 0] pLen))) pMod))) pIx))] pInt))] pAbs))] pInt))) (.ex (frz (eC (.int 2147483563)))) pMod))) (.ex (frz (eC (.int 48271)))) pMulT))) pAdd)) (sNil)))
    (sSeq (sSet 3 (eIf (t2 (.var 2) (.ex (frz (e2 (.ex (frz (eC (.int 10)))) (.ex (frz (eC (.int 18)))) pPow))) (nd2 pGe)) (eVar 2) (eC (.int 0))))
    (sRet (eLst [frz (eVar 3), frz (e2 (.ex (frz (e2 (.ex (frz (eP [.ex (frz (e2 (.ex (frz (e2 (.ex (frz (e2 (.ex (frz (eP [.var 2] pInt))) (.ex (frz (eC (.int 2147483563)))) pMod))) (.ex (frz (eC (.int 40014)))) pMulT))) (.ex (frz (e2 (.ex (frz (eC (.int 3121)))) (.var 1) pMulT))) pAdd))] pInt))) (.ex (frz (eC (.int 2147483563)))) pMod))) (.ex (frz (eC (.int 1)))) pAdd)]))))
def g__law_box : Fn := runF false 4 b__law_box
abbrev s__law_take : Stmt := top 18
def b__law_take : M Fl :=
  sSeq (sIf (t2 (.ex (frz (e2 (.var 0) (.ex (frz (eC (.int 0)))) pIx))) (.ex (frz (eC (.int 0)))) (nd2 pGt)) (sSeq (sSet 2 (e2 (.ex (frz (eP [.ex (frz (e2 (.var 0) (.ex (frz (eC (.int 0)))) pIx))] pInt))) (.var 1) pMod))
    (sSeq (sSetIx 0 (frz (e2 (.ex (frz (e2 (.var 0) (.ex (frz (eC (.int 0)))) pIx))) (.var 1) pDiv)) (frz (eC (.int 0))))
    (sRet (eMove 2)))) (sNil))
    (sSeq (sSet 3 (e2 (.ex (frz (eP [.ex (frz (e2 (.ex (frz (e2 (.ex (frz (e2 (.var 0) (.ex (frz (eC (.int 1)))) pIx))) (.ex (frz (eC (.int 39373)))) pMulT))) (.ex (frz (eC (.int 587)))) pAdd))] pInt))) (.ex (frz (eC (.int 2147483647)))) pMod))
    (sSeq (sSetIx 0 (frz (e2 (.ex (frz (e2 (.ex (frz (eP [.ex (frz (e2 (.ex (frz (e2 (.var 3) (.ex (frz (eC (.int 40692)))) pMulT))) (.ex (frz (eC (.int 83)))) pAdd))] pInt))) (.ex (frz (eC (.int 2147483399)))) pMod))) (.ex (frz (eC (.int 1)))) pAdd)) (frz (eC (.int 1))))
    (sRet (e2 (.ex (frz (eP [.ex (frz (e2 (.ex (frz (e2 (.ex (frz (e2 (.var 3) (.ex (frz (eC (.int 2147483629)))) pMulT))) (.ex (frz (e2 (.var 0) (.ex (frz (eC (.int 1)))) pIx))) pAdd))) (.ex (frz (eC (.int 8231)))) pDiv))] pInt))) (.var 1) pMod))))
def g__law_take : Fn := runF true 4 b__law_take
abbrev s__law_pick : Stmt := top 19
def b__law_pick : M Fl :=
  sRet (e2 (.var 1) (.ex (frz (eCallB g__law_take 0 [frz (eP [.var 1] pLen)] []))) pIx)
def g__law_pick : Fn := runF true 2 b__law_pick
abbrev s__law_shuffled : Stmt := top 20
def b__law_shuffled : M Fl :=
  sSeq (sPar [2, 3] [eP [.var 1] pListOf, eLst []])
    (sSeq (sFor (evs [frz (eP [.var 1] pLen)] rng1) (gN 4) (sDrop (eM 3 [frz (eM 2 [frz (eCallB g__law_take 0 [frz (eP [.var 2] pLen)] [])] mPopAt)] mAppend)))
    (sRet (eMove 3)))
def g__law_shuffled : Fn := runF true 5 b__law_shuffled
abbrev s__law_same : Stmt := top 21
def b__law_same (rec : Fn) : M Fl :=
  sSeq (sIf (tB (frz (eIsi (.var 1) "tuple"))) (sSeq (sIf (tOr (tNot (tB (frz (eIsi (.var 0) "tuple")))) (t2 (.ex (frz (eP [.var 0] pLen))) (.ex (frz (eP [.var 1] pLen))) (nd2 pNe))) (sRet (eC (.bool false))) (sNil))
    (sSeq (sFor (evs [frz (eVar 0), frz (eVar 1)] zipM) (gT [2, 3]) (sIf (tNot (tB (frz (eCall rec [frz (eVar 2), frz (eVar 3)] [])))) (sRet (eC (.bool false))) (sNil)))
    (sRet (eC (.bool true))))) (sNil))
    (sSeq (sIf (t2 (.var 1) (.ex (frz (eC .none))) pIsN) (sRet (e2 (.var 0) (.ex (frz (eC .none))) (bO pIsN))) (sNil))
    (sSeq (sIf (tOr (t2 (.var 1) (.ex (frz (eC (.bool true)))) pIsBo) (t2 (.var 1) (.ex (frz (eC (.bool false)))) pIsBo)) (sRet (vAnd (frz (eIsi (.var 0) "bool")) (e2 (.var 0) (.var 1) (bO (nd2 pEq))))) (sNil))
    (sSeq (sIf (tB (frz (eIsi (.var 1) "int"))) (sRet (vAnd (frz (eIsi (.var 0) "int")) (vAnd (frz (vNot (frz (eIsi (.var 0) "bool")))) (e2 (.var 0) (.var 1) (bO (nd2 pEq)))))) (sNil))
    (sRet (vAnd (frz (eIsi (.var 0) "str")) (vAnd (frz (eIsi (.var 1) "str")) (e2 (.var 0) (.var 1) (bO (nd2 pEq)))))))))
def gr__law_same : Nat → Fn
  | 0 => fun _ _ => .stuck
  | n + 1 => runF false 4 (b__law_same (gr__law_same n))
def g__law_same : Fn := gr__law_same 16
abbrev s__law_inside : Stmt := top 22
def b__law_inside : M Fl :=
  sRet (e2 (.ex (frz (eComp (iVal (frz (eVar 0))) [2] (gN 2) (t2 (.var 2) (.var 1) (nd2 pNotIn)) (frz (eC (.int 1)))))) (.ex (frz (eLst []))) (bO (nd2 pEq)))
def g__law_inside : Fn := runF false 3 b__law_inside
abbrev s__law_things : Stmt := top 23
def b__law_things : M Fl :=
  sRet (e2 (.ex (frz (eC (.int 1)))) (.ex (frz (eP [.ex (frz (eComp (iVal (frz (eVar 0))) [1] (gN 1) (mret true) (frz (eP [.var 1] pMax))))] pMax))) pAdd)
def g__law_things : Fn := runF false 2 b__law_things
abbrev s__law_lots : Stmt := top 24
def b__law_lots : M Fl :=
  sSeq (sSet 1 (eLst [frz (eTup [])]))
    (sSeq (sFor (evs [frz (eVar 0)] rng1) (gN 2) (sSet 1 (e2 (.var 1) (.ex (frz (eComp (iVal (frz (eVar 1))) [3] (gN 3) (mret true) (frz (e2 (.var 3) (.ex (frz (eTup [frz (eVar 2)]))) pAdd))))) pAdd)))
    (sRet (eComp (iVal (frz (eP [.ex (frz (eComp (iVal (frz (eVar 1))) [3] (gN 3) (mret true) (frz (eTup [frz (eP [.var 3] pLen), frz (eVar 3)]))))] pSorted))) [4] (gN 4) (mret true) (frz (e2 (.var 4) (.ex (frz (eC (.int 1)))) pIx)))))
def g__law_lots : Fn := runF false 5 b__law_lots
abbrev s__law_blockers : Stmt := top 25
noncomputable def b__law_blockers : M Fl :=
  sSeq (sSet 2 (eLst []))
    (sSeq (sFor (iVal (frz (eCall g__law_lots [frz (eVar 1)] []))) (gN 3) (sIf (tAnd (t2 (.ex (frz (eComp (iVal (frz (eVar 0))) [4] (gN 4) (t2 (.ex (frz (eComp (iVal (frz (eVar 4))) [5] (gN 5) (t2 (.var 5) (.var 3) (nd2 pIn)) (frz (eC (.int 1)))))) (.ex (frz (eLst []))) (nd2 pEq)) (frz (eC (.int 1)))))) (.ex (frz (eLst []))) (nd2 pEq)) (t2 (.ex (frz (eCompP 2 [6] (gN 6) (tB (frz (eCall g__law_inside [frz (eVar 6), frz (eVar 3)] []))) (frz (eC (.int 1)))))) (.ex (frz (eLst []))) (nd2 pEq))) (sDrop (eM 2 [frz (eVar 3)] mAppend)) (sNil)))
    (sRet (eP [.ex (frz (eP [.var 2] pSorted))] pTupleOf)))
noncomputable def g__law_blockers : Fn := runF false 7 b__law_blockers
abbrev s__law_term : Stmt := top 26
def b__law_term : M Fl :=
  sSeq (sSet 3 (e2 (.ex (frz (eC (.int 1)))) (.ex (frz (eCallB g__law_take 0 [frz (eVar 1)] []))) pAdd))
    (sSeq (sSet 4 (eComp (iVal (frz (eCallB g__law_shuffled 0 [frz (eLRange [frz (eVar 3)] rg1)] []))) [5] (gN 5) (mret true) (frz (eTup [frz (eVar 5), frz (eLst [frz (eTup [frz (eVar 5)])])]))))
    (sSeq (sFor (evs [frz (e2 (.var 3) (.ex (frz (eC (.int 1)))) pSub)] rng1) (gN 6) (sSeq (sIf (t2 (.ex (frz (eP [.var 4] pLen))) (.ex (frz (eC (.int 1)))) (nd2 pEq)) (mret .bk) (sNil))
    (sSeq (sSet 7 (eComp (evs [frz (eP [.ex (frz (eP [.var 4] pLen)), .ex (frz (eCallB g__law_pick 0 [frz (eLst [frz (eC (.int 2)), frz (eC (.int 2)), frz (eC (.int 2)), frz (eC (.int 3))])] []))] pMin2)] rng1) [8] (gN 8) (mret true) (frz (eM 4 [frz (eCallB g__law_take 0 [frz (eP [.var 4] pLen)] [])] mPopAt))))
    (sSeq (sPar [9, 10] [eLst [frz (eTup [])], eLst []])
    (sSeq (sFor (iVal (frz (eVar 7))) (gN 11) (sSeq (sSet 12 (eLst []))
    (sSeq (sFor (iVal (frz (eVar 9))) (gN 13) (sSet 12 (e2 (.var 12) (.ex (frz (eComp (iVal (frz (e2 (.var 11) (.ex (frz (eC (.int 1)))) pIx))) [14] (gN 14) (mret true) (frz (eP [.ex (frz (eP [.ex (frz (e2 (.var 13) (.var 14) pAdd))] pSorted))] pTupleOf))))) pAdd)))
    (sPar [9, 10] [eVar 12, e2 (.var 10) (.ex (frz (e2 (.var 11) (.ex (frz (eC (.int 1)))) pIx))) pAdd]))))
    (sSeq (sSet 15 (eIf (tAnd (t2 (.ex (frz (eCallB g__law_take 0 [frz (eC (.int 2))] []))) (.ex (frz (eC (.int 0)))) (nd2 pEq)) (t2 (.ex (frz (eP [.var 9] pLen))) (.var 2) (nd2 pLe))) (eC (.str "row")) (eC (.str "side"))))
    (sDrop (eM 4 [frz (eTup [frz (eTup [frz (eVar 15), frz (eP [.ex (frz (eComp (iVal (frz (eVar 7))) [11] (gN 11) (mret true) (frz (e2 (.var 11) (.ex (frz (eC (.int 0)))) pIx))))] pTupleOf)]), frz (eIf (t2 (.var 15) (.ex (frz (eC (.str "row")))) (nd2 pEq)) (eVar 9) (eVar 10))])] mAppend))))))))
    (sRet (eTup [frz (e2 (.ex (frz (e2 (.var 4) (.ex (frz (eC (.int 0)))) pIx))) (.ex (frz (eC (.int 0)))) pIx), frz (eP [.ex (frz (eP [.ex (frz (e2 (.ex (frz (e2 (.var 4) (.ex (frz (eC (.int 0)))) pIx))) (.ex (frz (eC (.int 1)))) pIx))] pSorted))] pTupleOf)]))))
def g__law_term : Fn := runF true 16 b__law_term
abbrev s__law_rows : Stmt := top 27
def b__law_rows : M Fl :=
  sSeq (sInit0 1 2 (eLst []) [val (frz (eVar 0)), eLst []])
    (sSeq (sFor (evs [frz (eC (.int 200))] rng1) (gN 3) (sSeq (sIf (tEqS 2 false) (mret .bk) (sNil))
    (sSeq (sBorrow0 [4] 5 2 (frz (e1 (.ex (frz (eC (.int 1)))) pNeg)))
    (sSeq (sIf (tAnd (tB (frz (eIsi (.var 4) "tuple"))) (t2 (.ex (frz (eP [.var 5] pLen))) (.ex (frz (eP [.ex (frz (e2 (.var 4) (.ex (frz (eC (.int 1)))) pIx))] pLen))) (nd2 pLt))) (sSeq (sPush 2 [val (frz (e2 (.ex (frz (e2 (.var 4) (.ex (frz (eC (.int 1)))) pIx))) (.ex (frz (eP [.var 5] pLen))) pIx)), eLst []])
    (mret .ct)) (sNil))
    (sSeq (sIf (tB (frz (eIsi (.var 4) "tuple"))) (sSeq (sSet 6 (eLst []))
    (sSeq (sFor (iVal (frz (eVar 5))) (gN 7) (sSet 6 (e2 (.var 6) (.ex (frz (eP [.ex (frz (e2 (.ex (frz (e2 (.var 1) (.var 7) pIx))) (.ex (frz (eC (.int 2)))) pIx))] pListOf))) pAdd)))
    (sDrop (eM 1 [frz (eTup [frz (e2 (.var 4) (.ex (frz (eC (.int 0)))) pIx), frz (eP [.var 5] pTupleOf), frz (eP [.ex (frz (eP [.var 6] pSorted))] pTupleOf)])] mAppend)))) (sDrop (eM 1 [frz (eTup [frz (eC .none), frz (eTup []), frz (eTup [frz (eVar 4)])])] mAppend)))
    (sSeq (sPopS 2)
    (sIf (tEqS 2 true) (sTopApp 2 (frz (e1 (.ex (frz (eC (.int 1)))) pNeg)) (frz (eC (.int 1))) (frz (e2 (.ex (frz (eP [.var 1] pLen))) (.ex (frz (eC (.int 1)))) pSub))) (sNil))))))))
    (sRet (eMove 1)))
def g__law_rows : Fn := runF false 8 b__law_rows
abbrev s__law_widths : Stmt := top 28
def b__law_widths : M Fl :=
  sSeq (sSet 2 (eCallB g__law_pick 0 [frz (eLst [frz (eC (.int 1)), frz (eC (.int 2)), frz (eC (.int 3))])] []))
    (sRet (eP [.ex (frz (eComp (evs [frz (eVar 1)] rng1) [3] (gN 3) (mret true) (frz (eIf (t2 (.ex (frz (eCallB g__law_take 0 [frz (eC (.int 4))] []))) (.ex (frz (eC (.int 0)))) (nd2 pGt)) (eCallB g__law_take 0 [frz (e2 (.var 2) (.ex (frz (eC (.int 1)))) pAdd)] []) (eVar 2)))))] pTupleOf))
def g__law_widths : Fn := runF true 4 b__law_widths
abbrev s__law_cut : Stmt := top 29
def b__law_cut : M Fl :=
  sSeq (sSet 2 (eLst []))
    (sSeq (sFor (iVal (frz (eCall g__law_rows [frz (eVar 0)] []))) (gT [3, 4, 5]) (sSeq (sSet 6 (eComp (iVal (frz (eVar 4))) [7] (gN 7) (mret true) (frz (e2 (.var 2) (.var 7) pIx))))
    (sIf (t2 (.var 3) (.ex (frz (eC .none))) pIsN) (sDrop (eM 2 [frz (eTup [frz (e2 (.var 1) (.ex (frz (e2 (.var 5) (.ex (frz (eC (.int 0)))) pIx))) pIx), frz (eVar 5)])] mAppend)) (sIf (t2 (.var 3) (.ex (frz (eC (.str "row")))) (nd2 pEq)) (sDrop (eM 2 [frz (eP [.var 6] pMinA)] mAppend)) (sSeq (sSet 8 (eLst []))
    (sSeq (sFor (iVal (frz (eVar 6))) (gN 9) (sSet 8 (e2 (.var 8) (.ex (frz (eP [.ex (frz (e2 (.var 9) (.ex (frz (eC (.int 1)))) pIx))] pListOf))) pAdd)))
    (sDrop (eM 2 [frz (eTup [frz (eP [.ex (frz (eComp (iVal (frz (eVar 6))) [9] (gN 9) (mret true) (frz (e2 (.var 9) (.ex (frz (eC (.int 0)))) pIx))))] pSum), frz (eP [.ex (frz (eP [.var 8] pSorted))] pTupleOf)])] mAppend))))))))
    (sRet (e2 (.var 2) (.ex (frz (e1 (.ex (frz (eC (.int 1)))) pNeg))) pIx)))
def g__law_cut : Fn := runF false 10 b__law_cut
abbrev s__law_is_cut : Stmt := top 30
def b__law_is_cut : M Fl :=
  sSeq (sIf (tOr (tNot (tB (frz (eIsi (.var 2) "tuple")))) (tOr (t2 (.ex (frz (eP [.var 2] pLen))) (.ex (frz (eC (.int 2)))) (nd2 pNe)) (tOr (tNot (tB (frz (eIsi (.ex (frz (e2 (.var 2) (.ex (frz (eC (.int 0)))) pIx))) "int")))) (tOr (tB (frz (eIsi (.ex (frz (e2 (.var 2) (.ex (frz (eC (.int 0)))) pIx))) "bool"))) (tNot (tB (frz (eIsi (.ex (frz (e2 (.var 2) (.ex (frz (eC (.int 1)))) pIx))) "tuple")))))))) (sRet (eC (.bool false))) (sNil))
    (sSeq (sSet 3 (e2 (.var 2) (.ex (frz (eC (.int 1)))) pIx))
    (sSeq (sIf (t2 (.ex (frz (eComp (iVal (frz (eVar 3))) [4] (gN 4) (tOr (tNot (tB (frz (eIsi (.var 4) "int")))) (tOr (tB (frz (eIsi (.var 4) "bool"))) (tOr (t2 (.var 4) (.ex (frz (eC (.int 0)))) (nd2 pLt)) (t2 (.var 4) (.ex (frz (eP [.var 1] pLen))) (nd2 pGe))))) (frz (eC (.int 1)))))) (.ex (frz (eLst []))) (nd2 pNe)) (sRet (eC (.bool false))) (sNil))
    (sSeq (sIf (t2 (.ex (frz (eComp (evs [frz (eVar 3), frz (eSl (.var 3) (mbind (frz (eC (.int 1))) fun d => mbind (isI d) fun i => mret (some i)) (mret none))] zipM) [5, 6] (gT [5, 6]) (t2 (.var 5) (.var 6) (nd2 pGe)) (frz (eC (.int 1)))))) (.ex (frz (eLst []))) (nd2 pNe)) (sRet (eC (.bool false))) (sNil))
    (sRet (vAnd (frz (e2 (.ex (frz (eComp (iVal (frz (eVar 0))) [7] (gN 7) (t2 (.ex (frz (eComp (iVal (frz (eVar 7))) [4] (gN 4) (t2 (.var 4) (.var 3) (nd2 pIn)) (frz (eC (.int 1)))))) (.ex (frz (eLst []))) (nd2 pEq)) (frz (eC (.int 1)))))) (.ex (frz (eLst []))) (bO (nd2 pEq)))) (e2 (.ex (frz (eP [.ex (frz (eComp (iVal (frz (eVar 3))) [4] (gN 4) (mret true) (frz (e2 (.var 1) (.var 4) pIx))))] pSum))) (.ex (frz (e2 (.var 2) (.ex (frz (eC (.int 0)))) pIx))) (bO (nd2 pEq))))))))
def g__law_is_cut : Fn := runF false 8 b__law_is_cut
abbrev s_law : Stmt := top 31
noncomputable def b_law : M Fl :=
  sSeq (sFor (evs [frz (eP [.ex (frz (eC (.int 4))), .ex (frz (eP [.ex (frz (eP [.var 0] pLen)), .ex (frz (eC (.int 8)))] pMin2))] pMax2)] rng1) (gN 1) (sSeq (sSet 2 (eCall g__law_box [frz (eVar 0), frz (eVar 1)] []))
    (sFor (evs [frz (eC (.int 2))] rng1) (gN 3) (sSeq (sUnp [4, 5] (frz (eCallB g__law_term 2 [frz (eC (.int 9)), frz (eC (.int 24))] [])))
    (sSeq (sSet 6 (eCall g__law_things [frz (eVar 5)] []))
    (sSeq (sSet 7 (eIf (t2 (.var 3) (.ex (frz (eC (.int 0)))) (nd2 pEq)) (eP [.ex (frz (eComp (evs [frz (eVar 6)] rng1) [8] (gN 8) (mret true) (frz (eCallB g__law_take 2 [frz (eC (.int 13))] []))))] pTupleOf) (eCallB g__law_widths 2 [frz (eVar 6)] [])))
    (sSeq (sSet 9 (eCall g__law_cut [frz (eVar 4), frz (eVar 7)] []))
    (sSeq (sIf (tOr (tNot (tB (frz (eCall g__law_same [frz (eCallK g_wide_cut [0, 1] 2 0 2 [] [frz (eVar 4), frz (eVar 7)] []), frz (eVar 9)] [])))) (t2 (.ex (frz (e2 (.var 9) (.ex (frz (eC (.int 1)))) pIx))) (.ex (frz (eCall g__law_blockers [frz (eVar 5), frz (eVar 6)] []))) (nd2 pNotIn))) (sRet (eC (.bool false))) (sNil))
    (sSeq (sUnp [10, 11] (frz (eVar 9)))
    (sSeq (sSet 12 (eP [.ex (frz (eP [.ex (frz (e2 (.var 11) (.ex (frz (eTup [frz (eCallB g__law_take 2 [frz (eVar 6)] [])]))) pAdd))] pSortSet))] pTupleOf))
    (sSeq (sSet 13 (eLst [frz (eVar 9), frz (eTup [frz (eVar 10), frz (eVar 12)]), frz (eTup [frz (e2 (.var 10) (.ex (frz (eC (.int 1)))) pAdd), frz (eVar 11)]), frz (eTup [frz (eP [.ex (frz (eComp (iVal (frz (eVar 12))) [8] (gN 8) (mret true) (frz (e2 (.var 7) (.var 8) pIx))))] pSum), frz (eVar 12)]), frz (eTup [frz (eC (.int 0)), frz (eTup [])]), frz (eTup [frz (eVar 10), frz (eSl (.var 11) (mbind (frz (eC (.int 1))) fun d => mbind (isI d) fun i => mret (some i)) (mret none))]), frz (eTup [frz (eVar 10), frz (eP [.var 11] pListOf)])]))
    (sSeq (sSet 13 (e2 (.var 13) (.ex (frz (eLst [frz (eTup [frz (e2 (.var 10) (.ex (frz (eC (.int 1)))) (bO (nd2 pEq))), frz (eVar 11)]), frz (eTup [frz (eVar 10)]), frz (eC .none), frz (eLst [frz (eVar 10), frz (eVar 11)]), frz (eTup [frz (eVar 10), frz (e1 (.var 11) pRev)]), frz (eTup [frz (eVar 10), frz (eP [.ex (frz (eComp (iVal (frz (eVar 11))) [8] (gN 8) (mret true) (frz (eIf (t2 (.var 8) (.ex (frz (eC (.int 2)))) (nd2 pLt)) (e2 (.var 8) (.ex (frz (eC (.int 1)))) (bO (nd2 pEq))) (eVar 8)))))] pTupleOf)])]))) pAdd))
    (sSeq (sSet 14 (eP [.ex (frz (eComp (evs [frz (eVar 6)] rng1) [8] (gN 8) (t2 (.ex (frz (eCallB g__law_take 2 [frz (eC (.int 2))] []))) (.ex (frz (eC (.int 0)))) (nd2 pEq)) (frz (eVar 8))))] pTupleOf))
    (sFor (iVal (frz (e2 (.var 13) (.ex (frz (eLst [frz (eTup [frz (eP [.ex (frz (eComp (iVal (frz (eVar 14))) [8] (gN 8) (mret true) (frz (e2 (.var 7) (.var 8) pIx))))] pSum), frz (eVar 14)])]))) pAdd))) (gN 15) (sIf (tNot (tB (frz (eCall g__law_same [frz (eCallK g_cut_serves [0, 1, 2] 3 0 3 [] [frz (eVar 5), frz (eVar 7), frz (eVar 15)] []), frz (eCall g__law_is_cut [frz (eVar 5), frz (eVar 7), frz (eVar 15)] [])] [])))) (sRet (eC (.bool false))) (sNil))))))))))))))))
    (sRet (eC (.bool true)))
noncomputable def g_law : Fn := runF false 16 b_law
/-! ### the walks -/
section
variable {P : Program} {w : World} {K : PySem.W.Frag} {mg : Str → Option Value} {base : Heap}
theorem sc_is_int : FnScope ["value"] ["value"] (defScope s_is_int) := ⟨rfl, rfl, rfl, by decide +kernel, rfl, by decide +kernel, by decide +kernel⟩
theorem sb_is_int (T : Txt K mg) {f : Addr} (cdv : Value) (A : Around) (outer : List Env) (s : Shared) (H : Hp) (E : XK) (hr : Room 0 (A.deeper (envOfC "is_int" (defScope s_is_int) s.heap.objs.size f cdv))) :
    SB (fun _ : Unit => (cxOf CX0 P w K mg base ["value"] "is_int" (defScope s_is_int) f cdv A outer s H E).nox) K WW0 (defBody s_is_int) b_is_int := by
  have nd := (sc_is_int).nd
  exact sb_one (ss_ret (se_and (sv_of (se_isi (so_var (i := 0) (fun _ => pv 0)) (fun _ => pe_bltn (by rfl) T.int boot_int rfl) kit_int (fun _ => rfl) (fun _ => rfl) (fun _ h z => pe_callB call_isi (by rfl) T.isinstance boot_isinstance (h z)))) (se_one (se_not (sv_of (se_isi (so_var (i := 0) (fun _ => pv 0)) (fun _ => pe_bltn (by rfl) T.bool boot_bool rfl) kit_bool (fun _ => rfl) (fun _ => rfl) (fun _ h z => pe_callB call_isi (by rfl) T.isinstance boot_isinstance (h z))))))))
theorem ok_is_int (T : Txt K mg) {f : Addr} {fd : FuncData} (F : Fun K "is_int" "is_int" s_is_int f fd) : FnOk P w K mg base CX0 1 f fd ["value"] (spF K false 1 g_is_int) :=
  fn_ok false F sc_is_int (by decide) fun cdv A outer s H E hr => sb_is_int T  cdv A outer s H E hr
theorem sc_is_number : FnScope ["value", "least", "most"] ["value", "least", "most"] (defScope s_is_number) := ⟨rfl, rfl, rfl, by decide +kernel, rfl, by decide +kernel, by decide +kernel⟩
theorem sb_is_number (T : Txt K mg) (c_is_int : Cal P w K mg base "is_int" ["value"] 1 false g_is_int []) {f : Addr} (cdv : Value) (A : Around) (outer : List Env) (s : Shared) (H : Hp) (E : XK) (hr : Room 1 (A.deeper (envOfC "is_number" (defScope s_is_number) s.heap.objs.size f cdv))) :
    SB (fun _ : Unit => (cxOf CX0 P w K mg base ["value", "least", "most"] "is_number" (defScope s_is_number) f cdv A outer s H E).nox) K WW0 (defBody s_is_number) b_is_number := by
  obtain ⟨f_c_is_int, fd_c_is_int, G_c_is_int, m_c_is_int, k_c_is_int, b_c_is_int⟩ := c_is_int.ex
  have nd := (sc_is_number).nd
  exact sb_one (ss_ret (se_and (sv_of (se_call (dvs := []) (dd := []) (np := 1) (sav_cons (sv_of (se_var (i := 0) (fun _ => pv 0))) (sav_nil)) rfl (fun _ => .nil) (fun _ h z => pe_call G_c_is_int (hr.mono (by omega)) (by rfl) m_c_is_int k_c_is_int b_c_is_int .nil pass0 (h z)))) (se_and (sv_of (se_op2 (so_var (i := 0) (fun _ => pv 0)) (so_var (i := 1) (fun _ => pv 1)) (fun _ _ ha hb z => pe_cmpR (op_geD hr.units) (ha z) (hb z) (nomark _)) prim_rd2)) (se_one (se_or (sv_of (se_op2 (so_var (i := 2) (fun _ => pv 2)) (so_ex (sv_of (se_c (d := .none) (fun _ => pe_non) (fun _ => .non)))) (fun _ _ ha hb z => pe_cmpR op_isN (ha z) (hb z) (nomark _)) prim_isN)) (se_one (se_op2 (so_var (i := 0) (fun _ => pv 0)) (so_var (i := 2) (fun _ => pv 2)) (fun _ _ ha hb z => pe_cmpR (op_leD hr.units) (ha z) (hb z) (nomark _)) prim_rd2)))))))
theorem ok_is_number (T : Txt K mg) (c_is_int : Cal P w K mg base "is_int" ["value"] 1 false g_is_int []) {f : Addr} {fd : FuncData} (F : FunD K "is_number" "is_number" (defArgs s_is_number) (defBody s_is_number) (defScope s_is_number) [.int 0, .non] [] f fd) : FnOk P w K mg base CX0 2 f fd ["value", "least", "most"] (spF K false 3 g_is_number) :=
  fn_okD false F sc_is_number (by decide) fun cdv A outer s H E hr => sb_is_number T c_is_int cdv A outer s H E hr
theorem sc_is_tuple : FnScope ["value", "many"] ["value", "many"] (defScope s_is_tuple) := ⟨rfl, rfl, rfl, by decide +kernel, rfl, by decide +kernel, by decide +kernel⟩
theorem sb_is_tuple (T : Txt K mg) {f : Addr} (cdv : Value) (A : Around) (outer : List Env) (s : Shared) (H : Hp) (E : XK) (hr : Room 0 (A.deeper (envOfC "is_tuple" (defScope s_is_tuple) s.heap.objs.size f cdv))) :
    SB (fun _ : Unit => (cxOf CX0 P w K mg base ["value", "many"] "is_tuple" (defScope s_is_tuple) f cdv A outer s H E).nox) K WW0 (defBody s_is_tuple) b_is_tuple := by
  have nd := (sc_is_tuple).nd
  exact sb_one (ss_ret (se_and (sv_of (se_isi (so_var (i := 0) (fun _ => pv 0)) (fun _ => pe_bltn (by rfl) T.tuple boot_tuple rfl) kit_tuple (fun _ => rfl) (fun _ => rfl) (fun _ h z => pe_callB call_isi (by rfl) T.isinstance boot_isinstance (h z)))) (se_one (se_or (sv_of (se_op2 (so_var (i := 1) (fun _ => pv 1)) (so_ex (sv_of (se_c (d := .none) (fun _ => pe_non) (fun _ => .non)))) (fun _ _ ha hb z => pe_cmpR op_isN (ha z) (hb z) (nomark _)) prim_isN)) (se_one (se_op2 (so_ex (sv_of (se_prim (sa_cons (so_var (i := 0) (fun _ => pv 0)) (sa_nil)) (fun _ h z => pe_callB call_len (by rfl) T.len boot_len (h z)) prim_len))) (so_var (i := 1) (fun _ => pv 1)) (fun _ _ ha hb z => pe_cmpR (op_eqP hr.units) (ha z) (hb z) (nomark _)) prim_rd2))))))
theorem ok_is_tuple (T : Txt K mg) {f : Addr} {fd : FuncData} (F : FunD K "is_tuple" "is_tuple" (defArgs s_is_tuple) (defBody s_is_tuple) (defScope s_is_tuple) [.non] [] f fd) : FnOk P w K mg base CX0 1 f fd ["value", "many"] (spF K false 2 g_is_tuple) :=
  fn_okD false F sc_is_tuple (by decide) fun cdv A outer s H E hr => sb_is_tuple T  cdv A outer s H E hr
theorem sc_is_lot : FnScope ["value", "most", "least", "one"] ["value", "most", "least"] (defScope s_is_lot) := ⟨rfl, rfl, rfl, by decide +kernel, rfl, by decide +kernel, by decide +kernel⟩
theorem sb_is_lot (T : Txt K mg) (c_is_number : Cal P w K mg base "is_number" ["value", "least", "most"] 2 false g_is_number []) {f : Addr} (cdv : Value) (A : Around) (outer : List Env) (s : Shared) (H : Hp) (E : XK) (hr : Room 2 (A.deeper (envOfC "is_lot" (defScope s_is_lot) s.heap.objs.size f cdv))) :
    SB (fun _ : Unit => (cxOf CX0 P w K mg base ["value", "most", "least", "one"] "is_lot" (defScope s_is_lot) f cdv A outer s H E).nox) K WW0 (defBody s_is_lot) b_is_lot := by
  obtain ⟨f_c_is_number, fd_c_is_number, G_c_is_number, m_c_is_number, k_c_is_number, b_c_is_number⟩ := c_is_number.ex
  have nd := (sc_is_lot).nd
  exact sb_cons (ss_if (st_not (st_val (sv_of (se_isi (so_var (i := 0) (fun _ => pv 0)) (fun _ => pe_bltn (by rfl) T.tuple boot_tuple rfl) kit_tuple (fun _ => rfl) (fun _ => rfl) (fun _ h z => pe_callB call_isi (by rfl) T.isinstance boot_isinstance (h z)))))) (sb_one (ss_ret (se_c (d := .bool false) (fun _ => pe_bl) (fun _ => .bl _)))) (sb_nil))
    (sb_cons (ss_for (fun _ => PassesOwn.never) (fun _ => rfl) (si_val (fun _ => rfl) (sv_of (se_var (i := 0) (fun _ => pv 0)))) (sg_name (i := 3) (fun _ => pg_name (i := 3) nd rfl (Or.inl rfl))) (sb_cons (ss_if (st_not (st_val (sv_of (se_call (dvs := []) (dd := []) (np := 3) (sav_cons (sv_of (se_var (i := 3) (fun _ => pv 3))) (sav_cons (sv_of (se_var (i := 2) (fun _ => pv 2))) (sav_cons (sv_of (se_var (i := 1) (fun _ => pv 1))) (sav_nil)))) rfl (fun _ => .nil) (fun _ h z => pe_call G_c_is_number (hr.mono (by omega)) (by rfl) m_c_is_number k_c_is_number b_c_is_number .nil pass0 (h z)))))) (sb_one (ss_ret (se_c (d := .bool false) (fun _ => pe_bl) (fun _ => .bl _)))) (sb_nil))
    (sb_one (ss_set (i := 2) (se_op2 (so_var (i := 3) (fun _ => pv 3)) (so_ex (sv_of (se_c (d := .int 1) (fun _ => pe_int) (fun _ => .int _)))) (fun _ _ ha hb z => pe_op op_addD (ha z) (hb z)) prim_add) (fun _ h z => ps_set nd rfl (Or.inl rfl) (h z))))))
    (sb_one (ss_ret (se_c (d := .bool true) (fun _ => pe_bl) (fun _ => .bl _)))))
theorem ok_is_lot (T : Txt K mg) (c_is_number : Cal P w K mg base "is_number" ["value", "least", "most"] 2 false g_is_number []) {f : Addr} {fd : FuncData} (F : FunD K "is_lot" "is_lot" (defArgs s_is_lot) (defBody s_is_lot) (defScope s_is_lot) [.non, .int 0] [] f fd) : FnOk P w K mg base CX0 3 f fd ["value", "most", "least"] (spF K false 3 g_is_lot) :=
  fn_okD false F sc_is_lot (by decide) fun cdv A outer s H E hr => sb_is_lot T c_is_number cdv A outer s H E hr
theorem sc_common_of : FnScope ["one", "two", "entry"] ["one", "two"] (defScope s_common_of) := ⟨rfl, rfl, rfl, by decide +kernel, rfl, by decide +kernel, by decide +kernel⟩
theorem sb_common_of (T : Txt K mg) {f : Addr} (cdv : Value) (A : Around) (outer : List Env) (s : Shared) (H : Hp) (E : XK) (hr : Room 0 (A.deeper (envOfC "common_of" (defScope s_common_of) s.heap.objs.size f cdv))) :
    SB (fun _ : Unit => (cxOf CX0 P w K mg base ["one", "two", "entry"] "common_of" (defScope s_common_of) f cdv A outer s H E).nox) K WW0 (defBody s_common_of) b_common_of := by
  have nd := (sc_common_of).nd
  exact sb_one (ss_ret (se_prim (sa_cons (so_ex (sv_of (se_comp (own := [("entry", 2)]) (fun _ => rfl) (fun _ => nd) (si_val (fun _ => rfl) (sv_of (se_var (i := 0) (fun _ => pv 0)))) (fun _ => blkOk_by (by kernel_rfl)) (sg_name (i := 2) (fun _ => pg_name (i := 2) nd rfl (Or.inl rfl))) (by decide) (sts_one (st_op2 (so_var (i := 2) (fun _ => pv 2)) (so_var (i := 1) (fun _ => pv 1)) (fun _ _ ha hb z => pt_cmpR (op_inP hr.units) (ha z) (hb z) (by with_unfolding_all rfl)) prim_rd2)) (sv_of (se_var (i := 2) (fun _ => pv 2)))))) (sa_nil)) (fun _ h z => pe_callTy call_tuple_of (by rfl) T.tuple boot_tuple (h z)) prim_tuple))
theorem ok_common_of (T : Txt K mg) {f : Addr} {fd : FuncData} (F : Fun K "common_of" "common_of" s_common_of f fd) : FnOk P w K mg base CX0 1 f fd ["one", "two"] (spF K false 2 g_common_of) :=
  fn_ok false F sc_common_of (by decide) fun cdv A outer s H E hr => sb_common_of T  cdv A outer s H E hr
theorem sc_joined_lots : FnScope ["lots", "found", "lot", "entry"] ["lots"] (defScope s_joined_lots) := ⟨rfl, rfl, rfl, by decide +kernel, rfl, by decide +kernel, by decide +kernel⟩
theorem sb_joined_lots (T : Txt K mg) {f : Addr} (cdv : Value) (A : Around) (outer : List Env) (s : Shared) (H : Hp) (E : XK) (hr : Room 0 (A.deeper (envOfC "joined_lots" (defScope s_joined_lots) s.heap.objs.size f cdv))) :
    SB (fun _ : Unit => (cxOf CX0 P w K mg base ["lots", "found", "lot", "entry"] "joined_lots" (defScope s_joined_lots) f cdv A outer s H E).nox) K WW0 (defBody s_joined_lots) b_joined_lots := by
  have nd := (sc_joined_lots).nd
  exact sb_cons (ss_set (i := 1) (se_newD) (fun _ h z => ps_set nd rfl (Or.inl rfl) (h z)))
    (sb_cons (ss_for (fun _ => PassesOwn.never) (fun _ => rfl) (si_val (fun _ => rfl) (sv_of (se_var (i := 0) (fun _ => pv 0)))) (sg_name (i := 2) (fun _ => pg_name (i := 2) nd rfl (Or.inl rfl))) (sb_one (ss_for (fun _ => PassesOwn.never) (fun _ => rfl) (si_val (fun _ => rfl) (sv_of (se_var (i := 2) (fun _ => pv 2)))) (sg_name (i := 3) (fun _ => pg_name (i := 3) nd rfl (Or.inl rfl))) (sb_one (ss_dput (i := 1) (sv_of (se_c (d := .bool true) (fun _ => pe_bl) (fun _ => .bl _))) (sv_of (se_var (i := 3) (fun _ => pv 3))) (fun _ _ h1 h2 z => ps_dput (hu_of hr) (pv 1) (h2 z) (h1 z) rfl))))))
    (sb_one (ss_ret (se_prim (sa_cons (so_ex (sv_of (se_prim (sa_cons (so_ex (sv_of (se_dlist (i := 1) (fun _ => pv 1) (fun _ => rfl) (fun _ h z => pe_callTy (call_list_dK rfl) (by rfl) T.list boot_list (h z))))) (sa_nil)) (fun _ h z => pe_callB (cr_sortP hr.units) (by rfl) T.sorted boot_sorted (h z)) prim_sorted))) (sa_nil)) (fun _ h z => pe_callTy call_tuple_of (by rfl) T.tuple boot_tuple (h z)) prim_tuple))))
theorem ok_joined_lots (T : Txt K mg) {f : Addr} {fd : FuncData} (F : Fun K "joined_lots" "joined_lots" s_joined_lots f fd) : FnOk P w K mg base CX0 1 f fd ["lots"] (spF K false 1 g_joined_lots) :=
  fn_ok false F sc_joined_lots (by decide) fun cdv A outer s H E hr => sb_joined_lots T  cdv A outer s H E hr
theorem sc_family_things : FnScope ["family"] ["family"] (defScope s_family_things) := ⟨rfl, rfl, rfl, by decide +kernel, rfl, by decide +kernel, by decide +kernel⟩
theorem sb_family_things (T : Txt K mg) (c_joined_lots : Cal P w K mg base "joined_lots" ["lots"] 1 false g_joined_lots []) {f : Addr} (cdv : Value) (A : Around) (outer : List Env) (s : Shared) (H : Hp) (E : XK) (hr : Room 1 (A.deeper (envOfC "family_things" (defScope s_family_things) s.heap.objs.size f cdv))) :
    SB (fun _ : Unit => (cxOf CX0 P w K mg base ["family"] "family_things" (defScope s_family_things) f cdv A outer s H E).nox) K WW0 (defBody s_family_things) b_family_things := by
  obtain ⟨f_c_joined_lots, fd_c_joined_lots, G_c_joined_lots, m_c_joined_lots, k_c_joined_lots, b_c_joined_lots⟩ := c_joined_lots.ex
  have nd := (sc_family_things).nd
  exact sb_one (ss_ret (se_prim (sa_cons (so_ex (sv_of (se_call (dvs := []) (dd := []) (np := 1) (sav_cons (sv_of (se_var (i := 0) (fun _ => pv 0))) (sav_nil)) rfl (fun _ => .nil) (fun _ h z => pe_call G_c_joined_lots (hr.mono (by omega)) (by rfl) m_c_joined_lots k_c_joined_lots b_c_joined_lots .nil pass0 (h z))))) (sa_nil)) (fun _ h z => pe_callB call_len (by rfl) T.len boot_len (h z)) prim_len))
theorem ok_family_things (T : Txt K mg) (c_joined_lots : Cal P w K mg base "joined_lots" ["lots"] 1 false g_joined_lots []) {f : Addr} {fd : FuncData} (F : Fun K "family_things" "family_things" s_family_things f fd) : FnOk P w K mg base CX0 2 f fd ["family"] (spF K false 1 g_family_things) :=
  fn_ok false F sc_family_things (by decide) fun cdv A outer s H E hr => sb_family_things T c_joined_lots cdv A outer s H E hr
theorem sc_term_rows : FnScope ["term", "rows", "stack", "one", "ahead", "number"] ["term"] (defScope s_term_rows) := ⟨rfl, rfl, rfl, by decide +kernel, rfl, by decide +kernel, by decide +kernel⟩
theorem sb_term_rows (T : Txt K mg) (c_is_number_2 : ∃ ds, Vals [.int 0, .non] ds ∧ Cal P w K mg base "is_number" ["value", "least", "most"] 2 false g_is_number ds) (c_joined_lots : Cal P w K mg base "joined_lots" ["lots"] 1 false g_joined_lots []) {f : Addr} (cdv : Value) (A : Around) (outer : List Env) (s : Shared) (H : Hp) (E : XK) (hr : Room 2 (A.deeper (envOfC "term_rows" (defScope s_term_rows) s.heap.objs.size f cdv))) :
    SB (fun _ : Unit => (cxOf CX0 P w K mg base ["term", "rows", "stack", "one", "ahead", "number"] "term_rows" (defScope s_term_rows) f cdv A outer s H E).nox) K WW0 (defBody s_term_rows) b_term_rows := by
  obtain ⟨_, r_c_is_number_2, h_c_is_number_2⟩ := c_is_number_2
  obtain ⟨f_c_is_number_2, fd_c_is_number_2, G_c_is_number_2, m_c_is_number_2, k_c_is_number_2, b_c_is_number_2⟩ := h_c_is_number_2.ex
  obtain ⟨f_c_joined_lots, fd_c_joined_lots, G_c_joined_lots, m_c_joined_lots, k_c_joined_lots, b_c_joined_lots⟩ := c_joined_lots.ex
  have nd := (sc_term_rows).nd
  exact sb_cons (ss_initC (i := 1) (j := 2) true (by decide) (se_lst (sav_nil)) (sar_cons (se_val (sv_of (se_var (i := 0) (fun _ => pv 0)))) (sar_cons (se_lst (sav_nil)) (sar_nil))) (fun _ h z => pe_tup (h z)) (fun _ h z => ps_asg (pe_tup (h z)) (pg_tup rfl (pgs_cons (pg_name (i := 1) nd rfl (Or.inr rfl)) (pgs_cons (pg_name (i := 2) nd rfl (Or.inl rfl)) pgs_nil)))))
    (sb_cons (ss_while (fun _ => PassesOwn.never) (st_op2 (so_ex (sv_of (se_lenS (j := 2) (fun _ => pv 2) (fun _ => rfl) (fun _ h z => pe_callB call_len (by rfl) T.len boot_len (h z))))) (so_ex (sv_of (se_c (d := .int 0) (fun _ => pe_int) (fun _ => .int _)))) (fun _ _ ha hb z => pt_cmpR (op_gtD hr.units) (ha z) (hb z) (nomark _)) prim_rd2) (sb_cons (ss_borrow (is := [3]) (ia := 4) (j := 2) (by decide) (by decide) (fun _ => pv 2) (sv_of (se_op1 (so_ex (sv_of (se_c (d := .int 1) (fun _ => pe_int) (fun _ => .int _)))) (fun _ h z => pe_un un_neg (h z)) prim_neg)) (fun _ _ ha hb z => ps_asg (pe_ix ix_seq (ha z) (hb z) (fun _ _ => rfl)) (pg_any (pg_tup rfl (pgs_cons (pg_name (i := 3) nd rfl (Or.inl rfl)) (pgs_cons (pg_name (i := 4) nd rfl (Or.inl rfl)) pgs_nil))) (pg_unl rfl (pgs_cons (pg_name (i := 3) nd rfl (Or.inl rfl)) (pgs_cons (pg_name (i := 4) nd rfl (Or.inl rfl)) pgs_nil))))))
    (sb_one (ss_if (SW.st (sw_and (st_not (st_val (sv_of (se_call (dvs := [.int 0, .non]) (dd := [.int 0, .none]) (np := 3) (sav_cons (sv_of (se_var (i := 3) (fun _ => pv 3))) (sav_nil)) rfl (fun _ => (.cons (.int _) (.cons .non .nil))) (fun _ h z => pe_call G_c_is_number_2 (hr.mono (by omega)) (by rfl) m_c_is_number_2 k_c_is_number_2 b_c_is_number_2 r_c_is_number_2 pass0 (h z)))))) (sw_and1 (st_op2 (so_ex (sv_of (se_prim (sa_cons (so_var (i := 4) (fun _ => pv 4)) (sa_nil)) (fun _ h z => pe_callB call_len (by rfl) T.len boot_len (h z)) prim_len))) (so_ex (sv_of (se_prim (sa_cons (so_ex (sv_of (se_op2 (so_var (i := 3) (fun _ => pv 3)) (so_ex (sv_of (se_c (d := .int 1) (fun _ => pe_int) (fun _ => .int _)))) (fun _ _ ha hb z => pe_ix ix_seq (ha z) (hb z) (fun _ _ => rfl)) prim_ix))) (sa_nil)) (fun _ h z => pe_callB call_len (by rfl) T.len boot_len (h z)) prim_len))) (fun _ _ ha hb z => pt_cmpR (op_ltD hr.units) (ha z) (hb z) (nomark _)) prim_rd2)))) (sb_one (ss_push (j := 2) true (sar_cons (se_val (sv_of (se_op2 (so_ex (sv_of (se_op2 (so_var (i := 3) (fun _ => pv 3)) (so_ex (sv_of (se_c (d := .int 1) (fun _ => pe_int) (fun _ => .int _)))) (fun _ _ ha hb z => pe_ix ix_seq (ha z) (hb z) (fun _ _ => rfl)) prim_ix))) (so_ex (sv_of (se_prim (sa_cons (so_var (i := 4) (fun _ => pv 4)) (sa_nil)) (fun _ h z => pe_callB call_len (by rfl) T.len boot_len (h z)) prim_len))) (fun _ _ ha hb z => pe_ix ix_seq (ha z) (hb z) (fun _ _ => rfl)) prim_ix))) (sar_cons (se_lst (sav_nil)) (sar_nil))) (fun _ h z => pe_tup (h z)) (fun _ h z => pe_bm PySem.F.plainAttrs_list PySem.F.slot_list_append PySem.F.type_list_append mt_append (pv 2) (h z)))) (sb_cons (ss_if (st_val (sv_of (se_call (dvs := [.int 0, .non]) (dd := [.int 0, .none]) (np := 3) (sav_cons (sv_of (se_var (i := 3) (fun _ => pv 3))) (sav_nil)) rfl (fun _ => (.cons (.int _) (.cons .non .nil))) (fun _ h z => pe_call G_c_is_number_2 (hr.mono (by omega)) (by rfl) m_c_is_number_2 k_c_is_number_2 b_c_is_number_2 r_c_is_number_2 pass0 (h z))))) (sb_one (ss_drop (se_meth (i := 1) (sav_cons (sv_of (se_tup (sav_cons (sv_of (se_c (d := .none) (fun _ => pe_non) (fun _ => .non))) (sav_cons (sv_of (se_tup (sav_nil))) (sav_cons (sv_of (se_tup (sav_cons (sv_of (se_var (i := 3) (fun _ => pv 3))) (sav_nil)))) (sav_nil)))))) (sav_nil)) (fun _ h z => pe_bm PySem.F.plainAttrs_list PySem.F.slot_list_append PySem.F.type_list_append mt_append (pv 1) (h z)) prim_append))) (sb_one (ss_drop (se_meth (i := 1) (sav_cons (sv_of (se_tup (sav_cons (sv_of (se_op2 (so_var (i := 3) (fun _ => pv 3)) (so_ex (sv_of (se_c (d := .int 0) (fun _ => pe_int) (fun _ => .int _)))) (fun _ _ ha hb z => pe_ix ix_seq (ha z) (hb z) (fun _ _ => rfl)) prim_ix)) (sav_cons (sv_of (se_prim (sa_cons (so_var (i := 4) (fun _ => pv 4)) (sa_nil)) (fun _ h z => pe_callTy call_tuple_of (by rfl) T.tuple boot_tuple (h z)) prim_tuple)) (sav_cons (sv_of (se_call (dvs := []) (dd := []) (np := 1) (sav_cons (sv_of (se_comp (own := [("number", 5)]) (fun _ => rfl) (fun _ => nd) (si_val (fun _ => rfl) (sv_of (se_var (i := 4) (fun _ => pv 4)))) (fun _ => blkOk_by (by kernel_rfl)) (sg_name (i := 5) (fun _ => pg_name (i := 5) nd rfl (Or.inl rfl))) (by decide) (sts_nil) (sv_of (se_op2 (so_ex (sv_of (se_op2 (so_var (i := 1) (fun _ => pv 1)) (so_var (i := 5) (fun _ => pv 5)) (fun _ _ ha hb z => pe_ix ix_seq (ha z) (hb z) (fun _ _ => rfl)) prim_ix))) (so_ex (sv_of (se_c (d := .int 2) (fun _ => pe_int) (fun _ => .int _)))) (fun _ _ ha hb z => pe_ix ix_seq (ha z) (hb z) (fun _ _ => rfl)) prim_ix)))) (sav_nil)) rfl (fun _ => .nil) (fun _ h z => pe_call G_c_joined_lots (hr.mono (by omega)) (by rfl) m_c_joined_lots k_c_joined_lots b_c_joined_lots .nil pass0 (h z)))) (sav_nil)))))) (sav_nil)) (fun _ h z => pe_bm PySem.F.plainAttrs_list PySem.F.slot_list_append PySem.F.type_list_append mt_append (pv 1) (h z)) prim_append))))
    (sb_cons (ss_popS (j := 2) (fun z => pe_bm0 PySem.F.plainAttrs_list PySem.F.slot_list_pop PySem.F.type_list_pop mt_pop (pv 2)))
    (sb_one (ss_if (st_op2 (so_ex (sv_of (se_lenS (j := 2) (fun _ => pv 2) (fun _ => rfl) (fun _ h z => pe_callB call_len (by rfl) T.len boot_len (h z))))) (so_ex (sv_of (se_c (d := .int 0) (fun _ => pe_int) (fun _ => .int _)))) (fun _ _ ha hb z => pt_cmpR (op_gtD hr.units) (ha z) (hb z) (nomark _)) prim_rd2) (sb_one (ss_topApp (j := 2) (fun _ => pv 2) (sv_of (se_op1 (so_ex (sv_of (se_c (d := .int 1) (fun _ => pe_int) (fun _ => .int _)))) (fun _ h z => pe_un un_neg (h z)) prim_neg)) (sv_of (se_c (d := .int 1) (fun _ => pe_int) (fun _ => .int _))) (sv_of (se_op2 (so_ex (sv_of (se_prim (sa_cons (so_var (i := 1) (fun _ => pv 1)) (sa_nil)) (fun _ h z => pe_callB call_len (by rfl) T.len boot_len (h z)) prim_len))) (so_ex (sv_of (se_c (d := .int 1) (fun _ => pe_int) (fun _ => .int _)))) (fun _ _ ha hb z => pe_op op_sub (ha z) (hb z)) prim_sub)) (fun _ _ _ _ ha hb hc h z => pe_bm PySem.F.plainAttrs_list PySem.F.slot_list_append PySem.F.type_list_append mt_append (pe_ix ix_seq (pe_ix ix_seq (ha z) (hb z) (fun _ _ => rfl)) (hc z) (fun _ _ => rfl)) (h z)))) (sb_nil)))))))))
    (sb_one (ss_ret (se_prim (sa_cons (so_var (i := 1) (fun _ => pv 1)) (sa_nil)) (fun _ h z => pe_callTy call_tuple_of (by rfl) T.tuple boot_tuple (h z)) prim_tuple))))
theorem ok_term_rows (T : Txt K mg) (c_is_number_2 : ∃ ds, Vals [.int 0, .non] ds ∧ Cal P w K mg base "is_number" ["value", "least", "most"] 2 false g_is_number ds) (c_joined_lots : Cal P w K mg base "joined_lots" ["lots"] 1 false g_joined_lots []) {f : Addr} {fd : FuncData} (F : Fun K "term_rows" "term_rows" s_term_rows f fd) : FnOk P w K mg base CX0 3 f fd ["term"] (spF K false 1 g_term_rows) :=
  fn_ok false F sc_term_rows (by decide) fun cdv A outer s H E hr => sb_term_rows T c_is_number_2 c_joined_lots cdv A outer s H E hr
theorem sc_part_cut : FnScope ["row", "widths", "told", "kind", "numbers", "things", "number"] ["row", "widths", "told"] (defScope s_part_cut) := ⟨rfl, rfl, rfl, by decide +kernel, rfl, by decide +kernel, by decide +kernel⟩
theorem sb_part_cut (T : Txt K mg) (c_joined_lots : Cal P w K mg base "joined_lots" ["lots"] 1 false g_joined_lots []) {f : Addr} (cdv : Value) (A : Around) (outer : List Env) (s : Shared) (H : Hp) (E : XK) (hr : Room 1 (A.deeper (envOfC "part_cut" (defScope s_part_cut) s.heap.objs.size f cdv))) :
    SB (fun _ : Unit => (cxOf CX0 P w K mg base ["row", "widths", "told", "kind", "numbers", "things", "number"] "part_cut" (defScope s_part_cut) f cdv A outer s H E).nox) K WW0 (defBody s_part_cut) b_part_cut := by
  obtain ⟨f_c_joined_lots, fd_c_joined_lots, G_c_joined_lots, m_c_joined_lots, k_c_joined_lots, b_c_joined_lots⟩ := c_joined_lots.ex
  obtain ⟨u_ROW, m_ROW, r_ROW⟩ := T.c_ROW
  have nd := (sc_part_cut).nd
  exact sb_cons (ss_unp (is := [3, 4, 5]) (sv_of (se_var (i := 0) (fun _ => pv 0))) (fun _ h z => ps_asg (h z) (pg_tup rfl (pgs_cons (pg_name (i := 3) nd rfl (Or.inl rfl)) (pgs_cons (pg_name (i := 4) nd rfl (Or.inl rfl)) (pgs_cons (pg_name (i := 5) nd rfl (Or.inl rfl)) pgs_nil))))))
    (sb_cons (ss_if (st_op2 (so_var (i := 3) (fun _ => pv 3)) (so_ex (sv_of (se_c (d := .none) (fun _ => pe_non) (fun _ => .non)))) (fun _ _ ha hb z => pt_cmpR op_isN (ha z) (hb z) (nomark _)) prim_isN) (sb_one (ss_ret (se_tup (sav_cons (sv_of (se_op2 (so_var (i := 1) (fun _ => pv 1)) (so_ex (sv_of (se_op2 (so_var (i := 5) (fun _ => pv 5)) (so_ex (sv_of (se_c (d := .int 0) (fun _ => pe_int) (fun _ => .int _)))) (fun _ _ ha hb z => pe_ix ix_seq (ha z) (hb z) (fun _ _ => rfl)) prim_ix))) (fun _ _ ha hb z => pe_ix ix_seq (ha z) (hb z) (fun _ _ => rfl)) prim_ix)) (sav_cons (sv_of (se_var (i := 5) (fun _ => pv 5))) (sav_nil)))))) (sb_nil))
    (sb_cons (ss_if (st_op2 (so_var (i := 3) (fun _ => pv 3)) (so_ex (sv_of (se_c (d := .str "row") (fun _ => pe_glob (by rfl) m_ROW r_ROW) (fun _ => .str _)))) (fun _ _ ha hb z => pt_cmpR (op_eqP hr.units) (ha z) (hb z) (nomark _)) prim_rd2) (sb_one (ss_ret (se_prim (sa_cons (so_ex (sv_of (se_comp (own := [("number", 6)]) (fun _ => rfl) (fun _ => nd) (si_val (fun _ => rfl) (sv_of (se_var (i := 4) (fun _ => pv 4)))) (fun _ => blkOk_by (by kernel_rfl)) (sg_name (i := 6) (fun _ => pg_name (i := 6) nd rfl (Or.inl rfl))) (by decide) (sts_nil) (sv_of (se_op2 (so_var (i := 2) (fun _ => pv 2)) (so_var (i := 6) (fun _ => pv 6)) (fun _ _ ha hb z => pe_ix ix_seq (ha z) (hb z) (fun _ _ => rfl)) prim_ix))))) (sa_nil)) (fun _ h z => pe_callB (cr_minA rfl hr.units) (by rfl) T.min boot_min (h z)) prim_minA))) (sb_nil))
    (sb_one (ss_ret (se_tup (sav_cons (sv_of (se_prim (sa_cons (so_ex (sv_of (se_comp (own := [("number", 6)]) (fun _ => rfl) (fun _ => nd) (si_val (fun _ => rfl) (sv_of (se_var (i := 4) (fun _ => pv 4)))) (fun _ => blkOk_by (by kernel_rfl)) (sg_name (i := 6) (fun _ => pg_name (i := 6) nd rfl (Or.inl rfl))) (by decide) (sts_nil) (sv_of (se_op2 (so_ex (sv_of (se_op2 (so_var (i := 2) (fun _ => pv 2)) (so_var (i := 6) (fun _ => pv 6)) (fun _ _ ha hb z => pe_ix ix_seq (ha z) (hb z) (fun _ _ => rfl)) prim_ix))) (so_ex (sv_of (se_c (d := .int 0) (fun _ => pe_int) (fun _ => .int _)))) (fun _ _ ha hb z => pe_ix ix_seq (ha z) (hb z) (fun _ _ => rfl)) prim_ix))))) (sa_nil)) (fun _ h z => pe_callB (cr_sum rfl) (by rfl) T.sum boot_sum (h z)) prim_sum)) (sav_cons (sv_of (se_call (dvs := []) (dd := []) (np := 1) (sav_cons (sv_of (se_comp (own := [("number", 6)]) (fun _ => rfl) (fun _ => nd) (si_val (fun _ => rfl) (sv_of (se_var (i := 4) (fun _ => pv 4)))) (fun _ => blkOk_by (by kernel_rfl)) (sg_name (i := 6) (fun _ => pg_name (i := 6) nd rfl (Or.inl rfl))) (by decide) (sts_nil) (sv_of (se_op2 (so_ex (sv_of (se_op2 (so_var (i := 2) (fun _ => pv 2)) (so_var (i := 6) (fun _ => pv 6)) (fun _ _ ha hb z => pe_ix ix_seq (ha z) (hb z) (fun _ _ => rfl)) prim_ix))) (so_ex (sv_of (se_c (d := .int 1) (fun _ => pe_int) (fun _ => .int _)))) (fun _ _ ha hb z => pe_ix ix_seq (ha z) (hb z) (fun _ _ => rfl)) prim_ix)))) (sav_nil)) rfl (fun _ => .nil) (fun _ h z => pe_call G_c_joined_lots (hr.mono (by omega)) (by rfl) m_c_joined_lots k_c_joined_lots b_c_joined_lots .nil pass0 (h z)))) (sav_nil))))))))
theorem ok_part_cut (T : Txt K mg) (c_joined_lots : Cal P w K mg base "joined_lots" ["lots"] 1 false g_joined_lots []) {f : Addr} {fd : FuncData} (F : Fun K "part_cut" "part_cut" s_part_cut f fd) : FnOk P w K mg base CX0 2 f fd ["row", "widths", "told"] (spL K 3 g_part_cut) :=
  fn_okL F sc_part_cut (by decide) fun cdv A outer s H E hr => sb_part_cut T c_joined_lots cdv A outer s H E hr
theorem sc_wide_cut : FnScope ["term", "widths", "told", "row"] ["term", "widths"] (defScope s_wide_cut) := ⟨rfl, rfl, rfl, by decide +kernel, rfl, by decide +kernel, by decide +kernel⟩
theorem sb_wide_cut (T : Txt K mg) (c_part_cut : CalL P w K mg base "part_cut" ["row", "widths", "told"] 2 g_part_cut) (c_term_rows : Cal P w K mg base "term_rows" ["term"] 3 false g_term_rows []) {f : Addr} (cdv : Value) (A : Around) (outer : List Env) (s : Shared) (H : Hp) (E : XK) (hr : Room 3 (A.deeper (envOfC "wide_cut" (defScope s_wide_cut) s.heap.objs.size f cdv))) :
    SB (fun _ : Unit => (cxOf CX0 P w K mg base ["term", "widths", "told", "row"] "wide_cut" (defScope s_wide_cut) f cdv A outer s H E).nox) K WW0 (defBody s_wide_cut) b_wide_cut := by
  obtain ⟨f_c_part_cut, fd_c_part_cut, G_c_part_cut, m_c_part_cut, k_c_part_cut, b_c_part_cut⟩ := c_part_cut.ex
  obtain ⟨f_c_term_rows, fd_c_term_rows, G_c_term_rows, m_c_term_rows, k_c_term_rows, b_c_term_rows⟩ := c_term_rows.ex
  have nd := (sc_wide_cut).nd
  exact sb_cons (ss_set (i := 2) (se_lst (sav_nil)) (fun _ h z => ps_set nd rfl (Or.inl rfl) (h z)))
    (sb_cons (ss_for (fun _ => PassesOwn.never) (fun _ => rfl) (si_val (fun _ => rfl) (sv_of (se_call (dvs := []) (dd := []) (np := 1) (sav_cons (sv_of (se_var (i := 0) (fun _ => pv 0))) (sav_nil)) rfl (fun _ => .nil) (fun _ h z => pe_call G_c_term_rows (hr.mono (by omega)) (by rfl) m_c_term_rows k_c_term_rows b_c_term_rows .nil pass0 (h z))))) (sg_name (i := 3) (fun _ => pg_name (i := 3) nd rfl (Or.inl rfl))) (sb_one (ss_drop (se_meth (i := 2) (sav_cons (sv_of (se_callL (i := 2) (np := 3) (sal_cons (sv_of (se_var (i := 3) (fun _ => pv 3))) (sal_cons (sv_of (se_var (i := 1) (fun _ => pv 1))) (sal_one (fun _ => pv 2)))) rfl (fun _ h z => pe_call G_c_part_cut (hr.mono (by omega)) (by rfl) m_c_part_cut k_c_part_cut b_c_part_cut .nil pass0 (h z)))) (sav_nil)) (fun _ h z => pe_bm PySem.F.plainAttrs_list PySem.F.slot_list_append PySem.F.type_list_append mt_append (pv 2) (h z)) prim_append))))
    (sb_one (ss_ret (se_op2 (so_var (i := 2) (fun _ => pv 2)) (so_ex (sv_of (se_op1 (so_ex (sv_of (se_c (d := .int 1) (fun _ => pe_int) (fun _ => .int _)))) (fun _ h z => pe_un un_neg (h z)) prim_neg))) (fun _ _ ha hb z => pe_ix ix_seq (ha z) (hb z) (fun _ _ => rfl)) prim_ix))))
theorem ok_wide_cut (T : Txt K mg) (c_part_cut : CalL P w K mg base "part_cut" ["row", "widths", "told"] 2 g_part_cut) (c_term_rows : Cal P w K mg base "term_rows" ["term"] 3 false g_term_rows []) {f : Addr} {fd : FuncData} (F : Fun K "wide_cut" "wide_cut" s_wide_cut f fd) : FnOk P w K mg base CX0 4 f fd ["term", "widths"] (spF K false 2 g_wide_cut) :=
  fn_ok false F sc_wide_cut (by decide) fun cdv A outer s H E hr => sb_wide_cut T c_part_cut c_term_rows cdv A outer s H E hr
theorem sc_cut_serves : FnScope ["family", "widths", "told", "way", "thing"] ["family", "widths", "told"] (defScope s_cut_serves) := ⟨rfl, rfl, rfl, by decide +kernel, rfl, by decide +kernel, by decide +kernel⟩
theorem sb_cut_serves (T : Txt K mg) (c_common_of : Cal P w K mg base "common_of" ["one", "two"] 1 false g_common_of []) (c_family_things : Cal P w K mg base "family_things" ["family"] 2 false g_family_things []) (c_is_lot_1 : ∃ ds, Vals [.int 0] ds ∧ Cal P w K mg base "is_lot" ["value", "most", "least"] 3 false g_is_lot ds) (c_is_number_2 : ∃ ds, Vals [.int 0, .non] ds ∧ Cal P w K mg base "is_number" ["value", "least", "most"] 2 false g_is_number ds) (c_is_tuple : Cal P w K mg base "is_tuple" ["value", "many"] 1 false g_is_tuple []) {f : Addr} (cdv : Value) (A : Around) (outer : List Env) (s : Shared) (H : Hp) (E : XK) (hr : Room 3 (A.deeper (envOfC "cut_serves" (defScope s_cut_serves) s.heap.objs.size f cdv))) :
    SB (fun _ : Unit => (cxOf CX0 P w K mg base ["family", "widths", "told", "way", "thing"] "cut_serves" (defScope s_cut_serves) f cdv A outer s H E).nox) K WW0 (defBody s_cut_serves) b_cut_serves := by
  obtain ⟨f_c_common_of, fd_c_common_of, G_c_common_of, m_c_common_of, k_c_common_of, b_c_common_of⟩ := c_common_of.ex
  obtain ⟨f_c_family_things, fd_c_family_things, G_c_family_things, m_c_family_things, k_c_family_things, b_c_family_things⟩ := c_family_things.ex
  obtain ⟨_, r_c_is_lot_1, h_c_is_lot_1⟩ := c_is_lot_1
  obtain ⟨f_c_is_lot_1, fd_c_is_lot_1, G_c_is_lot_1, m_c_is_lot_1, k_c_is_lot_1, b_c_is_lot_1⟩ := h_c_is_lot_1.ex
  obtain ⟨_, r_c_is_number_2, h_c_is_number_2⟩ := c_is_number_2
  obtain ⟨f_c_is_number_2, fd_c_is_number_2, G_c_is_number_2, m_c_is_number_2, k_c_is_number_2, b_c_is_number_2⟩ := h_c_is_number_2.ex
  obtain ⟨f_c_is_tuple, fd_c_is_tuple, G_c_is_tuple, m_c_is_tuple, k_c_is_tuple, b_c_is_tuple⟩ := c_is_tuple.ex
  have nd := (sc_cut_serves).nd
  exact sb_cons (ss_if (SW.st (sw_or (st_not (st_val (sv_of (se_call (dvs := []) (dd := []) (np := 2) (sav_cons (sv_of (se_var (i := 2) (fun _ => pv 2))) (sav_cons (sv_of (se_c (d := .int 2) (fun _ => pe_int) (fun _ => .int _))) (sav_nil))) rfl (fun _ => .nil) (fun _ h z => pe_call G_c_is_tuple (hr.mono (by omega)) (by rfl) m_c_is_tuple k_c_is_tuple b_c_is_tuple .nil pass0 (h z)))))) (sw_or (st_not (st_val (sv_of (se_call (dvs := [.int 0, .non]) (dd := [.int 0, .none]) (np := 3) (sav_cons (sv_of (se_op2 (so_var (i := 2) (fun _ => pv 2)) (so_ex (sv_of (se_c (d := .int 0) (fun _ => pe_int) (fun _ => .int _)))) (fun _ _ ha hb z => pe_ix ix_seq (ha z) (hb z) (fun _ _ => rfl)) prim_ix)) (sav_nil)) rfl (fun _ => (.cons (.int _) (.cons .non .nil))) (fun _ h z => pe_call G_c_is_number_2 (hr.mono (by omega)) (by rfl) m_c_is_number_2 k_c_is_number_2 b_c_is_number_2 r_c_is_number_2 pass0 (h z)))))) (sw_or1 (st_not (st_val (sv_of (se_call (dvs := [.int 0]) (dd := [.int 0]) (np := 3) (sav_cons (sv_of (se_op2 (so_var (i := 2) (fun _ => pv 2)) (so_ex (sv_of (se_c (d := .int 1) (fun _ => pe_int) (fun _ => .int _)))) (fun _ _ ha hb z => pe_ix ix_seq (ha z) (hb z) (fun _ _ => rfl)) prim_ix)) (sav_cons (sv_of (se_op2 (so_ex (sv_of (se_call (dvs := []) (dd := []) (np := 1) (sav_cons (sv_of (se_var (i := 0) (fun _ => pv 0))) (sav_nil)) rfl (fun _ => .nil) (fun _ h z => pe_call G_c_family_things (hr.mono (by omega)) (by rfl) m_c_family_things k_c_family_things b_c_family_things .nil pass0 (h z))))) (so_ex (sv_of (se_c (d := .int 1) (fun _ => pe_int) (fun _ => .int _)))) (fun _ _ ha hb z => pe_op op_sub (ha z) (hb z)) prim_sub)) (sav_nil))) rfl (fun _ => (.cons (.int _) .nil)) (fun _ h z => pe_call G_c_is_lot_1 (hr.mono (by omega)) (by rfl) m_c_is_lot_1 k_c_is_lot_1 b_c_is_lot_1 r_c_is_lot_1 pass0 (h z)))))))))) (sb_one (ss_ret (se_c (d := .bool false) (fun _ => pe_bl) (fun _ => .bl _)))) (sb_nil))
    (sb_cons (ss_if (st_val (sv_of (se_prim (sa_cons (so_ex (sv_of (se_comp (own := [("way", 3)]) (fun _ => rfl) (fun _ => nd) (si_val (fun _ => rfl) (sv_of (se_var (i := 0) (fun _ => pv 0)))) (fun _ => blkOk_by (by kernel_rfl)) (sg_name (i := 3) (fun _ => pg_name (i := 3) nd rfl (Or.inl rfl))) (by decide) (sts_nil) (sv_of (se_op2 (so_ex (sv_of (se_prim (sa_cons (so_ex (sv_of (se_call (dvs := []) (dd := []) (np := 2) (sav_cons (sv_of (se_op2 (so_var (i := 2) (fun _ => pv 2)) (so_ex (sv_of (se_c (d := .int 1) (fun _ => pe_int) (fun _ => .int _)))) (fun _ _ ha hb z => pe_ix ix_seq (ha z) (hb z) (fun _ _ => rfl)) prim_ix)) (sav_cons (sv_of (se_var (i := 3) (fun _ => pv 3))) (sav_nil))) rfl (fun _ => .nil) (fun _ h z => pe_call G_c_common_of (hr.mono (by omega)) (by rfl) m_c_common_of k_c_common_of b_c_common_of .nil pass0 (h z))))) (sa_nil)) (fun _ h z => pe_callB call_len (by rfl) T.len boot_len (h z)) prim_len))) (so_ex (sv_of (se_c (d := .int 0) (fun _ => pe_int) (fun _ => .int _)))) (fun _ _ ha hb z => pe_cmpR (op_eqP hr.units) (ha z) (hb z) (nomark _)) prim_rd2))))) (sa_nil)) (fun _ h z => pe_callB (cr_any rfl) (by rfl) T.any boot_any (h z)) prim_any))) (sb_one (ss_ret (se_c (d := .bool false) (fun _ => pe_bl) (fun _ => .bl _)))) (sb_nil))
    (sb_one (ss_ret (se_op2 (so_ex (sv_of (se_prim (sa_cons (so_ex (sv_of (se_comp (own := [("thing", 4)]) (fun _ => rfl) (fun _ => nd) (si_val (fun _ => rfl) (sv_of (se_op2 (so_var (i := 2) (fun _ => pv 2)) (so_ex (sv_of (se_c (d := .int 1) (fun _ => pe_int) (fun _ => .int _)))) (fun _ _ ha hb z => pe_ix ix_seq (ha z) (hb z) (fun _ _ => rfl)) prim_ix))) (fun _ => blkOk_by (by kernel_rfl)) (sg_name (i := 4) (fun _ => pg_name (i := 4) nd rfl (Or.inl rfl))) (by decide) (sts_nil) (sv_of (se_op2 (so_var (i := 1) (fun _ => pv 1)) (so_var (i := 4) (fun _ => pv 4)) (fun _ _ ha hb z => pe_ix ix_seq (ha z) (hb z) (fun _ _ => rfl)) prim_ix))))) (sa_nil)) (fun _ h z => pe_callB (cr_sum rfl) (by rfl) T.sum boot_sum (h z)) prim_sum))) (so_ex (sv_of (se_op2 (so_var (i := 2) (fun _ => pv 2)) (so_ex (sv_of (se_c (d := .int 0) (fun _ => pe_int) (fun _ => .int _)))) (fun _ _ ha hb z => pe_ix ix_seq (ha z) (hb z) (fun _ _ => rfl)) prim_ix))) (fun _ _ ha hb z => pe_cmpR (op_eqP hr.units) (ha z) (hb z) (nomark _)) prim_rd2))))
theorem ok_cut_serves (T : Txt K mg) (c_common_of : Cal P w K mg base "common_of" ["one", "two"] 1 false g_common_of []) (c_family_things : Cal P w K mg base "family_things" ["family"] 2 false g_family_things []) (c_is_lot_1 : ∃ ds, Vals [.int 0] ds ∧ Cal P w K mg base "is_lot" ["value", "most", "least"] 3 false g_is_lot ds) (c_is_number_2 : ∃ ds, Vals [.int 0, .non] ds ∧ Cal P w K mg base "is_number" ["value", "least", "most"] 2 false g_is_number ds) (c_is_tuple : Cal P w K mg base "is_tuple" ["value", "many"] 1 false g_is_tuple []) {f : Addr} {fd : FuncData} (F : Fun K "cut_serves" "cut_serves" s_cut_serves f fd) : FnOk P w K mg base CX0 4 f fd ["family", "widths", "told"] (spF K false 3 g_cut_serves) :=
  fn_ok false F sc_cut_serves (by decide) fun cdv A outer s H E hr => sb_cut_serves T c_common_of c_family_things c_is_lot_1 c_is_number_2 c_is_tuple cdv A outer s H E hr
theorem sc__law_box : FnScope ["script", "k", "cell", "great"] ["script", "k"] (defScope s__law_box) := ⟨rfl, rfl, rfl, by decide +kernel, rfl, by decide +kernel, by decide +kernel⟩
theorem sb__law_box (T : Txt K mg) {f : Addr} (cdv : Value) (A : Around) (outer : List Env) (s : Shared) (H : Hp) (E : XK) (hr : Room 0 (A.deeper (envOfC "_law_box" (defScope s__law_box) s.heap.objs.size f cdv))) :
    SB (fun _ : Unit => (cxOf CX0 P w K mg base ["script", "k", "cell", "great"] "_law_box" (defScope s__law_box) f cdv A outer s H E).nox) K WW0 (defBody s__law_box) b__law_box := by
  have nd := (sc__law_box).nd
  exact sb_cons (ss_set (i := 2) (se_op2 (so_ex (sv_of (se_op2 (so_ex (sv_of (se_c (d := .int 7919) (fun _ => pe_int) (fun _ => .int _)))) (so_var (i := 1) (fun _ => pv 1)) (fun _ _ ha hb z => pe_op op_mulT (ha z) (hb z)) prim_mulT))) (so_ex (sv_of (se_c (d := .int 3121) (fun _ => pe_int) (fun _ => .int _)))) (fun _ _ ha hb z => pe_op op_addD (ha z) (hb z)) prim_add) (fun _ h z => ps_set nd rfl (Or.inl rfl) (h z)))
    (sb_cons (ss_if (st_op2 (so_var (i := 1) (fun _ => pv 1)) (so_ex (sv_of (se_prim (sa_cons (so_var (i := 0) (fun _ => pv 0)) (sa_nil)) (fun _ h z => pe_callB call_len (by rfl) T.len boot_len (h z)) prim_len))) (fun _ _ ha hb z => pt_cmpR (op_ltD hr.units) (ha z) (hb z) (nomark _)) prim_rd2) (sb_one (ss_set (i := 2) (se_prim (sa_cons (so_ex (sv_of (se_prim (sa_cons (so_ex (sv_of (se_op2 (so_var (i := 0) (fun _ => pv 0)) (so_var (i := 1) (fun _ => pv 1)) (fun _ _ ha hb z => pe_ix ix_seq (ha z) (hb z) (fun _ _ => rfl)) prim_ix))) (sa_nil)) (fun _ h z => pe_callTy call_int1 (by rfl) T.int boot_int (h z)) prim_int))) (sa_nil)) (fun _ h z => pe_callB call_abs (by rfl) T.abs boot_abs (h z)) prim_abs) (fun _ h z => ps_set nd rfl (Or.inl rfl) (h z)))) (sb_one (ss_if (st_op2 (so_ex (sv_of (se_prim (sa_cons (so_var (i := 0) (fun _ => pv 0)) (sa_nil)) (fun _ h z => pe_callB call_len (by rfl) T.len boot_len (h z)) prim_len))) (so_ex (sv_of (se_c (d := .int 0) (fun _ => pe_int) (fun _ => .int _)))) (fun _ _ ha hb z => pt_cmpR (op_gtD hr.units) (ha z) (hb z) (nomark _)) prim_rd2) (sb_one (ss_set (i := 2) (se_op2 (so_var (i := 2) (fun _ => pv 2)) (so_ex (sv_of (se_op2 (so_ex (sv_of (se_op2 (so_ex (sv_of (se_prim (sa_cons (so_ex (sv_of (se_prim (sa_cons (so_ex (sv_of (se_prim (sa_cons (so_ex (sv_of (se_op2 (so_var (i := 0) (fun _ => pv 0)) (so_ex (sv_of (se_op2 (so_ex (sv_of (se_prim (sa_cons (so_var (i := 1) (fun _ => pv 1)) (sa_nil)) (fun _ h z => pe_callTy call_int1 (by rfl) T.int boot_int (h z)) prim_int))) (so_ex (sv_of (se_prim (sa_cons (so_var (i := 0) (fun _ => pv 0)) (sa_nil)) (fun _ h z => pe_callB call_len (by rfl) T.len boot_len (h z)) prim_len))) (fun _ _ ha hb z => pe_op op_mod (ha z) (hb z)) prim_mod))) (fun _ _ ha hb z => pe_ix ix_seq (ha z) (hb z) (fun _ _ => rfl)) prim_ix))) (sa_nil)) (fun _ h z => pe_callTy call_int1 (by rfl) T.int boot_int (h z)) prim_int))) (sa_nil)) (fun _ h z => pe_callB call_abs (by rfl) T.abs boot_abs (h z)) prim_abs))) (sa_nil)) (fun _ h z => pe_callTy call_int1 (by rfl) T.int boot_int (h z)) prim_int))) (so_ex (sv_of (se_c (d := .int 2147483563) (fun _ => pe_int) (fun _ => .int _)))) (fun _ _ ha hb z => pe_op op_mod (ha z) (hb z)) prim_mod))) (so_ex (sv_of (se_c (d := .int 48271) (fun _ => pe_int) (fun _ => .int _)))) (fun _ _ ha hb z => pe_op op_mulT (ha z) (hb z)) prim_mulT))) (fun _ _ ha hb z => pe_op op_addD (ha z) (hb z)) prim_add) (fun _ h z => ps_set nd rfl (Or.inl rfl) (h z)))) (sb_nil))))
    (sb_cons (ss_set (i := 3) (se_if (st_op2 (so_var (i := 2) (fun _ => pv 2)) (so_ex (sv_of (se_op2 (so_ex (sv_of (se_c (d := .int 10) (fun _ => pe_int) (fun _ => .int _)))) (so_ex (sv_of (se_c (d := .int 18) (fun _ => pe_int) (fun _ => .int _)))) (fun _ _ ha hb z => pe_op op_pow (ha z) (hb z)) prim_pow))) (fun _ _ ha hb z => pt_cmpR (op_geD hr.units) (ha z) (hb z) (nomark _)) prim_rd2) (se_var (i := 2) (fun _ => pv 2)) (se_c (d := .int 0) (fun _ => pe_int) (fun _ => .int _))) (fun _ h z => ps_set nd rfl (Or.inl rfl) (h z)))
    (sb_one (ss_ret (se_lst (sav_cons (sv_of (se_var (i := 3) (fun _ => pv 3))) (sav_cons (sv_of (se_op2 (so_ex (sv_of (se_op2 (so_ex (sv_of (se_prim (sa_cons (so_ex (sv_of (se_op2 (so_ex (sv_of (se_op2 (so_ex (sv_of (se_op2 (so_ex (sv_of (se_prim (sa_cons (so_var (i := 2) (fun _ => pv 2)) (sa_nil)) (fun _ h z => pe_callTy call_int1 (by rfl) T.int boot_int (h z)) prim_int))) (so_ex (sv_of (se_c (d := .int 2147483563) (fun _ => pe_int) (fun _ => .int _)))) (fun _ _ ha hb z => pe_op op_mod (ha z) (hb z)) prim_mod))) (so_ex (sv_of (se_c (d := .int 40014) (fun _ => pe_int) (fun _ => .int _)))) (fun _ _ ha hb z => pe_op op_mulT (ha z) (hb z)) prim_mulT))) (so_ex (sv_of (se_op2 (so_ex (sv_of (se_c (d := .int 3121) (fun _ => pe_int) (fun _ => .int _)))) (so_var (i := 1) (fun _ => pv 1)) (fun _ _ ha hb z => pe_op op_mulT (ha z) (hb z)) prim_mulT))) (fun _ _ ha hb z => pe_op op_addD (ha z) (hb z)) prim_add))) (sa_nil)) (fun _ h z => pe_callTy call_int1 (by rfl) T.int boot_int (h z)) prim_int))) (so_ex (sv_of (se_c (d := .int 2147483563) (fun _ => pe_int) (fun _ => .int _)))) (fun _ _ ha hb z => pe_op op_mod (ha z) (hb z)) prim_mod))) (so_ex (sv_of (se_c (d := .int 1) (fun _ => pe_int) (fun _ => .int _)))) (fun _ _ ha hb z => pe_op op_addD (ha z) (hb z)) prim_add)) (sav_nil))))))))
theorem ok__law_box (T : Txt K mg) {f : Addr} {fd : FuncData} (F : Fun K "_law_box" "_law_box" s__law_box f fd) : FnOk P w K mg base CX0 1 f fd ["script", "k"] (spF K false 2 g__law_box) :=
  fn_ok false F sc__law_box (by decide) fun cdv A outer s H E hr => sb__law_box T  cdv A outer s H E hr
theorem sc__law_take : FnScope ["box", "many", "digit", "raw"] ["box", "many"] (defScope s__law_take) := ⟨rfl, rfl, rfl, by decide +kernel, rfl, by decide +kernel, by decide +kernel⟩
theorem sb__law_take (T : Txt K mg) {f : Addr} (cdv : Value) (A : Around) (outer : List Env) (s : Shared) (H : Hp) (E : XK) (hr : Room 0 (A.deeper (envOfC "_law_take" (defScope s__law_take) s.heap.objs.size f cdv))) :
    SB (fun _ : Unit => (cxOf CX0 P w K mg base ["box", "many", "digit", "raw"] "_law_take" (defScope s__law_take) f cdv A outer s H E).nox) K WW0 (defBody s__law_take) b__law_take := by
  have nd := (sc__law_take).nd
  exact sb_cons (ss_if (st_op2 (so_ex (sv_of (se_op2 (so_var (i := 0) (fun _ => pv 0)) (so_ex (sv_of (se_c (d := .int 0) (fun _ => pe_int) (fun _ => .int _)))) (fun _ _ ha hb z => pe_ix ix_seq (ha z) (hb z) (fun _ _ => rfl)) prim_ix))) (so_ex (sv_of (se_c (d := .int 0) (fun _ => pe_int) (fun _ => .int _)))) (fun _ _ ha hb z => pt_cmpR (op_gtD hr.units) (ha z) (hb z) (nomark _)) prim_rd2) (sb_cons (ss_set (i := 2) (se_op2 (so_ex (sv_of (se_prim (sa_cons (so_ex (sv_of (se_op2 (so_var (i := 0) (fun _ => pv 0)) (so_ex (sv_of (se_c (d := .int 0) (fun _ => pe_int) (fun _ => .int _)))) (fun _ _ ha hb z => pe_ix ix_seq (ha z) (hb z) (fun _ _ => rfl)) prim_ix))) (sa_nil)) (fun _ h z => pe_callTy call_int1 (by rfl) T.int boot_int (h z)) prim_int))) (so_var (i := 1) (fun _ => pv 1)) (fun _ _ ha hb z => pe_op op_mod (ha z) (hb z)) prim_mod) (fun _ h z => ps_set nd rfl (Or.inl rfl) (h z)))
    (sb_cons (ss_setIx (i := 0) (sv_of (se_op2 (so_ex (sv_of (se_op2 (so_var (i := 0) (fun _ => pv 0)) (so_ex (sv_of (se_c (d := .int 0) (fun _ => pe_int) (fun _ => .int _)))) (fun _ _ ha hb z => pe_ix ix_seq (ha z) (hb z) (fun _ _ => rfl)) prim_ix))) (so_var (i := 1) (fun _ => pv 1)) (fun _ _ ha hb z => pe_op op_fdivW (ha z) (hb z)) prim_div)) (sv_of (se_c (d := .int 0) (fun _ => pe_int) (fun _ => .int _))) (fun _ _ h1 h2 z => ps_asg (h1 z) (pg_sub (pv 0) (h2 z) set_list)))
    (sb_one (ss_ret (se_move (i := 2) (fun _ => pv 2)))))) (sb_nil))
    (sb_cons (ss_set (i := 3) (se_op2 (so_ex (sv_of (se_prim (sa_cons (so_ex (sv_of (se_op2 (so_ex (sv_of (se_op2 (so_ex (sv_of (se_op2 (so_var (i := 0) (fun _ => pv 0)) (so_ex (sv_of (se_c (d := .int 1) (fun _ => pe_int) (fun _ => .int _)))) (fun _ _ ha hb z => pe_ix ix_seq (ha z) (hb z) (fun _ _ => rfl)) prim_ix))) (so_ex (sv_of (se_c (d := .int 39373) (fun _ => pe_int) (fun _ => .int _)))) (fun _ _ ha hb z => pe_op op_mulT (ha z) (hb z)) prim_mulT))) (so_ex (sv_of (se_c (d := .int 587) (fun _ => pe_int) (fun _ => .int _)))) (fun _ _ ha hb z => pe_op op_addD (ha z) (hb z)) prim_add))) (sa_nil)) (fun _ h z => pe_callTy call_int1 (by rfl) T.int boot_int (h z)) prim_int))) (so_ex (sv_of (se_c (d := .int 2147483647) (fun _ => pe_int) (fun _ => .int _)))) (fun _ _ ha hb z => pe_op op_mod (ha z) (hb z)) prim_mod) (fun _ h z => ps_set nd rfl (Or.inl rfl) (h z)))
    (sb_cons (ss_setIx (i := 0) (sv_of (se_op2 (so_ex (sv_of (se_op2 (so_ex (sv_of (se_prim (sa_cons (so_ex (sv_of (se_op2 (so_ex (sv_of (se_op2 (so_var (i := 3) (fun _ => pv 3)) (so_ex (sv_of (se_c (d := .int 40692) (fun _ => pe_int) (fun _ => .int _)))) (fun _ _ ha hb z => pe_op op_mulT (ha z) (hb z)) prim_mulT))) (so_ex (sv_of (se_c (d := .int 83) (fun _ => pe_int) (fun _ => .int _)))) (fun _ _ ha hb z => pe_op op_addD (ha z) (hb z)) prim_add))) (sa_nil)) (fun _ h z => pe_callTy call_int1 (by rfl) T.int boot_int (h z)) prim_int))) (so_ex (sv_of (se_c (d := .int 2147483399) (fun _ => pe_int) (fun _ => .int _)))) (fun _ _ ha hb z => pe_op op_mod (ha z) (hb z)) prim_mod))) (so_ex (sv_of (se_c (d := .int 1) (fun _ => pe_int) (fun _ => .int _)))) (fun _ _ ha hb z => pe_op op_addD (ha z) (hb z)) prim_add)) (sv_of (se_c (d := .int 1) (fun _ => pe_int) (fun _ => .int _))) (fun _ _ h1 h2 z => ps_asg (h1 z) (pg_sub (pv 0) (h2 z) set_list)))
    (sb_one (ss_ret (se_op2 (so_ex (sv_of (se_prim (sa_cons (so_ex (sv_of (se_op2 (so_ex (sv_of (se_op2 (so_ex (sv_of (se_op2 (so_var (i := 3) (fun _ => pv 3)) (so_ex (sv_of (se_c (d := .int 2147483629) (fun _ => pe_int) (fun _ => .int _)))) (fun _ _ ha hb z => pe_op op_mulT (ha z) (hb z)) prim_mulT))) (so_ex (sv_of (se_op2 (so_var (i := 0) (fun _ => pv 0)) (so_ex (sv_of (se_c (d := .int 1) (fun _ => pe_int) (fun _ => .int _)))) (fun _ _ ha hb z => pe_ix ix_seq (ha z) (hb z) (fun _ _ => rfl)) prim_ix))) (fun _ _ ha hb z => pe_op op_addD (ha z) (hb z)) prim_add))) (so_ex (sv_of (se_c (d := .int 8231) (fun _ => pe_int) (fun _ => .int _)))) (fun _ _ ha hb z => pe_op op_fdivW (ha z) (hb z)) prim_div))) (sa_nil)) (fun _ h z => pe_callTy call_int1 (by rfl) T.int boot_int (h z)) prim_int))) (so_var (i := 1) (fun _ => pv 1)) (fun _ _ ha hb z => pe_op op_mod (ha z) (hb z)) prim_mod)))))
theorem ok__law_take (T : Txt K mg) {f : Addr} {fd : FuncData} (F : Fun K "_law_take" "_law_take" s__law_take f fd) : FnOk P w K mg base CX0 1 f fd ["box", "many"] (spF K true 2 g__law_take) :=
  fn_ok true F sc__law_take (by decide) fun cdv A outer s H E hr => sb__law_take T  cdv A outer s H E hr
theorem sc__law_pick : FnScope ["box", "some"] ["box", "some"] (defScope s__law_pick) := ⟨rfl, rfl, rfl, by decide +kernel, rfl, by decide +kernel, by decide +kernel⟩
theorem sb__law_pick (T : Txt K mg) (c__law_take : Cal P w K mg base "_law_take" ["box", "many"] 1 true g__law_take []) {f : Addr} (cdv : Value) (A : Around) (outer : List Env) (s : Shared) (H : Hp) (E : XK) (hr : Room 1 (A.deeper (envOfC "_law_pick" (defScope s__law_pick) s.heap.objs.size f cdv))) :
    SB (fun _ : Unit => (cxOf CX0 P w K mg base ["box", "some"] "_law_pick" (defScope s__law_pick) f cdv A outer s H E).nox) K WW0 (defBody s__law_pick) b__law_pick := by
  obtain ⟨f_c__law_take, fd_c__law_take, G_c__law_take, m_c__law_take, k_c__law_take, b_c__law_take⟩ := c__law_take.ex
  have nd := (sc__law_pick).nd
  exact sb_one (ss_ret (se_op2 (so_var (i := 1) (fun _ => pv 1)) (so_ex (sv_of (se_callB (i := 0) (dvs := []) (dd := []) (np := 2) (fun _ => pv 0) (sav_cons (sv_of (se_prim (sa_cons (so_var (i := 1) (fun _ => pv 1)) (sa_nil)) (fun _ h z => pe_callB call_len (by rfl) T.len boot_len (h z)) prim_len)) (sav_nil)) rfl (fun _ => .nil) (fun _ => rfl) (fun _ h z => pe_call G_c__law_take (hr.mono (by omega)) (by rfl) m_c__law_take k_c__law_take b_c__law_take .nil pass0 (h z))))) (fun _ _ ha hb z => pe_ix ix_seq (ha z) (hb z) (fun _ _ => rfl)) prim_ix))
theorem ok__law_pick (T : Txt K mg) (c__law_take : Cal P w K mg base "_law_take" ["box", "many"] 1 true g__law_take []) {f : Addr} {fd : FuncData} (F : Fun K "_law_pick" "_law_pick" s__law_pick f fd) : FnOk P w K mg base CX0 2 f fd ["box", "some"] (spF K true 2 g__law_pick) :=
  fn_ok true F sc__law_pick (by decide) fun cdv A outer s H E hr => sb__law_pick T c__law_take cdv A outer s H E hr
theorem sc__law_shuffled : FnScope ["box", "some", "left", "found", "turn"] ["box", "some"] (defScope s__law_shuffled) := ⟨rfl, rfl, rfl, by decide +kernel, rfl, by decide +kernel, by decide +kernel⟩
theorem sb__law_shuffled (T : Txt K mg) (c__law_take : Cal P w K mg base "_law_take" ["box", "many"] 1 true g__law_take []) {f : Addr} (cdv : Value) (A : Around) (outer : List Env) (s : Shared) (H : Hp) (E : XK) (hr : Room 1 (A.deeper (envOfC "_law_shuffled" (defScope s__law_shuffled) s.heap.objs.size f cdv))) :
    SB (fun _ : Unit => (cxOf CX0 P w K mg base ["box", "some", "left", "found", "turn"] "_law_shuffled" (defScope s__law_shuffled) f cdv A outer s H E).nox) K WW0 (defBody s__law_shuffled) b__law_shuffled := by
  obtain ⟨f_c__law_take, fd_c__law_take, G_c__law_take, m_c__law_take, k_c__law_take, b_c__law_take⟩ := c__law_take.ex
  have nd := (sc__law_shuffled).nd
  exact sb_cons (ss_parA (by decide) (sar_cons (se_prim (sa_cons (so_var (i := 1) (fun _ => pv 1)) (sa_nil)) (fun _ h z => pe_callTy call_list_of (by rfl) T.list boot_list (h z)) prim_list) (sar_cons (se_lst (sav_nil)) (sar_nil))) (fun _ h z => ps_par rfl nd rfl rfl (by decide) rfl rfl (h z) rfl))
    (sb_cons (ss_for (fun _ => PassesOwn.never) (fun _ => rfl) (si_range1 (fun _ => rfl) (fun _ => T.range) (sav_cons (sv_of (se_prim (sa_cons (so_var (i := 1) (fun _ => pv 1)) (sa_nil)) (fun _ h z => pe_callB call_len (by rfl) T.len boot_len (h z)) prim_len)) (sav_nil))) (sg_name (i := 4) (fun _ => pg_name (i := 4) nd rfl (Or.inl rfl))) (sb_one (ss_drop (se_meth (i := 3) (sav_cons (sv_of (se_meth (i := 2) (sav_cons (sv_of (se_callB (i := 0) (dvs := []) (dd := []) (np := 2) (fun _ => pv 0) (sav_cons (sv_of (se_prim (sa_cons (so_var (i := 2) (fun _ => pv 2)) (sa_nil)) (fun _ h z => pe_callB call_len (by rfl) T.len boot_len (h z)) prim_len)) (sav_nil)) rfl (fun _ => .nil) (fun _ => rfl) (fun _ h z => pe_call G_c__law_take (hr.mono (by omega)) (by rfl) m_c__law_take k_c__law_take b_c__law_take .nil pass0 (h z)))) (sav_nil)) (fun _ h z => pe_bm PySem.F.plainAttrs_list PySem.F.slot_list_pop PySem.F.type_list_pop mt_popAt (pv 2) (h z)) prim_popAt)) (sav_nil)) (fun _ h z => pe_bm PySem.F.plainAttrs_list PySem.F.slot_list_append PySem.F.type_list_append mt_append (pv 3) (h z)) prim_append))))
    (sb_one (ss_ret (se_move (i := 3) (fun _ => pv 3)))))
theorem ok__law_shuffled (T : Txt K mg) (c__law_take : Cal P w K mg base "_law_take" ["box", "many"] 1 true g__law_take []) {f : Addr} {fd : FuncData} (F : Fun K "_law_shuffled" "_law_shuffled" s__law_shuffled f fd) : FnOk P w K mg base CX0 2 f fd ["box", "some"] (spF K true 2 g__law_shuffled) :=
  fn_ok true F sc__law_shuffled (by decide) fun cdv A outer s H E hr => sb__law_shuffled T c__law_take cdv A outer s H E hr
theorem sc__law_same : FnScope ["told", "due", "one", "other"] ["told", "due"] (defScope s__law_same) := ⟨rfl, rfl, rfl, by decide +kernel, rfl, by decide +kernel, by decide +kernel⟩
theorem sb__law_same {rec : Fn} {lv : Nat} (T : Txt K mg) (c_rec : Cal P w K mg base "_law_same" ["told", "due"] lv false rec []) (hlv : 0 ≤ lv) {f : Addr} (cdv : Value) (A : Around) (outer : List Env) (s : Shared) (H : Hp) (E : XK) (hr : Room lv (A.deeper (envOfC "_law_same" (defScope s__law_same) s.heap.objs.size f cdv))) :
    SB (fun _ : Unit => (cxOf CX0 P w K mg base ["told", "due", "one", "other"] "_law_same" (defScope s__law_same) f cdv A outer s H E).nox) K WW0 (defBody s__law_same) (b__law_same rec) := by
  obtain ⟨f_c_rec, fd_c_rec, G_c_rec, m_c_rec, k_c_rec, b_c_rec⟩ := c_rec.ex
  have nd := (sc__law_same).nd
  exact sb_cons (ss_if (st_val (sv_of (se_isi (so_var (i := 1) (fun _ => pv 1)) (fun _ => pe_bltn (by rfl) T.tuple boot_tuple rfl) kit_tuple (fun _ => rfl) (fun _ => rfl) (fun _ h z => pe_callB call_isi (by rfl) T.isinstance boot_isinstance (h z))))) (sb_cons (ss_if (SW.st (sw_or (st_not (st_val (sv_of (se_isi (so_var (i := 0) (fun _ => pv 0)) (fun _ => pe_bltn (by rfl) T.tuple boot_tuple rfl) kit_tuple (fun _ => rfl) (fun _ => rfl) (fun _ h z => pe_callB call_isi (by rfl) T.isinstance boot_isinstance (h z)))))) (sw_or1 (st_op2 (so_ex (sv_of (se_prim (sa_cons (so_var (i := 0) (fun _ => pv 0)) (sa_nil)) (fun _ h z => pe_callB call_len (by rfl) T.len boot_len (h z)) prim_len))) (so_ex (sv_of (se_prim (sa_cons (so_var (i := 1) (fun _ => pv 1)) (sa_nil)) (fun _ h z => pe_callB call_len (by rfl) T.len boot_len (h z)) prim_len))) (fun _ _ ha hb z => pt_cmpR (op_neP hr.units) (ha z) (hb z) (nomark _)) prim_rd2)))) (sb_one (ss_ret (se_c (d := .bool false) (fun _ => pe_bl) (fun _ => .bl _)))) (sb_nil))
    (sb_cons (ss_for (fun _ => PassesOwn.never) (fun _ => rfl) (si_zip (fun _ => rfl) (fun _ => rfl) (fun _ => T.zip) (sav_cons (sv_of (se_var (i := 0) (fun _ => pv 0))) (sav_cons (sv_of (se_var (i := 1) (fun _ => pv 1))) (sav_nil)))) (sg_tup (is := [2, 3]) (fun _ => pg_tup rfl (pgs_cons (pg_name (i := 2) nd rfl (Or.inl rfl)) (pgs_cons (pg_name (i := 3) nd rfl (Or.inl rfl)) pgs_nil)))) (sb_one (ss_if (st_not (st_val (sv_of (se_call (dvs := []) (dd := []) (np := 2) (sav_cons (sv_of (se_var (i := 2) (fun _ => pv 2))) (sav_cons (sv_of (se_var (i := 3) (fun _ => pv 3))) (sav_nil))) rfl (fun _ => .nil) (fun _ h z => pe_call G_c_rec (hr.mono (by omega)) (by rfl) m_c_rec k_c_rec b_c_rec .nil pass0 (h z)))))) (sb_one (ss_ret (se_c (d := .bool false) (fun _ => pe_bl) (fun _ => .bl _)))) (sb_nil))))
    (sb_one (ss_ret (se_c (d := .bool true) (fun _ => pe_bl) (fun _ => .bl _)))))) (sb_nil))
    (sb_cons (ss_if (st_op2 (so_var (i := 1) (fun _ => pv 1)) (so_ex (sv_of (se_c (d := .none) (fun _ => pe_non) (fun _ => .non)))) (fun _ _ ha hb z => pt_cmpR op_isN (ha z) (hb z) (nomark _)) prim_isN) (sb_one (ss_ret (se_op2 (so_var (i := 0) (fun _ => pv 0)) (so_ex (sv_of (se_c (d := .none) (fun _ => pe_non) (fun _ => .non)))) (fun _ _ ha hb z => pe_cmpR op_isN (ha z) (hb z) (nomark _)) prim_isN))) (sb_nil))
    (sb_cons (ss_if (SW.st (sw_or (st_op2 (so_var (i := 1) (fun _ => pv 1)) (so_ex (sv_of (se_c (d := .bool true) (fun _ => pe_bl) (fun _ => .bl _)))) (fun _ _ ha hb z => pt_cmpR op_isBo (ha z) (hb z) (nomark _)) prim_isBo) (sw_or1 (st_op2 (so_var (i := 1) (fun _ => pv 1)) (so_ex (sv_of (se_c (d := .bool false) (fun _ => pe_bl) (fun _ => .bl _)))) (fun _ _ ha hb z => pt_cmpR op_isBo (ha z) (hb z) (nomark _)) prim_isBo)))) (sb_one (ss_ret (se_and (sv_of (se_isi (so_var (i := 0) (fun _ => pv 0)) (fun _ => pe_bltn (by rfl) T.bool boot_bool rfl) kit_bool (fun _ => rfl) (fun _ => rfl) (fun _ h z => pe_callB call_isi (by rfl) T.isinstance boot_isinstance (h z)))) (se_one (se_op2 (so_var (i := 0) (fun _ => pv 0)) (so_var (i := 1) (fun _ => pv 1)) (fun _ _ ha hb z => pe_cmpR (op_eqP hr.units) (ha z) (hb z) (nomark _)) prim_rd2))))) (sb_nil))
    (sb_cons (ss_if (st_val (sv_of (se_isi (so_var (i := 1) (fun _ => pv 1)) (fun _ => pe_bltn (by rfl) T.int boot_int rfl) kit_int (fun _ => rfl) (fun _ => rfl) (fun _ h z => pe_callB call_isi (by rfl) T.isinstance boot_isinstance (h z))))) (sb_one (ss_ret (se_and (sv_of (se_isi (so_var (i := 0) (fun _ => pv 0)) (fun _ => pe_bltn (by rfl) T.int boot_int rfl) kit_int (fun _ => rfl) (fun _ => rfl) (fun _ h z => pe_callB call_isi (by rfl) T.isinstance boot_isinstance (h z)))) (se_and (sv_of (se_not (sv_of (se_isi (so_var (i := 0) (fun _ => pv 0)) (fun _ => pe_bltn (by rfl) T.bool boot_bool rfl) kit_bool (fun _ => rfl) (fun _ => rfl) (fun _ h z => pe_callB call_isi (by rfl) T.isinstance boot_isinstance (h z)))))) (se_one (se_op2 (so_var (i := 0) (fun _ => pv 0)) (so_var (i := 1) (fun _ => pv 1)) (fun _ _ ha hb z => pe_cmpR (op_eqP hr.units) (ha z) (hb z) (nomark _)) prim_rd2)))))) (sb_nil))
    (sb_one (ss_ret (se_and (sv_of (se_isi (so_var (i := 0) (fun _ => pv 0)) (fun _ => pe_bltn (by rfl) T.str boot_str rfl) kit_str (fun _ => rfl) (fun _ => rfl) (fun _ h z => pe_callB call_isi (by rfl) T.isinstance boot_isinstance (h z)))) (se_and (sv_of (se_isi (so_var (i := 1) (fun _ => pv 1)) (fun _ => pe_bltn (by rfl) T.str boot_str rfl) kit_str (fun _ => rfl) (fun _ => rfl) (fun _ h z => pe_callB call_isi (by rfl) T.isinstance boot_isinstance (h z)))) (se_one (se_op2 (so_var (i := 0) (fun _ => pv 0)) (so_var (i := 1) (fun _ => pv 1)) (fun _ _ ha hb z => pe_cmpR (op_eqP hr.units) (ha z) (hb z) (nomark _)) prim_rd2)))))))))
theorem ok__law_same (T : Txt K mg) {f : Addr} {fd : FuncData} (F : Fun K "_law_same" "_law_same" s__law_same f fd) (hm : mg "_law_same" = some (.ref f)) (hb : Binds K fd ["told", "due"] []) : ∀ n, FnOk P w K mg base CX0 (0 + n) f fd ["told", "due"] (spF K false 2 (gr__law_same n))
  | 0 => fn_stuck
  | n + 1 => fn_ok false F sc__law_same (by decide) fun cdv A outer s H E hr => sb__law_same T  ⟨_, _, ok__law_same T  F hm hb n, hm, F.kp, hb⟩ (Nat.le_add_right _ _) cdv A outer s H E hr
theorem sc__law_inside : FnScope ["one", "two", "thing"] ["one", "two"] (defScope s__law_inside) := ⟨rfl, rfl, rfl, by decide +kernel, rfl, by decide +kernel, by decide +kernel⟩
theorem sb__law_inside (T : Txt K mg) {f : Addr} (cdv : Value) (A : Around) (outer : List Env) (s : Shared) (H : Hp) (E : XK) (hr : Room 0 (A.deeper (envOfC "_law_inside" (defScope s__law_inside) s.heap.objs.size f cdv))) :
    SB (fun _ : Unit => (cxOf CX0 P w K mg base ["one", "two", "thing"] "_law_inside" (defScope s__law_inside) f cdv A outer s H E).nox) K WW0 (defBody s__law_inside) b__law_inside := by
  have nd := (sc__law_inside).nd
  exact sb_one (ss_ret (se_op2 (so_ex (sv_of (se_comp (own := [("thing", 2)]) (fun _ => rfl) (fun _ => nd) (si_val (fun _ => rfl) (sv_of (se_var (i := 0) (fun _ => pv 0)))) (fun _ => blkOk_by (by kernel_rfl)) (sg_name (i := 2) (fun _ => pg_name (i := 2) nd rfl (Or.inl rfl))) (by decide) (sts_one (st_op2 (so_var (i := 2) (fun _ => pv 2)) (so_var (i := 1) (fun _ => pv 1)) (fun _ _ ha hb z => pt_cmpR (op_notInP hr.units) (ha z) (hb z) (by with_unfolding_all rfl)) prim_rd2)) (sv_of (se_c (d := .int 1) (fun _ => pe_int) (fun _ => .int _)))))) (so_ex (sv_of (se_lst (sav_nil)))) (fun _ _ ha hb z => pe_cmpR (op_eqP hr.units) (ha z) (hb z) (nomark _)) prim_rd2))
theorem ok__law_inside (T : Txt K mg) {f : Addr} {fd : FuncData} (F : Fun K "_law_inside" "_law_inside" s__law_inside f fd) : FnOk P w K mg base CX0 1 f fd ["one", "two"] (spF K false 2 g__law_inside) :=
  fn_ok false F sc__law_inside (by decide) fun cdv A outer s H E hr => sb__law_inside T  cdv A outer s H E hr
theorem sc__law_things : FnScope ["family", "way"] ["family"] (defScope s__law_things) := ⟨rfl, rfl, rfl, by decide +kernel, rfl, by decide +kernel, by decide +kernel⟩
theorem sb__law_things (T : Txt K mg) {f : Addr} (cdv : Value) (A : Around) (outer : List Env) (s : Shared) (H : Hp) (E : XK) (hr : Room 0 (A.deeper (envOfC "_law_things" (defScope s__law_things) s.heap.objs.size f cdv))) :
    SB (fun _ : Unit => (cxOf CX0 P w K mg base ["family", "way"] "_law_things" (defScope s__law_things) f cdv A outer s H E).nox) K WW0 (defBody s__law_things) b__law_things := by
  have nd := (sc__law_things).nd
  exact sb_one (ss_ret (se_op2 (so_ex (sv_of (se_c (d := .int 1) (fun _ => pe_int) (fun _ => .int _)))) (so_ex (sv_of (se_prim (sa_cons (so_ex (sv_of (se_comp (own := [("way", 1)]) (fun _ => rfl) (fun _ => nd) (si_val (fun _ => rfl) (sv_of (se_var (i := 0) (fun _ => pv 0)))) (fun _ => blkOk_by (by kernel_rfl)) (sg_name (i := 1) (fun _ => pg_name (i := 1) nd rfl (Or.inl rfl))) (by decide) (sts_nil) (sv_of (se_prim (sa_cons (so_var (i := 1) (fun _ => pv 1)) (sa_nil)) (fun _ h z => pe_callB (cr_maxP rfl hr.units) (by rfl) T.max boot_max (h z)) prim_max))))) (sa_nil)) (fun _ h z => pe_callB (cr_maxP rfl hr.units) (by rfl) T.max boot_max (h z)) prim_max))) (fun _ _ ha hb z => pe_op op_addD (ha z) (hb z)) prim_add))
theorem ok__law_things (T : Txt K mg) {f : Addr} {fd : FuncData} (F : Fun K "_law_things" "_law_things" s__law_things f fd) : FnOk P w K mg base CX0 1 f fd ["family"] (spF K false 1 g__law_things) :=
  fn_ok false F sc__law_things (by decide) fun cdv A outer s H E hr => sb__law_things T  cdv A outer s H E hr
theorem sc__law_lots : FnScope ["things", "lots", "thing", "lot", "pair"] ["things"] (defScope s__law_lots) := ⟨rfl, rfl, rfl, by decide +kernel, rfl, by decide +kernel, by decide +kernel⟩
theorem sb__law_lots (T : Txt K mg) {f : Addr} (cdv : Value) (A : Around) (outer : List Env) (s : Shared) (H : Hp) (E : XK) (hr : Room 0 (A.deeper (envOfC "_law_lots" (defScope s__law_lots) s.heap.objs.size f cdv))) :
    SB (fun _ : Unit => (cxOf CX0 P w K mg base ["things", "lots", "thing", "lot", "pair"] "_law_lots" (defScope s__law_lots) f cdv A outer s H E).nox) K WW0 (defBody s__law_lots) b__law_lots := by
  have nd := (sc__law_lots).nd
  exact sb_cons (ss_set (i := 1) (se_lst (sav_cons (sv_of (se_tup (sav_nil))) (sav_nil))) (fun _ h z => ps_set nd rfl (Or.inl rfl) (h z)))
    (sb_cons (ss_for (fun _ => PassesOwn.never) (fun _ => rfl) (si_range1 (fun _ => rfl) (fun _ => T.range) (sav_cons (sv_of (se_var (i := 0) (fun _ => pv 0))) (sav_nil))) (sg_name (i := 2) (fun _ => pg_name (i := 2) nd rfl (Or.inr rfl))) (sb_one (ss_set (i := 1) (se_op2 (so_var (i := 1) (fun _ => pv 1)) (so_ex (sv_of (se_comp (own := [("lot", 3)]) (fun _ => rfl) (fun _ => nd) (si_val (fun _ => rfl) (sv_of (se_var (i := 1) (fun _ => pv 1)))) (fun _ => blkOk_by (by kernel_rfl)) (sg_name (i := 3) (fun _ => pg_name (i := 3) nd rfl (Or.inl rfl))) (by decide) (sts_nil) (sv_of (se_op2 (so_var (i := 3) (fun _ => pv 3)) (so_ex (sv_of (se_tup (sav_cons (sv_of (se_var (i := 2) (fun _ => pv 2))) (sav_nil))))) (fun _ _ ha hb z => pe_op op_addD (ha z) (hb z)) prim_add))))) (fun _ _ ha hb z => pe_op op_addD (ha z) (hb z)) prim_add) (fun _ h z => ps_set nd rfl (Or.inl rfl) (h z)))))
    (sb_one (ss_ret (se_comp (own := [("pair", 4)]) (fun _ => rfl) (fun _ => nd) (si_val (fun _ => rfl) (sv_of (se_prim (sa_cons (so_ex (sv_of (se_comp (own := [("lot", 3)]) (fun _ => rfl) (fun _ => nd) (si_val (fun _ => rfl) (sv_of (se_var (i := 1) (fun _ => pv 1)))) (fun _ => blkOk_by (by kernel_rfl)) (sg_name (i := 3) (fun _ => pg_name (i := 3) nd rfl (Or.inl rfl))) (by decide) (sts_nil) (sv_of (se_tup (sav_cons (sv_of (se_prim (sa_cons (so_var (i := 3) (fun _ => pv 3)) (sa_nil)) (fun _ h z => pe_callB call_len (by rfl) T.len boot_len (h z)) prim_len)) (sav_cons (sv_of (se_var (i := 3) (fun _ => pv 3))) (sav_nil)))))))) (sa_nil)) (fun _ h z => pe_callB (cr_sortP hr.units) (by rfl) T.sorted boot_sorted (h z)) prim_sorted))) (fun _ => blkOk_by (by kernel_rfl)) (sg_name (i := 4) (fun _ => pg_name (i := 4) nd rfl (Or.inl rfl))) (by decide) (sts_nil) (sv_of (se_op2 (so_var (i := 4) (fun _ => pv 4)) (so_ex (sv_of (se_c (d := .int 1) (fun _ => pe_int) (fun _ => .int _)))) (fun _ _ ha hb z => pe_ix ix_seq (ha z) (hb z) (fun _ _ => rfl)) prim_ix))))))
theorem ok__law_lots (T : Txt K mg) {f : Addr} {fd : FuncData} (F : Fun K "_law_lots" "_law_lots" s__law_lots f fd) : FnOk P w K mg base CX0 1 f fd ["things"] (spF K false 1 g__law_lots) :=
  fn_ok false F sc__law_lots (by decide) fun cdv A outer s H E hr => sb__law_lots T  cdv A outer s H E hr
theorem sc__law_blockers : FnScope ["ways", "things", "found", "lot", "way", "thing", "other"] ["ways", "things"] (defScope s__law_blockers) := ⟨rfl, rfl, rfl, by decide +kernel, rfl, by decide +kernel, by decide +kernel⟩
theorem sb__law_blockers (T : Txt K mg) (c__law_inside : Cal P w K mg base "_law_inside" ["one", "two"] 1 false g__law_inside []) (c__law_lots : Cal P w K mg base "_law_lots" ["things"] 1 false g__law_lots []) {f : Addr} (cdv : Value) (A : Around) (outer : List Env) (s : Shared) (H : Hp) (E : XK) (hr : Room 1 (A.deeper (envOfC "_law_blockers" (defScope s__law_blockers) s.heap.objs.size f cdv))) :
    SB (fun _ : Unit => (cxOf CX0 P w K mg base ["ways", "things", "found", "lot", "way", "thing", "other"] "_law_blockers" (defScope s__law_blockers) f cdv A outer s H E).nox) K WW0 (defBody s__law_blockers) b__law_blockers := by
  obtain ⟨f_c__law_inside, fd_c__law_inside, G_c__law_inside, m_c__law_inside, k_c__law_inside, b_c__law_inside⟩ := c__law_inside.ex
  obtain ⟨f_c__law_lots, fd_c__law_lots, G_c__law_lots, m_c__law_lots, k_c__law_lots, b_c__law_lots⟩ := c__law_lots.ex
  have nd := (sc__law_blockers).nd
  exact sb_cons (ss_set (i := 2) (se_lst (sav_nil)) (fun _ h z => ps_set nd rfl (Or.inl rfl) (h z)))
    (sb_cons (ss_for (fun _ => PassesOwn.never) (fun _ => rfl) (si_val (fun _ => rfl) (sv_of (se_call (dvs := []) (dd := []) (np := 1) (sav_cons (sv_of (se_var (i := 1) (fun _ => pv 1))) (sav_nil)) rfl (fun _ => .nil) (fun _ h z => pe_call G_c__law_lots (hr.mono (by omega)) (by rfl) m_c__law_lots k_c__law_lots b_c__law_lots .nil pass0 (h z))))) (sg_name (i := 3) (fun _ => pg_name (i := 3) nd rfl (Or.inr rfl))) (sb_one (ss_if (SW.st (sw_and (st_op2 (so_ex (sv_of (se_comp (own := [("way", 4)]) (fun _ => rfl) (fun _ => nd) (si_val (fun _ => rfl) (sv_of (se_var (i := 0) (fun _ => pv 0)))) (fun _ => blkOk_by (by kernel_rfl)) (sg_name (i := 4) (fun _ => pg_name (i := 4) nd rfl (Or.inl rfl))) (by decide) (sts_one (st_op2 (so_ex (sv_of (se_comp (own := [("thing", 5)]) (fun _ => rfl) (fun _ => nd) (si_val (fun _ => rfl) (sv_of (se_var (i := 4) (fun _ => pv 4)))) (fun _ => blkOk_by (by kernel_rfl)) (sg_name (i := 5) (fun _ => pg_name (i := 5) nd rfl (Or.inl rfl))) (by decide) (sts_one (st_op2 (so_var (i := 5) (fun _ => pv 5)) (so_var (i := 3) (fun _ => pv 3)) (fun _ _ ha hb z => pt_cmpR (op_inP hr.units) (ha z) (hb z) (by with_unfolding_all rfl)) prim_rd2)) (sv_of (se_c (d := .int 1) (fun _ => pe_int) (fun _ => .int _)))))) (so_ex (sv_of (se_lst (sav_nil)))) (fun _ _ ha hb z => pt_cmpR (op_eqP hr.units) (ha z) (hb z) (nomark _)) prim_rd2)) (sv_of (se_c (d := .int 1) (fun _ => pe_int) (fun _ => .int _)))))) (so_ex (sv_of (se_lst (sav_nil)))) (fun _ _ ha hb z => pt_cmpR (op_eqP hr.units) (ha z) (hb z) (nomark _)) prim_rd2) (sw_and1 (st_op2 (so_ex (sv_of (se_compP (j := 2) (own := [("other", 6)]) (fun _ => rfl) (fun _ => nd) (fun _ => rfl) (fun _ => pv 2) (fun _ => blkOk_by (by kernel_rfl)) (sg_name (i := 6) (fun _ => pg_name (i := 6) nd rfl (Or.inl rfl))) (by decide) (sts_one (st_val (sv_of (se_call (dvs := []) (dd := []) (np := 2) (sav_cons (sv_of (se_var (i := 6) (fun _ => pv 6))) (sav_cons (sv_of (se_var (i := 3) (fun _ => pv 3))) (sav_nil))) rfl (fun _ => .nil) (fun _ h z => pe_call G_c__law_inside (hr.mono (by omega)) (by rfl) m_c__law_inside k_c__law_inside b_c__law_inside .nil pass0 (h z)))))) (sv_of (se_c (d := .int 1) (fun _ => pe_int) (fun _ => .int _)))))) (so_ex (sv_of (se_lst (sav_nil)))) (fun _ _ ha hb z => pt_cmpR (op_eqP hr.units) (ha z) (hb z) (nomark _)) prim_rd2)))) (sb_one (ss_drop (se_meth (i := 2) (sav_cons (sv_of (se_var (i := 3) (fun _ => pv 3))) (sav_nil)) (fun _ h z => pe_bm PySem.F.plainAttrs_list PySem.F.slot_list_append PySem.F.type_list_append mt_append (pv 2) (h z)) prim_append))) (sb_nil))))
    (sb_one (ss_ret (se_prim (sa_cons (so_ex (sv_of (se_prim (sa_cons (so_var (i := 2) (fun _ => pv 2)) (sa_nil)) (fun _ h z => pe_callB (cr_sortP hr.units) (by rfl) T.sorted boot_sorted (h z)) prim_sorted))) (sa_nil)) (fun _ h z => pe_callTy call_tuple_of (by rfl) T.tuple boot_tuple (h z)) prim_tuple))))
theorem ok__law_blockers (T : Txt K mg) (c__law_inside : Cal P w K mg base "_law_inside" ["one", "two"] 1 false g__law_inside []) (c__law_lots : Cal P w K mg base "_law_lots" ["things"] 1 false g__law_lots []) {f : Addr} {fd : FuncData} (F : Fun K "_law_blockers" "_law_blockers" s__law_blockers f fd) : FnOk P w K mg base CX0 2 f fd ["ways", "things"] (spF K false 2 g__law_blockers) :=
  fn_ok false F sc__law_blockers (by decide) fun cdv A outer s H E hr => sb__law_blockers T c__law_inside c__law_lots cdv A outer s H E hr
theorem sc__law_term : FnScope ["box", "most", "many", "things", "parts", "thing", "turn", "some", "one", "joined", "beside", "part", "longer", "way", "more", "kind"] ["box", "most", "many"] (defScope s__law_term) := ⟨rfl, rfl, rfl, by decide +kernel, rfl, by decide +kernel, by decide +kernel⟩
theorem sb__law_term (T : Txt K mg) (c__law_pick : Cal P w K mg base "_law_pick" ["box", "some"] 2 true g__law_pick []) (c__law_shuffled : Cal P w K mg base "_law_shuffled" ["box", "some"] 2 true g__law_shuffled []) (c__law_take : Cal P w K mg base "_law_take" ["box", "many"] 1 true g__law_take []) {f : Addr} (cdv : Value) (A : Around) (outer : List Env) (s : Shared) (H : Hp) (E : XK) (hr : Room 2 (A.deeper (envOfC "_law_term" (defScope s__law_term) s.heap.objs.size f cdv))) :
    SB (fun _ : Unit => (cxOf CX0 P w K mg base ["box", "most", "many", "things", "parts", "thing", "turn", "some", "one", "joined", "beside", "part", "longer", "way", "more", "kind"] "_law_term" (defScope s__law_term) f cdv A outer s H E).nox) K WW0 (defBody s__law_term) b__law_term := by
  obtain ⟨f_c__law_pick, fd_c__law_pick, G_c__law_pick, m_c__law_pick, k_c__law_pick, b_c__law_pick⟩ := c__law_pick.ex
  obtain ⟨f_c__law_shuffled, fd_c__law_shuffled, G_c__law_shuffled, m_c__law_shuffled, k_c__law_shuffled, b_c__law_shuffled⟩ := c__law_shuffled.ex
  obtain ⟨f_c__law_take, fd_c__law_take, G_c__law_take, m_c__law_take, k_c__law_take, b_c__law_take⟩ := c__law_take.ex
  have nd := (sc__law_term).nd
  exact sb_cons (ss_set (i := 3) (se_op2 (so_ex (sv_of (se_c (d := .int 1) (fun _ => pe_int) (fun _ => .int _)))) (so_ex (sv_of (se_callB (i := 0) (dvs := []) (dd := []) (np := 2) (fun _ => pv 0) (sav_cons (sv_of (se_var (i := 1) (fun _ => pv 1))) (sav_nil)) rfl (fun _ => .nil) (fun _ => rfl) (fun _ h z => pe_call G_c__law_take (hr.mono (by omega)) (by rfl) m_c__law_take k_c__law_take b_c__law_take .nil pass0 (h z))))) (fun _ _ ha hb z => pe_op op_addD (ha z) (hb z)) prim_add) (fun _ h z => ps_set nd rfl (Or.inl rfl) (h z)))
    (sb_cons (ss_set (i := 4) (se_comp (own := [("thing", 5)]) (fun _ => rfl) (fun _ => nd) (si_val (fun _ => rfl) (sv_of (se_callB (i := 0) (dvs := []) (dd := []) (np := 2) (fun _ => pv 0) (sav_cons (sv_of (se_lrange1 (fun _ => rfl) (fun _ => rfl) (fun _ => T.list) (fun _ => rfl) (fun _ => T.range) (sv_of (se_var (i := 3) (fun _ => pv 3))))) (sav_nil)) rfl (fun _ => .nil) (fun _ => rfl) (fun _ h z => pe_call G_c__law_shuffled (hr.mono (by omega)) (by rfl) m_c__law_shuffled k_c__law_shuffled b_c__law_shuffled .nil pass0 (h z))))) (fun _ => blkOk_by (by kernel_rfl)) (sg_name (i := 5) (fun _ => pg_name (i := 5) nd rfl (Or.inl rfl))) (by decide) (sts_nil) (sv_of (se_tup (sav_cons (sv_of (se_var (i := 5) (fun _ => pv 5))) (sav_cons (sv_of (se_lst (sav_cons (sv_of (se_tup (sav_cons (sv_of (se_var (i := 5) (fun _ => pv 5))) (sav_nil)))) (sav_nil)))) (sav_nil)))))) (fun _ h z => ps_set nd rfl (Or.inr rfl) (h z)))
    (sb_cons (ss_for (fun _ => PassesOwn.never) (fun _ => rfl) (si_range1 (fun _ => rfl) (fun _ => T.range) (sav_cons (sv_of (se_op2 (so_var (i := 3) (fun _ => pv 3)) (so_ex (sv_of (se_c (d := .int 1) (fun _ => pe_int) (fun _ => .int _)))) (fun _ _ ha hb z => pe_op op_sub (ha z) (hb z)) prim_sub)) (sav_nil))) (sg_name (i := 6) (fun _ => pg_name (i := 6) nd rfl (Or.inl rfl))) (sb_cons (ss_if (st_op2 (so_ex (sv_of (se_prim (sa_cons (so_var (i := 4) (fun _ => pv 4)) (sa_nil)) (fun _ h z => pe_callB call_len (by rfl) T.len boot_len (h z)) prim_len))) (so_ex (sv_of (se_c (d := .int 1) (fun _ => pe_int) (fun _ => .int _)))) (fun _ _ ha hb z => pt_cmpR (op_eqP hr.units) (ha z) (hb z) (nomark _)) prim_rd2) (sb_one (ss_break)) (sb_nil))
    (sb_cons (ss_setC (i := 7) (own := [("one", 8)]) (fun _ => rfl) (fun _ => nd) (fun _ => rfl) (fun _ => rfl) (fun _ => sw_true rfl rfl rfl (by decide +kernel)) (si_range1 (fun _ => rfl) (fun _ => T.range) (sav_cons (sv_of (se_prim (sa_cons (so_ex (sv_of (se_prim (sa_cons (so_var (i := 4) (fun _ => pv 4)) (sa_nil)) (fun _ h z => pe_callB call_len (by rfl) T.len boot_len (h z)) prim_len))) (sa_cons (so_ex (sv_of (se_callB (i := 0) (dvs := []) (dd := []) (np := 2) (fun _ => pv 0) (sav_cons (sv_of (se_lst (sav_cons (sv_of (se_c (d := .int 2) (fun _ => pe_int) (fun _ => .int _))) (sav_cons (sv_of (se_c (d := .int 2) (fun _ => pe_int) (fun _ => .int _))) (sav_cons (sv_of (se_c (d := .int 2) (fun _ => pe_int) (fun _ => .int _))) (sav_cons (sv_of (se_c (d := .int 3) (fun _ => pe_int) (fun _ => .int _))) (sav_nil))))))) (sav_nil)) rfl (fun _ => .nil) (fun _ => rfl) (fun _ h z => pe_call G_c__law_pick (hr.mono (by omega)) (by rfl) m_c__law_pick k_c__law_pick b_c__law_pick .nil pass0 (h z))))) (sa_nil))) (fun _ h z => pe_callB (call_min2 rfl) (by rfl) T.min boot_min (h z)) prim_min2)) (sav_nil))) (fun _ => blkOk_by (by kernel_rfl)) (sg_name (i := 8) (fun _ => pg_name (i := 8) nd rfl (Or.inl rfl))) (by decide) (sts_nil) (sv_of (se_meth (i := 4) (sav_cons (sv_of (se_callB (i := 0) (dvs := []) (dd := []) (np := 2) (fun _ => pv 0) (sav_cons (sv_of (se_prim (sa_cons (so_var (i := 4) (fun _ => pv 4)) (sa_nil)) (fun _ h z => pe_callB call_len (by rfl) T.len boot_len (h z)) prim_len)) (sav_nil)) rfl (fun _ => .nil) (fun _ => rfl) (fun _ h z => pe_call G_c__law_take (hr.mono (by omega)) (by rfl) m_c__law_take k_c__law_take b_c__law_take .nil pass0 (h z)))) (sav_nil)) (fun _ h z => pe_bm PySem.F.plainAttrs_list PySem.F.slot_list_pop PySem.F.type_list_pop mt_popAt (pv 4) (h z)) prim_popAt)))
    (sb_cons (ss_parA (by decide) (sar_cons (se_lst (sav_cons (sv_of (se_tup (sav_nil))) (sav_nil))) (sar_cons (se_lst (sav_nil)) (sar_nil))) (fun _ h z => ps_par rfl nd rfl rfl (by decide) rfl rfl (h z) rfl))
    (sb_cons (ss_for (fun _ => PassesOwn.never) (fun _ => rfl) (si_val (fun _ => rfl) (sv_of (se_var (i := 7) (fun _ => pv 7)))) (sg_name (i := 11) (fun _ => pg_name (i := 11) nd rfl (Or.inl rfl))) (sb_cons (ss_set (i := 12) (se_lst (sav_nil)) (fun _ h z => ps_set nd rfl (Or.inl rfl) (h z)))
    (sb_cons (ss_for (fun _ => PassesOwn.never) (fun _ => rfl) (si_val (fun _ => rfl) (sv_of (se_var (i := 9) (fun _ => pv 9)))) (sg_name (i := 13) (fun _ => pg_name (i := 13) nd rfl (Or.inr rfl))) (sb_one (ss_set (i := 12) (se_op2 (so_var (i := 12) (fun _ => pv 12)) (so_ex (sv_of (se_comp (own := [("more", 14)]) (fun _ => rfl) (fun _ => nd) (si_val (fun _ => rfl) (sv_of (se_op2 (so_var (i := 11) (fun _ => pv 11)) (so_ex (sv_of (se_c (d := .int 1) (fun _ => pe_int) (fun _ => .int _)))) (fun _ _ ha hb z => pe_ix ix_seq (ha z) (hb z) (fun _ _ => rfl)) prim_ix))) (fun _ => blkOk_by (by kernel_rfl)) (sg_name (i := 14) (fun _ => pg_name (i := 14) nd rfl (Or.inl rfl))) (by decide) (sts_nil) (sv_of (se_prim (sa_cons (so_ex (sv_of (se_prim (sa_cons (so_ex (sv_of (se_op2 (so_var (i := 13) (fun _ => pv 13)) (so_var (i := 14) (fun _ => pv 14)) (fun _ _ ha hb z => pe_op op_addD (ha z) (hb z)) prim_add))) (sa_nil)) (fun _ h z => pe_callB (cr_sortP hr.units) (by rfl) T.sorted boot_sorted (h z)) prim_sorted))) (sa_nil)) (fun _ h z => pe_callTy call_tuple_of (by rfl) T.tuple boot_tuple (h z)) prim_tuple))))) (fun _ _ ha hb z => pe_op op_addD (ha z) (hb z)) prim_add) (fun _ h z => ps_set nd rfl (Or.inl rfl) (h z)))))
    (sb_one (ss_parA (by decide) (sar_cons (se_var (i := 12) (fun _ => pv 12)) (sar_cons (se_op2 (so_var (i := 10) (fun _ => pv 10)) (so_ex (sv_of (se_op2 (so_var (i := 11) (fun _ => pv 11)) (so_ex (sv_of (se_c (d := .int 1) (fun _ => pe_int) (fun _ => .int _)))) (fun _ _ ha hb z => pe_ix ix_seq (ha z) (hb z) (fun _ _ => rfl)) prim_ix))) (fun _ _ ha hb z => pe_op op_addD (ha z) (hb z)) prim_add) (sar_nil))) (fun _ h z => ps_par rfl nd rfl rfl (by decide) rfl rfl (h z) rfl))))))
    (sb_cons (ss_set (i := 15) (se_if (SW.st (sw_and (st_op2 (so_ex (sv_of (se_callB (i := 0) (dvs := []) (dd := []) (np := 2) (fun _ => pv 0) (sav_cons (sv_of (se_c (d := .int 2) (fun _ => pe_int) (fun _ => .int _))) (sav_nil)) rfl (fun _ => .nil) (fun _ => rfl) (fun _ h z => pe_call G_c__law_take (hr.mono (by omega)) (by rfl) m_c__law_take k_c__law_take b_c__law_take .nil pass0 (h z))))) (so_ex (sv_of (se_c (d := .int 0) (fun _ => pe_int) (fun _ => .int _)))) (fun _ _ ha hb z => pt_cmpR (op_eqP hr.units) (ha z) (hb z) (nomark _)) prim_rd2) (sw_and1 (st_op2 (so_ex (sv_of (se_prim (sa_cons (so_var (i := 9) (fun _ => pv 9)) (sa_nil)) (fun _ h z => pe_callB call_len (by rfl) T.len boot_len (h z)) prim_len))) (so_var (i := 2) (fun _ => pv 2)) (fun _ _ ha hb z => pt_cmpR (op_leD hr.units) (ha z) (hb z) (nomark _)) prim_rd2)))) (se_c (d := .str "row") (fun _ => pe_str) (fun _ => .str _)) (se_c (d := .str "side") (fun _ => pe_str) (fun _ => .str _))) (fun _ h z => ps_set nd rfl (Or.inl rfl) (h z)))
    (sb_one (ss_drop (se_meth (i := 4) (sav_cons (sv_of (se_tup (sav_cons (sv_of (se_tup (sav_cons (sv_of (se_var (i := 15) (fun _ => pv 15))) (sav_cons (sv_of (se_prim (sa_cons (so_ex (sv_of (se_comp (own := [("part", 11)]) (fun _ => rfl) (fun _ => nd) (si_val (fun _ => rfl) (sv_of (se_var (i := 7) (fun _ => pv 7)))) (fun _ => blkOk_by (by kernel_rfl)) (sg_name (i := 11) (fun _ => pg_name (i := 11) nd rfl (Or.inl rfl))) (by decide) (sts_nil) (sv_of (se_op2 (so_var (i := 11) (fun _ => pv 11)) (so_ex (sv_of (se_c (d := .int 0) (fun _ => pe_int) (fun _ => .int _)))) (fun _ _ ha hb z => pe_ix ix_seq (ha z) (hb z) (fun _ _ => rfl)) prim_ix))))) (sa_nil)) (fun _ h z => pe_callTy call_tuple_of (by rfl) T.tuple boot_tuple (h z)) prim_tuple)) (sav_nil))))) (sav_cons (sv_of (se_if (st_op2 (so_var (i := 15) (fun _ => pv 15)) (so_ex (sv_of (se_c (d := .str "row") (fun _ => pe_str) (fun _ => .str _)))) (fun _ _ ha hb z => pt_cmpR (op_eqP hr.units) (ha z) (hb z) (nomark _)) prim_rd2) (se_var (i := 9) (fun _ => pv 9)) (se_var (i := 10) (fun _ => pv 10)))) (sav_nil))))) (sav_nil)) (fun _ h z => pe_bm PySem.F.plainAttrs_list PySem.F.slot_list_append PySem.F.type_list_append mt_append (pv 4) (h z)) prim_append)))))))))
    (sb_one (ss_ret (se_tup (sav_cons (sv_of (se_op2 (so_ex (sv_of (se_op2 (so_var (i := 4) (fun _ => pv 4)) (so_ex (sv_of (se_c (d := .int 0) (fun _ => pe_int) (fun _ => .int _)))) (fun _ _ ha hb z => pe_ix ix_seq (ha z) (hb z) (fun _ _ => rfl)) prim_ix))) (so_ex (sv_of (se_c (d := .int 0) (fun _ => pe_int) (fun _ => .int _)))) (fun _ _ ha hb z => pe_ix ix_seq (ha z) (hb z) (fun _ _ => rfl)) prim_ix)) (sav_cons (sv_of (se_prim (sa_cons (so_ex (sv_of (se_prim (sa_cons (so_ex (sv_of (se_op2 (so_ex (sv_of (se_op2 (so_var (i := 4) (fun _ => pv 4)) (so_ex (sv_of (se_c (d := .int 0) (fun _ => pe_int) (fun _ => .int _)))) (fun _ _ ha hb z => pe_ix ix_seq (ha z) (hb z) (fun _ _ => rfl)) prim_ix))) (so_ex (sv_of (se_c (d := .int 1) (fun _ => pe_int) (fun _ => .int _)))) (fun _ _ ha hb z => pe_ix ix_seq (ha z) (hb z) (fun _ _ => rfl)) prim_ix))) (sa_nil)) (fun _ h z => pe_callB (cr_sortP hr.units) (by rfl) T.sorted boot_sorted (h z)) prim_sorted))) (sa_nil)) (fun _ h z => pe_callTy call_tuple_of (by rfl) T.tuple boot_tuple (h z)) prim_tuple)) (sav_nil))))))))
theorem ok__law_term (T : Txt K mg) (c__law_pick : Cal P w K mg base "_law_pick" ["box", "some"] 2 true g__law_pick []) (c__law_shuffled : Cal P w K mg base "_law_shuffled" ["box", "some"] 2 true g__law_shuffled []) (c__law_take : Cal P w K mg base "_law_take" ["box", "many"] 1 true g__law_take []) {f : Addr} {fd : FuncData} (F : Fun K "_law_term" "_law_term" s__law_term f fd) : FnOk P w K mg base CX0 3 f fd ["box", "most", "many"] (spF K true 3 g__law_term) :=
  fn_ok true F sc__law_term (by decide) fun cdv A outer s H E hr => sb__law_term T c__law_pick c__law_shuffled c__law_take cdv A outer s H E hr
theorem sc__law_rows : FnScope ["term", "rows", "stack", "turn", "one", "ahead", "things", "number"] ["term"] (defScope s__law_rows) := ⟨rfl, rfl, rfl, by decide +kernel, rfl, by decide +kernel, by decide +kernel⟩
theorem sb__law_rows (T : Txt K mg) {f : Addr} (cdv : Value) (A : Around) (outer : List Env) (s : Shared) (H : Hp) (E : XK) (hr : Room 0 (A.deeper (envOfC "_law_rows" (defScope s__law_rows) s.heap.objs.size f cdv))) :
    SB (fun _ : Unit => (cxOf CX0 P w K mg base ["term", "rows", "stack", "turn", "one", "ahead", "things", "number"] "_law_rows" (defScope s__law_rows) f cdv A outer s H E).nox) K WW0 (defBody s__law_rows) b__law_rows := by
  have nd := (sc__law_rows).nd
  exact sb_cons (ss_init (i := 1) (j := 2) false (by decide) (se_lst (sav_nil)) (sar_cons (se_val (sv_of (se_var (i := 0) (fun _ => pv 0)))) (sar_cons (se_lst (sav_nil)) (sar_nil))) (fun _ h z => pe_lst (h z)) (fun _ h z => ps_par rfl nd rfl rfl (by decide) rfl rfl (h z) rfl))
    (sb_cons (ss_for (fun _ => PassesOwn.never) (fun _ => rfl) (si_range1 (fun _ => rfl) (fun _ => T.range) (sav_cons (sv_of (se_c (d := .int 200) (fun _ => pe_int) (fun _ => .int _))) (sav_nil))) (sg_name (i := 3) (fun _ => pg_name (i := 3) nd rfl (Or.inl rfl))) (sb_cons (ss_if (st_eqS (j := 2) (neg := false) (fun _ => pv 2) (fun _ _ ha hb z => pt_cmpR (eqNil2 hr.units) (ha z) (hb z) (nomark _))) (sb_one (ss_break)) (sb_nil))
    (sb_cons (ss_borrow (is := [4]) (ia := 5) (j := 2) (by decide) (by decide) (fun _ => pv 2) (sv_of (se_op1 (so_ex (sv_of (se_c (d := .int 1) (fun _ => pe_int) (fun _ => .int _)))) (fun _ h z => pe_un un_neg (h z)) prim_neg)) (fun _ _ ha hb z => ps_asg (pe_ix ix_seq (ha z) (hb z) (fun _ _ => rfl)) (pg_any (pg_tup rfl (pgs_cons (pg_name (i := 4) nd rfl (Or.inl rfl)) (pgs_cons (pg_name (i := 5) nd rfl (Or.inl rfl)) pgs_nil))) (pg_unl rfl (pgs_cons (pg_name (i := 4) nd rfl (Or.inl rfl)) (pgs_cons (pg_name (i := 5) nd rfl (Or.inl rfl)) pgs_nil))))))
    (sb_cons (ss_if (SW.st (sw_and (st_val (sv_of (se_isi (so_var (i := 4) (fun _ => pv 4)) (fun _ => pe_bltn (by rfl) T.tuple boot_tuple rfl) kit_tuple (fun _ => rfl) (fun _ => rfl) (fun _ h z => pe_callB call_isi (by rfl) T.isinstance boot_isinstance (h z))))) (sw_and1 (st_op2 (so_ex (sv_of (se_prim (sa_cons (so_var (i := 5) (fun _ => pv 5)) (sa_nil)) (fun _ h z => pe_callB call_len (by rfl) T.len boot_len (h z)) prim_len))) (so_ex (sv_of (se_prim (sa_cons (so_ex (sv_of (se_op2 (so_var (i := 4) (fun _ => pv 4)) (so_ex (sv_of (se_c (d := .int 1) (fun _ => pe_int) (fun _ => .int _)))) (fun _ _ ha hb z => pe_ix ix_seq (ha z) (hb z) (fun _ _ => rfl)) prim_ix))) (sa_nil)) (fun _ h z => pe_callB call_len (by rfl) T.len boot_len (h z)) prim_len))) (fun _ _ ha hb z => pt_cmpR (op_ltD hr.units) (ha z) (hb z) (nomark _)) prim_rd2)))) (sb_cons (ss_push (j := 2) false (sar_cons (se_val (sv_of (se_op2 (so_ex (sv_of (se_op2 (so_var (i := 4) (fun _ => pv 4)) (so_ex (sv_of (se_c (d := .int 1) (fun _ => pe_int) (fun _ => .int _)))) (fun _ _ ha hb z => pe_ix ix_seq (ha z) (hb z) (fun _ _ => rfl)) prim_ix))) (so_ex (sv_of (se_prim (sa_cons (so_var (i := 5) (fun _ => pv 5)) (sa_nil)) (fun _ h z => pe_callB call_len (by rfl) T.len boot_len (h z)) prim_len))) (fun _ _ ha hb z => pe_ix ix_seq (ha z) (hb z) (fun _ _ => rfl)) prim_ix))) (sar_cons (se_lst (sav_nil)) (sar_nil))) (fun _ h z => pe_lst (h z)) (fun _ h z => pe_bm PySem.F.plainAttrs_list PySem.F.slot_list_append PySem.F.type_list_append mt_append (pv 2) (h z)))
    (sb_one (ss_cont))) (sb_nil))
    (sb_cons (ss_if (st_val (sv_of (se_isi (so_var (i := 4) (fun _ => pv 4)) (fun _ => pe_bltn (by rfl) T.tuple boot_tuple rfl) kit_tuple (fun _ => rfl) (fun _ => rfl) (fun _ h z => pe_callB call_isi (by rfl) T.isinstance boot_isinstance (h z))))) (sb_cons (ss_set (i := 6) (se_lst (sav_nil)) (fun _ h z => ps_set nd rfl (Or.inl rfl) (h z)))
    (sb_cons (ss_for (fun _ => PassesOwn.never) (fun _ => rfl) (si_val (fun _ => rfl) (sv_of (se_var (i := 5) (fun _ => pv 5)))) (sg_name (i := 7) (fun _ => pg_name (i := 7) nd rfl (Or.inl rfl))) (sb_one (ss_set (i := 6) (se_op2 (so_var (i := 6) (fun _ => pv 6)) (so_ex (sv_of (se_prim (sa_cons (so_ex (sv_of (se_op2 (so_ex (sv_of (se_op2 (so_var (i := 1) (fun _ => pv 1)) (so_var (i := 7) (fun _ => pv 7)) (fun _ _ ha hb z => pe_ix ix_seq (ha z) (hb z) (fun _ _ => rfl)) prim_ix))) (so_ex (sv_of (se_c (d := .int 2) (fun _ => pe_int) (fun _ => .int _)))) (fun _ _ ha hb z => pe_ix ix_seq (ha z) (hb z) (fun _ _ => rfl)) prim_ix))) (sa_nil)) (fun _ h z => pe_callTy call_list_of (by rfl) T.list boot_list (h z)) prim_list))) (fun _ _ ha hb z => pe_op op_addD (ha z) (hb z)) prim_add) (fun _ h z => ps_set nd rfl (Or.inl rfl) (h z)))))
    (sb_one (ss_drop (se_meth (i := 1) (sav_cons (sv_of (se_tup (sav_cons (sv_of (se_op2 (so_var (i := 4) (fun _ => pv 4)) (so_ex (sv_of (se_c (d := .int 0) (fun _ => pe_int) (fun _ => .int _)))) (fun _ _ ha hb z => pe_ix ix_seq (ha z) (hb z) (fun _ _ => rfl)) prim_ix)) (sav_cons (sv_of (se_prim (sa_cons (so_var (i := 5) (fun _ => pv 5)) (sa_nil)) (fun _ h z => pe_callTy call_tuple_of (by rfl) T.tuple boot_tuple (h z)) prim_tuple)) (sav_cons (sv_of (se_prim (sa_cons (so_ex (sv_of (se_prim (sa_cons (so_var (i := 6) (fun _ => pv 6)) (sa_nil)) (fun _ h z => pe_callB (cr_sortP hr.units) (by rfl) T.sorted boot_sorted (h z)) prim_sorted))) (sa_nil)) (fun _ h z => pe_callTy call_tuple_of (by rfl) T.tuple boot_tuple (h z)) prim_tuple)) (sav_nil)))))) (sav_nil)) (fun _ h z => pe_bm PySem.F.plainAttrs_list PySem.F.slot_list_append PySem.F.type_list_append mt_append (pv 1) (h z)) prim_append))))) (sb_one (ss_drop (se_meth (i := 1) (sav_cons (sv_of (se_tup (sav_cons (sv_of (se_c (d := .none) (fun _ => pe_non) (fun _ => .non))) (sav_cons (sv_of (se_tup (sav_nil))) (sav_cons (sv_of (se_tup (sav_cons (sv_of (se_var (i := 4) (fun _ => pv 4))) (sav_nil)))) (sav_nil)))))) (sav_nil)) (fun _ h z => pe_bm PySem.F.plainAttrs_list PySem.F.slot_list_append PySem.F.type_list_append mt_append (pv 1) (h z)) prim_append))))
    (sb_cons (ss_popS (j := 2) (fun z => pe_bm0 PySem.F.plainAttrs_list PySem.F.slot_list_pop PySem.F.type_list_pop mt_pop (pv 2)))
    (sb_one (ss_if (st_eqS (j := 2) (neg := true) (fun _ => pv 2) (fun _ _ ha hb z => pt_cmpR (neNil2 hr.units) (ha z) (hb z) (nomark _))) (sb_one (ss_topApp (j := 2) (fun _ => pv 2) (sv_of (se_op1 (so_ex (sv_of (se_c (d := .int 1) (fun _ => pe_int) (fun _ => .int _)))) (fun _ h z => pe_un un_neg (h z)) prim_neg)) (sv_of (se_c (d := .int 1) (fun _ => pe_int) (fun _ => .int _))) (sv_of (se_op2 (so_ex (sv_of (se_prim (sa_cons (so_var (i := 1) (fun _ => pv 1)) (sa_nil)) (fun _ h z => pe_callB call_len (by rfl) T.len boot_len (h z)) prim_len))) (so_ex (sv_of (se_c (d := .int 1) (fun _ => pe_int) (fun _ => .int _)))) (fun _ _ ha hb z => pe_op op_sub (ha z) (hb z)) prim_sub)) (fun _ _ _ _ ha hb hc h z => pe_bm PySem.F.plainAttrs_list PySem.F.slot_list_append PySem.F.type_list_append mt_append (pe_ix ix_seq (pe_ix ix_seq (ha z) (hb z) (fun _ _ => rfl)) (hc z) (fun _ _ => rfl)) (h z)))) (sb_nil)))))))))
    (sb_one (ss_ret (se_move (i := 1) (fun _ => pv 1)))))
theorem ok__law_rows (T : Txt K mg) {f : Addr} {fd : FuncData} (F : Fun K "_law_rows" "_law_rows" s__law_rows f fd) : FnOk P w K mg base CX0 1 f fd ["term"] (spF K false 1 g__law_rows) :=
  fn_ok false F sc__law_rows (by decide) fun cdv A outer s H E hr => sb__law_rows T  cdv A outer s H E hr
theorem sc__law_widths : FnScope ["box", "things", "most", "thing"] ["box", "things"] (defScope s__law_widths) := ⟨rfl, rfl, rfl, by decide +kernel, rfl, by decide +kernel, by decide +kernel⟩
theorem sb__law_widths (T : Txt K mg) (c__law_pick : Cal P w K mg base "_law_pick" ["box", "some"] 2 true g__law_pick []) (c__law_take : Cal P w K mg base "_law_take" ["box", "many"] 1 true g__law_take []) {f : Addr} (cdv : Value) (A : Around) (outer : List Env) (s : Shared) (H : Hp) (E : XK) (hr : Room 2 (A.deeper (envOfC "_law_widths" (defScope s__law_widths) s.heap.objs.size f cdv))) :
    SB (fun _ : Unit => (cxOf CX0 P w K mg base ["box", "things", "most", "thing"] "_law_widths" (defScope s__law_widths) f cdv A outer s H E).nox) K WW0 (defBody s__law_widths) b__law_widths := by
  obtain ⟨f_c__law_pick, fd_c__law_pick, G_c__law_pick, m_c__law_pick, k_c__law_pick, b_c__law_pick⟩ := c__law_pick.ex
  obtain ⟨f_c__law_take, fd_c__law_take, G_c__law_take, m_c__law_take, k_c__law_take, b_c__law_take⟩ := c__law_take.ex
  have nd := (sc__law_widths).nd
  exact sb_cons (ss_set (i := 2) (se_callB (i := 0) (dvs := []) (dd := []) (np := 2) (fun _ => pv 0) (sav_cons (sv_of (se_lst (sav_cons (sv_of (se_c (d := .int 1) (fun _ => pe_int) (fun _ => .int _))) (sav_cons (sv_of (se_c (d := .int 2) (fun _ => pe_int) (fun _ => .int _))) (sav_cons (sv_of (se_c (d := .int 3) (fun _ => pe_int) (fun _ => .int _))) (sav_nil)))))) (sav_nil)) rfl (fun _ => .nil) (fun _ => rfl) (fun _ h z => pe_call G_c__law_pick (hr.mono (by omega)) (by rfl) m_c__law_pick k_c__law_pick b_c__law_pick .nil pass0 (h z))) (fun _ h z => ps_set nd rfl (Or.inr rfl) (h z)))
    (sb_one (ss_ret (se_prim (sa_cons (so_ex (sv_of (se_comp (own := [("thing", 3)]) (fun _ => rfl) (fun _ => nd) (si_range1 (fun _ => rfl) (fun _ => T.range) (sav_cons (sv_of (se_var (i := 1) (fun _ => pv 1))) (sav_nil))) (fun _ => blkOk_by (by kernel_rfl)) (sg_name (i := 3) (fun _ => pg_name (i := 3) nd rfl (Or.inl rfl))) (by decide) (sts_nil) (sv_of (se_if (st_op2 (so_ex (sv_of (se_callB (i := 0) (dvs := []) (dd := []) (np := 2) (fun _ => pv 0) (sav_cons (sv_of (se_c (d := .int 4) (fun _ => pe_int) (fun _ => .int _))) (sav_nil)) rfl (fun _ => .nil) (fun _ => rfl) (fun _ h z => pe_call G_c__law_take (hr.mono (by omega)) (by rfl) m_c__law_take k_c__law_take b_c__law_take .nil pass0 (h z))))) (so_ex (sv_of (se_c (d := .int 0) (fun _ => pe_int) (fun _ => .int _)))) (fun _ _ ha hb z => pt_cmpR (op_gtD hr.units) (ha z) (hb z) (nomark _)) prim_rd2) (se_callB (i := 0) (dvs := []) (dd := []) (np := 2) (fun _ => pv 0) (sav_cons (sv_of (se_op2 (so_var (i := 2) (fun _ => pv 2)) (so_ex (sv_of (se_c (d := .int 1) (fun _ => pe_int) (fun _ => .int _)))) (fun _ _ ha hb z => pe_op op_addD (ha z) (hb z)) prim_add)) (sav_nil)) rfl (fun _ => .nil) (fun _ => rfl) (fun _ h z => pe_call G_c__law_take (hr.mono (by omega)) (by rfl) m_c__law_take k_c__law_take b_c__law_take .nil pass0 (h z))) (se_var (i := 2) (fun _ => pv 2))))))) (sa_nil)) (fun _ h z => pe_callTy call_tuple_of (by rfl) T.tuple boot_tuple (h z)) prim_tuple)))
theorem ok__law_widths (T : Txt K mg) (c__law_pick : Cal P w K mg base "_law_pick" ["box", "some"] 2 true g__law_pick []) (c__law_take : Cal P w K mg base "_law_take" ["box", "many"] 1 true g__law_take []) {f : Addr} {fd : FuncData} (F : Fun K "_law_widths" "_law_widths" s__law_widths f fd) : FnOk P w K mg base CX0 3 f fd ["box", "things"] (spF K true 2 g__law_widths) :=
  fn_ok true F sc__law_widths (by decide) fun cdv A outer s H E hr => sb__law_widths T c__law_pick c__law_take cdv A outer s H E hr
theorem sc__law_cut : FnScope ["term", "widths", "told", "kind", "numbers", "things", "parts", "number", "lot", "part"] ["term", "widths"] (defScope s__law_cut) := ⟨rfl, rfl, rfl, by decide +kernel, rfl, by decide +kernel, by decide +kernel⟩
theorem sb__law_cut (T : Txt K mg) (c__law_rows : Cal P w K mg base "_law_rows" ["term"] 1 false g__law_rows []) {f : Addr} (cdv : Value) (A : Around) (outer : List Env) (s : Shared) (H : Hp) (E : XK) (hr : Room 1 (A.deeper (envOfC "_law_cut" (defScope s__law_cut) s.heap.objs.size f cdv))) :
    SB (fun _ : Unit => (cxOf CX0 P w K mg base ["term", "widths", "told", "kind", "numbers", "things", "parts", "number", "lot", "part"] "_law_cut" (defScope s__law_cut) f cdv A outer s H E).nox) K WW0 (defBody s__law_cut) b__law_cut := by
  obtain ⟨f_c__law_rows, fd_c__law_rows, G_c__law_rows, m_c__law_rows, k_c__law_rows, b_c__law_rows⟩ := c__law_rows.ex
  have nd := (sc__law_cut).nd
  exact sb_cons (ss_set (i := 2) (se_lst (sav_nil)) (fun _ h z => ps_set nd rfl (Or.inr rfl) (h z)))
    (sb_cons (ss_for (fun _ => PassesOwn.never) (fun _ => rfl) (si_val (fun _ => rfl) (sv_of (se_call (dvs := []) (dd := []) (np := 1) (sav_cons (sv_of (se_var (i := 0) (fun _ => pv 0))) (sav_nil)) rfl (fun _ => .nil) (fun _ h z => pe_call G_c__law_rows (hr.mono (by omega)) (by rfl) m_c__law_rows k_c__law_rows b_c__law_rows .nil pass0 (h z))))) (sg_tup (is := [3, 4, 5]) (fun _ => pg_tup rfl (pgs_cons (pg_name (i := 3) nd rfl (Or.inl rfl)) (pgs_cons (pg_name (i := 4) nd rfl (Or.inl rfl)) (pgs_cons (pg_name (i := 5) nd rfl (Or.inl rfl)) pgs_nil))))) (sb_cons (ss_setC (i := 6) (own := [("number", 7)]) (fun _ => rfl) (fun _ => nd) (fun _ => rfl) (fun _ => rfl) (fun _ => sw_true rfl rfl rfl (by decide +kernel)) (si_val (fun _ => rfl) (sv_of (se_var (i := 4) (fun _ => pv 4)))) (fun _ => blkOk_by (by kernel_rfl)) (sg_name (i := 7) (fun _ => pg_name (i := 7) nd rfl (Or.inl rfl))) (by decide) (sts_nil) (sv_of (se_op2 (so_var (i := 2) (fun _ => pv 2)) (so_var (i := 7) (fun _ => pv 7)) (fun _ _ ha hb z => pe_ix ix_seq (ha z) (hb z) (fun _ _ => rfl)) prim_ix)))
    (sb_one (ss_if (st_op2 (so_var (i := 3) (fun _ => pv 3)) (so_ex (sv_of (se_c (d := .none) (fun _ => pe_non) (fun _ => .non)))) (fun _ _ ha hb z => pt_cmpR op_isN (ha z) (hb z) (nomark _)) prim_isN) (sb_one (ss_drop (se_meth (i := 2) (sav_cons (sv_of (se_tup (sav_cons (sv_of (se_op2 (so_var (i := 1) (fun _ => pv 1)) (so_ex (sv_of (se_op2 (so_var (i := 5) (fun _ => pv 5)) (so_ex (sv_of (se_c (d := .int 0) (fun _ => pe_int) (fun _ => .int _)))) (fun _ _ ha hb z => pe_ix ix_seq (ha z) (hb z) (fun _ _ => rfl)) prim_ix))) (fun _ _ ha hb z => pe_ix ix_seq (ha z) (hb z) (fun _ _ => rfl)) prim_ix)) (sav_cons (sv_of (se_var (i := 5) (fun _ => pv 5))) (sav_nil))))) (sav_nil)) (fun _ h z => pe_bm PySem.F.plainAttrs_list PySem.F.slot_list_append PySem.F.type_list_append mt_append (pv 2) (h z)) prim_append))) (sb_one (ss_if (st_op2 (so_var (i := 3) (fun _ => pv 3)) (so_ex (sv_of (se_c (d := .str "row") (fun _ => pe_str) (fun _ => .str _)))) (fun _ _ ha hb z => pt_cmpR (op_eqP hr.units) (ha z) (hb z) (nomark _)) prim_rd2) (sb_one (ss_drop (se_meth (i := 2) (sav_cons (sv_of (se_prim (sa_cons (so_var (i := 6) (fun _ => pv 6)) (sa_nil)) (fun _ h z => pe_callB (cr_minA rfl hr.units) (by rfl) T.min boot_min (h z)) prim_minA)) (sav_nil)) (fun _ h z => pe_bm PySem.F.plainAttrs_list PySem.F.slot_list_append PySem.F.type_list_append mt_append (pv 2) (h z)) prim_append))) (sb_cons (ss_set (i := 8) (se_lst (sav_nil)) (fun _ h z => ps_set nd rfl (Or.inl rfl) (h z)))
    (sb_cons (ss_for (fun _ => PassesOwn.never) (fun _ => rfl) (si_val (fun _ => rfl) (sv_of (se_var (i := 6) (fun _ => pv 6)))) (sg_name (i := 9) (fun _ => pg_name (i := 9) nd rfl (Or.inl rfl))) (sb_one (ss_set (i := 8) (se_op2 (so_var (i := 8) (fun _ => pv 8)) (so_ex (sv_of (se_prim (sa_cons (so_ex (sv_of (se_op2 (so_var (i := 9) (fun _ => pv 9)) (so_ex (sv_of (se_c (d := .int 1) (fun _ => pe_int) (fun _ => .int _)))) (fun _ _ ha hb z => pe_ix ix_seq (ha z) (hb z) (fun _ _ => rfl)) prim_ix))) (sa_nil)) (fun _ h z => pe_callTy call_list_of (by rfl) T.list boot_list (h z)) prim_list))) (fun _ _ ha hb z => pe_op op_addD (ha z) (hb z)) prim_add) (fun _ h z => ps_set nd rfl (Or.inl rfl) (h z)))))
    (sb_one (ss_drop (se_meth (i := 2) (sav_cons (sv_of (se_tup (sav_cons (sv_of (se_prim (sa_cons (so_ex (sv_of (se_comp (own := [("part", 9)]) (fun _ => rfl) (fun _ => nd) (si_val (fun _ => rfl) (sv_of (se_var (i := 6) (fun _ => pv 6)))) (fun _ => blkOk_by (by kernel_rfl)) (sg_name (i := 9) (fun _ => pg_name (i := 9) nd rfl (Or.inl rfl))) (by decide) (sts_nil) (sv_of (se_op2 (so_var (i := 9) (fun _ => pv 9)) (so_ex (sv_of (se_c (d := .int 0) (fun _ => pe_int) (fun _ => .int _)))) (fun _ _ ha hb z => pe_ix ix_seq (ha z) (hb z) (fun _ _ => rfl)) prim_ix))))) (sa_nil)) (fun _ h z => pe_callB (cr_sum rfl) (by rfl) T.sum boot_sum (h z)) prim_sum)) (sav_cons (sv_of (se_prim (sa_cons (so_ex (sv_of (se_prim (sa_cons (so_var (i := 8) (fun _ => pv 8)) (sa_nil)) (fun _ h z => pe_callB (cr_sortP hr.units) (by rfl) T.sorted boot_sorted (h z)) prim_sorted))) (sa_nil)) (fun _ h z => pe_callTy call_tuple_of (by rfl) T.tuple boot_tuple (h z)) prim_tuple)) (sav_nil))))) (sav_nil)) (fun _ h z => pe_bm PySem.F.plainAttrs_list PySem.F.slot_list_append PySem.F.type_list_append mt_append (pv 2) (h z)) prim_append)))))))))))
    (sb_one (ss_ret (se_op2 (so_var (i := 2) (fun _ => pv 2)) (so_ex (sv_of (se_op1 (so_ex (sv_of (se_c (d := .int 1) (fun _ => pe_int) (fun _ => .int _)))) (fun _ h z => pe_un un_neg (h z)) prim_neg))) (fun _ _ ha hb z => pe_ix ix_seq (ha z) (hb z) (fun _ _ => rfl)) prim_ix))))
theorem ok__law_cut (T : Txt K mg) (c__law_rows : Cal P w K mg base "_law_rows" ["term"] 1 false g__law_rows []) {f : Addr} {fd : FuncData} (F : Fun K "_law_cut" "_law_cut" s__law_cut f fd) : FnOk P w K mg base CX0 2 f fd ["term", "widths"] (spF K false 2 g__law_cut) :=
  fn_ok false F sc__law_cut (by decide) fun cdv A outer s H E hr => sb__law_cut T c__law_rows cdv A outer s H E hr
theorem sc__law_is_cut : FnScope ["family", "widths", "told", "lot", "thing", "one", "two", "way"] ["family", "widths", "told"] (defScope s__law_is_cut) := ⟨rfl, rfl, rfl, by decide +kernel, rfl, by decide +kernel, by decide +kernel⟩
theorem sb__law_is_cut (T : Txt K mg) {f : Addr} (cdv : Value) (A : Around) (outer : List Env) (s : Shared) (H : Hp) (E : XK) (hr : Room 0 (A.deeper (envOfC "_law_is_cut" (defScope s__law_is_cut) s.heap.objs.size f cdv))) :
    SB (fun _ : Unit => (cxOf CX0 P w K mg base ["family", "widths", "told", "lot", "thing", "one", "two", "way"] "_law_is_cut" (defScope s__law_is_cut) f cdv A outer s H E).nox) K WW0 (defBody s__law_is_cut) b__law_is_cut := by
  have nd := (sc__law_is_cut).nd
  exact sb_cons (ss_if (SW.st (sw_or (st_not (st_val (sv_of (se_isi (so_var (i := 2) (fun _ => pv 2)) (fun _ => pe_bltn (by rfl) T.tuple boot_tuple rfl) kit_tuple (fun _ => rfl) (fun _ => rfl) (fun _ h z => pe_callB call_isi (by rfl) T.isinstance boot_isinstance (h z)))))) (sw_or (st_op2 (so_ex (sv_of (se_prim (sa_cons (so_var (i := 2) (fun _ => pv 2)) (sa_nil)) (fun _ h z => pe_callB call_len (by rfl) T.len boot_len (h z)) prim_len))) (so_ex (sv_of (se_c (d := .int 2) (fun _ => pe_int) (fun _ => .int _)))) (fun _ _ ha hb z => pt_cmpR (op_neP hr.units) (ha z) (hb z) (nomark _)) prim_rd2) (sw_or (st_not (st_val (sv_of (se_isi (so_ex (sv_of (se_op2 (so_var (i := 2) (fun _ => pv 2)) (so_ex (sv_of (se_c (d := .int 0) (fun _ => pe_int) (fun _ => .int _)))) (fun _ _ ha hb z => pe_ix ix_seq (ha z) (hb z) (fun _ _ => rfl)) prim_ix))) (fun _ => pe_bltn (by rfl) T.int boot_int rfl) kit_int (fun _ => rfl) (fun _ => rfl) (fun _ h z => pe_callB call_isi (by rfl) T.isinstance boot_isinstance (h z)))))) (sw_or (st_val (sv_of (se_isi (so_ex (sv_of (se_op2 (so_var (i := 2) (fun _ => pv 2)) (so_ex (sv_of (se_c (d := .int 0) (fun _ => pe_int) (fun _ => .int _)))) (fun _ _ ha hb z => pe_ix ix_seq (ha z) (hb z) (fun _ _ => rfl)) prim_ix))) (fun _ => pe_bltn (by rfl) T.bool boot_bool rfl) kit_bool (fun _ => rfl) (fun _ => rfl) (fun _ h z => pe_callB call_isi (by rfl) T.isinstance boot_isinstance (h z))))) (sw_or1 (st_not (st_val (sv_of (se_isi (so_ex (sv_of (se_op2 (so_var (i := 2) (fun _ => pv 2)) (so_ex (sv_of (se_c (d := .int 1) (fun _ => pe_int) (fun _ => .int _)))) (fun _ _ ha hb z => pe_ix ix_seq (ha z) (hb z) (fun _ _ => rfl)) prim_ix))) (fun _ => pe_bltn (by rfl) T.tuple boot_tuple rfl) kit_tuple (fun _ => rfl) (fun _ => rfl) (fun _ h z => pe_callB call_isi (by rfl) T.isinstance boot_isinstance (h z)))))))))))) (sb_one (ss_ret (se_c (d := .bool false) (fun _ => pe_bl) (fun _ => .bl _)))) (sb_nil))
    (sb_cons (ss_set (i := 3) (se_op2 (so_var (i := 2) (fun _ => pv 2)) (so_ex (sv_of (se_c (d := .int 1) (fun _ => pe_int) (fun _ => .int _)))) (fun _ _ ha hb z => pe_ix ix_seq (ha z) (hb z) (fun _ _ => rfl)) prim_ix) (fun _ h z => ps_set nd rfl (Or.inr rfl) (h z)))
    (sb_cons (ss_if (st_op2 (so_ex (sv_of (se_comp (own := [("thing", 4)]) (fun _ => rfl) (fun _ => nd) (si_val (fun _ => rfl) (sv_of (se_var (i := 3) (fun _ => pv 3)))) (fun _ => blkOk_by (by kernel_rfl)) (sg_name (i := 4) (fun _ => pg_name (i := 4) nd rfl (Or.inl rfl))) (by decide) (sts_one (SW.st (sw_or (st_not (st_val (sv_of (se_isi (so_var (i := 4) (fun _ => pv 4)) (fun _ => pe_bltn (by rfl) T.int boot_int rfl) kit_int (fun _ => rfl) (fun _ => rfl) (fun _ h z => pe_callB call_isi (by rfl) T.isinstance boot_isinstance (h z)))))) (sw_or (st_val (sv_of (se_isi (so_var (i := 4) (fun _ => pv 4)) (fun _ => pe_bltn (by rfl) T.bool boot_bool rfl) kit_bool (fun _ => rfl) (fun _ => rfl) (fun _ h z => pe_callB call_isi (by rfl) T.isinstance boot_isinstance (h z))))) (sw_or (st_op2 (so_var (i := 4) (fun _ => pv 4)) (so_ex (sv_of (se_c (d := .int 0) (fun _ => pe_int) (fun _ => .int _)))) (fun _ _ ha hb z => pt_cmpR (op_ltD hr.units) (ha z) (hb z) (nomark _)) prim_rd2) (sw_or1 (st_op2 (so_var (i := 4) (fun _ => pv 4)) (so_ex (sv_of (se_prim (sa_cons (so_var (i := 1) (fun _ => pv 1)) (sa_nil)) (fun _ h z => pe_callB call_len (by rfl) T.len boot_len (h z)) prim_len))) (fun _ _ ha hb z => pt_cmpR (op_geD hr.units) (ha z) (hb z) (nomark _)) prim_rd2))))))) (sv_of (se_c (d := .int 1) (fun _ => pe_int) (fun _ => .int _)))))) (so_ex (sv_of (se_lst (sav_nil)))) (fun _ _ ha hb z => pt_cmpR (op_neP hr.units) (ha z) (hb z) (nomark _)) prim_rd2) (sb_one (ss_ret (se_c (d := .bool false) (fun _ => pe_bl) (fun _ => .bl _)))) (sb_nil))
    (sb_cons (ss_if (st_op2 (so_ex (sv_of (se_comp (own := [("one", 5), ("two", 6)]) (fun _ => rfl) (fun _ => nd) (si_zip (fun _ => rfl) (fun _ => rfl) (fun _ => T.zip) (sav_cons (sv_of (se_var (i := 3) (fun _ => pv 3))) (sav_cons (sv_of (se_sl (fun _ => rfl) (so_var (i := 3) (fun _ => pv 3)) (sp_some (sv_of (se_c (d := .int 1) (fun _ => pe_int) (fun _ => .int _)))) (sp_none))) (sav_nil)))) (fun _ => blkOk_by (by kernel_rfl)) (sg_tup (is := [5, 6]) (fun _ => pg_tup rfl (pgs_cons (pg_name (i := 5) nd rfl (Or.inl rfl)) (pgs_cons (pg_name (i := 6) nd rfl (Or.inl rfl)) pgs_nil)))) (by decide) (sts_one (st_op2 (so_var (i := 5) (fun _ => pv 5)) (so_var (i := 6) (fun _ => pv 6)) (fun _ _ ha hb z => pt_cmpR (op_geD hr.units) (ha z) (hb z) (nomark _)) prim_rd2)) (sv_of (se_c (d := .int 1) (fun _ => pe_int) (fun _ => .int _)))))) (so_ex (sv_of (se_lst (sav_nil)))) (fun _ _ ha hb z => pt_cmpR (op_neP hr.units) (ha z) (hb z) (nomark _)) prim_rd2) (sb_one (ss_ret (se_c (d := .bool false) (fun _ => pe_bl) (fun _ => .bl _)))) (sb_nil))
    (sb_one (ss_ret (se_and (sv_of (se_op2 (so_ex (sv_of (se_comp (own := [("way", 7)]) (fun _ => rfl) (fun _ => nd) (si_val (fun _ => rfl) (sv_of (se_var (i := 0) (fun _ => pv 0)))) (fun _ => blkOk_by (by kernel_rfl)) (sg_name (i := 7) (fun _ => pg_name (i := 7) nd rfl (Or.inl rfl))) (by decide) (sts_one (st_op2 (so_ex (sv_of (se_comp (own := [("thing", 4)]) (fun _ => rfl) (fun _ => nd) (si_val (fun _ => rfl) (sv_of (se_var (i := 7) (fun _ => pv 7)))) (fun _ => blkOk_by (by kernel_rfl)) (sg_name (i := 4) (fun _ => pg_name (i := 4) nd rfl (Or.inl rfl))) (by decide) (sts_one (st_op2 (so_var (i := 4) (fun _ => pv 4)) (so_var (i := 3) (fun _ => pv 3)) (fun _ _ ha hb z => pt_cmpR (op_inP hr.units) (ha z) (hb z) (by with_unfolding_all rfl)) prim_rd2)) (sv_of (se_c (d := .int 1) (fun _ => pe_int) (fun _ => .int _)))))) (so_ex (sv_of (se_lst (sav_nil)))) (fun _ _ ha hb z => pt_cmpR (op_eqP hr.units) (ha z) (hb z) (nomark _)) prim_rd2)) (sv_of (se_c (d := .int 1) (fun _ => pe_int) (fun _ => .int _)))))) (so_ex (sv_of (se_lst (sav_nil)))) (fun _ _ ha hb z => pe_cmpR (op_eqP hr.units) (ha z) (hb z) (nomark _)) prim_rd2)) (se_one (se_op2 (so_ex (sv_of (se_prim (sa_cons (so_ex (sv_of (se_comp (own := [("thing", 4)]) (fun _ => rfl) (fun _ => nd) (si_val (fun _ => rfl) (sv_of (se_var (i := 3) (fun _ => pv 3)))) (fun _ => blkOk_by (by kernel_rfl)) (sg_name (i := 4) (fun _ => pg_name (i := 4) nd rfl (Or.inl rfl))) (by decide) (sts_nil) (sv_of (se_op2 (so_var (i := 1) (fun _ => pv 1)) (so_var (i := 4) (fun _ => pv 4)) (fun _ _ ha hb z => pe_ix ix_seq (ha z) (hb z) (fun _ _ => rfl)) prim_ix))))) (sa_nil)) (fun _ h z => pe_callB (cr_sum rfl) (by rfl) T.sum boot_sum (h z)) prim_sum))) (so_ex (sv_of (se_op2 (so_var (i := 2) (fun _ => pv 2)) (so_ex (sv_of (se_c (d := .int 0) (fun _ => pe_int) (fun _ => .int _)))) (fun _ _ ha hb z => pe_ix ix_seq (ha z) (hb z) (fun _ _ => rfl)) prim_ix))) (fun _ _ ha hb z => pe_cmpR (op_eqP hr.units) (ha z) (hb z) (nomark _)) prim_rd2))))))))
theorem ok__law_is_cut (T : Txt K mg) {f : Addr} {fd : FuncData} (F : Fun K "_law_is_cut" "_law_is_cut" s__law_is_cut f fd) : FnOk P w K mg base CX0 1 f fd ["family", "widths", "told"] (spF K false 3 g__law_is_cut) :=
  fn_ok false F sc__law_is_cut (by decide) fun cdv A outer s H E hr => sb__law_is_cut T  cdv A outer s H E hr
theorem sc_law : FnScope ["script", "k", "box", "turn", "term", "ways", "things", "widths", "thing", "due", "number", "lot", "more", "some", "other", "value"] ["script"] (defScope s_law) := ⟨rfl, rfl, rfl, by decide +kernel, rfl, by decide +kernel, by decide +kernel⟩
theorem sb_law (T : Txt K mg) (c__law_blockers : Cal P w K mg base "_law_blockers" ["ways", "things"] 2 false g__law_blockers []) (c__law_box : Cal P w K mg base "_law_box" ["script", "k"] 1 false g__law_box []) (c__law_cut : Cal P w K mg base "_law_cut" ["term", "widths"] 2 false g__law_cut []) (c__law_is_cut : Cal P w K mg base "_law_is_cut" ["family", "widths", "told"] 1 false g__law_is_cut []) (c__law_same : Cal P w K mg base "_law_same" ["told", "due"] 16 false g__law_same []) (c__law_take : Cal P w K mg base "_law_take" ["box", "many"] 1 true g__law_take []) (c__law_term : Cal P w K mg base "_law_term" ["box", "most", "many"] 3 true g__law_term []) (c__law_things : Cal P w K mg base "_law_things" ["family"] 1 false g__law_things []) (c__law_widths : Cal P w K mg base "_law_widths" ["box", "things"] 3 true g__law_widths []) (ck_wide_cut_0 : CalK P w K mg base "wide_cut" ["term", "widths"] ["term", "widths"] 4 false g_wide_cut [0, 1] 0 2 [] []) (ck_cut_serves_1 : CalK P w K mg base "cut_serves" ["family", "widths", "told"] ["family", "widths", "told"] 4 false g_cut_serves [0, 1, 2] 0 3 [] []) {f : Addr} (cdv : Value) (A : Around) (outer : List Env) (s : Shared) (H : Hp) (E : XK) (hr : Room 16 (A.deeper (envOfC "law" (defScope s_law) s.heap.objs.size f cdv))) :
    SB (fun _ : Unit => (cxOf CX0 P w K mg base ["script", "k", "box", "turn", "term", "ways", "things", "widths", "thing", "due", "number", "lot", "more", "some", "other", "value"] "law" (defScope s_law) f cdv A outer s H E).nox) K WW0 (defBody s_law) b_law := by
  obtain ⟨f_c__law_blockers, fd_c__law_blockers, G_c__law_blockers, m_c__law_blockers, k_c__law_blockers, b_c__law_blockers⟩ := c__law_blockers.ex
  obtain ⟨f_c__law_box, fd_c__law_box, G_c__law_box, m_c__law_box, k_c__law_box, b_c__law_box⟩ := c__law_box.ex
  obtain ⟨f_c__law_cut, fd_c__law_cut, G_c__law_cut, m_c__law_cut, k_c__law_cut, b_c__law_cut⟩ := c__law_cut.ex
  obtain ⟨f_c__law_is_cut, fd_c__law_is_cut, G_c__law_is_cut, m_c__law_is_cut, k_c__law_is_cut, b_c__law_is_cut⟩ := c__law_is_cut.ex
  obtain ⟨f_c__law_same, fd_c__law_same, G_c__law_same, m_c__law_same, k_c__law_same, b_c__law_same⟩ := c__law_same.ex
  obtain ⟨f_c__law_take, fd_c__law_take, G_c__law_take, m_c__law_take, k_c__law_take, b_c__law_take⟩ := c__law_take.ex
  obtain ⟨f_c__law_term, fd_c__law_term, G_c__law_term, m_c__law_term, k_c__law_term, b_c__law_term⟩ := c__law_term.ex
  obtain ⟨f_c__law_things, fd_c__law_things, G_c__law_things, m_c__law_things, k_c__law_things, b_c__law_things⟩ := c__law_things.ex
  obtain ⟨f_c__law_widths, fd_c__law_widths, G_c__law_widths, m_c__law_widths, k_c__law_widths, b_c__law_widths⟩ := c__law_widths.ex
  obtain ⟨f_ck_wide_cut_0, fd_ck_wide_cut_0, G_ck_wide_cut_0, m_ck_wide_cut_0, k_ck_wide_cut_0, b_ck_wide_cut_0⟩ := ck_wide_cut_0.ex
  obtain ⟨f_ck_cut_serves_1, fd_ck_cut_serves_1, G_ck_cut_serves_1, m_ck_cut_serves_1, k_ck_cut_serves_1, b_ck_cut_serves_1⟩ := ck_cut_serves_1.ex
  have nd := (sc_law).nd
  exact sb_cons (ss_for (fun _ => PassesOwn.never) (fun _ => rfl) (si_range1 (fun _ => rfl) (fun _ => T.range) (sav_cons (sv_of (se_prim (sa_cons (so_ex (sv_of (se_c (d := .int 4) (fun _ => pe_int) (fun _ => .int _)))) (sa_cons (so_ex (sv_of (se_prim (sa_cons (so_ex (sv_of (se_prim (sa_cons (so_var (i := 0) (fun _ => pv 0)) (sa_nil)) (fun _ h z => pe_callB call_len (by rfl) T.len boot_len (h z)) prim_len))) (sa_cons (so_ex (sv_of (se_c (d := .int 8) (fun _ => pe_int) (fun _ => .int _)))) (sa_nil))) (fun _ h z => pe_callB (call_min2 rfl) (by rfl) T.min boot_min (h z)) prim_min2))) (sa_nil))) (fun _ h z => pe_callB (call_max2 rfl) (by rfl) T.max boot_max (h z)) prim_max2)) (sav_nil))) (sg_name (i := 1) (fun _ => pg_name (i := 1) nd rfl (Or.inl rfl))) (sb_cons (ss_set (i := 2) (se_call (dvs := []) (dd := []) (np := 2) (sav_cons (sv_of (se_var (i := 0) (fun _ => pv 0))) (sav_cons (sv_of (se_var (i := 1) (fun _ => pv 1))) (sav_nil))) rfl (fun _ => .nil) (fun _ h z => pe_call G_c__law_box (hr.mono (by omega)) (by rfl) m_c__law_box k_c__law_box b_c__law_box .nil pass0 (h z))) (fun _ h z => ps_set nd rfl (Or.inr rfl) (h z)))
    (sb_one (ss_for (fun _ => PassesOwn.never) (fun _ => rfl) (si_range1 (fun _ => rfl) (fun _ => T.range) (sav_cons (sv_of (se_c (d := .int 2) (fun _ => pe_int) (fun _ => .int _))) (sav_nil))) (sg_name (i := 3) (fun _ => pg_name (i := 3) nd rfl (Or.inl rfl))) (sb_cons (ss_unp (is := [4, 5]) (sv_of (se_callB (i := 2) (dvs := []) (dd := []) (np := 3) (fun _ => pv 2) (sav_cons (sv_of (se_c (d := .int 9) (fun _ => pe_int) (fun _ => .int _))) (sav_cons (sv_of (se_c (d := .int 24) (fun _ => pe_int) (fun _ => .int _))) (sav_nil))) rfl (fun _ => .nil) (fun _ => rfl) (fun _ h z => pe_call G_c__law_term (hr.mono (by omega)) (by rfl) m_c__law_term k_c__law_term b_c__law_term .nil pass0 (h z)))) (fun _ h z => ps_asg (h z) (pg_tup rfl (pgs_cons (pg_name (i := 4) nd rfl (Or.inl rfl)) (pgs_cons (pg_name (i := 5) nd rfl (Or.inl rfl)) pgs_nil)))))
    (sb_cons (ss_set (i := 6) (se_call (dvs := []) (dd := []) (np := 1) (sav_cons (sv_of (se_var (i := 5) (fun _ => pv 5))) (sav_nil)) rfl (fun _ => .nil) (fun _ h z => pe_call G_c__law_things (hr.mono (by omega)) (by rfl) m_c__law_things k_c__law_things b_c__law_things .nil pass0 (h z))) (fun _ h z => ps_set nd rfl (Or.inl rfl) (h z)))
    (sb_cons (ss_set (i := 7) (se_if (st_op2 (so_var (i := 3) (fun _ => pv 3)) (so_ex (sv_of (se_c (d := .int 0) (fun _ => pe_int) (fun _ => .int _)))) (fun _ _ ha hb z => pt_cmpR (op_eqP hr.units) (ha z) (hb z) (nomark _)) prim_rd2) (se_prim (sa_cons (so_ex (sv_of (se_comp (own := [("thing", 8)]) (fun _ => rfl) (fun _ => nd) (si_range1 (fun _ => rfl) (fun _ => T.range) (sav_cons (sv_of (se_var (i := 6) (fun _ => pv 6))) (sav_nil))) (fun _ => blkOk_by (by kernel_rfl)) (sg_name (i := 8) (fun _ => pg_name (i := 8) nd rfl (Or.inl rfl))) (by decide) (sts_nil) (sv_of (se_callB (i := 2) (dvs := []) (dd := []) (np := 2) (fun _ => pv 2) (sav_cons (sv_of (se_c (d := .int 13) (fun _ => pe_int) (fun _ => .int _))) (sav_nil)) rfl (fun _ => .nil) (fun _ => rfl) (fun _ h z => pe_call G_c__law_take (hr.mono (by omega)) (by rfl) m_c__law_take k_c__law_take b_c__law_take .nil pass0 (h z))))))) (sa_nil)) (fun _ h z => pe_callTy call_tuple_of (by rfl) T.tuple boot_tuple (h z)) prim_tuple) (se_callB (i := 2) (dvs := []) (dd := []) (np := 2) (fun _ => pv 2) (sav_cons (sv_of (se_var (i := 6) (fun _ => pv 6))) (sav_nil)) rfl (fun _ => .nil) (fun _ => rfl) (fun _ h z => pe_call G_c__law_widths (hr.mono (by omega)) (by rfl) m_c__law_widths k_c__law_widths b_c__law_widths .nil pass0 (h z)))) (fun _ h z => ps_set nd rfl (Or.inr rfl) (h z)))
    (sb_cons (ss_set (i := 9) (se_call (dvs := []) (dd := []) (np := 2) (sav_cons (sv_of (se_var (i := 4) (fun _ => pv 4))) (sav_cons (sv_of (se_var (i := 7) (fun _ => pv 7))) (sav_nil))) rfl (fun _ => .nil) (fun _ h z => pe_call G_c__law_cut (hr.mono (by omega)) (by rfl) m_c__law_cut k_c__law_cut b_c__law_cut .nil pass0 (h z))) (fun _ h z => ps_set nd rfl (Or.inl rfl) (h z)))
    (sb_cons (ss_if (SW.st (sw_or (st_not (st_val (sv_of (se_call (dvs := []) (dd := []) (np := 2) (sav_cons (sv_of (se_callK0 (dvs := []) (skw_cons (sv_of (se_var (i := 4) (fun _ => pv 4))) (skw_cons (sv_of (se_var (i := 7) (fun _ => pv 7))) (skw_nil))) (fun _ => .nil) (fun _ h2 z => pe_callK0 G_ck_wide_cut_0 (hr.mono (by omega)) (by rfl) m_ck_wide_cut_0 k_ck_wide_cut_0 b_ck_wide_cut_0 pass0 (h2 z)))) (sav_cons (sv_of (se_var (i := 9) (fun _ => pv 9))) (sav_nil))) rfl (fun _ => .nil) (fun _ h z => pe_call G_c__law_same (hr.mono (by omega)) (by rfl) m_c__law_same k_c__law_same b_c__law_same .nil pass0 (h z)))))) (sw_or1 (st_op2 (so_ex (sv_of (se_op2 (so_var (i := 9) (fun _ => pv 9)) (so_ex (sv_of (se_c (d := .int 1) (fun _ => pe_int) (fun _ => .int _)))) (fun _ _ ha hb z => pe_ix ix_seq (ha z) (hb z) (fun _ _ => rfl)) prim_ix))) (so_ex (sv_of (se_call (dvs := []) (dd := []) (np := 2) (sav_cons (sv_of (se_var (i := 5) (fun _ => pv 5))) (sav_cons (sv_of (se_var (i := 6) (fun _ => pv 6))) (sav_nil))) rfl (fun _ => .nil) (fun _ h z => pe_call G_c__law_blockers (hr.mono (by omega)) (by rfl) m_c__law_blockers k_c__law_blockers b_c__law_blockers .nil pass0 (h z))))) (fun _ _ ha hb z => pt_cmpR (op_notInP hr.units) (ha z) (hb z) (by with_unfolding_all rfl)) prim_rd2)))) (sb_one (ss_ret (se_c (d := .bool false) (fun _ => pe_bl) (fun _ => .bl _)))) (sb_nil))
    (sb_cons (ss_unp (is := [10, 11]) (sv_of (se_var (i := 9) (fun _ => pv 9))) (fun _ h z => ps_asg (h z) (pg_tup rfl (pgs_cons (pg_name (i := 10) nd rfl (Or.inl rfl)) (pgs_cons (pg_name (i := 11) nd rfl (Or.inl rfl)) pgs_nil)))))
    (sb_cons (ss_set (i := 12) (se_prim (sa_cons (so_ex (sv_of (se_sortset (sa_cons (so_ex (sv_of (se_op2 (so_var (i := 11) (fun _ => pv 11)) (so_ex (sv_of (se_tup (sav_cons (sv_of (se_callB (i := 2) (dvs := []) (dd := []) (np := 2) (fun _ => pv 2) (sav_cons (sv_of (se_var (i := 6) (fun _ => pv 6))) (sav_nil)) rfl (fun _ => .nil) (fun _ => rfl) (fun _ h z => pe_call G_c__law_take (hr.mono (by omega)) (by rfl) m_c__law_take k_c__law_take b_c__law_take .nil pass0 (h z)))) (sav_nil))))) (fun _ _ ha hb z => pe_op op_addD (ha z) (hb z)) prim_add))) (sa_nil)) (fun _ h z => pe_callB (cr_sortS rfl hr.units) (by rfl) T.sorted boot_sorted (pa_cons (pe_callTy (cr_setD rfl hr.units) (by rfl) T.set boot_set (h z)) pa_nil (by rfl)))))) (sa_nil)) (fun _ h z => pe_callTy call_tuple_of (by rfl) T.tuple boot_tuple (h z)) prim_tuple) (fun _ h z => ps_set nd rfl (Or.inl rfl) (h z)))
    (sb_cons (ss_set (i := 13) (se_lst (sav_cons (sv_of (se_var (i := 9) (fun _ => pv 9))) (sav_cons (sv_of (se_tup (sav_cons (sv_of (se_var (i := 10) (fun _ => pv 10))) (sav_cons (sv_of (se_var (i := 12) (fun _ => pv 12))) (sav_nil))))) (sav_cons (sv_of (se_tup (sav_cons (sv_of (se_op2 (so_var (i := 10) (fun _ => pv 10)) (so_ex (sv_of (se_c (d := .int 1) (fun _ => pe_int) (fun _ => .int _)))) (fun _ _ ha hb z => pe_op op_addD (ha z) (hb z)) prim_add)) (sav_cons (sv_of (se_var (i := 11) (fun _ => pv 11))) (sav_nil))))) (sav_cons (sv_of (se_tup (sav_cons (sv_of (se_prim (sa_cons (so_ex (sv_of (se_comp (own := [("thing", 8)]) (fun _ => rfl) (fun _ => nd) (si_val (fun _ => rfl) (sv_of (se_var (i := 12) (fun _ => pv 12)))) (fun _ => blkOk_by (by kernel_rfl)) (sg_name (i := 8) (fun _ => pg_name (i := 8) nd rfl (Or.inl rfl))) (by decide) (sts_nil) (sv_of (se_op2 (so_var (i := 7) (fun _ => pv 7)) (so_var (i := 8) (fun _ => pv 8)) (fun _ _ ha hb z => pe_ix ix_seq (ha z) (hb z) (fun _ _ => rfl)) prim_ix))))) (sa_nil)) (fun _ h z => pe_callB (cr_sum rfl) (by rfl) T.sum boot_sum (h z)) prim_sum)) (sav_cons (sv_of (se_var (i := 12) (fun _ => pv 12))) (sav_nil))))) (sav_cons (sv_of (se_tup (sav_cons (sv_of (se_c (d := .int 0) (fun _ => pe_int) (fun _ => .int _))) (sav_cons (sv_of (se_tup (sav_nil))) (sav_nil))))) (sav_cons (sv_of (se_tup (sav_cons (sv_of (se_var (i := 10) (fun _ => pv 10))) (sav_cons (sv_of (se_sl (fun _ => rfl) (so_var (i := 11) (fun _ => pv 11)) (sp_some (sv_of (se_c (d := .int 1) (fun _ => pe_int) (fun _ => .int _)))) (sp_none))) (sav_nil))))) (sav_cons (sv_of (se_tup (sav_cons (sv_of (se_var (i := 10) (fun _ => pv 10))) (sav_cons (sv_of (se_prim (sa_cons (so_var (i := 11) (fun _ => pv 11)) (sa_nil)) (fun _ h z => pe_callTy call_list_of (by rfl) T.list boot_list (h z)) prim_list)) (sav_nil))))) (sav_nil))))))))) (fun _ h z => ps_set nd rfl (Or.inl rfl) (h z)))
    (sb_cons (ss_set (i := 13) (se_op2 (so_var (i := 13) (fun _ => pv 13)) (so_ex (sv_of (se_lst (sav_cons (sv_of (se_tup (sav_cons (sv_of (se_op2 (so_var (i := 10) (fun _ => pv 10)) (so_ex (sv_of (se_c (d := .int 1) (fun _ => pe_int) (fun _ => .int _)))) (fun _ _ ha hb z => pe_cmpR (op_eqP hr.units) (ha z) (hb z) (nomark _)) prim_rd2)) (sav_cons (sv_of (se_var (i := 11) (fun _ => pv 11))) (sav_nil))))) (sav_cons (sv_of (se_tup (sav_cons (sv_of (se_var (i := 10) (fun _ => pv 10))) (sav_nil)))) (sav_cons (sv_of (se_c (d := .none) (fun _ => pe_non) (fun _ => .non))) (sav_cons (sv_of (se_lst (sav_cons (sv_of (se_var (i := 10) (fun _ => pv 10))) (sav_cons (sv_of (se_var (i := 11) (fun _ => pv 11))) (sav_nil))))) (sav_cons (sv_of (se_tup (sav_cons (sv_of (se_var (i := 10) (fun _ => pv 10))) (sav_cons (sv_of (se_rev (fun _ => rfl) (so_var (i := 11) (fun _ => pv 11)))) (sav_nil))))) (sav_cons (sv_of (se_tup (sav_cons (sv_of (se_var (i := 10) (fun _ => pv 10))) (sav_cons (sv_of (se_prim (sa_cons (so_ex (sv_of (se_comp (own := [("thing", 8)]) (fun _ => rfl) (fun _ => nd) (si_val (fun _ => rfl) (sv_of (se_var (i := 11) (fun _ => pv 11)))) (fun _ => blkOk_by (by kernel_rfl)) (sg_name (i := 8) (fun _ => pg_name (i := 8) nd rfl (Or.inl rfl))) (by decide) (sts_nil) (sv_of (se_if (st_op2 (so_var (i := 8) (fun _ => pv 8)) (so_ex (sv_of (se_c (d := .int 2) (fun _ => pe_int) (fun _ => .int _)))) (fun _ _ ha hb z => pt_cmpR (op_ltD hr.units) (ha z) (hb z) (nomark _)) prim_rd2) (se_op2 (so_var (i := 8) (fun _ => pv 8)) (so_ex (sv_of (se_c (d := .int 1) (fun _ => pe_int) (fun _ => .int _)))) (fun _ _ ha hb z => pe_cmpR (op_eqP hr.units) (ha z) (hb z) (nomark _)) prim_rd2) (se_var (i := 8) (fun _ => pv 8))))))) (sa_nil)) (fun _ h z => pe_callTy call_tuple_of (by rfl) T.tuple boot_tuple (h z)) prim_tuple)) (sav_nil))))) (sav_nil)))))))))) (fun _ _ ha hb z => pe_op op_addD (ha z) (hb z)) prim_add) (fun _ h z => ps_set nd rfl (Or.inl rfl) (h z)))
    (sb_cons (ss_set (i := 14) (se_prim (sa_cons (so_ex (sv_of (se_comp (own := [("thing", 8)]) (fun _ => rfl) (fun _ => nd) (si_range1 (fun _ => rfl) (fun _ => T.range) (sav_cons (sv_of (se_var (i := 6) (fun _ => pv 6))) (sav_nil))) (fun _ => blkOk_by (by kernel_rfl)) (sg_name (i := 8) (fun _ => pg_name (i := 8) nd rfl (Or.inl rfl))) (by decide) (sts_one (st_op2 (so_ex (sv_of (se_callB (i := 2) (dvs := []) (dd := []) (np := 2) (fun _ => pv 2) (sav_cons (sv_of (se_c (d := .int 2) (fun _ => pe_int) (fun _ => .int _))) (sav_nil)) rfl (fun _ => .nil) (fun _ => rfl) (fun _ h z => pe_call G_c__law_take (hr.mono (by omega)) (by rfl) m_c__law_take k_c__law_take b_c__law_take .nil pass0 (h z))))) (so_ex (sv_of (se_c (d := .int 0) (fun _ => pe_int) (fun _ => .int _)))) (fun _ _ ha hb z => pt_cmpR (op_eqP hr.units) (ha z) (hb z) (nomark _)) prim_rd2)) (sv_of (se_var (i := 8) (fun _ => pv 8)))))) (sa_nil)) (fun _ h z => pe_callTy call_tuple_of (by rfl) T.tuple boot_tuple (h z)) prim_tuple) (fun _ h z => ps_set nd rfl (Or.inl rfl) (h z)))
    (sb_one (ss_for (fun _ => PassesOwn.never) (fun _ => rfl) (si_val (fun _ => rfl) (sv_of (se_op2 (so_var (i := 13) (fun _ => pv 13)) (so_ex (sv_of (se_lst (sav_cons (sv_of (se_tup (sav_cons (sv_of (se_prim (sa_cons (so_ex (sv_of (se_comp (own := [("thing", 8)]) (fun _ => rfl) (fun _ => nd) (si_val (fun _ => rfl) (sv_of (se_var (i := 14) (fun _ => pv 14)))) (fun _ => blkOk_by (by kernel_rfl)) (sg_name (i := 8) (fun _ => pg_name (i := 8) nd rfl (Or.inl rfl))) (by decide) (sts_nil) (sv_of (se_op2 (so_var (i := 7) (fun _ => pv 7)) (so_var (i := 8) (fun _ => pv 8)) (fun _ _ ha hb z => pe_ix ix_seq (ha z) (hb z) (fun _ _ => rfl)) prim_ix))))) (sa_nil)) (fun _ h z => pe_callB (cr_sum rfl) (by rfl) T.sum boot_sum (h z)) prim_sum)) (sav_cons (sv_of (se_var (i := 14) (fun _ => pv 14))) (sav_nil))))) (sav_nil))))) (fun _ _ ha hb z => pe_op op_addD (ha z) (hb z)) prim_add))) (sg_name (i := 15) (fun _ => pg_name (i := 15) nd rfl (Or.inl rfl))) (sb_one (ss_if (st_not (st_val (sv_of (se_call (dvs := []) (dd := []) (np := 2) (sav_cons (sv_of (se_callK0 (dvs := []) (skw_cons (sv_of (se_var (i := 5) (fun _ => pv 5))) (skw_cons (sv_of (se_var (i := 7) (fun _ => pv 7))) (skw_cons (sv_of (se_var (i := 15) (fun _ => pv 15))) (skw_nil)))) (fun _ => .nil) (fun _ h2 z => pe_callK0 G_ck_cut_serves_1 (hr.mono (by omega)) (by rfl) m_ck_cut_serves_1 k_ck_cut_serves_1 b_ck_cut_serves_1 pass0 (h2 z)))) (sav_cons (sv_of (se_call (dvs := []) (dd := []) (np := 3) (sav_cons (sv_of (se_var (i := 5) (fun _ => pv 5))) (sav_cons (sv_of (se_var (i := 7) (fun _ => pv 7))) (sav_cons (sv_of (se_var (i := 15) (fun _ => pv 15))) (sav_nil)))) rfl (fun _ => .nil) (fun _ h z => pe_call G_c__law_is_cut (hr.mono (by omega)) (by rfl) m_c__law_is_cut k_c__law_is_cut b_c__law_is_cut .nil pass0 (h z)))) (sav_nil))) rfl (fun _ => .nil) (fun _ h z => pe_call G_c__law_same (hr.mono (by omega)) (by rfl) m_c__law_same k_c__law_same b_c__law_same .nil pass0 (h z)))))) (sb_one (ss_ret (se_c (d := .bool false) (fun _ => pe_bl) (fun _ => .bl _)))) (sb_nil)))))))))))))))))))
    (sb_one (ss_ret (se_c (d := .bool true) (fun _ => pe_bl) (fun _ => .bl _))))
theorem ok_law (T : Txt K mg) (c__law_blockers : Cal P w K mg base "_law_blockers" ["ways", "things"] 2 false g__law_blockers []) (c__law_box : Cal P w K mg base "_law_box" ["script", "k"] 1 false g__law_box []) (c__law_cut : Cal P w K mg base "_law_cut" ["term", "widths"] 2 false g__law_cut []) (c__law_is_cut : Cal P w K mg base "_law_is_cut" ["family", "widths", "told"] 1 false g__law_is_cut []) (c__law_same : Cal P w K mg base "_law_same" ["told", "due"] 16 false g__law_same []) (c__law_take : Cal P w K mg base "_law_take" ["box", "many"] 1 true g__law_take []) (c__law_term : Cal P w K mg base "_law_term" ["box", "most", "many"] 3 true g__law_term []) (c__law_things : Cal P w K mg base "_law_things" ["family"] 1 false g__law_things []) (c__law_widths : Cal P w K mg base "_law_widths" ["box", "things"] 3 true g__law_widths []) (ck_wide_cut_0 : CalK P w K mg base "wide_cut" ["term", "widths"] ["term", "widths"] 4 false g_wide_cut [0, 1] 0 2 [] []) (ck_cut_serves_1 : CalK P w K mg base "cut_serves" ["family", "widths", "told"] ["family", "widths", "told"] 4 false g_cut_serves [0, 1, 2] 0 3 [] []) {f : Addr} {fd : FuncData} (F : Fun K "law" "law" s_law f fd) : FnOk P w K mg base CX0 17 f fd ["script"] (spF K false 1 g_law) :=
  fn_ok false F sc_law (by decide) fun cdv A outer s H E hr => sb_law T c__law_blockers c__law_box c__law_cut c__law_is_cut c__law_same c__law_take c__law_term c__law_things c__law_widths ck_wide_cut_0 ck_cut_serves_1 cdv A outer s H E hr
end
theorem all_mk {l : PySem.W.OpenLaw} {w : World} {K : PySem.W.Frag} {h : Heap} {mg : Str → Option Value} {fa : Addr} (X : K.In h) (G : h.Ns mainGlobals mg) (hfa : mg "law" = some (.ref fa))
    {f0 : Addr} {od0 an0 : Option Addr} {sl0 : Array (Option Value)} {oc0 kV0 dc0 pm0 cd0 ct0 : Value}
    (a0 : PySem.W.nsIn K mainGlobals "is_int" = some (some (.ref f0))) (l0 : K.lookup f0 = some ⟨oc0, od0, .func (PySem.W.fnOf "is_int" "is_int" (defArgs s_is_int) (defBody s_is_int) (defScope s_is_int) .none kV0 dc0 pm0 an0 cd0 ct0), sl0⟩) (c0 : PySem.W.codeIn K cd0 "is_int" = true) (k0 : PySem.W.keepIn K (.ref f0) = true)
    {f1 : Addr} {od1 an1 : Option Addr} {sl1 : Array (Option Value)} {oc1 kV1 dc1 pm1 cd1 ct1 : Value}
    {T1 : Addr} {o1 : Obj} {its1 : List Value} {n1 : Nat}
    (a1 : PySem.W.nsIn K mainGlobals "is_number" = some (some (.ref f1))) (l1 : K.lookup f1 = some ⟨oc1, od1, .func (PySem.W.fnOf "is_number" "is_number" (defArgs s_is_number) (defBody s_is_number) (defScope s_is_number) (.ref T1) kV1 dc1 pm1 an1 cd1 ct1), sl1⟩) (c1 : PySem.W.codeIn K cd1 "is_number" = true) (k1 : PySem.W.keepIn K (.ref f1) = true)
    (t1 : K.lookup T1 = some o1) (u1 : o1.data = .seq its1.toArray n1) (v1 : Vals [.int 0, .non] its1)
    {f2 : Addr} {od2 an2 : Option Addr} {sl2 : Array (Option Value)} {oc2 kV2 dc2 pm2 cd2 ct2 : Value}
    {T2 : Addr} {o2 : Obj} {its2 : List Value} {n2 : Nat}
    (a2 : PySem.W.nsIn K mainGlobals "is_tuple" = some (some (.ref f2))) (l2 : K.lookup f2 = some ⟨oc2, od2, .func (PySem.W.fnOf "is_tuple" "is_tuple" (defArgs s_is_tuple) (defBody s_is_tuple) (defScope s_is_tuple) (.ref T2) kV2 dc2 pm2 an2 cd2 ct2), sl2⟩) (c2 : PySem.W.codeIn K cd2 "is_tuple" = true) (k2 : PySem.W.keepIn K (.ref f2) = true)
    (t2 : K.lookup T2 = some o2) (u2 : o2.data = .seq its2.toArray n2) (v2 : Vals [.non] its2)
    {f3 : Addr} {od3 an3 : Option Addr} {sl3 : Array (Option Value)} {oc3 kV3 dc3 pm3 cd3 ct3 : Value}
    {T3 : Addr} {o3 : Obj} {its3 : List Value} {n3 : Nat}
    (a3 : PySem.W.nsIn K mainGlobals "is_lot" = some (some (.ref f3))) (l3 : K.lookup f3 = some ⟨oc3, od3, .func (PySem.W.fnOf "is_lot" "is_lot" (defArgs s_is_lot) (defBody s_is_lot) (defScope s_is_lot) (.ref T3) kV3 dc3 pm3 an3 cd3 ct3), sl3⟩) (c3 : PySem.W.codeIn K cd3 "is_lot" = true) (k3 : PySem.W.keepIn K (.ref f3) = true)
    (t3 : K.lookup T3 = some o3) (u3 : o3.data = .seq its3.toArray n3) (v3 : Vals [.non, .int 0] its3)
    {f4 : Addr} {od4 an4 : Option Addr} {sl4 : Array (Option Value)} {oc4 kV4 dc4 pm4 cd4 ct4 : Value}
    (a4 : PySem.W.nsIn K mainGlobals "common_of" = some (some (.ref f4))) (l4 : K.lookup f4 = some ⟨oc4, od4, .func (PySem.W.fnOf "common_of" "common_of" (defArgs s_common_of) (defBody s_common_of) (defScope s_common_of) .none kV4 dc4 pm4 an4 cd4 ct4), sl4⟩) (c4 : PySem.W.codeIn K cd4 "common_of" = true) (k4 : PySem.W.keepIn K (.ref f4) = true)
    {f5 : Addr} {od5 an5 : Option Addr} {sl5 : Array (Option Value)} {oc5 kV5 dc5 pm5 cd5 ct5 : Value}
    (a5 : PySem.W.nsIn K mainGlobals "joined_lots" = some (some (.ref f5))) (l5 : K.lookup f5 = some ⟨oc5, od5, .func (PySem.W.fnOf "joined_lots" "joined_lots" (defArgs s_joined_lots) (defBody s_joined_lots) (defScope s_joined_lots) .none kV5 dc5 pm5 an5 cd5 ct5), sl5⟩) (c5 : PySem.W.codeIn K cd5 "joined_lots" = true) (k5 : PySem.W.keepIn K (.ref f5) = true)
    {f6 : Addr} {od6 an6 : Option Addr} {sl6 : Array (Option Value)} {oc6 kV6 dc6 pm6 cd6 ct6 : Value}
    (a6 : PySem.W.nsIn K mainGlobals "family_things" = some (some (.ref f6))) (l6 : K.lookup f6 = some ⟨oc6, od6, .func (PySem.W.fnOf "family_things" "family_things" (defArgs s_family_things) (defBody s_family_things) (defScope s_family_things) .none kV6 dc6 pm6 an6 cd6 ct6), sl6⟩) (c6 : PySem.W.codeIn K cd6 "family_things" = true) (k6 : PySem.W.keepIn K (.ref f6) = true)
    {f7 : Addr} {od7 an7 : Option Addr} {sl7 : Array (Option Value)} {oc7 kV7 dc7 pm7 cd7 ct7 : Value}
    (a7 : PySem.W.nsIn K mainGlobals "term_rows" = some (some (.ref f7))) (l7 : K.lookup f7 = some ⟨oc7, od7, .func (PySem.W.fnOf "term_rows" "term_rows" (defArgs s_term_rows) (defBody s_term_rows) (defScope s_term_rows) .none kV7 dc7 pm7 an7 cd7 ct7), sl7⟩) (c7 : PySem.W.codeIn K cd7 "term_rows" = true) (k7 : PySem.W.keepIn K (.ref f7) = true)
    {f8 : Addr} {od8 an8 : Option Addr} {sl8 : Array (Option Value)} {oc8 kV8 dc8 pm8 cd8 ct8 : Value}
    (a8 : PySem.W.nsIn K mainGlobals "part_cut" = some (some (.ref f8))) (l8 : K.lookup f8 = some ⟨oc8, od8, .func (PySem.W.fnOf "part_cut" "part_cut" (defArgs s_part_cut) (defBody s_part_cut) (defScope s_part_cut) .none kV8 dc8 pm8 an8 cd8 ct8), sl8⟩) (c8 : PySem.W.codeIn K cd8 "part_cut" = true) (k8 : PySem.W.keepIn K (.ref f8) = true)
    {f9 : Addr} {od9 an9 : Option Addr} {sl9 : Array (Option Value)} {oc9 kV9 dc9 pm9 cd9 ct9 : Value}
    (a9 : PySem.W.nsIn K mainGlobals "wide_cut" = some (some (.ref f9))) (l9 : K.lookup f9 = some ⟨oc9, od9, .func (PySem.W.fnOf "wide_cut" "wide_cut" (defArgs s_wide_cut) (defBody s_wide_cut) (defScope s_wide_cut) .none kV9 dc9 pm9 an9 cd9 ct9), sl9⟩) (c9 : PySem.W.codeIn K cd9 "wide_cut" = true) (k9 : PySem.W.keepIn K (.ref f9) = true)
    {f10 : Addr} {od10 an10 : Option Addr} {sl10 : Array (Option Value)} {oc10 kV10 dc10 pm10 cd10 ct10 : Value}
    (a10 : PySem.W.nsIn K mainGlobals "cut_serves" = some (some (.ref f10))) (l10 : K.lookup f10 = some ⟨oc10, od10, .func (PySem.W.fnOf "cut_serves" "cut_serves" (defArgs s_cut_serves) (defBody s_cut_serves) (defScope s_cut_serves) .none kV10 dc10 pm10 an10 cd10 ct10), sl10⟩) (c10 : PySem.W.codeIn K cd10 "cut_serves" = true) (k10 : PySem.W.keepIn K (.ref f10) = true)
    {f11 : Addr} {od11 an11 : Option Addr} {sl11 : Array (Option Value)} {oc11 kV11 dc11 pm11 cd11 ct11 : Value}
    (a11 : PySem.W.nsIn K mainGlobals "_law_box" = some (some (.ref f11))) (l11 : K.lookup f11 = some ⟨oc11, od11, .func (PySem.W.fnOf "_law_box" "_law_box" (defArgs s__law_box) (defBody s__law_box) (defScope s__law_box) .none kV11 dc11 pm11 an11 cd11 ct11), sl11⟩) (c11 : PySem.W.codeIn K cd11 "_law_box" = true) (k11 : PySem.W.keepIn K (.ref f11) = true)
    {f12 : Addr} {od12 an12 : Option Addr} {sl12 : Array (Option Value)} {oc12 kV12 dc12 pm12 cd12 ct12 : Value}
    (a12 : PySem.W.nsIn K mainGlobals "_law_take" = some (some (.ref f12))) (l12 : K.lookup f12 = some ⟨oc12, od12, .func (PySem.W.fnOf "_law_take" "_law_take" (defArgs s__law_take) (defBody s__law_take) (defScope s__law_take) .none kV12 dc12 pm12 an12 cd12 ct12), sl12⟩) (c12 : PySem.W.codeIn K cd12 "_law_take" = true) (k12 : PySem.W.keepIn K (.ref f12) = true)
    {f13 : Addr} {od13 an13 : Option Addr} {sl13 : Array (Option Value)} {oc13 kV13 dc13 pm13 cd13 ct13 : Value}
    (a13 : PySem.W.nsIn K mainGlobals "_law_pick" = some (some (.ref f13))) (l13 : K.lookup f13 = some ⟨oc13, od13, .func (PySem.W.fnOf "_law_pick" "_law_pick" (defArgs s__law_pick) (defBody s__law_pick) (defScope s__law_pick) .none kV13 dc13 pm13 an13 cd13 ct13), sl13⟩) (c13 : PySem.W.codeIn K cd13 "_law_pick" = true) (k13 : PySem.W.keepIn K (.ref f13) = true)
    {f14 : Addr} {od14 an14 : Option Addr} {sl14 : Array (Option Value)} {oc14 kV14 dc14 pm14 cd14 ct14 : Value}
    (a14 : PySem.W.nsIn K mainGlobals "_law_shuffled" = some (some (.ref f14))) (l14 : K.lookup f14 = some ⟨oc14, od14, .func (PySem.W.fnOf "_law_shuffled" "_law_shuffled" (defArgs s__law_shuffled) (defBody s__law_shuffled) (defScope s__law_shuffled) .none kV14 dc14 pm14 an14 cd14 ct14), sl14⟩) (c14 : PySem.W.codeIn K cd14 "_law_shuffled" = true) (k14 : PySem.W.keepIn K (.ref f14) = true)
    {f15 : Addr} {od15 an15 : Option Addr} {sl15 : Array (Option Value)} {oc15 kV15 dc15 pm15 cd15 ct15 : Value}
    (a15 : PySem.W.nsIn K mainGlobals "_law_same" = some (some (.ref f15))) (l15 : K.lookup f15 = some ⟨oc15, od15, .func (PySem.W.fnOf "_law_same" "_law_same" (defArgs s__law_same) (defBody s__law_same) (defScope s__law_same) .none kV15 dc15 pm15 an15 cd15 ct15), sl15⟩) (c15 : PySem.W.codeIn K cd15 "_law_same" = true) (k15 : PySem.W.keepIn K (.ref f15) = true)
    {f16 : Addr} {od16 an16 : Option Addr} {sl16 : Array (Option Value)} {oc16 kV16 dc16 pm16 cd16 ct16 : Value}
    (a16 : PySem.W.nsIn K mainGlobals "_law_inside" = some (some (.ref f16))) (l16 : K.lookup f16 = some ⟨oc16, od16, .func (PySem.W.fnOf "_law_inside" "_law_inside" (defArgs s__law_inside) (defBody s__law_inside) (defScope s__law_inside) .none kV16 dc16 pm16 an16 cd16 ct16), sl16⟩) (c16 : PySem.W.codeIn K cd16 "_law_inside" = true) (k16 : PySem.W.keepIn K (.ref f16) = true)
    {f17 : Addr} {od17 an17 : Option Addr} {sl17 : Array (Option Value)} {oc17 kV17 dc17 pm17 cd17 ct17 : Value}
    (a17 : PySem.W.nsIn K mainGlobals "_law_things" = some (some (.ref f17))) (l17 : K.lookup f17 = some ⟨oc17, od17, .func (PySem.W.fnOf "_law_things" "_law_things" (defArgs s__law_things) (defBody s__law_things) (defScope s__law_things) .none kV17 dc17 pm17 an17 cd17 ct17), sl17⟩) (c17 : PySem.W.codeIn K cd17 "_law_things" = true) (k17 : PySem.W.keepIn K (.ref f17) = true)
    {f18 : Addr} {od18 an18 : Option Addr} {sl18 : Array (Option Value)} {oc18 kV18 dc18 pm18 cd18 ct18 : Value}
    (a18 : PySem.W.nsIn K mainGlobals "_law_lots" = some (some (.ref f18))) (l18 : K.lookup f18 = some ⟨oc18, od18, .func (PySem.W.fnOf "_law_lots" "_law_lots" (defArgs s__law_lots) (defBody s__law_lots) (defScope s__law_lots) .none kV18 dc18 pm18 an18 cd18 ct18), sl18⟩) (c18 : PySem.W.codeIn K cd18 "_law_lots" = true) (k18 : PySem.W.keepIn K (.ref f18) = true)
    {f19 : Addr} {od19 an19 : Option Addr} {sl19 : Array (Option Value)} {oc19 kV19 dc19 pm19 cd19 ct19 : Value}
    (a19 : PySem.W.nsIn K mainGlobals "_law_blockers" = some (some (.ref f19))) (l19 : K.lookup f19 = some ⟨oc19, od19, .func (PySem.W.fnOf "_law_blockers" "_law_blockers" (defArgs s__law_blockers) (defBody s__law_blockers) (defScope s__law_blockers) .none kV19 dc19 pm19 an19 cd19 ct19), sl19⟩) (c19 : PySem.W.codeIn K cd19 "_law_blockers" = true) (k19 : PySem.W.keepIn K (.ref f19) = true)
    {f20 : Addr} {od20 an20 : Option Addr} {sl20 : Array (Option Value)} {oc20 kV20 dc20 pm20 cd20 ct20 : Value}
    (a20 : PySem.W.nsIn K mainGlobals "_law_term" = some (some (.ref f20))) (l20 : K.lookup f20 = some ⟨oc20, od20, .func (PySem.W.fnOf "_law_term" "_law_term" (defArgs s__law_term) (defBody s__law_term) (defScope s__law_term) .none kV20 dc20 pm20 an20 cd20 ct20), sl20⟩) (c20 : PySem.W.codeIn K cd20 "_law_term" = true) (k20 : PySem.W.keepIn K (.ref f20) = true)
    {f21 : Addr} {od21 an21 : Option Addr} {sl21 : Array (Option Value)} {oc21 kV21 dc21 pm21 cd21 ct21 : Value}
    (a21 : PySem.W.nsIn K mainGlobals "_law_rows" = some (some (.ref f21))) (l21 : K.lookup f21 = some ⟨oc21, od21, .func (PySem.W.fnOf "_law_rows" "_law_rows" (defArgs s__law_rows) (defBody s__law_rows) (defScope s__law_rows) .none kV21 dc21 pm21 an21 cd21 ct21), sl21⟩) (c21 : PySem.W.codeIn K cd21 "_law_rows" = true) (k21 : PySem.W.keepIn K (.ref f21) = true)
    {f22 : Addr} {od22 an22 : Option Addr} {sl22 : Array (Option Value)} {oc22 kV22 dc22 pm22 cd22 ct22 : Value}
    (a22 : PySem.W.nsIn K mainGlobals "_law_widths" = some (some (.ref f22))) (l22 : K.lookup f22 = some ⟨oc22, od22, .func (PySem.W.fnOf "_law_widths" "_law_widths" (defArgs s__law_widths) (defBody s__law_widths) (defScope s__law_widths) .none kV22 dc22 pm22 an22 cd22 ct22), sl22⟩) (c22 : PySem.W.codeIn K cd22 "_law_widths" = true) (k22 : PySem.W.keepIn K (.ref f22) = true)
    {f23 : Addr} {od23 an23 : Option Addr} {sl23 : Array (Option Value)} {oc23 kV23 dc23 pm23 cd23 ct23 : Value}
    (a23 : PySem.W.nsIn K mainGlobals "_law_cut" = some (some (.ref f23))) (l23 : K.lookup f23 = some ⟨oc23, od23, .func (PySem.W.fnOf "_law_cut" "_law_cut" (defArgs s__law_cut) (defBody s__law_cut) (defScope s__law_cut) .none kV23 dc23 pm23 an23 cd23 ct23), sl23⟩) (c23 : PySem.W.codeIn K cd23 "_law_cut" = true) (k23 : PySem.W.keepIn K (.ref f23) = true)
    {f24 : Addr} {od24 an24 : Option Addr} {sl24 : Array (Option Value)} {oc24 kV24 dc24 pm24 cd24 ct24 : Value}
    (a24 : PySem.W.nsIn K mainGlobals "_law_is_cut" = some (some (.ref f24))) (l24 : K.lookup f24 = some ⟨oc24, od24, .func (PySem.W.fnOf "_law_is_cut" "_law_is_cut" (defArgs s__law_is_cut) (defBody s__law_is_cut) (defScope s__law_is_cut) .none kV24 dc24 pm24 an24 cd24 ct24), sl24⟩) (c24 : PySem.W.codeIn K cd24 "_law_is_cut" = true) (k24 : PySem.W.keepIn K (.ref f24) = true)
    {f25 : Addr} {od25 an25 : Option Addr} {sl25 : Array (Option Value)} {oc25 kV25 dc25 pm25 cd25 ct25 : Value}
    (a25 : PySem.W.nsIn K mainGlobals "law" = some (some (.ref f25))) (l25 : K.lookup f25 = some ⟨oc25, od25, .func (PySem.W.fnOf "law" "law" (defArgs s_law) (defBody s_law) (defScope s_law) .none kV25 dc25 pm25 an25 cd25 ct25), sl25⟩) (c25 : PySem.W.codeIn K cd25 "law" = true) (k25 : PySem.W.keepIn K (.ref f25) = true)
    (z_abs : PySem.W.nsIn K mainGlobals "abs" = some none)
    (z_any : PySem.W.nsIn K mainGlobals "any" = some none)
    (z_bool : PySem.W.nsIn K mainGlobals "bool" = some none)
    (z_int : PySem.W.nsIn K mainGlobals "int" = some none)
    (z_isinstance : PySem.W.nsIn K mainGlobals "isinstance" = some none)
    (z_len : PySem.W.nsIn K mainGlobals "len" = some none)
    (z_list : PySem.W.nsIn K mainGlobals "list" = some none)
    (z_max : PySem.W.nsIn K mainGlobals "max" = some none)
    (z_min : PySem.W.nsIn K mainGlobals "min" = some none)
    (z_range : PySem.W.nsIn K mainGlobals "range" = some none)
    (z_set : PySem.W.nsIn K mainGlobals "set" = some none)
    (z_sorted : PySem.W.nsIn K mainGlobals "sorted" = some none)
    (z_str : PySem.W.nsIn K mainGlobals "str" = some none)
    (z_sum : PySem.W.nsIn K mainGlobals "sum" = some none)
    (z_tuple : PySem.W.nsIn K mainGlobals "tuple" = some none)
    (z_zip : PySem.W.nsIn K mainGlobals "zip" = some none)
    {tk_ROW : Tok} (y_ROW : PySem.W.nsIn K mainGlobals "ROW" = some (some (.str "row" tk_ROW)))
    : ∃ fd : FuncData, (∀ (s : Shared) (v : Value), BindsTo s fd ⟨[v], []⟩ [("script", v)]) ∧ ∀ base : Heap, K.In base → base.Ns mainGlobals mg → FnOk l.prog w K mg base CX0 17 fa fd ["script"] (spF K false 1 g_law) := by
  have e := hfa.symm.trans (PySem.W.mg_of X G a25)
  cases e
  have T : Txt K mg := ⟨PySem.W.mg_none_of X G z_abs, PySem.W.mg_none_of X G z_any, PySem.W.mg_none_of X G z_bool, PySem.W.mg_none_of X G z_int, PySem.W.mg_none_of X G z_isinstance, PySem.W.mg_none_of X G z_len, PySem.W.mg_none_of X G z_list, PySem.W.mg_none_of X G z_max, PySem.W.mg_none_of X G z_min, PySem.W.mg_none_of X G z_range, PySem.W.mg_none_of X G z_set, PySem.W.mg_none_of X G z_sorted, PySem.W.mg_none_of X G z_str, PySem.W.mg_none_of X G z_sum, PySem.W.mg_none_of X G z_tuple, PySem.W.mg_none_of X G z_zip, ⟨_, PySem.W.mg_of X G y_ROW, _, rfl⟩⟩
  have F0 := fun_mk (st := s_is_int) l0 c0 k0
  have F1 : FunD K "is_number" "is_number" (defArgs s_is_number) (defBody s_is_number) (defScope s_is_number) [.int 0, .non] [] _ _ := ⟨⟨_, _, _, _, _, _, _, _, _, _, rfl, l1, c1, .inr ⟨by simp, T1, o1, its1, n1, rfl, t1, u1, v1⟩, .inl rfl⟩, k1⟩
  have F2 : FunD K "is_tuple" "is_tuple" (defArgs s_is_tuple) (defBody s_is_tuple) (defScope s_is_tuple) [.non] [] _ _ := ⟨⟨_, _, _, _, _, _, _, _, _, _, rfl, l2, c2, .inr ⟨by simp, T2, o2, its2, n2, rfl, t2, u2, v2⟩, .inl rfl⟩, k2⟩
  have F3 : FunD K "is_lot" "is_lot" (defArgs s_is_lot) (defBody s_is_lot) (defScope s_is_lot) [.non, .int 0] [] _ _ := ⟨⟨_, _, _, _, _, _, _, _, _, _, rfl, l3, c3, .inr ⟨by simp, T3, o3, its3, n3, rfl, t3, u3, v3⟩, .inl rfl⟩, k3⟩
  have F4 := fun_mk (st := s_common_of) l4 c4 k4
  have F5 := fun_mk (st := s_joined_lots) l5 c5 k5
  have F6 := fun_mk (st := s_family_things) l6 c6 k6
  have F7 := fun_mk (st := s_term_rows) l7 c7 k7
  have F8 := fun_mk (st := s_part_cut) l8 c8 k8
  have F9 := fun_mk (st := s_wide_cut) l9 c9 k9
  have F10 := fun_mk (st := s_cut_serves) l10 c10 k10
  have F11 := fun_mk (st := s__law_box) l11 c11 k11
  have F12 := fun_mk (st := s__law_take) l12 c12 k12
  have F13 := fun_mk (st := s__law_pick) l13 c13 k13
  have F14 := fun_mk (st := s__law_shuffled) l14 c14 k14
  have F15 := fun_mk (st := s__law_same) l15 c15 k15
  have F16 := fun_mk (st := s__law_inside) l16 c16 k16
  have F17 := fun_mk (st := s__law_things) l17 c17 k17
  have F18 := fun_mk (st := s__law_lots) l18 c18 k18
  have F19 := fun_mk (st := s__law_blockers) l19 c19 k19
  have F20 := fun_mk (st := s__law_term) l20 c20 k20
  have F21 := fun_mk (st := s__law_rows) l21 c21 k21
  have F22 := fun_mk (st := s__law_widths) l22 c22 k22
  have F23 := fun_mk (st := s__law_cut) l23 c23 k23
  have F24 := fun_mk (st := s__law_is_cut) l24 c24 k24
  have F25 := fun_mk (st := s_law) l25 c25 k25
  refine ⟨PySem.W.fnOf "law" "law" (defArgs s_law) (defBody s_law) (defScope s_law) .none kV25 dc25 pm25 an25 cd25 ct25, fun s v => .of_eq rfl, fun base _ _ => ?_⟩
  have G0 := ok_is_int (P := l.prog) (w := w) (base := base) T  F0
  have C_is_int : Cal l.prog w K mg base "is_int" ["value"] 1 false g_is_int [] := ⟨_, _, G0, PySem.W.mg_of X G a0, k0, F0.binds (ps := ["value"]) fun _ _ _ _ _ _ us hl => match us, hl with | [_], _ => rfl⟩
  have G1 := ok_is_number (P := l.prog) (w := w) (base := base) T  C_is_int F1
  have C_is_number_0 : ∃ ds, Vals [] ds ∧ Cal l.prog w K mg base "is_number" ["value", "least", "most"] 2 false g_is_number ds := by
    obtain ⟨ds, hv, hb⟩ := F1.binds1 (ps := ["value", "least", "most"]) 3 2 (by simp) rfl fun T kV doc pm an cdv ct us its h1 h2 => match us, h1, its, h2 with | [_, _, _], _, [_, _], _ => ⟨_, rfl, rfl⟩
    exact ⟨ds, hv, _, _, G1, PySem.W.mg_of X G a1, k1, hb⟩
  have C_is_number : Cal l.prog w K mg base "is_number" ["value", "least", "most"] 2 false g_is_number [] := by
    obtain ⟨ds, hv, hc⟩ := C_is_number_0
    cases hv
    exact hc
  have C_is_number_2 : ∃ ds, Vals [.int 0, .non] ds ∧ Cal l.prog w K mg base "is_number" ["value", "least", "most"] 2 false g_is_number ds := by
    obtain ⟨ds, hv, hb⟩ := F1.binds1 (ps := ["value", "least", "most"]) 1 0 (by simp) rfl fun T kV doc pm an cdv ct us its h1 h2 => match us, h1, its, h2 with | [_], _, [_, _], _ => ⟨_, rfl, rfl⟩
    exact ⟨ds, hv, _, _, G1, PySem.W.mg_of X G a1, k1, hb⟩
  have G2 := ok_is_tuple (P := l.prog) (w := w) (base := base) T  F2
  have C_is_tuple_0 : ∃ ds, Vals [] ds ∧ Cal l.prog w K mg base "is_tuple" ["value", "many"] 1 false g_is_tuple ds := by
    obtain ⟨ds, hv, hb⟩ := F2.binds1 (ps := ["value", "many"]) 2 1 (by simp) rfl fun T kV doc pm an cdv ct us its h1 h2 => match us, h1, its, h2 with | [_, _], _, [_], _ => ⟨_, rfl, rfl⟩
    exact ⟨ds, hv, _, _, G2, PySem.W.mg_of X G a2, k2, hb⟩
  have C_is_tuple : Cal l.prog w K mg base "is_tuple" ["value", "many"] 1 false g_is_tuple [] := by
    obtain ⟨ds, hv, hc⟩ := C_is_tuple_0
    cases hv
    exact hc
  have G3 := ok_is_lot (P := l.prog) (w := w) (base := base) T  C_is_number F3
  have C_is_lot_1 : ∃ ds, Vals [.int 0] ds ∧ Cal l.prog w K mg base "is_lot" ["value", "most", "least"] 3 false g_is_lot ds := by
    obtain ⟨ds, hv, hb⟩ := F3.binds1 (ps := ["value", "most", "least"]) 2 1 (by simp) rfl fun T kV doc pm an cdv ct us its h1 h2 => match us, h1, its, h2 with | [_, _], _, [_, _], _ => ⟨_, rfl, rfl⟩
    exact ⟨ds, hv, _, _, G3, PySem.W.mg_of X G a3, k3, hb⟩
  have G4 := ok_common_of (P := l.prog) (w := w) (base := base) T  F4
  have C_common_of : Cal l.prog w K mg base "common_of" ["one", "two"] 1 false g_common_of [] := ⟨_, _, G4, PySem.W.mg_of X G a4, k4, F4.binds (ps := ["one", "two"]) fun _ _ _ _ _ _ us hl => match us, hl with | [_, _], _ => rfl⟩
  have G5 := ok_joined_lots (P := l.prog) (w := w) (base := base) T  F5
  have C_joined_lots : Cal l.prog w K mg base "joined_lots" ["lots"] 1 false g_joined_lots [] := ⟨_, _, G5, PySem.W.mg_of X G a5, k5, F5.binds (ps := ["lots"]) fun _ _ _ _ _ _ us hl => match us, hl with | [_], _ => rfl⟩
  have G6 := ok_family_things (P := l.prog) (w := w) (base := base) T  C_joined_lots F6
  have C_family_things : Cal l.prog w K mg base "family_things" ["family"] 2 false g_family_things [] := ⟨_, _, G6, PySem.W.mg_of X G a6, k6, F6.binds (ps := ["family"]) fun _ _ _ _ _ _ us hl => match us, hl with | [_], _ => rfl⟩
  have G7 := ok_term_rows (P := l.prog) (w := w) (base := base) T  C_is_number_2 C_joined_lots F7
  have C_term_rows : Cal l.prog w K mg base "term_rows" ["term"] 3 false g_term_rows [] := ⟨_, _, G7, PySem.W.mg_of X G a7, k7, F7.binds (ps := ["term"]) fun _ _ _ _ _ _ us hl => match us, hl with | [_], _ => rfl⟩
  have G8 := ok_part_cut (P := l.prog) (w := w) (base := base) T  C_joined_lots F8
  have C_part_cut : CalL l.prog w K mg base "part_cut" ["row", "widths", "told"] 2 g_part_cut := ⟨_, _, G8, PySem.W.mg_of X G a8, k8, F8.binds (ps := ["row", "widths", "told"]) fun _ _ _ _ _ _ us hl => match us, hl with | [_, _, _], _ => rfl⟩
  have G9 := ok_wide_cut (P := l.prog) (w := w) (base := base) T  C_part_cut C_term_rows F9
  have Ck_wide_cut_0 : CalK l.prog w K mg base "wide_cut" ["term", "widths"] ["term", "widths"] 4 false g_wide_cut [0, 1] 0 2 [] [] := ⟨_, _, G9, PySem.W.mg_of X G a9, k9, kb_mk .nil (fun s us ws _ h1 h2 => match us, h1, ws, h2 with | [], _, [_, _], _ => .of_eq rfl) (by simp)⟩
  have G10 := ok_cut_serves (P := l.prog) (w := w) (base := base) T  C_common_of C_family_things C_is_lot_1 C_is_number_2 C_is_tuple F10
  have Ck_cut_serves_1 : CalK l.prog w K mg base "cut_serves" ["family", "widths", "told"] ["family", "widths", "told"] 4 false g_cut_serves [0, 1, 2] 0 3 [] [] := ⟨_, _, G10, PySem.W.mg_of X G a10, k10, kb_mk .nil (fun s us ws _ h1 h2 => match us, h1, ws, h2 with | [], _, [_, _, _], _ => .of_eq rfl) (by simp)⟩
  have G11 := ok__law_box (P := l.prog) (w := w) (base := base) T  F11
  have C__law_box : Cal l.prog w K mg base "_law_box" ["script", "k"] 1 false g__law_box [] := ⟨_, _, G11, PySem.W.mg_of X G a11, k11, F11.binds (ps := ["script", "k"]) fun _ _ _ _ _ _ us hl => match us, hl with | [_, _], _ => rfl⟩
  have G12 := ok__law_take (P := l.prog) (w := w) (base := base) T  F12
  have C__law_take : Cal l.prog w K mg base "_law_take" ["box", "many"] 1 true g__law_take [] := ⟨_, _, G12, PySem.W.mg_of X G a12, k12, F12.binds (ps := ["box", "many"]) fun _ _ _ _ _ _ us hl => match us, hl with | [_, _], _ => rfl⟩
  have G13 := ok__law_pick (P := l.prog) (w := w) (base := base) T  C__law_take F13
  have C__law_pick : Cal l.prog w K mg base "_law_pick" ["box", "some"] 2 true g__law_pick [] := ⟨_, _, G13, PySem.W.mg_of X G a13, k13, F13.binds (ps := ["box", "some"]) fun _ _ _ _ _ _ us hl => match us, hl with | [_, _], _ => rfl⟩
  have G14 := ok__law_shuffled (P := l.prog) (w := w) (base := base) T  C__law_take F14
  have C__law_shuffled : Cal l.prog w K mg base "_law_shuffled" ["box", "some"] 2 true g__law_shuffled [] := ⟨_, _, G14, PySem.W.mg_of X G a14, k14, F14.binds (ps := ["box", "some"]) fun _ _ _ _ _ _ us hl => match us, hl with | [_, _], _ => rfl⟩
  have B15 : Binds K _ ["told", "due"] [] := F15.binds (ps := ["told", "due"]) fun _ _ _ _ _ _ us hl => match us, hl with | [_, _], _ => rfl
  have G15 := ok__law_same (P := l.prog) (w := w) (base := base) T  F15 (PySem.W.mg_of X G a15) B15 16
  have C__law_same : Cal l.prog w K mg base "_law_same" ["told", "due"] 16 false g__law_same [] := ⟨_, _, G15, PySem.W.mg_of X G a15, k15, B15⟩
  have G16 := ok__law_inside (P := l.prog) (w := w) (base := base) T  F16
  have C__law_inside : Cal l.prog w K mg base "_law_inside" ["one", "two"] 1 false g__law_inside [] := ⟨_, _, G16, PySem.W.mg_of X G a16, k16, F16.binds (ps := ["one", "two"]) fun _ _ _ _ _ _ us hl => match us, hl with | [_, _], _ => rfl⟩
  have G17 := ok__law_things (P := l.prog) (w := w) (base := base) T  F17
  have C__law_things : Cal l.prog w K mg base "_law_things" ["family"] 1 false g__law_things [] := ⟨_, _, G17, PySem.W.mg_of X G a17, k17, F17.binds (ps := ["family"]) fun _ _ _ _ _ _ us hl => match us, hl with | [_], _ => rfl⟩
  have G18 := ok__law_lots (P := l.prog) (w := w) (base := base) T  F18
  have C__law_lots : Cal l.prog w K mg base "_law_lots" ["things"] 1 false g__law_lots [] := ⟨_, _, G18, PySem.W.mg_of X G a18, k18, F18.binds (ps := ["things"]) fun _ _ _ _ _ _ us hl => match us, hl with | [_], _ => rfl⟩
  have G19 := ok__law_blockers (P := l.prog) (w := w) (base := base) T  C__law_inside C__law_lots F19
  have C__law_blockers : Cal l.prog w K mg base "_law_blockers" ["ways", "things"] 2 false g__law_blockers [] := ⟨_, _, G19, PySem.W.mg_of X G a19, k19, F19.binds (ps := ["ways", "things"]) fun _ _ _ _ _ _ us hl => match us, hl with | [_, _], _ => rfl⟩
  have G20 := ok__law_term (P := l.prog) (w := w) (base := base) T  C__law_pick C__law_shuffled C__law_take F20
  have C__law_term : Cal l.prog w K mg base "_law_term" ["box", "most", "many"] 3 true g__law_term [] := ⟨_, _, G20, PySem.W.mg_of X G a20, k20, F20.binds (ps := ["box", "most", "many"]) fun _ _ _ _ _ _ us hl => match us, hl with | [_, _, _], _ => rfl⟩
  have G21 := ok__law_rows (P := l.prog) (w := w) (base := base) T  F21
  have C__law_rows : Cal l.prog w K mg base "_law_rows" ["term"] 1 false g__law_rows [] := ⟨_, _, G21, PySem.W.mg_of X G a21, k21, F21.binds (ps := ["term"]) fun _ _ _ _ _ _ us hl => match us, hl with | [_], _ => rfl⟩
  have G22 := ok__law_widths (P := l.prog) (w := w) (base := base) T  C__law_pick C__law_take F22
  have C__law_widths : Cal l.prog w K mg base "_law_widths" ["box", "things"] 3 true g__law_widths [] := ⟨_, _, G22, PySem.W.mg_of X G a22, k22, F22.binds (ps := ["box", "things"]) fun _ _ _ _ _ _ us hl => match us, hl with | [_, _], _ => rfl⟩
  have G23 := ok__law_cut (P := l.prog) (w := w) (base := base) T  C__law_rows F23
  have C__law_cut : Cal l.prog w K mg base "_law_cut" ["term", "widths"] 2 false g__law_cut [] := ⟨_, _, G23, PySem.W.mg_of X G a23, k23, F23.binds (ps := ["term", "widths"]) fun _ _ _ _ _ _ us hl => match us, hl with | [_, _], _ => rfl⟩
  have G24 := ok__law_is_cut (P := l.prog) (w := w) (base := base) T  F24
  have C__law_is_cut : Cal l.prog w K mg base "_law_is_cut" ["family", "widths", "told"] 1 false g__law_is_cut [] := ⟨_, _, G24, PySem.W.mg_of X G a24, k24, F24.binds (ps := ["family", "widths", "told"]) fun _ _ _ _ _ _ us hl => match us, hl with | [_, _, _], _ => rfl⟩
  have G25 := ok_law (P := l.prog) (w := w) (base := base) T  C__law_blockers C__law_box C__law_cut C__law_is_cut C__law_same C__law_take C__law_term C__law_things C__law_widths Ck_wide_cut_0 Ck_cut_serves_1 F25
  exact G25
theorem walk {l : PySem.W.OpenLaw} {q : Program} {loose : List Str} {XP : (Str → Option Value) → Heap → Prop} {YP : World → Heap → Prop} {d : DefRec} {K : Params → PySem.W.Frag} (hn : l.most = some 63) (hdf : d.params.defaults = [])
    (math : ∀ ns : List Int, ns.length ≤ 63 → ∃ bs, g_law [scr ns] [] = .ok (.val (.bool true)) bs)
    (hY : ∀ (w : World) (h : Heap), YP w h → (K w.params).In h)
    (F : ∀ (w : World) (mg : Str → Option Value) (fa : Addr) (h : Heap), (K w.params).In h → h.Ns mainGlobals mg → mg d.name = some (.ref fa) →
      ∃ fd : FuncData, (∀ (s : Shared) (u : Value), BindsTo s fd ⟨[u], []⟩ [("script", u)]) ∧ ∀ base : Heap, (K w.params).In base → base.Ns mainGlobals mg → FnOk l.prog w (K w.params) mg base CX0 17 fa fd ["script"] (spF (K w.params) false 1 g_law)) :
    PySem.W.WalkO q loose XP YP l.row.toRowW d [] (fun f vs => PySem.call f vs) :=
  L2.walk_of (n := 63) (k := 17) (x := "script") (CX := fun _ => CX0) (sp := fun w => spF (K w.params) false 1 g_law) hn (by decide) hdf ⟨rfl, by decide, by decide⟩ hY F (fun w H a ns hl _ hS => law_sp (math ns hl) hS) fun _ _ _ _ _ z => z
end Law

namespace Law
open PySem L2 L3
theorem box_ok {ns : List Int} {k : Nat} {Q : R → List D → Prop} (hk : k < 100) (hl : ns.length ≤ 63) (hq : ∀ b, VB b → Q (.new (.lst b)) []) : WpF (g__law_box [scr ns, .int k] []) Q := by
  unfold g__law_box b__law_box
  rw [wpF_runF]
  simp
  have leaf : ∀ c g : Int, 0 ≤ g → ((c % 2147483563).natAbs.log2 + Nat.log2 40014 < 1000000 ∧ Nat.log2 3121 + k.log2 < 1000000 ∧ 2 ≤ sizeLine ∧ Q (.new (.lst [.int g, .int ((c % 2147483563 * 40014 + 3121 * (k : Int)) % 2147483563 + 1)])) []) := fun c g hg =>
    ⟨mulS (by omega) (by omega), mulS (by omega) (by omega), by decide, hq _ ⟨_, _, rfl, hg, by omega, by omega⟩⟩
  refine ⟨mulS (by omega) (by omega), fun h => ?_, fun h => ⟨fun h1 => ⟨h1, ?_⟩, fun _ => ⟨fun _ => leaf _ _ (by omega), fun _ => leaf _ _ (by omega)⟩⟩⟩
  · refine cV_at (by omega) (by omega) fun x _ => ⟨fun h => leaf _ _ (by omega), fun _ => leaf _ _ (by omega)⟩
  · refine cV_at (Int.emod_nonneg _ (by omega)) (Int.emod_lt_of_pos _ (by omega)) fun x _ => ⟨mulS (by omega) (by omega), fun h => leaf _ _ (by omega), fun _ => leaf _ _ (by omega)⟩

theorem mod_q {P : Int → Prop} {x m : Int} (h0 : 0 < m) (h : ∀ d : Nat, (d : Int) < m → P d) : P (x % m) := by
  obtain ⟨d, e, hd⟩ := modN x h0
  rw [e]; exact h d hd
theorem take_ok {box : List D} {many : Int} {Q : R → List D → Prop} (hb : VB box) (h0 : 0 < many) (h1 : many < 2 ^ 30) (hq : ∀ (d : Nat) y, (d : Int) < many → VB y → Q (.val (.int d)) y) : WpF (g__law_take [.int many] box) Q := by
  obtain ⟨g, r, rfl, hg, hr, hr2⟩ := hb
  unfold g__law_take b__law_take
  rw [wpF_runF]
  simp
  refine ⟨fun hgp => ⟨h0, ⟨h0, divS (by omega)⟩, ?_⟩, fun hgn => ⟨mulS (by omega) (by omega), mulS (by omega) (by omega), mulS (by omega) (by omega), divS (by omega), h0, ?_⟩⟩
  · exact mod_q (P := fun v => Q (.val (.int v)) _) h0 fun d hd => hq d _ hd ⟨_, _, rfl, Int.ediv_nonneg hg (by omega), hr, hr2⟩
  · exact mod_q (P := fun v => Q (.val (.int v)) _) h0 fun d hd => hq d _ hd ⟨_, _, rfl, hg, by omega, by omega⟩

theorem pick_ok {box : List D} {xs : List D} {Q : R → List D → Prop} (hb : VB box) (h0 : 0 < xs.length) (h1 : xs.length < 2 ^ 30) (hq : ∀ d y, d ∈ xs → VB y → Q (.val d) y) : WpF (g__law_pick [.list xs] box) Q := by
  unfold g__law_pick b__law_pick
  rw [wpF_runF]
  simp
  refine take_ok hb (by omega) (by omega) fun d y hd hy => ?_
  have hd' : d < xs.length := by omega
  simp [cV_n hd']
  exact hq _ _ (List.getElem_mem _) hy

def InvShuf (xs : List D) (i : Nat) (s : S) : Prop := ∃ l f t y, s = ⟨[some .io, some (.val (.list xs)), some (.own (.lst l)), some (.own (.lst f)), t], y⟩ ∧ VB y ∧ (f ++ l).Perm xs ∧ l.length + i = xs.length
theorem shuffled_ok {box : List D} {xs : List D} {Q : R → List D → Prop} (hb : VB box) (hl : xs.length ≤ 2 ^ 20) (hq : ∀ ys y, ys.Perm xs → VB y → Q (.new (.lst ys)) y) : WpF (g__law_shuffled [.list xs] box) Q := by
  unfold g__law_shuffled b__law_shuffled
  rw [wpF_runF]
  simp
  refine ⟨rOk_of (by omega) (by omega), ?_⟩
  refine wp_forL (InvShuf xs) ⟨xs, [], none, box, rfl, hb, .refl _, rfl⟩ ?_ ?_
  · rintro i d s hd ⟨l, f, t, y, rfl, hy, hp, hli⟩
    have hi := (range_at hd).1
    simp
    refine take_ok hy (by omega) (by omega) fun d z hd hz => ?_
    have hd' : d < l.length := by omega
    have hf : f.length + l.length = xs.length := by rw [← List.length_append]; exact hp.length_eq
    have hs : l.length ≤ sizeLine := by rw [size_eq]; omega
    simp [popAt_n hd' hs]
    refine ⟨by rw [size_eq]; omega, _, _, _, _, rfl, hz, perm_pop hd' hp, ?_⟩
    rw [List.length_eraseIdx, if_pos hd']; omega
  · rintro s ⟨l, f, t, y, rfl, hy, hp, hli⟩
    have : l = [] := List.length_eq_zero_iff.mp (by rw [range_len] at hli; omega)
    subst this
    simp
    exact hq _ _ (by simpa using hp) hy

theorem shufA_ok {box : List D} {n : Nat} {Q : R → List D → Prop} (hb : VB box) (hl : n ≤ 2 ^ 20) (hq : ∀ (ys : List Nat) y, ys.Perm (List.range n) → VB y → Q (.new (.lst (ys.map nD))) y) : WpF (g__law_shuffled [.list (dRange 0 n)] box) Q := by
  refine shuffled_ok hb (by rw [range_len]; exact hl) fun ys y hp hy => ?_
  rw [range_nD] at hp
  have hall : ∀ d ∈ ys, ∃ k : Nat, d = nD k := fun d hd => by
    obtain ⟨k, _, e⟩ := List.mem_map.mp (hp.mem_iff.mp hd)
    exact ⟨k, e.symm⟩
  have : ∃ ks : List Nat, ys = ks.map nD := by
    clear hp hq
    induction ys with
    | nil => exact ⟨[], rfl⟩
    | cons d ys ih =>
      obtain ⟨k, rfl⟩ := hall d List.mem_cons_self
      obtain ⟨ks, e⟩ := ih fun d hd => hall d (List.mem_cons_of_mem _ hd)
      exact ⟨k :: ks, by rw [e]; rfl⟩
  obtain ⟨ks, rfl⟩ := this
  refine hq ks y ?_ hy
  have inv : ∀ l : List Nat, (l.map nD).map (fun d => match d with | .int i => i.toNat | _ => 0) = l := fun l => by
    rw [List.map_map]
    conv => rhs; rw [← List.map_id l]
    rfl
  have := hp.map (fun d => match d with | .int i => i.toNat | _ => 0)
  rwa [inv, inv] at this


def InvJO (L : D) (F : List (List Nat)) (i : Nat) (s : S) : Prop := ∃ t u, s = ⟨[some (.val L), some (.own (.dct (trueK ((F.take i).flatten.foldl addK [])))), t, u], []⟩
def InvJI (L : D) (e : D) (ks : List Nat) (w : List Nat) (i : Nat) (s : S) : Prop := ∃ u, s = ⟨[some (.val L), some (.own (.dct (trueK ((w.take i).foldl addK ks)))), some (.val e), u], []⟩
theorem joined_ok {L : D} {F : List (List Nat)} {Q : R → List D → Prop} (hL : L = .tuple (F.map tN) ∨ L = .list (F.map tN)) (hl : F.flatten.length < sizeLine) (hq : Q (.val (tN (joinedN F))) []) : WpF (g_joined_lots [L] []) Q := by
  unfold g_joined_lots b_joined_lots
  rw [wpF_runF]
  have key : Wp (forL (gN 2) (sFor (iVal (frz (eVar 2))) (gN 3) (sDPut 1 (frz (eC (PyData.bool true))) (frz (eVar 3)))) (F.map tN) ⟨[some (.val L), some (.own (.dct [])), none, none], []⟩)
      (goS (sRet (eP [.ex (frz (eP [.ex (frz (eDList 1))] pSorted))] pTupleOf)) (fnE Q)) := by
    refine wp_forL (InvJO L F) ⟨none, none, rfl⟩ ?_ ?_
    · rintro i d s hd ⟨t, u, rfl⟩
      rw [List.getElem?_map] at hd
      cases hw : F[i]? with
      | none => rw [hw] at hd; cases hd
      | some w =>
        rw [hw] at hd; cases hd
        simp [tN]
        refine wp_forL (InvJI L (.tuple (w.map nD)) ((F.take i).flatten.foldl addK []) w) ⟨u, rfl⟩ ?_ ?_
        · rintro j d s hd ⟨u, rfl⟩
          rw [List.getElem?_map] at hd
          cases hn : w[j]? with
          | none => rw [hn] at hd; cases hd
          | some n =>
            rw [hn] at hd; cases hd
            simp [nD]
            have hs : ((w.take j).foldl addK ((F.take i).flatten.foldl addK [])).length < sizeLine := by
              rw [← List.foldl_append]
              refine Nat.lt_of_le_of_lt (addK_len _ []) (Nat.lt_of_le_of_lt ?_ hl)
              have h1 : ((F.take i).flatten ++ w.take j).Sublist F.flatten := by
                obtain ⟨hi, e⟩ := List.getElem?_eq_some_iff.mp hw
                have : F.flatten = (F.take i).flatten ++ (w ++ (F.drop (i + 1)).flatten) := by
                  rw [← e, ← List.flatten_cons, ← List.drop_eq_getElem_cons hi, ← List.flatten_append, List.take_append_drop]
                rw [this]
                exact (List.Sublist.refl _).append ((List.take_sublist _ _).trans (List.sublist_append_left _ _))
              simpa using h1.length_le
            refine ⟨by rw [trueK_len]; exact hs, some (.val (.int n)), ?_⟩
            rw [putD_true, List.take_add_one, hn, List.foldl_append]
            rfl
        · rintro s ⟨u, rfl⟩
          rw [List.length_map, List.take_length]
          refine ⟨some (.val (.tuple (w.map nD))), u, ?_⟩
          rw [List.take_add_one, hw, List.flatten_append, List.foldl_append]
          simp
    · rintro s ⟨t, u, rfl⟩
      rw [List.length_map, List.take_length]
      have hs : (F.flatten.foldl addK []).length ≤ sizeLine := Nat.le_trans (addK_len _ []) (Nat.le_of_lt (by simpa using hl))
      simp [keys_true, sortOk_ints hs, sort_ints]
      exact hq
  rcases hL with rfl | rfl <;> simpa using key

theorem things_ok {L : D} {F : List (List Nat)} {Q : R → List D → Prop} (hL : L = .tuple (F.map tN) ∨ L = .list (F.map tN)) (hl : F.flatten.length < sizeLine) (hq : Q (.val (.int ((joinedN F).length : Nat))) []) : WpF (g_family_things [L] []) Q := by
  unfold g_family_things b_family_things
  rw [wpF_runF]
  simp
  refine joined_ok hL hl ?_
  simp [tN]
  exact hq

theorem lthings_ok {L : D} {F : List (List Nat)} {n : Nat} {Q : R → List D → Prop} (hL : L = .tuple (F.map tN) ∨ L = .list (F.map tN)) (hl : F.length < sizeLine) (hne : F ≠ []) (hw : ∀ w ∈ F, w ≠ []) (hn : ∀ x, (∃ w ∈ F, x ∈ w) ↔ x < n) (hq : Q (.val (.int (n : Int))) []) : WpF (g__law_things [L] []) Q := by
  unfold g__law_things b__law_things
  rw [wpF_runF]
  have h1 : ∀ w ∈ F, ∃ m : Int, pMax [tN w] = some (.d (.int m)) ∧ (∃ x ∈ w, m = ((x : Nat) : Int)) ∧ ∀ x ∈ w, ((x : Nat) : Int) ≤ m := fun w h => pMax_of (fun x : Nat => (x : Int)) (.inr rfl) (hw w h)
  have h2 : ∃ g : List Nat → Int, ∀ w ∈ F, pMax [tN w] = some (.d (.int (g w))) ∧ (∃ x ∈ w, g w = ((x : Nat) : Int)) ∧ ∀ x ∈ w, ((x : Nat) : Int) ≤ g w := by
    refine ⟨fun w => if h : w ∈ F then (h1 w h).choose else 0, fun w h => ?_⟩
    simp only [dif_pos h]
    exact (h1 w h).choose_spec
  obtain ⟨g, hg⟩ := h2
  obtain ⟨m, hm, ⟨w0, hw0, e0⟩, hle⟩ := pMax_of g (L := .list (F.map fun w => .int (g w))) (.inl rfl) hne
  have hmn : (1 : Int) + m = n := by
    obtain ⟨_, ⟨x, hx, ex⟩, _⟩ := hg w0 hw0
    have hx2 : x < n := (hn x).mp ⟨w0, hw0, hx⟩
    obtain ⟨w1, hw1, hx1⟩ := (hn (n - 1)).mpr (by omega)
    have h3 := (hg w1 hw1).2.2 _ hx1
    have h4 := hle w1 hw1
    omega
  have key : ∀ Q : List D → S → Prop, Q (F.map fun w => .int (g w)) ⟨[some (.val L), none], []⟩ → Wp (compL (gN 1) (mret true) (frz (eP [.var 1] pMax)) [1] (F.map tN) [] ⟨[some (.val L), none], []⟩) Q := by
    intro Q hQ
    refine wp_mapE tN (fun w => .int (g w)) (Nat.le_of_lt hl) (fun w hwF => ?_) hQ
    simp [(hg w hwF).1]
  rcases hL with rfl | rfl
  · simp
    refine key _ ?_
    simp [hm, hmn]
    exact hq
  · simp
    refine key _ ?_
    simp [hm, hmn]
    exact hq

def InvSame (T : D) (i : Nat) (s : S) : Prop := ∃ a b, s = ⟨[some (.val T), some (.val T), a, b], []⟩
theorem same_gr : ∀ (m n : Nat) (x : D) (Q : R → List D → Prop), Okd n x → n < m → Q (.val (.bool true)) [] → WpF (gr__law_same m [x, x] []) Q
  | 0, _, _, _, _, h, _ => absurd h (Nat.not_lt_zero _)
  | m + 1, n, x, Q, hx, hn, hq => by
    show WpF (runF false 4 (b__law_same (gr__law_same m)) [x, x] []) Q
    unfold b__law_same
    rw [wpF_runF]
    cases hx with
    | non => simp; exact hq
    | bool n b => cases b <;> simp <;> exact hq
    | int n i => simp; exact hq
    | str n x hs => simp [ndEqS hs]; exact hq
    | tup n xs hx =>
      simp
      refine wp_forL (InvSame (.tuple xs)) ⟨none, none, rfl⟩ ?_ ?_
      · rintro i d s hd ⟨a, b, rfl⟩
        obtain ⟨x, y, h1, h2, rfl⟩ := zip_at hd
        rw [h1] at h2; cases h2
        simp
        refine same_gr m n x _ (hx x (List.mem_of_getElem? h1)) (by omega) ?_
        simp
        exact ⟨_, _, rfl⟩
      · rintro s ⟨a, b, rfl⟩
        simp
        exact hq
theorem same_ok {n : Nat} {x : D} {Q : R → List D → Prop} (hx : Okd n x) (hn : n < 16) (hq : Q (.val (.bool true)) []) : WpF (g__law_same [x, x] []) Q := same_gr 16 n x Q hx hn hq

abbrev envT (a b n : Int) (s4 s5 s6 s7 s8 s9 s10 s11 s12 s13 s14 s15 : Option Sl) : List (Option Sl) := [some .io, some (.val (.int a)), some (.val (.int b)), some (.val (.int n)), s4, s5, s6, s7, s8, s9, s10, s11, s12, s13, s14, s15]
def PF (m n : Nat) (ps : List Pt) : Prop := (∀ p ∈ ps, Sp m p.1 p.2.1 p.2.2) ∧ (ps.flatMap (·.2.2)).Perm (List.range n)
def InvT (a b : Int) (m n : Nat) (i : Nat) (s : S) : Prop := ∃ (ps : List Pt) (s6 s7 s9 s10 s11 s12 s13 s15 : Option Sl) (y : List D), s = ⟨envT a b n (some (.own (.lst (ps.map ptD)))) none s6 s7 none s9 s10 s11 s12 s13 none s15, y⟩ ∧ okSlot (some s11) = true ∧ VB y ∧ PF m n ps ∧ 1 ≤ ps.length ∧ ps.length + i ≤ n
def InvPop (a b : Int) (n : Nat) (ps : List Pt) (s6 s7 s9 s10 s11 s12 s13 s15 : Option Sl) (i : Nat) (acc : List D) (s : S) : Prop := ∃ (qs rs : List Pt) (x : Option Sl) (y : List D), acc = qs.map ptD ∧ (qs ++ rs).Perm ps ∧ rs.length + i = ps.length ∧ VB y ∧
  s = ⟨envT a b n (some (.own (.lst (rs.map ptD)))) none s6 s7 x s9 s10 s11 s12 s13 none s15, y⟩
def Jn (qs : List Pt) (j : Nat) : List (List Nat) := ((qs.take j).map (·.2.1)).foldl cross [[]]
def Bn (qs : List Pt) (j : Nat) : List (List Nat) := (qs.take j).flatMap (·.2.1)
def InvJ (a b : Int) (n : Nat) (s4 s6 s15 : Option Sl) (y : List D) (qs : List Pt) (j : Nat) (s : S) : Prop := ∃ (s9 : Sl) (s11 s12 s13 : Option Sl), s = ⟨envT a b n s4 none s6 (some (.val (.list (qs.map ptD)))) none (some s9) (some (.own (.lst ((Bn qs j).map tN)))) s11 s12 s13 none s15, y⟩ ∧
  ((j = 0 ∧ s9 = .own (.lst ((Jn qs j).map tN))) ∨ (0 < j ∧ s9 = .val (.list ((Jn qs j).map tN)))) ∧ okSlot (some s11) = true
def InvL (a b : Int) (n : Nat) (s4 s6 s7 s9 s10 s11 s15 : Option Sl) (y : List D) (J W : List (List Nat)) (i : Nat) (s : S) : Prop := ∃ (s13 : Option Sl), s = ⟨envT a b n s4 none s6 s7 none s9 s10 s11 (some (.own (.lst ((cross (J.take i) W).map tN)))) s13 none s15, y⟩
theorem Jn_succ {qs : List Pt} {j : Nat} {q : Pt} (h : qs[j]? = some q) : Jn qs (j + 1) = cross (Jn qs j) q.2.1 := by
  unfold Jn
  rw [List.take_add_one, h, List.map_append, List.foldl_append]
  rfl
theorem Bn_succ {qs : List Pt} {j : Nat} {q : Pt} (h : qs[j]? = some q) : Bn qs (j + 1) = Bn qs j ++ q.2.1 := by
  unfold Bn
  rw [List.take_add_one, h, List.flatMap_append]
  simp
def bJoin : M Fl := sSeq (sSet 12 (eLst []))
    (sSeq (sFor (iVal (frz (eVar 9))) (gN 13) (sSet 12 (e2 (.var 12) (.ex (frz (eComp (iVal (frz (e2 (.var 11) (.ex (frz (eC (.int 1)))) pIx))) [14] (gN 14) (mret true) (frz (eP [.ex (frz (eP [.ex (frz (e2 (.var 13) (.var 14) pAdd))] pSorted))] pTupleOf))))) pAdd)))
    (sPar [9, 10] [eVar 12, e2 (.var 10) (.ex (frz (e2 (.var 11) (.ex (frz (eC (.int 1)))) pIx))) pAdd]))
theorem join_ok {a b : Int} {n m : Nat} {s4 s6 s11 s12 s13 s15 : Option Sl} {y : List D} {qs : List Pt} {Q : Fl → S → Prop} (hm1 : 1 ≤ m) (hm : m ≤ 60) (hp : ∀ p ∈ qs, Sp m p.1 p.2.1 p.2.2) (h3 : qs.length ≤ 3) (h1 : 1 ≤ qs.length) (hl : (qs.flatMap (·.2.2)).length ≤ 12) (h11 : okSlot (some s11) = true) (hw : ∀ p ∈ qs, ∀ w ∈ p.2.1, w.length ≤ 12) 
    (hq : ∀ s11 s12 s13, okSlot (some s11) = true → Q .nx ⟨envT a b n s4 none s6 (some (.val (.list (qs.map ptD)))) none (some (.val (.list ((crossAll (qs.map (·.2.1))).map tN)))) (some (.own (.lst ((qs.flatMap (·.2.1)).map tN)))) s11 s12 s13 none s15, y⟩) :
    Wp (forL (gN 11) bJoin (qs.map ptD) ⟨envT a b n s4 none s6 (some (.val (.list (qs.map ptD)))) none (some (.own (.lst [tN []]))) (some (.own (.lst []))) s11 s12 s13 none s15, y⟩) Q := by
  have hsz := size_eq
  refine wp_forL (InvJ a b n s4 s6 s15 y qs) ⟨_, s11, s12, s13, rfl, .inl ⟨rfl, rfl⟩, h11⟩ ?_ ?_
  · rintro j d s hd ⟨s9, s11, s12, s13, rfl, h9, h11⟩
    obtain ⟨q, hqj, rfl⟩ := mem_map_at hd
    have hqm : q ∈ qs := List.mem_of_getElem? hqj
    have hJ1 := cross_small hm1 hm hp h3 hl (j + 1)
    have hJ0 := cross_small hm1 hm hp h3 hl j
    have hB : (Bn qs (j + 1)).length ≤ 720 := by
      have e1 : (qs.flatMap (·.2.1)).length = (Bn qs (j + 1)).length + ((qs.drop (j + 1)).flatMap (·.2.1)).length := by
        unfold Bn
        rw [← List.length_append, ← List.flatMap_append, List.take_append_drop]
      have := flat_small hm1 hm hp
      omega
    rw [Bn_succ hqj, List.length_append] at hB
    have hJ1' : (cross (Jn qs j) q.2.1).length ≤ 13824000 := by rw [← Jn_succ hqj]; exact hJ1
    have hwl : q.2.1.length ≤ 720 := by omega
    have lenJ : ∀ w ∈ Jn qs j, w.length ≤ 36 := fun w hw' => by
      have := foldl_long (k := 12) (qs.take j) [[]] 0 (fun w hw => by rw [List.mem_singleton.mp hw]; exact Nat.le_refl _) (fun p hpm => hw p (List.mem_of_mem_take hpm)) w hw'
      have h2 : (qs.take j).length ≤ 3 := by rw [List.length_take]; omega
      omega
    have inner : ∀ (Q : Fl → S → Prop), (∀ s13, Q .nx ⟨envT a b n s4 none s6 (some (.val (.list (qs.map ptD)))) none (some (.val (.list ((Jn qs j).map tN)))) (some (.own (.lst ((Bn qs j).map tN)))) (some (.val (ptD q))) (some (.own (.lst ((cross (Jn qs j) q.2.1).map tN)))) s13 none s15, y⟩) →
        Wp (forL (gN 13) (sSet 12 (e2 (.var 12) (.ex (frz (eComp (iVal (frz (e2 (.var 11) (.ex (frz (eC (.int 1)))) pIx))) [14] (gN 14) (mret true) (frz (eP [.ex (frz (eP [.ex (frz (e2 (.var 13) (.var 14) pAdd))] pSorted))] pTupleOf))))) pAdd)) ((Jn qs j).map tN)
          ⟨envT a b n s4 none s6 (some (.val (.list (qs.map ptD)))) none (some (.val (.list ((Jn qs j).map tN)))) (some (.own (.lst ((Bn qs j).map tN)))) (some (.val (ptD q))) (some (.own (.lst []))) s13 none s15, y⟩) Q := by
      intro Q hQ
      refine wp_forL (InvL a b n s4 s6 (some (.val (.list (qs.map ptD)))) (some (.val (.list ((Jn qs j).map tN)))) (some (.own (.lst ((Bn qs j).map tN)))) (some (.val (ptD q))) s15 y (Jn qs j) q.2.1) ⟨s13, rfl⟩ ?_ ?_
      · rintro i d s hd ⟨s13, rfl⟩
        obtain ⟨w, hw', rfl⟩ := mem_map_at hd
        simp
        refine wp_mapE tN (fun m => tN (srtN (w ++ m))) (by omega) (fun v hv => ?_) ?_
        · have h1 := lenJ w (List.mem_of_getElem? hw')
          have h2 := hw q hqm v hv
          simp [-List.map_append]
          exact ⟨by omega, rfl⟩
        · have hs : (cross ((Jn qs j).take (i + 1)) q.2.1).length ≤ (cross (Jn qs j) q.2.1).length := by
            rw [cross_len, cross_len]
            exact Nat.mul_le_mul_right _ (by rw [List.length_take]; omega)
          rw [cross_take hw', List.length_append, List.length_map] at hs
          simp
          refine ⟨by omega, ?_⟩
          refine ⟨some (.val (tN w)), ?_⟩
          rw [cross_take hw', List.map_append, List.map_map]
          rfl
      · rintro s ⟨s13, rfl⟩
        rw [List.length_map, List.take_length]
        exact hQ s13
    have fin : ∀ s13, InvJ a b n s4 s6 s15 y qs (j + 1) ⟨envT a b n s4 none s6 (some (.val (.list (qs.map ptD)))) none (some (.val (.list ((cross (Jn qs j) q.2.1).map tN)))) (some (.own (.lst ((Bn qs j).map tN ++ q.2.1.map tN)))) (some (.val (ptD q))) (some (.val (.list ((cross (Jn qs j) q.2.1).map tN)))) s13 none s15, y⟩ := fun s13 => by
      refine ⟨_, some (.val (ptD q)), some (.val (.list ((cross (Jn qs j) q.2.1).map tN))), s13, ?_, .inr ⟨by omega, rfl⟩, rfl⟩
      rw [Jn_succ hqj, Bn_succ hqj, List.map_append]
    unfold bJoin
    rcases h9 with ⟨hj, rfl⟩ | ⟨hj, rfl⟩
    · simp
      refine inner _ fun s13 => ?_
      simp
      exact ⟨by omega, fin s13⟩
    · simp
      refine inner _ fun s13 => ?_
      simp
      exact ⟨by omega, fin s13⟩
  · rintro s ⟨s9, s11, s12, s13, rfl, h9, h11⟩
    rw [List.length_map] at h9 ⊢
    rcases h9 with ⟨hj, _⟩ | ⟨hj, rfl⟩
    · omega
    · have e1 : Jn qs qs.length = crossAll (qs.map (·.2.1)) := by unfold Jn; rw [List.take_length]; rfl
      have e2 : Bn qs qs.length = qs.flatMap (·.2.1) := by unfold Bn; rw [List.take_length]
      rw [e1, e2]
      exact hq s11 s12 s13 h11

theorem ptD_len {ps : List Pt} : (ps.map ptD).length = ps.length := List.length_map _
theorem pop_ok {a b : Int} {n c : Nat} {ps : List Pt} {s6 s7 s9 s10 s11 s12 s13 s15 : Option Sl} {y : List D} {Q : List D → S → Prop} (hc : c ≤ ps.length) (hps : ps.length ≤ 12) (hy : VB y)
    (hq : ∀ (qs rs : List Pt) z, VB z → (qs ++ rs).Perm ps → qs.length = c → Q (qs.map ptD) ⟨envT a b n (some (.own (.lst (rs.map ptD)))) none s6 s7 none s9 s10 s11 s12 s13 none s15, z⟩) :
    Wp (compL (gN 8) (mret true) (frz (eM 4 [frz (eCallB g__law_take 0 [frz (eP [.var 4] pLen)] [])] mPopAt)) [8] (dRange 0 c) [] ⟨envT a b n (some (.own (.lst (ps.map ptD)))) none s6 s7 none s9 s10 s11 s12 s13 none s15, y⟩) Q := by
  have hsz := size_eq
  refine wp_compL (InvPop a b n ps s6 s7 s9 s10 s11 s12 s13 s15) ⟨[], ps, none, y, rfl, .refl _, rfl, hy, rfl⟩ ?_ ?_
  · rintro i d acc s hd ⟨qs, rs, x, z, rfl, hp, hl, hz, rfl⟩
    have hi := (range_at hd).1
    have hql : qs.length + rs.length = ps.length := by rw [← List.length_append]; exact hp.length_eq
    simp
    refine take_ok hz (by omega) (by omega) fun k z2 hk hz2 => ?_
    have hk' : k < rs.length := by omega
    simp [popAt_map ptD hk' (show rs.length ≤ sizeLine by omega)]
    refine ⟨by omega, qs ++ [rs[k]], rs.eraseIdx k, some (.val d), z2, by rw [List.map_append]; rfl, perm_pop hk' hp, ?_, hz2, rfl⟩
    rw [List.length_eraseIdx, if_pos hk']; omega
  · rintro acc s ⟨qs, rs, x, z, rfl, hp, hl, hz, rfl⟩
    rw [range_len] at hl
    have hql : qs.length + rs.length = ps.length := by rw [← List.length_append]; exact hp.length_eq
    exact hq qs rs z hz hp (by omega)
theorem PF.pick {m n : Nat} {ps qs rs : List Pt} (h : PF m n ps) (hp : (qs ++ rs).Perm ps) : (∀ p ∈ qs, Sp m p.1 p.2.1 p.2.2) ∧ (∀ p ∈ rs, Sp m p.1 p.2.1 p.2.2) ∧ (qs.flatMap (·.2.2) ++ rs.flatMap (·.2.2)).Perm (List.range n) := by
  refine ⟨fun p hm => h.1 p (hp.mem_iff.mp (List.mem_append_left _ hm)), fun p hm => h.1 p (hp.mem_iff.mp (List.mem_append_right _ hm)), ?_⟩
  rw [← List.flatMap_append]
  exact (hp.flatMap_right _).trans h.2
theorem term_ok {box : List D} {most m : Nat} {Q : R → List D → Prop} (hb : VB box) (h1 : 1 ≤ most) (h2 : most ≤ 12) (hm1 : 1 ≤ m) (hm : m ≤ 60)
    (hq : ∀ t W th n y, Sp m t W th → th.Perm (List.range n) → 1 ≤ n → n ≤ most → VB y → Q (.val (.tuple [t, fN (srtW W)])) y) : WpF (g__law_term [.int (most : Int), .int (m : Int)] box) Q := by
  have hsz := size_eq
  unfold g__law_term b__law_term
  rw [wpF_runF]
  simp
  refine take_ok hb (by omega) (by omega) fun d y hd hy => ?_
  obtain ⟨n, hn, hn1, hn2⟩ : ∃ n : Nat, (1 : Int) + d = n ∧ 1 ≤ n ∧ n ≤ most := ⟨1 + d, by omega, by omega, by omega⟩
  simp [hn]
  refine ⟨lrOk_of (by omega) (by omega) (by omega) (by omega), ?_⟩
  refine shufA_ok hy (by omega) fun ks z hk hz => ?_
  simp
  have hkl : ks.length = n := by rw [hk.length_eq, List.length_range]
  refine wp_mapE nD (fun k => ptD (nD k, [[k]], [k])) (by omega) (fun k _ => ?_) ?_
  · simp [ptD, nD, tN]
    omega
  simp
  refine ⟨rOk_of (by omega) (by omega), ?_⟩
  have fin : ∀ (ps : List Pt) (s6 s7 s9 s10 s11 s12 s13 s15 : Option Sl) (y : List D), PF m n ps → ps.length = 1 → VB y → Wp (sRet (eTup [frz (e2 (.ex (frz (e2 (.var 4) (.ex (frz (eC (.int 0)))) pIx))) (.ex (frz (eC (.int 0)))) pIx), frz (eP [.ex (frz (eP [.ex (frz (e2 (.ex (frz (e2 (.var 4) (.ex (frz (eC (.int 0)))) pIx))) (.ex (frz (eC (.int 1)))) pIx))] pSorted))] pTupleOf)])
      ⟨envT most m n (some (.own (.lst (ps.map ptD)))) none s6 s7 none s9 s10 s11 s12 s13 none s15, y⟩) (fnE Q) := by
    intro ps s6 s7 s9 s10 s11 s12 s13 s15 y hP hl hy
    match ps, hl with
    | [p], _ =>
      have hS := hP.1 p (by simp)
      have hth : p.2.2.Perm (List.range n) := by simpa using hP.2
      have hthl : p.2.2.length = n := by rw [hth.length_eq, List.length_range]
      have hW : p.2.1.length ≤ 720 := by
        have h3 := hS.few hm1
        have h4 : m * p.2.2.length ≤ 60 * 12 := Nat.mul_le_mul hm (by omega)
        omega
      simp [sorted_ways (show p.2.1.length ≤ sizeLine by omega) hS.ne]
      exact ⟨by omega, hq p.1 p.2.1 p.2.2 n y hS hth hn1 hn2 hy⟩
  refine wp_forL (InvT most m m n) ⟨ks.map fun k => (nD k, [[k]], [k]), none, none, none, none, none, none, none, none, z, ?_, rfl, hz, ⟨?_, ?_⟩, ?_, ?_⟩ ?_ ?_
  · rw [List.map_map]; rfl
  · intro p hp
    obtain ⟨k, _, rfl⟩ := List.mem_map.mp hp
    exact .leaf k
  · have : (ks.map fun k => ((nD k, [[k]], [k]) : Pt)).flatMap (·.2.2) = ks := by
      rw [List.flatMap_map]
      show ks.flatMap (fun k => [k]) = ks
      clear hk hkl
      induction ks with
      | nil => rfl
      | cons k ks ih => rw [List.flatMap_cons, ih]; rfl
    rw [this]; exact hk
  · rw [List.length_map]; omega
  · rw [List.length_map]; omega
  · rintro i d s hd ⟨ps, s6, s7, s9, s10, s11, s12, s13, s15, y, rfl, h11, hy, hP, hp1, hpi⟩
    have hi := (range_at hd).1
    simp
    refine ⟨fun hl => ?_, fun hl => ⟨by omega, pick_ok hy (by decide) (by decide) fun e y2 he hy2 => ?_⟩⟩
    · have := fin ps (some (.val d)) s7 s9 s10 s11 s12 s13 s15 y hP (by omega) hy
      simpa using this
    obtain ⟨c, hc, hc2, hc3, hck⟩ : ∃ c : Nat, pMin2 [.int (ps.length : Int), e] = some (.d (.int (c : Int))) ∧ 2 ≤ c ∧ c ≤ 3 ∧ c ≤ ps.length := by
      have he' : e = .int 2 ∨ e = .int 3 := by
        simpa using he
      rcases he' with rfl | rfl
      · refine ⟨2, ?_, by omega, by omega, by omega⟩
        rw [pMin2_int, show (if (2 : Int) < (ps.length : Int) then (2 : Int) else (ps.length : Int)) = ((2 : Nat) : Int) from by split <;> omega]
      · by_cases h : (3 : Int) < ps.length
        · exact ⟨3, by rw [pMin2_int, if_pos h]; rfl, by omega, by omega, by omega⟩
        · exact ⟨ps.length, by rw [pMin2_int, if_neg h], by omega, by omega, by omega⟩
    simp [hc]
    refine ⟨rOk_of (by omega) (by omega), ?_⟩
    have hps : ps.length ≤ 12 := by omega
    refine pop_ok hck hps hy2 fun qs rs z hz hp hqc => ?_
    obtain ⟨hSq, hSr, hth⟩ := hP.pick hp
    simp
    refine ⟨by omega, ?_⟩
    have hthl : (qs.flatMap (·.2.2)).length + (rs.flatMap (·.2.2)).length = n := by
      rw [← List.length_append, hth.length_eq, List.length_range]
    have hnd : (qs.flatMap (·.2.2) ++ rs.flatMap (·.2.2)).Nodup := hth.nodup_iff.mpr List.nodup_range
    have hndq := (List.nodup_append.mp hnd).1
    refine join_ok hm1 hm hSq (by omega) (by omega) (by omega) h11 (fun p hpq w hw => ?_) fun s11' s12' s13' h11' => ?_
    · have hpn := part_nodup hndq p hpq
      have hway := (hSq p hpq).ways hpn
      have h5 : w.length ≤ p.2.2.length := len_le_of_sub (hway.nodup w hw) (hway.sub w hw)
      have h6 : p.2.2.length ≤ (qs.flatMap (·.2.2)).length := by
        rw [List.flatMap_def]
        exact (List.sublist_flatten_of_mem (List.mem_map_of_mem (f := fun x : Pt => x.2.2) hpq)).length_le
      omega
    simp
    refine take_ok hz (by omega) (by omega) fun e3 y3 he3 hy3 => ?_
    simp
    have hpl : qs.length + rs.length = ps.length := by rw [← List.length_append]; exact hp.length_eq
    have perm2 : (rs.flatMap (·.2.2) ++ qs.flatMap (·.2.2)).Perm (List.range n) := List.perm_append_comm.trans hth
    have next : ∀ (q : Pt) (t6 t7 t9 t10 t11 t12 t13 t15 : Option Sl) (L : List D), Sp m q.1 q.2.1 q.2.2 → q.2.2 = qs.flatMap (·.2.2) → okSlot (some t11) = true → L = rs.map ptD ++ [ptD q] → InvT most m m n (i + 1) ⟨envT most m n (some (.own (.lst L))) none t6 t7 none t9 t10 t11 t12 t13 none t15, y3⟩ := by
      intro q t6 t7 t9 t10 t11 t12 t13 t15 L hq1 hq2 ht hL
      refine ⟨rs ++ [q], t6, t7, t9, t10, t11, t12, t13, t15, y3, by rw [hL, List.map_append]; rfl, ht, hy3, ⟨fun p hpm => ?_, ?_⟩, by simp, by simp; omega⟩
      · rcases List.mem_append.mp hpm with h | h
        · exact hSr p h
        · rw [List.mem_singleton.mp h]; exact hq1
      · rw [List.flatMap_append]
        simpa [hq2] using perm2
    refine ⟨fun h0 => ⟨fun hle => ⟨h11', ?_⟩, fun hgt => ⟨h11', ?_⟩⟩, fun h0 => ⟨h11', ?_⟩⟩
    · refine wp_mapE ptD (fun p => p.1) (by omega) (fun p _ => by simp) ?_
      simp [row_row]
      exact ⟨by omega, by omega, next (rowD (qs.map (·.1)), crossAll (qs.map (·.2.1)), qs.flatMap (·.2.2)) _ _ _ _ _ _ _ _ _ (.row qs hSq (by omega) (by omega) hle) rfl h11' rfl⟩
    · refine wp_mapE ptD (fun p => p.1) (by omega) (fun p _ => by simp) ?_
      simp [side_row]
      exact ⟨by omega, by omega, next (sideD (qs.map (·.1)), qs.flatMap (·.2.1), qs.flatMap (·.2.2)) _ _ _ _ _ _ _ _ _ (.side qs hSq (by omega) (by omega)) rfl h11' rfl⟩
    · refine wp_mapE ptD (fun p => p.1) (by omega) (fun p _ => by simp) ?_
      simp [side_row]
      exact ⟨by omega, by omega, next (sideD (qs.map (·.1)), qs.flatMap (·.2.1), qs.flatMap (·.2.2)) _ _ _ _ _ _ _ _ _ (.side qs hSq (by omega) (by omega)) rfl h11' rfl⟩
  · rintro s ⟨ps, s6, s7, s9, s10, s11, s12, s13, s15, y, rfl, h11, hy, hP, hp1, hpi⟩
    rw [range_len] at hpi
    exact fin ps s6 s7 s9 s10 s11 s12 s13 s15 y hP (by omega) hy

theorem numT_leaf {x : Nat} {Q : R → List D → Prop} (hq : Q (.val (.bool true)) []) : WpF (g_is_number [.int (x : Int), .int 0, .none] []) Q := by
  have h1 : ∀ {Q : R → List D → Prop}, Q (.val (.bool true)) [] → WpF (g_is_int [.int (x : Int)] []) Q := fun hq => by
    unfold g_is_int b_is_int
    rw [wpF_runF]
    simp
    exact hq
  unfold g_is_number b_is_number
  rw [wpF_runF]
  simp
  refine h1 ?_
  simp
  exact hq
theorem numT_node {ds : List D} {Q : R → List D → Prop} (hq : Q (.val (.bool false)) []) : WpF (g_is_number [.tuple ds, .int 0, .none] []) Q := by
  have h1 : ∀ {Q : R → List D → Prop}, Q (.val (.bool false)) [] → WpF (g_is_int [.tuple ds] []) Q := fun hq => by
    unfold g_is_int b_is_int
    rw [wpF_runF]
    simp
    exact hq
  unfold g_is_number b_is_number
  rw [wpF_runF]
  simp
  refine h1 ?_
  simp
  exact hq
/-- the state ahead of a turn -/
def envP (t : Tr) (i : Nat) (x3 x4 x5 : Option (D ⊕ C)) : List (Option Sl) := [some (.val (trD t)), some (.own (.lst ((it i ([], [(t, [])])).1.map rowD3))), some (.stk ((it i ([], [(t, [])])).2.map entD)), oS x3, oS x4, oS x5]
def JP (t : Tr) (n : Nat) (s : S) : Prop := ∃ i x3 x4 x5, s = ⟨envP t i x3 x4 x5, []⟩ ∧ i + n = 2 * cnt t - 1 ∧ okSlot (some (oS x5)) = true
theorem trows_ok {t : Tr} {Q : R → List D → Prop} (hc : cnt t ≤ 60) (ht : (thS t).length ≤ 60) (htn : (thS t).Nodup) (hq : Q (.val (.tuple ((rowsT 0 t).map rowD3))) []) : WpF (g_term_rows [trD t] []) Q := by
  have hsz := size_eq
  unfold g_term_rows b_term_rows
  rw [wpF_runF]
  simp
  refine ⟨by omega, ?_⟩
  have he : ([some (.val (trD t)), some (.own (.lst [])), some (.stk [([trD t], some [])]), none, none, none] : List (Option Sl)) = envP t 0 none none none := rfl
  rw [he]
  refine wp_while (n := 2 * cnt t - 1) (JP t) ⟨0, none, none, none, rfl, by omega, rfl⟩ ?_
  rintro n s ⟨i, x3, x4, x5, rfl, hin, hx5⟩
  have hi : i ≤ 2 * cnt t - 1 := by omega
  have hz := it_sz t i
  have hth := fun n => thOf_le hi n
  have hend := fun h => it_end (t := t) (i := i) h hi
  have hnext := it_succ i ([], [(t, [])])
  have hnd := fun R k ps l st e hp hi => pop_nodup (t := t) (i := i) (R := R) (k := k) (ps := ps) (l := l) (st := st) e hp hi htn
  have hfin : (it i ([], [(t, [])])).2 ≠ [] → i + 1 ≤ 2 * cnt t - 1 := fun h => by
    rcases Nat.lt_or_ge i (2 * cnt t - 1) with h1 | h1
    · exact h1
    · exfalso
      have e : i = 2 * cnt t - 1 := by omega
      rw [e, run_all] at h
      exact h rfl
  unfold envP at he ⊢
  have hlift : ∀ rs sk (x3 x4 x5 : Option (D ⊕ C)) (s3 s4 s5 : Option Sl), rs = (it (i + 1) ([], [(t, [])])).1.map rowD3 → sk = (it (i + 1) ([], [(t, [])])).2.map entD → s3 = oS x3 → s4 = oS x4 → s5 = oS x5 → okSlot (some (oS x5)) = true → i + 1 ≤ 2 * cnt t - 1 →
      JP t (n - 1) ⟨[some (.val (trD t)), some (.own (.lst rs)), some (.stk sk), s3, s4, s5], []⟩ := fun rs sk x3 x4 x5 s3 s4 s5 h1 h2 h3 h4 h5 hx hl => ⟨i + 1, x3, x4, x5, by rw [h1, h2, h3, h4, h5]; rfl, by omega, hx⟩
  rw [hnext] at hlift
  generalize it i ([], [(t, [])]) = q at *
  obtain ⟨Rw, st⟩ := q
  obtain ⟨h1, h2, h3⟩ := hz
  match st, h2, h3, hfin, hend, hlift, hnd with
  | [], h2, h3, hfin, hend, hlift, hnd =>
    have e := hend rfl
    simp
    have e : Rw = rowsT 0 t := e
    subst e
    exact hq
  | (.leaf x, l) :: st, h2, h3, hfin, hend, hlift, hnd =>
    have h1 : Rw.length ≤ i := h1
    have hf := hfin (by simp)
    rw [step_leaf] at hlift
    obtain ⟨m, rfl⟩ : ∃ m, n = m + 1 := ⟨n - 1, by omega⟩
    rw [Nat.add_sub_cancel] at hlift
    simp [entD, trD]
    refine numT_leaf ?_
    simp
    refine numT_leaf ?_
    simp
    refine ⟨by omega, by omega, by omega, fun hst => ?_, fun hst => ?_⟩
    · match st, hst, h3 with
      | (u, l') :: st, _, h3 =>
        have h4 := (h3 (u, l') (by simp)).1
        simp only at h4
        simp [entD]
        refine ⟨by omega, hlift _ _ (some (.inl (.int (x : Int)))) none x5 _ _ _ ?_ ?_ rfl rfl rfl hx5 hf⟩
        · simp [rowD3, kdD, tN, nD]
        · simp [L3.bump, entD, nD]
    · subst hst
      refine hlift _ _ (some (.inl (.int (x : Int)))) none x5 _ _ _ ?_ rfl rfl rfl rfl hx5 hf
      simp [rowD3, kdD, tN, nD]
  | (.node k ps, l) :: st, h2, h3, hfin, hend, hlift, hnd =>
    have h1 : Rw.length ≤ i := h1
    have hf := hfin (by simp)
    obtain ⟨m, rfl⟩ : ∃ m, n = m + 1 := ⟨n - 1, by omega⟩
    rw [Nat.add_sub_cancel] at hlift
    simp [entD, trD]
    refine numT_node ?_
    cases e : ps[l.length]? with
    | some p =>
      rw [step_push e] at hlift
      have hlt := (List.getElem?_eq_some_iff.mp e).1
      simp [trDs_len, hlt]
      have e2 : atI (trDs ps) (l.length : Int) = some (trD p) := by rw [trDs_map, atI_map, atI_nat e]; rfl
      rw [e2]
      have h2 : st.length + 1 ≤ i + 1 := h2
      simp
      refine ⟨⟨by omega, by omega⟩, hlift _ _ (some (.inl (.tuple [.str (kindS k), .tuple (trDs ps)]))) none x5 _ _ _ rfl ?_ rfl rfl rfl hx5 hf⟩
      simp [entD, trD]
    | none =>
      rw [step_pop e] at hlift
      have hge : ¬ l.length < ps.length := fun h => by rw [List.getElem?_eq_getElem h] at e; cases e
      simp [trDs_len, hge]
      refine numT_node ?_
      simp
      have hln := h3 (.node k ps, l) (by simp)
      simp only at hln
      have nd := hnd Rw k ps l st rfl e hf
      have hb := flatMap_le l (thOf Rw) (thS t).length fun x _ => hth x
      have hb3 : l.length * (thS t).length ≤ 200 * 60 := Nat.mul_le_mul (by omega) ht
      refine ⟨hx5, wp_mapE nD (fun n => tN (thOf Rw n)) (by omega) (fun n hn => ?_) ?_⟩
      · have hnl := hln.2 n hn
        have er : Rw[n]? = some Rw[n] := List.getElem?_eq_getElem hnl
        have et : thOf Rw n = Rw[n].2.2 := by unfold thOf; rw [er]
        have e2 : atI (Rw.map rowD3) (n : Int) = some (rowD3 Rw[n]) := by rw [atI_map, atI_nat er]; rfl
        simp [e2, nD, rowD3, tN, et]
      · simp
        have ej : joinedN (l.map (thOf Rw)) = srtN (l.flatMap (thOf Rw)) := joinedN_eq nd fun x => by
          simp only [List.mem_flatMap, List.mem_map]
          exact ⟨fun ⟨w, ⟨a, ha, e⟩, hx⟩ => ⟨a, ha, e ▸ hx⟩, fun ⟨a, ha, hx⟩ => ⟨_, ⟨a, ha, rfl⟩, hx⟩⟩
        have el : (l.map fun n => tN (thOf Rw n)) = (l.map (thOf Rw)).map tN := by rw [List.map_map]; rfl
        rw [el]
        refine joined_ok (.inr rfl) (by rw [← List.flatMap_def]; omega) ?_
        rw [ej]
        generalize l.flatMap (thOf Rw) = Gj at *
        simp
        have row : ∀ st', st' = (Rw ++ [(some k, l, srtN Gj)]).map rowD3 → st' = Rw.map rowD3 ++ [.tuple [.str (kindS k), .tuple (l.map nD), tN (srtN Gj)]] := fun st' h => by rw [h, List.map_append]; rfl
        refine ⟨by omega, by omega, fun hst => ?_, fun hst => ?_⟩
        · match st, hst, h3 with
          | (u, l') :: st, _, h3 =>
            have h4 := (h3 (u, l') (by simp)).1
            simp only at h4
            simp [entD]
            refine ⟨by omega, hlift _ _ (some (.inl (.tuple [.str (kindS k), .tuple (trDs ps)]))) (some (.inl (.list (l.map nD)))) x5 _ _ _ (row _ rfl).symm ?_ rfl rfl rfl hx5 hf⟩
            simp [L3.bump, entD, nD]
        · subst hst
          exact hlift _ _ (some (.inl (.tuple [.str (kindS k), .tuple (trDs ps)]))) (some (.inl (.list (l.map nD)))) x5 _ _ _ (row _ rfl).symm rfl rfl rfl rfl hx5 hf

/-- the state ahead of a turn -/
def envR (t : Tr) (i : Nat) (x3 x4 x5 x6 x7 : Option (D ⊕ C)) : List (Option Sl) := [some (.val (trD t)), some (.own (.lst ((it i ([], [(t, [])])).1.map rowD3))), some (.stk ((it i ([], [(t, [])])).2.map entD)), oS x3, oS x4, oS x5, oS x6, oS x7]
def InvR (t : Tr) (i : Nat) (s : S) : Prop := ∃ x3 x4 x5 x6 x7, s = ⟨envR t i x3 x4 x5 x6 x7, []⟩ ∧ i ≤ 2 * cnt t - 1 ∧ okSlot (some (oS x7)) = true
theorem lrows_ok {t : Tr} {Q : R → List D → Prop} (hc : cnt t ≤ 60) (ht : (thS t).length ≤ 60) (hq : Q (.new (.lst ((rowsT 0 t).map rowD3))) []) : WpF (g__law_rows [trD t] []) Q := by
  have hsz := size_eq
  unfold g__law_rows b__law_rows
  rw [wpF_runF]
  simp
  refine ⟨by omega, ?_⟩
  have he : ([some (.val (trD t)), some (.own (.lst [])), some (.stk [([trD t], some [])]), none, none, none, none, none] : List (Option Sl)) = envR t 0 none none none none none := rfl
  rw [he]
  refine ⟨rOk_of (by omega) (by omega), ?_⟩
  refine wp_forL (InvR t) ⟨none, none, none, none, none, rfl, Nat.zero_le _, rfl⟩ ?_ ?_
  · rintro i d s hd ⟨x3, x4, x5, x6, x7, rfl, hi, hx7⟩
    have hz := it_sz t i
    have hth := fun n => thOf_le hi n
    have hend := fun h => it_end (t := t) (i := i) h hi
    have hnext := it_succ i ([], [(t, [])])
    have hfin : (it i ([], [(t, [])])).2 ≠ [] → i + 1 ≤ 2 * cnt t - 1 := fun h => by
      rcases Nat.lt_or_ge i (2 * cnt t - 1) with h1 | h1
      · exact h1
      · exfalso
        have e : i = 2 * cnt t - 1 := by omega
        rw [e, run_all] at h
        exact h rfl
    unfold InvR
    unfold envR at he ⊢
    rw [hnext]
    generalize it i ([], [(t, [])]) = q at *
    obtain ⟨Rw, st⟩ := q
    obtain ⟨h1, h2, h3⟩ := hz
    match st, h2, h3, hfin, hend with
    | [], h2, h3, hfin, hend =>
      have e := hend rfl
      simp
      have e : Rw = rowsT 0 t := e
      subst e
      exact hq
    | (.leaf x, l) :: st, h2, h3, hfin, hend =>
      rw [step_leaf]
      have h1 : Rw.length ≤ i := h1
      have hf := hfin (by simp)
      simp [entD, trD]
      refine ⟨by omega, by omega, by omega, fun hst => ?_, fun hst => ?_⟩
      · match st, hst, h3 with
        | (u, l') :: st, _, h3 =>
          have h4 := (h3 (u, l') (by simp)).1
          simp only at h4
          simp [entD]
          refine ⟨by omega, some (.inl d), some (.inl (.int (x : Int))), none, x6, x7, ⟨rfl, ?_, rfl, rfl, rfl, rfl, rfl⟩, hf, hx7⟩
          simp [L3.bump, entD, nD]
      · subst hst
        exact ⟨some (.inl d), some (.inl (.int (x : Int))), none, x6, x7, ⟨rfl, rfl, rfl, rfl, rfl, rfl, rfl⟩, hf, hx7⟩
    | (.node k ps, l) :: st, h2, h3, hfin, hend =>
      have h1 : Rw.length ≤ i := h1
      have hf := hfin (by simp)
      cases e : ps[l.length]? with
      | some p =>
        rw [step_push e]
        have hlt := (List.getElem?_eq_some_iff.mp e).1
        simp [entD, trD, trDs_len, hlt]
        have e2 : atI (trDs ps) (l.length : Int) = some (trD p) := by rw [trDs_map, atI_map, atI_nat e]; rfl
        rw [e2]
        have h2 : st.length + 1 ≤ i + 1 := h2
        simp
        exact ⟨⟨by omega, by omega⟩, some (.inl d), some (.inl (.tuple [.str (kindS k), .tuple (trDs ps)])), none, x6, x7, ⟨rfl, rfl, rfl, rfl, rfl⟩, hf, hx7⟩
      | none =>
        rw [step_pop e]
        have hge : ¬ l.length < ps.length := fun h => by rw [List.getElem?_eq_getElem h] at e; cases e
        simp [entD, trD, trDs_len, hge]
        have hln := h3 (.node k ps, l) (by simp)
        simp only at hln
        have inner : ∀ (Q : Fl → S → Prop), (∀ x7 : Option (D ⊕ C), okSlot (some (oS x7)) = true → Q .nx ⟨[some (.val (trD t)), some (.own (.lst (Rw.map rowD3))), some (.stk (([.tuple [.str (kindS k), .tuple (trDs ps)]], none) :: st.map entD)), some (.val d), some (.val (.tuple [.str (kindS k), .tuple (trDs ps)])),
            some (.val (.list (l.map nD))), some (.own (.lst ((l.flatMap (thOf Rw)).map nD))), oS x7], []⟩) →
          Wp (forL (gN 7) (sSet 6 (e2 (.var 6) (.ex (frz (eP [.ex (frz (e2 (.ex (frz (e2 (.var 1) (.var 7) pIx))) (.ex (frz (eC (.int 2)))) pIx))] pListOf))) pAdd)) (l.map nD)
            ⟨[some (.val (trD t)), some (.own (.lst (Rw.map rowD3))), some (.stk (([.tuple [.str (kindS k), .tuple (trDs ps)]], none) :: st.map entD)), some (.val d), some (.val (.tuple [.str (kindS k), .tuple (trDs ps)])),
            some (.val (.list (l.map nD))), some (.own (.lst [])), oS x7], []⟩) Q := by
          intro Q hQ
          refine wp_forL (fun j s => ∃ x7 : Option (D ⊕ C), okSlot (some (oS x7)) = true ∧ s = ⟨[some (.val (trD t)), some (.own (.lst (Rw.map rowD3))), some (.stk (([.tuple [.str (kindS k), .tuple (trDs ps)]], none) :: st.map entD)), some (.val d), some (.val (.tuple [.str (kindS k), .tuple (trDs ps)])),
            some (.val (.list (l.map nD))), some (.own (.lst (((l.take j).flatMap (thOf Rw)).map nD))), oS x7], []⟩) ⟨x7, hx7, by simp⟩ ?_ ?_
          · rintro j v s hv ⟨x7, hx7, rfl⟩
            obtain ⟨n, hn, rfl⟩ := mem_map_at hv
            have hnl := hln.2 n (List.mem_of_getElem? hn)
            have er : Rw[n]? = some Rw[n] := List.getElem?_eq_getElem hnl
            have et : thOf Rw n = Rw[n].2.2 := by unfold thOf; rw [er]
            have e2 : atI (Rw.map rowD3) (n : Int) = some (rowD3 Rw[n]) := by rw [atI_map, atI_nat er]; rfl
            have hb1 := flatMap_le (l.take j) (thOf Rw) (thS t).length fun x _ => hth x
            have hb2 := hth n
            rw [et] at hb2
            have hj : (l.take j).length ≤ i := by rw [List.length_take]; omega
            have hb3 : (l.take j).length * (thS t).length ≤ 200 * 60 := Nat.mul_le_mul (by omega) ht
            have eG : (l.take (j + 1)).flatMap (thOf Rw) = (l.take j).flatMap (thOf Rw) ++ Rw[n].2.2 := by
              rw [List.take_add_one, hn, List.flatMap_append]
              simp [et]
            rw [eG]
            generalize (l.take j).flatMap (thOf Rw) = Gj at *
            simp [e2, nD, rowD3, tN]
            refine ⟨by omega, some (.inl (.int (n : Int))), rfl, rfl⟩
          · rintro s ⟨x7, hx7, rfl⟩
            rw [List.length_map, List.take_length]
            exact hQ x7 hx7
        refine inner _ fun x7 hx7 => ?_
        have hb := flatMap_le l (thOf Rw) (thS t).length fun x _ => hth x
        have hb3 : l.length * (thS t).length ≤ 200 * 60 := Nat.mul_le_mul (by omega) ht
        have hso := sortOk_ints (a := l.flatMap (thOf Rw)) (by omega)
        generalize l.flatMap (thOf Rw) = Gj at *
        simp [hso, sort_ints]
        refine ⟨by omega, by omega, fun hst => ?_, fun hst => ?_⟩
        · match st, hst, h3 with
          | (u, l') :: st, _, h3 =>
            have h4 := (h3 (u, l') (by simp)).1
            simp only at h4
            simp [entD]
            refine ⟨by omega, some (.inl d), some (.inl (.tuple [.str (kindS k), .tuple (trDs ps)])), some (.inl (.list (l.map nD))), some (.inr (.lst (Gj.map nD))), x7, ⟨rfl, ?_, rfl, rfl, rfl, rfl, rfl⟩, hf, hx7⟩
            simp [L3.bump, entD, nD]
        · subst hst
          exact ⟨some (.inl d), some (.inl (.tuple [.str (kindS k), .tuple (trDs ps)])), some (.inl (.list (l.map nD))), some (.inr (.lst (Gj.map nD))), x7, ⟨rfl, rfl, rfl, rfl, rfl, rfl, rfl⟩, hf, hx7⟩
  · rintro s ⟨x3, x4, x5, x6, x7, rfl, hi, hx7⟩
    exfalso
    simp [dRange] at hi
    omega

def InvC (t : Tr) (W : List Nat) (i : Nat) (s : S) : Prop := ∃ x3 x4 x5 x6 x8 : Option (D ⊕ C), ∃ x7 x9 : Option D, s = ⟨[some (.val (trD t)), some (.val (tN W)), some (.own (.lst (((subs t).take i).map fun u => ctD (cutT W u)))), oS x3, oS x4, oS x5, oS x6, oS (x7.map Sum.inl), oS x8, oS (x9.map Sum.inl)], []⟩
theorem cut_join {e0 e1 e2 e3 e4 e5 e6 e7 : Option Sl} {x9 : Option D} {cs : List (Nat × List Nat)} {Q : Fl → S → Prop} (hb : (cs.flatMap (·.2)).length ≤ 60) (hq : ∀ s9, Ck s9 → Q .nx ⟨[e0, e1, e2, e3, e4, e5, e6, e7, some (.own (.lst ((cs.flatMap (·.2)).map nD))), s9], []⟩) :
    Wp (forL (gN 9) (sSet 8 (L3.e2 (.var 8) (.ex (frz (eP [.ex (frz (L3.e2 (.var 9) (.ex (frz (eC (.int 1)))) pIx))] pListOf))) pAdd)) (cs.map ctD) ⟨[e0, e1, e2, e3, e4, e5, e6, e7, some (.own (.lst [])), oS (x9.map Sum.inl)], []⟩) Q := by
  have hsz := size_eq
  refine wp_forL (fun i s => ∃ x9 : Option D, s = ⟨[e0, e1, e2, e3, e4, e5, e6, e7, some (.own (.lst (((cs.take i).flatMap (·.2)).map nD))), oS (x9.map Sum.inl)], []⟩) ⟨x9, by simp⟩ ?_ ?_
  · rintro i d s hd ⟨x9, rfl⟩
    obtain ⟨c, hc, rfl⟩ := mem_map_at hd
    have e1 : (cs.take (i + 1)).flatMap (·.2) = (cs.take i).flatMap (·.2) ++ c.2 := by
      rw [List.take_add_one, hc, List.flatMap_append]; simp
    have e2 : ((cs.take (i + 1)).flatMap (·.2)).length ≤ 60 := by
      have : cs.flatMap (·.2) = (cs.take (i + 1)).flatMap (·.2) ++ (cs.drop (i + 1)).flatMap (·.2) := by rw [← List.flatMap_append, List.take_append_drop]
      rw [this, List.length_append] at hb; omega
    rw [e1] at e2 ⊢
    rw [List.length_append] at e2
    generalize (cs.take i).flatMap (·.2) = G at *
    simp [ctD, tN]
    exact ⟨by omega, some (.tuple [nD c.1, .tuple (c.2.map nD)]), rfl⟩
  · rintro s ⟨x9, rfl⟩
    rw [List.length_map, List.take_length]
    exact hq _ ⟨x9, rfl⟩
theorem lcut_ok {t : Tr} {W : List Nat} {Q : R → List D → Prop} (ha : Ar t) (hth : (thF t).length ≤ 30) (hW : ∀ x ∈ thF t, x < W.length) (hq : Q (.val (ctD (cutT W t))) []) : WpF (g__law_cut [trD t, tN W] []) Q := by
  have hsz := size_eq
  have hcnt := cnt_le t ha
  unfold g__law_cut b__law_cut
  rw [wpF_runF]
  simp
  refine lrows_ok (by omega) (by rw [(thS_perm t).length_eq]; omega) ?_
  simp
  refine wp_forL (InvC t W) ⟨none, none, none, none, none, none, none, by simp [oS]⟩ ?_ ?_
  · rintro i d s hd ⟨x3, x4, x5, x6, x8, x7, x9, rfl⟩
    obtain ⟨r, hr, rfl⟩ := mem_map_at hd
    have hi : i < (subs t).length := by rw [subs_len, ← rowsT_len 0 t]; exact (List.getElem?_eq_some_iff.mp hr).1
    obtain ⟨u, hu⟩ : ∃ u, (subs t)[i]? = some u := ⟨_, List.getElem?_eq_getElem hi⟩
    obtain ⟨r', hr', ho⟩ := rows_sub t 0 i u hu
    rw [hr] at hr'; cases hr'
    have hum := subs_in t u (List.mem_of_getElem? hu)
    have htk : ((subs t).take (i + 1)).map (fun u => ctD (cutT W u)) = ((subs t).take i).map (fun u => ctD (cutT W u)) ++ [ctD (cutT W u)] := by
      rw [List.take_add_one, hu, List.map_append]; rfl
    have hci : i ≤ 60 := by rw [subs_len] at hi; omega
    have hmk : ∀ L s3 s4 s5 s6 s7 s8 s9, L = ((subs t).take i).map (fun u => ctD (cutT W u)) ++ [ctD (cutT W u)] → Sk s3 → Sk s4 → Sk s5 → Sk s6 → Ck s7 → Sk s8 → Ck s9 → InvC t W (i + 1) ⟨[some (.val (trD t)), some (.val (tN W)), some (.own (.lst L)), s3, s4, s5, s6, s7, s8, s9], []⟩ := by
      rintro L s3 s4 s5 s6 s7 s8 s9 e ⟨x3, rfl⟩ ⟨x4, rfl⟩ ⟨x5, rfl⟩ ⟨x6, rfl⟩ ⟨x7, rfl⟩ ⟨x8, rfl⟩ ⟨x9, rfl⟩
      exact ⟨x3, x4, x5, x6, x8, x7, x9, by rw [e, htk]⟩
    have etd : ((subs t).take i).map (fun u => ctD (cutT W u)) = (((subs t).take i).map (cutT W)).map ctD := by rw [List.map_map]; rfl
    cases u with
    | leaf x =>
      have ho : r = (none, [], [x]) := ho
      subst ho
      have hx := hW x (hum.2 x (by unfold thF; simp))
      have ew : atI (W.map nD) (x : Int) = some (nD (W.getD x 0)) := by
        rw [atI_map, atI_nat (v := W[x]) (List.getElem?_eq_getElem hx), List.getD_eq_getElem?_getD, List.getElem?_eq_getElem hx]; rfl
      have htl : (((subs t).take i).map fun u => ctD (cutT W u)).length ≤ 60 := by simp; omega
      generalize ((subs t).take i).map (fun u => ctD (cutT W u)) = TD at *
      simp [rowD3, kdD, tN]
      refine wp_mapE (xs := ([] : List Nat)) nD (fun _ => .none) (by simp) (fun n hn => by cases hn) ?_
      simp [nD] at ew ⊢
      rw [ew]
      simp
      refine ⟨by omega, by omega, hmk _ _ _ _ _ _ _ _ (by simp [cutT, ctD, nD, tN]) (by simp) (by simp) (by simp) (by simp) (by simp) (by simp) (by simp)⟩
    | node k ps =>
      obtain ⟨E, rfl, h2, h3⟩ := ho
      have hk := told_kids (k := true) (cutT W) h2 h3
      have hg := told_get (e := ctD) hk
      have hall := told_all (e := ctD) hk
      have hEl : E.length = ps.length := by have := congrArg List.length h3; simpa using this
      have har := subs_ar t _ (List.mem_of_getElem? hu) ha
      unfold Ar at har
      have hEi : E.length ≤ 3 := by omega
      have htl : (((subs t).take i).map fun u => ctD (cutT W u)).length ≤ 60 := by simp; omega
      rw [← etd] at hg hall
      have hlen := cuts_len W ps
      rw [cutTs_map] at hlen
      generalize ((subs t).take i).map (fun u => ctD (cutT W u)) = TD at *
      simp [rowD3, kdD]
      refine wp_mapE (xs := E) nD (fun n => (TD[n]?).getD .none) (by omega) (fun n hn => ?_) ?_
      · obtain ⟨c, e1, e2⟩ := hg n hn
        simp [nD, e1, e2]
      · rw [hall]
        cases k with
        | true =>
          have kr : nd2 pEq (.str (kindS true)) (.str "row") = some true := kind_row
          cases ecs : ps.map (cutT W) with
          | nil => have := congrArg List.length ecs; simp at this; rw [this] at har; simp at har
          | cons c cs =>
            rw [cut_row ecs] at hmk
            have em := pMinA_prs c cs
            simp at em
            simp [kr, em]
            refine ⟨by omega, hmk _ _ _ _ _ _ _ _ rfl ?_ ?_ ?_ ?_ ?_ ?_ ?_⟩ <;> simp
        | false =>
          have kr : nd2 pEq (.str (kindS false)) (.str "row") = some false := kind_row
          rw [cut_side] at hmk
          have hpl : (thFs ps).length ≤ (thF t).length := by have h := hum.1; rw [thF_node] at h; exact h
          generalize ps.map (cutT W) = cs at *
          simp [kr]
          have hcs : cs.length ≤ 3 := by have := congrArg List.length hall; simp at this; omega
          refine cut_join (by omega) fun s9 h9 => ?_
          obtain ⟨x9, rfl⟩ := h9
          have hso := sortOk_ints (a := cs.flatMap (·.2)) (by omega)
          have hfl : (cs.flatMap (·.2)).length ≤ 60 := by omega
          generalize cs.flatMap (·.2) = G at *
          simp [hso, sort_ints]
          refine wp_mapE (xs := cs) ctD (fun c => nD c.1) (by omega) (fun c hc => ?_) ?_
          · simp [ctD]
          · simp [intsOf_mapN, hso, sort_ints]
            have es : (cs.map fun c => ((c.1 : Nat) : Int)).sum = ((cs.map (·.1)).sum : Nat) := by rw [← sum_natI, List.map_map]; rfl
            refine ⟨by omega, by omega, hmk _ _ _ _ _ _ _ _ ?_ ?_ ?_ ?_ ?_ ?_ ?_ ?_⟩
            · rw [es]; rfl
            all_goals simp
  · rintro s ⟨x3, x4, x5, x6, x8, x7, x9, rfl⟩
    have hl : ((rowsT 0 t).map rowD3).length = (subs t).length := by rw [List.length_map, rowsT_len, subs_len]
    rw [hl, List.take_length]
    simp
    have e : atI ((subs t).map fun u => ctD (cutT W u)) (-1) = some (ctD (cutT W t)) := by
      rw [atI_map, atI_last (x := t) (by rw [List.getLast?_eq_getElem?, subs_len]; exact subs_last t)]; rfl
    rw [e]
    exact hq

/-! the program's -/
theorem part_leaf {x : Nat} {W : List Nat} {TD : List D} {Q : R → List D → Prop} (hx : x < W.length) (hq : Q (.val (ctD (cutT W (.leaf x)))) TD) : WpF (g_part_cut [rowD3 (none, [], [x]), tN W] TD) Q := by
  have hsz := size_eq
  have ew : atI (W.map nD) (x : Int) = some (nD (W.getD x 0)) := by
    rw [atI_map, atI_nat (v := W[x]) (List.getElem?_eq_getElem hx), List.getD_eq_getElem?_getD, List.getElem?_eq_getElem hx]; rfl
  unfold g_part_cut b_part_cut
  rw [wpF_runL]
  simp [rowD3, kdD, tN, nD] at ew ⊢
  rw [ew]
  simp
  refine ⟨by omega, ?_⟩
  simp [cutT, ctD, nD, tN] at hq
  exact hq
theorem part_node {k : Bool} {ps : List Tr} {W E : List Nat} {TD : List D} {th : List Nat} {Q : R → List D → Prop} (hps : 2 ≤ ps.length) (hps3 : ps.length ≤ 3) (hn : (thFs ps).Nodup) (har : Ars ps) (hlen : (thFs ps).length ≤ 60)
    (hg : ∀ n ∈ E, ∃ c, atI TD (n : Int) = some (ctD c) ∧ ctD c = (TD[n]?).getD .none) (hall : E.map (fun n => (TD[n]?).getD .none) = (ps.map (cutT W)).map ctD) (hq : Q (.val (ctD (cutT W (.node k ps)))) TD) : WpF (g_part_cut [rowD3 (some k, E, th), tN W] TD) Q := by
  have hsz := size_eq
  have hEl : E.length = ps.length := by have := congrArg List.length hall; simpa using this
  have hcl := cuts_len W ps
  rw [cutTs_map] at hcl
  have hnd := cut_nodup (W := W) hn (cuts_ok W ps har hn)
  unfold g_part_cut b_part_cut
  rw [wpF_runL]
  simp [rowD3, kdD]
  cases k with
  | true =>
    have kr : nd2 pEq (.str (kindS true)) (.str "row") = some true := kind_row
    simp [kr]
    refine wp_mapE (xs := E) nD (fun n => (TD[n]?).getD .none) (by omega) (fun n hn => ?_) ?_
    · obtain ⟨c, e1, e2⟩ := hg n hn
      simp [nD, e1, e2]
    · rw [hall]
      cases ecs : ps.map (cutT W) with
      | nil => have := congrArg List.length ecs; simp at this; rw [this] at hps; simp at hps
      | cons c cs =>
        rw [cut_row ecs] at hq
        have em := pMinA_prs c cs
        simp at em
        simp [em]
        exact hq
  | false =>
    have kr : nd2 pEq (.str (kindS false)) (.str "row") = some false := kind_row
    rw [cut_side] at hq
    simp [kr]
    have hcs : (ps.map (cutT W)).length ≤ 3 := by simp; omega
    have hfl : ((ps.map (cutT W)).flatMap (·.2)).length ≤ 60 := by omega
    have hnd2 : ((ps.map (cutT W)).flatMap (·.2)).Nodup := by rw [List.flatMap_map]; exact hnd
    have ef : E.map (fun n => fstD ((TD[n]?).getD .none)) = (ps.map (cutT W)).map fun c => nD c.1 := by
      rw [show (E.map fun n => fstD ((TD[n]?).getD .none)) = (E.map fun n => (TD[n]?).getD .none).map fstD from by rw [List.map_map]; rfl, hall, List.map_map]; rfl
    have es : E.map (fun n => sndD ((TD[n]?).getD .none)) = ((ps.map (cutT W)).map (·.2)).map tN := by
      rw [show (E.map fun n => sndD ((TD[n]?).getD .none)) = (E.map fun n => (TD[n]?).getD .none).map sndD from by rw [List.map_map]; rfl, hall]; simp only [List.map_map]; rfl
    generalize ps.map (cutT W) = cs at *
    refine wp_mapE (xs := E) nD (fun n => fstD ((TD[n]?).getD .none)) (by omega) (fun n hn => ?_) ?_
    · obtain ⟨c, e1, e2⟩ := hg n hn
      simp [nD, e1, ← e2]
      simp [ctD, fstD, nD]
    · rw [ef]
      simp [intsOf_mapN]
      refine wp_mapE (xs := E) nD (fun n => sndD ((TD[n]?).getD .none)) (by omega) (fun n hn => ?_) ?_
      · obtain ⟨c, e1, e2⟩ := hg n hn
        simp [nD, e1, ← e2]
        simp [ctD, sndD, nD]
      · rw [es]
        simp [-List.map_map]
        have ej : joinedN (cs.map (·.2)) = srtN (cs.flatMap (·.2)) := joinedN_eq hnd2 fun x => by
          simp only [List.mem_flatMap, List.mem_map]
          exact ⟨fun ⟨w, ⟨a, ha, e⟩, hx⟩ => ⟨a, ha, e ▸ hx⟩, fun ⟨a, ha, hx⟩ => ⟨_, ⟨a, ha, rfl⟩, hx⟩⟩
        refine joined_ok (.inr rfl) (by rw [← List.flatMap_def]; omega) ?_
        rw [ej]
        simp
        refine ⟨by omega, ?_⟩
        have esum : (cs.map fun c => ((c.1 : Nat) : Int)).sum = ((cs.map (·.1)).sum : Nat) := by rw [← sum_natI, List.map_map]; rfl
        rw [esum]
        exact hq
def InvW (t : Tr) (W : List Nat) (i : Nat) (s : S) : Prop := ∃ x3 : Option (D ⊕ C), s = ⟨[some (.val (trD t)), some (.val (tN W)), some (.own (.lst (((subs t).take i).map fun u => ctD (cutT W u)))), oS x3], []⟩
theorem wide_ok {t : Tr} {W : List Nat} {Q : R → List D → Prop} (ha : Ar t) (hn : (thF t).Nodup) (hth : (thF t).length ≤ 30) (hW : ∀ x ∈ thF t, x < W.length) (hq : Q (.val (ctD (cutT W t))) []) : WpF (g_wide_cut [trD t, tN W] []) Q := by
  have hsz := size_eq
  have hcnt := cnt_le t ha
  unfold g_wide_cut b_wide_cut
  rw [wpF_runF]
  simp
  refine trows_ok (by omega) (by rw [(thS_perm t).length_eq]; omega) ((thS_perm t).nodup_iff.mpr hn) ?_
  simp
  refine wp_forL (InvW t W) ⟨none, by simp [oS]⟩ ?_ ?_
  · rintro i d s hd ⟨x3, rfl⟩
    obtain ⟨r, hr, rfl⟩ := mem_map_at hd
    have hi : i < (subs t).length := by rw [subs_len, ← rowsT_len 0 t]; exact (List.getElem?_eq_some_iff.mp hr).1
    obtain ⟨u, hu⟩ : ∃ u, (subs t)[i]? = some u := ⟨_, List.getElem?_eq_getElem hi⟩
    obtain ⟨r', hr', ho⟩ := rows_sub t 0 i u hu
    rw [hr] at hr'; cases hr'
    have hum := subs_in t u (List.mem_of_getElem? hu)
    have hun := subs_nodup t u (List.mem_of_getElem? hu) hn
    have har := subs_ar t u (List.mem_of_getElem? hu) ha
    have htk : ((subs t).take (i + 1)).map (fun u => ctD (cutT W u)) = ((subs t).take i).map (fun u => ctD (cutT W u)) ++ [ctD (cutT W u)] := by
      rw [List.take_add_one, hu, List.map_append]; rfl
    have hci : i ≤ 60 := by rw [subs_len] at hi; omega
    have etd : ((subs t).take i).map (fun u => ctD (cutT W u)) = (((subs t).take i).map (cutT W)).map ctD := by rw [List.map_map]; rfl
    have htl : (((subs t).take i).map fun u => ctD (cutT W u)).length ≤ 60 := by simp; omega
    have hmk : ∀ L s3, L = ((subs t).take i).map (fun u => ctD (cutT W u)) ++ [ctD (cutT W u)] → Sk s3 → InvW t W (i + 1) ⟨[some (.val (trD t)), some (.val (tN W)), some (.own (.lst L)), s3], []⟩ := by
      rintro L s3 e ⟨x3, rfl⟩
      exact ⟨x3, by rw [e, htk]⟩
    simp
    have eT : ((subs t).map fun u => ctD (cutT W u)).take i = ((subs t).take i).map fun u => ctD (cutT W u) := by rw [List.map_take]
    rw [eT]
    cases u with
    | leaf x =>
      have ho : r = (none, [], [x]) := ho
      subst ho
      have hx := hW x (hum.2 x (by unfold thF; simp))
      generalize ((subs t).take i).map (fun u => ctD (cutT W u)) = TD at *
      refine part_leaf hx ?_
      simp
      refine ⟨by omega, hmk _ _ rfl (by simp)⟩
    | node k ps =>
      obtain ⟨E, rfl, h2, h3⟩ := ho
      have hk := told_kids (k := true) (cutT W) h2 h3
      have hg := told_get (e := ctD) hk
      have hall := told_all (e := ctD) hk
      unfold Ar at har
      rw [← etd] at hg hall
      rw [thF_node] at hun
      have hpl : (thFs ps).length ≤ (thF t).length := by have h := hum.1; rw [thF_node] at h; exact h
      generalize ((subs t).take i).map (fun u => ctD (cutT W u)) = TD at *
      refine part_node har.1 har.2.1 hun har.2.2 (by omega) hg hall ?_
      simp
      refine ⟨by omega, hmk _ _ rfl (by simp)⟩
  · rintro s ⟨x3, rfl⟩
    have hl : ((rowsT 0 t).map rowD3).length = (subs t).length := by rw [List.length_map, rowsT_len, subs_len]
    rw [hl, List.take_length]
    simp
    have e : atI ((subs t).map fun u => ctD (cutT W u)) (-1) = some (ctD (cutT W t)) := by
      rw [atI_map, atI_last (x := t) (by rw [List.getLast?_eq_getElem?, subs_len]; exact subs_last t)]; rfl
    rw [e]
    exact hq

theorem inside_ok {a b : List Nat} {A B : D} {Q : R → List D → Prop} (hA : A = tN a ∨ A = lN a) (hB : B = tN b ∨ B = lN b) (hl : a.length ≤ sizeLine) (hq : Q (.val (.bool (inN a b))) []) : WpF (g__law_inside [A, B] []) Q := by
  have hsz := size_eq
  unfold g__law_inside b__law_inside
  rw [wpF_runF]
  have key : ∀ (env : List (Option Sl)), env = [some (.val A), some (.val B), none] → Wp (compL (gN 2) (t2 (.var 2) (.var 1) (nd2 pNotIn)) (frz (eC (.int 1))) [2] (a.map nD) [] ⟨env, []⟩) fun acc s' => ∃ b', nd2 pEq (.list acc) (.list []) = some b' ∧ Q (.val (.bool b')) (s'.back ⟨env, []⟩ [2]).box := by
    rintro env rfl
    refine wp_filterE nD (fun x => !decide (x ∈ b)) (fun _ => .int 1) hl (fun x _ => ?_) (fun x _ _ => by simp) ?_
    · rcases hB with rfl | rfl <;> simp [nD]
    · refine ⟨_, ndEq_ones, ?_⟩
      have : (a.filter fun x => !decide (x ∈ b)).isEmpty = inN a b := by rw [ones_isEmpty]; unfold inN; simp
      rw [this]
      exact hq
  rcases hA with rfl | rfl
  · simp
    refine (key _ rfl).mono fun acc s' h => ?_
    obtain ⟨b', e, h⟩ := h
    rw [e]
    simpa using h
  · simp
    refine (key _ rfl).mono fun acc s' h => ?_
    obtain ⟨b', e, h⟩ := h
    rw [e]
    simpa using h

def InvLo (n : Nat) (i : Nat) (s : S) : Prop := ∃ e2 : Option Sl, s = ⟨[some (.val (.int (n : Int))), some (.own (.lst ((subsN i).map tN))), e2, none, none], []⟩
theorem llots_ok {n : Nat} {Q : R → List D → Prop} (hn : n ≤ 12) (hq : Q (.new (.lst ((lotsN n).map tN))) []) : WpF (g__law_lots [.int (n : Int)] []) Q := by
  have hsz := size_eq
  have hp : ∀ i, i ≤ n → 2 ^ i ≤ 4096 := fun i hi => Nat.le_trans (Nat.pow_le_pow_right (by omega) (show i ≤ 12 by omega)) (by decide)
  unfold g__law_lots b__law_lots
  rw [wpF_runF]
  simp
  refine ⟨by omega, rOk_of (by omega) (by omega), ?_⟩
  refine wp_forL (InvLo n) ⟨none, by simp [subsN, tN]⟩ ?_ ?_
  · rintro i d s hd ⟨e2, rfl⟩
    obtain ⟨hi, rfl⟩ := range_at hd
    have h2 := hp i (by omega)
    have h3 := hp (i + 1) (by omega)
    have hl := subsN_len i
    have hle : ∀ l ∈ subsN i, l.length ≤ i := fun l h => subs_le h
    simp
    refine wp_mapE tN (fun l => tN (l ++ [i])) (by omega) (fun l hl' => ?_) ?_
    · have := hle l hl'
      simp [tN, nD]
      omega
    · have e : (subsN i).map tN ++ (subsN i).map (fun l => tN (l ++ [i])) = (subsN (i + 1)).map tN := by
        rw [subsN, List.map_append, List.map_map]; rfl
      simp
      refine ⟨by omega, some (.val (.int (i : Int))), by rw [← e]⟩
  · rintro s ⟨e2, rfl⟩
    rw [range_len]
    have h2 := hp n (by omega)
    have hl := subsN_len n
    have hle : ∀ l ∈ subsN n, l.length ≤ n := fun l h => subs_le h
    simp
    refine wp_mapE tN (fun l => ctD (lotP l)) (by omega) (fun l hl' => ?_) ?_
    · simp [ctD, lotP, nD, tN]
      omega
    · have e : (subsN n).map (fun l => ctD (lotP l)) = ((subsN n).map lotP).map ctD := by rw [List.map_map]; rfl
      rw [e]
      have hso := sortOk_prs (xs := (subsN n).map lotP) (by rw [List.length_map]; omega)
      simp [-List.map_map, hso, sort_prs]
      have hpl : (srtP ((subsN n).map lotP)).length = 2 ^ n := by rw [(srtP_perm _).length_eq, List.length_map, hl]
      refine wp_mapE ctD (fun p => tN p.2) (by omega) (fun p _ => ?_) ?_
      · simp [ctD]
      · have e2 : (srtP ((subsN n).map lotP)).map (fun p => tN p.2) = (lotsN n).map tN := by unfold lotsN; rw [List.map_map]; rfl
        rw [e2]
        exact hq
def InvBl (W : List (List Nat)) (n : Nat) (i : Nat) (s : S) : Prop := ∃ e3 : Option Sl, s = ⟨[some (.val (fN W)), some (.val (.int (n : Int))), some (.own (.lst ((((lotsN n).take i).foldl (blkStep W) []).map tN))), e3, none, none, none], []⟩
theorem lblk_ok {W : List (List Nat)} {n : Nat} {Q : R → List D → Prop} (hn : n ≤ 12) (hW : W.length ≤ 1000) (hW0 : W ≠ []) (hw : ∀ w ∈ W, w.length ≤ 1000) (hq : Q (.val (fN (blkN n W))) []) : WpF (g__law_blockers [fN W, .int (n : Int)] []) Q := by
  have hsz := size_eq
  have hp : 2 ^ n ≤ 4096 := Nat.le_trans (Nat.pow_le_pow_right (by omega) hn) (by decide)
  unfold g__law_blockers b__law_blockers
  rw [wpF_runF]
  simp
  refine llots_ok hn ?_
  simp
  refine wp_forL (InvBl W n) ⟨none, rfl⟩ ?_ ?_
  · rintro i d s hd ⟨e3, rfl⟩
    obtain ⟨l, hl, rfl⟩ := mem_map_at hd
    have hll : l.length ≤ n := subs_le ((lotsN_perm n).mem_iff.mp (List.mem_of_getElem? hl))
    have htk : ((lotsN n).take (i + 1)).foldl (blkStep W) [] = blkStep W (((lotsN n).take i).foldl (blkStep W) []) l := by rw [List.take_add_one, hl, List.foldl_append]; rfl
    have hfl := blk_le W ((lotsN n).take i)
    have hlen := lotsN_len n
    have htl : ((lotsN n).take i).length ≤ 4096 := by rw [List.length_take]; omega
    have hfd : ∀ o ∈ ((lotsN n).take i).foldl (blkStep W) [], o.length ≤ n := fun o ho => by
      obtain ⟨r, e, sb⟩ := blkF_sub W ((lotsN n).take i) []
      rw [e, List.nil_append] at ho
      exact subs_le ((lotsN_perm n).mem_iff.mp (List.mem_of_mem_take (sb.subset ho)))
    simp
    refine wp_filterE tN (fun w => !w.any fun x => decide (x ∈ l)) (fun _ => .int 1) (by omega) (fun w hw' => ?_) (fun w _ _ => by simp) ?_
    · have := hw w hw'
      simp
      refine wp_filterE nD (fun x => decide (x ∈ l)) (fun _ => .int 1) (by omega) (fun x _ => ?_) (fun x _ _ => by simp) ?_
      · simp [nD]
      · simp [ones_isEmpty, List.not_any_eq_all_not]
    · simp [-List.map_map, ones_isEmpty]
      unfold InvBl
      rw [htk]
      generalize ((lotsN n).take i).foldl (blkStep W) [] = fd at *
      have em : (W.all fun w => w.any fun x => decide (x ∈ l)) = meetsN W l := rfl
      have es : blkStep W fd l = if (meetsN W l && fd.all fun o => !inN o l) = true then fd ++ [l] else fd := rfl
      rw [es]
      refine ⟨fun hm => ?_, ?_⟩
      · have hm : meetsN W l = true := meetsN_iff.mpr hm
        simp
        refine wp_filterP tN (fun o => inN o l) (fun _ => .int 1) (by omega) rfl (by decide) (fun o ho => ?_) (fun w _ _ => by simp) ?_
        · simp
          exact inside_ok (.inl rfl) (.inl rfl) (by have := hfd o ho; omega) (by simp)
        · simp [-List.map_map, ones_isEmpty, hm]
          refine ⟨fun h => ⟨by omega, ?_⟩, fun x hx he => ?_⟩
          · rw [if_pos h, List.map_append]; rfl
          · rw [if_neg fun h => by have := h x hx; rw [he] at this; cases this]

      · intro w hw1 hw2
        have hm : meetsN W l = false := by
          cases e : meetsN W l with
          | false => rfl
          | true =>
            obtain ⟨x, h1, h2⟩ := meetsN_iff.mp e w hw1
            exact absurd h2 (hw2 x h1)
        simp [hm]
        try exact ⟨some (.val (tN l)), rfl⟩
  · rintro s ⟨e3, rfl⟩
    rw [List.length_map, List.take_length]
    have hbl := blk_le W (lotsN n)
    have hlen := lotsN_len n
    have hso := sortOk_ways (a := blkF n W) (by unfold blkF; omega) (fun w hw => blk_ne hW0 (blkF_mem.mp hw))
    have e0 : (lotsN n).foldl (blkStep W) [] = blkF n W := rfl
    rw [e0]
    simp [-List.map_map, hso, sort_ways]
    exact hq

theorem isint_bool {b : Bool} {Q : R → List D → Prop} (hq : Q (.val (.bool false)) []) : WpF (g_is_int [.bool b] []) Q := by
  unfold g_is_int b_is_int
  rw [wpF_runF]
  simp
  exact hq
theorem isint_int {i : Int} {Q : R → List D → Prop} (hq : Q (.val (.bool true)) []) : WpF (g_is_int [.int i] []) Q := by
  unfold g_is_int b_is_int
  rw [wpF_runF]
  simp
  exact hq
theorem isnum_ok {x : D} {Q : R → List D → Prop} (hx : Ato x) (hq : Q (.val (.bool (match x with | .int _ => true | _ => false))) []) : WpF (g_is_number [x, .int 0, .none] []) Q := by
  unfold g_is_number b_is_number
  rw [wpF_runF]
  cases hx with
  | int n =>
    simp
    refine isint_int ?_
    simp
    exact hq
  | bool b =>
    simp
    refine isint_bool ?_
    simp
    exact hq
theorem istup_ok {ds : List D} {k : Nat} {Q : R → List D → Prop} (hq : Q (.val (.bool (decide (ds.length = k)))) []) : WpF (g_is_tuple [.tuple ds, .int (k : Int)] []) Q := by
  unfold g_is_tuple b_is_tuple
  rw [wpF_runF]
  simp
  rw [show decide ((ds.length : Int) = (k : Int)) = decide (ds.length = k) from by rw [decide_eq_decide]; omega]
  exact hq
theorem istup_no {x : D} {k : Nat} {Q : R → List D → Prop} (hx : isTy "tuple" x = some false) (hq : Q (.val (.bool false)) []) : WpF (g_is_tuple [x, .int (k : Int)] []) Q := by
  unfold g_is_tuple b_is_tuple
  rw [wpF_runF]
  simp [hx]
  exact hq

def InvWd (e0 : List (Option Sl)) (top : Nat) (i : Nat) (acc : List D) (s : S) : Prop := ∃ (xs : List Nat) (b : List D) (x : Option Sl), acc = xs.map nD ∧ xs.length = i ∧ (∀ x ∈ xs, x ≤ top) ∧ VB b ∧ s = ⟨e0 ++ [x], b⟩
theorem isnumR {x : D} {a m : Int} {Q : R → List D → Prop} (hx : Ato x) (hq : Q (.val (.bool (lotOk m a [x]))) []) : WpF (g_is_number [x, .int a, .int m] []) Q := by
  unfold g_is_number b_is_number
  rw [wpF_runF]
  cases hx with
  | int n =>
    simp [lotOk] at hq ⊢
    refine isint_int ?_
    simp
    by_cases h1 : a ≤ (n : Int) <;> by_cases h2 : (n : Int) ≤ m <;> simp [h1, h2] at hq ⊢ <;> first | exact hq | exact ⟨hq, fun h => by omega⟩ | exact fun _ => hq
  | bool b =>
    simp
    refine isint_bool ?_
    simp
    exact hq
theorem lotOk_int {m a i : Int} {r : List D} : lotOk m a (.int i :: r) = (decide (a ≤ i) && (decide (i ≤ m) && lotOk m (i + 1) r)) := by rw [lotOk]
theorem lotOk_cons {m a : Int} {x : D} {r : List D} : lotOk m a (x :: r) = true → ∃ i, x = .int i ∧ lotOk m a [x] = true ∧ lotOk m (i + 1) r = true := by
  cases x with
  | int i => intro h; rw [lotOk_int, Bool.and_eq_true, Bool.and_eq_true] at h; exact ⟨i, rfl, by rw [lotOk_int, h.1, h.2.1]; rfl, h.2.2⟩
  | none => intro h; cases h
  | bool _ => intro h; cases h
  | str _ => intro h; cases h
  | list _ => intro h; cases h
  | tuple _ => intro h; cases h
  | dict _ => intro h; cases h
theorem lotOk_one {m a : Int} {x : D} {r : List D} (h : lotOk m a [x] = true) : ∃ i, x = .int i ∧ lotOk m a (x :: r) = lotOk m (i + 1) r := by
  obtain ⟨i, rfl, _, _⟩ := lotOk_cons h
  refine ⟨i, rfl, ?_⟩
  rw [lotOk_int, Bool.and_eq_true, Bool.and_eq_true] at h
  rw [lotOk_int, h.1, h.2.1]; rfl
theorem lotOk_no {m a : Int} {x : D} {r : List D} (h : lotOk m a [x] = false) : lotOk m a (x :: r) = false := by
  cases e : lotOk m a (x :: r) with
  | false => rfl
  | true =>
    obtain ⟨_, _, h2, _⟩ := lotOk_cons e
    rw [h] at h2; cases h2
theorem islot_ok {ds : List D} {m : Int} {Q : R → List D → Prop} (hd : ∀ d ∈ ds, Ato d) (hq : Q (.val (.bool (lotOk m 0 ds))) []) : WpF (g_is_lot [.tuple ds, .int m, .int 0] []) Q := by
  unfold g_is_lot b_is_lot
  rw [wpF_runF]
  simp
  refine wp_forL (fun i s => ∃ (a : Int) (e : Option Sl), lotOk m 0 ds = lotOk m a (ds.drop i) ∧ s = ⟨[some (.val (.tuple ds)), some (.val (.int m)), some (.val (.int a)), e], []⟩) ⟨0, none, rfl, rfl⟩ ?_ ?_
  · rintro i d s hi ⟨a, e, hl, rfl⟩
    have hlt := (List.getElem?_eq_some_iff.mp hi).1
    have ed : ds.drop i = d :: ds.drop (i + 1) := by
      rw [List.drop_eq_getElem_cons hlt]
      rw [List.getElem?_eq_getElem hlt] at hi
      cases hi; rfl
    rw [ed] at hl
    simp
    refine isnumR (hd d (List.mem_of_getElem? hi)) ?_
    simp
    refine ⟨fun h => ?_, fun h => ?_⟩
    · rw [lotOk_no h] at hl
      rw [hl] at hq
      exact hq
    · obtain ⟨j, rfl, h2⟩ := lotOk_one (r := ds.drop (i + 1)) h
      rw [h2] at hl
      simp
      exact hl
  · rintro s ⟨a, e, hl, rfl⟩
    rw [List.drop_length] at hl
    rw [hl] at hq
    simp
    exact hq
theorem widths_ok {box : List D} {n : Nat} {Q : R → List D → Prop} (hb : VB box) (hn : n ≤ 100) (hq : ∀ W y, W.length = n → (∀ w ∈ W, w ≤ 3) → VB y → Q (.val (tN W)) y) : WpF (g__law_widths [.int (n : Int)] box) Q := by
  have hsz := size_eq
  unfold g__law_widths b__law_widths
  rw [wpF_runF]
  simp
  refine ⟨by omega, pick_ok (xs := [.int 1, .int 2, .int 3]) hb (by simp) (by simp) fun d y hd hy => ?_⟩
  obtain ⟨m, hm1, hm2, rfl⟩ : ∃ m : Nat, 1 ≤ m ∧ m ≤ 3 ∧ d = .int (m : Int) := by
    simp at hd
    rcases hd with rfl | rfl | rfl
    · exact ⟨1, by omega, by omega, rfl⟩
    · exact ⟨2, by omega, by omega, rfl⟩
    · exact ⟨3, by omega, by omega, rfl⟩
  simp
  refine ⟨rOk_of (by omega) (by omega), ?_⟩
  refine wp_compL (InvWd [some .io, some (.val (.int (n : Int))), some (.val (.int (m : Int)))] m) ⟨[], y, none, rfl, rfl, by simp, hy, rfl⟩ ?_ ?_
  · rintro i d acc s hd ⟨xs, b, x, rfl, hl, hx, hb, rfl⟩
    have hi := (range_at hd).1
    simp
    refine take_ok hb (by omega) (by omega) fun e y he hy => ?_
    simp
    refine ⟨fun _ => take_ok hy (by omega) (by omega) fun e y he hy => ?_, fun _ => ?_⟩
    · simp
      refine ⟨by omega, xs ++ [e], y, some (.val d), by rw [List.map_append]; rfl, by simp [hl], fun a ha => ?_, hy, rfl⟩
      rcases List.mem_append.mp ha with h | h
      · exact hx a h
      · rw [List.mem_singleton.mp h]; omega
    · refine ⟨by omega, xs ++ [m], y, some (.val d), by rw [List.map_append]; rfl, by simp [hl], fun a ha => ?_, hy, rfl⟩
      rcases List.mem_append.mp ha with h | h
      · exact hx a h
      · rw [List.mem_singleton.mp h]; omega
  · rintro acc s ⟨xs, b, x, rfl, hl, hx, hb, rfl⟩
    rw [range_len] at hl
    simp
    exact hq xs b (by omega) (fun w hw => by have := hx w hw; omega) hb
theorem commonof_ok {a b : List Nat} {Q : R → List D → Prop} (ha : a.length ≤ sizeLine) (hq : Q (.val (tN (a.filter fun x => decide (x ∈ b)))) []) : WpF (g_common_of [tN a, tN b] []) Q := by
  unfold g_common_of b_common_of
  rw [wpF_runF]
  simp
  refine wp_filterE nD (fun x => decide (x ∈ b)) nD ha (fun x _ => by simp [nD]) (fun x _ _ => by simp) ?_
  simp
  exact hq
theorem wsum_ok {W l : List Nat} {env : List (Option Sl)} {v i : Nat} {Q : List D → S → Prop} (hl : l.length ≤ sizeLine) (hW : ∀ x ∈ l, x < W.length) (hv : v ≠ i) (hi : env[i]? = some (some (.val (tN W)))) (hvl : v < env.length)
    (hq : Q (l.map fun x => nD (atN W x)) ⟨env.set v none, []⟩) : Wp (compL (gN v) (mret true) (frz (L3.e2 (.var i) (.var v) pIx)) [v] (l.map nD) [] ⟨env, []⟩) Q := by
  refine wp_mapE nD (fun x => nD (atN W x)) hl (fun x hx => ?_) hq
  have h1 : (env.set v (some (.val (.int (x : Int)))))[i]? = some (some (.val (tN W))) := by rw [List.getElem?_set_ne hv]; exact hi
  have h2 : (env.set v (some (.val (.int (x : Int)))))[v]? = some (some (.val (.int (x : Int)))) := List.getElem?_set_self hvl
  have h3 : atI (W.map nD) (x : Int) = some (.int (atN W x : Nat)) := atLN (hW x hx)
  simp [h1, h2, nD, h3]
theorem servec_ok {F : List (List Nat)} {n : Nat} {W : List Nat} {told : D} {Q : R → List D → Prop} (hF : Fam F n) (hW : W.length = n) (hv : CVl told) (hq : Q (.val (.bool (cutOk F W n told))) []) : WpF (g_cut_serves [fN F, tN W, told] []) Q := by
  have hsz := size_eq
  have hfl := hF.flat
  have hfew := hF.few
  have hsm := hF.small
  unfold g_cut_serves b_cut_serves
  rw [wpF_runF]
  cases hv with
  | none =>
    rw [cutOk_no (by rintro k l ⟨⟩)] at hq
    simp
    refine istup_no (k := 2) (x := .none) (by rfl) ?_
    simp
    exact hq
  | lst ds =>
    rw [cutOk_no (by rintro k l ⟨⟩)] at hq
    simp
    refine istup_no (k := 2) (x := .list ds) (by rfl) ?_
    simp
    exact hq
  | short ds hd =>
    rw [cutOk_no (by rintro k l ⟨⟩; simp at hd)] at hq
    simp
    refine istup_ok (k := 2) ?_
    simp [hd]
    exact hq
  | right x ds hx =>
    rw [cutOk_no (by rintro k l h; simp [tN] at h)] at hq
    simp
    refine istup_ok (k := 2) ?_
    simp
    refine isnum_ok hx ?_
    cases hx with
    | bool b => simp; exact hq
    | int i =>
      simp
      refine things_ok (.inl rfl) (by omega) ?_
      simp
      unfold g_is_lot b_is_lot
      rw [wpF_runF]
      simp
      exact hq
  | pair x ds hx hds hdl =>
    simp
    refine istup_ok (k := 2) ?_
    simp
    refine isnum_ok hx ?_
    cases hx with
    | bool b =>
      rw [cutOk_no (by rintro k l h; simp [nD] at h)] at hq
      simp; exact hq
    | int k =>
      simp
      refine things_ok (.inl rfl) (by omega) ?_
      rw [hF.joined]
      simp
      refine islot_ok hds ?_
      cases el : lotOk ((n : Int) - 1) 0 ds with
      | false =>
        rw [cutOk_no (by
          rintro k' l h h2 h3 _ _
          simp only [PyData.tuple.injEq, List.cons.injEq, tN] at h
          have := of_lotOk (m := (n : Int) - 1) l 0 h2 fun x hx => ⟨by omega, by have := h3 x hx; omega⟩
          rw [← h.2.1, el] at this; cases this)] at hq
        simp
        exact hq
      | true =>
        obtain ⟨l, rfl, h2, h3⟩ := lotOk_of ds 0 (by omega) el
        have h3 : ∀ x ∈ l, x < n := fun x hx => by have := (h3 x hx).2; omega
        rw [cutOk_yes h2 h3] at hq
        have hll : l.length ≤ 100 := by simpa using hdl
        simp
        refine wp_mapE tN (fun w => .bool (l.filter fun x => decide (x ∈ w)).isEmpty) (by omega) (fun w hw => ?_) ?_
        · simp
          rw [show (PyData.tuple (l.map nD)) = tN l from rfl]
          refine commonof_ok (by omega) ?_
          simp [List.isEmpty_iff_length_eq_zero]
          rw [Bool.eq_iff_iff]
          simp
        · have e1 : ∀ (Fs : List (List Nat)), boolsOf (Fs.map fun w => PyData.bool (l.filter fun x => decide (x ∈ w)).isEmpty) = some (Fs.map fun w => (l.filter fun x => decide (x ∈ w)).isEmpty) := fun Fs => by
            rw [show (Fs.map fun w => PyData.bool (l.filter fun x => decide (x ∈ w)).isEmpty) = (Fs.map fun w => (l.filter fun x => decide (x ∈ w)).isEmpty).map PyData.bool from by rw [List.map_map]; rfl, boolsOf_map]
          simp [e1, -List.map_map]
          refine ⟨fun w hw hno => ?_, fun hall => ?_⟩
          · have em : meetsN F l = false := by
              cases e : meetsN F l with
              | false => rfl
              | true =>
                obtain ⟨x, hx, hl⟩ := meetsN_iff.mp e w hw
                exact absurd hx (hno x hl)
            rw [em] at hq
            exact hq
          · have em : meetsN F l = true := meetsN_iff.mpr fun w hw => by
              obtain ⟨x, hx, hl⟩ := hall w hw
              exact ⟨x, hl, hx⟩
            rw [em] at hq
            refine wsum_ok (by omega) (fun x hx => by rw [hW]; exact h3 x hx) (by decide) rfl (by simp) ?_
            simp [intsOf_mapN]
            have es : (l.map fun x => ((atN W x : Nat) : Int)).sum = (wSum W l : Nat) := by unfold wSum; rw [← sum_natI, List.map_map]; rfl
            rw [es]
            simp at hq
            by_cases hk : wSum W l = k
            · simp [hk] at hq ⊢; exact hq
            · have hk2 : ¬ ((wSum W l : Nat) : Int) = (k : Int) := by omega
              simp [hk, hk2] at hq ⊢; exact hq
/-! the law's own -/
theorem liscut_ok {F : List (List Nat)} {n : Nat} {W : List Nat} {told : D} {Q : R → List D → Prop} (hF : Fam F n) (hW : W.length = n) (hv : CVl told) (hq : Q (.val (.bool (cutOk F W n told))) []) : WpF (g__law_is_cut [fN F, tN W, told] []) Q := by
  have hsz := size_eq
  have hfew := hF.few
  have hsm := hF.small
  unfold g__law_is_cut b__law_is_cut
  rw [wpF_runF]
  cases hv with
  | none =>
    rw [cutOk_no (by rintro k l ⟨⟩)] at hq
    simp [isTy]
    exact hq
  | lst ds =>
    rw [cutOk_no (by rintro k l ⟨⟩)] at hq
    simp [isTy]
    exact hq
  | short ds hd =>
    rw [cutOk_no (by rintro k l ⟨⟩; simp at hd)] at hq
    have : ¬ ((ds.length : Int) = 2) := by omega
    simp [isTy, this]
    exact hq
  | right x ds hx =>
    rw [cutOk_no (by rintro k l h; simp [tN] at h)] at hq
    cases hx <;> (simp [isTy]; exact hq)
  | pair x ds hx hds hdl =>
    cases hx with
    | bool b =>
      rw [cutOk_no (by rintro k l h; simp [nD] at h)] at hq
      simp [isTy]
      exact hq
    | int k =>
      simp [isTy]
      refine wp_filterI (fun d => !thOk n d) (fun _ => .int 1) (by omega) (fun d hd => ?_) (fun d _ _ => by simp) ?_
      · have hat := hds d hd
        cases hat with
        | bool b => simp [isTy, thOk]
        | int x =>
          simp [isTy, thOk, hW]
          exact ⟨fun h => by omega, by rw [Bool.eq_iff_iff]; simp⟩
      · simp [ones_isEmpty]
        refine ⟨fun x hx he => ?_, fun hall => ?_⟩
        · rw [cutOk_no (by
            rintro k' l h h2 h3 _ _
            simp only [PyData.tuple.injEq, List.cons.injEq, tN] at h
            have e := h.2.1
            rw [e] at hx
            obtain ⟨y, hy, rfl⟩ := List.mem_map.mp hx
            have := h3 y hy
            simp [nD, thOk] at he
            omega)] at hq
          exact hq
        · obtain ⟨l, rfl, h3⟩ := thOk_of ds hall
          have hll : l.length ≤ 100 := by simpa using hdl
          have ez : dZip (l.map nD) (l.map nD).tail = (l.zip (l.drop 1)).map fun a => PyData.tuple [nD a.1, nD a.2] := by
            rw [← List.drop_one, ← List.map_drop, zip_map]
          have ezl : (l.zip (l.drop 1)).length ≤ 100 := by rw [List.length_zip]; omega
          rw [ez]
          refine wp_pairE (xs := l.zip (l.drop 1)) (v := 5) (v1 := 6) (by decide) (fun a => nD a.1) (fun a => nD a.2) (fun a => decide (a.2 ≤ a.1)) (fun _ => .int 1) (by omega) (fun a _ => ?_) (fun a _ _ => by simp) ?_
          · simp [nD]
          · simp [ones_isEmpty]
            refine ⟨fun a b hab hle => ?_, fun hadj => ?_⟩
            · rw [cutOk_no (by
                rintro k' l' h h2 _ _ _
                simp only [PyData.tuple.injEq, List.cons.injEq, tN] at h
                have e := nDs_inj h.2.1
                subst e
                have := rise_adj h2 (a, b) (by rw [List.drop_one]; exact hab)
                simp at this
                omega)] at hq
              exact hq
            · have h2 : l.Pairwise (· < ·) := adj_rise fun p hp => by
                have := hadj p.1 p.2 (by rw [← List.drop_one]; exact hp)
                omega
              rw [cutOk_yes h2 h3] at hq
              refine wp_filterE tN (fun w => !w.any fun x => decide (x ∈ l)) (fun _ => .int 1) (by omega) (fun w hw => ?_) (fun w _ _ => by simp) ?_
              · have hwl := len_way hF hw
                simp
                refine wp_filterE nD (fun x => decide (x ∈ l)) (fun _ => .int 1) (by omega) (fun x _ => ?_) (fun x _ _ => by simp) ?_
                · have hi : nd2 pIn (.int (x : Int)) (.tuple (l.map nD)) = some (decide (x ∈ l)) := ndIn_tN
                  simp [nD, hi]
                · simp [ones_isEmpty, List.not_any_eq_all_not]
              · simp [ones_isEmpty]
                refine ⟨fun hall => ?_, fun w hw hno => ?_⟩
                · have em : meetsN F l = true := meetsN_iff.mpr hall
                  rw [em] at hq
                  refine wsum_ok (by omega) (fun x hx => by rw [hW]; exact h3 x hx) (by decide) rfl (by simp) ?_
                  simp [intsOf_mapN]
                  have es : (l.map fun x => ((atN W x : Nat) : Int)).sum = (wSum W l : Nat) := by unfold wSum; rw [← sum_natI, List.map_map]; rfl
                  rw [es]
                  simp at hq
                  by_cases hk : wSum W l = k
                  · simp [hk] at hq ⊢; exact hq
                  · have hk2 : ¬ ((wSum W l : Nat) : Int) = (k : Int) := by omega
                    simp [hk, hk2] at hq ⊢; exact hq
                · have em : meetsN F l = false := by
                    cases e : meetsN F l with
                    | false => rfl
                    | true =>
                      obtain ⟨x, hx, hl⟩ := meetsN_iff.mp e w hw
                      exact absurd hl (hno x hx)
                  rw [em] at hq
                  exact hq

abbrev E42 (ns : List Int) (k : Nat) (b : List D) (e3 e4 e5 e6 e7 e9 e10 e11 e12 e13 e14 e15 : Option Sl) : List (Option Sl) := [some (.val (scr ns)), some (.val (.int (k : Int))), some (.own (.lst b)), e3, e4, e5, e6, e7, none, e9, e10, e11, e12, e13, e14, e15]
def InvK (ns : List Int) (i : Nat) (s : S) : Prop := ∃ e1 e2 e3 e4 e5 e6 e7 e9 e10 e11 e12 e13 e14 e15 : Option Sl, s = ⟨[some (.val (scr ns)), e1, e2, e3, e4, e5, e6, e7, none, e9, e10, e11, e12, e13, e14, e15], []⟩
def InvU (ns : List Int) (k : Nat) (i : Nat) (s : S) : Prop := ∃ (b : List D) (e3 e4 e5 e6 e7 e9 e10 e11 e12 e13 e14 e15 : Option Sl), VB b ∧ s = ⟨E42 ns k b e3 e4 e5 e6 e7 e9 e10 e11 e12 e13 e14 e15, []⟩
def InvT42 (ns : List Int) (k : Nat) (e3 e4 e5 e6 e7 e9 e10 e11 e12 e13 e14 e15 : Option Sl) (i : Nat) (acc : List D) (s : S) : Prop := ∃ (W : List Nat) (b : List D) (x : Option Sl), acc = W.map nD ∧ W.length = i ∧ VB b ∧ s = ⟨[some (.val (scr ns)), some (.val (.int (k : Int))), some (.own (.lst b)), e3, e4, e5, e6, e7, x, e9, e10, e11, e12, e13, e14, e15], []⟩
theorem draw_ok {ns : List Int} {k n : Nat} {b : List D} {e3 e4 e5 e7 e9 e10 e11 e12 e13 e14 e15 : Option Sl} {Q : List D → S → Prop} (hn : n ≤ 12) (hb : VB b)
    (hq : ∀ (W : List Nat) y, W.length = n → VB y → Q (W.map nD) ⟨E42 ns k y e3 e4 e5 (some (.val (.int (n : Int)))) e7 e9 e10 e11 e12 e13 e14 e15, []⟩) :
    Wp (compL (gN 8) (mret true) (frz (eCallB g__law_take 2 [frz (eC (.int 13))] [])) [8] (dRange 0 n) [] ⟨E42 ns k b e3 e4 e5 (some (.val (.int (n : Int)))) e7 e9 e10 e11 e12 e13 e14 e15, []⟩) Q := by
  have hsz := size_eq
  refine wp_compL (InvT42 ns k e3 e4 e5 (some (.val (.int (n : Int)))) e7 e9 e10 e11 e12 e13 e14 e15) ⟨[], b, none, rfl, rfl, hb, rfl⟩ ?_ ?_
  · rintro i d acc s hd ⟨W, b, x, rfl, hl, hb, rfl⟩
    have hi := (range_at hd).1
    simp
    refine take_ok hb (by omega) (by omega) fun e y he hy => ?_
    simp
    exact ⟨by omega, W ++ [e], y, some (.val d), by rw [List.map_append]; rfl, by simp [hl], hy, rfl⟩
  · rintro acc s ⟨W, b, x, rfl, hl, hb, rfl⟩
    rw [range_len] at hl
    exact hq W b hl hb
def InvO (ns : List Int) (k n : Nat) (e3 e4 e5 e6 e7 e9 e10 e11 e12 e13 e14 e15 : Option Sl) (i : Nat) (acc : List D) (s : S) : Prop := ∃ (W : List Nat) (b : List D) (x : Option Sl), acc = W.map nD ∧ W.length ≤ i ∧ (∀ t ∈ W, t < n) ∧ VB b ∧ s = ⟨[some (.val (scr ns)), some (.val (.int (k : Int))), some (.own (.lst b)), e3, e4, e5, e6, e7, x, e9, e10, e11, e12, e13, e14, e15], []⟩
theorem some_ok {ns : List Int} {k n : Nat} {b : List D} {e3 e4 e5 e7 e9 e10 e11 e12 e13 e14 e15 : Option Sl} {Q : List D → S → Prop} (hn : n ≤ 12) (hb : VB b)
    (hq : ∀ (l : List Nat) y, l.length ≤ n → (∀ t ∈ l, t < n) → VB y → Q (l.map nD) ⟨E42 ns k y e3 e4 e5 (some (.val (.int (n : Int)))) e7 e9 e10 e11 e12 e13 e14 e15, []⟩) :
    Wp (compL (gN 8) (t2 (.ex (frz (eCallB g__law_take 2 [frz (eC (.int 2))] []))) (.ex (frz (eC (.int 0)))) (nd2 pEq)) (frz (eVar 8)) [8] (dRange 0 n) [] ⟨E42 ns k b e3 e4 e5 (some (.val (.int (n : Int)))) e7 e9 e10 e11 e12 e13 e14 e15, []⟩) Q := by
  have hsz := size_eq
  refine wp_compL (InvO ns k n e3 e4 e5 (some (.val (.int (n : Int)))) e7 e9 e10 e11 e12 e13 e14 e15) ⟨[], b, none, rfl, by simp, by simp, hb, rfl⟩ ?_ ?_
  · rintro i d acc s hd ⟨W, b, x, rfl, hl, hw, hb, rfl⟩
    obtain ⟨hi, rfl⟩ := range_at hd
    simp
    refine take_ok hb (by omega) (by omega) fun e y he hy => ?_
    simp
    refine ⟨fun _ => ⟨by omega, W ++ [i], y, some (.val (.int (i : Int))), by rw [List.map_append]; rfl, by simp; omega, fun t ht => ?_, hy, rfl⟩, fun _ => ⟨W, y, some (.val (.int (i : Int))), rfl, by omega, hw, hy, rfl⟩⟩
    rcases List.mem_append.mp ht with h | h
    · exact hw t h
    · rw [List.mem_singleton.mp h]; exact hi
  · rintro acc s ⟨W, b, x, rfl, hl, hw, hb, rfl⟩
    rw [range_len] at hl
    exact hq W b hl hw hb
theorem ato_tN {l : List Nat} : ∀ x ∈ l.map nD, Ato x := fun x hx => by
  obtain ⟨n, _, rfl⟩ := List.mem_map.mp hx
  exact .int n
theorem math (ns : List Int) (hns : ns.length ≤ 63) : ∃ bs, g_law [scr ns] [] = .ok (.val (.bool true)) bs := by
  have hsz := size_eq
  have main : WpF (g_law [scr ns] []) fun x y => x = .val (.bool true) ∧ y = [] := by
    unfold g_law b_law
    rw [wpF_runF]
    simp
    obtain ⟨K, hK, hK2⟩ : ∃ K : Nat, (if (4 : Int) < (if (8 : Int) < (ns.length : Int) then (8 : Int) else (ns.length : Int)) then (if (8 : Int) < (ns.length : Int) then (8 : Int) else (ns.length : Int)) else 4) = (K : Int) ∧ K ≤ 8 := by
      refine ⟨(if (4 : Int) < (if (8 : Int) < (ns.length : Int) then (8 : Int) else (ns.length : Int)) then (if (8 : Int) < (ns.length : Int) then (8 : Int) else (ns.length : Int)) else 4).toNat, ?_, ?_⟩ <;> omega
    rw [hK]
    refine ⟨rOk_of (by omega) (by omega), ?_⟩
    refine wp_forL (InvK ns) ⟨none, none, none, none, none, none, none, none, none, none, none, none, none, none, rfl⟩ ?_ ?_
    · rintro k d s hd ⟨e1, e2, e3, e4, e5, e6, e7, e9, e10, e11, e12, e13, e14, e15, rfl⟩
      obtain ⟨hk, rfl⟩ := range_at hd
      rw [Int.toNat_natCast] at hk
      simp
      refine box_ok (by omega) hns fun b hb => ?_
      simp
      refine ⟨rOk_of (by omega) (by omega), ?_⟩
      refine wp_forL (InvU ns k) ⟨b, e3, e4, e5, e6, e7, e9, e10, e11, e12, e13, e14, e15, hb, rfl⟩ ?_ ?_
      · rintro i d s hd ⟨b, e3, e4, e5, e6, e7, e9, e10, e11, e12, e13, e14, e15, hb, rfl⟩
        obtain ⟨hi, rfl⟩ := range_at hd
        simp [-wp_eIf]
        refine term_ok (most := 9) (m := 24) hb (by omega) (by omega) (by decide) (by decide) fun t W th n y hS hth hn1 hn2 hy => ?_
        have hF := hS.fam (by decide) (by decide) hth (by omega)
        have hfl := hF.flat
        have hfew := hF.few
        obtain ⟨u, rfl, rfl, rfl, hu⟩ := hS.tr
        have hun := hth.nodup_iff.mpr List.nodup_range
        have hul : (thF u).length = n := by rw [hth.length_eq, List.length_range]
        have hum : ∀ x ∈ thF u, x < n := fun x hx => List.mem_range.mp (hth.mem_iff.mp hx)
        simp [-wp_eIf]
        refine lthings_ok (.inl rfl) (by omega) hF.nil hF.ne hF.dense ?_
        have heif : ∀ (Q : R → S → Prop), (∀ (Wd : List Nat) y, Wd.length = n → VB y → Q (.val (tN Wd)) ⟨E42 ns k y (some (.val (.int (i : Int)))) (some (.val (trD u))) (some (.val (fN (srtW (waysT u))))) (some (.val (.int (n : Int)))) e7 e9 e10 e11 e12 e13 e14 e15, []⟩) →
            Wp (eIf (t2 (.var 3) (.ex (frz (eC (.int 0)))) (nd2 pEq)) (eP [.ex (frz (eComp (evs [frz (eVar 6)] rng1) [8] (gN 8) (mret true) (frz (eCallB g__law_take 2 [frz (eC (.int 13))] []))))] pTupleOf) (eCallB g__law_widths 2 [frz (eVar 6)] []) ⟨E42 ns k y (some (.val (.int (i : Int)))) (some (.val (trD u))) (some (.val (fN (srtW (waysT u))))) (some (.val (.int (n : Int)))) e7 e9 e10 e11 e12 e13 e14 e15, []⟩) Q := by
          intro Q hQ
          simp
          refine ⟨fun _ => ⟨rOk_of (by omega) (by omega), ?_⟩, fun _ => ?_⟩
          · refine draw_ok (by omega) hy fun Wd y hl hy => ?_
            simp
            exact hQ Wd y hl hy
          · refine widths_ok hy (by omega) fun Wd y hl _ hy => ?_
            exact hQ Wd y hl hy
        simp [-wp_eIf]
        refine heif _ fun Wd y hWd hy => ?_
        simp
        refine lcut_ok hu (by omega) (fun x hx => by rw [hWd]; exact hum x hx) ?_
        simp
        have hW : ∀ x ∈ thF u, x < Wd.length := fun x hx => by rw [hWd]; exact hum x hx
        have hcut := cut_ok Wd u hu hun
        have hmin : MinBlk n (srtW (waysT u)) (cutT Wd u).2 := min_of_cut hcut (fun w => (srtW_perm _).mem_iff) hum
        have hcm : (cutT Wd u).2 ∈ blkN n (srtW (waysT u)) := blkN_mem.mpr hmin
        have hcl : (cutT Wd u).2.length ≤ 12 := by have := cut_len Wd u; omega
        have hct : ∀ x ∈ (cutT Wd u).2, x < n := fun x hx => hum x (hcut.sub x hx)
        have hsrt := hcut.srt
        refine wide_ok hu hun (by omega) hW ?_
        simp
        refine same_ok (okd_ctD 0 _) (by decide) ?_
        generalize cutT Wd u = c at *
        obtain ⟨num, lot⟩ := c
        simp [ctD, nD]
        refine lblk_ok (by omega) hfew hF.nil (fun w hw => by have := len_way hF hw; omega) ?_
        simp [hcm]
        refine take_ok hy (by omega) (by omega) fun x0 y hx0 hy => ?_
        have ea : pAdd (tN lot) (.tuple [.int (x0 : Int)]) = some (.t ((lot ++ [x0]).map nD)) := by
          rw [pAdd_snoc, if_pos (by simp at hcl; omega), List.map_append]; rfl
        have es : pSortSet [.tuple ((lot ++ [x0]).map nD)] = some (.l ((sN (lot ++ [x0])).map nD)) := by
          rw [show PyData.tuple ((lot ++ [x0]).map nD) = tN (lot ++ [x0]) from rfl, sortSet_tN, if_pos (by simp at hcl ⊢; omega)]
        have hmt : ∀ x ∈ sN (lot ++ [x0]), x < n := fun x hx => by
          rcases List.mem_append.mp (sN_mem.mp hx) with h | h
          · exact hct x h
          · rw [List.mem_singleton.mp h]; omega
        have hml : (sN (lot ++ [x0])).length ≤ 13 := by have := sN_len (lot ++ [x0]); simp at this hcl; omega
        generalize sN (lot ++ [x0]) = more at *
        simp [ea, es, -List.map_append]
        refine ⟨by omega, by omega, ?_⟩
        refine wsum_ok (by omega) (fun x hx => by rw [hWd]; exact hmt x hx) (by decide) rfl (by simp) ?_
        simp at hcl
        simp [intsOf_mapN]
        have es1 : ∀ l : List Nat, (l.map fun x => ((atN Wd x : Nat) : Int)).sum = (wSum Wd l : Nat) := fun l => by unfold wSum; rw [← sum_natI, List.map_map]; rfl
        repeat (refine And.intro (by omega) ?_)
        refine wp_mapE (xs := lot) nD (fun x => if x < 2 then PyData.bool (decide (x = 1)) else nD x) (by omega) (fun x hx => ?_) ?_
        · simp [nD]
          by_cases h : x < 2
          · have h1 : (x : Int) < 2 := by omega
            have h2 : ((x : Int) = 1) = (x = 1) := by apply propext; omega
            simp [h, h1, h2]
            intro h3; omega
          · have h1 : ¬ ((x : Int) < 2) := by omega
            simp [h, h1]; try omega
        · simp
          repeat (refine And.intro (by omega) ?_)
          refine ⟨rOk_of (by omega) (by omega), ?_⟩
          refine some_ok (by omega) hy fun l y hll hlt hy => ?_
          simp
          refine wsum_ok (by omega) (fun x hx => by rw [hWd]; exact hlt x hx) (by decide) rfl (by simp) ?_
          simp [intsOf_mapN, es1]
          repeat (refine And.intro (by omega) ?_)
          have hpn : ∀ (k : Nat) (w : List Nat), w.length ≤ 100 → CVl (.tuple [.int (k : Int), .tuple (w.map nD)]) := fun k w h => .pair _ _ (.int k) ato_tN (by simpa using h)
          have hat : ∀ x ∈ lot.map (fun x => if x < 2 then PyData.bool (decide (x = 1)) else nD x), Ato x := fun x hx => by
            obtain ⟨y, _, rfl⟩ := List.mem_map.mp hx
            by_cases h : y < 2
            · rw [if_pos h]; exact .bool _
            · rw [if_neg h]; exact .int y
          refine wp_forL (fun j s => ∃ e13 e15, s = ⟨E42 ns k y (some (.val (.int (i : Int)))) (some (.val (trD u))) (some (.val (fN (srtW (waysT u))))) (some (.val (.int (n : Int)))) (some (.val (tN Wd))) (some (.val (.tuple [.int (num : Int), tN lot]))) (some (.val (.int (num : Int)))) (some (.val (tN lot))) (some (.val (.tuple (more.map nD)))) e13 (some (.val (.tuple (l.map nD)))) e15, []⟩) ⟨_, e15, rfl⟩ ?_ ?_
          · rintro j v s hj ⟨e13, e15, rfl⟩
            have hv : CVl v := by
              have hm := List.mem_of_getElem? hj
              simp only [List.mem_cons, List.not_mem_nil, or_false] at hm
              rcases hm with rfl | rfl | rfl | rfl | rfl | rfl | rfl | rfl | rfl | rfl | rfl | rfl | rfl | rfl
              · exact hpn _ _ (by omega)
              · exact hpn _ _ (by omega)
              · exact hpn (num + 1) _ (by omega)
              · exact hpn _ _ (by omega)
              · exact hpn 0 [] (by simp)
              · rw [← List.map_tail]; exact hpn _ _ (by simp; omega)
              · exact .right _ _ (.int _)
              · exact .pair _ _ (.bool _) ato_tN (by simp; omega)
              · exact .short _ (by simp)
              · exact .none
              · exact .lst _
              · rw [← List.map_reverse]; exact hpn _ _ (by simp; omega)
              · exact .pair _ _ (.int _) hat (by simp; omega)
              · exact hpn _ _ (by omega)
            simp
            refine servec_ok hF hWd hv ?_
            simp
            refine liscut_ok hF hWd hv ?_
            simp
            refine same_ok (.bool 0 _) (by decide) ?_
            simp
            trace_state
          · rintro s ⟨e13, e15, rfl⟩
            exact ⟨_, _, _, _, _, _, _, _, _, _, _, _, _, hy, rfl⟩
      · rintro s ⟨b, e3, e4, e5, e6, e7, e9, e10, e11, e12, e13, e14, e15, hb, rfl⟩
        exact ⟨_, _, _, _, _, _, _, _, _, _, _, _, _, _, rfl⟩
    · rintro s ⟨e1, e2, e3, e4, e5, e6, e7, e9, e10, e11, e12, e13, e14, e15, rfl⟩
      simp
  exact ⟨[], main.eq⟩

end Law
open PySem PySem.W PyProof.Rows in
set_option maxRecDepth 100000 in
set_option maxHeartbeats 0 in
theorem PySem.Challenge.cw_newestpays_k42_lots_that_are_as_narrow_holds : PySem.Challenge.rw_newestpays_k42_lots_that_are_as_narrow.Holds := by
  w_on; o_law; k_head; (case hw => w_witness2)
  k_fill
  refine Law.walk (l := PySem.Challenge.rw_newestpays_k42_lots_that_are_as_narrow) rfl rfl Law.math (fun w h Y => PySem.W.kIn_of Y) ?F
  case F =>
    intro w mg fa h KX G hmg
    refine' Law.all_mk KX G hmg ?a0 ?l0 ?c0 ?k0 ?a1 ?l1 ?c1 ?k1 ?t1 ?u1 ?v1 ?a2 ?l2 ?c2 ?k2 ?t2 ?u2 ?v2 ?a3 ?l3 ?c3 ?k3 ?t3 ?u3 ?v3 ?a4 ?l4 ?c4 ?k4 ?a5 ?l5 ?c5 ?k5 ?a6 ?l6 ?c6 ?k6 ?a7 ?l7 ?c7 ?k7 ?a8 ?l8 ?c8 ?k8 ?a9 ?l9 ?c9 ?k9 ?a10 ?l10 ?c10 ?k10 ?a11 ?l11 ?c11 ?k11 ?a12 ?l12 ?c12 ?k12 ?a13 ?l13 ?c13 ?k13 ?a14 ?l14 ?c14 ?k14 ?a15 ?l15 ?c15 ?k15 ?a16 ?l16 ?c16 ?k16 ?a17 ?l17 ?c17 ?k17 ?a18 ?l18 ?c18 ?k18 ?a19 ?l19 ?c19 ?k19 ?a20 ?l20 ?c20 ?k20 ?a21 ?l21 ?c21 ?k21 ?a22 ?l22 ?c22 ?k22 ?a23 ?l23 ?c23 ?k23 ?a24 ?l24 ?c24 ?k24 ?a25 ?l25 ?c25 ?k25 ?z_abs ?z_any ?z_bool ?z_int ?z_isinstance ?z_len ?z_list ?z_max ?z_min ?z_range ?z_set ?z_sorted ?z_str ?z_sum ?z_tuple ?z_zip ?y_ROW
    (case a0 => k_is)
    (case l0 => k_is)
    (case c0 => k_is)
    (case k0 => k_is)
    (case a1 => k_is)
    (case l1 => k_is)
    (case c1 => k_is)
    (case k1 => k_is)
    (case t1 => k_is)
    (case u1 => rfl)
    (case v1 => repeat (first | exact .nil | refine .cons ⟨_, rfl⟩ ?_ | refine .cons rfl ?_))
    (case a2 => k_is)
    (case l2 => k_is)
    (case c2 => k_is)
    (case k2 => k_is)
    (case t2 => k_is)
    (case u2 => rfl)
    (case v2 => repeat (first | exact .nil | refine .cons ⟨_, rfl⟩ ?_ | refine .cons rfl ?_))
    (case a3 => k_is)
    (case l3 => k_is)
    (case c3 => k_is)
    (case k3 => k_is)
    (case t3 => k_is)
    (case u3 => rfl)
    (case v3 => repeat (first | exact .nil | refine .cons ⟨_, rfl⟩ ?_ | refine .cons rfl ?_))
    (case a4 => k_is)
    (case l4 => k_is)
    (case c4 => k_is)
    (case k4 => k_is)
    (case a5 => k_is)
    (case l5 => k_is)
    (case c5 => k_is)
    (case k5 => k_is)
    (case a6 => k_is)
    (case l6 => k_is)
    (case c6 => k_is)
    (case k6 => k_is)
    (case a7 => k_is)
    (case l7 => k_is)
    (case c7 => k_is)
    (case k7 => k_is)
    (case a8 => k_is)
    (case l8 => k_is)
    (case c8 => k_is)
    (case k8 => k_is)
    (case a9 => k_is)
    (case l9 => k_is)
    (case c9 => k_is)
    (case k9 => k_is)
    (case a10 => k_is)
    (case l10 => k_is)
    (case c10 => k_is)
    (case k10 => k_is)
    (case a11 => k_is)
    (case l11 => k_is)
    (case c11 => k_is)
    (case k11 => k_is)
    (case a12 => k_is)
    (case l12 => k_is)
    (case c12 => k_is)
    (case k12 => k_is)
    (case a13 => k_is)
    (case l13 => k_is)
    (case c13 => k_is)
    (case k13 => k_is)
    (case a14 => k_is)
    (case l14 => k_is)
    (case c14 => k_is)
    (case k14 => k_is)
    (case a15 => k_is)
    (case l15 => k_is)
    (case c15 => k_is)
    (case k15 => k_is)
    (case a16 => k_is)
    (case l16 => k_is)
    (case c16 => k_is)
    (case k16 => k_is)
    (case a17 => k_is)
    (case l17 => k_is)
    (case c17 => k_is)
    (case k17 => k_is)
    (case a18 => k_is)
    (case l18 => k_is)
    (case c18 => k_is)
    (case k18 => k_is)
    (case a19 => k_is)
    (case l19 => k_is)
    (case c19 => k_is)
    (case k19 => k_is)
    (case a20 => k_is)
    (case l20 => k_is)
    (case c20 => k_is)
    (case k20 => k_is)
    (case a21 => k_is)
    (case l21 => k_is)
    (case c21 => k_is)
    (case k21 => k_is)
    (case a22 => k_is)
    (case l22 => k_is)
    (case c22 => k_is)
    (case k22 => k_is)
    (case a23 => k_is)
    (case l23 => k_is)
    (case c23 => k_is)
    (case k23 => k_is)
    (case a24 => k_is)
    (case l24 => k_is)
    (case c24 => k_is)
    (case k24 => k_is)
    (case a25 => k_is)
    (case l25 => k_is)
    (case c25 => k_is)
    (case k25 => k_is)
    (case z_abs => k_is)
    (case z_any => k_is)
    (case z_bool => k_is)
    (case z_int => k_is)
    (case z_isinstance => k_is)
    (case z_len => k_is)
    (case z_list => k_is)
    (case z_max => k_is)
    (case z_min => k_is)
    (case z_range => k_is)
    (case z_set => k_is)
    (case z_sorted => k_is)
    (case z_str => k_is)
    (case z_sum => k_is)
    (case z_tuple => k_is)
    (case z_zip => k_is)
    (case y_ROW => k_is)
#print axioms PySem.Challenge.cw_newestpays_k42_lots_that_are_as_narrow_holds
