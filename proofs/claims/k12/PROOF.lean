import PyProof.Rows.All
import Wide.All
import OpenK.AllK
import Wide.FinOn
import HandS.ForMost
import HandS.Zip
import HandS.Style
import HandS.Flow
import HandS.TupAny
import HandS.TupLe
import HandS.Deep
import HandS.IsInst
import HandS.Wide
import HandS.SortInts
import HandS.SortRule
import HandS.Conv
import HandS.TupMul
import KE.GoesMore
import PyProof.EnumMake
import PyProof.ZipIter
import PyProof.EnumIter
import KE.GoesZip
import KE.SortData
import KE.DataCmp
import KE.DataEq
import KE.DataMinMax
import KE.DataIsa
import PyProof.ConsumeS
import HandS.MakeKwOnly
import HandS.Defaults
import HandS.TupSets
import HandS.SetFor
import HandS.Strs
import HandS.NoneIn
import PyProof.P3Eq
import HandS.DictComp
import HandS.Star
import PyProof.MeetsSeq2
import KE.KTupSum
import KE.KExcSuper
import HandS.ExcInit
import HandS.ExcField
import HandS.TryOnly
import HandS.WordsExc
import KE.KExcIs
import KE.RegKSuper
import KE.RegKTryMore
import KE.RegKIsAll
import PySem.Challenge.RW_newestpays_k12_terms_and_what_is_none
set_option Elab.async false
set_option linter.all false
set_option maxRecDepth 100000
set_option maxHeartbeats 4000000
namespace L2
open PySem
abbrev D := PyData
def scr (ns : List Int) : D := .dict (ns.map fun n => (.none, .int n))
def itD (k : List Int) : D := .tuple (k.map .int)
def tsD (ks : List (List Int)) : D := .dict ((.bool true, .none) :: ks.map fun k => (itD k, .bool true))
def tsO (a : Addr) (o : Obj) : HO := .ext fun h => h.get? a = some o
def hashT (k : List Int) : Int := reduceHash (Builtin.Tuple.tupleHashOf (k.map hashInt))
structure TsOk (a : Addr) (o : Obj) (ks : List (List Int)) (as : List Addr) : Prop where
  exact : o.ExactDict
  data : ∃ ep : Nat, o.data = .dict ((ks.zip as).map fun p => (⟨hashT p.1, .ref p.2, .bool true⟩ : DictEntry)).toArray ep
  len : as.length = ks.length
  nodup : ks.Nodup
  size : ks.length ≤ sizeLine
  notSys : (a == sysModules) = false
def KeysAt (K : PySem.W.Frag) (H : Hp) (as : List Addr) (ks : List (List Int)) : Prop := ∀ (i : Nat) (k : List Int), ks[i]? = some k → ∃ q, as[i]? = some q ∧ SqT K H q (k.map V.int)
mutual
/-- how data stands in the frozen part; the script (a list that is not ours) reads as scr -/
inductive Dq (K : PySem.W.Frag) (H : Hp) : V → D → Prop
  | non : Dq K H .non .none
  | bl (b : Bool) : Dq K H (.bl b) (.bool b)
  | int (i : Int) : Dq K H (.int i) (.int i)
  | str (x : Str) : Dq K H (.str x) (.str x)
  | lst {a : Addr} {xs : List V} {ds : List D} : H a = some (.lst xs) → DqAll K H xs ds → Dq K H (.ref a) (.list ds)
  | tup {a : Addr} {xs : List V} {ds : List D} : SqT K H a xs → DqAll K H xs ds → Dq K H (.ref a) (.tuple ds)
  | scr {a : Addr} (ns : List Int) : SqL K H a (ns.map V.int) → Dq K H (.ref a) (.dict (ns.map fun n => (.none, .int n)))
  | tks {a : Addr} {o : Obj} {as : List Addr} {ks : List (List Int)} : H a = some (tsO a o) → TsOk a o ks as → KeysAt K H as ks → Dq K H (.ref a) (tsD ks)
inductive DqAll (K : PySem.W.Frag) (H : Hp) : List V → List D → Prop
  | nil : DqAll K H [] []
  | cons {v : V} {vs : List V} {d : D} {ds : List D} : Dq K H v d → DqAll K H vs ds → DqAll K H (v :: vs) (d :: ds)
end
end L2
namespace L3
open PySem L2

inductive C where
  | lst (ds : List D)
  | dct (kvs : List (Key × D))
  | ts (ks : List (List Int))
inductive Sl where
  | val (d : D)
  | own (c : C)
  | io
  | stk (rows : List (List D × Option (List D)))
  | top (j : Nat)
structure S where
  env : List (Option Sl)
  box : List D
inductive R where
  | val (d : D)
  | new (c : C)
inductive Out (α : Type) where
  | stuck
  | ok (a : α) (s : S)
  | exc (c : Str) (d : D) (s : S)
abbrev M (α : Type) := S → Out α
def mret {α : Type} (a : α) : M α := fun s => .ok a s
def mbind {α β : Type} (m : M α) (f : α → M β) : M β := fun s => match m s with
  | .stuck => .stuck
  | .ok a s' => f a s'
  | .exc c d s' => .exc c d s'
def mstuck {α : Type} : M α := fun _ => .stuck
section
variable (K : PySem.W.Frag) (G : Hp)
inductive DpKV : List (Key × V) → List (Key × D) → Prop
  | nil : DpKV [] []
  | cons {k : Key} {v : V} {d : D} {kvs : List (Key × V)} {kds : List (Key × D)} : Dq K G v d → DpKV kvs kds → DpKV ((k, v) :: kvs) ((k, d) :: kds)
inductive RepC : Addr → HO → C → Prop
  | lst {a : Addr} {xs : List V} {ds : List D} : DqAll K G xs ds → RepC a (.lst xs) (.lst ds)
  | dct {a : Addr} {kvs : List (Key × V)} {kds : List (Key × D)} : DpKV K G kvs kds → RepC a (.dK kvs) (.dct kds)
  | ts {a : Addr} {o : Obj} {as : List Addr} {ks : List (List Int)} : TsOk a o ks as → KeysAt K G as ks → RepC a (tsO a o) (.ts ks)
end
def Sub (G H : Hp) : Prop := ∀ a o, G a = some o → H a = some o
theorem Sub.refl (G : Hp) : Sub G G := fun _ _ h => h
theorem Sub.trans {G H J : Hp} (a : Sub G H) (b : Sub H J) : Sub G J := fun x o h => b x o (a x o h)
theorem Sub.rd {G H : Hp} {a : Addr} {u : HO} (e : Sub G H) (h : Rd G a u) : Rd H a u := by
  rcases h with h | ⟨o, h⟩
  · exact Or.inl (e a _ h)
  · exact Or.inr ⟨o, e a _ h⟩
theorem Sub.l {K : PySem.W.Frag} {G H : Hp} {a : Addr} {xs : List V} (e : Sub G H) (h : SqL K G a xs) : SqL K H a xs := by
  rcases h with h | h
  · exact Or.inl (e.rd h)
  · exact Or.inr h
theorem Sub.t {K : PySem.W.Frag} {G H : Hp} {a : Addr} {xs : List V} (e : Sub G H) (h : SqT K G a xs) : SqT K H a xs := by
  rcases h with h | h
  · exact Or.inl (e.rd h)
  · exact Or.inr h
theorem Sub.keysAt {K : PySem.W.Frag} {G H : Hp} (e : Sub G H) {as : List Addr} {ks : List (List Int)} (h : KeysAt K G as ks) : KeysAt K H as ks := fun i k hi => let ⟨q, h1, h2⟩ := h i k hi; ⟨q, h1, e.t h2⟩
mutual
theorem Sub.dp {K : PySem.W.Frag} {G H : Hp} (e : Sub G H) : ∀ {d : D} {v : V}, Dq K G v d → Dq K H v d
  | .none, _, h => by cases h; exact .non
  | .bool b, _, h => by cases h; exact .bl b
  | .int i, _, h => by cases h; exact .int i
  | .str x, _, h => by cases h; exact .str x
  | .list ds, _, h => by cases h with | lst hs ha => exact .lst (e _ _ hs) (Sub.dpAll e ha)
  | .tuple ds, _, h => by cases h with | tup hs ha => exact .tup (e.t hs) (Sub.dpAll e ha)
  | .dict _, _, h => by
    cases h with
    | scr ns hs => exact .scr ns (e.l hs)
    | tks h1 h2 h3 => exact .tks (e _ _ h1) h2 (e.keysAt h3)
theorem Sub.dpAll {K : PySem.W.Frag} {G H : Hp} (e : Sub G H) : ∀ {ds : List D} {vs : List V}, DqAll K G vs ds → DqAll K H vs ds
  | [], _, h => by cases h; exact .nil
  | d :: ds, _, h => by cases h with | cons h1 h2 => exact .cons (Sub.dp e h1) (Sub.dpAll e h2)
end
theorem Sub.dpKV {K : PySem.W.Frag} {G H : Hp} (e : Sub G H) {kds : List (Key × D)} {kvs : List (Key × V)} (h : DpKV K G kvs kds) : DpKV K H kvs kds := by
  induction h with
  | nil => exact .nil
  | cons h1 _ ih => exact .cons (e.dp h1) ih
theorem Sub.repC {K : PySem.W.Frag} {G H : Hp} (e : Sub G H) {a : Addr} {o : HO} {c : C} (h : RepC K G a o c) : RepC K H a o c := by
  cases h with
  | lst h => exact .lst (e.dpAll h)
  | dct h => exact .dct (e.dpKV h)
  | ts h1 h2 => exact .ts h1 (e.keysAt h2)
theorem Sub.upd {G H : Hp} {a : Addr} {o : HO} (e : Sub G H) (h : H a = some o) : Sub (upd G a o) H := fun b u hb => by
  by_cases q : b = a
  · subst q; rw [upd_same] at hb; cases hb; exact h
  · rw [upd_ne q] at hb; exact e b u hb
theorem Sub.new {G : Hp} {a : Addr} {o : HO} (h : G a = none) : Sub G (L2.upd G a o) := fun b u hb => by
  rw [upd_ne (ne_of_none hb h)]; exact hb
theorem Sub.none {G H : Hp} {a : Addr} (e : Sub G H) (h : H a = none) : G a = none := by
  cases q : G a with
  | none => rfl
  | some o => rw [e a o q] at h; cases h
end L3
namespace L2
open PySem
theorem DqAll.length {K : PySem.W.Frag} {G : Hp} : ∀ {vs : List V} {ds : List D}, DqAll K G vs ds → vs.length = ds.length
  | _, _, .nil => rfl
  | _, _, .cons _ t => by simp [DqAll.length t]
theorem DqAll.get {K : PySem.W.Frag} {G : Hp} : ∀ {vs : List V} {ds : List D} {i : Nat} {d : D}, DqAll K G vs ds → ds[i]? = some d → ∃ v, vs[i]? = some v ∧ Dq K G v d
  | _, _, _, _, .nil, e => by simp at e
  | _, _, 0, _, .cons r _, e => by simp at e; subst e; exact ⟨_, rfl, r⟩
  | _, _, i + 1, d, .cons _ t, e => by
    obtain ⟨v, h1, h2⟩ := DqAll.get (i := i) (d := d) t (by simpa using e)
    exact ⟨v, by simpa using h1, h2⟩
theorem DqAll.get' {K : PySem.W.Frag} {G : Hp} {vs : List V} {ds : List D} {i : Nat} {v : V} (h : DqAll K G vs ds) (e : vs[i]? = some v) : ∃ d, ds[i]? = some d ∧ Dq K G v d := by
  obtain ⟨hi, _⟩ := List.getElem?_eq_some_iff.mp e
  have hl := h.length
  have e2 : ds[i]? = some ds[i] := List.getElem?_eq_getElem (by omega)
  obtain ⟨v', e3, r⟩ := h.get e2
  rw [e] at e3; cases e3
  exact ⟨_, e2, r⟩
theorem DqAll.append {K : PySem.W.Frag} {G : Hp} : ∀ {vs ws : List V} {ds es : List D}, DqAll K G vs ds → DqAll K G ws es → DqAll K G (vs ++ ws) (ds ++ es)
  | _, _, _, _, .nil, s => s
  | _, _, _, _, .cons r t, s => .cons r (DqAll.append t s)
theorem DqAll.take {K : PySem.W.Frag} {G : Hp} : ∀ {vs : List V} {ds : List D} (n : Nat), DqAll K G vs ds → DqAll K G (vs.take n) (ds.take n)
  | _, _, 0, _ => .nil
  | _, _, _ + 1, .nil => .nil
  | _, _, n + 1, .cons r t => .cons r (DqAll.take n t)
theorem DqAll.drop {K : PySem.W.Frag} {G : Hp} : ∀ {vs : List V} {ds : List D} (n : Nat), DqAll K G vs ds → DqAll K G (vs.drop n) (ds.drop n)
  | _, _, 0, r => r
  | _, _, _ + 1, .nil => .nil
  | _, _, n + 1, .cons r t => DqAll.drop n t
theorem DqAll.set {K : PySem.W.Frag} {G : Hp} {v : V} {d : D} (r : Dq K G v d) : ∀ {vs : List V} {ds : List D} (i : Nat), DqAll K G vs ds → DqAll K G (vs.set i v) (ds.set i d)
  | _, _, _, .nil => .nil
  | _, _, 0, .cons _ t => .cons r t
  | _, _, i + 1, .cons q t => .cons q (DqAll.set r i t)
theorem DqAll.ints {K : PySem.W.Frag} {G : Hp} : ∀ (ns : List Int), DqAll K G (ns.map V.int) (ns.map PyData.int)
  | [] => .nil
  | n :: ns => .cons (.int n) (DqAll.ints ns)
end L2
namespace L3
open PySem L2
structure Wd0 (K : PySem.W.Frag) (io : Option Addr) (L G : Hp) (σ : L2.St) (s : S) (H : Hp) : Prop where
  sub : Sub G H
  len : σ.length = s.env.length
  vals : ∀ (i : Nat) (d : D), s.env[i]? = some (some (Sl.val d)) → ∃ v, σ[i]? = some (some v) ∧ Dq K G v d
  owns : ∀ (i : Nat) (c : C), s.env[i]? = some (some (Sl.own c)) → ∃ a o, σ[i]? = some (some (V.ref a)) ∧ G a = none ∧ H a = some o ∧ RepC K G a o c ∧ L a = none ∧ io ≠ some a
  apart : ∀ (i j : Nat) (c c' : C) (a : Addr), s.env[i]? = some (some (Sl.own c)) → s.env[j]? = some (some (Sl.own c')) → σ[i]? = some (some (V.ref a)) → σ[j]? = some (some (V.ref a)) → i = j
  ios : ∀ a, io = some a → G a = none ∧ L a = none ∧ ∃ xs, H a = some (HO.lst xs) ∧ DqAll K G xs s.box
  refs : ∀ (i : Nat), s.env[i]? = some (some Sl.io) → ∃ a, io = some a ∧ σ[i]? = some (some (V.ref a))
  loose : ∀ a o, L a = some o → G a = none ∧ H a = some o

def un (L T : Hp) : Hp := fun a => match L a with
  | some o => some o
  | none => T a
theorem un_upd {L T : Hp} {a : Addr} {o : HO} : un (upd L a o) T = upd (un L T) a o := by
  funext b
  unfold un
  by_cases e : b = a
  · subst e; rw [upd_same, upd_same]
  · rw [upd_ne e, upd_ne e]
theorem un_none {L T : Hp} {a : Addr} (h1 : L a = none) (h2 : T a = none) : un L T a = none := by unfold un; rw [h1]; exact h2
theorem un_left {L T : Hp} {a : Addr} (h : un L T a = none) : L a = none := by
  unfold un at h
  cases e : L a with
  | none => rfl
  | some o => rw [e] at h; cases h
theorem un_right {L T : Hp} {a : Addr} (h : un L T a = none) : T a = none := by
  have := un_left h
  unfold un at h
  rw [this] at h; exact h
theorem un_l {L T : Hp} {a : Addr} {o : HO} (h : L a = some o) : un L T a = some o := by unfold un; rw [h]
theorem un_r {L T : Hp} {a : Addr} {o : HO} (h : T a = some o) (h2 : L a = none) : un L T a = some o := by unfold un; rw [h2]; exact h
abbrev Row := List D × Option (List D)
inductive RowsRep (K : PySem.W.Frag) (G T : Hp) : List Addr → List V → List Row → Prop
  | nil : RowsRep K G T [] [] []
  | cons {p q : Addr} {vs us : List V} {ds l : List D} {as : List Addr} {xs : List V} {rows : List Row} : (T p = some (.tup (vs ++ [.ref q])) ∨ T p = some (.lst (vs ++ [.ref q]))) → DqAll K G vs ds → T q = some (.lst us) → DqAll K G us l → RowsRep K G T as xs rows → RowsRep K G T (p :: q :: as) (.ref p :: xs) ((ds, some l) :: rows)
  | frz {v : V} {ds : List D} {as : List Addr} {xs : List V} {rows : List Row} : RowsRep K G T as xs rows → RowsRep K G T as (v :: xs) ((ds, none) :: rows)
theorem RowsRep.mono {K : PySem.W.Frag} {G G' T : Hp} {as : List Addr} {xs : List V} {rows : List Row} (e : Sub G G') (h : RowsRep K G T as xs rows) : RowsRep K G' T as xs rows := by
  induction h with
  | nil => exact .nil
  | cons h1 h2 h3 h4 _ ih => exact .cons h1 (e.dpAll h2) h3 (e.dpAll h4) ih
  | frz _ ih => exact .frz ih
structure StkOk (K : PySem.W.Frag) (G T : Hp) (σ : L2.St) (env : List (Option Sl)) : Prop where
  at' : ∀ (j : Nat) (rows : List Row), env[j]? = some (some (Sl.stk rows)) → ∃ a as xs, σ[j]? = some (some (V.ref a)) ∧ T a = some (.lst xs.reverse) ∧ RowsRep K G T as xs rows ∧ (a :: as).Nodup ∧
    ∀ (i : Nat), env[i]? = some (some (Sl.top j)) → ∃ ds l rest p q as', rows = (ds, some l) :: rest ∧ as = p :: q :: as' ∧ σ[i]? = some (some (V.ref q))
  one : ∀ (j j' : Nat) (rows rows' : List Row), env[j]? = some (some (Sl.stk rows)) → env[j']? = some (some (Sl.stk rows')) → j = j'
theorem StkOk.mono {K : PySem.W.Frag} {G G' T : Hp} {σ : L2.St} {env : List (Option Sl)} (e : Sub G G') (h : StkOk K G T σ env) : StkOk K G' T σ env :=
  ⟨fun j rows hj => let ⟨a, as, xs, h1, h2, h3, h4⟩ := h.at' j rows hj; ⟨a, as, xs, h1, h2, h3.mono e, h4⟩, h.one⟩
structure Wd (K : PySem.W.Frag) (io : Option Addr) (L G : Hp) (σ : L2.St) (s : S) (H : Hp) : Prop where
  ex : ∃ T : Hp, (∀ a o, T a = some o → L a = none) ∧ Wd0 K io (un L T) G σ s H ∧ StkOk K G T σ s.env
section
variable {K : PySem.W.Frag} {io : Option Addr} {L G H : Hp} {σ : L2.St} {s : S}
theorem Wd.sub (w : Wd K io L G σ s H) : Sub G H := let ⟨_, _, w, _⟩ := w.ex; w.sub
theorem Wd.len (w : Wd K io L G σ s H) : σ.length = s.env.length := let ⟨_, _, w, _⟩ := w.ex; w.len
theorem Wd.vals (w : Wd K io L G σ s H) : ∀ (i : Nat) (d : D), s.env[i]? = some (some (Sl.val d)) → ∃ v, σ[i]? = some (some v) ∧ Dq K G v d := let ⟨_, _, w, _⟩ := w.ex; w.vals
theorem Wd.owns (w : Wd K io L G σ s H) : ∀ (i : Nat) (c : C), s.env[i]? = some (some (Sl.own c)) → ∃ a o, σ[i]? = some (some (V.ref a)) ∧ G a = none ∧ H a = some o ∧ RepC K G a o c ∧ L a = none ∧ io ≠ some a :=
  let ⟨_, _, w, _⟩ := w.ex; fun i c h => let ⟨a, o, h1, h2, h3, h4, h5, h6⟩ := w.owns i c h; ⟨a, o, h1, h2, h3, h4, un_left h5, h6⟩
theorem Wd.apart (w : Wd K io L G σ s H) : ∀ (i j : Nat) (c c' : C) (a : Addr), s.env[i]? = some (some (Sl.own c)) → s.env[j]? = some (some (Sl.own c')) → σ[i]? = some (some (V.ref a)) → σ[j]? = some (some (V.ref a)) → i = j := let ⟨_, _, w, _⟩ := w.ex; w.apart
theorem Wd.ios (w : Wd K io L G σ s H) : ∀ a, io = some a → G a = none ∧ L a = none ∧ ∃ xs, H a = some (HO.lst xs) ∧ DqAll K G xs s.box :=
  let ⟨_, _, w, _⟩ := w.ex; fun a h => let ⟨h1, h2, h3⟩ := w.ios a h; ⟨h1, un_left h2, h3⟩
theorem Wd.refs (w : Wd K io L G σ s H) : ∀ (i : Nat), s.env[i]? = some (some Sl.io) → ∃ a, io = some a ∧ σ[i]? = some (some (V.ref a)) := let ⟨_, _, w, _⟩ := w.ex; w.refs
theorem Wd.loose (w : Wd K io L G σ s H) : ∀ a o, L a = some o → G a = none ∧ H a = some o := let ⟨_, _, w, _⟩ := w.ex; fun a o h => w.loose a o (un_l h)
end

inductive Rp (K : PySem.W.Frag) (G H : Hp) : V → D → Prop
  | fz {v : V} {d : D} : Dq K G v d → Rp K G H v d
  | cell {a : Addr} {xs : List V} {ds : List D} : H a = some (.lst xs) → DqAll K G xs ds → Rp K G H (.ref a) (.list ds)
section
variable {K : PySem.W.Frag} {G H : Hp} {v : V} {d : D}
theorem Rp.dp (e : Sub G H) (h : Rp K G H v d) : Dq K H v d := by
  cases h with
  | fz h => exact e.dp h
  | cell h1 h2 => exact .lst h1 (e.dpAll h2)
theorem Rp.list {ds : List D} (e : Sub G H) (h : Rp K G H v (.list ds)) : ∃ a xs, v = .ref a ∧ H a = some (.lst xs) ∧ DqAll K G xs ds := by
  cases h with
  | fz h => cases h with | lst h1 h2 => exact ⟨_, _, rfl, e _ _ h1, h2⟩
  | cell h1 h2 => exact ⟨_, _, rfl, h1, h2⟩
theorem Rp.tuple {ds : List D} (e : Sub G H) (h : Rp K G H v (.tuple ds)) : ∃ a xs, v = .ref a ∧ SqT K H a xs ∧ DqAll K G xs ds := by
  cases h with
  | fz h => cases h with | tup h1 h2 => exact ⟨_, _, rfl, e.t h1, h2⟩
theorem Rp.int {i : Int} (h : Rp K G H v (.int i)) : v = .int i := by cases h with | fz h => cases h; rfl
theorem Rp.bool {b : Bool} (h : Rp K G H v (.bool b)) : v = .bl b := by cases h with | fz h => cases h; rfl
theorem Rp.none (h : Rp K G H v .none) : v = .non := by cases h with | fz h => cases h; rfl
theorem Rp.str {x : Str} (h : Rp K G H v (.str x)) : v = .str x := by cases h with | fz h => cases h; rfl
end

abbrev WW := Str → Addr → L2.St → Hp → Prop
def WW0 : WW := fun _ _ _ _ => False
def fld (c : Str) : Str := if c = Str.ofString "Refused" then Str.ofString "value" else Str.ofString "at"
def Exc (K : PySem.W.Frag) (E : WW) (io : Option Addr) (L : Hp) (σ : L2.St) (G0 : Hp) (c : Str) (d : D) (s : S) : Prop :=
  ∀ dx v G H, Sub G0 G → Wd K io L G σ s H → H dx = some (HO.xd [(fld c, v)]) → Dq K G v d → E c dx σ H
def Fin (K : PySem.W.Frag) (E : WW) (io : Option Addr) (L : Hp) (σ : L2.St) (G0 : Hp) (Q : VK) : Out R → Prop
  | .stuck => False
  | .ok (.val d) s => ∀ v G H, Sub G0 G → Wd K io L G σ s H → Dq K G v d → Q v H
  | .ok (.new c) s => ∀ a o G H, Sub G0 G → L a = none → Wd K io (upd L a o) G σ s H → RepC K G a o c → Q (.ref a) H
  | .exc c d s => Exc K E io L σ G0 c d s
def FinV (K : PySem.W.Frag) (E : WW) (io : Option Addr) (L : Hp) (σ : L2.St) (G0 : Hp) (Q : VK) : Out D → Prop
  | .stuck => False
  | .ok d s => ∀ v G H, Sub G0 G → Wd K io L G σ s H → Dq K G v d → Q v H
  | .exc c d s => Exc K E io L σ G0 c d s
def FinT (K : PySem.W.Frag) (E : WW) (io : Option Addr) (L : Hp) (σ : L2.St) (G0 : Hp) (Q : Bool → Hp → Prop) : Out Bool → Prop
  | .stuck => False
  | .ok b s => ∀ G H, Sub G0 G → Wd K io L G σ s H → Q b H
  | .exc c d s => Exc K E io L σ G0 c d s
section
variable {K : PySem.W.Frag} {E : WW} {io : Option Addr} {L : Hp} {σ : L2.St} {G G0 : Hp}
theorem Exc.mono {c : Str} {d : D} {s : S} (e : Sub G0 G) (h : Exc K E io L σ G0 c d s) : Exc K E io L σ G c d s := fun dx v G' H q => h dx v G' H (e.trans q)
theorem Fin.mono {Q : VK} {o : Out R} (e : Sub G0 G) (h : Fin K E io L σ G0 Q o) : Fin K E io L σ G Q o := by
  match o, h with
  | .ok (.val d) s, h => exact fun v G' H q => h v G' H (e.trans q)
  | .ok (.new c) s, h => exact fun a o G' H q => h a o G' H (e.trans q)
  | .exc c d s, h => exact Exc.mono (s := s) e h
theorem FinV.mono {Q : VK} {o : Out D} (e : Sub G0 G) (h : FinV K E io L σ G0 Q o) : FinV K E io L σ G Q o := by
  match o, h with
  | .ok d s, h => exact fun v G' H q => h v G' H (e.trans q)
  | .exc c d s, h => exact Exc.mono (s := s) e h
theorem FinT.mono {Q : Bool → Hp → Prop} {o : Out Bool} (e : Sub G0 G) (h : FinT K E io L σ G0 Q o) : FinT K E io L σ G Q o := by
  match o, h with
  | .ok d s, h => exact fun G' H q => h G' H (e.trans q)
  | .exc c d s, h => exact Exc.mono (s := s) e h
end
end L3

namespace L3
open PySem L2

def S.setv (s : S) (i : Nat) (d : D) : S := { s with env := s.env.set i (some (Sl.val d)) }
def S.seto (s : S) (i : Nat) (c : C) : S := { s with env := s.env.set i (some (Sl.own c)) }
def S.drop (s : S) (i : Nat) : S := { s with env := s.env.set i none }
def S.peek (s : S) (i : Nat) : Option D := match s.env[i]? with
  | some (some (Sl.val d)) => some d
  | some (some (Sl.own (C.lst ds))) => some (.list ds)
  | some (some Sl.io) => some (.list s.box)
  | some (some (Sl.top j)) => match s.env[j]? with
    | some (some (Sl.stk ((_, some l) :: _))) => some (.list l)
    | _ => none
  | _ => none

theorem set_cases {α : Type} {l : List α} {i j : Nat} {x y : α} (h : (l.set i x)[j]? = some y) : (i = j ∧ x = y) ∨ (i ≠ j ∧ l[j]? = some y) := by
  by_cases e : i = j
  · subst e
    by_cases hl : i < l.length
    · rw [List.getElem?_set_self hl] at h; cases h; exact .inl ⟨rfl, rfl⟩
    · rw [List.getElem?_eq_none (by simpa using hl)] at h; cases h
  · rw [List.getElem?_set_ne e] at h; exact .inr ⟨e, h⟩
theorem set_there {α β : Type} {l : List α} {m : List β} {i : Nat} {x : α} {y z : β} (hlen : l.length = m.length) (h : (m.set i y)[i]? = some z) : (l.set i x)[i]? = some x := by
  have : i < m.length := by
    by_cases hl : i < m.length
    · exact hl
    · rw [List.getElem?_eq_none (by simpa using hl)] at h; cases h
  exact List.getElem?_set_self (by omega)

section
variable {K : PySem.W.Frag} {E : WW} {io : Option Addr} {L G H : Hp} {σ : L2.St} {s : S} {i : Nat} {v : V} {d : D} {a : Addr} {o o' : HO} {c c' : C} {ds : List D}

theorem StkOk.off {T : Hp} {σ σ' : L2.St} {env : List (Option Sl)} {i : Nat} {x : Option Sl} (h : StkOk K G T σ env) (hx : ∀ rows, x ≠ some (Sl.stk rows)) (hx2 : ∀ j, x ≠ some (Sl.top j)) (hσ : ∀ j, j ≠ i → σ'[j]? = σ[j]?) : StkOk K G T σ' (env.set i x) where
  at' := fun j rows hj => by
    rcases set_cases (l := env) hj with ⟨rfl, q⟩ | ⟨ne, q⟩
    · exact absurd q (hx rows)
    · obtain ⟨a, as, xs, h1, h2, h3, h4, h5⟩ := h.at' j rows q
      refine ⟨a, as, xs, by rw [hσ j (Ne.symm ne)]; exact h1, h2, h3, h4, fun k hk => ?_⟩
      rcases set_cases (l := env) hk with ⟨rfl, z⟩ | ⟨ne', z⟩
      · exact absurd z (hx2 j)
      · obtain ⟨ds, l, rest, p, q', as', e1, e2, e3⟩ := h5 k z
        exact ⟨ds, l, rest, p, q', as', e1, e2, by rw [hσ k (Ne.symm ne')]; exact e3⟩
  one := fun j j' rows rows' h1 h2 => by
    rcases set_cases (l := env) h1 with ⟨rfl, q⟩ | ⟨ne, q⟩
    · exact absurd q (hx rows)
    · rcases set_cases (l := env) h2 with ⟨rfl, q'⟩ | ⟨ne', q'⟩
      · exact absurd q' (hx rows')
      · exact h.one j j' rows rows' q q'
theorem dis_upd {L T : Hp} {a : Addr} {o : HO} (h : ∀ b u, T b = some u → upd L a o b = none) : (∀ b u, T b = some u → L b = none) ∧ T a = none := by
  have ha : T a = none := by
    cases e : T a with
    | none => rfl
    | some u => have := h a u e; rw [upd_same] at this; cases this
  refine ⟨fun b u hb => ?_, ha⟩
  have ne : b ≠ a := fun q => by rw [q, ha] at hb; cases hb
  have := h b u hb
  rw [upd_ne ne] at this; exact this
theorem upd_dis {L T : Hp} {a : Addr} {o : HO} (h : ∀ b u, T b = some u → L b = none) (ha : T a = none) : ∀ b u, T b = some u → upd L a o b = none := fun b u hb => by
  rw [upd_ne (fun q => by rw [q, ha] at hb; cases hb)]; exact h b u hb
theorem Wd0.grow (w : Wd0 K io L G σ s H) (hp : H a = none) : Wd0 K io L (upd G a o) σ s (upd H a o) where
  sub := fun b u hb => by
    by_cases q : b = a
    · subst q; rw [upd_same] at hb ⊢; exact hb
    · rw [upd_ne q] at hb ⊢; exact w.sub b u hb
  len := w.len
  vals := fun i d h => by
    obtain ⟨v, e, r⟩ := w.vals i d h
    exact ⟨v, e, (Sub.new (w.sub.none hp)).dp r⟩
  owns := fun i c h => by
    obtain ⟨b, u, e, g, hb, r, l, n⟩ := w.owns i c h
    have ne : b ≠ a := ne_of_none hb hp
    exact ⟨b, u, e, by rw [upd_ne ne]; exact g, by rw [upd_ne ne]; exact hb, (Sub.new (w.sub.none hp)).repC r, l, n⟩
  apart := w.apart
  ios := fun b hb => by
    obtain ⟨g, l, xs, h1, h2⟩ := w.ios b hb
    have ne : b ≠ a := ne_of_none h1 hp
    exact ⟨by rw [upd_ne ne]; exact g, l, xs, by rw [upd_ne ne]; exact h1, (Sub.new (w.sub.none hp)).dpAll h2⟩
  refs := w.refs
  loose := fun b u hb => by
    obtain ⟨g, h1⟩ := w.loose b u hb
    have ne : b ≠ a := ne_of_none h1 hp
    exact ⟨by rw [upd_ne ne]; exact g, by rw [upd_ne ne]; exact h1⟩
theorem Wd.grow (w : Wd K io L G σ s H) (hp : H a = none) : Wd K io L (upd G a o) σ s (upd H a o) := by
  obtain ⟨T, h1, w, h2⟩ := w.ex
  exact ⟨T, h1, w.grow hp, h2.mono (Sub.new (w.sub.none hp))⟩
theorem Wd0.fresh (w : Wd0 K io L G σ s H) (hp : H a = none) : L a = none ∧ Wd0 K io (upd L a o) G σ s (upd H a o) := by
  have hG : G a = none := w.sub.none hp
  have hL : L a = none := by
    cases q : L a with
    | none => rfl
    | some u => rw [(w.loose a u q).2] at hp; cases hp
  refine ⟨hL, ⟨fun b u hb => ?_, w.len, w.vals, fun i c h => ?_, w.apart, fun b hb => ?_, w.refs, fun b u hb => ?_⟩⟩
  · rw [upd_ne (ne_of_none (w.sub b u hb) hp)]; exact w.sub b u hb
  · obtain ⟨b, u, e, g, hb, r, l, n⟩ := w.owns i c h
    have ne : b ≠ a := ne_of_none hb hp
    exact ⟨b, u, e, g, by rw [upd_ne ne]; exact hb, r, by rw [upd_ne ne]; exact l, n⟩
  · obtain ⟨g, l, xs, h1, h2⟩ := w.ios b hb
    have ne : b ≠ a := ne_of_none h1 hp
    exact ⟨g, by rw [upd_ne ne]; exact l, xs, by rw [upd_ne ne]; exact h1, h2⟩
  · by_cases q : b = a
    · subst q; rw [upd_same] at hb; cases hb; exact ⟨hG, upd_same⟩
    · rw [upd_ne q] at hb
      obtain ⟨g, h1⟩ := w.loose b u hb
      exact ⟨g, by rw [upd_ne q]; exact h1⟩
theorem Wd.fresh (w : Wd K io L G σ s H) (hp : H a = none) : L a = none ∧ Wd K io (upd L a o) G σ s (upd H a o) := by
  obtain ⟨T, h1, w, h2⟩ := w.ex
  obtain ⟨e, w2⟩ := w.fresh (o := o) hp
  rw [← un_upd] at w2
  exact ⟨un_left e, T, upd_dis h1 (un_right e), w2, h2⟩
theorem Wd0.frz (w : Wd0 K io (upd L a o) G σ s H) (hL : L a = none) : Sub G (upd G a o) ∧ Wd0 K io L (upd G a o) σ s H := by
  obtain ⟨hG, hH⟩ := w.loose a o upd_same
  have sb : Sub G (upd G a o) := Sub.new hG
  refine ⟨sb, ⟨w.sub.upd hH, w.len, fun i d h => ?_, fun i c h => ?_, w.apart, fun b hb => ?_, w.refs, fun b u hb => ?_⟩⟩
  · obtain ⟨v, e, r⟩ := w.vals i d h
    exact ⟨v, e, sb.dp r⟩
  · obtain ⟨b, u, e, g, hb, r, l, n⟩ := w.owns i c h
    have ne : b ≠ a := fun q => by rw [q, upd_same] at l; cases l
    rw [upd_ne ne] at l
    exact ⟨b, u, e, by rw [upd_ne ne]; exact g, hb, sb.repC r, l, n⟩
  · obtain ⟨g, l, xs, h1, h2⟩ := w.ios b hb
    have ne : b ≠ a := fun q => by rw [q, upd_same] at l; cases l
    rw [upd_ne ne] at l
    exact ⟨by rw [upd_ne ne]; exact g, l, xs, h1, sb.dpAll h2⟩
  · have ne : b ≠ a := ne_of_none hb hL
    obtain ⟨g, h1⟩ := w.loose b u (by rw [upd_ne ne]; exact hb)
    exact ⟨by rw [upd_ne ne]; exact g, h1⟩
theorem Wd.frz (w : Wd K io (upd L a o) G σ s H) (hL : L a = none) : Sub G (upd G a o) ∧ Wd K io L (upd G a o) σ s H := by
  obtain ⟨T, h1, w, h2⟩ := w.ex
  obtain ⟨h3, h4⟩ := dis_upd h1
  rw [un_upd] at w
  obtain ⟨sb, w2⟩ := w.frz (un_none hL h4)
  exact ⟨sb, T, h3, w2, h2.mono sb⟩
theorem Wd.frzD (w : Wd K io (upd L a o) G σ s H) (hL : L a = none) (r : RepC K G a o (.lst ds)) : Sub G (upd G a o) ∧ Wd K io L (upd G a o) σ s H ∧ Dq K (upd G a o) (.ref a) (.list ds) := by
  obtain ⟨sb, w'⟩ := w.frz hL
  cases r with
  | lst h => exact ⟨sb, w', .lst upd_same (sb.dpAll h)⟩
theorem Wd.frzT {ks : List (List Int)} (w : Wd K io (upd L a o) G σ s H) (hL : L a = none) (r : RepC K G a o (.ts ks)) : Sub G (upd G a o) ∧ Wd K io L (upd G a o) σ s H ∧ Dq K (upd G a o) (.ref a) (tsD ks) := by
  obtain ⟨sb, w'⟩ := w.frz hL
  cases r with
  | ts h1 h2 => exact ⟨sb, w', .tks upd_same h1 (sb.keysAt h2)⟩
theorem Wd0.drop (w : Wd0 K io (upd L a o) G σ s H) (hL : L a = none) : Wd0 K io L G σ s H := by
  refine ⟨w.sub, w.len, w.vals, fun i c h => ?_, w.apart, fun b hb => ?_, w.refs, fun b u hb => ?_⟩
  · obtain ⟨b, u, e, g, hb, r, l, n⟩ := w.owns i c h
    have ne : b ≠ a := fun q => by rw [q, upd_same] at l; cases l
    rw [upd_ne ne] at l
    exact ⟨b, u, e, g, hb, r, l, n⟩
  · obtain ⟨g, l, q⟩ := w.ios b hb
    have ne : b ≠ a := fun q => by rw [q, upd_same] at l; cases l
    rw [upd_ne ne] at l
    exact ⟨g, l, q⟩
  · have ne : b ≠ a := ne_of_none hb hL
    exact w.loose b u (by rw [upd_ne ne]; exact hb)
theorem Wd.drop (w : Wd K io (upd L a o) G σ s H) (hL : L a = none) : Wd K io L G σ s H := by
  obtain ⟨T, h1, w, h2⟩ := w.ex
  obtain ⟨h3, h4⟩ := dis_upd h1
  rw [un_upd] at w
  exact ⟨T, h3, w.drop (un_none hL h4), h2⟩
theorem Wd0.setv (w : Wd0 K io L G σ s H) (r : Dq K G v d) : Wd0 K io L G (σ.set i (some v)) (s.setv i d) H where
  sub := w.sub
  len := by show (σ.set i (some v)).length = (s.env.set i _).length; rw [List.length_set, List.length_set]; exact w.len
  vals := fun j e h => by
    rcases set_cases (l := s.env) h with ⟨rfl, q⟩ | ⟨ne, q⟩
    · cases q
      exact ⟨v, set_there (m := s.env) w.len h, r⟩
    · obtain ⟨u, e1, r1⟩ := w.vals j e q
      exact ⟨u, by rw [List.getElem?_set_ne ne]; exact e1, r1⟩
  owns := fun j e h => by
    rcases set_cases (l := s.env) h with ⟨rfl, q⟩ | ⟨ne, q⟩
    · cases q
    · obtain ⟨b, u, e1, z⟩ := w.owns j e q
      exact ⟨b, u, by rw [List.getElem?_set_ne ne]; exact e1, z⟩
  apart := fun j k e e' b h1 h2 h3 h4 => by
    rcases set_cases (l := s.env) h1 with ⟨rfl, q⟩ | ⟨ne, q⟩
    · cases q
    · rcases set_cases (l := s.env) h2 with ⟨rfl, q'⟩ | ⟨ne', q'⟩
      · cases q'
      · rw [List.getElem?_set_ne ne] at h3
        rw [List.getElem?_set_ne ne'] at h4
        exact w.apart j k e e' b q q' h3 h4
  ios := w.ios
  refs := fun j h => by
    rcases set_cases (l := s.env) h with ⟨rfl, q⟩ | ⟨ne, q⟩
    · cases q
    · obtain ⟨b, h1, h2⟩ := w.refs j q
      exact ⟨b, h1, by rw [List.getElem?_set_ne ne]; exact h2⟩
  loose := w.loose
theorem Wd.setv (w : Wd K io L G σ s H) (r : Dq K G v d) : Wd K io L G (σ.set i (some v)) (s.setv i d) H := by
  obtain ⟨T, h1, w, h2⟩ := w.ex
  exact ⟨T, h1, w.setv r, h2.off (fun _ e => by cases e) (fun _ e => by cases e) fun j hj => List.getElem?_set_ne (Ne.symm hj)⟩
theorem Wd0.seto (w : Wd0 K io (upd L a o) G σ s H) (hL : L a = none) (r : RepC K G a o c) : Wd0 K io L G (σ.set i (some (.ref a))) (s.seto i c) H := by
  obtain ⟨hG, hH⟩ := w.loose a o upd_same
  have hio : io ≠ some a := fun q => by
    have z := (w.ios a q).2.1
    rw [upd_same] at z; cases z
  have far : ∀ (j : Nat) (e : C), s.env[j]? = some (some (Sl.own e)) → σ[j]? ≠ some (some (V.ref a)) := fun j e h q => by
    obtain ⟨b, u, e1, _, _, _, l, _⟩ := w.owns j e h
    rw [q] at e1; cases e1
    rw [upd_same] at l; cases l
  have w0 := w.drop hL
  refine ⟨w.sub, ?_, fun j e h => ?_, fun j e h => ?_, fun j k e e' b h1 h2 h3 h4 => ?_, w0.ios, fun j h => ?_, w0.loose⟩
  · show (σ.set i _).length = (s.env.set i _).length; rw [List.length_set, List.length_set]; exact w.len
  · rcases set_cases (l := s.env) h with ⟨rfl, q⟩ | ⟨ne, q⟩
    · cases q
    · obtain ⟨u, e1, r1⟩ := w.vals j e q
      exact ⟨u, by rw [List.getElem?_set_ne ne]; exact e1, r1⟩
  · rcases set_cases (l := s.env) h with ⟨rfl, q⟩ | ⟨ne, q⟩
    · cases q
      exact ⟨a, o, set_there (m := s.env) w.len h, hG, hH, r, hL, hio⟩
    · obtain ⟨b, u, e1, z⟩ := w0.owns j e q
      exact ⟨b, u, by rw [List.getElem?_set_ne ne]; exact e1, z⟩
  · rcases set_cases (l := s.env) h1 with ⟨rfl, q⟩ | ⟨ne, q⟩
    · rcases set_cases (l := s.env) h2 with ⟨rfl, q'⟩ | ⟨ne', q'⟩
      · rfl
      · rw [set_there (m := s.env) w.len h1] at h3; cases h3
        rw [List.getElem?_set_ne ne'] at h4
        exact absurd h4 (far k e' q')
    · rcases set_cases (l := s.env) h2 with ⟨rfl, q'⟩ | ⟨ne', q'⟩
      · rw [set_there (m := s.env) w.len h2] at h4; cases h4
        rw [List.getElem?_set_ne ne] at h3
        exact absurd h3 (far j e q)
      · rw [List.getElem?_set_ne ne] at h3
        rw [List.getElem?_set_ne ne'] at h4
        exact w.apart j k e e' b q q' h3 h4
  · rcases set_cases (l := s.env) h with ⟨rfl, q⟩ | ⟨ne, q⟩
    · cases q
    · obtain ⟨b, h1, h2⟩ := w.refs j q
      exact ⟨b, h1, by rw [List.getElem?_set_ne ne]; exact h2⟩
theorem Wd.seto (w : Wd K io (upd L a o) G σ s H) (hL : L a = none) (r : RepC K G a o c) : Wd K io L G (σ.set i (some (.ref a))) (s.seto i c) H := by
  obtain ⟨T, h1, w, h2⟩ := w.ex
  obtain ⟨h3, h4⟩ := dis_upd h1
  rw [un_upd] at w
  exact ⟨T, h3, w.seto (un_none hL h4) r, h2.off (fun _ e => by cases e) (fun _ e => by cases e) fun j hj => List.getElem?_set_ne (Ne.symm hj)⟩
theorem Wd0.gone (w : Wd0 K io L G σ s H) (σ' : L2.St) (hl : σ'.length = σ.length) (hs : ∀ j x, j ≠ i → σ[j]? = some (some x) → σ'[j]? = some (some x)) (hb : ∀ j, j ≠ i → σ'[j]? = σ[j]?) : Wd0 K io L G σ' (s.drop i) H where
  sub := w.sub
  len := by show σ'.length = (s.env.set i _).length; rw [List.length_set, hl]; exact w.len
  vals := fun j e h => by
    rcases set_cases (l := s.env) h with ⟨rfl, q⟩ | ⟨ne, q⟩
    · cases q
    · obtain ⟨u, e1, r1⟩ := w.vals j e q
      exact ⟨u, by rw [hb j (Ne.symm ne)]; exact e1, r1⟩
  owns := fun j e h => by
    rcases set_cases (l := s.env) h with ⟨rfl, q⟩ | ⟨ne, q⟩
    · cases q
    · obtain ⟨b, u, e1, z⟩ := w.owns j e q
      exact ⟨b, u, by rw [hb j (Ne.symm ne)]; exact e1, z⟩
  apart := fun j k e e' b h1 h2 h3 h4 => by
    rcases set_cases (l := s.env) h1 with ⟨rfl, q⟩ | ⟨ne, q⟩
    · cases q
    · rcases set_cases (l := s.env) h2 with ⟨rfl, q'⟩ | ⟨ne', q'⟩
      · cases q'
      · rw [hb j (Ne.symm ne)] at h3
        rw [hb k (Ne.symm ne')] at h4
        exact w.apart j k e e' b q q' h3 h4
  ios := w.ios
  refs := fun j h => by
    rcases set_cases (l := s.env) h with ⟨rfl, q⟩ | ⟨ne, q⟩
    · cases q
    · obtain ⟨b, h1, h2⟩ := w.refs j q
      exact ⟨b, h1, by rw [hb j (Ne.symm ne)]; exact h2⟩
  loose := w.loose
theorem Wd.gone (w : Wd K io L G σ s H) (σ' : L2.St) (hl : σ'.length = σ.length) (hs : ∀ j x, j ≠ i → σ[j]? = some (some x) → σ'[j]? = some (some x)) (hb : ∀ j, j ≠ i → σ'[j]? = σ[j]?) : Wd K io L G σ' (s.drop i) H := by
  obtain ⟨T, h1, w, h2⟩ := w.ex
  exact ⟨T, h1, w.gone σ' hl hs hb, h2.off (fun _ e => by cases e) (fun _ e => by cases e) hb⟩
theorem Wd0.moved (w : Wd0 K io L G σ s H) (h : s.env[i]? = some (some (Sl.own c))) : ∃ a o, σ[i]? = some (some (V.ref a)) ∧ RepC K G a o c ∧ L a = none ∧ Wd0 K io (upd L a o) G σ (s.drop i) H := by
  obtain ⟨a, o, e, g, ha, r, l, n⟩ := w.owns i c h
  have w1 := w.gone (i := i) σ rfl (fun _ _ _ q => q) (fun _ _ => rfl)
  refine ⟨a, o, e, r, l, ⟨w1.sub, w1.len, w1.vals, fun j e' h' => ?_, w1.apart, fun b hb => ?_, w1.refs, fun b u hb => ?_⟩⟩
  · obtain ⟨b, u, e1, g1, h1, r1, l1, n1⟩ := w1.owns j e' h'
    have ne : b ≠ a := fun q => by
      subst q
      rcases set_cases (l := s.env) h' with ⟨rfl, q⟩ | ⟨ne, q⟩
      · cases q
      · exact ne (w.apart i j c e' b h q e e1)
    exact ⟨b, u, e1, g1, h1, r1, by rw [upd_ne ne]; exact l1, n1⟩
  · obtain ⟨g1, l1, q⟩ := w1.ios b hb
    have ne : b ≠ a := fun q => n (q ▸ hb)
    exact ⟨g1, by rw [upd_ne ne]; exact l1, q⟩
  · by_cases q : b = a
    · subst q; rw [upd_same] at hb; cases hb; exact ⟨g, ha⟩
    · rw [upd_ne q] at hb; exact w.loose b u hb
theorem Wd.moved (w : Wd K io L G σ s H) (h : s.env[i]? = some (some (Sl.own c))) : ∃ a o, σ[i]? = some (some (V.ref a)) ∧ RepC K G a o c ∧ L a = none ∧ Wd K io (upd L a o) G σ (s.drop i) H := by
  obtain ⟨T, h1, w, h2⟩ := w.ex
  obtain ⟨a, o, e1, e2, e3, w2⟩ := w.moved h
  rw [← un_upd] at w2
  exact ⟨a, o, e1, e2, un_left e3, T, upd_dis h1 (un_right e3), w2, h2.off (fun _ e => by cases e) (fun _ e => by cases e) fun _ _ => rfl⟩
theorem set_set_none (s : S) (i : Nat) (d : D) : (s.drop i).setv i d = s.setv i d := by
  show ({ s with env := (s.env.set i none).set i _ } : S) = { s with env := s.env.set i _ }
  rw [List.set_set]
theorem set_back {σ : L2.St} {i : Nat} {x : Option V} (h : σ[i]? = some x) : σ.set i x = σ := by
  apply List.ext_getElem?
  intro j
  by_cases e : i = j
  · subst e
    rw [List.getElem?_set_self (List.getElem?_eq_some_iff.mp h).1, h]
  · rw [List.getElem?_set_ne e]
theorem Wd.frzSlot (w : Wd K io L G σ s H) (h : s.env[i]? = some (some (Sl.own (C.lst ds)))) : ∃ a G', σ[i]? = some (some (V.ref a)) ∧ Sub G G' ∧ Wd K io L G' σ (s.setv i (.list ds)) H ∧ Dq K G' (.ref a) (.list ds) := by
  obtain ⟨a, o, e, r, l, w1⟩ := w.moved h
  obtain ⟨sb, w2, dp⟩ := w1.frzD l r
  have w3 := w2.setv (i := i) dp
  rw [set_set_none, set_back e] at w3
  exact ⟨a, _, e, sb, w3, dp⟩
theorem Wd.frzSlotT {ks : List (List Int)} (w : Wd K io L G σ s H) (h : s.env[i]? = some (some (Sl.own (C.ts ks)))) : ∃ a G', σ[i]? = some (some (V.ref a)) ∧ Sub G G' ∧ Wd K io L G' σ (s.setv i (tsD ks)) H ∧ Dq K G' (.ref a) (tsD ks) := by
  obtain ⟨a, o, e, r, l, w1⟩ := w.moved h
  obtain ⟨sb, w2, dp⟩ := w1.frzT l r
  have w3 := w2.setv (i := i) dp
  rw [set_set_none, set_back e] at w3
  exact ⟨a, _, e, sb, w3, dp⟩
theorem Wd0.writeL (w : Wd0 K io (upd L a o) G σ s H) (hL : L a = none) : Wd0 K io (upd L a o') G σ s (upd H a o') := by
  obtain ⟨hG, hH⟩ := w.loose a o upd_same
  refine ⟨fun b u hb => ?_, w.len, w.vals, fun i c h => ?_, w.apart, fun b hb => ?_, w.refs, fun b u hb => ?_⟩
  · rw [upd_ne (fun q => by rw [q, hG] at hb; cases hb)]; exact w.sub b u hb
  · obtain ⟨b, u, e, g, hb, r, l, n⟩ := w.owns i c h
    have ne : b ≠ a := fun q => by rw [q, upd_same] at l; cases l
    rw [upd_ne ne] at l
    exact ⟨b, u, e, g, by rw [upd_ne ne]; exact hb, r, by rw [upd_ne ne]; exact l, n⟩
  · obtain ⟨g, l, xs, h1, h2⟩ := w.ios b hb
    have ne : b ≠ a := fun q => by rw [q, upd_same] at l; cases l
    rw [upd_ne ne] at l
    exact ⟨g, by rw [upd_ne ne]; exact l, xs, by rw [upd_ne ne]; exact h1, h2⟩
  · by_cases q : b = a
    · subst q; rw [upd_same] at hb; cases hb; exact ⟨hG, upd_same⟩
    · rw [upd_ne q] at hb
      obtain ⟨g, h1⟩ := w.loose b u (by rw [upd_ne q]; exact hb)
      exact ⟨g, by rw [upd_ne q]; exact h1⟩
theorem Wd.writeL (w : Wd K io (upd L a o) G σ s H) (hL : L a = none) : Wd K io (upd L a o') G σ s (upd H a o') := by
  obtain ⟨T, h1, w, h2⟩ := w.ex
  obtain ⟨h3, h4⟩ := dis_upd h1
  rw [un_upd] at w
  have w2 := w.writeL (o' := o') (un_none hL h4)
  rw [← un_upd] at w2
  exact ⟨T, upd_dis h3 h4, w2, h2⟩
theorem Wd.writeO (w : Wd K io L G σ s H) (h : s.env[i]? = some (some (Sl.own c))) (e : σ[i]? = some (some (V.ref a))) (r : RepC K G a o' c') : Wd K io L G σ (s.seto i c') (upd H a o') := by
  obtain ⟨a', o, e', _, l, w1⟩ := w.moved h
  rw [e] at e'; cases e'
  have w2 := (w1.writeL (o' := o') l).seto (i := i) l r
  have es : (s.drop i).seto i c' = s.seto i c' := by
    show ({ s with env := (s.env.set i none).set i _ } : S) = { s with env := s.env.set i _ }
    rw [List.set_set]
  rw [es, set_back e] at w2
  exact w2
theorem Wd0.writeB {xs : List V} (w : Wd0 K io L G σ s H) (e : io = some a) (r : DqAll K G xs ds) : Wd0 K io L G σ { s with box := ds } (upd H a (.lst xs)) := by
  obtain ⟨g0, l0, _, h0, _⟩ := w.ios a e
  refine ⟨fun b u hb => ?_, w.len, w.vals, fun i c h => ?_, w.apart, fun b hb => ?_, w.refs, fun b u hb => ?_⟩
  · rw [upd_ne (fun q => by rw [q, g0] at hb; cases hb)]; exact w.sub b u hb
  · obtain ⟨b, u, e1, g, hb, r, l, n⟩ := w.owns i c h
    have ne : b ≠ a := fun q => n (q ▸ e)
    exact ⟨b, u, e1, g, by rw [upd_ne ne]; exact hb, r, l, n⟩
  · rw [e] at hb; cases hb
    exact ⟨g0, l0, xs, upd_same, r⟩
  · obtain ⟨g, h1⟩ := w.loose b u hb
    have ne : b ≠ a := fun q => by rw [q, l0] at hb; cases hb
    exact ⟨g, by rw [upd_ne ne]; exact h1⟩
theorem Wd.writeB {xs : List V} (w : Wd K io L G σ s H) (e : io = some a) (r : DqAll K G xs ds) : Wd K io L G σ { s with box := ds } (upd H a (.lst xs)) := by
  obtain ⟨T, h1, w, h2⟩ := w.ex
  exact ⟨T, h1, w.writeB e r, h2⟩
theorem RowsRep.agree {T T' : Hp} {as : List Addr} {xs : List V} {rows : List Row} (h : RowsRep K G T as xs rows) : (∀ b, b ∈ as → T' b = T b) → RowsRep K G T' as xs rows := by
  induction h with
  | nil => exact fun _ => .nil
  | cons h1 h2 h3 h4 _ ih =>
    intro e
    refine .cons ?_ h2 ?_ h4 (ih fun b hb => e b (List.mem_cons_of_mem _ (List.mem_cons_of_mem _ hb)))
    · rw [e _ List.mem_cons_self]; exact h1
    · rw [e _ (List.mem_cons_of_mem _ List.mem_cons_self)]; exact h3
  | frz _ ih => exact fun e => .frz (ih e)
theorem RowsRep.there {T : Hp} {as : List Addr} {xs : List V} {rows : List Row} (h : RowsRep K G T as xs rows) : ∀ b, b ∈ as → T b ≠ none := by
  induction h with
  | nil => intro b hb; cases hb
  | cons h1 h2 h3 h4 _ ih =>
    intro b hb
    rcases List.mem_cons.mp hb with rfl | hb
    · rcases h1 with h | h <;> rw [h] <;> exact fun z => by cases z
    · rcases List.mem_cons.mp hb with rfl | hb
      · rw [h3]; exact fun z => by cases z
      · exact ih b hb
  | frz _ ih => exact ih
theorem RowsRep.len {T : Hp} {as : List Addr} {xs : List V} {rows : List Row} (h : RowsRep K G T as xs rows) : xs.length = rows.length := by
  induction h with
  | nil => rfl
  | cons _ _ _ _ _ ih => simp [ih]
  | frz _ ih => simp [ih]
def clr1 : Option Sl → Option Sl
  | some (Sl.top _) => none
  | x => x
def clrE (env : List (Option Sl)) : List (Option Sl) := env.map clr1
theorem clrE_len {env : List (Option Sl)} : (clrE env).length = env.length := by unfold clrE; simp
theorem clrE_get {env : List (Option Sl)} {k : Nat} : (clrE env)[k]? = env[k]?.map clr1 := by unfold clrE; rw [List.getElem?_map]
theorem clrE_some {env : List (Option Sl)} {k : Nat} {x : Sl} (h : (clrE env)[k]? = some (some x)) : env[k]? = some (some x) ∧ ∀ j, x ≠ Sl.top j := by
  rw [clrE_get] at h
  cases e : env[k]? with
  | none => rw [e] at h; cases h
  | some y =>
    rw [e] at h
    have h : clr1 y = some x := Option.some.inj h
    cases y with
    | none => cases h
    | some y => cases y with
      | top j => cases h
      | val d => cases h; exact ⟨rfl, fun j z => by cases z⟩
      | own c => cases h; exact ⟨rfl, fun j z => by cases z⟩
      | io => cases h; exact ⟨rfl, fun j z => by cases z⟩
      | stk r => cases h; exact ⟨rfl, fun j z => by cases z⟩
theorem Wd0.re {env' : List (Option Sl)} {σ' : L2.St} (w : Wd0 K io L G σ s H) (hl : σ'.length = env'.length) (hv : ∀ (k : Nat) (x : D), env'[k]? = some (some (Sl.val x)) → ∃ v, σ'[k]? = some (some v) ∧ Dq K G v x)
    (ho : ∀ (k : Nat) (c : C), env'[k]? = some (some (Sl.own c)) → s.env[k]? = some (some (Sl.own c)) ∧ σ'[k]? = σ[k]?) (hi : ∀ (k : Nat), env'[k]? = some (some Sl.io) → s.env[k]? = some (some Sl.io) ∧ σ'[k]? = σ[k]?) : Wd0 K io L G σ' { s with env := env' } H where
  sub := w.sub
  len := hl
  vals := hv
  owns := fun k c h => by
    obtain ⟨h1, h2⟩ := ho k c h
    obtain ⟨a, o, e, q⟩ := w.owns k c h1
    exact ⟨a, o, h2.trans e, q⟩
  apart := fun i j c c' a h1 h2 h3 h4 => by
    obtain ⟨g1, g2⟩ := ho i c h1
    obtain ⟨k1, k2⟩ := ho j c' h2
    exact w.apart i j c c' a g1 k1 (g2.symm.trans h3) (k2.symm.trans h4)
  ios := w.ios
  refs := fun k h => by
    obtain ⟨h1, h2⟩ := hi k h
    obtain ⟨a, e1, e2⟩ := w.refs k h1
    exact ⟨a, e1, h2.trans e2⟩
  loose := w.loose
def rm (T : Hp) (q : Addr) : Hp := fun b => if b = q then none else T b
theorem rm_ne {T : Hp} {b q : Addr} (h : b ≠ q) : rm T q b = T b := if_neg h
theorem rm_same {T : Hp} {q : Addr} : rm T q q = none := if_pos rfl
theorem un_rm {L T : Hp} {q : Addr} {o : HO} (hT : T q = some o) (hL : L q = none) : un L T = upd (un L (rm T q)) q o := by
  funext b
  by_cases e : b = q
  · subst e; rw [upd_same]; exact un_r hT hL
  · rw [upd_ne e]
    unfold un
    rw [rm_ne e]
def S.frzTop (s : S) (i j : Nat) (ds l : List D) (rest : List Row) : S := { s with env := ((clrE s.env).set j (some (Sl.stk ((ds, none) :: rest)))).set i (some (Sl.val (.list l))) }
theorem Wd.frzTop {j : Nat} {l : List D} {rest : List Row} (w : Wd K io L G σ s H) (hi : s.env[i]? = some (some (Sl.top j))) (hj : s.env[j]? = some (some (Sl.stk ((ds, some l) :: rest)))) :
    ∃ q G', σ[i]? = some (some (V.ref q)) ∧ Sub G G' ∧ Wd K io L G' σ (s.frzTop i j ds l rest) H ∧ Dq K G' (.ref q) (.list l) := by
  obtain ⟨T, hd, w0, st⟩ := w.ex
  obtain ⟨a, as, xs, h1, h2, h3, h4, h5⟩ := st.at' j _ hj
  obtain ⟨ds', l', rest', p, q, as', e1, e2, e3⟩ := h5 i hi
  cases e1
  subst e2
  cases h3 with
  | @cons _ _ vs us _ _ _ xs' _ z1 z2 z3 z4 z5 =>
    have nd := h4
    rw [List.nodup_cons, List.nodup_cons, List.nodup_cons] at nd
    obtain ⟨n1, n2, n3, _⟩ := nd
    have haq : a ≠ q := fun e => n1 (by rw [e]; exact List.mem_cons_of_mem _ List.mem_cons_self)
    have hLq : L q = none := hd _ _ z3
    rw [un_rm z3 hLq] at w0
    obtain ⟨sb, w1⟩ := w0.frz (un_none hLq rm_same)
    have dq : Dq K (upd G q (.lst us)) (.ref q) (.list l) := .lst upd_same (sb.dpAll z4)
    have hij : i ≠ j := fun e => by rw [e, hj] at hi; cases hi
    refine ⟨q, _, e3, sb, ⟨rm T q, fun b u hb => ?_, ?_, ?_⟩, dq⟩
    · by_cases e : b = q
      · rw [e, rm_same] at hb; cases hb
      · rw [rm_ne e] at hb; exact hd b u hb
    · refine w1.re (by rw [List.length_set, List.length_set, clrE_len]; exact w1.len) (fun k x hk => ?_) (fun k c hk => ?_) fun k hk => ?_
      · rcases set_cases hk with ⟨rfl, z⟩ | ⟨ne, z⟩
        · cases z; exact ⟨_, e3, dq⟩
        · rcases set_cases z with ⟨rfl, y⟩ | ⟨ne', y⟩
          · cases y
          · exact w1.vals k x (clrE_some y).1
      · rcases set_cases hk with ⟨rfl, z⟩ | ⟨ne, z⟩
        · cases z
        · rcases set_cases z with ⟨rfl, y⟩ | ⟨ne', y⟩
          · cases y
          · exact ⟨(clrE_some y).1, rfl⟩
      · rcases set_cases hk with ⟨rfl, z⟩ | ⟨ne, z⟩
        · cases z
        · rcases set_cases z with ⟨rfl, y⟩ | ⟨ne', y⟩
          · cases y
          · exact ⟨(clrE_some y).1, rfl⟩
    · have only : ∀ k rows, (((clrE s.env).set j (some (Sl.stk ((ds, none) :: rest)))).set i (some (Sl.val (.list l))))[k]? = some (some (Sl.stk rows)) → k = j ∧ rows = (ds, none) :: rest := fun k rows hk => by
        rcases set_cases hk with ⟨rfl, z⟩ | ⟨ne, z⟩
        · cases z
        · rcases set_cases z with ⟨rfl, y⟩ | ⟨ne', y⟩
          · cases y; exact ⟨rfl, rfl⟩
          · exact absurd (st.one k j _ _ (clrE_some y).1 hj) (Ne.symm ne')
      refine ⟨fun k rows hk => ?_, fun k k' rows rows' hk hk' => (only k rows hk).1.trans (only k' rows' hk').1.symm⟩
      obtain ⟨rfl, rfl⟩ := only k rows hk
      refine ⟨a, as', .ref p :: xs', h1, by rw [rm_ne haq]; exact h2, .frz ((z5.mono sb).agree fun b hb => rm_ne fun e => n3 (by rw [← e]; exact hb)), ?_, fun k' hk' => ?_⟩
      · rw [List.nodup_cons]
        exact ⟨fun hm => n1 (List.mem_cons_of_mem _ (List.mem_cons_of_mem _ hm)), by assumption⟩
      · rcases set_cases hk' with ⟨rfl, z⟩ | ⟨ne, z⟩
        · cases z
        · rcases set_cases z with ⟨rfl, y⟩ | ⟨ne', y⟩
          · cases y
          · exact absurd rfl ((clrE_some y).2 _)
theorem Wd.peek (w : Wd K io L G σ s H) (h : s.peek i = some d) : ∃ v, σ[i]? = some (some v) ∧ Rp K G H v d := by
  unfold S.peek at h
  split at h
  · rename_i d' q
    cases h
    obtain ⟨v, e, r⟩ := w.vals i _ q
    exact ⟨v, e, .fz r⟩
  · rename_i ds' q
    cases h
    obtain ⟨a, o, e, _, ha, r, _⟩ := w.owns i _ q
    cases r with
    | lst r => exact ⟨_, e, .cell ha r⟩
  · rename_i q
    cases h
    obtain ⟨a, ea, e⟩ := w.refs i q
    obtain ⟨_, _, xs, h1, h2⟩ := w.ios a ea
    exact ⟨_, e, .cell h1 h2⟩
  · rename_i j q
    split at h
    · rename_i ds l rest q2
      cases h
      obtain ⟨T, hd, w, st⟩ := w.ex
      obtain ⟨a, as, xs, h1, h2, h3, h4, h5⟩ := st.at' j _ q2
      obtain ⟨ds', l', rest', p, q', as', e1, e2, e3⟩ := h5 i q
      cases e1
      subst e2
      cases h3 with
      | cons _ _ z1 z2 _ => exact ⟨_, e3, .cell (w.loose _ _ (un_r z1 (hd _ _ z1))).2 z2⟩
    · cases h
  · cases h
end
end L3

namespace L3
open PySem L2

structure FK (K : PySem.W.Frag) (E : WW) (io : Option Addr) (L : Hp) (σ : L2.St) {β : Type} (F : Hp → Out β → Prop) : Prop where
  stuck : ∀ {G}, ¬ F G .stuck
  exc : ∀ {G c d s}, F G (.exc c d s) → Exc K E io L σ G c d s
  mono : ∀ {G G' o}, Sub G G' → F G o → F G' o
section
variable {K : PySem.W.Frag} {E : WW} {io : Option Addr} {L : Hp} {σ : L2.St}
theorem fk_fin {Q : VK} : FK K E io L σ (fun G o => Fin K E io L σ G Q o) := ⟨fun h => h, fun h => h, fun e h => h.mono e⟩
theorem fk_finT {Q : Bool → Hp → Prop} : FK K E io L σ (fun G o => FinT K E io L σ G Q o) := ⟨fun h => h, fun h => h, fun e h => h.mono e⟩
end

structure SE {ι : Type} (X : ι → Cx) (K : PySem.W.Frag) (E : WW) (e : Expr) (f : M R) : Prop where
  ex : ∃ t, (∀ i, PE (X i) e t) ∧ ∀ io L G σ s H Q, Wd K io L G σ s H → Fin K E io L σ G Q (f s) → t σ H Q
structure SV {ι : Type} (X : ι → Cx) (K : PySem.W.Frag) (E : WW) (e : Expr) (f : M D) : Prop where
  ex : ∃ t, (∀ i, PE (X i) e t) ∧ ∀ io L G σ s H Q, Wd K io L G σ s H → FinV K E io L σ G Q (f s) → t σ H Q
structure ST {ι : Type} (X : ι → Cx) (K : PySem.W.Frag) (E : WW) (e : Expr) (f : M Bool) : Prop where
  ex : ∃ t, (∀ i, PT (X i) e t) ∧ ∀ io L G σ s H Q, Wd K io L G σ s H → FinT K E io L σ G Q (f s) → t σ H Q

section
variable {ι : Type} {X : ι → Cx} {K : PySem.W.Frag} {E : WW} {e : Expr}
theorem SV.use {f : M D} (h : SV X K E e f) : ∃ t, (∀ i, PE (X i) e t) ∧ ∀ {β : Type} {F : Hp → Out β → Prop} {k : D → M β} {io L G σ s H} {Q : VK}, FK K E io L σ F → Wd K io L G σ s H → F G (mbind f k s) →
    (∀ v d s' G' H', Sub G G' → Wd K io L G' σ s' H' → Dq K G' v d → F G' (k d s') → Q v H') → t σ H Q := by
  obtain ⟨t, pe, h⟩ := h.ex
  refine ⟨t, pe, fun {β F k io L G σ s H Q} fk w hf hq => h io L G σ s H Q w ?_⟩
  unfold mbind at hf
  cases e : f s with
  | stuck => rw [e] at hf; exact fk.stuck hf
  | ok d s' => rw [e] at hf; exact fun v G' H' sb w' dp => hq v d s' G' H' sb w' dp (fk.mono sb hf)
  | exc c d s' => rw [e] at hf; exact fk.exc hf
theorem ST.use {f : M Bool} (h : ST X K E e f) : ∃ t, (∀ i, PT (X i) e t) ∧ ∀ {β : Type} {F : Hp → Out β → Prop} {k : Bool → M β} {io L G σ s H} {Q : Bool → Hp → Prop}, FK K E io L σ F → Wd K io L G σ s H → F G (mbind f k s) →
    (∀ b s' G' H', Sub G G' → Wd K io L G' σ s' H' → F G' (k b s') → Q b H') → t σ H Q := by
  obtain ⟨t, pe, h⟩ := h.ex
  refine ⟨t, pe, fun {β F k io L G σ s H Q} fk w hf hq => h io L G σ s H Q w ?_⟩
  unfold mbind at hf
  cases e : f s with
  | stuck => rw [e] at hf; exact fk.stuck hf
  | ok d s' => rw [e] at hf; exact fun G' H' sb w' => hq d s' G' H' sb w' (fk.mono sb hf)
  | exc c d s' => rw [e] at hf; exact fk.exc hf
def toD : R → M D
  | .val d => mret d
  | .new (.lst ds) => mret (.list ds)
  | .new (.ts ks) => mret (tsD ks)
  | .new _ => mstuck
def frz (f : M R) : M D := mbind f toD
theorem sv_of {f : M R} (h : SE X K E e f) : SV X K E e (frz f) := by
  obtain ⟨t, pe, h⟩ := h.ex
  refine ⟨t, pe, fun io L G σ s H Q w hf => h io L G σ s H Q w ?_⟩
  unfold frz mbind at hf
  cases e : f s with
  | stuck => rw [e] at hf; exact hf
  | exc c d s' => rw [e] at hf; exact hf
  | ok r s' =>
    rw [e] at hf
    match r, hf with
    | .val d, hf => exact hf
    | .new (.lst ds), hf =>
      intro a o G' H' sb hL w' rc
      obtain ⟨sb', w2, dp⟩ := w'.frzD hL rc
      exact hf _ _ _ (sb.trans sb') w2 dp
    | .new (.ts ks), hf =>
      intro a o G' H' sb hL w' rc
      obtain ⟨sb', w2, dp⟩ := w'.frzT hL rc
      exact hf _ _ _ (sb.trans sb') w2 dp
    | .new (.dct _), hf => exact False.elim hf
def val (f : M D) : M R := mbind f fun d => mret (.val d)
theorem se_val {f : M D} (h : SV X K E e f) : SE X K E e (val f) := by
  obtain ⟨t, pe, h⟩ := h.use
  exact ⟨t, pe, fun io L G σ s H Q w hf => h (fk_fin (Q := Q)) w hf fun v d s' G' H' sb w' dp q => q v G' H' (Sub.refl _) w' dp⟩

def eC (d : D) : M R := mret (.val d)
def eVar (i : Nat) : M R := fun s => match s.env[i]? with
  | some (some (Sl.val d)) => .ok (.val d) s
  | some (some (Sl.own (C.lst ds))) => .ok (.val (.list ds)) (s.setv i (.list ds))
  | some (some (Sl.own (C.ts ks))) => .ok (.val (tsD ks)) (s.setv i (tsD ks))
  | some (some (Sl.top j)) => match s.env[j]? with
    | some (some (Sl.stk ((ds, some l) :: rest))) => .ok (.val (.list l)) (s.frzTop i j ds l rest)
    | _ => .stuck
  | _ => .stuck
def eMove (i : Nat) : M R := fun s => match s.env[i]? with
  | some (some (Sl.val d)) => .ok (.val d) s
  | some (some (Sl.own c)) => .ok (.new c) (s.drop i)
  | _ => .stuck
theorem se_c {d : D} {v : V} (h : ∀ z, PE (X z) e (tC v)) (r : ∀ G, Dq K G v d) : SE X K E e (eC d) :=
  ⟨_, h, fun io L G σ s H Q w hf => hf v G H (Sub.refl _) w (r G)⟩
theorem se_var {i : Nat} (h : ∀ z, PE (X z) e (tVar i)) : SE X K E e (eVar i) := by
  refine ⟨_, h, fun io L G σ s H Q w hf => ?_⟩
  unfold eVar at hf
  split at hf
  · rename_i d q
    obtain ⟨v, e1, r⟩ := w.vals i d q
    exact ⟨v, e1, hf v G H (Sub.refl _) w r⟩
  · rename_i ds q
    obtain ⟨a, G', e1, sb, w', dp⟩ := w.frzSlot q
    exact ⟨_, e1, hf _ G' H sb w' dp⟩
  · rename_i ks q
    obtain ⟨a, G', e1, sb, w', dp⟩ := w.frzSlotT q
    exact ⟨_, e1, hf _ G' H sb w' dp⟩
  · rename_i j q
    split at hf
    · rename_i ds l rest q2
      obtain ⟨a, G', e1, sb, w', dp⟩ := w.frzTop q q2
      exact ⟨_, e1, hf _ G' H sb w' dp⟩
    · exact hf.elim
  · exact hf.elim
theorem se_move {i : Nat} (h : ∀ z, PE (X z) e (tVar i)) : SE X K E e (eMove i) := by
  refine ⟨_, h, fun io L G σ s H Q w hf => ?_⟩
  unfold eMove at hf
  split at hf
  · rename_i d q
    obtain ⟨v, e1, r⟩ := w.vals i d q
    exact ⟨v, e1, hf v G H (Sub.refl _) w r⟩
  · rename_i c q
    obtain ⟨a, o, e1, r, l, w'⟩ := w.moved q
    exact ⟨_, e1, hf a o G H (Sub.refl _) l w' r⟩
  · exact hf.elim

inductive Hd | var (i : Nat) | d (x : D)
inductive Opd | var (i : Nat) | ex (f : M D)
def rsv {β : Type} (h : Hd) (k : D → M β) : M β := match h with
  | .var i => fun s => match s.peek i with
    | some x => k x s
    | none => .stuck
  | .d x => k x
def opS {β : Type} (o : Opd) (k : Hd → M β) : M β := match o with
  | .var i => fun s => match s.peek i with
    | some _ => k (.var i) s
    | none => .stuck
  | .ex f => mbind f fun x => k (.d x)
inductive HR (K : PySem.W.Frag) (G : Hp) (σ : L2.St) (v : V) : Hd → Prop
  | var {i : Nat} : σ[i]? = some (some v) → HR K G σ v (.var i)
  | d {x : D} : Dq K G v x → HR K G σ v (.d x)
theorem HR.mono {K : PySem.W.Frag} {G G' : Hp} {σ : L2.St} {v : V} {h : Hd} (e : Sub G G') (r : HR K G σ v h) : HR K G' σ v h := by
  cases r with
  | var q => exact .var q
  | d q => exact .d (e.dp q)
theorem HR.use {K : PySem.W.Frag} {io : Option Addr} {L G H : Hp} {σ : L2.St} {s : S} {v : V} {h : Hd} {β : Type} {F : Hp → Out β → Prop} {k : D → M β} (fk : FK K E io L σ F) (w : Wd K io L G σ s H) (r : HR K G σ v h) (hf : F G (rsv h k s)) :
    ∃ x, Rp K G H v x ∧ F G (k x s) := by
  cases r with
  | var q =>
    rename_i i
    have hf' : F G (match s.peek i with | some x => k x s | none => .stuck) := hf
    cases e : s.peek i with
    | none => rw [e] at hf'; exact (fk.stuck hf').elim
    | some x =>
      rw [e] at hf'
      obtain ⟨v', e1, r⟩ := w.peek e
      rw [q] at e1; cases e1
      exact ⟨x, r, hf'⟩
  | d q => exact ⟨_, .fz q, hf⟩
structure SO {ι : Type} (X : ι → Cx) (K : PySem.W.Frag) (E : WW) (e : Expr) (o : Opd) : Prop where
  ex : ∃ t, (∀ i, PE (X i) e t) ∧ ∀ {β : Type} {F : Hp → Out β → Prop} {k : Hd → M β} {io L G σ s H} {Q : VK}, FK K E io L σ F → Wd K io L G σ s H → F G (opS o k s) →
    (∀ v h s' G' H', Sub G G' → Wd K io L G' σ s' H' → HR K G' σ v h → F G' (k h s') → Q v H') → t σ H Q
theorem so_var {i : Nat} (h : ∀ z, PE (X z) e (tVar i)) : SO X K E e (.var i) := by
  refine ⟨_, h, fun {β F k io L G σ s H Q} fk w hf hq => ?_⟩
  have hf' : F G (match s.peek i with | some _ => k (.var i) s | none => .stuck) := hf
  cases e : s.peek i with
  | none => rw [e] at hf'; exact (fk.stuck hf').elim
  | some x =>
    rw [e] at hf'
    obtain ⟨v, e1, _⟩ := w.peek e
    exact ⟨v, e1, hq v _ s G H (Sub.refl _) w (.var e1) hf'⟩
theorem so_ex {f : M D} (h : SV X K E e f) : SO X K E e (.ex f) := by
  obtain ⟨t, pe, h⟩ := h.use
  exact ⟨t, pe, fun {β F k io L G σ s H Q} fk w hf hq => h fk w hf fun v d s' G' H' sb w' dp q => hq v _ s' G' H' sb w' (.d dp) q⟩

def ops {β : Type} : List Opd → (List D → M β) → M β
  | [], k => k []
  | o :: os, k => opS o fun h => ops os fun ds => rsv h fun x => k (x :: ds)
def evs {β : Type} : List (M D) → (List D → M β) → M β
  | [], k => k []
  | f :: fs, k => mbind f fun x => evs fs fun xs => k (x :: xs)
inductive RpAll (K : PySem.W.Frag) (G H : Hp) : List V → List D → Prop
  | nil : RpAll K G H [] []
  | cons {v : V} {d : D} {vs : List V} {ds : List D} : Rp K G H v d → RpAll K G H vs ds → RpAll K G H (v :: vs) (d :: ds)
theorem rpAll1 {K : PySem.W.Frag} {G H : Hp} {vs : List V} {d : D} (h : RpAll K G H vs [d]) : ∃ v, vs = [v] ∧ Rp K G H v d := by
  cases h with
  | cons a b => cases b; exact ⟨_, rfl, a⟩
theorem rpAll2 {K : PySem.W.Frag} {G H : Hp} {vs : List V} {d e : D} (h : RpAll K G H vs [d, e]) : ∃ v u, vs = [v, u] ∧ Rp K G H v d ∧ Rp K G H u e := by
  cases h with
  | cons a b =>
    obtain ⟨u, rfl, r⟩ := rpAll1 b
    exact ⟨_, u, rfl, a, r⟩
structure SA {ι : Type} (X : ι → Cx) (K : PySem.W.Frag) (E : WW) (es : List Expr) (os : List Opd) : Prop where
  ex : ∃ t, (∀ i, PA (X i) es t) ∧ ∀ {β : Type} {F : Hp → Out β → Prop} {k : List D → M β} {io L G σ s H} {Q : List V → Hp → Prop}, FK K E io L σ F → Wd K io L G σ s H → F G (ops os k s) →
    (∀ vs ds s' G' H', Sub G G' → Wd K io L G' σ s' H' → RpAll K G' H' vs ds → F G' (k ds s') → Q vs H') → t σ H Q
theorem sa_nil : SA X K E [] [] := ⟨_, fun _ => pa_nil, fun {β F k io L G σ s H Q} fk w hf hq => hq [] [] s G H (Sub.refl _) w .nil hf⟩
theorem sa_cons {es : List Expr} {o : Opd} {os : List Opd} (h1 : SO X K E e o) (h2 : SA X K E es os) (hs : ∀ z, starEach (e :: es) (X z).env = (false, eval e (X z).env) :: starEach es (X z).env := by intro _; rfl) : SA X K E (e :: es) (o :: os) := by
  obtain ⟨t, pe, h1⟩ := h1.ex
  obtain ⟨u, pa, h2⟩ := h2.ex
  refine ⟨_, fun z => pa_cons (pe z) (pa z) (hs z), fun {β F k io L G σ s H Q} fk w hf hq => ?_⟩
  refine h1 fk w hf fun v h s1 G1 H1 sb1 w1 hr f1 => ?_
  refine h2 fk w1 f1 fun vs ds s2 G2 H2 sb2 w2 rs f2 => ?_
  obtain ⟨x, rp, f3⟩ := (hr.mono sb2).use fk w2 f2
  exact hq _ _ s2 G2 H2 (sb1.trans sb2) w2 (.cons rp rs) f3
structure SAv {ι : Type} (X : ι → Cx) (K : PySem.W.Frag) (E : WW) (es : List Expr) (fs : List (M D)) : Prop where
  ex : ∃ t, (∀ i, PA (X i) es t) ∧ ∀ {β : Type} {F : Hp → Out β → Prop} {k : List D → M β} {io L G σ s H} {Q : List V → Hp → Prop}, FK K E io L σ F → Wd K io L G σ s H → F G (evs fs k s) →
    (∀ vs ds s' G' H', Sub G G' → Wd K io L G' σ s' H' → DqAll K G' vs ds → ds.length = fs.length → F G' (k ds s') → Q vs H') → t σ H Q
theorem sav_nil : SAv X K E [] [] := ⟨_, fun _ => pa_nil, fun {β F k io L G σ s H Q} fk w hf hq => hq [] [] s G H (Sub.refl _) w .nil rfl hf⟩
theorem sav_cons {es : List Expr} {f : M D} {fs : List (M D)} (h1 : SV X K E e f) (h2 : SAv X K E es fs) (hs : ∀ z, starEach (e :: es) (X z).env = (false, eval e (X z).env) :: starEach es (X z).env := by intro _; rfl) : SAv X K E (e :: es) (f :: fs) := by
  obtain ⟨t, pe, h1⟩ := h1.use
  obtain ⟨u, pa, h2⟩ := h2.ex
  refine ⟨_, fun z => pa_cons (pe z) (pa z) (hs z), fun {β F k io L G σ s H Q} fk w hf hq => ?_⟩
  refine h1 fk w hf fun v d s1 G1 H1 sb1 w1 dp f1 => ?_
  refine h2 fk w1 f1 fun vs ds s2 G2 H2 sb2 w2 rs hl f2 => ?_
  exact hq _ _ s2 G2 H2 (sb1.trans sb2) w2 (.cons (sb2.dp dp) rs) (congrArg Nat.succ hl) f2

inductive PO | d (x : D) | l (xs : List D) | t (xs : List D)
def PO.r : PO → R
  | .d x => .val x
  | .l xs => .new (.lst xs)
  | .t xs => .val (.tuple xs)
def Ret (K : PySem.W.Frag) (G H : Hp) (Q : VK) : PO → Prop
  | .d x => ∀ v, Dq K G v x → Q v H
  | .l xs => ∀ a vs, H a = none → DqAll K G vs xs → Q (.ref a) (upd H a (.lst vs))
  | .t xs => (∀ v, Dq K G v (.tuple xs) → Q v H) ∧ ∀ a vs, H a = none → DqAll K G vs xs → Q (.ref a) (upd H a (.tup vs))
def Prim (K : PySem.W.Frag) (r : List V → Hp → VK → Prop) (p : List D → Option PO) : Prop :=
  ∀ G H vs ds x Q, Sub G H → RpAll K G H vs ds → p ds = some x → Ret K G H Q x → r vs H Q
def Prim2 (K : PySem.W.Frag) (r : R2) (p : D → D → Option PO) : Prop :=
  ∀ G H v u x y z Q, Sub G H → Rp K G H v x → Rp K G H u y → p x y = some z → Ret K G H Q z → r v u H Q
def mpo : Option PO → M R
  | some x => mret x.r
  | none => mstuck
theorem ret_fin {K : PySem.W.Frag} {E : WW} {io : Option Addr} {L G H : Hp} {σ : L2.St} {s : S} {Q : VK} {x : PO} (w : Wd K io L G σ s H) (h : Fin K E io L σ G Q (.ok x.r s)) : Ret K G H Q x := by
  match x, h with
  | .d x, h => exact fun v dp => h v G H (Sub.refl _) w dp
  | .l xs, h =>
    intro a vs hn r
    obtain ⟨hL, w'⟩ := w.fresh (o := .lst vs) hn
    exact h a _ G _ (Sub.refl _) hL w' (.lst r)
  | .t xs, h =>
    refine ⟨fun v dp => h v G H (Sub.refl _) w dp, fun a vs hn r => ?_⟩
    have sb : Sub G (upd G a (.tup vs)) := Sub.new (w.sub.none hn)
    exact h _ _ _ sb (w.grow hn) (.tup (SqT.of upd_same) (sb.dpAll r))
theorem mpo_fin {K : PySem.W.Frag} {E : WW} {io : Option Addr} {L G H : Hp} {σ : L2.St} {s : S} {Q : VK} {x : Option PO} (w : Wd K io L G σ s H) (h : Fin K E io L σ G Q (mpo x s)) : ∃ y, x = some y ∧ Ret K G H Q y := by
  cases x with
  | none => exact h.elim
  | some y => exact ⟨y, rfl, ret_fin w h⟩
def eP (os : List Opd) (p : List D → Option PO) : M R := ops os fun ds => mpo (p ds)
theorem se_prim {es : List Expr} {os : List Opd} {r : List V → Hp → VK → Prop} {p : List D → Option PO} (ha : SA X K E es os) (hp : ∀ t, (∀ z, PA (X z) es t) → ∀ z, PE (X z) e (tCB r t)) (pr : Prim K r p) : SE X K E e (eP os p) := by
  obtain ⟨t, pa, h⟩ := ha.ex
  refine ⟨_, hp t pa, fun io L G σ s H Q w hf => ?_⟩
  refine h (fk_fin (Q := Q)) w hf fun vs ds s' G' H' sb w' rs f => ?_
  obtain ⟨y, e, rt⟩ := mpo_fin w' f
  exact pr G' H' vs ds y Q w'.sub rs e rt
def e2 (a b : Opd) (p : D → D → Option PO) : M R := opS a fun h => opS b fun g => rsv h fun x => rsv g fun y => mpo (p x y)
theorem se_op2 {a b : Expr} {oa ob : Opd} {r : R2} {p : D → D → Option PO} (h1 : SO X K E a oa) (h2 : SO X K E b ob) (hp : ∀ ta tb, (∀ z, PE (X z) a ta) → (∀ z, PE (X z) b tb) → ∀ z, PE (X z) e (tOp r ta tb)) (pr : Prim2 K r p) : SE X K E e (e2 oa ob p) := by
  obtain ⟨t, pe1, h1⟩ := h1.ex
  obtain ⟨u, pe2, h2⟩ := h2.ex
  refine ⟨_, hp t u pe1 pe2, fun io L G σ s H Q w hf => ?_⟩
  refine h1 (fk_fin (Q := Q)) w hf fun v h s1 G1 H1 sb1 w1 hr f1 => ?_
  refine h2 (fk_fin (Q := Q)) w1 f1 fun v' g s2 G2 H2 sb2 w2 hr2 f2 => ?_
  obtain ⟨x, rx, f3⟩ := (hr.mono sb2).use fk_fin w2 f2
  obtain ⟨y, ry, f4⟩ := hr2.use fk_fin w2 f3
  obtain ⟨z, e, rt⟩ := mpo_fin w2 f4
  exact pr G2 H2 v v' x y z Q w2.sub rx ry e rt
def t2 (a b : Opd) (p : D → D → Option Bool) : M Bool := opS a fun h => opS b fun g => rsv h fun x => rsv g fun y => match p x y with
  | some c => mret c
  | none => mstuck
theorem st_op2 {a b : Expr} {oa ob : Opd} {r : R2} {p : D → D → Option Bool} (h1 : SO X K E a oa) (h2 : SO X K E b ob) (hp : ∀ ta tb, (∀ z, PE (X z) a ta) → (∀ z, PE (X z) b tb) → ∀ z, PT (X z) e (tTest (tOp r ta tb))) (pr : Prim2 K r (fun x y => (p x y).map fun c => .d (.bool c))) : ST X K E e (t2 oa ob p) := by
  obtain ⟨t, pe1, h1⟩ := h1.ex
  obtain ⟨u, pe2, h2⟩ := h2.ex
  refine ⟨_, hp t u pe1 pe2, fun io L G σ s H Q w hf => ?_⟩
  refine h1 (fk_finT (Q := Q)) w hf fun v h s1 G1 H1 sb1 w1 hr f1 => ?_
  refine h2 (fk_finT (Q := Q)) w1 f1 fun v' g s2 G2 H2 sb2 w2 hr2 f2 => ?_
  obtain ⟨x, rx, f3⟩ := (hr.mono sb2).use fk_finT w2 f2
  obtain ⟨y, ry, f4⟩ := hr2.use fk_finT w2 f3
  cases e : p x y with
  | none => rw [e] at f4; exact (FK.stuck fk_finT f4).elim
  | some c =>
    rw [e] at f4
    refine pr G2 H2 v v' x y (.d (.bool c)) _ w2.sub rx ry (by show Option.map _ (p x y) = _; rw [e]; rfl) ?_
    intro vb dp
    cases dp
    exact ⟨c, rfl, f4 G2 H2 (Sub.refl _) w2⟩
def e1 (a : Opd) (p : D → Option PO) : M R := opS a fun h => rsv h fun x => mpo (p x)
def Prim1 (K : PySem.W.Frag) (r : V → Hp → VK → Prop) (p : D → Option PO) : Prop :=
  ∀ G H v x z Q, Sub G H → Rp K G H v x → p x = some z → Ret K G H Q z → r v H Q
theorem se_op1 {a : Expr} {oa : Opd} {r : V → Hp → VK → Prop} {p : D → Option PO} (h1 : SO X K E a oa) (hp : ∀ ta, (∀ z, PE (X z) a ta) → ∀ z, PE (X z) e (tUn r ta)) (pr : Prim1 K r p) : SE X K E e (e1 oa p) := by
  obtain ⟨t, pe1, h1⟩ := h1.ex
  refine ⟨_, hp t pe1, fun io L G σ s H Q w hf => ?_⟩
  refine h1 (fk_fin (Q := Q)) w hf fun v h s1 G1 H1 sb1 w1 hr f1 => ?_
  obtain ⟨x, rx, f3⟩ := hr.use fk_fin w1 f1
  obtain ⟨z, e, rt⟩ := mpo_fin w1 f3
  exact pr G1 H1 v x z Q w1.sub rx e rt

def eTup (fs : List (M D)) : M R := evs fs fun ds => if ds.length ≤ sizeLine then mret (.val (.tuple ds)) else mstuck
def eLst (fs : List (M D)) : M R := evs fs fun ds => if ds.length ≤ sizeLine then mret (.new (.lst ds)) else mstuck
theorem se_tup {es : List Expr} {fs : List (M D)} {x1 pos} (ha : SAv X K E es fs) : SE X K E (.Tuple es x1 pos) (eTup fs) := by
  obtain ⟨t, pa, h⟩ := ha.ex
  refine ⟨_, fun z => pe_tup (pa z), fun io L G σ s H Q w hf => ?_⟩
  refine h (fk_fin (Q := Q)) w hf fun vs ds s' G' H' sb w' rs _ f => ?_
  split at f
  · rename_i hl
    refine ⟨by rw [rs.length]; exact hl, fun p hp => ?_⟩
    exact (ret_fin (x := .t ds) w' f).2 p vs hp rs
  · exact f.elim
theorem se_lst {es : List Expr} {fs : List (M D)} {pos} (ha : SAv X K E es fs) : SE X K E (.List es pos) (eLst fs) := by
  obtain ⟨t, pa, h⟩ := ha.ex
  refine ⟨_, fun z => pe_lst (pa z), fun io L G σ s H Q w hf => ?_⟩
  refine h (fk_fin (Q := Q)) w hf fun vs ds s' G' H' sb w' rs _ f => ?_
  split at f
  · rename_i hl
    refine ⟨by rw [rs.length]; exact hl, fun p hp => ?_⟩
    exact ret_fin (x := .l ds) w' f p vs hp rs
  · exact f.elim

def eIf {α : Type} (c : M Bool) (a b : M α) : M α := mbind c fun x => if x then a else b
theorem se_if {c a b : Expr} {pos} {fc : M Bool} {fa fb : M R} (hc : ST X K E c fc) (ha : SE X K E a fa) (hb : SE X K E b fb) : SE X K E (.IfExp c a b pos) (eIf fc fa fb) := by
  obtain ⟨t, pt, h⟩ := hc.use
  obtain ⟨ta, pa, h1⟩ := ha.ex
  obtain ⟨tb, pb, h2⟩ := hb.ex
  refine ⟨_, fun z => pe_ifExp (pt z) (pa z) (pb z), fun io L G σ s H Q w hf => ?_⟩
  refine h (fk_fin (Q := Q)) w hf fun b s' G' H' sb w' f => ?_
  cases b with
  | true => exact iteT (h1 io L G' σ s' H' Q w' f)
  | false => exact iteF (h2 io L G' σ s' H' Q w' f)
def isB : D → M Bool
  | .bool b => mret b
  | _ => mstuck
def tB (f : M D) : M Bool := mbind f isB
theorem st_val {f : M D} (h : SV X K E e f) (he : ∀ z whole, isTrue e (X z).env whole = (do let v ← whole; standAt e.pos; holding [v] (truthy v)) := by intro _ _; rfl) : ST X K E e (tB f) := by
  obtain ⟨t, pe, h⟩ := h.use
  refine ⟨_, fun z => pt_val (pe z) (he z), fun io L G σ s H Q w hf => ?_⟩
  refine h (fk_finT (Q := Q)) w hf fun v d s' G' H' sb w' dp f => ?_
  match d, dp, f with
  | .bool b, dp, f => cases dp; exact ⟨b, rfl, f G' H' (Sub.refl _) w'⟩
def ofB (f : M Bool) : M R := mbind f fun b => mret (.val (.bool b))
def tAnd (a b : M Bool) : M Bool := mbind a fun x => if x then b else mret false
def tOr (a b : M Bool) : M Bool := mbind a fun x => if x then mret true else b
def tNot (a : M Bool) : M Bool := mbind a fun x => mret (!x)
structure SW {ι : Type} (X : ι → Cx) (K : PySem.W.Frag) (E : WW) (e : Expr) (f : M Bool) : Prop where
  ex : ∃ t, (∀ i, PW (X i) e t) ∧ ∀ io L G σ s H Q, Wd K io L G σ s H → FinT K E io L σ G Q (f s) → t σ H Q
theorem SW.st {f : M Bool} (h : SW X K E e f) : ST X K E e f := let ⟨t, p, q⟩ := h.ex; ⟨t, fun z => (p z).pt, q⟩
section
variable {a b : Expr} {rest : List Expr} {pos : Pos} {fa fb : M Bool}
theorem sw_and1 (h : ST X K E a fa) : SW X K E (.BoolOp .And [a] pos) fa := let ⟨t, p, q⟩ := h.ex; ⟨t, fun z => pw_and1 (p z), q⟩
theorem sw_or1 (h : ST X K E a fa) : SW X K E (.BoolOp .Or [a] pos) fa := let ⟨t, p, q⟩ := h.ex; ⟨t, fun z => pw_or1 (p z), q⟩
theorem sw_and (h : ST X K E a fa) (h2 : SW X K E (.BoolOp .And (b :: rest) pos) fb) : SW X K E (.BoolOp .And (a :: b :: rest) pos) (tAnd fa fb) := by
  obtain ⟨t, p, h⟩ := h.use
  obtain ⟨u, p2, h2⟩ := h2.ex
  refine ⟨_, fun z => pw_and (p z) (p2 z), fun io L G σ s H Q w hf => ?_⟩
  refine h (fk_finT (Q := Q)) w hf fun b s' G' H' sb w' f => ?_
  cases b with
  | true => exact iteT (h2 io L G' σ s' H' Q w' f)
  | false => exact iteF (f G' H' (Sub.refl _) w')
theorem sw_or (h : ST X K E a fa) (h2 : SW X K E (.BoolOp .Or (b :: rest) pos) fb) : SW X K E (.BoolOp .Or (a :: b :: rest) pos) (tOr fa fb) := by
  obtain ⟨t, p, h⟩ := h.use
  obtain ⟨u, p2, h2⟩ := h2.ex
  refine ⟨_, fun z => pw_or (p z) (p2 z), fun io L G σ s H Q w hf => ?_⟩
  refine h (fk_finT (Q := Q)) w hf fun b s' G' H' sb w' f => ?_
  cases b with
  | true => exact iteT (f G' H' (Sub.refl _) w')
  | false => exact iteF (h2 io L G' σ s' H' Q w' f)
theorem st_not (h : ST X K E a fa) : ST X K E (.UnaryOp .Not a pos) (tNot fa) := by
  obtain ⟨t, p, h⟩ := h.use
  refine ⟨_, fun z => pt_not (p z), fun io L G σ s H Q w hf => ?_⟩
  exact h (fk_finT (Q := Q)) w hf fun b s' G' H' sb w' f => f G' H' (Sub.refl _) w'
def vAnd (a : M D) (b : M R) : M R := mbind (tB a) fun x => if x then b else mret (.val (.bool false))
def vOr (a : M D) (b : M R) : M R := mbind (tB a) fun x => if x then mret (.val (.bool true)) else b
def vNot (a : M D) : M R := mbind (tB a) fun x => mret (.val (.bool (!x)))
theorem se_one {op} {f : M R} (h : SE X K E a f) : SE X K E (.BoolOp op [a] pos) f := let ⟨t, p, q⟩ := h.ex; ⟨t, fun z => pe_one (p z), q⟩
theorem tB_use {β : Type} {f : M D} {k : Bool → M β} {s : S} {F : Hp → Out β → Prop} {G : Hp} (h : F G (mbind (tB f) k s)) : F G (mbind f (fun d => mbind (isB d) k) s) := by
  have e : mbind (tB f) k s = mbind f (fun d => mbind (isB d) k) s := by
    unfold tB mbind
    cases f s <;> rfl
  rw [e] at h; exact h
theorem se_and {f : M D} {g : M R} (h : SV X K E a f) (h2 : SE X K E (.BoolOp .And (b :: rest) pos) g) : SE X K E (.BoolOp .And (a :: b :: rest) pos) (vAnd f g) := by
  obtain ⟨t, p, h⟩ := h.use
  obtain ⟨u, p2, h2⟩ := h2.ex
  refine ⟨_, fun z => pe_and (p z) (p2 z), fun io L G σ s H Q w hf => ?_⟩
  refine h (fk_fin (Q := Q)) w (tB_use (F := fun G o => Fin K E io L σ G Q o) hf) fun v d s' G' H' sb w' dp f => ?_
  match d, dp, f with
  | .bool b, dp, f =>
    cases dp
    refine ⟨b, rfl, ?_⟩
    cases b with
    | true => exact iteT (h2 io L G' σ s' H' Q w' f)
    | false => exact iteF (f _ G' H' (Sub.refl _) w' (.bl false))
theorem se_or {f : M D} {g : M R} (h : SV X K E a f) (h2 : SE X K E (.BoolOp .Or (b :: rest) pos) g) : SE X K E (.BoolOp .Or (a :: b :: rest) pos) (vOr f g) := by
  obtain ⟨t, p, h⟩ := h.use
  obtain ⟨u, p2, h2⟩ := h2.ex
  refine ⟨_, fun z => pe_or (p z) (p2 z), fun io L G σ s H Q w hf => ?_⟩
  refine h (fk_fin (Q := Q)) w (tB_use (F := fun G o => Fin K E io L σ G Q o) hf) fun v d s' G' H' sb w' dp f => ?_
  match d, dp, f with
  | .bool b, dp, f =>
    cases dp
    refine ⟨b, rfl, ?_⟩
    cases b with
    | true => exact iteT (f _ G' H' (Sub.refl _) w' (.bl true))
    | false => exact iteF (h2 io L G' σ s' H' Q w' f)
theorem se_not {f : M D} (h : SV X K E a f) : SE X K E (.UnaryOp .Not a pos) (vNot f) := by
  obtain ⟨t, p, h⟩ := h.use
  refine ⟨_, fun z => pe_not (p z), fun io L G σ s H Q w hf => ?_⟩
  refine h (fk_fin (Q := Q)) w (tB_use (F := fun G o => Fin K E io L σ G Q o) hf) fun v d s' G' H' sb w' dp f => ?_
  match d, dp, f with
  | .bool b, dp, f =>
    cases dp
    exact ⟨b, rfl, f _ G' H' (Sub.refl _) w' (.bl _)⟩
end
end
end L3

namespace L3
open PySem L2

inductive Fl | nx | rt (r : R) | bk | ct
def ExcS (K : PySem.W.Frag) (E : WW) (io : Option Addr) (L : Hp) (G0 : Hp) (c : Str) (d : D) (s : S) : Prop := ∀ σ, Exc K E io L σ G0 c d s
def FinS (K : PySem.W.Frag) (E : WW) (io : Option Addr) (L : Hp) (G0 : Hp) (A : Ends) : Out Fl → Prop
  | .stuck => False
  | .ok .nx s => ∀ σ G H, Sub G0 G → Wd K io L G σ s H → A.nx σ H
  | .ok .bk s => ∀ σ G H, Sub G0 G → Wd K io L G σ s H → A.bk σ H
  | .ok .ct s => ∀ σ G H, Sub G0 G → Wd K io L G σ s H → A.ct σ H
  | .ok (.rt (.val d)) s => ∀ v σ G H, Sub G0 G → Wd K io L G σ s H → Dq K G v d → A.rt v H
  | .ok (.rt (.new c)) s => ∀ a o σ G H, Sub G0 G → L a = none → Wd K io (upd L a o) G σ s H → RepC K G a o c → A.rt (.ref a) H
  | .exc c d s => ExcS K E io L G0 c d s
section
variable {K : PySem.W.Frag} {E : WW} {io : Option Addr} {L : Hp} {G G0 : Hp} {A B : Ends}
theorem FinS.mono {o : Out Fl} (e : Sub G0 G) (h : FinS K E io L G0 A o) : FinS K E io L G A o := by
  match o, h with
  | .ok .nx s, h => exact fun σ G' H q => h σ G' H (e.trans q)
  | .ok .bk s, h => exact fun σ G' H q => h σ G' H (e.trans q)
  | .ok .ct s, h => exact fun σ G' H q => h σ G' H (e.trans q)
  | .ok (.rt (.val d)) s, h => exact fun v σ G' H q => h v σ G' H (e.trans q)
  | .ok (.rt (.new c)) s, h => exact fun a o σ G' H q => h a o σ G' H (e.trans q)
  | .exc c d s, h => exact fun σ => Exc.mono (s := s) e (h σ)
theorem fk_finS {σ : L2.St} : FK K E io L σ (fun G o => FinS K E io L G A o) := ⟨fun h => h, fun h => h σ, fun e h => h.mono e⟩
end
structure SS {ι : Type} (X : ι → Cx) (K : PySem.W.Frag) (E : WW) (e : Stmt) (f : M Fl) : Prop where
  ex : ∃ t, (∀ i, PS (X i) e t) ∧ ∀ io L G σ s H A, Wd K io L G σ s H → FinS K E io L G A (f s) → t A σ H
structure SB {ι : Type} (X : ι → Cx) (K : PySem.W.Frag) (E : WW) (e : List Stmt) (f : M Fl) : Prop where
  ex : ∃ t, (∀ i, PSs (X i) e t) ∧ ∀ io L G σ s H A, Wd K io L G σ s H → FinS K E io L G A (f s) → t A σ H
def sNil : M Fl := mret .nx
def sSeq (f g : M Fl) : M Fl := mbind f fun x => match x with
  | .nx => g
  | y => mret y
section
variable {ι : Type} {X : ι → Cx} {K : PySem.W.Frag} {E : WW} {st : Stmt} {rest : List Stmt} {f g : M Fl}
theorem sb_nil : SB X K E [] sNil := ⟨_, fun _ => pss_nil, fun io L G σ s H A w hf => hf σ G H (Sub.refl _) w⟩
theorem sb_one (h : SS X K E st f) : SB X K E [st] f := let ⟨t, p, q⟩ := h.ex; ⟨t, fun z => pss_one (p z), q⟩
theorem sb_cons (h1 : SS X K E st f) (h2 : SB X K E rest g) : SB X K E (st :: rest) (sSeq f g) := by
  obtain ⟨t, p, h1⟩ := h1.ex
  obtain ⟨u, p2, h2⟩ := h2.ex
  refine ⟨_, fun z => pss_cons (p z) (p2 z), fun io L G σ s H A w hf => ?_⟩
  refine h1 io L G σ s H { A with nx := u A } w ?_
  unfold sSeq mbind at hf
  cases e : f s with
  | stuck => rw [e] at hf; exact hf
  | exc c d s' => rw [e] at hf; exact hf
  | ok fl s' =>
    rw [e] at hf
    match fl, hf with
    | .nx, hf => exact fun σ' G' H' sb w' => h2 io L G' σ' s' H' A w' (FinS.mono sb hf)
    | .bk, hf => exact hf
    | .ct, hf => exact hf
    | .rt (.val d), hf => exact hf
    | .rt (.new c), hf => exact hf
theorem ss_break {pos} : SS X K E (.Break pos) (mret .bk) := ⟨_, fun _ => ps_break, fun io L G σ s H A w hf => hf σ G H (Sub.refl _) w⟩
theorem ss_cont {pos} : SS X K E (.Continue pos) (mret .ct) := ⟨_, fun _ => ps_continue, fun io L G σ s H A w hf => hf σ G H (Sub.refl _) w⟩
theorem SE.use {e : Expr} {f : M R} (h : SE X K E e f) : ∃ t, (∀ i, PE (X i) e t) ∧ ∀ {β : Type} {F : Hp → Out β → Prop} {k : R → M β} {io L G σ s H} {Q : VK}, FK K E io L σ F → Wd K io L G σ s H → F G (mbind f k s) →
    (∀ v d s' G' H', Sub G G' → Wd K io L G' σ s' H' → Dq K G' v d → F G' (k (.val d) s') → Q v H') →
    (∀ a o c s' G' H', Sub G G' → L a = none → Wd K io (upd L a o) G' σ s' H' → RepC K G' a o c → F G' (k (.new c) s') → Q (.ref a) H') → t σ H Q := by
  obtain ⟨t, pe, h⟩ := h.ex
  refine ⟨t, pe, fun {β F k io L G σ s H Q} fk w hf hq hq2 => h io L G σ s H Q w ?_⟩
  unfold mbind at hf
  cases e : f s with
  | stuck => rw [e] at hf; exact (fk.stuck hf).elim
  | exc c d s' => rw [e] at hf; exact fk.exc hf
  | ok r s' =>
    rw [e] at hf
    match r, hf with
    | .val d, hf => exact fun v G' H' sb w' dp => hq v d s' G' H' sb w' dp (fk.mono sb hf)
    | .new c, hf => exact fun a o G' H' sb hL w' rc => hq2 a o c s' G' H' sb hL w' rc (fk.mono sb hf)
def S.put (s : S) (i : Nat) : R → S
  | .val d => s.setv i d
  | .new c => s.seto i c
def sSet (i : Nat) (f : M R) : M Fl := mbind f fun r s => .ok .nx (s.put i r)
theorem ss_set {i : Nat} {e : Expr} {tg : Expr} {pos : Pos} {f : M R} (h : SE X K E e f) (hp : ∀ te, (∀ z, PE (X z) e te) → ∀ z, PS (X z) (.Assign [tg] e pos) (tAsg te (gName i))) : SS X K E (.Assign [tg] e pos) (sSet i f) := by
  obtain ⟨t, p, h⟩ := h.use
  refine ⟨_, hp t p, fun io L G σ s H A w hf => ?_⟩
  refine h (fk_finS (A := A)) w hf (fun v d s' G' H' sb w' dp f => ?_) fun a o c s' G' H' sb hL w' rc f => ?_
  · exact f _ G' H' (Sub.refl _) (w'.setv dp)
  · exact f _ G' H' (Sub.refl _) (w'.seto hL rc)
def sRet (f : M R) : M Fl := mbind f fun r => mret (.rt r)
theorem ss_ret {e : Expr} {pos : Pos} {f : M R} (h : SE X K E e f) : SS X K E (.Return (some e) pos) (sRet f) := by
  obtain ⟨t, p, h⟩ := h.use
  refine ⟨_, fun z => ps_ret (p z), fun io L G σ s H A w hf => ?_⟩
  refine h (fk_finS (A := A)) w hf (fun v d s' G' H' sb w' dp f => ?_) fun a o c s' G' H' sb hL w' rc f => ?_
  · exact f v σ G' H' (Sub.refl _) w' dp
  · exact f a o σ G' H' (Sub.refl _) hL w' rc
def sRetN : M Fl := mret (.rt (.val .none))
def sDrop (f : M R) : M Fl := mbind f fun _ => mret .nx
theorem ss_drop {e : Expr} {pos : Pos} {f : M R} (h : SE X K E e f) (hs : ∀ z, swapsWith e none pos.line (X z).env = pure false := by intro _; rfl) : SS X K E (.Expr e pos) (sDrop f) := by
  obtain ⟨t, p, h⟩ := h.use
  refine ⟨_, fun z => ps_expr (p z) (hs z), fun io L G σ s H A w hf => ?_⟩
  refine h (fk_finS (A := A)) w hf (fun v d s' G' H' sb w' dp f => ?_) fun a o c s' G' H' sb hL w' rc f => ?_
  · exact f σ G' H' (Sub.refl _) w'
  · exact f σ G' H' (Sub.refl _) (w'.drop hL)
def sIf (c : M Bool) (a b : M Fl) : M Fl := mbind c fun x => if x then a else b
theorem ss_if {c : Expr} {a b : List Stmt} {pos} {fc : M Bool} {fa fb : M Fl} (hc : ST X K E c fc) (ha : SB X K E a fa) (hb : SB X K E b fb) : SS X K E (.If c a b pos) (sIf fc fa fb) := by
  obtain ⟨t, pt, h⟩ := hc.use
  obtain ⟨ta, pa, h1⟩ := ha.ex
  obtain ⟨tb, pb, h2⟩ := hb.ex
  refine ⟨_, fun z => ps_if (pt z) (pa z) (pb z), fun io L G σ s H A w hf => ?_⟩
  refine h (fk_finS (A := A)) w hf fun b s' G' H' sb w' f => ?_
  cases b with
  | true => exact iteT (h1 io L G' σ s' H' A w' f)
  | false => exact iteF (h2 io L G' σ s' H' A w' f)

def S.cell (s : S) (i : Nat) : Option (List D) := match s.env[i]? with
  | some (some (Sl.own (C.lst ds))) => some ds
  | some (some Sl.io) => some s.box
  | _ => none
def S.putc (s : S) (i : Nat) (ds : List D) : S := match s.env[i]? with
  | some (some Sl.io) => { s with box := ds }
  | _ => s.seto i (C.lst ds)
theorem Wd.cell {K : PySem.W.Frag} {io : Option Addr} {L G H : Hp} {σ : L2.St} {s : S} {i : Nat} {ds : List D} (w : Wd K io L G σ s H) (h : s.cell i = some ds) :
    ∃ a xs, σ[i]? = some (some (V.ref a)) ∧ G a = none ∧ L a = none ∧ H a = some (.lst xs) ∧ DqAll K G xs ds ∧ ∀ G' H' (s' : S) ys es, Sub G G' → Wd K io L G' σ s' H' → s'.cell i = some es → DqAll K G' ys ds → True := by
  unfold S.cell at h
  split at h
  · rename_i ds' q
    cases h
    obtain ⟨a, o, e, g, ha, r, l, _⟩ := w.owns i _ q
    cases r with
    | lst r => exact ⟨a, _, e, g, l, ha, r, fun _ _ _ _ _ _ _ _ _ => trivial⟩
  · rename_i q
    cases h
    obtain ⟨a, ea, e⟩ := w.refs i q
    obtain ⟨g, l, xs, h1, h2⟩ := w.ios a ea
    exact ⟨a, xs, e, g, l, h1, h2, fun _ _ _ _ _ _ _ _ _ => trivial⟩
  · cases h
theorem Wd.putc {K : PySem.W.Frag} {io : Option Addr} {L G H : Hp} {σ : L2.St} {s : S} {i : Nat} {ds es : List D} {a : Addr} {ys : List V} (w : Wd K io L G σ s H) (h : s.cell i = some ds) (e : σ[i]? = some (some (V.ref a))) (r : DqAll K G ys es) :
    Wd K io L G σ (s.putc i es) (upd H a (.lst ys)) := by
  unfold S.cell at h
  split at h
  · rename_i ds' q
    unfold S.putc
    rw [q]
    exact w.writeO q e (.lst r)
  · rename_i q
    unfold S.putc
    rw [q]
    obtain ⟨b, eb, e'⟩ := w.refs i q
    rw [e] at e'; cases e'
    exact w.writeB eb r
  · cases h
def PrimM (K : PySem.W.Frag) (r : V → List V → Hp → VK → Prop) (p : List D → List D → Option (D × List D)) : Prop :=
  ∀ G H a xs ds vs es d ds' Q, Sub G H → H a = some (.lst xs) → DqAll K G xs ds → DqAll K G vs es → p ds es = some (d, ds') → (∀ v ys, Dq K G v d → DqAll K G ys ds' → Q v (upd H a (.lst ys))) → r (.ref a) vs H Q
def eM (i : Nat) (fs : List (M D)) (p : List D → List D → Option (D × List D)) : M R := fun s => match s.cell i with
  | none => .stuck
  | some _ => evs fs (fun es s' => match s'.cell i with
    | none => .stuck
    | some ds => match p ds es with
      | none => .stuck
      | some (d, ds') => .ok (.val d) (s'.putc i ds')) s
theorem se_meth {i : Nat} {e : Expr} {es : List Expr} {fs : List (M D)} {r : V → List V → Hp → VK → Prop} {p : List D → List D → Option (D × List D)} (ha : SAv X K E es fs)
    (hp : ∀ t, (∀ z, PA (X z) es t) → ∀ z, PE (X z) e (tBM K "list" r (tVar i) t)) (pr : PrimM K r p) : SE X K E e (eM i fs p) := by
  obtain ⟨t, pa, h⟩ := ha.ex
  refine ⟨_, hp t pa, fun io L G σ s H Q w hf => ?_⟩
  unfold eM at hf
  split at hf
  · exact hf.elim
  · rename_i ds0 e0
    obtain ⟨a, xs0, e1, _, _, h0, _⟩ := w.cell e0
    refine ⟨_, e1, .inl ⟨rfl, _, SqL.of h0⟩, ?_⟩
    refine h (fk_fin (Q := Q)) w hf fun vs ds s' G' H' sb w' rs _ f => ?_
    split at f
    · exact f.elim
    · rename_i dsc ec
      obtain ⟨a', xs, e2, g, l, hx, rx, _⟩ := w'.cell ec
      rw [e1] at e2; cases e2
      split at f
      · exact f.elim
      · rename_i d ds' ep
        refine pr G' H' a xs dsc vs ds d ds' Q w'.sub hx rx rs ep fun v ys dv dy => ?_
        exact f v G' _ (Sub.refl _) (w'.putc ec e1 dy) dv
def setAt (ds : List D) (k : D) (x : D) : Option (List D) := match k with
  | .int n => (ixN ds.length n).map fun j => ds.set j x
  | _ => none
def sSetIx (i : Nat) (fe fk : M D) : M Fl := mbind fe fun x s => match s.cell i with
  | none => .stuck
  | some _ => mbind fk (fun k s' => match s'.cell i with
    | none => .stuck
    | some ds => match setAt ds k x with
      | none => .stuck
      | some ds' => .ok .nx (s'.putc i ds')) s
theorem ss_setIx {i : Nat} {st : Stmt} {e k : Expr} {fe fk : M D} (he : SV X K E e fe) (hk : SV X K E k fk) (hp : ∀ te tk, (∀ z, PE (X z) e te) → (∀ z, PE (X z) k tk) → ∀ z, PS (X z) st (tAsg te (gSub (tVar i) tk rSetL))) : SS X K E st (sSetIx i fe fk) := by
  obtain ⟨te, pe, he⟩ := he.use
  obtain ⟨tk, pk, hk⟩ := hk.use
  refine ⟨_, hp te tk pe pk, fun io L G σ s H A w hf => ?_⟩
  refine he (fk_finS (A := A)) w hf fun v x s1 G1 H1 sb1 w1 dp1 f1 => ?_
  split at f1
  · exact f1.elim
  · rename_i ds0 e0
    obtain ⟨a, xs0, e1, _⟩ := w1.cell e0
    refine ⟨_, e1, ?_⟩
    refine hk (fk_finS (A := A)) w1 f1 fun u y s2 G2 H2 sb2 w2 dp2 f2 => ?_
    split at f2
    · exact f2.elim
    · rename_i ds ec
      obtain ⟨a', xs, e2, g, l, hx, rx, _⟩ := w2.cell ec
      rw [e1] at e2; cases e2
      split at f2
      · exact f2.elim
      · rename_i ds' ep
        unfold setAt at ep
        split at ep
        · rename_i n
          cases dp2
          cases ej : ixN ds.length n with
          | none => rw [ej] at ep; cases ep
          | some j =>
            rw [ej] at ep; cases ep
            refine ⟨a, xs, n, j, rfl, rfl, hx, by rw [rx.length]; exact ej, ?_⟩
            exact f2 _ G2 _ (Sub.refl _) (w2.putc ec e1 (DqAll.set (sb2.dp dp1) j rx))
        · cases ep
def sAugIx (i : Nat) (fk fe : M D) (g : Int → Int → Int) : M Fl := fun s => match s.cell i with
  | none => .stuck
  | some _ => mbind fk (fun k s1 => match s1.cell i with
    | none => .stuck
    | some ds => match k with
      | .int n => match atI ds n with
        | some (.int x) => mbind fe (fun y s2 => match y with
          | .int y => match s2.cell i with
            | none => .stuck
            | some es => match setAt es (.int n) (.int (g x y)) with
              | none => .stuck
              | some es' => .ok .nx (s2.putc i es')
          | _ => .stuck) s1
        | _ => .stuck
      | _ => .stuck) s
theorem atI_dp {K : PySem.W.Frag} {G : Hp} {xs : List V} {ds : List D} {n : Int} {d : D} (h : DqAll K G xs ds) (e : atI ds n = some d) : ∃ v, atI xs n = some v ∧ Dq K G v d := by
  unfold atI at e ⊢
  rw [h.length]
  cases ej : ixN ds.length n with
  | none => rw [ej] at e; cases e
  | some j =>
    rw [ej] at e
    exact h.get (i := j) e
def sAug (i : Nat) (f : M D) (g : Int → Int → Int) : M Fl := fun s => match s.env[i]? with
  | some (some (Sl.val (.int x))) => mbind f (fun y s' => match y with
    | .int y => .ok .nx (s'.setv i (.int (g x y)))
    | _ => .stuck) s
  | _ => .stuck
inductive Hold (K : PySem.W.Frag) (io : Option Addr) (G : Hp) (σ : L2.St) (s : S) (H : Hp) : Hp → List V → List R → Prop
  | nil {L : Hp} : Wd K io L G σ s H → Hold K io G σ s H L [] []
  | val {L : Hp} {v : V} {d : D} {vs : List V} {rs : List R} : Dq K G v d → Hold K io G σ s H L vs rs → Hold K io G σ s H L (v :: vs) (.val d :: rs)
  | new {L : Hp} {a : Addr} {o : HO} {c : C} {vs : List V} {rs : List R} : L a = none → RepC K G a o c → Hold K io G σ s H (upd L a o) vs rs → Hold K io G σ s H L (.ref a :: vs) (.new c :: rs)
def evr {β : Type} : List (M R) → (List R → M β) → M β
  | [], k => k []
  | f :: fs, k => mbind f fun x => evr fs fun xs => k (x :: xs)
theorem FK.up {K : PySem.W.Frag} {E : WW} {io : Option Addr} {L : Hp} {σ : L2.St} {β : Type} {F : Hp → Out β → Prop} {a : Addr} {o : HO} (h : FK K E io L σ F) (hL : L a = none) : FK K E io (upd L a o) σ F :=
  ⟨h.stuck, fun z dx v G H sb w => h.exc z dx v G H sb (w.drop hL), h.mono⟩
structure SAr {ι : Type} (X : ι → Cx) (K : PySem.W.Frag) (E : WW) (es : List Expr) (fs : List (M R)) : Prop where
  ex : ∃ t, (∀ i, PA (X i) es t) ∧ ∀ {β : Type} {F : Hp → Out β → Prop} {k : List R → M β} {io L G σ s H} {Q : List V → Hp → Prop}, FK K E io L σ F → Wd K io L G σ s H → F G (evr fs k s) →
    (∀ vs rs s' G' H', Sub G G' → Hold K io G' σ s' H' L vs rs → F G' (k rs s') → Q vs H') → t σ H Q
theorem sar_nil : SAr X K E [] [] := ⟨_, fun _ => pa_nil, fun {β F k io L G σ s H Q} fk w hf hq => hq [] [] s G H (Sub.refl _) (.nil w) hf⟩
theorem sar_cons {e : Expr} {es : List Expr} {f : M R} {fs : List (M R)} (h1 : SE X K E e f) (h2 : SAr X K E es fs) (hs : ∀ z, starEach (e :: es) (X z).env = (false, eval e (X z).env) :: starEach es (X z).env := by intro _; rfl) : SAr X K E (e :: es) (f :: fs) := by
  obtain ⟨t, pe, h1⟩ := h1.use
  obtain ⟨u, pa, h2⟩ := h2.ex
  refine ⟨_, fun z => pa_cons (pe z) (pa z) (hs z), fun {β F k io L G σ s H Q} fk w hf hq => ?_⟩
  refine h1 fk w hf (fun v d s1 G1 H1 sb1 w1 dp f1 => ?_) fun a o c s1 G1 H1 sb1 hL w1 rc f1 => ?_
  · refine h2 fk w1 f1 fun vs rs s2 G2 H2 sb2 hd f2 => ?_
    exact hq _ _ s2 G2 H2 (sb1.trans sb2) (.val (sb2.dp dp) hd) f2
  · refine h2 (fk.up hL) w1 f1 fun vs rs s2 G2 H2 sb2 hd f2 => ?_
    exact hq _ _ s2 G2 H2 (sb1.trans sb2) (.new hL (sb2.repC rc) hd) f2
def setAll (σ : L2.St) : List Nat → List V → L2.St
  | i :: is, v :: vs => (setAll σ is vs).set i (some v)
  | _, _ => σ
def S.putAll (s : S) : List Nat → List R → S
  | i :: is, r :: rs => (s.putAll is rs).put i r
  | _, _ => s
theorem Hold.put {K : PySem.W.Frag} {io : Option Addr} {G H L : Hp} {σ : L2.St} {s : S} {vs : List V} {rs : List R} (h : Hold K io G σ s H L vs rs) : ∀ {is : List Nat}, is.length = vs.length → Wd K io L G (setAll σ is vs) (s.putAll is rs) H := by
  induction h with
  | nil w =>
    intro is hl
    cases is with
    | nil => exact w
    | cons i is => cases hl
  | val dp _ ih =>
    intro is hl
    cases is with
    | nil => cases hl
    | cons i is => exact (ih (Nat.succ.inj hl)).setv dp
  | new hL rc _ ih =>
    intro is hl
    cases is with
    | nil => cases hl
    | cons i is => exact (ih (Nat.succ.inj hl)).seto hL rc
theorem Hold.len {K : PySem.W.Frag} {io : Option Addr} {G H L : Hp} {σ : L2.St} {s : S} {vs : List V} {rs : List R} (h : Hold K io G σ s H L vs rs) : vs.length = rs.length := by
  induction h with
  | nil => rfl
  | val _ _ ih => simp [ih]
  | new _ _ _ ih => simp [ih]
theorem setAll_out {σ : L2.St} {i : Nat} {x : Option V} : ∀ {is : List Nat} {vs : List V}, i ∉ is → setAll (σ.set i x) is vs = (setAll σ is vs).set i x
  | [], vs, _ => by unfold setAll; rfl
  | j :: is, [], _ => by unfold setAll; rfl
  | j :: is, v :: vs, h => by
    show (setAll (σ.set i x) is vs).set j (some v) = ((setAll σ is vs).set j (some v)).set i x
    rw [setAll_out (fun z => h (List.mem_cons_of_mem _ z)), List.set_comm]
    exact fun e => h (by rw [e]; exact List.mem_cons_self)
def sPar (is : List Nat) (fs : List (M R)) : M Fl := evr fs fun rs s => if rs.length = is.length then .ok .nx (s.putAll is rs) else .stuck
theorem ss_parA {st : Stmt} {es : List Expr} {i j : Nat} {fs : List (M R)} (hij : i ≠ j) (ha : SAr X K E es fs) (hp : ∀ t, (∀ z, PA (X z) es t) → ∀ z, PS (X z) st (tPar i j t)) : SS X K E st (sPar [i, j] fs) := by
  obtain ⟨t, pa, h⟩ := ha.ex
  refine ⟨_, hp t pa, fun io L G σ s H A w hf => ?_⟩
  refine h (fk_finS (A := A)) w hf fun vs rs s' G' H' sb hd f => ?_
  split at f
  · rename_i hl
    have hl2 := hd.len.trans hl
    match vs, hl2, hd with
    | [v, u], _, hd =>
      have w' := hd.put (is := [i, j]) rfl
      refine ⟨v, u, rfl, ?_⟩
      rw [List.set_comm _ _ hij]
      exact f _ G' H' (Sub.refl _) w'
  · exact f.elim
theorem ss_parB {st : Stmt} {es : List Expr} {i j l : Nat} {fs : List (M R)} (hij : i ≠ j) (hil : i ≠ l) (hjl : j ≠ l) (ha : SAr X K E es fs) (hp : ∀ t, (∀ z, PA (X z) es t) → ∀ z, PS (X z) st (tPar3 i j l t)) : SS X K E st (sPar [i, j, l] fs) := by
  obtain ⟨t, pa, h⟩ := ha.ex
  refine ⟨_, hp t pa, fun io L G σ s H A w hf => ?_⟩
  refine h (fk_finS (A := A)) w hf fun vs rs s' G' H' sb hd f => ?_
  split at f
  · rename_i hl
    have hl2 := hd.len.trans hl
    match vs, hl2, hd with
    | [v, u, x], _, hd =>
      have w' := hd.put (is := [i, j, l]) rfl
      refine ⟨v, u, x, rfl, ?_⟩
      have e : ((σ.set i (some v)).set j (some u)).set l (some x) = setAll σ [i, j, l] [v, u, x] := by
        show _ = ((σ.set l (some x)).set j (some u)).set i (some v)
        rw [List.set_comm _ _ hij, List.set_comm _ _ hil, List.set_comm _ _ hjl]
      rw [e]
      exact f _ G' H' (Sub.refl _) w'
  · exact f.elim
def gNames : List Nat → TGs
  | [] => gNil
  | i :: is => gCons (gName i) (gNames is)
theorem gNames_of {is : List Nat} (nd : is.Nodup) : ∀ {vs : List V} {σ : L2.St} {H : Hp} {Q : L2.St → Hp → Prop}, vs.length = is.length → Q (setAll σ is vs) H → gNames is vs σ H Q := by
  induction is with
  | nil =>
    intro vs σ H Q hl q
    cases vs with
    | nil => exact ⟨rfl, q⟩
    | cons v vs => cases hl
  | cons i is ih =>
    intro vs σ H Q hl q
    cases vs with
    | nil => cases hl
    | cons v vs =>
      refine ⟨v, vs, rfl, ?_⟩
      refine ih (List.nodup_cons.mp nd).2 (Nat.succ.inj hl) ?_
      rw [setAll_out (List.nodup_cons.mp nd).1]
      exact q
end
end L3

namespace L3
open PySem PySem.Spec PyProof.Rows L2
open Sem (wp)
open AutoSeq1 (wpAny_loadPart')

theorem meets_enumerate_newT (l : Addr) (items : Array Value) (n : Nat) (dct : Option Addr) (sl : Array (Option Value)) :
    Meets (Builtin.«enumerate.__new__» ⟨[.type "enumerate", .ref l], []⟩) (fun _ R s => s.heap.get? l = some { cls := .type "tuple", dict := dct, data := .seq items n, slots := sl } ∧
      R (.ok (.ret (.ref (s.heap.push { cls := .type "tuple_iterator", data := .fields #[.ref l, .int 0 0] }).objs.size)))
        { s with heap := (s.heap.push { cls := .type "tuple_iterator", data := .fields #[.ref l, .int 0 0] }).push { cls := .type "enumerate", data := .fields #[.none, .bool false, .ref s.heap.objs.size, rawInt 0, .none, .none] } }) :=
  .of_wp fun prog w A R s h => by
    obtain ⟨hp, g, d, tk, os⟩ := s; obtain ⟨hl, h⟩ := h
    have hsub := sub_enumerate
    have hL : Heap.IsTuple (Shared.heap ⟨hp, g, d, tk, os⟩) l items := ⟨_, hl, rfl, n, rfl⟩
    wp_walk using wpAny_loadPart' hl
    refine wpAny_stack_any fun st => wpAny_pure ?_
    split
    · rename_i c _ _ _ _ _
      cases (c == Value.type "enumerate")
      · wp_walk using wpAny_loadPart' hl, wpAny_pyIter_tuple hL
        exact ⟨_, rfl, h⟩
      · wp_walk using wpAny_loadPart' hl, wpAny_pyIter_tuple hL
        exact ⟨_, rfl, h⟩
    · wp_walk using wpAny_loadPart' hl, wpAny_pyIter_tuple hL
      exact ⟨_, rfl, h⟩

theorem call_enumerate_tuple {prog : Program} {w : World} {A : Around} {E : Value → Shared → Prop} {s : Shared} {l : Addr} {items : Array Value} {Q : Value → Shared → Prop} (hL : s.heap.IsTuple l items)
    (h : ∀ h', IsEnum h' (s.heap.objs.size + 1) s.heap.objs.size 0 .none → h'.IsTupleIter s.heap.objs.size l 0 → h'.objs.size = s.heap.objs.size + 2 →
      (∀ b o, s.heap.get? b = some o → h'.get? b = some o) → Q (.ref (s.heap.objs.size + 1)) { s with heap := h' }) :
    wpAny (model prog w) A (call (.type "enumerate") [.ref l]) Q E s := by
  obtain ⟨⟨c, dct, dt, sl⟩, hl, hc, n, hd⟩ := hL
  replace hc : c = .type "tuple" := hc
  replace hd : dt = .seq items n := hd
  subst hc hd
  refine callType_new F.called_enumerate (by decide) (F.typeCall_enumerate_1 _) (F.newCall_enumerate_1 _) (fun obj => F.args_object_init_2 obj _) F.entry_enumerate_new
    (meets_enumerate_newT l items n dct sl) ⟨hl, ?_⟩
  have hz : (s.heap.push { cls := .type "tuple_iterator", data := .fields #[.ref l, .int 0 0] }).objs.size = s.heap.objs.size + 1 := Heap.size_push ..
  show _ ∧ _
  rw [hz]
  have he : IsEnum ((s.heap.push { cls := .type "tuple_iterator", data := .fields #[.ref l, .int 0 0] }).push
      { cls := .type "enumerate", data := .fields #[.none, .bool false, .ref s.heap.objs.size, rawInt 0, .none, .none] }) (s.heap.objs.size + 1) s.heap.objs.size 0 .none := by
    have := Heap.get?_push_size (s.heap.push { cls := .type "tuple_iterator", data := .fields #[.ref l, .int 0 0] })
      (o := { cls := .type "enumerate", data := .fields #[.none, .bool false, .ref s.heap.objs.size, rawInt 0, .none, .none] }) rfl
    rw [hz] at this; exact this
  refine ⟨⟨_, he, rfl⟩, h _ he ⟨_, Heap.get?_push_of_some _ (Heap.get?_push_size _ rfl), rfl, rfl⟩ (by rw [Heap.size_push, hz]) fun b o x => Heap.get?_push_of_some _ (Heap.get?_push_of_some _ x)⟩

def IteT (K : PySem.W.Frag) (a : Addr) : It :=
  ⟨fun i H => ∃ (xs : List V) (x : V), SqT K H a xs ∧ xs[i]? = some x, fun i H v H' => ∃ T x, v = .ref T ∧ H T = none ∧ H' = upd H T (.tup [.int (i : Nat), x]) ∧ ∀ xs, SqT K H a xs → xs[i]? = some x, fun i H => ∃ xs : List V, SqT K H a xs ∧ xs.length ≤ i⟩
theorem turn_enumT {P : Program} {w : World} {K : PySem.W.Frag} {elts : List Expr} {kk : Nat} {tpos : Pos} (a e it : Addr) :
    Turn P w K (.Tuple elts kk tpos) (IteT K a) [e, it] e (fun i h => (∃ old, IsEnum h e it ((i : Nat) : Int) old) ∧ h.IsTupleIter it a i ∧ e ≠ it ∧ a ≠ e ∧ a ≠ it) where
  mem := by simp
  obj := fun i h st b hb => by
    obtain ⟨⟨old, he⟩, ⟨o, ho, hc, hd⟩, _⟩ := st
    have e' : b = e ∨ b = it := by simpa using hb
    rcases e' with z | z
    · rw [z]; exact ⟨_, he, fun v q => nomatch q⟩
    · rw [z]; exact ⟨o, ho, fun v q => by rw [hd] at q; cases q⟩
  keep := fun i h h' st k => let ⟨⟨old, he⟩, hi, hne⟩ := st; ⟨⟨old, k e (by simp) _ he⟩, hi.at fun o q => k it (by simp) o q, hne⟩
  item := by
    intro X hP hw hK hc i pins s σ H E I hf st hg
    subst hP hw hK
    obtain ⟨⟨old, he⟩, hit, hne, hae, hai⟩ := st
    obtain ⟨xs, x, hq, hx⟩ := hg
    obtain ⟨its, rv, p, hz⟩ := I.tuple hq
    obtain ⟨u, hu, ru⟩ := rv.get hx
    have hel : e < s.heap.objs.size := Heap.lt_size he
    have hil : it < s.heap.objs.size := by obtain ⟨_, q, _⟩ := hit; exact Heap.lt_size q
    have hlt : i < its.toArray.size := by
      have := (List.getElem?_eq_some_iff.mp hu).1
      simpa using this
    refine wpAny_pyNext_enum_itemD (Draws.tuple (show X.A.in1.handled = none from I.ok.hd hc) it a hai its.toArray) he ⟨hit, p⟩ hlt hne (by simp [hne, Ne.symm hae]) fun y h' tk hy ho st' hT hsz hk => ?_
    have hyu : y = u := by
      have h1 : its.toArray[i]? = some y := hy
      have h2 : its.toArray[i]? = some u := by simpa using hu
      rw [h1] at h2; exact Option.some.inj h2
    subst hyu
    refine ⟨_, rfl, wpAny_letOwnedTupleGo_enum (s := { s with heap := h', toks := tk + 1 }) ho fun h'' he' sb => ?_⟩
    have hT2 : h''.get? s.heap.objs.size = some { cls := .type "tuple", data := .seq #[.int i tk, y] } := (sb.2 _ (Nat.ne_of_gt hel)).trans hT
    have new : ObjOk X.prog X.w (upd H s.heap.objs.size (.tup [.int (i : Nat), x])) h'' s.heap.objs.size (.tup [.int (i : Nat), x]) :=
      ⟨by show 2 ≤ sizeLine; decide, [.int i tk, y], .cons ⟨_, rfl⟩ (.cons ru .nil), ⟨_, hT2, rfl, _, rfl⟩⟩
    have I1 : Inv X pins σ (upd H s.heap.objs.size (.tup [.int (i : Nat), x])) { s with heap := h'', toks := tk + 1 } :=
      I.turnedNew (ch := [e, it]) (fun b ob hb q => (sb.2 b (fun z => hb (by simp [z]))).trans (hk b ob (fun z => hb (by simp [z])) (fun z => hb (by simp [z])) q)) hf (Nat.le_refl _) new
    refine ⟨.ref s.heap.objs.size, _, I1, rfl, ⟨_, x, rfl, I.hok.fresh (Nat.le_refl _), rfl, fun ys hy => by rw [I.tuple_inj hy hq]; exact hx⟩, ⟨⟨y, ?_⟩, st'.1.at fun o q => (sb.2 it (Ne.symm hne)).trans q, hne, hae, hai⟩, fun b hb => ?_⟩
    · have e1 : ((i + 1 : Nat) : Int) = (i : Int) + 1 := by omega
      rw [e1]; exact he'
    · have hb' : b < s.heap.objs.size := by
        have e' : b = e ∨ b = it := by simpa using hb
        rcases e' with z | z
        · rw [z]; exact hel
        · rw [z]; exact hil
      rw [upd_ne (Nat.ne_of_lt hb')]
      exact (hf b hb).1
  done := by
    intro X hP hw hK hc i pins s σ H E I hf st hg
    subst hP hw hK
    obtain ⟨⟨old, he⟩, hit, hne, hae, hai⟩ := st
    obtain ⟨xs, hq, hx⟩ := hg
    obtain ⟨its, rv, p, hz⟩ := I.tuple hq
    obtain ⟨f0, f1, f2, f3, f4, f5⟩ := hf it (by simp)
    have hl := rv.length
    unfold pyNext
    have hT : s.TypeIs (.ref e) "enumerate" := ⟨_, he, rfl⟩
    refine wpAny_bind (wpAny_attempt (wpAny_callSpecial?_slot (name := Str.ofString "__next__") hT F.slot_enumerate_next
      (wpAny_call_entry F.slot_enumerate_next hT F.entry_enumerate_next ?_ (F.args_enumerate_next_1 _))))
    show wpAny _ _ (field (.ref e) 2 >>= _) _ _ _
    refine wpAny_bind (wpAny_field he rfl (x := .ref it) rfl ?_)
    refine wpAny_bind (RZ.nextOf_tuple_end (show X.A.in1.handled = none from I.ok.hd hc) hit (show s.heap.IsTuple a its.toArray from p) (by simp; omega) fun h' x he' hx' => ?_)
    obtain ⟨o, ho, hcl⟩ := hx'
    refine wpAny_bind (wpAny_isInstance (T := "StopIteration") (b := true) ⟨o, ho, hcl⟩ isSubtype_stop ?_)
    exact wpAny_pure ⟨rfl, I.turned (t' := s.toks) (fun b o hb q => he' b o hb q) f0 f1 f3 f4 f5⟩
  self := fun A i s Q E st h => let ⟨⟨_, he⟩, _⟩ := st; wpAny_pyIter_enum he h
def iEnumA (K : PySem.W.Frag) (ta : TA) : TI := fun σ H R => ta σ H fun vs H1 => ∃ a xs, vs = [.ref a] ∧ ((SqL K H1 a xs ∧ R (Ite K a) H1) ∨ (SqT K H1 a xs ∧ R (IteT K a) H1))
theorem pi_enumA {X : Cx} {e : Expr} {ta : TA} {p pos tpos : Pos} {elts : List Expr} {kk : Nat} (hg : Gl X "enumerate") (hm : X.mg "enumerate" = none) (ha : PA X [e] ta) (hs : starEach [e] X.env = [(false, eval e X.env)] := by rfl) :
    PI X (.Tuple elts kk tpos) (.Call (.Name "enumerate" p) [e] [] pos) (iEnumA X.K ta) := by
  refine ⟨fun pins s σ H R I h => ?_⟩
  refine Call_ (ld_blt I hg hm boot_enumerate (PyProof.Rows.callWith_type1 (thn (ha.run pos pins s σ H _ I h) fun us s1 ⟨vs, H1, I1, r1, q1⟩ => ?_) hs rfl))
  obtain ⟨a, xs, ex, q1⟩ := q1
  subst ex
  cases r1 with
  | cons r rr =>
    cases rr
    cases r
    have fresh2 : ∀ b, b ∈ [s1.heap.objs.size + 1, s1.heap.objs.size] → FpOk X pins H1 b := fun b hb => by
      have e' : b = s1.heap.objs.size + 1 ∨ b = s1.heap.objs.size := by simpa using hb
      have hle : s1.heap.objs.size ≤ b := by
        rcases e' with z | z
        · rw [z]; exact Nat.le_add_right _ _
        · rw [z]; exact Nat.le_refl _
      exact I1.fpOk hle (I1.hok.fresh hle)
    rcases q1 with ⟨hq, q⟩ | ⟨hq, q⟩
    · obtain ⟨its, rv, p', hz⟩ := I1.list hq
      refine call_enumerate_list p'.isList fun h' he hit hsz hk => wpAny_pyIter_enum he ?_
      have I2 : Inv X pins σ H1 { s1 with heap := h' } := I1.kept (t' := s1.toks) hk
      exact ⟨s1.heap.objs.size + 1, [s1.heap.objs.size + 1, s1.heap.objs.size], _, _, H1, rfl, I2, turn_enum a (s1.heap.objs.size + 1) s1.heap.objs.size, ⟨⟨.none, he⟩, hit, Nat.succ_ne_self _⟩, fresh2, q⟩
    · obtain ⟨its, rv, p', hz⟩ := I1.tuple hq
      have hal : a < s1.heap.objs.size := by obtain ⟨o, ho, _⟩ := id p'; exact Heap.lt_size ho
      refine call_enumerate_tuple (show s1.heap.IsTuple a its.toArray from p') fun h' he hit hsz hk => wpAny_pyIter_enum he ?_
      have I2 : Inv X pins σ H1 { s1 with heap := h' } := I1.kept (t' := s1.toks) hk
      exact ⟨s1.heap.objs.size + 1, [s1.heap.objs.size + 1, s1.heap.objs.size], _, _, H1, rfl, I2, turn_enumT a (s1.heap.objs.size + 1) s1.heap.objs.size, ⟨⟨.none, he⟩, hit, Nat.succ_ne_self _, Nat.ne_of_lt (Nat.lt_succ_of_lt hal), Nat.ne_of_lt hal⟩, fresh2, q⟩
end L3

namespace L3
open PySem PySem.W PySem.Spec PyProof.Rows PyProof.V L2

def ItAt (k : Bool) (h : Heap) (it l : Addr) (i : Nat) : Prop := bif k then h.IsListIter it l i else h.IsTupleIter it l i
def SrcAt (k : Bool) (h : Heap) (l : Addr) (arr : Array Value) : Prop := bif k then h.IsList l arr else h.IsTuple l arr
theorem ItAt.over {k : Bool} {h g : Heap} {it l c : Addr} {i : Nat} (p : ItAt k h it l i) (e : Heap.ExtBut c h g) (n : it ≠ c) : ItAt k g it l i := by
  cases k with
  | true => exact Heap.IsListIter.extBut p e n
  | false => exact Heap.IsTupleIter.extBut p e n
theorem SrcAt.over {k : Bool} {h g : Heap} {l c : Addr} {arr : Array Value} (p : SrcAt k h l arr) (e : Heap.ExtBut c h g) (n : l ≠ c) : SrcAt k g l arr := by
  cases k with
  | true => exact Heap.IsList.extBut p e n
  | false => exact Heap.IsTuple.extBut p e n
theorem ItAt.kept {k : Bool} {h g : Heap} {it l : Addr} {i : Nat} (p : ItAt k h it l i) (f : ∀ o, h.get? it = some o → g.get? it = some o) : ItAt k g it l i := by
  cases k with
  | true => obtain ⟨o, e, r⟩ := p; exact ⟨o, f o e, r⟩
  | false => obtain ⟨o, e, r⟩ := p; exact ⟨o, f o e, r⟩
theorem ItAt.obj {k : Bool} {h : Heap} {it l : Addr} {i : Nat} (p : ItAt k h it l i) : ∃ o, h.get? it = some o ∧ o.data = .fields #[.ref l, .int i 0] := by
  cases k with
  | true => obtain ⟨o, e, _, r⟩ := p; exact ⟨o, e, r⟩
  | false => obtain ⟨o, e, _, r⟩ := p; exact ⟨o, e, r⟩
section
variable {prog : Program} {w : World} {A : Around} {E : Value → Shared → Prop} {s : Shared}
theorem turn_src {k : Bool} {it l : Addr} {i : Nat} {arr : Array Value} {x : Value} {Q : Value → Shared → Prop} (p : ItAt k s.heap it l i) (q : SrcAt k s.heap l arr) (hx : arr[i]? = some x)
    (hQ : ∀ g, ItAt k g it l (i + 1) → Heap.SameBut it s.heap g → Q x { s with heap := g }) : wpAny (model prog w) A (Builtin.SmallTypes.nextOf (.ref it)) Q E s := by
  cases k with
  | true => exact wpAny_nextOf_list_item p q hx hQ
  | false => exact wpAny_nextOf_tuple_item p q hx hQ
theorem over_src {k : Bool} {it l : Addr} {i : Nat} {arr : Array Value} {Q : Value → Shared → Prop} (hh : A.handled = none) (p : ItAt k s.heap it l i) (q : SrcAt k s.heap l arr) (hx : arr[i]? = none)
    (hE : ∀ g e, Heap.ExtBut it s.heap g → (∃ o, g.get? e = some o ∧ o.cls = .type "StopIteration") → E (.ref e) { s with heap := g }) : wpAny (model prog w) A (Builtin.SmallTypes.nextOf (.ref it)) Q E s := by
  cases k with
  | true => exact wpAny_nextOf_list_end hh p q hx hE
  | false => exact wpAny_nextOf_tuple_end hh p q hx hE
def Beside (z TO j1 j2 : Addr) (h g : Heap) : Prop := ∀ c o, c ≠ z → c ≠ TO → c ≠ j1 → c ≠ j2 → h.get? c = some o → g.get? c = some o
theorem mix_item {m1 m2 : Bool} {z TI TO j1 j2 a1 a2 : Addr} {n1 n2 : Nat} {us vs : Array Value} {u v p0 p1 : Value} {Q : Value → Shared → Prop} (D : ZipApart z TI TO j1 j2 a1 a2)
    (gz : IsZip s.heap z TI TO .none) (gi : IsPair s.heap TI (.ref j1) (.ref j2)) (go : IsPair s.heap TO p0 p1) (t1 : ItAt m1 s.heap j1 a1 n1) (t2 : ItAt m2 s.heap j2 a2 n2) (s1 : SrcAt m1 s.heap a1 us) (s2 : SrcAt m2 s.heap a2 vs) (hu : us[n1]? = some u) (hv : vs[n2]? = some v)
    (hQ : ∀ g, IsZip g z TI TO (rawInt s.heap.objs.size) → IsPair g TO u v → ItAt m1 g j1 a1 (n1 + 1) → ItAt m2 g j2 a2 (n2 + 1) → IsPair g s.heap.objs.size u v → g.objs.size = s.heap.objs.size + 1 → Beside z TO j1 j2 s.heap g → Q (.ref s.heap.objs.size) { s with heap := g }) :
    wpAny (model prog w) A (Builtin.«zip.__next__» ⟨[.ref z], []⟩) (fun fin s' => ∃ r, fin = .done (.ret r) ∧ Q r s') E s := by
  show wpAny _ _ (field (.ref z) 2 >>= _) _ _ _
  refine wpAny_bind (wpAny_field gz rfl (x := .bool false) rfl ?_)
  show wpAny _ _ (field (.ref z) 3 >>= _) _ _ _
  refine wpAny_bind (wpAny_field gz rfl (x := .ref TI) rfl ?_)
  refine wpAny_bind (wpAny_seqItems gi rfl ?_)
  show wpAny _ _ (Builtin.SmallTypes.ownedTupleIsFree (.ref z) >>= _) _ _ _
  refine wpAny_bind ?_
  unfold Builtin.SmallTypes.ownedTupleIsFree
  refine wpAny_bind (wpAny_field gz rfl (x := .none) rfl (wpAny_pure ?_))
  simp only [if_true]
  refine wpAny_bind (wpAny_rule ?_)
  refine wpAny_bind (wpAny_field gz rfl (x := .ref TO) rfl ?_)
  refine wpAny_bind (wpAny_setField_rec gz (by simp) fun b1 zb1 w1 => ?_)
  replace zb1 : IsZip b1 z TI TO .ellipsis := zb1
  refine wpAny_bind ?_
  simp only [List.zipIdx_cons, List.zipIdx_nil, List.forIn_cons, List.forIn_nil]
  -- the first
  refine wpAny_bind (wpAny_bind (wpAny_onRaise ?_))
  show wpAny _ _ (Builtin.SmallTypes.nextOf (.ref j1) >>= _) _ _ _
  refine wpAny_bind (turn_src (t1.over w1.extBut D.i1z) (s1.over w1.extBut D.l1z) hu fun b2 y1 w2 => wpAny_pure ?_)
  have o2 : IsPair b2 TO p0 p1 := w2.extBut _ _ D.TOi1 (w1.extBut _ _ D.TOz go)
  refine wpAny_bind (wpAny_seqItems o2 rfl ?_)
  refine wpAny_bind (wpAny_updateSeq_pair o2 fun b3 o3 w3 => ?_)
  replace o3 : IsPair b3 TO u p1 := o3
  refine wpAny_bind (wpAny_letGo (wpAny_pure ?_))
  -- the second
  refine wpAny_bind (wpAny_bind (wpAny_onRaise ?_))
  show wpAny _ _ (Builtin.SmallTypes.nextOf (.ref j2) >>= _) _ _ _
  refine wpAny_bind (turn_src (((t2.over w1.extBut D.i2z).over w2.extBut D.i12.symm).over w3.extBut D.TOi2.symm) (((s2.over w1.extBut D.l2z).over w2.extBut D.l2i1).over w3.extBut D.l2TO) hv fun b4 y2 w4 => wpAny_pure ?_)
  have o4 : IsPair b4 TO u p1 := w4.extBut _ _ D.TOi2 o3
  refine wpAny_bind (wpAny_seqItems o4 rfl ?_)
  refine wpAny_bind (wpAny_updateSeq_pair o4 fun b5 o5 w5 => ?_)
  replace o5 : IsPair b5 TO u v := o5
  refine wpAny_bind (wpAny_letGo (wpAny_pure (wpAny_pure ?_)))
  -- the new pair
  refine wpAny_bind (wpAny_seqItems o5 rfl ?_)
  refine wpAny_bind (wpAny_newTuple ?_)
  have size5 : b5.objs.size = s.heap.objs.size := by rw [w5.1, w4.1, w3.1, w2.1, w1.1]
  have zb5 : IsZip b5 z TI TO .ellipsis := w5.extBut _ _ D.TOz.symm (w4.extBut _ _ D.i2z.symm (w3.extBut _ _ D.TOz.symm (w2.extBut _ _ D.i1z.symm zb1)))
  have rest5 : Beside z TO j1 j2 s.heap b5 := fun c o d1 d2 d3 d4 e => w5.extBut _ _ d2 (w4.extBut _ _ d4 (w3.extBut _ _ d2 (w2.extBut _ _ d3 (w1.extBut _ _ d1 e))))
  have y15 : ItAt m1 b5 j1 a1 (n1 + 1) := ((y1.over w3.extBut D.TOi1.symm).over w4.extBut D.i12).over w5.extBut D.TOi1.symm
  have y25 : ItAt m2 b5 j2 a2 (n2 + 1) := y2.over w5.extBut D.TOi2.symm
  have zlow : z < b5.objs.size := Heap.lt_size zb5
  show wpAny _ _ (Builtin.SmallTypes.ownedTupleHandOut (.ref z) (.ref b5.objs.size) >>= _) _ _ _
  refine wpAny_bind ?_
  unfold Builtin.SmallTypes.ownedTupleHandOut
  have zb6 : IsZip (b5.push { cls := .type "tuple", data := .seq #[u, v] }) z TI TO .ellipsis := Heap.get?_push_of_some _ zb5
  refine wpAny_bind (wpAny_setField_rec zb6 (by simp) fun b7 zb7 w7 => ?_)
  replace zb7 : IsZip b7 z TI TO (rawInt b5.objs.size) := zb7
  refine wpAny_setField_rec zb7 (by simp) fun b8 zb8 w8 => ?_
  replace zb8 : IsZip b8 z TI TO (rawInt b5.objs.size) := zb8
  have up : ∀ c o, c ≠ z → b5.get? c = some o → b8.get? c = some o := fun c o d1 e => w8.extBut _ _ d1 (w7.extBut _ _ d1 (Heap.get?_push_of_some _ e))
  have pair8 : IsPair b8 b5.objs.size u v := w8.extBut _ _ (Nat.ne_of_gt zlow) (w7.extBut _ _ (Nat.ne_of_gt zlow) (Heap.get?_push_size _ rfl))
  have size8 : b8.objs.size = b5.objs.size + 1 := by rw [w8.1, w7.1, Heap.size_push]
  rw [size5] at zb8 pair8 size8
  refine wpAny_pure ⟨_, rfl, ?_⟩
  show Q (.ref b5.objs.size) _
  rw [size5]
  exact hQ b8 zb8 (up _ _ D.TOz o5) (y15.kept fun o e => up _ o D.i1z e) (y25.kept fun o e => up _ o D.i2z e) pair8 size8 fun c o d1 d2 d3 d4 e => up c o d1 (rest5 c o d1 d2 d3 d4 e)
theorem mix_end {m1 m2 : Bool} {z TI TO j1 j2 a1 a2 : Addr} {n1 n2 : Nat} {us vs : Array Value} {p0 p1 : Value} {Q : PySem.Fin → Shared → Prop} (hA : A.handled = none) (D : ZipApart z TI TO j1 j2 a1 a2)
    (gz : IsZip s.heap z TI TO .none) (gi : IsPair s.heap TI (.ref j1) (.ref j2)) (go : IsPair s.heap TO p0 p1) (t1 : ItAt m1 s.heap j1 a1 n1) (t2 : ItAt m2 s.heap j2 a2 n2) (s1 : SrcAt m1 s.heap a1 us) (s2 : SrcAt m2 s.heap a2 vs) (hend : us[n1]? = none ∨ vs[n2]? = none)
    (hE : ∀ g e, Beside z TO j1 j2 s.heap g → (∃ o, g.get? e = some o ∧ o.cls = .type "StopIteration") → E (.ref e) { s with heap := g }) :
    wpAny (model prog w) A (Builtin.«zip.__next__» ⟨[.ref z], []⟩) Q E s := by
  show wpAny _ _ (field (.ref z) 2 >>= _) _ _ _
  refine wpAny_bind (wpAny_field gz rfl (x := .bool false) rfl ?_)
  show wpAny _ _ (field (.ref z) 3 >>= _) _ _ _
  refine wpAny_bind (wpAny_field gz rfl (x := .ref TI) rfl ?_)
  refine wpAny_bind (wpAny_seqItems gi rfl ?_)
  show wpAny _ _ (Builtin.SmallTypes.ownedTupleIsFree (.ref z) >>= _) _ _ _
  refine wpAny_bind ?_
  unfold Builtin.SmallTypes.ownedTupleIsFree
  refine wpAny_bind (wpAny_field gz rfl (x := .none) rfl (wpAny_pure ?_))
  simp only [if_true]
  refine wpAny_bind (wpAny_rule ?_)
  refine wpAny_bind (wpAny_field gz rfl (x := .ref TO) rfl ?_)
  refine wpAny_bind (wpAny_setField_rec gz (by simp) fun b1 zb1 w1 => ?_)
  replace zb1 : IsZip b1 z TI TO .ellipsis := zb1
  refine wpAny_bind ?_
  simp only [List.zipIdx_cons, List.zipIdx_nil, List.forIn_cons, List.forIn_nil]
  refine wpAny_bind (wpAny_bind (wpAny_onRaise ?_))
  show wpAny _ _ (Builtin.SmallTypes.nextOf (.ref j1) >>= _) _ _ _
  cases hu : us[n1]? with
  | none =>
    refine wpAny_bind (over_src hA (t1.over w1.extBut D.i1z) (s1.over w1.extBut D.l1z) hu fun b2 e w2 he => ?_)
    obtain ⟨oe, ge, ce⟩ := he
    have zb2 : IsZip b2 z TI TO .ellipsis := w2 _ _ D.i1z.symm zb1
    have ne : e ≠ z := fun q => by subst q; rw [zb2] at ge; cases ge; simp at ce
    refine wpAny_setField_rec zb2 (by simp) fun b3 _ w3 => hE b3 e (fun c o d1 _ d3 _ q => w3.extBut _ _ d1 (w2 _ _ d3 (w1.extBut _ _ d1 q))) ⟨oe, w3.extBut _ _ ne ge, ce⟩
  | some u =>
    have hv : vs[n2]? = none := by rcases hend with q | q; rw [hu] at q; cases q; exact q
    refine wpAny_bind (turn_src (t1.over w1.extBut D.i1z) (s1.over w1.extBut D.l1z) hu fun b2 y1 w2 => wpAny_pure ?_)
    have o2 : IsPair b2 TO p0 p1 := w2.extBut _ _ D.TOi1 (w1.extBut _ _ D.TOz go)
    refine wpAny_bind (wpAny_seqItems o2 rfl ?_)
    refine wpAny_bind (wpAny_updateSeq_pair o2 fun b3 o3 w3 => ?_)
    refine wpAny_bind (wpAny_letGo (wpAny_pure ?_))
    refine wpAny_bind (wpAny_bind (wpAny_onRaise ?_))
    show wpAny _ _ (Builtin.SmallTypes.nextOf (.ref j2) >>= _) _ _ _
    refine wpAny_bind (over_src hA (((t2.over w1.extBut D.i2z).over w2.extBut D.i12.symm).over w3.extBut D.TOi2.symm) (((s2.over w1.extBut D.l2z).over w2.extBut D.l2i1).over w3.extBut D.l2TO) hv fun b4 e w4 he => ?_)
    obtain ⟨oe, ge, ce⟩ := he
    have zb4 : IsZip b4 z TI TO .ellipsis := w4 _ _ D.i2z.symm (w3.extBut _ _ D.TOz.symm (w2.extBut _ _ D.i1z.symm zb1))
    have ne : e ≠ z := fun q => by subst q; rw [zb4] at ge; cases ge; simp at ce
    refine wpAny_setField_rec zb4 (by simp) fun b5 _ w5 => hE b5 e (fun c o d1 d2 d3 d4 q => w5.extBut _ _ d1 (w4 _ _ d4 (w3.extBut _ _ d2 (w2.extBut _ _ d3 (w1.extBut _ _ d1 q))))) ⟨oe, w5.extBut _ _ ne ge, ce⟩
theorem mix_next {m1 m2 : Bool} {z TI TO j1 j2 a1 a2 : Addr} {n1 n2 : Nat} {us vs : Array Value} {u v p0 p1 : Value} {Q : Option Value → Shared → Prop} (D : ZipApart z TI TO j1 j2 a1 a2)
    (gz : IsZip s.heap z TI TO .none) (gi : IsPair s.heap TI (.ref j1) (.ref j2)) (go : IsPair s.heap TO p0 p1) (t1 : ItAt m1 s.heap j1 a1 n1) (t2 : ItAt m2 s.heap j2 a2 n2) (s1 : SrcAt m1 s.heap a1 us) (s2 : SrcAt m2 s.heap a2 vs) (hu : us[n1]? = some u) (hv : vs[n2]? = some v)
    (hQ : ∀ g, IsZip g z TI TO (rawInt s.heap.objs.size) → IsPair g TO u v → ItAt m1 g j1 a1 (n1 + 1) → ItAt m2 g j2 a2 (n2 + 1) → IsPair g s.heap.objs.size u v → g.objs.size = s.heap.objs.size + 1 → Beside z TO j1 j2 s.heap g → Q (some (.ref s.heap.objs.size)) { s with heap := g }) :
    wpAny (model prog w) A (pyNext (.ref z)) Q E s := by
  have ty : s.TypeIs (.ref z) "zip" := ⟨_, gz, rfl⟩
  unfold pyNext
  exact wpAny_bind (wpAny_attempt (wpAny_callSpecial?_slot (name := Str.ofString "__next__") ty PySem.F.slot_zip_next
    (wpAny_call_entry PySem.F.slot_zip_next ty PySem.F.entry_zip_next (mix_item D gz gi go t1 t2 s1 s2 hu hv fun g c1 c2 c3 c4 c5 c6 c7 => wpAny_pure (hQ g c1 c2 c3 c4 c5 c6 c7)) (PySem.F.args_zip_next_1 _))))
theorem mix_stop {m1 m2 : Bool} {z TI TO j1 j2 a1 a2 : Addr} {n1 n2 : Nat} {us vs : Array Value} {p0 p1 : Value} {Q : Option Value → Shared → Prop} (hA : A.handled = none) (D : ZipApart z TI TO j1 j2 a1 a2)
    (gz : IsZip s.heap z TI TO .none) (gi : IsPair s.heap TI (.ref j1) (.ref j2)) (go : IsPair s.heap TO p0 p1) (t1 : ItAt m1 s.heap j1 a1 n1) (t2 : ItAt m2 s.heap j2 a2 n2) (s1 : SrcAt m1 s.heap a1 us) (s2 : SrcAt m2 s.heap a2 vs) (hend : us[n1]? = none ∨ vs[n2]? = none)
    (hQ : ∀ g, Beside z TO j1 j2 s.heap g → Q none { s with heap := g }) : wpAny (model prog w) A (pyNext (.ref z)) Q E s := by
  have ty : s.TypeIs (.ref z) "zip" := ⟨_, gz, rfl⟩
  unfold pyNext
  refine wpAny_bind (wpAny_attempt (wpAny_callSpecial?_slot (name := Str.ofString "__next__") ty PySem.F.slot_zip_next
    (wpAny_call_entry PySem.F.slot_zip_next ty PySem.F.entry_zip_next (mix_end hA D gz gi go t1 t2 s1 s2 hend fun g e bs he => ?_) (PySem.F.args_zip_next_1 _))))
  obtain ⟨o, ho, hc⟩ := he
  refine wpAny_bind (wpAny_isInstance (T := "StopIteration") (b := true) ⟨o, ho, hc⟩ isSubtype_stop ?_)
  exact wpAny_pure (hQ _ bs)
end
end L3

namespace L3
open PySem PySem.W PySem.Spec PyProof.Rows PyProof.V L2
def itObj (k : Bool) (l : Addr) : Obj := { cls := .type (bif k then "list_iterator" else "tuple_iterator"), data := .fields #[.ref l, .int 0 0] }
abbrev mixH1 (m1 : Bool) (h : Heap) (a1 : Addr) : Heap := h.push (itObj m1 a1)
abbrev mixH2 (m1 m2 : Bool) (h : Heap) (a1 a2 : Addr) : Heap := (mixH1 m1 h a1).push (itObj m2 a2)
abbrev mixH3 (m1 m2 : Bool) (h : Heap) (a1 a2 : Addr) : Heap := (mixH2 m1 m2 h a1 a2).push { cls := .type "tuple", data := .seq #[.ref h.objs.size, .ref (mixH1 m1 h a1).objs.size] }
abbrev mixH4 (m1 m2 : Bool) (h : Heap) (a1 a2 : Addr) : Heap := (mixH3 m1 m2 h a1 a2).push { cls := .type "tuple", data := .seq #[.none, .none] }
abbrev mixH5 (m1 m2 : Bool) (h : Heap) (a1 a2 : Addr) : Heap := (mixH4 m1 m2 h a1 a2).push { cls := .type "zip", data := .fields #[.none, .bool false, .bool false, .ref (mixH2 m1 m2 h a1 a2).objs.size, .ref (mixH3 m1 m2 h a1 a2).objs.size] }
theorem itObj_at {k : Bool} {h : Heap} {l : Addr} {b : Addr} (g : h.get? b = some (itObj k l)) : ItAt k h b l 0 := by
  cases k with
  | true => exact ⟨_, g, rfl, rfl⟩
  | false => exact ⟨_, g, rfl, rfl⟩
theorem itObj_free (k : Bool) (l : Addr) : (itObj k l).isFreed = false := by cases k <;> rfl
theorem meets_tl (a1 a2 : Addr) (us vs : Array Value) : Meets (Builtin.«zip.__new__» ⟨[.type "zip", .ref a1, .ref a2], []⟩) (fun _ R s => s.heap.IsTuple a1 us ∧ s.heap.IsList a2 vs ∧
      R (.ok (.ret (.ref (mixH4 false true s.heap a1 a2).objs.size))) { s with heap := mixH5 false true s.heap a1 a2 }) :=
  .of_wp fun prog w A R s p => by
    obtain ⟨hp, g, d, tk, os⟩ := s; obtain ⟨q1, q2, p⟩ := p
    have hsub := sub_zip
    have r1 : Heap.IsTuple (Shared.heap ⟨hp, g, d, tk, os⟩) a1 us := q1
    have r2 : Heap.IsList (Shared.heap ⟨hp.push { cls := .type "tuple_iterator", data := .fields #[.ref a1, .int 0 0] }, g, d, tk, os⟩) a2 vs := Heap.IsList.push q2 _
    wp_walk using wpAny_pyIter_tuple r1, wpAny_pyIter_list r2
    exact ⟨_, rfl, p⟩
theorem meets_lt (a1 a2 : Addr) (us vs : Array Value) : Meets (Builtin.«zip.__new__» ⟨[.type "zip", .ref a1, .ref a2], []⟩) (fun _ R s => s.heap.IsList a1 us ∧ s.heap.IsTuple a2 vs ∧
      R (.ok (.ret (.ref (mixH4 true false s.heap a1 a2).objs.size))) { s with heap := mixH5 true false s.heap a1 a2 }) :=
  .of_wp fun prog w A R s p => by
    obtain ⟨hp, g, d, tk, os⟩ := s; obtain ⟨q1, q2, p⟩ := p
    have hsub := sub_zip
    have r1 : Heap.IsList (Shared.heap ⟨hp, g, d, tk, os⟩) a1 us := q1
    have r2 : Heap.IsTuple (Shared.heap ⟨hp.push { cls := .type "list_iterator", data := .fields #[.ref a1, .int 0 0] }, g, d, tk, os⟩) a2 vs := Heap.IsTuple.push q2 _
    wp_walk using wpAny_pyIter_list r1, wpAny_pyIter_tuple r2
    exact ⟨_, rfl, p⟩
section
variable {prog : Program} {w : World} {A : Around} {E : Value → Shared → Prop} {s : Shared}
theorem call_mix {m1 m2 : Bool} (hm : m1 = !m2) {a1 a2 : Addr} {us vs : Array Value} {Q : Value → Shared → Prop} (q1 : SrcAt m1 s.heap a1 us) (q2 : SrcAt m2 s.heap a2 vs)
    (hQ : ∀ g, IsZip g (s.heap.objs.size + 4) (s.heap.objs.size + 2) (s.heap.objs.size + 3) .none → IsPair g (s.heap.objs.size + 2) (.ref s.heap.objs.size) (.ref (s.heap.objs.size + 1)) →
      IsPair g (s.heap.objs.size + 3) .none .none → ItAt m1 g s.heap.objs.size a1 0 → ItAt m2 g (s.heap.objs.size + 1) a2 0 → (∀ c o, s.heap.get? c = some o → g.get? c = some o) → Q (.ref (s.heap.objs.size + 4)) { s with heap := g }) :
    wpAny (model prog w) A (call (.type "zip") [.ref a1, .ref a2]) Q E s := by
  have fin : Q (.ref (mixH4 m1 m2 s.heap a1 a2).objs.size) { s with heap := mixH5 m1 m2 s.heap a1 a2 } := by
    have e1 : (mixH1 m1 s.heap a1).objs.size = s.heap.objs.size + 1 := Heap.size_push ..
    have e2 : (mixH2 m1 m2 s.heap a1 a2).objs.size = s.heap.objs.size + 2 := by rw [Heap.size_push, e1]
    have e3 : (mixH3 m1 m2 s.heap a1 a2).objs.size = s.heap.objs.size + 3 := by rw [Heap.size_push, e2]
    have e4 : (mixH4 m1 m2 s.heap a1 a2).objs.size = s.heap.objs.size + 4 := by rw [Heap.size_push, e3]
    have k5 : (mixH5 m1 m2 s.heap a1 a2).get? (mixH4 m1 m2 s.heap a1 a2).objs.size = some _ := Heap.get?_push_size _ rfl
    have k4 : (mixH5 m1 m2 s.heap a1 a2).get? (mixH3 m1 m2 s.heap a1 a2).objs.size = some _ := Heap.get?_push_of_some _ (Heap.get?_push_size _ rfl)
    have k3 : (mixH5 m1 m2 s.heap a1 a2).get? (mixH2 m1 m2 s.heap a1 a2).objs.size = some _ := Heap.get?_push_of_some _ (Heap.get?_push_of_some _ (Heap.get?_push_size _ rfl))
    have k2 : (mixH5 m1 m2 s.heap a1 a2).get? (mixH1 m1 s.heap a1).objs.size = some _ := Heap.get?_push_of_some _ (Heap.get?_push_of_some _ (Heap.get?_push_of_some _ (Heap.get?_push_size _ (itObj_free _ _))))
    have k1 : (mixH5 m1 m2 s.heap a1 a2).get? s.heap.objs.size = some _ := Heap.get?_push_of_some _ (Heap.get?_push_of_some _ (Heap.get?_push_of_some _ (Heap.get?_push_of_some _ (Heap.get?_push_size _ (itObj_free _ _)))))
    rw [e2, e3, e4] at k5
    rw [e1, e2] at k3
    rw [e3] at k4
    rw [e1] at k2
    rw [e4]
    exact hQ _ k5 k3 k4 (itObj_at k1) (itObj_at k2) fun c o x => Heap.get?_push_of_some _ (Heap.get?_push_of_some _ (Heap.get?_push_of_some _ (Heap.get?_push_of_some _ (Heap.get?_push_of_some _ x))))
  cases m2 with
  | true =>
    subst hm
    refine callType_new PySem.F.called_zip (by decide) (PySem.F.typeCall_zip_2 _ _) (PySem.F.newCall_zip_2 _ _) (fun obj => PySem.F.args_object_init_3 obj _ _) PySem.F.entry_zip_new (meets_tl a1 a2 us vs) ⟨q1, q2, ?_⟩
    exact ⟨⟨_, (show (mixH5 false true s.heap a1 a2).get? (mixH4 false true s.heap a1 a2).objs.size = some _ from Heap.get?_push_size _ rfl), rfl⟩, fin⟩
  | false =>
    subst hm
    refine callType_new PySem.F.called_zip (by decide) (PySem.F.typeCall_zip_2 _ _) (PySem.F.newCall_zip_2 _ _) (fun obj => PySem.F.args_object_init_3 obj _ _) PySem.F.entry_zip_new (meets_lt a1 a2 us vs) ⟨q1, q2, ?_⟩
    exact ⟨⟨_, (show (mixH5 true false s.heap a1 a2).get? (mixH4 true false s.heap a1 a2).objs.size = some _ from Heap.get?_push_size _ rfl), rfl⟩, fin⟩
end
end L3

namespace L3
open PySem PySem.W PySem.Spec PyProof.Rows PyProof.V L2
def SqX (K : PySem.W.Frag) (m : Bool) (H : Hp) (a : Addr) (xs : List V) : Prop := bif m then SqL K H a xs else SqT K H a xs
theorem inv_src {X : Cx} {pins : List (Addr × Obj)} {σ : L2.St} {H : Hp} {s : Shared} {m : Bool} {a : Addr} {xs : List V} (I : Inv X pins σ H s) (q : SqX X.K m H a xs) : ∃ us, Vals xs us ∧ SrcAt m s.heap a us.toArray := by
  cases m with
  | true => obtain ⟨us, r, p, _⟩ := I.list q; exact ⟨us, r, p.isList⟩
  | false => obtain ⟨us, r, p, _⟩ := I.tuple q; exact ⟨us, r, p⟩
theorem inv_same {X : Cx} {pins : List (Addr × Obj)} {σ : L2.St} {H : Hp} {s : Shared} {m : Bool} {a : Addr} {xs ys : List V} (I : Inv X pins σ H s) (p : SqX X.K m H a xs) (q : SqX X.K m H a ys) : xs = ys := by
  cases m with
  | true => exact I.list_inj p q
  | false => exact I.tuple_inj p q
theorem src_low {m : Bool} {h : Heap} {a : Addr} {arr : Array Value} (p : SrcAt m h a arr) : a < h.objs.size := by
  cases m with
  | true => obtain ⟨o, e, _⟩ := p; exact Heap.lt_size e
  | false => obtain ⟨o, e, _⟩ := p; exact Heap.lt_size e
def ItzX (K : PySem.W.Frag) (m1 m2 : Bool) (a b : Addr) : It :=
  ⟨fun i H => ∃ (xs ys : List V) (x y : V), SqX K m1 H a xs ∧ SqX K m2 H b ys ∧ xs[i]? = some x ∧ ys[i]? = some y,
    fun i H v H' => ∃ T x y, v = .ref T ∧ H T = none ∧ H' = upd H T (.tup [x, y]) ∧ (∀ xs, SqX K m1 H a xs → xs[i]? = some x) ∧ ∀ ys, SqX K m2 H b ys → ys[i]? = some y,
    fun i H => ∃ xs ys : List V, SqX K m1 H a xs ∧ SqX K m2 H b ys ∧ (xs.length ≤ i ∨ ys.length ≤ i)⟩
abbrev MixSt (m1 m2 : Bool) (z TI TO j1 j2 a b : Addr) (i : Nat) (h : Heap) : Prop := IsZip h z TI TO .none ∧ IsPair h TI (.ref j1) (.ref j2) ∧ (∃ x y, IsPair h TO x y) ∧ ItAt m1 h j1 a i ∧ ItAt m2 h j2 b i
theorem five {c z TI TO j1 j2 : Addr} (m : c ∈ [z, TI, TO, j1, j2]) : c = z ∨ c = TI ∨ c = TO ∨ c = j1 ∨ c = j2 := by simpa using m
theorem mix_cell {m1 m2 : Bool} {z TI TO j1 j2 a b c : Addr} {i : Nat} {h : Heap} (st : MixSt m1 m2 z TI TO j1 j2 a b i h) (m : c ∈ [z, TI, TO, j1, j2]) : c < h.objs.size := by
  obtain ⟨g1, g2, ⟨x, y, g3⟩, g4, g5⟩ := st
  rcases five m with q | q | q | q | q
  · rw [q]; exact Heap.lt_size g1
  · rw [q]; exact Heap.lt_size g2
  · rw [q]; exact Heap.lt_size g3
  · rw [q]; obtain ⟨o, e, _⟩ := g4.obj; exact Heap.lt_size e
  · rw [q]; obtain ⟨o, e, _⟩ := g5.obj; exact Heap.lt_size e
theorem turn_mix {P : Program} {w : World} {K : PySem.W.Frag} {elts : List Expr} {kk : Nat} {tpos : Pos} {m1 m2 : Bool} {a b z TI TO j1 j2 : Addr} (D : ZipApart z TI TO j1 j2 a b) :
    Turn P w K (.Tuple elts kk tpos) (ItzX K m1 m2 a b) [z, TI, TO, j1, j2] z (MixSt m1 m2 z TI TO j1 j2 a b) where
  mem := by simp
  obj := fun i h st c hc => by
    obtain ⟨g1, g2, ⟨x, y, g3⟩, g4, g5⟩ := st
    rcases five hc with q | q | q | q | q
    · rw [q]; exact ⟨_, g1, fun v q => nomatch q⟩
    · rw [q]; exact ⟨_, g2, fun v q => nomatch q⟩
    · rw [q]; exact ⟨_, g3, fun v q => nomatch q⟩
    · rw [q]; obtain ⟨o, e, d⟩ := g4.obj; exact ⟨o, e, fun v q => by rw [d] at q; cases q⟩
    · rw [q]; obtain ⟨o, e, d⟩ := g5.obj; exact ⟨o, e, fun v q => by rw [d] at q; cases q⟩
  keep := fun i h h' st f => by
    obtain ⟨g1, g2, ⟨x, y, g3⟩, g4, g5⟩ := st
    exact ⟨f z (by simp) _ g1, f TI (by simp) _ g2, ⟨x, y, f TO (by simp) _ g3⟩, g4.kept fun o q => f j1 (by simp) o q, g5.kept fun o q => f j2 (by simp) o q⟩
  item := by
    intro X hP hw hK hc i pins s σ H E I hf st hg
    subst hP hw hK
    have low : ∀ c ∈ [z, TI, TO, j1, j2], c < s.heap.objs.size := fun c m => mix_cell st m
    obtain ⟨g1, g2, ⟨x0, y0, g3⟩, g4, g5⟩ := st
    obtain ⟨xs, ys, x, y, qx, qy, hx, hy⟩ := hg
    obtain ⟨us, r1, p1⟩ := inv_src I qx
    obtain ⟨vs, r2, p2⟩ := inv_src I qy
    obtain ⟨u, hu, ru⟩ := r1.get hx
    obtain ⟨v, hv, rv⟩ := r2.get hy
    refine mix_next D g1 g2 g3 g4 g5 p1 p2 (u := u) (v := v) (by simpa using hu) (by simpa using hv) fun g zz oo t1 t2 pp sz bs => ?_
    refine ⟨_, rfl, wpAny_letOwnedTupleGo_zip (s := { s with heap := g }) zz fun g' zz' sb => ?_⟩
    have low0 := low z (by simp)
    have pp' : g'.get? s.heap.objs.size = some { cls := .type "tuple", data := .seq #[u, v] } := (sb.2 _ (Nat.ne_of_gt low0)).trans pp
    have new : ObjOk X.prog X.w (upd H s.heap.objs.size (.tup [x, y])) g' s.heap.objs.size (.tup [x, y]) := ⟨by show 2 ≤ sizeLine; decide, [u, v], .cons ru (.cons rv .nil), ⟨_, pp', rfl, _, rfl⟩⟩
    have J : Inv X pins σ (upd H s.heap.objs.size (.tup [x, y])) { s with heap := g' } := I.turnedNew (t' := s.toks) (ch := [z, TI, TO, j1, j2]) (fun c o nb q => (sb.2 c (fun e => nb (by simp [e]))).trans (bs c o (fun e => nb (by simp [e])) (fun e => nb (by simp [e])) (fun e => nb (by simp [e])) (fun e => nb (by simp [e])) q)) hf (Nat.le_refl _) new
    refine ⟨.ref s.heap.objs.size, _, J, rfl, ⟨_, x, y, rfl, I.hok.fresh (Nat.le_refl _), rfl, fun l hl => by rw [inv_same I hl qx]; exact hx, fun l hl => by rw [inv_same I hl qy]; exact hy⟩, ⟨zz', ?_, ⟨u, v, ?_⟩, ?_, ?_⟩, fun c m => ?_⟩
    · exact (sb.2 _ D.TIz).trans (bs _ _ D.TIz D.TITO D.TIi1 D.TIi2 g2)
    · exact (sb.2 _ D.TOz).trans oo
    · exact t1.kept fun o q => (sb.2 _ D.i1z).trans q
    · exact t2.kept fun o q => (sb.2 _ D.i2z).trans q
    · rw [upd_ne (Nat.ne_of_lt (low c m))]
      exact (hf c m).1
  done := by
    intro X hP hw hK hc i pins s σ H E I hf st hg
    subst hP hw hK
    obtain ⟨g1, g2, ⟨x0, y0, g3⟩, g4, g5⟩ := st
    obtain ⟨xs, ys, qx, qy, hend⟩ := hg
    obtain ⟨us, r1, p1⟩ := inv_src I qx
    obtain ⟨vs, r2, p2⟩ := inv_src I qy
    have l1 := r1.length
    have l2 := r2.length
    have he : us.toArray[i]? = none ∨ vs.toArray[i]? = none := by
      rcases hend with q | q
      · exact .inl (by simp; omega)
      · exact .inr (by simp; omega)
    exact mix_stop (I.ok.hd hc) D g1 g2 g3 g4 g5 p1 p2 he fun g bs => ⟨rfl, I.turnedL (t' := s.toks) (ch := [z, TI, TO, j1, j2]) (fun c o nb q => bs c o (fun e => nb (by simp [e])) (fun e => nb (by simp [e])) (fun e => nb (by simp [e])) (fun e => nb (by simp [e])) q) hf⟩
  self := fun A i s Q E st h => wpAny_pyIter_zip st.1 h
def iZipB (K : PySem.W.Frag) (ta : TA) : TI := fun σ H R => ta σ H fun vs H1 => ∃ a b xs ys, vs = [.ref a, .ref b] ∧ ((SqL K H1 a xs ∧ SqL K H1 b ys ∧ R (Itz K a b) H1) ∨ (SqT K H1 a xs ∧ SqT K H1 b ys ∧ R (RZ.ItzT K a b) H1) ∨ ∃ m1 m2, m1 = !m2 ∧ SqX K m1 H1 a xs ∧ SqX K m2 H1 b ys ∧ R (ItzX K m1 m2 a b) H1)
theorem pi_zipB {X : Cx} {e e2 : Expr} {ta : TA} {p pos tpos : Pos} {elts : List Expr} {kk : Nat} (hg : Gl X "zip") (hm : X.mg "zip" = none) (ha : PA X [e, e2] ta)
    (hs : starEach [e, e2] X.env = (false, eval e X.env) :: starEach [e2] X.env := by rfl) (hpl : (backTo pos (starEach [e2] X.env)).any (·.1) = false := by rfl) :
    PI X (.Tuple elts kk tpos) (.Call (.Name "zip" p) [e, e2] [] pos) (iZipB X.K ta) := by
  refine ⟨fun pins s σ H R I h => ?_⟩
  refine Call_ (ld_blt I hg hm PyProof.Rows.boot_zip (PyProof.Rows.callWith_type1 (thn (ha.run pos pins s σ H _ I h) fun us u ⟨vs, H1, J, r, q⟩ => ?_) hs hpl))
  obtain ⟨a, b, xs, ys, ex, q⟩ := q
  subst ex
  cases r with
  | cons ra r =>
    cases r with
    | cons rb r =>
      cases r
      cases ra
      cases rb
      have fresh : ∀ c, c ∈ [u.heap.objs.size + 4, u.heap.objs.size + 2, u.heap.objs.size + 3, u.heap.objs.size, u.heap.objs.size + 1] → FpOk X pins H1 c := fun c m => by
        have hle : u.heap.objs.size ≤ c := by
          rcases five m with z | z | z | z | z
          · rw [z]; exact Nat.le_add_right _ _
          · rw [z]; exact Nat.le_add_right _ _
          · rw [z]; exact Nat.le_add_right _ _
          · rw [z]; exact Nat.le_refl _
          · rw [z]; exact Nat.le_add_right _ _
        exact J.fpOk hle (J.hok.fresh hle)
      rcases q with ⟨qx, qy, q⟩ | ⟨qx, qy, q⟩ | ⟨m1, m2, hmm, qx, qy, q⟩
      · obtain ⟨_, _, p1, _⟩ := J.list qx
        obtain ⟨_, _, p2, _⟩ := J.list qy
        refine call_zip_2 p1.isList p2.isList fun g gz gi go t1 t2 sz bs => wpAny_pyIter_zip gz ?_
        have J2 : Inv X pins σ H1 { u with heap := g } := J.kept (t' := u.toks) bs
        exact ⟨u.heap.objs.size + 4, [u.heap.objs.size + 4, u.heap.objs.size + 2, u.heap.objs.size + 3, u.heap.objs.size, u.heap.objs.size + 1], _, _, H1, rfl, J2, turn_zip (PySem.W.ktu_apart u.heap.objs.size a b p1.lt p2.lt), ⟨gz, gi, ⟨_, _, go⟩, t1, t2⟩, fresh, q⟩
      · obtain ⟨_, _, p1, _⟩ := J.tuple qx
        obtain ⟨_, _, p2, _⟩ := J.tuple qy
        have low1 := src_low (m := false) p1
        have low2 := src_low (m := false) p2
        refine RZ.call_zipT p1 p2 fun g gz gi go t1 t2 sz bs => wpAny_pyIter_zip gz ?_
        have J2 : Inv X pins σ H1 { u with heap := g } := J.kept (t' := u.toks) bs
        exact ⟨u.heap.objs.size + 4, [u.heap.objs.size + 4, u.heap.objs.size + 2, u.heap.objs.size + 3, u.heap.objs.size, u.heap.objs.size + 1], _, _, H1, rfl, J2, RZ.turn_zipT (PySem.W.ktu_apart u.heap.objs.size a b low1 low2), ⟨gz, gi, ⟨_, _, go⟩, t1, t2⟩, fresh, q⟩
      · obtain ⟨_, _, p1⟩ := inv_src J qx
        obtain ⟨_, _, p2⟩ := inv_src J qy
        refine call_mix hmm p1 p2 fun g gz gi go t1 t2 bs => wpAny_pyIter_zip gz ?_
        have J2 : Inv X pins σ H1 { u with heap := g } := J.kept (t' := u.toks) bs
        exact ⟨u.heap.objs.size + 4, [u.heap.objs.size + 4, u.heap.objs.size + 2, u.heap.objs.size + 3, u.heap.objs.size, u.heap.objs.size + 1], _, _, H1, rfl, J2, turn_mix (PySem.W.ktu_apart u.heap.objs.size a b (src_low p1) (src_low p2)), ⟨gz, gi, ⟨_, _, go⟩, t1, t2⟩, fresh, q⟩
end L3

namespace L3
open PySem PySem.Spec PyProof.Rows L2

inductive Yl (K : PySem.W.Frag) (G H : Hp) : V → Hp → D → Prop
  | same {x : V} {d : D} : Dq K G x d → Yl K G H x H d
  | tup {T : Addr} {xs : List V} {es : List D} : H T = none → DqAll K G xs es → Yl K G H (.ref T) (upd H T (.tup xs)) (.tuple es)
structure ItOk (K : PySem.W.Frag) (G : Hp) (J : It) (ds : List D) : Prop where
  go : ∀ i H, Sub G H → i < ds.length → J.go i H
  yld : ∀ i H x H', Sub G H → i < ds.length → J.yld i H x H' → ∃ d, ds[i]? = some d ∧ Yl K G H x H' d
  stop : ∀ i H, Sub G H → ds.length ≤ i → J.stop i H
theorem Yl.wd {K : PySem.W.Frag} {io : Option Addr} {L G G1 H H' : Hp} {σ : L2.St} {s : S} {x : V} {d : D} (y : Yl K G H x H' d) (sb : Sub G G1) (w : Wd K io L G1 σ s H) : ∃ G2, Sub G1 G2 ∧ Wd K io L G2 σ s H' ∧ Dq K G2 x d := by
  cases y with
  | same r => exact ⟨G1, Sub.refl _, w, sb.dp r⟩
  | tup hn r =>
    rename_i T xs es
    have s1 : Sub G1 (upd G1 T (.tup xs)) := Sub.new (w.sub.none hn)
    exact ⟨_, s1, w.grow hn, .tup (SqT.of upd_same) (s1.dpAll (sb.dpAll r))⟩
section
variable {K : PySem.W.Frag} {G : Hp} {a b : Addr} {xs ys : List V} {ds es : List D}
theorem itok_list (h : SqL K G a xs) (r : DqAll K G xs ds) : ItOk K G (Itl K a) ds where
  go := fun i H sb hi => by
    have hx : i < xs.length := by rw [r.length]; exact hi
    exact ⟨xs, xs[i], sb.l h, List.getElem?_eq_getElem hx⟩
  yld := fun i H x H' sb _ y => by
    obtain ⟨e, y⟩ := y
    subst e
    obtain ⟨d, e1, dp⟩ := r.get' (y xs (sb.l h))
    exact ⟨d, e1, .same dp⟩
  stop := fun i H sb hi => ⟨xs, sb.l h, by rw [r.length]; exact hi⟩
theorem itok_tup (h : SqT K G a xs) (r : DqAll K G xs ds) : ItOk K G (Itt K a) ds where
  go := fun i H sb hi => by
    have hx : i < xs.length := by rw [r.length]; exact hi
    exact ⟨xs, xs[i], sb.t h, List.getElem?_eq_getElem hx⟩
  yld := fun i H x H' sb _ y => by
    obtain ⟨e, y⟩ := y
    subst e
    obtain ⟨d, e1, dp⟩ := r.get' (y xs (sb.t h))
    exact ⟨d, e1, .same dp⟩
  stop := fun i H sb hi => ⟨xs, sb.t h, by rw [r.length]; exact hi⟩
def dRange (lo : Int) (n : Nat) : List D := (List.range n).map fun (i : Nat) => PyData.int (lo + (i : Int))
theorem itok_range (lo : Int) (n : Nat) : ItOk K G (Itr lo n) (dRange lo n) where
  go := fun i H sb hi => by
    have : i < n := by simpa [dRange] using hi
    exact this
  yld := fun i H x H' sb hi y => by
    obtain ⟨e, e2⟩ := y
    subst e e2
    have hn : i < n := by simpa [dRange] using hi
    exact ⟨.int (lo + (i : Int)), by simp [dRange, hn], .same (.int _)⟩
  stop := fun i H sb hi => by
    have : n ≤ i := by simpa [dRange] using hi
    exact this
def dEnum (ds : List D) : List D := (List.range ds.length).zipWith (fun (i : Nat) d => PyData.tuple [.int (i : Int), d]) ds
theorem dEnum_get {ds : List D} {i : Nat} {d : D} (h : ds[i]? = some d) : (dEnum ds)[i]? = some (.tuple [.int (i : Int), d]) := by
  obtain ⟨hi, _⟩ := List.getElem?_eq_some_iff.mp h
  unfold dEnum
  rw [List.getElem?_zipWith, List.getElem?_range hi, h]
theorem dEnum_len {ds : List D} : (dEnum ds).length = ds.length := by unfold dEnum; simp
theorem itok_enumL (h : SqL K G a xs) (r : DqAll K G xs ds) : ItOk K G (Ite K a) (dEnum ds) where
  go := fun i H sb hi => by
    rw [dEnum_len] at hi
    have hx : i < xs.length := by rw [r.length]; exact hi
    exact ⟨xs, xs[i], sb.l h, List.getElem?_eq_getElem hx⟩
  yld := fun i H x H' sb _ y => by
    obtain ⟨T, u, e1, hn, e2, y⟩ := y
    subst e1 e2
    obtain ⟨d, e1, dp⟩ := r.get' (y xs (sb.l h))
    exact ⟨_, dEnum_get e1, .tup hn (.cons (.int _) (.cons dp .nil))⟩
  stop := fun i H sb hi => ⟨xs, sb.l h, by rw [r.length]; rw [dEnum_len] at hi; exact hi⟩
theorem itok_enumT (h : SqT K G a xs) (r : DqAll K G xs ds) : ItOk K G (IteT K a) (dEnum ds) where
  go := fun i H sb hi => by
    rw [dEnum_len] at hi
    have hx : i < xs.length := by rw [r.length]; exact hi
    exact ⟨xs, xs[i], sb.t h, List.getElem?_eq_getElem hx⟩
  yld := fun i H x H' sb _ y => by
    obtain ⟨T, u, e1, hn, e2, y⟩ := y
    subst e1 e2
    obtain ⟨d, e1, dp⟩ := r.get' (y xs (sb.t h))
    exact ⟨_, dEnum_get e1, .tup hn (.cons (.int _) (.cons dp .nil))⟩
  stop := fun i H sb hi => ⟨xs, sb.t h, by rw [r.length]; rw [dEnum_len] at hi; exact hi⟩
def dZip (ds es : List D) : List D := ds.zipWith (fun d e => PyData.tuple [d, e]) es
theorem dZip_get {ds es : List D} {i : Nat} {d e : D} (h : ds[i]? = some d) (h' : es[i]? = some e) : (dZip ds es)[i]? = some (.tuple [d, e]) := by
  unfold dZip
  rw [List.getElem?_zipWith, h, h']
theorem dZip_len {ds es : List D} : (dZip ds es).length = min ds.length es.length := by unfold dZip; simp
theorem itok_zipL (h : SqL K G a xs) (r : DqAll K G xs ds) (h' : SqL K G b ys) (r' : DqAll K G ys es) : ItOk K G (Itz K a b) (dZip ds es) where
  go := fun i H sb hi => by
    rw [dZip_len] at hi
    have hx : i < xs.length := by rw [r.length]; omega
    have hy : i < ys.length := by rw [r'.length]; omega
    exact ⟨xs, ys, xs[i], ys[i], sb.l h, sb.l h', List.getElem?_eq_getElem hx, List.getElem?_eq_getElem hy⟩
  yld := fun i H x H' sb _ y => by
    obtain ⟨T, u, u', e1, hn, e2, y, y'⟩ := y
    subst e1 e2
    obtain ⟨d, e1, dp⟩ := r.get' (y xs (sb.l h))
    obtain ⟨e, e2, dp'⟩ := r'.get' (y' ys (sb.l h'))
    exact ⟨_, dZip_get e1 e2, .tup hn (.cons dp (.cons dp' .nil))⟩
  stop := fun i H sb hi => ⟨xs, ys, sb.l h, sb.l h', by rw [dZip_len] at hi; rw [r.length, r'.length]; omega⟩
theorem SqX.over {m : Bool} {H : Hp} {l : Addr} {zs : List V} (sb : Sub G H) (p : SqX K m G l zs) : SqX K m H l zs := by
  cases m with
  | true => exact sb.l p
  | false => exact sb.t p
theorem itok_mix {m1 m2 : Bool} (h : SqX K m1 G a xs) (r : DqAll K G xs ds) (h' : SqX K m2 G b ys) (r' : DqAll K G ys es) : ItOk K G (ItzX K m1 m2 a b) (dZip ds es) where
  go := fun i H sb hi => by
    rw [dZip_len] at hi
    have hx : i < xs.length := by rw [r.length]; omega
    have hy : i < ys.length := by rw [r'.length]; omega
    exact ⟨xs, ys, xs[i], ys[i], h.over sb, h'.over sb, List.getElem?_eq_getElem hx, List.getElem?_eq_getElem hy⟩
  yld := fun i H x H' sb _ y => by
    obtain ⟨T, u, u', e1, hn, e2, y, y'⟩ := y
    subst e1 e2
    obtain ⟨d, e1, dp⟩ := r.get' (y xs (h.over sb))
    obtain ⟨e, e2, dp'⟩ := r'.get' (y' ys (h'.over sb))
    exact ⟨_, dZip_get e1 e2, .tup hn (.cons dp (.cons dp' .nil))⟩
  stop := fun i H sb hi => ⟨xs, ys, h.over sb, h'.over sb, by rw [dZip_len] at hi; rw [r.length, r'.length]; omega⟩
theorem itok_zipT (h : SqT K G a xs) (r : DqAll K G xs ds) (h' : SqT K G b ys) (r' : DqAll K G ys es) : ItOk K G (RZ.ItzT K a b) (dZip ds es) where
  go := fun i H sb hi => by
    rw [dZip_len] at hi
    have hx : i < xs.length := by rw [r.length]; omega
    have hy : i < ys.length := by rw [r'.length]; omega
    exact ⟨xs, ys, xs[i], ys[i], sb.t h, sb.t h', List.getElem?_eq_getElem hx, List.getElem?_eq_getElem hy⟩
  yld := fun i H x H' sb _ y => by
    obtain ⟨T, u, u', e1, hn, e2, y, y'⟩ := y
    subst e1 e2
    obtain ⟨d, e1, dp⟩ := r.get' (y xs (sb.t h))
    obtain ⟨e, e2, dp'⟩ := r'.get' (y' ys (sb.t h'))
    exact ⟨_, dZip_get e1 e2, .tup hn (.cons dp (.cons dp' .nil))⟩
  stop := fun i H sb hi => ⟨xs, ys, sb.t h, sb.t h', by rw [dZip_len] at hi; rw [r.length, r'.length]; omega⟩
end

structure SI {ι : Type} (X : ι → Cx) (K : PySem.W.Frag) (E : WW) (tg iter : Expr) (f : M (List D)) : Prop where
  ex : ∃ wi, (∀ i, PI (X i) tg iter wi) ∧ ∀ {β : Type} {F : Hp → Out β → Prop} {k : List D → M β} {io L G σ s H} {R : It → Hp → Prop}, FK K E io L σ F → Wd K io L G σ s H → F G (mbind f k s) →
    (∀ J ds s' G' H', Sub G G' → Wd K io L G' σ s' H' → ItOk K G' J ds → F G' (k ds s') → R J H') → wi σ H R
section
variable {ι : Type} {X : ι → Cx} {K : PySem.W.Frag} {E : WW} {tg e e2 : Expr}
def Itx (a : Addr) (o : Obj) (as : List Addr) : It :=
  ⟨fun i H => H a = some (tsO a o) ∧ i < as.length, fun i H x H' => H' = H ∧ ∃ q, as[i]? = some q ∧ x = .ref q, fun i H => H a = some (tsO a o) ∧ as.length ≤ i⟩
theorem ts_at {X : Cx} {pins : List (Addr × Obj)} {σ : L2.St} {H : Hp} {s : Shared} {a : Addr} {o : Obj} (I : Inv X pins σ H s) (h : H a = some (tsO a o)) : s.heap.get? a = some o := (I.hok a _ h).1
theorem ts_entries {a : Addr} {o : Obj} {ks : List (List Int)} {as : List Addr} (h : TsOk a o ks as) : ∃ (es : Array DictEntry) (ep : Nat), o.data = .dict es ep ∧ es.size = as.length ∧ ∀ (i : Nat) (q : Addr), as[i]? = some q → ∃ en, es[i]? = some en ∧ en.key = .ref q := by
  obtain ⟨ep, hd⟩ := h.data
  have hl := h.len
  refine ⟨_, ep, hd, by simp; omega, fun i q hq => ?_⟩
  obtain ⟨hlt, _⟩ := List.getElem?_eq_some_iff.mp hq
  have hk : ks[i]? = some ks[i] := List.getElem?_eq_getElem (by omega)
  exact ⟨⟨hashT ks[i], .ref q, .bool true⟩, by rw [List.getElem?_toArray, List.getElem?_map, (List.getElem?_zip_eq_some (z := (ks[i], q))).mpr ⟨hk, hq⟩]; rfl, rfl⟩
theorem turn_ts {P : Program} {w : World} {K : PySem.W.Frag} {tg : Expr} {a : Addr} {o : Obj} {as : List Addr} {es : Array DictEntry} {ep : Nat} (it : Addr) (hod : o.data = .dict es ep) (hes : es.size = as.length) (hk : ∀ (i : Nat) (q : Addr), as[i]? = some q → ∃ en, es[i]? = some en ∧ en.key = .ref q) :
    Turn P w K tg (Itx a o as) [it] it (fun i h => h.IsKeyIter it a i as.length ep) where
  mem := List.mem_cons_self
  obj := fun i h st b hb => by
    rw [List.mem_singleton.mp hb]
    obtain ⟨ob, e1, _, e3⟩ := st
    exact ⟨ob, e1, fun v z => by rw [e3] at z; cases z⟩
  keep := fun i h h' st k => st.at fun ob e1 => k it List.mem_cons_self ob e1
  item := fun X hP hw hK hc i pins s σ H E I hf st ⟨hd, hi⟩ => by
    subst hP hw hK
    have fr := hf it List.mem_cons_self
    obtain ⟨en, hen, hkey⟩ := hk i _ (List.getElem?_eq_getElem hi)
    refine next_key_item st (ts_at I hd) hod hes hen fun h2 st2 sb => ⟨en.key, rfl, ?_⟩
    have I2 : Inv X pins σ H { s with heap := h2 } := I.turned (t' := s.toks) (fun b ob hb e1 => (sb.2 b hb).trans e1) fr.1 fr.2.1 fr.2.2.2.1 fr.2.2.2.2.1 fr.2.2.2.2.2
    obtain ⟨ob, e1, e2, e3⟩ := id st2
    exact go_of (s := { s with heap := h2 }) e1 e2 e3 (by decide) ⟨.ref as[i], H, I2, hkey, ⟨rfl, _, List.getElem?_eq_getElem hi, rfl⟩, st2, fun b hb => (hf b hb).1⟩
  done := fun X hP hw hK hc i pins s σ H E I hf st ⟨hd, hi⟩ => by
    subst hP hw hK
    have fr := hf it List.mem_cons_self
    exact next_key_end (I.ok.hd hc) st (ts_at I hd) hod hes hi fun h2 eb => ⟨rfl, I.turned (t' := s.toks) (fun b ob hb e1 => eb b ob hb e1) fr.1 fr.2.1 fr.2.2.2.1 fr.2.2.2.2.1 fr.2.2.2.2.2⟩
  self := fun A i s Q E st h => (turn_keysT (P := P) (w := w) (K := K) (tg := tg) (d := a) (kvs := as.map fun _ => ([], V.non)) it hod).self A i s Q E (by rw [List.length_map]; exact st) h
def iSeq (K : PySem.W.Frag) (te : TE) : TI := fun σ H R => te σ H fun x H1 => ∃ a, x = .ref a ∧ ((∃ xs, SqL K H1 a xs ∧ R (Itl K a) H1) ∨ (∃ xs, SqT K H1 a xs ∧ R (Itt K a) H1) ∨ ∃ o ks as, H1 a = some (tsO a o) ∧ TsOk a o ks as ∧ R (Itx a o as) H1)
theorem pi_seq {X : Cx} {tg : Expr} {l : Expr} {tl : TE} (hl : PE X l tl) : PI X tg l (iSeq X.K tl) := by
  refine ⟨fun pins s σ H R I h => ?_⟩
  refine thn (hl.run pins s σ H _ I h) fun v s1 ⟨x, H1, I1, r1, q1⟩ => ?_
  obtain ⟨a, e, q⟩ := q1
  subst e
  cases r1
  have fr : ∀ b, b ∈ [s1.heap.objs.size] → FpOk X pins H1 b := fun b hb => by
    have e : b = s1.heap.objs.size := by simpa using hb
    subst e
    exact I1.fpOk (Nat.le_refl _) (I1.hok.fresh (Nat.le_refl _))
  rcases q with ⟨xs, hq, q⟩ | ⟨xs, hq, q⟩ | ⟨o, ks, as, hq, tk, q⟩
  · obtain ⟨its, rv, p, hz⟩ := I1.list hq
    refine wpAny_pyIter_list p.isList ?_
    exact ⟨s1.heap.objs.size, [s1.heap.objs.size], _, _, H1, rfl, I1.kept (t' := s1.toks) fun b o e => Heap.get?_push_of_some _ e, turn_list a _, ⟨_, Heap.get?_push_size _ rfl, rfl, rfl⟩, fr, q⟩
  · obtain ⟨its, rv, p, hz⟩ := I1.tuple hq
    refine wpAny_pyIter_tuple (show s1.heap.IsTuple a its.toArray from p) ?_
    exact ⟨s1.heap.objs.size, [s1.heap.objs.size], _, _, H1, rfl, I1.kept (t' := s1.toks) fun b o e => Heap.get?_push_of_some _ e, turn_tuple a _, ⟨_, Heap.get?_push_size _ rfl, rfl, rfl⟩, fr, q⟩
  · obtain ⟨es, ep, hdt, hes, hk⟩ := ts_entries tk
    refine iter_keys tk.notSys (ts_at I1 hq) tk.exact hdt (pi_one (tk := s1.toks) I1 _ (turn_ts _ hdt hes hk) ⟨_, Heap.get?_push_size _ rfl, rfl, ?_⟩ q)
    rw [hes] <;> rfl
def itemsM : D → M (List D)
  | .list ds => mret ds
  | .tuple ds => mret ds
  | .dict ((.bool true, _) :: r) => mret (r.map (·.1))
  | .dict kvs => mret (kvs.map (·.2))
  | _ => mstuck
theorem itemsM_ts {ks : List (List Int)} : itemsM (tsD ks) = mret (ks.map itD) := by
  unfold tsD
  show mret ((ks.map fun k => (itD k, PyData.bool true)).map (·.1)) = _
  rw [List.map_map]; rfl
theorem itok_ts {K : PySem.W.Frag} {G : Hp} {a : Addr} {o : Obj} {as : List Addr} {ks : List (List Int)} (h : G a = some (tsO a o)) (tk : TsOk a o ks as) (hk : KeysAt K G as ks) : ItOk K G (Itx a o as) (ks.map itD) where
  go := fun i H sb hi => ⟨sb _ _ h, by rw [List.length_map] at hi; rw [tk.len]; exact hi⟩
  yld := fun i H x H' sb hi y => by
    obtain ⟨rfl, q, hq, rfl⟩ := y
    rw [List.length_map] at hi
    have ek : ks[i]? = some ks[i] := List.getElem?_eq_getElem hi
    obtain ⟨q2, hq2, ht⟩ := hk i _ ek
    rw [hq] at hq2; cases hq2
    exact ⟨itD ks[i], by rw [List.getElem?_map, ek]; rfl, .same (.tup ht (DqAll.ints _))⟩
  stop := fun i H sb hi => ⟨sb _ _ h, by rw [List.length_map] at hi; rw [tk.len]; exact hi⟩
def iVal (f : M D) : M (List D) := mbind f itemsM
theorem iVal_use {β : Type} {f : M D} {g : D → M (List D)} {k : List D → M β} {s : S} : mbind (mbind f g) k s = mbind f (fun d => mbind (g d) k) s := by
  unfold mbind
  cases f s <;> rfl
theorem si_val {f : M D} (hK : ∀ z, (X z).K = K) (h : SV X K E e f) : SI X K E tg e (iVal f) := by
  obtain ⟨t, pe, h⟩ := h.use
  refine ⟨_, fun z => hK z ▸ pi_seq (pe z), fun {β F k io L G σ s H R} fk w hf hq => ?_⟩
  unfold iVal at hf
  rw [iVal_use] at hf
  refine h fk w hf fun v d s' G' H' sb w' dp f => ?_
  match d, dp, f with
  | .list ds, dp, f =>
    cases dp with
    | lst h1 h2 => exact ⟨_, rfl, .inl ⟨_, SqL.of (w'.sub _ _ h1), hq _ ds s' G' H' sb w' (itok_list (SqL.of h1) h2) f⟩⟩
  | .tuple ds, dp, f =>
    cases dp with
    | tup h1 h2 => exact ⟨_, rfl, .inr (.inl ⟨_, w'.sub.t h1, hq _ ds s' G' H' sb w' (itok_tup h1 h2) f⟩)⟩
  | .none, dp, f => exact (fk.stuck f).elim
  | .bool _, dp, f => exact (fk.stuck f).elim
  | .int _, dp, f => exact (fk.stuck f).elim
  | .str _, dp, f => exact (fk.stuck f).elim
  | .dict kvs, dp, f =>
    cases dp with
    | scr ns h1 => exact ⟨_, rfl, .inl ⟨_, w'.sub.l h1, hq _ _ s' G' H' sb w' (itok_list h1 (DqAll.ints ns)) (by
      have e : itemsM (.dict (ns.map fun n => (PyData.none, PyData.int n))) = mret (ns.map PyData.int) := by
        cases ns with
        | nil => rfl
        | cons n ns =>
          show mret (((n :: ns).map fun n => (PyData.none, PyData.int n)).map (·.2)) = _
          rw [List.map_map]; rfl
      rw [e] at f; exact f)⟩⟩
    | @tks _ _ _ ks h1 h2 h3 => exact ⟨_, rfl, .inr (.inr ⟨_, _, _, w'.sub _ _ h1, h2, hq _ _ s' G' H' sb w' (itok_ts h1 h2 h3) (by
      have e := itemsM_ts (ks := ks)
      unfold tsD at e
      rw [e] at f; exact f)⟩)⟩
def rng1 : List D → M (List D)
  | [.int j] => if j.natAbs < 2 ^ 62 then mret (dRange 0 j.toNat) else mstuck
  | _ => mstuck
def rng2 : List D → M (List D)
  | [.int i, .int j] => if i.natAbs < 2 ^ 62 ∧ j.natAbs < 2 ^ 62 then mret (dRange i (j - i).toNat) else mstuck
  | _ => mstuck
theorem mbind_assoc {α β γ : Type} (f : M α) (g : α → M β) (k : β → M γ) : mbind (mbind f g) k = mbind f fun a => mbind (g a) k := by
  funext s
  unfold mbind
  cases f s <;> rfl
theorem evs_bind {β γ : Type} (fs : List (M D)) : ∀ (g : List D → M β) (k : β → M γ), mbind (evs fs g) k = evs fs (fun ds => mbind (g ds) k) := by
  induction fs with
  | nil => intro g k; rfl
  | cons f fs ih =>
    intro g k
    show mbind (mbind f fun x => evs fs fun xs => g (x :: xs)) k = mbind f fun x => evs fs fun xs => mbind (g (x :: xs)) k
    rw [mbind_assoc]
    congr 1
    funext d
    exact ih _ _
theorem si_range1 {a : Expr} {fs : List (M D)} {p pos : Pos} (hg : ∀ z, Gl (X z) "range") (hm : ∀ z, (X z).mg "range" = none) (ha : SAv X K E [a] fs) (hs : ∀ z, starEach [a] (X z).env = [(false, eval a (X z).env)] := by intro _; rfl) : SI X K E tg (.Call (.Name "range" p) [a] [] pos) (evs fs rng1) := by
  obtain ⟨t, pa, h⟩ := ha.ex
  refine ⟨_, fun z => pi_range1 (hg z) (hm z) (pa z) (hs z), fun {β F k io L G σ s H R} fk w hf hq => ?_⟩
  rw [evs_bind] at hf
  refine h fk w hf fun vs ds s' G' H' sb w' dp _ f => ?_
  unfold rng1 at f
  split at f
  · rename_i j _
    split at f
    · rename_i hj
      cases dp with
      | cons d1 d2 => cases d1; cases d2; exact ⟨j, rfl, by omega, by omega, hq _ _ s' G' H' sb w' (itok_range 0 _) f⟩
    · exact (fk.stuck f).elim
  · exact (fk.stuck f).elim
def enM : List D → M (List D)
  | [.list ds] => mret (dEnum ds)
  | [.tuple ds] => mret (dEnum ds)
  | _ => mstuck
theorem si_enum {a : Expr} {fs : List (M D)} {p pos tpos : Pos} {elts : List Expr} {kk : Nat} (hK : ∀ z, (X z).K = K) (hg : ∀ z, Gl (X z) "enumerate") (hm : ∀ z, (X z).mg "enumerate" = none) (ha : SAv X K E [a] fs) (hs : ∀ z, starEach [a] (X z).env = [(false, eval a (X z).env)] := by intro _; rfl) : SI X K E (.Tuple elts kk tpos) (.Call (.Name "enumerate" p) [a] [] pos) (evs fs enM) := by
  obtain ⟨t, pa, h⟩ := ha.ex
  refine ⟨_, fun z => hK z ▸ pi_enumA (hg z) (hm z) (pa z) (hs z), fun {β F k io L G σ s H R} fk w hf hq => ?_⟩
  rw [evs_bind] at hf
  refine h fk w hf fun vs ds s' G' H' sb w' dp _ f => ?_
  unfold enM at f
  split at f
  · cases dp with
    | cons d1 d2 => cases d2; cases d1 with | lst h1 h2 => exact ⟨_, _, rfl, .inl ⟨SqL.of (w'.sub _ _ h1), hq _ _ s' G' H' sb w' (itok_enumL (SqL.of h1) h2) f⟩⟩
  · cases dp with
    | cons d1 d2 => cases d2; cases d1 with | tup h1 h2 => exact ⟨_, _, rfl, .inr ⟨w'.sub.t h1, hq _ _ s' G' H' sb w' (itok_enumT h1 h2) f⟩⟩
  · exact (fk.stuck f).elim
def zipM : List D → M (List D)
  | [.list ds, .list es] => mret (dZip ds es)
  | [.tuple ds, .tuple es] => mret (dZip ds es)
  | [.list ds, .tuple es] => mret (dZip ds es)
  | [.tuple ds, .list es] => mret (dZip ds es)
  | _ => mstuck
theorem si_zip {a b : Expr} {fs : List (M D)} {p pos tpos : Pos} {elts : List Expr} {kk : Nat} (hK : ∀ z, (X z).K = K) (hg : ∀ z, Gl (X z) "zip") (hm : ∀ z, (X z).mg "zip" = none) (ha : SAv X K E [a, b] fs) (hs : ∀ z, starEach [a, b] (X z).env = (false, eval a (X z).env) :: starEach [b] (X z).env := by intro _; rfl) (hpl : ∀ z, (backTo pos (starEach [b] (X z).env)).any (·.1) = false := by intro _; rfl) :
    SI X K E (.Tuple elts kk tpos) (.Call (.Name "zip" p) [a, b] [] pos) (evs fs zipM) := by
  obtain ⟨t, pa, h⟩ := ha.ex
  refine ⟨_, fun z => hK z ▸ pi_zipB (hg z) (hm z) (pa z) (hs z) (hpl z), fun {β F k io L G σ s H R} fk w hf hq => ?_⟩
  rw [evs_bind] at hf
  refine h fk w hf fun vs ds s' G' H' sb w' dp _ f => ?_
  unfold zipM at f
  split at f
  · cases dp with
    | cons d1 d2 => cases d2 with | cons d2 d3 => cases d3; cases d1 with | lst h1 h2 => cases d2 with | lst h3 h4 => exact ⟨_, _, _, _, rfl, .inl ⟨SqL.of (w'.sub _ _ h1), SqL.of (w'.sub _ _ h3), hq _ _ s' G' H' sb w' (itok_zipL (SqL.of h1) h2 (SqL.of h3) h4) f⟩⟩
  · cases dp with
    | cons d1 d2 => cases d2 with | cons d2 d3 => cases d3; cases d1 with | tup h1 h2 => cases d2 with | tup h3 h4 => exact ⟨_, _, _, _, rfl, .inr (.inl ⟨w'.sub.t h1, w'.sub.t h3, hq _ _ s' G' H' sb w' (itok_zipT h1 h2 h3 h4) f⟩)⟩
  · cases dp with
    | cons d1 d2 => cases d2 with | cons d2 d3 => cases d3; cases d1 with | lst h1 h2 => cases d2 with | tup h3 h4 => exact ⟨_, _, _, _, rfl, .inr (.inr ⟨true, false, rfl, SqL.of (w'.sub _ _ h1), w'.sub.t h3, hq _ _ s' G' H' sb w' (itok_mix (m1 := true) (m2 := false) (SqL.of h1) h2 h3 h4) f⟩)⟩
  · cases dp with
    | cons d1 d2 => cases d2 with | cons d2 d3 => cases d3; cases d1 with | tup h1 h2 => cases d2 with | lst h3 h4 => exact ⟨_, _, _, _, rfl, .inr (.inr ⟨false, true, rfl, w'.sub.t h1, SqL.of (w'.sub _ _ h3), hq _ _ s' G' H' sb w' (itok_mix (m1 := false) (m2 := true) h1 h2 (SqL.of h3) h4) f⟩)⟩
  · exact (fk.stuck f).elim
end
end L3

namespace L3
open PySem PySem.Spec PyProof.Rows L2

structure SG {ι : Type} (X : ι → Cx) (K : PySem.W.Frag) (tg : Expr) (is : List Nat) (g : D → S → Option S) : Prop where
  ex : ∃ t, (∀ z, PG (X z) tg t) ∧ ∀ {io L G σ s H v d s'} {Q : L2.St → Hp → Prop}, Wd K io L G σ s H → Dq K G v d → g d s = some s' →
    (∀ σ', (∀ j, j ∉ is → σ'[j]? = σ[j]?) → σ'.length = σ.length → Wd K io L G σ' s' H → Q σ' H) → t v σ H Q
def gN (i : Nat) : D → S → Option S := fun d s => some (s.setv i d)
def S.setvs (s : S) : List Nat → List D → S
  | i :: is, d :: ds => (s.setv i d).setvs is ds
  | _, _ => s
def gT (is : List Nat) : D → S → Option S := fun d s => match d with
  | .tuple ds => if ds.length = is.length then some (s.setvs is ds) else none
  | _ => none
section
variable {ι : Type} {X : ι → Cx} {K : PySem.W.Frag} {E : WW} {tg : Expr}
theorem sg_name {i : Nat} (h : ∀ z, PG (X z) tg (gName i)) : SG X K tg [i] (gN i) := by
  refine ⟨_, h, fun {io L G σ s H v d s' Q} w dp e hq => ?_⟩
  cases e
  exact hq _ (fun j hj => List.getElem?_set_ne (fun e => hj (by rw [e]; exact List.mem_singleton.mpr rfl))) List.length_set (w.setv dp)
theorem gNames_wd {io : Option Addr} {L G H : Hp} {Q : L2.St → Hp → Prop} : ∀ {is : List Nat} {vs : List V} {ds : List D} {σ : L2.St} {s : S}, Wd K io L G σ s H → DqAll K G vs ds → ds.length = is.length →
    (∀ σ', (∀ j, j ∉ is → σ'[j]? = σ[j]?) → σ'.length = σ.length → Wd K io L G σ' (s.setvs is ds) H → Q σ' H) → gNames is vs σ H Q
  | [], vs, [], σ, s, w, dp, hl, hq => by
    cases dp
    exact ⟨rfl, hq σ (fun _ _ => rfl) rfl w⟩
  | i :: is, vs, d :: ds, σ, s, w, dp, hl, hq => by
    cases dp with
    | cons d1 d2 =>
      refine ⟨_, _, rfl, ?_⟩
      refine gNames_wd (w.setv d1) d2 (Nat.succ.inj hl) fun σ' h1 h2 w' => hq σ' (fun j hj => ?_) (h2.trans List.length_set) w'
      rw [h1 j (fun z => hj (List.mem_cons_of_mem _ z)), List.getElem?_set_ne (fun e => hj (by rw [e]; exact List.mem_cons_self))]
  | [], _, _ :: _, _, _, _, _, hl, _ => by cases hl
  | _ :: _, _, [], _, _, _, _, hl, _ => by cases hl
theorem sg_tup {is : List Nat} (h : ∀ z, PG (X z) tg (gTup K is.length (gNames is))) : SG X K tg is (gT is) := by
  refine ⟨_, h, fun {io L G σ s H v d s' Q} w dp e hq => ?_⟩
  unfold gT at e
  split at e
  · rename_i ds
    split at e
    · rename_i hl
      cases e
      cases dp with
      | tup h1 h2 => exact ⟨_, _, rfl, w.sub.t h1, h2.length.trans hl, gNames_wd w h2 hl hq⟩
    · cases e
  · cases e

def loopK (o : Out Fl) (k : M Fl) : Out Fl := match o with
  | .ok .nx s => k s
  | .ok .ct s => k s
  | .ok .bk s => .ok .nx s
  | o => o
def forL (g : D → S → Option S) (b : M Fl) : List D → M Fl
  | [] => mret .nx
  | d :: ds => fun s => match g d s with
    | none => .stuck
    | some s1 => loopK (b s1) (forL g b ds)
def sFor (it : M (List D)) (g : D → S → Option S) (b : M Fl) : M Fl := mbind it (forL g b)
theorem loopK_fin {io : Option Addr} {L G : Hp} {A : Ends} {N : L2.St → Hp → Prop} {o : Out Fl} {k : M Fl} (h : FinS K E io L G A (loopK o k))
    (hN : ∀ σ s G' H, Sub G G' → Wd K io L G' σ s H → FinS K E io L G' A (k s) → N σ H) : FinS K E io L G { A with nx := N, ct := N, bk := A.nx } o := by
  match o, h with
  | .ok .nx s, h => exact fun σ G' H sb w => hN σ s G' H sb w (FinS.mono sb h)
  | .ok .ct s, h => exact fun σ G' H sb w => hN σ s G' H sb w (FinS.mono sb h)
  | .ok .bk s, h => exact h
  | .ok (.rt (.val d)) s, h => exact h
  | .ok (.rt (.new c)) s, h => exact h
  | .exc c d s, h => exact h
theorem ss_for {iter : Expr} {body : List Stmt} {pos : Pos} {it : M (List D)} {is : List Nat} {g : D → S → Option S} {b : M Fl} (hp : ∀ z, PassesOwn (model (X z).prog (X z).w) (X z).A (X z).env (X z).xe) (hc : ∀ z, (X z).calm = true)
    (hi : SI X K E tg iter it) (hg : SG X K tg is g) (hb : SB X K E body b) (hs : ∀ z x, foldedSetIterable iter (X z).env x = pure x := by intro _ _; rfl) : SS X K E (.For tg iter body [] pos) (sFor it g b) := by
  obtain ⟨wi, pi, hi⟩ := hi.ex
  obtain ⟨tgt, pg, hg⟩ := hg.ex
  obtain ⟨tb, pb, hb⟩ := hb.ex
  refine ⟨_, fun z => ps_for (hp z) (hc z) (pi z) (pg z) (pb z) (hs z), fun io L G σ s H A w hf => ?_⟩
  refine hi (fk_finS (A := A)) w hf fun J ds s0 G0 H0 sb0 w0 ok f0 => ?_
  refine ⟨fun i m σ H => m = ds.length - i ∧ i ≤ ds.length ∧ ∃ s G, Sub G0 G ∧ Wd K io L G σ s H ∧ FinS K E io L G A (forL g b (ds.drop i) s), ⟨ds.length, by simp, Nat.zero_le _, s0, G0, Sub.refl _, w0, f0⟩, ?_⟩
  rintro i m σ H ⟨rfl, hil, s, G, sb, w, f⟩
  by_cases hlt : i < ds.length
  · refine .inr ⟨ok.go i H (sb.trans w.sub) hlt, fun σ H => i + 1 ≤ ds.length ∧ ∃ s G, Sub G0 G ∧ Wd K io L G σ s H ∧ FinS K E io L G A (forL g b (ds.drop (i + 1)) s), fun σ' H' h => ⟨ds.length - (i + 1), by omega, rfl, h⟩, fun x H' y => ?_⟩
    obtain ⟨d, e, yl⟩ := ok.yld i H x H' (sb.trans w.sub) hlt y
    obtain ⟨G2, sb2, w2, dp⟩ := yl.wd sb w
    have ed : ds.drop i = d :: ds.drop (i + 1) := by
      rw [List.drop_eq_getElem_cons hlt]
      obtain ⟨_, e2⟩ := List.getElem?_eq_some_iff.mp e
      rw [e2]
    rw [ed] at f
    have f : FinS K E io L G A (match g d s with | none => .stuck | some s1 => loopK (b s1) (forL g b (ds.drop (i + 1)))) := f
    cases eg : g d s with
    | none => rw [eg] at f; exact f.elim
    | some s1 =>
      rw [eg] at f
      refine hg w2 dp eg fun σ' _ _ w3 => ?_
      refine hb io L G2 σ' s1 H' _ w3 (loopK_fin (FinS.mono sb2 f) fun σ4 s4 G4 H4 sb4 w4 f4 => ⟨hlt, s4, G4, (sb.trans sb2).trans sb4, w4, f4⟩)
  · have e : i = ds.length := by omega
    subst e
    rw [List.drop_length] at f
    exact .inl ⟨ok.stop _ H (sb.trans w.sub) (Nat.le_refl _), f σ G H (Sub.refl _) w⟩

end
end L3

namespace L3
open PySem PySem.Spec PyProof.Rows L2

def wipeE (env : List (Option Sl)) : List Nat → List (Option Sl)
  | [] => env
  | v :: vs => (wipeE env vs).set v none
def S.wipe (s : S) (vs : List Nat) : S := { s with env := wipeE s.env vs }
def slotOf (env : List (Option Sl)) (v : Nat) : Option Sl := match env[v]? with
  | some x => x
  | none => none
def backE (env0 : List (Option Sl)) (env : List (Option Sl)) : List Nat → List (Option Sl)
  | [] => env
  | v :: vs => backE env0 (env.set v (slotOf env0 v)) vs
def S.back (s : S) (s0 : S) (vs : List Nat) : S := { s with env := backE s0.env s.env vs }
def okSlot : Option (Option Sl) → Bool
  | some (some (Sl.own _)) => false
  | some (some Sl.io) => false
  | some (some (Sl.stk _)) => false
  | some (some (Sl.top _)) => false
  | _ => true
def S.clean (s : S) (vs : List Nat) : Bool := vs.all fun v => okSlot s.env[v]?

section
variable {K : PySem.W.Frag} {io : Option Addr} {L G G0 H H0 : Hp} {σ : L2.St} {s s0 : S}
theorem Wd.wipe1 {v : Nat} (w : Wd K io L G σ s H) : Wd K io L G (σ.set v none) (s.drop v) H :=
  w.gone _ List.length_set (fun j x hj e => by rw [List.getElem?_set_ne (Ne.symm hj)]; exact e) fun j hj => List.getElem?_set_ne (Ne.symm hj)
theorem Wd.wipe : ∀ {vs : List Nat}, Wd K io L G σ s H → Wd K io L G (L2.wipe σ vs) (s.wipe vs) H
  | [], w => w
  | v :: vs, w => (Wd.wipe (vs := vs) w).wipe1
theorem wipe_at {σ : L2.St} {j : Nat} : ∀ {vs : List Nat}, j ∉ vs → (L2.wipe σ vs)[j]? = σ[j]?
  | [], _ => rfl
  | v :: vs, h => by
    show ((L2.wipe σ vs).set v none)[j]? = σ[j]?
    rw [List.getElem?_set_ne (fun e => h (by rw [e]; exact List.mem_cons_self)), wipe_at (fun z => h (List.mem_cons_of_mem _ z))]
theorem wipe_len {σ : L2.St} : ∀ {vs : List Nat}, (L2.wipe σ vs).length = σ.length
  | [] => rfl
  | v :: vs => by show ((L2.wipe σ vs).set v none).length = _; rw [List.length_set, wipe_len]
theorem Wd.back1 {v : Nat} {σ' : L2.St} (w : Wd K io L G σ s H) (w0 : Wd K io L G0 σ' s0 H0) (sb : Sub G0 G) (hc : okSlot s0.env[v]? = true) : Wd K io L G (σ.set v (σ'[v]?.getD none)) { s with env := s.env.set v (slotOf s0.env v) } H := by
  have w1 : Wd K io L G (σ.set v (σ'[v]?.getD none)) (s.drop v) H :=
    w.gone _ List.length_set (fun j x hj e => by rw [List.getElem?_set_ne (Ne.symm hj)]; exact e) fun j hj => List.getElem?_set_ne (Ne.symm hj)
  unfold slotOf
  cases e : s0.env[v]? with
  | none => exact w1
  | some x =>
    cases x with
    | none => exact w1
    | some x =>
      cases x with
      | val d =>
        obtain ⟨u, eu, dp⟩ := w0.vals v d e
        have w2 := w.setv (i := v) (sb.dp dp)
        rw [eu]
        exact w2
      | own c => rw [e] at hc; cases hc
      | io => rw [e] at hc; cases hc
      | stk _ => rw [e] at hc; cases hc
      | top _ => rw [e] at hc; cases hc
def backS (σ' : L2.St) (σ : L2.St) : List Nat → L2.St
  | [] => σ
  | v :: vs => backS σ' (σ.set v (σ'[v]?.getD none)) vs
theorem Wd.backs {σ' : L2.St} (w0 : Wd K io L G0 σ' s0 H0) (sb : Sub G0 G) : ∀ {vs : List Nat} {σ : L2.St} {s : S}, Wd K io L G σ s H → s0.clean vs = true → Wd K io L G (backS σ' σ vs) (s.back s0 vs) H
  | [], σ, s, w, _ => w
  | v :: vs, σ, s, w, hc => by
    have hc' : okSlot s0.env[v]? = true ∧ s0.clean vs = true := by
      unfold S.clean at hc ⊢
      rw [List.all_cons, Bool.and_eq_true] at hc
      exact hc
    exact Wd.backs (vs := vs) (σ := σ.set v (σ'[v]?.getD none)) (s := { s with env := s.env.set v (slotOf s0.env v) }) w0 sb (w.back1 w0 sb hc'.1) hc'.2
theorem backS_at {σ' : L2.St} {j : Nat} : ∀ {vs : List Nat} {σ : L2.St}, (j ∈ vs ∨ σ[j]? = σ'[j]?) → σ.length = σ'.length → (backS σ' σ vs)[j]? = σ'[j]?
  | [], σ, h, _ => h.elim (fun z => by cases z) id
  | v :: vs, σ, h, hl => by
    show (backS σ' (σ.set v _) vs)[j]? = _
    refine backS_at ?_ (by rw [List.length_set]; exact hl)
    by_cases e : v = j
    · subst e
      right
      by_cases hv : v < σ.length
      · rw [List.getElem?_set_self hv]
        rw [List.getElem?_eq_getElem (by omega)]; rfl
      · rw [List.getElem?_eq_none (by simpa using hv), List.getElem?_eq_none (by omega)]
    · rcases h with h | h
      · rcases List.mem_cons.mp h with h | h
        · exact absurd h.symm e
        · exact .inl h
      · exact .inr (by rw [List.getElem?_set_ne e]; exact h)
theorem wipe_in {σ : L2.St} {j : Nat} : ∀ {vs : List Nat}, j ∈ vs → j < σ.length → (L2.wipe σ vs)[j]? = some none
  | v :: vs, h, hl => by
    show ((L2.wipe σ vs).set v none)[j]? = some none
    by_cases e : v = j
    · subst e
      exact List.getElem?_set_self (by rw [wipe_len]; exact hl)
    · rw [List.getElem?_set_ne e]
      rcases List.mem_cons.mp h with q | q
      · exact absurd q.symm e
      · exact wipe_in q hl
theorem backS_wipe {σ : L2.St} {vs : List Nat} : backS σ (L2.wipe σ vs) vs = σ := by
  apply List.ext_getElem?
  intro j
  refine backS_at ?_ wipe_len
  by_cases h : j ∈ vs
  · exact .inl h
  · exact .inr (wipe_at h)
end

def compL (g : D → S → Option S) (c : M Bool) (f : M D) (vs : List Nat) : List D → List D → M (List D)
  | [], acc => fun s => .ok acc (s.wipe vs)
  | d :: ds, acc => fun s => match g d (s.wipe vs) with
    | none => .stuck
    | some s1 => mbind c (fun b => if b then mbind f fun x => if acc.length < sizeLine then compL g c f vs ds (acc ++ [x]) else mstuck else compL g c f vs ds acc) s1
def eComp (it : M (List D)) (vs : List Nat) (g : D → S → Option S) (c : M Bool) (f : M D) : M R := mbind it fun ds s0 => if s0.clean vs then (match compL g c f vs ds [] s0 with
  | .ok acc s => .ok (.new (.lst acc)) (s.back s0 vs)
  | _ => .stuck) else .stuck
structure STs {ι : Type} (X : ι → Cx) (K : PySem.W.Frag) (E : WW) (ifs : List Expr) (f : M Bool) : Prop where
  ex : ∃ t, (∀ i, PTs (X i) ifs t) ∧ ∀ io L G σ s H Q, Wd K io L G σ s H → FinT K E io L σ G Q (f s) → t σ H Q
section
variable {ι : Type} {X : ι → Cx} {K : PySem.W.Frag} {E : WW}
theorem sts_nil : STs X K E [] (mret true) := ⟨_, fun _ => pts_nil, fun io L G σ s H Q w hf => hf G H (Sub.refl _) w⟩
theorem sts_one {c : Expr} {f : M Bool} (h : ST X K E c f) : STs X K E [c] f := let ⟨t, p, q⟩ := h.ex; ⟨t, fun z => pts_one (p z), q⟩
theorem STs.use {ifs : List Expr} {f : M Bool} (h : STs X K E ifs f) : ∃ t, (∀ i, PTs (X i) ifs t) ∧ ∀ {β : Type} {F : Hp → Out β → Prop} {k : Bool → M β} {io L G σ s H} {Q : Bool → Hp → Prop}, FK K E io L σ F → Wd K io L G σ s H → F G (mbind f k s) →
    (∀ b s' G' H', Sub G G' → Wd K io L G' σ s' H' → F G' (k b s') → Q b H') → t σ H Q := by
  obtain ⟨t, pe, h⟩ := h.ex
  refine ⟨t, pe, fun {β F k io L G σ s H Q} fk w hf hq => h io L G σ s H Q w ?_⟩
  unfold mbind at hf
  cases e : f s with
  | stuck => rw [e] at hf; exact fk.stuck hf
  | ok d s' => rw [e] at hf; exact fun G' H' sb w' => hq d s' G' H' sb w' (fk.mono sb hf)
  | exc c d s' => rw [e] at hf; exact fk.exc hf
abbrev BI (ι : Type) : Type := ι × Shared × Hp × Addr × List (Str × Addr) × List Addr
abbrev blkX (X : ι → Cx) (scope : Scope) : BI ι → Cx := fun z => (X z.1).blk z.2.1 z.2.2.1 scope (compEnvC scope z.2.2.2.2.1 z.2.2.2.1 (X z.1).env) z.2.2.2.2.2
def CEnd (K : PySem.W.Frag) (E : WW) (io : Option Addr) (L : Hp) (σ : L2.St) (vs : List Nat) (s0 : S) (Q : VK) (G : Hp) : Out (List D) → Prop
  | .ok acc s => Fin K E io L σ G Q (.ok (.new (.lst acc)) (s.back s0 vs))
  | _ => False
theorem cend_fk {io : Option Addr} {L L' : Hp} {σ σ' : L2.St} {vs : List Nat} {s0 : S} {Q : VK} {E' : WW} : FK K E' io L' σ' (CEnd K E io L σ vs s0 Q) :=
  ⟨fun h => h, fun h => h.elim, fun {G G' o} e h => by
    match o, h with
    | .ok acc s, h => exact Fin.mono (E := E) (o := .ok (.new (.lst acc)) (s.back s0 vs)) e h⟩
theorem comp_ex {elt tg iter : Expr} {ifs : List Expr} {scope : Scope} {own : List (Str × Nat)} {it : M (List D)} {is : List Nat} {g : D → S → Option S} {c : M Bool} {f : M D} (hi : SI X K E tg iter it)
    (hg : SG (blkX X scope) K tg is g) (his : ∀ j ∈ is, j ∈ own.map (·.2)) (ht : STs (blkX X scope) K WW0 ifs c) (he : SV (blkX X scope) K WW0 elt f) :
    ∃ wi tgt tt te, (∀ z, PI (X z) tg iter wi) ∧ (∀ z, PG (blkX X scope z) tg tgt) ∧ (∀ z, PTs (blkX X scope z) ifs tt) ∧ (∀ z, PE (blkX X scope z) elt te) ∧
      ∀ io L G σ s H Q, Wd K io L G σ s H → Fin K E io L σ G Q (eComp it (own.map (·.2)) g c f s) → tLc wi tgt tt te (own.map (·.2)) σ H Q := by
  obtain ⟨wi, pi, hi⟩ := hi.ex
  obtain ⟨tgt, pg, hg⟩ := hg.ex
  obtain ⟨tt, pt, ht⟩ := ht.use
  obtain ⟨te, pe, he⟩ := he.use
  refine ⟨wi, tgt, tt, te, pi, pg, pt, pe, fun io L G σ s H Q w hf => ?_⟩
  generalize own.map (·.2) = vs at his hf ⊢
  refine hi (fk_fin (Q := Q)) w hf fun J ds s0 G0 H0 sb0 w0 ok0 f0 => ?_
  split at f0
  · rename_i hcl
    have f0 : CEnd K E io L σ vs s0 Q G0 (compL g c f vs ds [] s0) := by
      cases e : compL g c f vs ds [] s0 with
      | stuck => rw [e] at f0; exact f0.elim
      | exc _ _ _ => rw [e] at f0; exact f0.elim
      | ok acc s => rw [e] at f0; exact f0
    intro Da hD
    have hL : L Da = none := (w0.fresh (o := .lst []) hD).1
    refine ⟨fun i m H => m = ds.length - i ∧ i ≤ ds.length ∧ ∃ s G acc xs, Sub G0 G ∧ Wd K io (upd L Da (.lst xs)) G (L2.wipe σ vs) (S.wipe s vs) H ∧ DqAll K G xs acc ∧ CEnd K E io L σ vs s0 Q G (compL g c f vs (ds.drop i) acc s), ⟨ds.length, by simp, Nat.zero_le _, s0, G0, [], [], Sub.refl _, Wd.wipe (w0.fresh hD).2, .nil, f0⟩, ?_⟩
    rintro i m H ⟨rfl, hil, s, G, acc, xs, sb, w, ra, fe⟩
    have hHD : H Da = some (.lst xs) := (w.loose Da _ upd_same).2
    by_cases hlt : i < ds.length
    · refine .inr ⟨ok0.go i H (sb.trans w.sub) hlt, fun H => i + 1 ≤ ds.length ∧ ∃ s G acc xs, Sub G0 G ∧ Wd K io (upd L Da (.lst xs)) G (L2.wipe σ vs) (S.wipe s vs) H ∧ DqAll K G xs acc ∧ CEnd K E io L σ vs s0 Q G (compL g c f vs (ds.drop (i + 1)) acc s), fun H' h => ⟨ds.length - (i + 1), by omega, rfl, h⟩, fun x H' y => ?_⟩
      obtain ⟨d, e, yl⟩ := ok0.yld i H x H' (sb.trans w.sub) hlt y
      obtain ⟨G2, sb2, w2, dp⟩ := yl.wd sb w
      have ed : ds.drop i = d :: ds.drop (i + 1) := by
        rw [List.drop_eq_getElem_cons hlt]
        obtain ⟨_, e2⟩ := List.getElem?_eq_some_iff.mp e
        rw [e2]
      rw [ed] at fe
      have fe : CEnd K E io L σ vs s0 Q G (match g d (s.wipe vs) with
        | none => .stuck
        | some s1 => mbind c (fun b => if b then mbind f fun x => if acc.length < sizeLine then compL g c f vs (ds.drop (i + 1)) (acc ++ [x]) else mstuck else compL g c f vs (ds.drop (i + 1)) acc) s1) := fe
      cases eg : g d (s.wipe vs) with
      | none => rw [eg] at fe; exact fe.elim
      | some s1 =>
        rw [eg] at fe
        refine hg w2 dp eg fun σ2 hσ hl w3 => ?_
        have ew : L2.wipe σ2 vs = L2.wipe σ vs := by
          apply List.ext_getElem?
          intro j
          by_cases hj : j ∈ vs
          · have q : ∀ (τ : L2.St), τ.length = σ.length → (L2.wipe τ vs)[j]? = if j < σ.length then some none else none := fun τ hτ => by
              by_cases hlt : j < σ.length
              · rw [if_pos hlt]; exact wipe_in hj (by omega)
              · rw [if_neg hlt, List.getElem?_eq_none (by rw [wipe_len]; omega)]
            rw [q σ2 (by rw [hl, wipe_len]), q σ rfl]
          · rw [wipe_at hj, wipe_at hj, hσ j (fun z => hj (his j z)), wipe_at hj]
        refine ⟨ew, ?_⟩
        refine ht (cend_fk (E := E) (L := L) (σ := σ) (vs := vs) (s0 := s0) (Q := Q)) w3 ((cend_fk (E' := WW0) (L' := L) (σ' := σ)).mono sb2 fe) fun b s4 G4 H4 sb4 w4 f4 => ?_
        cases b with
        | false =>
          refine iteF ⟨hlt, s4, G4, acc, xs, (sb.trans sb2).trans sb4, ?_, (sb2.trans sb4).dpAll ra, f4⟩
          rw [← ew]; exact Wd.wipe w4
        | true =>
          refine iteT (he (cend_fk (E := E) (L := L) (σ := σ) (vs := vs) (s0 := s0) (Q := Q)) w4 f4 fun v x s5 G5 H5 sb5 w5 dp5 f5 => ?_)
          split at f5
          · rename_i hsz
            have ra5 := (sb2.trans (sb4.trans sb5)).dpAll ra
            refine ⟨xs, (w5.loose Da _ upd_same).2, by rw [ra5.length]; exact hsz, hlt, s5, G5, acc ++ [x], xs ++ [v], sb.trans (sb2.trans (sb4.trans sb5)), ?_, ra5.append (.cons dp5 .nil), f5⟩
            rw [← ew]; exact Wd.wipe (w5.writeL hL)
          · exact f5.elim
    · have e : i = ds.length := by omega
      subst e
      rw [List.drop_length] at fe
      refine .inl ⟨ok0.stop _ H (sb.trans w.sub) (Nat.le_refl _), ?_⟩
      have fe : Fin K E io L σ G Q (.ok (.new (.lst acc)) ((s.wipe vs).back s0 vs)) := fe
      have wb := Wd.backs (vs := vs) (w0.fresh (o := .lst xs) hD).2 (sb) w hcl
      rw [backS_wipe] at wb
      exact fe Da _ G H (Sub.refl _) hL wb (.lst ra)
  · exact f0.elim

theorem se_comp {elt tg iter : Expr} {ifs : List Expr} {scope : Scope} {own : List (Str × Nat)} {pos : Pos} {it : M (List D)} {is : List Nat} {g : D → S → Option S} {c : M Bool} {f : M D} (hc : ∀ z, (X z).calm = true) (hN : ∀ z, (X z).N.Nodup) (hi : SI X K E tg iter it)
    (ok : ∀ z, BlkOk (X z).N (X z).env.scope scope own) (hg : SG (blkX X scope) K tg is g) (his : ∀ j ∈ is, j ∈ own.map (·.2)) (ht : STs (blkX X scope) K WW0 ifs c) (he : SV (blkX X scope) K WW0 elt f)
    (hs : ∀ z x, foldedSetIterable iter (X z).env x = pure x := by intro _ _; rfl) :
    SE X K E (.ListComp elt [⟨tg, iter, ifs, 0⟩] scope pos) (eComp it (own.map (·.2)) g c f) := by
  obtain ⟨wi, tgt, tt, te, pi, pg, pt, pe, h⟩ := comp_ex hi hg his ht he
  exact ⟨_, fun z => pe_lc (hc z) (hN z) (pi z) (ok z) (fun s H C cl fp => pg (z, s, H, C, cl, fp)) (fun s H C cl fp => pt (z, s, H, C, cl, fp)) (fun s H C cl fp => pe (z, s, H, C, cl, fp)) (hs z), h⟩
theorem ss_setC {i : Nat} {y : Str} {py : Pos} {elt tg iter : Expr} {ifs : List Expr} {scope : Scope} {own : List (Str × Nat)} {pos spos : Pos} {it : M (List D)} {is : List Nat} {g : D → S → Option S} {c : M Bool} {f : M D} (hc : ∀ z, (X z).calm = true) (hN : ∀ z, (X z).N.Nodup)
    (hy : ∀ z, (X z).N[i]? = some y) (hyl : ∀ z, (X z).env.scope.names.lookup y = some .local) (hsw : ∀ z, swapsWith (.ListComp elt [⟨tg, iter, ifs, 0⟩] scope pos) (some (.Name y py)) spos.line (X z).env = pure true) (hi : SI X K E tg iter it)
    (ok : ∀ z, BlkOk (X z).N (X z).env.scope scope own) (hg : SG (blkX X scope) K tg is g) (his : ∀ j ∈ is, j ∈ own.map (·.2)) (ht : STs (blkX X scope) K WW0 ifs c) (he : SV (blkX X scope) K WW0 elt f)
    (hs : ∀ z x, foldedSetIterable iter (X z).env x = pure x := by intro _ _; rfl) :
    SS X K E (.Assign [.Name y py] (.ListComp elt [⟨tg, iter, ifs, 0⟩] scope pos) spos) (sSet i (eComp it (own.map (·.2)) g c f)) := by
  obtain ⟨wi, tgt, tt, te, pi, pg, pt, pe, h⟩ := comp_ex hi hg his ht he
  refine ⟨_, fun z => ps_setLc (hc z) (hN z) (hy z) (hyl z) (hsw z) (pi z) (ok z) (fun s H C cl fp => pg (z, s, H, C, cl, fp)) (fun s H C cl fp => pt (z, s, H, C, cl, fp)) (fun s H C cl fp => pe (z, s, H, C, cl, fp)) (hs z), fun io L G σ s H A w hf => ?_⟩
  refine h io L G σ s H _ w ?_
  unfold sSet mbind at hf
  cases e : eComp it (own.map (·.2)) g c f s with
  | stuck => rw [e] at hf; exact hf
  | exc c d s' => rw [e] at hf; exact hf σ
  | ok r s' =>
    rw [e] at hf
    match r, hf with
    | .val d, hf => exact fun v G' H' sb w' dp => hf _ G' H' sb (w'.setv dp)
    | .new c, hf => exact fun a o G' H' sb hL w' rc => hf _ G' H' sb (w'.seto hL rc)

def compI (g1 : D → S → Option S) (c1 : M Bool) (f : M D) (vs1 : List Nat) (k : List D → M (List D)) : List D → List D → M (List D)
  | [], acc => k acc
  | d :: ds, acc => fun s => match g1 d (s.wipe vs1) with
    | none => .stuck
    | some s1 => mbind c1 (fun b => if b then mbind f fun x => if acc.length < sizeLine then compI g1 c1 f vs1 k ds (acc ++ [x]) else mstuck else compI g1 c1 f vs1 k ds acc) s1
def compO (g : D → S → Option S) (c : M Bool) (it1 : M (List D)) (g1 : D → S → Option S) (c1 : M Bool) (f : M D) (vs vs1 : List Nat) : List D → List D → M (List D)
  | [], acc => fun s => .ok acc (s.wipe vs)
  | d :: ds, acc => fun s => match g d (s.wipe vs) with
    | none => .stuck
    | some s1 => mbind c (fun b => if b then mbind it1 fun es => compI g1 c1 f vs1 (compO g c it1 g1 c1 f vs vs1 ds) es acc else compO g c it1 g1 c1 f vs vs1 ds acc) s1
def eComp2 (it : M (List D)) (vs : List Nat) (g : D → S → Option S) (c : M Bool) (it1 : M (List D)) (vs1 : List Nat) (g1 : D → S → Option S) (c1 : M Bool) (f : M D) : M R := mbind it fun ds s0 => if s0.clean vs then (match compO g c it1 g1 c1 f vs vs1 ds [] s0 with
  | .ok acc s => .ok (.new (.lst acc)) (s.back s0 vs)
  | _ => .stuck) else .stuck
end
end L3

namespace L3
open PySem PySem.Spec PyProof.Rows L2

inductive Res where
  | stuck
  | ok (r : R) (box : List D)
  | exc (c : Str) (d : D) (box : List D)
abbrev Fn := List D → List D → Res
def initE (bx : Bool) (n : Nat) (ds : List D) : List (Option Sl) :=
  if bx then some Sl.io :: (ds.map fun d => some (Sl.val d)) ++ List.replicate (n - (ds.length + 1)) none else (ds.map fun d => some (Sl.val d)) ++ List.replicate (n - ds.length) none
def runF (bx : Bool) (n : Nat) (b : M Fl) : Fn := fun ds box => match b ⟨initE bx n ds, box⟩ with
  | .ok (.rt r) s => .ok r s.box
  | .ok .nx s => .ok (.val .none) s.box
  | .exc c d s => .exc c d s.box
  | _ => .stuck
structure Ext (K : PySem.W.Frag) (G H : Hp) (io : Option Addr) (G' H' : Hp) (es : List D) : Prop where
  g : Sub G G'
  h : Sub G' H'
  keep : ∀ b o, H b = some o → G b = none → io ≠ some b → G' b = none ∧ H' b = some o
  box : ∀ a, io = some a → G' a = none ∧ ∃ xs, H' a = some (.lst xs) ∧ DqAll K G' xs es
def RetR (K : PySem.W.Frag) (H G' H' : Hp) (io : Option Addr) (Q : VK) : R → Prop
  | .val d => ∀ v, Dq K G' v d → Q v H'
  | .new c => ∀ a o, H a = none → G' a = none → H' a = some o → RepC K G' a o c → io ≠ some a → Q (.ref a) H'
def vsOf (io : Option Addr) (ws : List V) : List V := match io with
  | some a => .ref a :: ws
  | none => ws
def spF (K : PySem.W.Frag) (bx : Bool) (np : Nat) (g : Fn) : Sp := fun vs H Q _ =>
  ∃ (G : Hp) (io : Option Addr) (ds box : List D) (ws : List V), Sub G H ∧ vs = vsOf io ws ∧ io.isSome = bx ∧ DqAll K G ws ds ∧ vs.length = np ∧ (∀ a, io = some a → G a = none ∧ ∃ xs, H a = some (.lst xs) ∧ DqAll K G xs box) ∧
    match g ds box with
    | .ok r es => ∀ G' H', Ext K G H io G' H' es → RetR K H G' H' io Q r
    | _ => False
section
variable {P : Program} {w : World} {K : PySem.W.Frag} {mg : Str → Option Value} {base : Heap}
theorem part_get {α β : Type} {xs : List α} {n i : Nat} {y : β} {f : α → β} {z : β} (h : (xs.map f ++ List.replicate n z)[i]? = some y) : (∃ x, xs[i]? = some x ∧ y = f x) ∨ (xs[i]? = none ∧ y = z) := by
  by_cases hi : i < (xs.map f).length
  · rw [List.getElem?_append_left hi, List.getElem?_map] at h
    cases e : xs[i]? with
    | none => rw [e] at h; cases h
    | some x => rw [e] at h; exact .inl ⟨x, rfl, (Option.some.inj h).symm⟩
  · rw [List.getElem?_append_right (by omega)] at h
    refine .inr ⟨List.getElem?_eq_none (by simpa using hi), ?_⟩
    rw [List.getElem?_replicate] at h
    split at h
    · exact (Option.some.inj h).symm
    · cases h
theorem start_wd0 {K : PySem.W.Frag} {G H : Hp} {io : Option Addr} {ds box : List D} {ws : List V} {N : List Str} (sb : Sub G H) (hd : DqAll K G ws ds) (hn : (vsOf io ws).length ≤ N.length) (hio : ∀ a, io = some a → G a = none ∧ ∃ xs, H a = some (.lst xs) ∧ DqAll K G xs box) :
    Wd0 K io (fun b => if G b = none ∧ io ≠ some b then H b else none) G (L2.start N (vsOf io ws)) ⟨initE io.isSome N.length ds, box⟩ H := by
  have val : ∀ (i : Nat) (x : Option Sl) (n : Nat), ((ds.map fun d => some (Sl.val d)) ++ List.replicate n none)[i]? = some x → (x = none) ∨ ∃ d v, x = some (Sl.val d) ∧ ws[i]? = some v ∧ Dq K G v d := fun i x n h => by
    rcases part_get h with ⟨d, e1, e2⟩ | ⟨_, e⟩
    · obtain ⟨v, e3, r⟩ := hd.get e1
      exact .inr ⟨d, v, e2, e3, r⟩
    · exact .inl e
  have stw : ∀ (i : Nat) (v : V) (n : Nat), ws[i]? = some v → (ws.map some ++ List.replicate n none)[i]? = some (some v) := fun i v n h => by
    obtain ⟨hi, _⟩ := List.getElem?_eq_some_iff.mp h
    rw [List.getElem?_append_left (by simpa using hi), List.getElem?_map, h]; rfl
  have hl : ws.length = ds.length := hd.length
  cases io with
  | none =>
    refine ⟨sb, ?_, fun i d h => ?_, fun i c h => ?_, fun i j c c' a h => ?_, fun a h => (by cases h), fun i h => ?_, fun a o h => ?_⟩
    · have hn : ws.length ≤ N.length := hn
      show (ws.map some ++ List.replicate (N.length - ws.length) none).length = ((ds.map fun d => some (Sl.val d)) ++ List.replicate (N.length - ds.length) none).length
      simp; omega
    · rcases val i _ _ h with e | ⟨d', v, e1, e2, r⟩
      · cases e
      · cases e1; exact ⟨v, stw i v _ e2, r⟩
    · rcases val i _ _ h with e | ⟨d', v, e1, e2, r⟩
      · cases e
      · cases e1
    · rcases val i _ _ h with e | ⟨d', v, e1, e2, r⟩
      · cases e
      · cases e1
    · rcases val i _ _ h with e | ⟨d', v, e1, e2, r⟩
      · cases e
      · cases e1
    · split at h
      · rename_i q; exact ⟨q.1, h⟩
      · cases h
  | some a =>
    have cons : ∀ (i : Nat) (x : Option Sl), (initE true N.length ds)[i]? = some x → (i = 0 ∧ x = some Sl.io) ∨ ∃ j, i = j + 1 ∧ ((ds.map fun d => some (Sl.val d)) ++ List.replicate (N.length - (ds.length + 1)) none)[j]? = some x := fun i x h => by
      cases i with
      | zero => exact .inl ⟨rfl, (Option.some.inj h).symm⟩
      | succ j => exact .inr ⟨j, rfl, h⟩
    have stc : ∀ (j : Nat) (v : V), ws[j]? = some v → (L2.start N (.ref a :: ws))[j + 1]? = some (some v) := fun j v h => stw j v _ h
    refine ⟨sb, ?_, fun i d h => ?_, fun i c h => ?_, fun i j c c' b h => ?_, fun b h => ?_, fun i h => ?_, fun b o h => ?_⟩
    · have hn : ws.length + 1 ≤ N.length := hn
      show ((V.ref a :: ws).map some ++ List.replicate (N.length - (V.ref a :: ws).length) none).length = (some Sl.io :: (ds.map fun d => some (Sl.val d)) ++ List.replicate (N.length - (ds.length + 1)) none).length
      simp; omega
    · rcases cons i _ h with ⟨_, e⟩ | ⟨j, rfl, h⟩
      · cases e
      · rcases val j _ _ h with e | ⟨d', v, e1, e2, r⟩
        · cases e
        · cases e1; exact ⟨v, stc j v e2, r⟩
    · rcases cons i _ h with ⟨_, e⟩ | ⟨j, rfl, h⟩
      · cases e
      · rcases val j _ _ h with e | ⟨d', v, e1, e2, r⟩
        · cases e
        · cases e1
    · rcases cons i _ h with ⟨_, e⟩ | ⟨j, rfl, h⟩
      · cases e
      · rcases val j _ _ h with e | ⟨d', v, e1, e2, r⟩
        · cases e
        · cases e1
    · cases h
      obtain ⟨g, q⟩ := hio a rfl
      exact ⟨g, by simp, q⟩
    · rcases cons i _ h with ⟨rfl, _⟩ | ⟨j, rfl, h⟩
      · exact ⟨a, rfl, rfl⟩
      · rcases val j _ _ h with e | ⟨d', v, e1, e2, r⟩
        · cases e
        · cases e1
    · split at h
      · rename_i q; exact ⟨q.1, h⟩
      · cases h
theorem initE_plain {bx : Bool} {n : Nat} {ds : List D} {i : Nat} {x : Sl} (h : (initE bx n ds)[i]? = some (some x)) : (∃ d, x = Sl.val d) ∨ x = Sl.io := by
  have hm := List.mem_of_getElem? h
  unfold initE at hm
  split at hm
  · simp only [List.mem_append, List.mem_cons, List.mem_map, List.mem_replicate] at hm
    rcases hm with (hm | ⟨d, _, hm⟩) | hm
    · cases hm; exact .inr rfl
    · cases hm; exact .inl ⟨d, rfl⟩
    · cases hm.2
  · simp only [List.mem_append, List.mem_map, List.mem_replicate] at hm
    rcases hm with ⟨d, _, hm⟩ | hm
    · cases hm; exact .inl ⟨d, rfl⟩
    · cases hm.2
theorem start_wd {K : PySem.W.Frag} {G H : Hp} {io : Option Addr} {ds box : List D} {ws : List V} {N : List Str} (sb : Sub G H) (hd : DqAll K G ws ds) (hn : (vsOf io ws).length ≤ N.length) (hio : ∀ a, io = some a → G a = none ∧ ∃ xs, H a = some (.lst xs) ∧ DqAll K G xs box) :
    Wd K io (fun b => if G b = none ∧ io ≠ some b then H b else none) G (L2.start N (vsOf io ws)) ⟨initE io.isSome N.length ds, box⟩ H := by
  refine ⟨fun _ => none, fun _ _ h => (by cases h), ?_, ⟨fun j rows hj => ?_, fun j j' rows rows' hj _ => ?_⟩⟩
  · have e : un (fun b => if G b = none ∧ io ≠ some b then H b else none) (fun _ => none) = (fun b => if G b = none ∧ io ≠ some b then H b else none) := by
      funext b
      unfold un
      split
      · rename_i h; exact h.symm
      · rename_i h; exact h.symm
    rw [e]
    exact start_wd0 sb hd hn hio
  · rcases initE_plain hj with ⟨d, e⟩ | e <;> cases e
  · rcases initE_plain hj with ⟨d, e⟩ | e <;> cases e
theorem fn_ok {x qual : Str} {st : Stmt} {f : Addr} {fd : FuncData} {N ps : List Str} {k : Nat} {b : M Fl} (bx : Bool) (F : Fun K x qual st f fd) (S : FnScope N ps (defScope st)) (hps : ps.length ≤ N.length)
    (hb : ∀ (cdv : Value) (A : Around) (outer : List Env) (s : Shared) (H : Hp) (E : XK), Room k (A.deeper (envOfC qual (defScope st) s.heap.objs.size f cdv)) →
      SB (fun _ : Unit => (cxOf CX0 P w K mg base N qual (defScope st) f cdv A outer s H E).nox) K WW0 (defBody st) b) : FnOk P w K mg base CX0 (k + 1) f fd ps (spF K bx ps.length (runF bx N.length b)) := by
  refine F.ok S (fun vs H Q E h => ?_) (fun cdv A outer s H vs Q E hr h => ?_)
  · obtain ⟨G, io, ds, box, ws, _, _, _, _, hl, _⟩ := h
    exact hl
  · obtain ⟨G, io, ds, box, ws, sb, rfl, hbx, hd, hl, hio, hg⟩ := h
    obtain ⟨t, p, h⟩ := (hb cdv A outer s H E hr).ex
    refine ⟨t, p (), ?_⟩
    have w0 := start_wd (N := N) sb hd (by omega) hio
    rw [hbx] at w0
    refine h io _ G _ _ H _ w0 ?_
    unfold runF at hg
    have ext : ∀ {L G' H' σ s'}, (∀ b o, H b = some o → G b = none → io ≠ some b → L b = some o) → Sub G G' → Wd K io L G' σ s' H' → Ext K G H io G' H' s'.box := fun {L G' H' σ s'} hL e w' =>
      ⟨e, w'.sub, fun b o h1 h2 h3 => w'.loose b o (hL b o h1 h2 h3), fun a ha => let ⟨g, _, q⟩ := w'.ios a ha; ⟨g, q⟩⟩
    have L0 : ∀ b o, H b = some o → G b = none → io ≠ some b → (if G b = none ∧ io ≠ some b then H b else none) = some o := fun b o h1 h2 h3 => by rw [if_pos ⟨h2, h3⟩]; exact h1
    cases e : b ⟨initE bx N.length ds, box⟩ with
    | stuck => rw [e] at hg; exact hg.elim
    | exc c d s' => rw [e] at hg; exact hg.elim
    | ok fl s' =>
      rw [e] at hg
      match fl, hg with
      | .nx, hg => exact fun σ' G' H' sb' w' => hg G' H' (ext L0 sb' w') _ .non
      | .rt (.val d), hg => exact fun v σ' G' H' sb' w' dp => hg G' H' (ext L0 sb' w') v dp
      | .rt (.new c), hg =>
        intro a o σ' G' H' sb' hL w' rc
        obtain ⟨hG', hH'⟩ := w'.loose a o upd_same
        have hioa : io ≠ some a := fun q => by
          have z := (w'.ios a q).2.1
          rw [upd_same] at z; cases z
        have hG : G a = none := sb'.none hG'
        have hH : H a = none := by
          have hL : (if G a = none ∧ io ≠ some a then H a else none) = none := hL
          rw [if_pos ⟨hG, hioa⟩] at hL
          exact hL
        exact hg G' H' (ext L0 sb' (w'.drop hL)) a o hH hG' hH' rc hioa
      | .bk, hg => exact hg.elim
      | .ct, hg => exact hg.elim
end

section
variable {K : PySem.W.Frag} {io : Option Addr} {L G H G' H' : Hp} {σ : L2.St} {s : S} {es : List D}
theorem Wd0.ext (w : Wd0 K io L G σ s H) (x : Ext K G H none G' H' es) : Wd0 K io L G' σ s H' where
  sub := x.h
  len := w.len
  vals := fun i d h => let ⟨v, e, r⟩ := w.vals i d h; ⟨v, e, x.g.dp r⟩
  owns := fun i c h => by
    obtain ⟨a, o, e, g, ha, r, l, n⟩ := w.owns i c h
    obtain ⟨k1, k2⟩ := x.keep a o ha g (by simp)
    exact ⟨a, o, e, k1, k2, x.g.repC r, l, n⟩
  apart := w.apart
  ios := fun a h => by
    obtain ⟨g, l, xs, h1, h2⟩ := w.ios a h
    obtain ⟨k1, k2⟩ := x.keep a _ h1 g (by simp)
    exact ⟨k1, l, xs, k2, x.g.dpAll h2⟩
  refs := w.refs
  loose := fun a o h => by
    obtain ⟨g, h1⟩ := w.loose a o h
    exact x.keep a o h1 g (by simp)
theorem Wd0.extB {i : Nat} {a : Addr} {ds : List D} (w : Wd0 K io L G σ s H) (hc : s.cell i = some ds) (ea : σ[i]? = some (some (V.ref a))) (x : Ext K G H (some a) G' H' es) : Wd0 K io L G' σ (s.putc i es) H' := by
  obtain ⟨ga, xs, hxa, rxs⟩ := x.box a rfl
  have key : ∀ b o, H b = some o → G b = none → b ≠ a → G' b = none ∧ H' b = some o := fun b o h1 h2 h3 => x.keep b o h1 h2 (fun q => h3 (Option.some.inj q).symm)
  unfold S.cell at hc
  split at hc
  · rename_i ds' q
    unfold S.putc
    rw [q]
    obtain ⟨a', o', e', g0, h0, r0, l0, n0⟩ := w.owns i _ q
    rw [ea] at e'; cases e'
    have neo : ∀ (j : Nat) (c : C) (b : Addr), j ≠ i → s.env[j]? = some (some (Sl.own c)) → σ[j]? = some (some (V.ref b)) → b ≠ a := fun j c b hj h1 h2 e => by
      subst e; exact hj (w.apart j i c _ b h1 q h2 ea)
    refine ⟨x.h, ?_, fun j d h => ?_, fun j c h => ?_, fun j k c c' b h1 h2 h3 h4 => ?_, fun b h => ?_, fun j h => ?_, fun b o h => ?_⟩
    · show σ.length = (s.env.set i _).length; rw [List.length_set]; exact w.len
    · rcases set_cases (l := s.env) h with ⟨rfl, z⟩ | ⟨ne, z⟩
      · cases z
      · obtain ⟨v, e, r⟩ := w.vals j d z; exact ⟨v, e, x.g.dp r⟩
    · rcases set_cases (l := s.env) h with ⟨rfl, z⟩ | ⟨ne, z⟩
      · cases z; exact ⟨a, .lst xs, ea, ga, hxa, .lst rxs, l0, n0⟩
      · obtain ⟨b, o, e, g, hb, r, l, n⟩ := w.owns j c z
        obtain ⟨k1, k2⟩ := key b o hb g (neo j c b (Ne.symm ne) z e)
        exact ⟨b, o, e, k1, k2, x.g.repC r, l, n⟩
    · rcases set_cases (l := s.env) h1 with ⟨rfl, z⟩ | ⟨ne, z⟩
      · rcases set_cases (l := s.env) h2 with ⟨rfl, z'⟩ | ⟨ne', z'⟩
        · rfl
        · exact w.apart _ _ _ _ b q z' h3 h4
      · rcases set_cases (l := s.env) h2 with ⟨rfl, z'⟩ | ⟨ne', z'⟩
        · exact w.apart _ _ _ _ b z q h3 h4
        · exact w.apart _ _ _ _ b z z' h3 h4
    · obtain ⟨g, l, ys, h1, h2⟩ := w.ios b h
      obtain ⟨k1, k2⟩ := key b _ h1 g (fun e => n0 (e ▸ h))
      exact ⟨k1, l, ys, k2, x.g.dpAll h2⟩
    · rcases set_cases (l := s.env) h with ⟨rfl, z⟩ | ⟨ne, z⟩
      · cases z
      · exact w.refs j z
    · obtain ⟨g, h1⟩ := w.loose b o h
      exact key b o h1 g (fun e => by rw [e, l0] at h; cases h)
  · rename_i q
    unfold S.putc
    rw [q]
    obtain ⟨a', eio, e'⟩ := w.refs i q
    rw [ea] at e'; cases e'
    obtain ⟨g0, l0, _⟩ := w.ios a eio
    refine ⟨x.h, w.len, fun j d h => ?_, fun j c h => ?_, w.apart, fun b h => ?_, w.refs, fun b o h => ?_⟩
    · obtain ⟨v, e, r⟩ := w.vals j d h; exact ⟨v, e, x.g.dp r⟩
    · obtain ⟨b, o, e, g, hb, r, l, n⟩ := w.owns j c h
      obtain ⟨k1, k2⟩ := key b o hb g (fun e => n (e ▸ eio))
      exact ⟨b, o, e, k1, k2, x.g.repC r, l, n⟩
    · rw [eio] at h; cases h
      exact ⟨ga, l0, xs, hxa, rxs⟩
    · obtain ⟨g, h1⟩ := w.loose b o h
      exact key b o h1 g (fun e => by rw [e, l0] at h; cases h)
  · cases hc
theorem Wd0.newAt {a : Addr} {o : HO} (w : Wd0 K io L G' σ s H') (hfree : ∀ b u, H b = some u → b ≠ a) (hold : ∀ b u, L b = some u → H b ≠ none) (hcell : ∀ (i : Nat) (c : C) (b : Addr), s.env[i]? = some (some (Sl.own c)) → σ[i]? = some (some (V.ref b)) → b ≠ a) (hio : io ≠ some a)
    (hG : G' a = none) (hH : H' a = some o) : L a = none ∧ Wd0 K io (upd L a o) G' σ s H' := by
  have hL : L a = none := by
    cases q : L a with
    | none => rfl
    | some u =>
      have := hold a u q
      cases z : H a with
      | none => exact absurd z this
      | some v => exact absurd rfl (hfree a v z)
  refine ⟨hL, ⟨w.sub, w.len, w.vals, fun i c h => ?_, w.apart, fun b hb => ?_, w.refs, fun b u hb => ?_⟩⟩
  · obtain ⟨b, u, e, g, hb, r, l, n⟩ := w.owns i c h
    have ne := hcell i c b h e
    exact ⟨b, u, e, g, hb, r, by rw [upd_ne ne]; exact l, n⟩
  · obtain ⟨g, l, q⟩ := w.ios b hb
    have ne : b ≠ a := fun e => hio (e ▸ hb)
    exact ⟨g, by rw [upd_ne ne]; exact l, q⟩
  · by_cases q : b = a
    · subst q; rw [upd_same] at hb; cases hb; exact ⟨hG, hH⟩
    · rw [upd_ne q] at hb; exact w.loose b u hb
theorem Wd.extNew (w : Wd K io L G σ s H) (x : Ext K G H none G' H' es) : Wd K io L G' σ s H' ∧ ∀ a o, H a = none → G' a = none → H' a = some o → L a = none ∧ Wd K io (upd L a o) G' σ s H' := by
  obtain ⟨T, hd, w, st⟩ := w.ex
  refine ⟨⟨T, hd, w.ext x, st.mono x.g⟩, fun a o ha hG hH => ?_⟩
  have nH : ∀ b u, H b = some u → b ≠ a := fun b u q z => by rw [z, ha] at q; cases q
  obtain ⟨hL, w3⟩ := (w.ext x).newAt (H := H) nH (fun b u q z => by rw [(w.loose b u q).2] at z; cases z) (fun i c b h1 h2 => by
    obtain ⟨b', u, e1, _, h3, _⟩ := w.owns i c h1
    rw [h2] at e1; cases e1
    exact nH b u h3) (fun q => by
    obtain ⟨_, _, xs, h1, _⟩ := w.ios a q
    exact nH a _ h1 rfl) hG hH
  rw [← un_upd] at w3
  exact ⟨un_left hL, T, upd_dis hd (un_right hL), w3, st.mono x.g⟩
theorem Wd.ext (w : Wd K io L G σ s H) (x : Ext K G H none G' H' es) : Wd K io L G' σ s H' := (w.extNew x).1
theorem putc_own {s : S} {i j : Nat} {ds : List D} {es : List D} {c : C} (hc : s.cell i = some ds) (h : (s.putc i es).env[j]? = some (some (Sl.own c))) : ∃ c', s.env[j]? = some (some (Sl.own c')) := by
  unfold S.cell at hc
  split at hc
  · rename_i ds' q
    unfold S.putc at h
    rw [q] at h
    rcases set_cases (l := s.env) h with ⟨rfl, z⟩ | ⟨ne, z⟩
    · exact ⟨_, q⟩
    · exact ⟨_, z⟩
  · rename_i q
    unfold S.putc at h
    rw [q] at h
    exact ⟨_, h⟩
  · cases hc
theorem StkOk.putc {T : Hp} {i : Nat} {ds : List D} (st : StkOk K G T σ s.env) (hc : s.cell i = some ds) : StkOk K G T σ (s.putc i es).env := by
  unfold S.cell at hc
  split at hc
  · rename_i ds' q
    unfold S.putc
    rw [q]
    exact st.off (fun _ e => by cases e) (fun _ e => by cases e) fun _ _ => rfl
  · rename_i q
    unfold S.putc
    rw [q]
    exact st
  · cases hc
theorem Wd.extBNew {i : Nat} {a : Addr} {ds : List D} (w : Wd K io L G σ s H) (hc : s.cell i = some ds) (ea : σ[i]? = some (some (V.ref a))) (x : Ext K G H (some a) G' H' es) :
    Wd K io L G' σ (s.putc i es) H' ∧ ∀ a o, H a = none → G' a = none → H' a = some o → L a = none ∧ Wd K io (upd L a o) G' σ (s.putc i es) H' := by
  obtain ⟨T, hd, w, st⟩ := w.ex
  refine ⟨⟨T, hd, w.extB hc ea x, (st.putc hc).mono x.g⟩, fun a o ha hG hH => ?_⟩
  have nH : ∀ b u, H b = some u → b ≠ a := fun b u q z => by rw [z, ha] at q; cases q
  obtain ⟨hL, w3⟩ := (w.extB hc ea x).newAt (H := H) nH (fun b u q z => by rw [(w.loose b u q).2] at z; cases z) (fun i c b h1 h2 => by
    obtain ⟨c', h1⟩ := putc_own hc h1
    obtain ⟨b', u, e1, _, h3, _⟩ := w.owns i c' h1
    rw [h2] at e1; cases e1
    exact nH b u h3) (fun q => by
    obtain ⟨_, _, xs, h1, _⟩ := w.ios a q
    exact nH a _ h1 rfl) hG hH
  rw [← un_upd] at w3
  exact ⟨un_left hL, T, upd_dis hd (un_right hL), w3, (st.putc hc).mono x.g⟩
end
def eCall (g : Fn) (fs : List (M D)) (dd : List D) : M R := evs fs fun ds s => match g (ds ++ dd) [] with
  | .ok r _ => .ok r s
  | _ => .stuck
def eCallB (g : Fn) (i : Nat) (fs : List (M D)) (dd : List D) : M R := fun s => match s.cell i with
  | none => .stuck
  | some _ => evs fs (fun ds s' => match s'.cell i with
    | none => .stuck
    | some bs => match g (ds ++ dd) bs with
      | .ok r bs' => .ok r (s'.putc i bs')
      | _ => .stuck) s
section
variable {ι : Type} {X : ι → Cx} {K : PySem.W.Frag} {E : WW} {e : Expr} {es : List Expr} {fs : List (M D)} {g : Fn}
theorem ret_caller {io io2 : Option Addr} {L G' G2 H' H2 : Hp} {σ : L2.St} {s2 : S} {Q : VK} {r : R} (hw : Wd K io L G2 σ s2 H2 ∧ ∀ a o, H' a = none → G2 a = none → H2 a = some o → L a = none ∧ Wd K io (upd L a o) G2 σ s2 H2) (sb : Sub G' G2)
    (f : Fin K E io L σ G' Q (.ok r s2)) : RetR K H' G2 H2 io2 Q r := by
  match r, f with
  | .val d, f => exact fun v dp => f v G2 H2 sb hw.1 dp
  | .new c, f =>
    intro a o ha hG2 hH2 rc _
    obtain ⟨hL, w3⟩ := hw.2 a o ha hG2 hH2
    exact f a o G2 H2 sb hL w3 rc
theorem se_call {dvs : List V} {dd : List D} {np : Nat} (ha : SAv X K E es fs) (hl : fs.length + dd.length = np) (hd : ∀ G, DqAll K G dvs dd) (hp : ∀ t, (∀ z, PA (X z) es t) → ∀ z, PE (X z) e (tCall (spF K false np g) dvs E0 t)) : SE X K E e (eCall g fs dd) := by
  obtain ⟨t, pa, h⟩ := ha.ex
  refine ⟨_, hp t pa, fun io L G σ s H Q w hf => ?_⟩
  refine h (fk_fin (Q := Q)) w hf fun vs ds s' G' H' sb w' rs hds f => ?_
  refine ⟨G', none, ds ++ dd, [], vs ++ dvs, w'.sub, rfl, rfl, rs.append (hd G'), ?_, fun a h => (by cases h), ?_⟩
  · rw [List.length_append, rs.length, (hd G').length, hds]; exact hl
  · cases eg : g (ds ++ dd) [] with
    | stuck => rw [eg] at f; exact f.elim
    | exc _ _ _ => rw [eg] at f; exact f.elim
    | ok r bs =>
      rw [eg] at f
      intro G2 H2 x
      exact ret_caller (w'.extNew x) x.g f
theorem se_callB {i : Nat} {eb : Expr} {dvs : List V} {dd : List D} {np : Nat} (hb : ∀ z, PE (X z) eb (tVar i)) (ha : SAv X K E es fs) (hl : fs.length + dd.length + 1 = np) (hd : ∀ G, DqAll K G dvs dd) (hs : ∀ z, starEach (eb :: es) (X z).env = (false, eval eb (X z).env) :: starEach es (X z).env)
    (hp : ∀ t, (∀ z, PA (X z) (eb :: es) t) → ∀ z, PE (X z) e (tCall (spF K true np g) dvs E0 t)) : SE X K E e (eCallB g i fs dd) := by
  obtain ⟨t, pa, h⟩ := ha.ex
  refine ⟨_, hp _ fun z => pa_cons (hb z) (pa z) (hs z), fun io L G σ s H Q w hf => ?_⟩
  unfold eCallB at hf
  split at hf
  · exact hf.elim
  · rename_i ds0 e0
    obtain ⟨a, xs0, e1, _⟩ := w.cell e0
    refine ⟨_, e1, ?_⟩
    refine h (fk_fin (Q := Q)) w hf fun vs ds s' G' H' sb w' rs hds f => ?_
    split at f
    · exact f.elim
    · rename_i bs ec
      obtain ⟨a', xs, e2, ga, la, hx, rx, _⟩ := w'.cell ec
      rw [e1] at e2; cases e2
      refine ⟨G', some a, ds ++ dd, bs, vs ++ dvs, w'.sub, rfl, rfl, rs.append (hd G'), ?_, fun b h => (by cases h; exact ⟨ga, xs, hx, rx⟩), ?_⟩
      · rw [List.length_append, List.length_cons, rs.length, (hd G').length, hds]; omega
      · cases eg : g (ds ++ dd) bs with
        | stuck => rw [eg] at f; exact f.elim
        | exc _ _ _ => rw [eg] at f; exact f.elim
        | ok r bs' =>
          rw [eg] at f
          intro G2 H2 x
          exact ret_caller (w'.extBNew ec e1 x) x.g f
end
end L3

namespace L3
open PySem PySem.W PySem.Calls PySem.Spec PyProof.Rows L2
section
variable {K : PySem.W.Frag} {E : WW} {io : Option Addr} {L G H G' H' : Hp} {σ : L2.St} {s : S} {es : List D} {a : Addr} {o : HO}
end
def eCallN (fb : M R) (g : Fn) (fs : List (M D)) (dd : List D) : M R := fun s => match fb s with
  | .ok (.new (.lst b)) s1 => evs fs (fun ds s' => match g (ds ++ dd) b with
    | .ok r _ => .ok r s'
    | _ => .stuck) s1
  | _ => .stuck
section
variable {ι : Type} {X : ι → Cx} {K : PySem.W.Frag} {E : WW} {e : Expr} {es : List Expr} {fs : List (M D)} {g : Fn}
end
end L3

namespace L3
open PySem PySem.W PySem.Calls PySem.Spec PyProof.Rows L2
section
variable {prog : Program} {w : World} {A : Around} {E : Value → Shared → Prop} {s : Shared} {M : Model}
theorem collect_tuple {l : Addr} {vs : List Value} {Q : List Value → Shared → Prop} (hl : s.heap.IsTuple l vs.toArray)
    (h : Q vs { s with heap := (s.heap.push (seqObj "list" #[] 0)).update s.heap.objs.size (Obj.mapSeq (· ++ vs.toArray)) }) (hsz : vs.length ≤ sizeLine) :
    wpAny (model prog w) A (collect (.ref l)) Q E s := by
  obtain ⟨o, ho, hc, n, hd⟩ := id hl
  unfold collect
  refine wpAny_bind (wpAny_runValue (codeAny_builtin entry_proto_collect' ?_))
  show wpAny _ _ (do again (.builtin "list.__iadd__" ⟨[← newList [], .ref l], []⟩)) _ _ s
  refine wpAny_bind (wpAny_newList (wpAny_pure ⟨Code.quiet_builtin _ (by decide +kernel), codeAny_builtin entry_list_iadd' ?_⟩))
  show wpAny _ _ (Builtin.List.listExtendWith (.ref s.heap.objs.size) (.ref l) (.ref s.heap.objs.size)) _ _ { s with heap := s.heap.push (seqObj "list" #[] 0) }
  unfold Builtin.List.listExtendWith
  have ho' : (s.heap.push (seqObj "list" #[] 0)).get? l = some o := Heap.get?_push_of_some _ ho
  refine wpAny_bind (wpAny_typeOf (T := "tuple") ⟨o, ho', hc⟩ ?_)
  have ht : (Value.type "tuple" == Value.type "tuple") = true := by rfl
  rw [if_pos (by rw [ht]; simp)]
  refine wpAny_bind (listItems_at ho' hd ?_)
  refine wpAny_bind (listItems_at (xs := #[]) (n := 0) (Heap.get?_push_size _ rfl) rfl ?_)
  rw [if_neg (by simp)]
  refine wpAny_bind (listUpdate_at (xs := #[]) (n := 0) (Heap.get?_push_size _ rfl) rfl ?_ (Nat.zero_le _) (by show (#[] ++ vs.toArray).size ≤ sizeLine + 1; simp only [Array.size_append, List.size_toArray, List.length_nil]; omega))
  refine wpAny_pure ?_
  show wpAny (model prog w) A (do
      let o ← load s.heap.objs.size
      match o.data with
      | .seq xs _ => pure xs.toList
      | _ => unsupported "internal:collect") Q E { s with heap := (s.heap.push (seqObj "list" #[] 0)).update s.heap.objs.size (Obj.mapSeq (· ++ vs.toArray)) }
  refine wpAny_bind (wpAny_load (get?_update_seq (Heap.get?_push_size _ rfl) _) ?_)
  show wpAny _ _ (pure ((#[] : Array Value) ++ vs.toArray).toList) Q E _
  rw [show ((#[] : Array Value) ++ vs.toArray).toList = vs by simp]
  exact wpAny_pure h
theorem sorted_of_sortT {l : Addr} {vs : List Value} {kw : List (Str × Value)} {Q : Value → Shared → Prop} (hl : s.heap.IsTuple l vs.toArray) (hL : vs.length ≤ sizeLine) (ha1 : argsOk "sorted" ⟨[.ref l], kw⟩) (ha2 : ∀ x, argsOk "list.sort" ⟨[x], kw⟩)
    (body : ∀ E' : Value → Shared → Prop, wpAny (model prog w) A.in1.in1 (Builtin.«list.sort» ⟨[.ref (s.heap.objs.size + 1)], kw⟩) (fun f s' => f = .done (.ret .none) ∧ Q (.ref (s.heap.objs.size + 1)) s') E' { s with heap := copyHeap s.heap vs }) :
    wpAny (model prog w) A (call (.builtin "sorted") [.ref l] kw) Q E s := by
  refine call_function_entry_kw kind_sorted plain_sorted entry_sorted ha1 ?_
  unfold Builtin.«sorted»
  refine wpAny_bind (m := checkCount "sorted" 1 1 _) (wpAny_pure ?_)
  refine wpAny_bind (collect_tuple hl ?_ hL)
  refine wpAny_bind (wpAny_newList ?_ hL)
  have hsz : ((s.heap.push (seqObj "list" #[] 0)).update s.heap.objs.size (Obj.mapSeq (· ++ vs.toArray))).objs.size = s.heap.objs.size + 1 := by
    rw [Heap.size_update, size_push']
  show wpAny _ _ _ _ _ { s with heap := copyHeap s.heap vs }
  rw [hsz]
  refine wpAny_bind (wpAny_holding (wpAny_call_entry_kw slot_list_sort ⟨_, copyHeap_at s.heap vs, rfl⟩ entry_list_sort ?body (ha2 _)))
  case body =>
    show wpAny (model prog w) A.in1.in1 (Builtin.«list.sort» ⟨[.ref (s.heap.objs.size + 1)], kw⟩) _ _ _
    refine wpAny_mono (body _) (fun f s' hf => ?_) fun _ _ e => e
    obtain ⟨rfl, hq⟩ := hf
    exact ⟨_, rfl, wpAny_pure ⟨_, rfl, hq⟩⟩
variable {β : Type} {vs : List Value} {bs : List β} {enc : β → PyData} {R : Value → β → Prop}
end
end L3

namespace L3
open PySem PySem.W PySem.Calls PySem.Spec PySem.SeqAt PyProof.Rows L2
theorem tup_lt_called {prog : Program} {w : World} {A : Around} {s : Shared} {E Q : Value → Shared → Prop} {p q : Addr} {us vs : Array Value} {eq lt : Nat → Bool} (hp : s.heap.IsTuple p us) (hq : s.heap.IsTuple q vs)
    (h1 : ∀ i (a : i < us.size) (b : i < vs.size), EqAt A.in1 s us[i] vs[i] (eq i)) (h2 : ∀ i (a : i < us.size) (b : i < vs.size), eq i = false → RcLt A.in1 s us[i] vs[i] (lt i))
    (hQ : Q (.bool (firstLt eq lt (decide (us.size < vs.size)) (List.range (min us.size vs.size)))) s) : wpAny (model prog w) A (call (.builtin "tuple.__lt__") [.ref p, .ref q]) Q E s := by
  obtain ⟨⟨k1, d1, x1, s1⟩, o1, c1, n1, e1⟩ := id hp
  obtain ⟨⟨k2, d2, x2, s2⟩, o2, c2, n2, e2⟩ := id hq
  dsimp only at c1 e1 c2 e2
  subst c1 e1 c2 e2
  exact call_meets F.slot_tuple_lt ⟨_, o1, rfl⟩ F.entry_tuple_lt (F.args_tuple_lt_2 _ _) (tuple_ltAt p q us vs n1 n2 d1 d2 s1 s2 eq lt) ⟨o1, o2, h1, h2, hQ⟩
section
variable {prog : Program} {w : World} {A : Around} {s : Shared} {E : Value → Shared → Prop}
theorem one_tup {f : Bool} {xs ys : List PyData} {a b : Value} {as bs : List Addr} {Q : Bool → Shared → Prop} (ra : Reads s.heap a (.tuple xs) as) (rb : Reads s.heap b (.tuple ys) bs) (hal : alikeAll xs ys = true) (hu : A.units + min (PyData.tuple xs).depth (PyData.tuple ys).depth < cLine)
    (hq : Q (dataLt (.tuple xs) (.tuple ys)) s) : wpAny (model prog w) A (oneLt' f a b) Q E s := by
  cases f with
  | false => exact oneLt_alike (fun h => absurd h (by decide)) ra rb (by simpa [alike] using hal) (by simp) hu hq
  | true =>
    cases ra with
    | @tuple l o us n _ as₁ h1 h2 h3 h4 =>
      cases rb with
      | @tuple l' o' vs n' _ bs₁ k1 k2 k3 k4 =>
        have m1 : us.size = xs.length := by simpa using SeqAt.ReadsAll.length _ _ _ h4
        have m2 : vs.size = ys.length := by simpa using SeqAt.ReadsAll.length _ _ _ k4
        rw [dataLt_tuple, ← firstLt_toks xs ys hal, ← m1, ← m2] at hq
        rw [oneLt'_eq, if_pos rfl]
        refine wpAny_bind (wpAny_cRoomFor (room_here hu) ?_)
        refine wpAny_bind (wpAny_callSpecialIfBound?_slot (T := "tuple") ⟨_, h1, h2⟩ F.slot_tuple_lt (tup_lt_called (eq := pairEq xs ys) (lt := fun i => dataLt (xs.getD i .none) (ys.getD i .none)) ⟨_, h1, h2, _, h3⟩ ⟨_, k1, k2, _, k3⟩ (fun i i1 i2 => ?_) (fun i i1 i2 hi => ?_) ?_))
        · have z := eqAt_alikeAll xs ys A.in1 s us.toList vs.toList _ _ h4 k4 hal (room_in hu) i (by simpa using i1) (by simpa using i2)
          simpa using z
        · have z := rcLt_alikeAll xs ys A.in1 s us.toList vs.toList _ _ h4 k4 hal (room_in hu) i (by simpa using i1) (by simpa using i2) hi
          simpa using z
        · exact wpAny_truthy_bool hq
def fullTup : PyData → Bool
  | .tuple (_ :: _) => true
  | _ => false
theorem firsts_at : ∀ {vs : List Value} {ds : List PyData}, EachIs (fun v d => ∃ as, Reads s.heap v d as) vs ds → (∀ d ∈ ds, ∃ xs, d = .tuple xs) →
    ∃ fs : List (Option Value), fs.map Option.isSome = ds.map fullTup ∧ ∀ (M : Model) (A : Around) (E : Value → Shared → Prop) (Q : List (Option Value) → Shared → Prop), Q fs s → wpAny M A (vs.mapM firstOfTuple') Q E s
  | _, _, .nil, _ => ⟨[], rfl, fun M A E Q h => by rw [List.mapM_nil]; exact wpAny_pure h⟩
  | _, _, .cons (b := d) ⟨as, r⟩ t, ht => by
    obtain ⟨fs, hf, hw⟩ := firsts_at t fun d hd => ht d (List.mem_cons_of_mem _ hd)
    obtain ⟨xs, rfl⟩ := ht d List.mem_cons_self
    cases r with
    | @tuple l o us n _ _ h1 h2 h3 h4 =>
      have he : (us[0]?).isSome = fullTup (.tuple xs) := by
        cases xs with
        | nil =>
          have : us.size = 0 := by simpa using SeqAt.ReadsAll.length _ _ _ h4
          rw [Array.getElem?_eq_none (by omega)]; rfl
        | cons x xs =>
          have : us.size = (x :: xs).length := by simpa using SeqAt.ReadsAll.length _ _ _ h4
          rw [Array.getElem?_eq_getElem (by rw [this]; simp)]; rfl
      refine ⟨us[0]? :: fs, by rw [List.map_cons, List.map_cons, hf, he], fun M A E Q h => ?_⟩
      rw [List.mapM_cons]
      refine wpAny_bind ?_
      rw [kas_first_eq]
      have hl : Looks M s.heap (typeOf (Value.ref l)) o.cls := (Looks.ld h1).andThen .now
      refine wpAny_bind (hl.here ?_)
      rw [h2, if_neg (by decide)]
      refine wpAny_bind (listItems_at h1 h3 (wpAny_pure ?_))
      exact wpAny_bind (hw M A E _ (wpAny_pure h))
theorem sorts_tuples {vs : List Value} {ds : List PyData} (e : EachIs (fun v d => ∃ as, Reads s.heap v d as) vs ds) (hal : AllAlike ds) (ht : ∀ d ∈ ds, ∃ xs, d = .tuple xs) (hu : ∀ d, d ∈ ds → A.units + d.depth < cLine) : SortsAt prog w A s (dataKind s.heap ds) vs := by
  by_cases hall : ∀ d ∈ ds, fullTup d = true
  · refine SortsAt.data e hal (.inl fun d hd => ?_) hu
    obtain ⟨xs, rfl⟩ := ht d hd
    cases xs with
    | nil => exact absurd (hall _ hd) (by decide)
    | cons x xs => exact ⟨x, xs, rfl⟩
  obtain ⟨fs, hf, hw⟩ := firsts_at e ht
  have hlt : ∀ (kd : SortKind) (f : Bool), (∀ x y, keyLt' kd x y = oneLt' f x y) → H.LtAt prog w A s (dataKind s.heap ds) kd := by
    intro kd f hk E x y a b Q ha hb hq
    obtain ⟨d, as, hd, ra, rfl⟩ := dataKind_inv ha
    obtain ⟨d', as', hd', rb, rfl⟩ := dataKind_inv hb
    obtain ⟨xs, rfl⟩ := ht d hd
    obtain ⟨ys, rfl⟩ := ht d' hd'
    have h1 := hal _ hd _ hd'
    rw [hk]
    exact one_tup ra rb (by simpa [alike] using h1) (Nat.lt_of_le_of_lt (Nat.add_le_add_left (Nat.min_le_left _ _) _) (hu _ hd)) hq
  have hnall : fs.toArray.all (fun x => x.isSome) = false := by
    rw [Bool.eq_false_iff]
    intro h
    refine hall fun d hd => ?_
    have h1 : ∀ b ∈ fs.map Option.isSome, b = true := fun b hb => by
      obtain ⟨x, hx, rfl⟩ := List.mem_map.mp hb
      simp at h
      exact h x hx
    rw [hf] at h1
    exact h1 _ (List.mem_map.mpr ⟨d, hd, rfl⟩)
  refine ⟨fun v hv => ?_, ?_⟩
  · obtain ⟨d, hd, as, r⟩ := e.left v hv
    exact ⟨_, dataKind_some hal hd r⟩
  · by_cases h0 : (fs.toArray[0]?.bind id).isSome = true
    · refine ⟨general', hlt general' false fun _ _ => rfl, fun h2 E Q hq => ?_⟩
      rw [keyKind'_eq, List.mapM_toArray, map_eq_pure_bind]
      refine wpAny_bind (wpAny_bind (hw _ _ _ _ (wpAny_pure ?_)))
      rw [if_neg (by rw [hnall]; decide), if_pos h0]
      exact wpAny_pure hq
    · refine ⟨oneType', hlt oneType' true fun _ _ => rfl, fun h2 E Q hq => ?_⟩
      rw [keyKind'_eq, List.mapM_toArray, map_eq_pure_bind]
      refine wpAny_bind (wpAny_bind (hw _ _ _ _ (wpAny_pure ?_)))
      rw [if_neg (by rw [hnall]; decide), if_neg h0]
      have ety : ∀ v ∈ vs, Looks (model prog w) s.heap (typeOf v) (.type "tuple") := fun v hv => by
        obtain ⟨d, hd, as, r⟩ := e.left v hv
        obtain ⟨xs, rfl⟩ := ht d hd
        exact looks_reads r
      rw [oneTypeOnly'_eq, List.mapM_toArray, map_eq_pure_bind]
      refine wpAny_bind (wpAny_bind (wpAny_bind (kas_mapM (r := Value.type "tuple") _ (fun v hv Q2 q2 => (ety v hv).here q2) (wpAny_pure ?_))))
      cases vs with
      | nil => simp at h2
      | cons v vs =>
        have a1 : ((v :: vs).map fun _ => Value.type "tuple").toArray[0]? = some (Value.type "tuple") := by simp
        have a2 : (((v :: vs).map fun _ => Value.type "tuple").toArray.all fun x => x == Value.type "tuple") = true := by
          simp only [List.all_toArray, List.all_map, List.all_eq_true]
          intro _ _; rfl
        rw [a1]
        simp only [a2, if_true]
        exact wpAny_pure (wpAny_pure hq)
def SortableE (ds : List PyData) : Prop := (∀ d ∈ ds, ∃ xs, d = .tuple xs) ∨ ∀ d ∈ ds, d ≠ .none ∧ ∀ xs, d ≠ .tuple xs
theorem sorts_any {vs : List Value} {ds : List PyData} (e : EachIs (fun v d => ∃ as, Reads s.heap v d as) vs ds) (hal : AllAlike ds) (hk : SortableE ds) (hu : ∀ d, d ∈ ds → A.units + d.depth < cLine) : SortsAt prog w A s (dataKind s.heap ds) vs := by
  rcases hk with hk | hk
  · exact sorts_tuples e hal hk hu
  · exact SortsAt.data e hal (.inr hk) hu
theorem sorted_anyE {β : Type} {vs : List Value} {bs : List β} {enc : β → PyData} {R : Value → β → Prop} {l : Addr} {Q : Value → Shared → Prop} (hl : s.heap.IsList l vs.toArray ∨ s.heap.IsTuple l vs.toArray) (e : EachIs R vs bs) (er : EachIs (fun v b => ∃ as, Reads s.heap v (enc b) as) vs bs)
    (hal : AllAlike (bs.map enc)) (hk : SortableE (bs.map enc)) (hL : bs.length ≤ sizeLine) (hu : ∀ b, b ∈ bs → A.units + 2 + (enc b).depth < cLine)
    (h : ∀ out, out.length = bs.length → EachIs R out (bs.mergeSort (dataLe false enc)) → Q (.ref (s.heap.objs.size + 1)) { s with heap := sortedAll s.heap vs (List.toArray out) }) : wpAny (model prog w) A (call (.builtin "sorted") [.ref l]) Q E s := by
  have hL' : vs.length ≤ sizeLine := by rw [e.length]; exact hL
  have er' : EachIs (fun v b => ∃ as, Reads (sortingHeap (copyHeap s.heap vs) (s.heap.objs.size + 1) vs) v (enc b) as) vs bs := er.mono fun _ _ q => by
    obtain ⟨as, r⟩ := q
    exact ⟨as, PyProof.Rows.Reads.keeps (fun _ _ => sorting_copy_old) r⟩
  have em := each_map (R := fun v d => ∃ as, Reads (sortingHeap (copyHeap s.heap vs) (s.heap.objs.size + 1) vs) v d as) enc er'
  have S := sorts_any (prog := prog) (w := w) (A := A.in1.in1) (s := { s with heap := sortingHeap (copyHeap s.heap vs) (s.heap.objs.size + 1) vs }) em hal hk (bound_map hu)
  have hend := h _ (by rw [sortVals_length false rfl]; exact e.length) (sortVals_data false e er' hal)
  rcases hl with hl | hl
  · exact sorted_vals hl S hL' hend
  · exact sorted_of_sortT hl hL' (args_sorted1 _) (fun _ => args_list_sort _) fun _ => list_sort_vals (s := { s with heap := copyHeap s.heap vs }) (copyHeap_at s.heap vs) S hL' ⟨rfl, hend⟩
end
end L3

namespace L3
open PySem PySem.W PySem.Spec PyProof.Rows L2

def pAdd : D → D → Option PO
  | .int i, .int j => some (.d (.int (i + j)))
  | .list xs, .list ys => if xs.length + ys.length ≤ sizeLine then some (.l (xs ++ ys)) else none
  | .tuple xs, .tuple ys => if xs.length + ys.length ≤ sizeLine then some (.t (xs ++ ys)) else none
  | .str x, .str y => if x.length + y.length ≤ sizeLine then some (.d (.str (x ++ y))) else none
  | _, _ => none
def pSub : D → D → Option PO
  | .int i, .int j => some (.d (.int (i - j)))
  | _, _ => none
def pMul : D → D → Option PO
  | .int i, .int j => if i.natAbs.log2 + j.natAbs.log2 < 1000000 then some (.d (.int (i * j))) else none
  | .list xs, .int k => if -(2 ^ 63) ≤ k ∧ k < 2 ^ 63 ∧ xs.length * k.toNat ≤ sizeLine then some (.l (List.replicate k.toNat xs).flatten) else none
  | _, _ => none
def pDiv : D → D → Option PO
  | .int i, .int j => if 0 < j ∧ j.natAbs.log2 < 9000 then some (.d (.int (i / j))) else none
  | _, _ => none
def pMod : D → D → Option PO
  | .int i, .int j => if 0 < j then some (.d (.int (i % j))) else none
  | _, _ => none
def pPow : D → D → Option PO
  | .int i, .int j => if 0 ≤ j ∧ j ≤ 1000000 ∧ i.natAbs < 2 ^ 64 then some (.d (.int (i ^ j.toNat))) else none
  | _, _ => none
def pNeg : D → Option PO
  | .int i => some (.d (.int (-i)))
  | _ => none
def ordOk (x y : D) : Bool := alike x y && (match x with | .none => false | _ => true) && decide (x.depth ≤ 60)
def pLt : D → D → Option Bool
  | .int i, .int j => some (decide (i < j))
  | x, y => if ordOk x y then some (dataLt x y) else none
def pLe : D → D → Option Bool
  | .int i, .int j => some (decide (i ≤ j))
  | x, y => if ordOk x y then some (!dataLt y x) else none
def pGt : D → D → Option Bool
  | .int i, .int j => some (decide (j < i))
  | x, y => if ordOk x y then some (dataLt y x) else none
def pGe : D → D → Option Bool
  | .int i, .int j => some (decide (j ≤ i))
  | x, y => if ordOk x y then some (!dataLt x y) else none
def pEq (x y : D) : Option Bool := if SeqAt.shaped x && SeqAt.shaped y then some (PyData.eqv x y) else none
def pNe (x y : D) : Option Bool := (pEq x y).map (!·)
def inOk (x : D) (ys : List D) : Bool := x.plain && PyData.plainAll ys && decide (x.depth ≤ 60)
def pIn (x y : D) : Option Bool := match y with
  | .list ys => if inOk x ys then some (ys.any fun z => PyData.eqv z x) else none
  | .tuple ys => if inOk x ys then some (ys.any fun z => PyData.eqv z x) else none
  | _ => none
def pNotIn (x y : D) : Option Bool := (pIn x y).map (!·)
def isNone : D → Bool
  | .none => true
  | _ => false
def bO (f : D → D → Option Bool) (x y : D) : Option PO := (f x y).map fun c => .d (.bool c)
mutual
def noDict : D → Bool
  | .dict _ => false
  | .list xs => noDictAll xs
  | .tuple xs => noDictAll xs
  | _ => true
def noDictAll : List D → Bool
  | [] => true
  | x :: xs => noDict x && noDictAll xs
end
mutual
theorem dq_dp {K : PySem.W.Frag} {H : Hp} : ∀ {d : D} {v : V}, noDict d = true → Dq K H v d → Dp K H v d
  | .none, _, _, h => by cases h; exact .non
  | .bool b, _, _, h => by cases h; exact .bl b
  | .int i, _, _, h => by cases h; exact .int i
  | .str x, _, _, h => by cases h; exact .str x
  | .list ds, _, n, h => by cases h with | lst h1 h2 => exact .lst (SqL.of h1) (dq_dpAll (by simpa [noDict] using n) h2)
  | .tuple ds, _, n, h => by cases h with | tup h1 h2 => exact .tup h1 (dq_dpAll (by simpa [noDict] using n) h2)
  | .dict _, _, n, _ => absurd n (by simp [noDict])
theorem dq_dpAll {K : PySem.W.Frag} {H : Hp} : ∀ {ds : List D} {vs : List V}, noDictAll ds = true → DqAll K H vs ds → DpAll K H vs ds
  | [], _, _, h => by cases h; exact .nil
  | d :: ds, _, n, h => by
    rw [noDictAll, Bool.and_eq_true] at n
    cases h with
    | cons h1 h2 => exact .cons (dq_dp n.1 h1) (dq_dpAll n.2 h2)
end
section
variable {X : Cx}
def rD2 (K : PySem.W.Frag) (p : D → D → Option Bool) : R2 := fun x y H Q => ∃ d e b, Dq K H x d ∧ Dq K H y e ∧ noDict d = true ∧ noDict e = true ∧ p d e = some b ∧ Q (.bl b) H
theorem rd2_of {p : D → D → Option Bool} {op : CmpOp} (h : ∀ (s : Shared) (v u : Value) (d e : D) (as bs : List Addr) (b : Bool) (Q : Value → Shared → Prop), Reads s.heap v d as → Reads s.heap u e bs → p d e = some b → Q (.bool b) s → wpAny (model X.prog X.w) X.A (compareOp op v u) Q X.xe s) :
    OpR X (compareOp op) (rD2 X.K p) := by
  intro pins s σ H x y v u Q I rx ry h'
  obtain ⟨d, e, b, hd, he, nd, ne, hp, q⟩ := h'
  obtain ⟨as, r1⟩ := Dp.reads I d x v (dq_dp nd hd) rx
  obtain ⟨bs, r2⟩ := Dp.reads I e y u (dq_dp ne he) ry
  exact h s v u d e as bs b _ r1 r2 hp ⟨.bl b, H, I, rfl, q⟩
theorem ordOk_of {x y : D} (h : ordOk x y = true) : alike x y = true ∧ x ≠ .none ∧ x.depth ≤ 60 := by
  unfold ordOk at h
  rw [Bool.and_eq_true, Bool.and_eq_true] at h
  refine ⟨h.1.1, fun e => ?_, of_decide_eq_true h.2⟩
  rw [e] at h; exact absurd h.1.2 (by decide)
theorem ord_room {A : Around} {x y : D} (hu : A.units + 64 < cLine) (h : x.depth ≤ 60) : A.units + min x.depth y.depth < cLine := by
  have := Nat.min_le_left x.depth y.depth
  omega
theorem op_ltD (hu : X.A.units + 64 < cLine) : OpR X (compareOp .Lt) (rD2 X.K pLt) := rd2_of fun s v u d e as bs b Q r1 r2 hp q => by
  unfold pLt at hp
  split at hp
  · cases r1; cases r2; cases hp; exact lt_int q
  · split at hp
    · rename_i ho
      obtain ⟨h1, h2, h3⟩ := ordOk_of ho
      cases hp
      exact lt_data r1 r2 h1 h2 (ord_room hu h3) q
    · cases hp
theorem op_leD (hu : X.A.units + 64 < cLine) : OpR X (compareOp .LtE) (rD2 X.K pLe) := rd2_of fun s v u d e as bs b Q r1 r2 hp q => by
  unfold pLe at hp
  split at hp
  · cases r1; cases r2; cases hp; exact le_int q
  · split at hp
    · rename_i ho
      obtain ⟨h1, h2, h3⟩ := ordOk_of ho
      cases hp
      exact le_data r1 r2 h1 h2 (ord_room hu h3) q
    · cases hp
theorem op_gtD (hu : X.A.units + 64 < cLine) : OpR X (compareOp .Gt) (rD2 X.K pGt) := rd2_of fun s v u d e as bs b Q r1 r2 hp q => by
  unfold pGt at hp
  split at hp
  · cases r1; cases r2; cases hp; exact gt_int q
  · split at hp
    · rename_i ho
      obtain ⟨h1, h2, h3⟩ := ordOk_of ho
      cases hp
      exact gt_data r1 r2 h1 h2 (ord_room hu h3) q
    · cases hp
theorem op_geD (hu : X.A.units + 64 < cLine) : OpR X (compareOp .GtE) (rD2 X.K pGe) := rd2_of fun s v u d e as bs b Q r1 r2 hp q => by
  unfold pGe at hp
  split at hp
  · cases r1; cases r2; cases hp; exact ge_int q
  · split at hp
    · rename_i ho
      obtain ⟨h1, h2, h3⟩ := ordOk_of ho
      cases hp
      exact ge_data r1 r2 h1 h2 (ord_room hu h3) q
    · cases hp
theorem op_eqP (hu : X.A.units + 64 < cLine) : OpR X (compareOp .Eq) (rD2 X.K pEq) := rd2_of fun s v u d e as bs b Q r1 r2 hp q => by
  unfold pEq at hp
  split at hp
  · rename_i ho
    rw [Bool.and_eq_true] at ho
    cases hp
    exact SeqAt.compareEq_shaped r1 r2 ho.1 ho.2 hu q
  · cases hp
theorem op_neP (hu : X.A.units + 64 < cLine) : OpR X (compareOp .NotEq) (rD2 X.K pNe) := rd2_of fun s v u d e as bs b Q r1 r2 hp q => by
  unfold pNe pEq at hp
  split at hp
  · rename_i ho
    rw [Bool.and_eq_true] at ho
    cases hp
    exact SeqAt.compareNe_shaped r1 r2 ho.1 ho.2 hu q
  · cases hp
theorem inOk_of {x : D} {ys : List D} (h : inOk x ys = true) : x.plain = true ∧ PyData.plainAll ys = true ∧ x.depth ≤ 60 := by
  unfold inOk at h
  rw [Bool.and_eq_true, Bool.and_eq_true] at h
  exact ⟨h.1.1, h.1.2, of_decide_eq_true h.2⟩
theorem in_room {A : Around} {x : D} {n : Nat} (hu : A.units + 64 < cLine) (h : x.depth ≤ 60) : A.units + 1 + min n x.depth < cLine := by
  have := Nat.min_le_right n x.depth
  omega
theorem op_inP (hu : X.A.units + 64 < cLine) : OpR X (compareOp .In) (rD2 X.K pIn) := rd2_of fun s v u d e as bs b Q r1 r2 hp q => by
  unfold pIn at hp
  split at hp
  · split at hp
    · rename_i ho
      obtain ⟨h1, h2, h3⟩ := inOk_of ho
      cases hp
      exact SeqAt.in_list_data r2 r1 h2 h1 (in_room hu h3) q
    · cases hp
  · split at hp
    · rename_i ho
      obtain ⟨h1, h2, h3⟩ := inOk_of ho
      cases hp
      exact SeqAt.in_tuple_data r2 r1 h2 h1 (in_room hu h3) q
    · cases hp
  · cases hp
def nd2 (p : D → D → Option Bool) (x y : D) : Option Bool := if noDict x && noDict y then p x y else none
theorem prim_rd2 {K : PySem.W.Frag} {p : D → D → Option Bool} : Prim2 K (rD2 K p) (bO (nd2 p)) := fun G H v u x y z Q sb rx ry hz rt => by
  unfold bO nd2 at hz
  split at hz
  · rename_i n
    rw [Bool.and_eq_true] at n
    cases e : p x y with
    | none => rw [e] at hz; cases hz
    | some b => rw [e] at hz; cases hz; exact ⟨x, y, b, rx.dp sb, ry.dp sb, n.1, n.2, e, rt _ (.bl b)⟩
  · cases hz
theorem nd2_some {p : D → D → Option Bool} {x y : D} {b : Bool} (h : p x y = some b) (h1 : noDict x = true) (h2 : noDict y = true) : nd2 p x y = some b := by unfold nd2; rw [h1, h2]; exact h

def rAddD (K : PySem.W.Frag) : R2 := fun x y H Q => (rI0 fun i j => V.int (i + j)) x y H Q ∨ rCat x y H Q ∨ rCatA K x y H Q ∨ (∃ i j, x = .str i ∧ y = .str j ∧ i.length + j.length ≤ sizeLine ∧ Q (.str (i ++ j)) H)
theorem op_addD : OpR X (binaryOp .Add) (rAddD X.K) := op_add.or (op_cat.or (op_catA.or op_add_str))
theorem dqAll_nil {K : PySem.W.Frag} {G : Hp} {xs : List V} {ds : List D} (h : DqAll K G xs ds) : xs = [] ↔ ds = [] := by
  cases h <;> simp
theorem prim_add {K : PySem.W.Frag} : Prim2 K (rAddD K) pAdd := fun G H v u x y z Q sb rx ry hz rt => by
  unfold pAdd at hz
  split at hz
  · cases hz; exact .inl ⟨_, _, rx.int, ry.int, rt _ (.int _)⟩
  · split at hz
    · rename_i hl
      cases hz
      obtain ⟨a, xs, rfl, h1, r1⟩ := rx.list sb
      obtain ⟨b, ys, rfl, h2, r2⟩ := ry.list sb
      exact .inr (.inl ⟨a, b, xs, ys, rfl, rfl, h1, h2, by rw [r1.length, r2.length]; exact hl, fun p hp => rt p _ hp (r1.append r2)⟩)
    · cases hz
  · split at hz
    · rename_i hl
      cases hz
      obtain ⟨a, xs, rfl, h1, r1⟩ := rx.tuple sb
      obtain ⟨b, ys, rfl, h2, r2⟩ := ry.tuple sb
      refine .inr (.inr (.inl ⟨a, b, xs, ys, rfl, rfl, h1, h2, by rw [r1.length, r2.length]; exact hl, fun e => ?_, fun _ e => ?_, fun _ _ p hp => rt.2 p _ hp (r1.append r2)⟩))
      · have e' := (dqAll_nil r1).mp e
        subst e'
        cases ry with
        | fz ry => exact rt.1 _ ry
      · have e' := (dqAll_nil r2).mp e
        subst e'
        cases rx with
        | fz rx => exact rt.1 _ (by rw [List.append_nil]; exact rx)
    · cases hz
  · split at hz
    · rename_i hl
      cases hz
      exact .inr (.inr (.inr ⟨_, _, rx.str, ry.str, hl, rt _ (.str _)⟩))
    · cases hz
  · cases hz
theorem prim_int2 {K : PySem.W.Frag} {C : Int → Int → Prop} [∀ i j, Decidable (C i j)] {g : Int → Int → Int} {p : D → D → Option PO} (hp : ∀ i j, p (.int i) (.int j) = if C i j then some (.d (.int (g i j))) else none) (hn : ∀ x y z, p x y = some z → ∃ i j, x = .int i ∧ y = .int j) : Prim2 K (rI C fun i j => .int (g i j)) p := fun G H v u x y z Q sb rx ry hz rt => by
  obtain ⟨i, j, rfl, rfl⟩ := hn x y z hz
  rw [hp] at hz
  split at hz
  · rename_i hc; cases hz; exact ⟨i, j, rx.int, ry.int, hc, rt _ (.int _)⟩
  · cases hz
theorem prim_sub {K : PySem.W.Frag} : Prim2 K (rI0 fun i j => .int (i - j)) pSub := fun G H v u x y z Q sb rx ry hz rt => by
  unfold pSub at hz
  split at hz
  · cases hz; exact ⟨_, _, rx.int, ry.int, rt _ (.int _)⟩
  · cases hz
instance (i j : Int) : Decidable (CDivW i j) := by unfold CDivW; infer_instance
theorem prim_div {K : PySem.W.Frag} : Prim2 K (rI CDivW fun i j => .int (i / j)) pDiv := prim_int2 (fun i j => rfl) fun x y z h => by
  unfold pDiv at h; split at h
  · exact ⟨_, _, rfl, rfl⟩
  · cases h
theorem prim_mod {K : PySem.W.Frag} : Prim2 K (rI (fun _ j => 0 < j) fun i j => .int (i % j)) pMod := prim_int2 (fun i j => rfl) fun x y z h => by
  unfold pMod at h; split at h
  · exact ⟨_, _, rfl, rfl⟩
  · cases h
instance (i j : Int) : Decidable (CPow i j) := by unfold CPow; infer_instance
theorem prim_pow {K : PySem.W.Frag} : Prim2 K (rI CPow fun i j => .int (i ^ j.toNat)) pPow := prim_int2 (fun i j => rfl) fun x y z h => by
  unfold pPow at h; split at h
  · exact ⟨_, _, rfl, rfl⟩
  · cases h
def rMulD : R2 := fun x y H Q => rI CMulW (fun i j => V.int (i * j)) x y H Q ∨ rRep x y H Q
theorem op_mulD : OpR X (binaryOp .Mult) rMulD := op_mulW.or op_rep
theorem dq_rep {K : PySem.W.Frag} {G : Hp} {xs : List V} {ds : List D} (h : DqAll K G xs ds) : ∀ n, DqAll K G (List.replicate n xs).flatten (List.replicate n ds).flatten
  | 0 => .nil
  | n + 1 => by rw [List.replicate_succ, List.replicate_succ, List.flatten_cons, List.flatten_cons]; exact h.append (dq_rep h n)
theorem prim_mul {K : PySem.W.Frag} : Prim2 K rMulD pMul := fun G H v u x y z Q sb rx ry hz rt => by
  unfold pMul at hz
  split at hz
  · split at hz
    · rename_i hc; cases hz; exact .inl ⟨_, _, rx.int, ry.int, hc, rt _ (.int _)⟩
    · cases hz
  · split at hz
    · rename_i hc
      cases hz
      obtain ⟨a, xs, rfl, h1, r1⟩ := rx.list sb
      exact .inr ⟨a, _, xs, rfl, ry.int, h1, hc.1, hc.2.1, by rw [r1.length]; exact hc.2.2, fun p hp => rt p _ hp (dq_rep r1 _)⟩
    · cases hz
  · cases hz
theorem prim_neg {K : PySem.W.Frag} : Prim1 K (rU fun i => .int (-i)) pNeg := fun G H v x z Q sb rx hz rt => by
  unfold pNeg at hz
  split at hz
  · cases hz; exact ⟨_, rx.int, rt _ (.int _)⟩
  · cases hz

def pIsN (x y : D) : Option Bool := match y with
  | .none => some (isNone x)
  | _ => none
def pNotN (x y : D) : Option Bool := (pIsN x y).map (!·)
theorem rp_none {K : PySem.W.Frag} {G H : Hp} {v : V} {x : D} (h : Rp K G H v x) : decide (v = .non) = isNone x := by
  cases h with
  | fz h => cases h <;> rfl
  | cell _ _ => rfl
theorem prim_isN {K : PySem.W.Frag} : Prim2 K (fun x y H Q => y = .non ∧ Q (.bl (decide (x = .non))) H) (bO pIsN) := fun G H v u x y z Q sb rx ry hz rt => by
  unfold bO pIsN at hz
  cases y with
  | none => cases hz; exact ⟨ry.none, by rw [rp_none rx]; exact rt _ (.bl _)⟩
  | _ => cases hz
end
end L3

namespace L3
open PySem PySem.W PySem.Spec PyProof.Rows L2

def pLen : List D → Option PO
  | [.list xs] => some (.d (.int xs.length))
  | [.tuple xs] => some (.d (.int xs.length))
  | [.str x] => if x.length ≤ sizeLine then some (.d (.int x.length)) else none
  | [.dict kvs] => if kvs.all (fun kv => match kv.1 with | .none => true | _ => false) then some (.d (.int kvs.length)) else none
  | _ => none
def pListOf : List D → Option PO
  | [.list xs] => some (.l xs)
  | [.tuple xs] => some (.l xs)
  | _ => none
def pTupleOf : List D → Option PO
  | [.list xs] => some (.t xs)
  | [.tuple xs] => some (.d (.tuple xs))
  | _ => none
def intsOf : List D → Option (List Int)
  | [] => some []
  | .int n :: ds => (intsOf ds).map (n :: ·)
  | _ :: _ => none
def boolsOf : List D → Option (List Bool)
  | [] => some []
  | .bool n :: ds => (boolsOf ds).map (n :: ·)
  | _ :: _ => none
def pSum : List D → Option PO
  | [.list xs] => (intsOf xs).map fun ns => .d (.int ns.sum)
  | _ => none
def pAny : List D → Option PO
  | [.list xs] => (boolsOf xs).map fun bs => .d (.bool (bs.any id))
  | _ => none
def pAll : List D → Option PO
  | [.list xs] => (boolsOf xs).map fun bs => .d (.bool (bs.all id))
  | _ => none
def pAbs : List D → Option PO
  | [.int i] => some (.d (.int (if i < 0 then -i else i)))
  | _ => none
def pInt : List D → Option PO
  | [.int i] => some (.d (.int i))
  | [.bool k] => some (.d (.int (if k then 1 else 0)))
  | _ => none
def pMax2 : List D → Option PO
  | [.int i, .int j] => some (.d (.int (if j > i then j else i)))
  | _ => none
def pMin2 : List D → Option PO
  | [.int i, .int j] => some (.d (.int (if j < i then j else i)))
  | _ => none
def sortOk (xs : List D) : Bool := (xs.all fun x => xs.all fun y => alike x y) && ((xs.all fun x => match x with | .tuple _ => true | _ => false) || (xs.all fun x => match x with | .none => false | .tuple _ => false | _ => true)) &&
  (xs.all fun x => decide (x.depth ≤ 60)) && decide (xs.length ≤ sizeLine) && noDictAll xs
def pSorted : List D → Option PO
  | [.list xs] => if sortOk xs then some (.l (xs.mergeSort (dataLe false id))) else none
  | [.tuple xs] => if sortOk xs then some (.l (xs.mergeSort (dataLe false id))) else none
  | _ => none
def isTy (n : String) : D → Option Bool
  | .none => some (n == "NoneType")
  | .bool _ => some (n == "bool" || n == "int")
  | .int _ => some (n == "int")
  | .str _ => some (n == "str")
  | .list _ => some (n == "list")
  | .tuple _ => some (n == "tuple")
  | .dict _ => none
theorem intsOf_dq {K : PySem.W.Frag} {G : Hp} : ∀ {ds : List D} {vs : List V} {ns : List Int}, intsOf ds = some ns → DqAll K G vs ds → vs = ns.map V.int ∧ ds = ns.map PyData.int
  | [], _, _, e, h => by cases e; cases h; exact ⟨rfl, rfl⟩
  | .int n :: ds, _, ns, e, h => by
    cases h with
    | cons h1 h2 =>
      cases h1
      unfold intsOf at e
      cases e2 : intsOf ds with
      | none => rw [e2] at e; cases e
      | some ms =>
        rw [e2] at e; cases e
        obtain ⟨a, b⟩ := intsOf_dq e2 h2
        rw [a, b]; exact ⟨rfl, rfl⟩
  | .none :: _, _, _, e, _ => by cases e
  | .bool _ :: _, _, _, e, _ => by cases e
  | .str _ :: _, _, _, e, _ => by cases e
  | .list _ :: _, _, _, e, _ => by cases e
  | .tuple _ :: _, _, _, e, _ => by cases e
  | .dict _ :: _, _, _, e, _ => by cases e
theorem boolsOf_dq {K : PySem.W.Frag} {G : Hp} : ∀ {ds : List D} {vs : List V} {ns : List Bool}, boolsOf ds = some ns → DqAll K G vs ds → vs = ns.map V.bl
  | [], _, _, e, h => by cases e; cases h; rfl
  | .bool n :: ds, _, ns, e, h => by
    cases h with
    | cons h1 h2 =>
      cases h1
      unfold boolsOf at e
      cases e2 : boolsOf ds with
      | none => rw [e2] at e; cases e
      | some ms =>
        rw [e2] at e; cases e
        rw [boolsOf_dq e2 h2]; rfl
  | .none :: _, _, _, e, _ => by cases e
  | .int _ :: _, _, _, e, _ => by cases e
  | .str _ :: _, _, _, e, _ => by cases e
  | .list _ :: _, _, _, e, _ => by cases e
  | .tuple _ :: _, _, _, e, _ => by cases e
  | .dict _ :: _, _, _, e, _ => by cases e
theorem intsOf_map (ns : List Int) : intsOf (ns.map PyData.int) = some ns := by
  induction ns with
  | nil => rfl
  | cons n ns ih => show (intsOf (ns.map PyData.int)).map (n :: ·) = _; rw [ih]; rfl
section
variable {K : PySem.W.Frag}
theorem prim_len : Prim K (fun xs H Q => ∃ x n, xs = [x] ∧ LenV K x H n ∧ Q (.int n) H) pLen := fun G H vs ds x Q sb rs e rt => by
  unfold pLen at e
  split at e
  · obtain ⟨v, rfl, rv⟩ := rpAll1 rs
    cases e
    obtain ⟨a, ys, rfl, h1, r1⟩ := rv.list sb
    exact ⟨_, _, rfl, .inl ⟨ys, SqL.of h1, rfl⟩, by rw [r1.length]; exact rt _ (.int _)⟩
  · obtain ⟨v, rfl, rv⟩ := rpAll1 rs
    cases e
    obtain ⟨a, ys, rfl, h1, r1⟩ := rv.tuple sb
    exact ⟨_, _, rfl, .inr ⟨ys, h1, rfl⟩, by rw [r1.length]; exact rt _ (.int _)⟩
  · obtain ⟨v, rfl, rv⟩ := rpAll1 rs
    split at e
    · rename_i hl
      cases e
      rw [rv.str]
      exact ⟨_, _, rfl, ⟨hl, rfl⟩, rt _ (.int _)⟩
    · cases e
  · obtain ⟨v, rfl, rv⟩ := rpAll1 rs
    split at e
    · rename_i hal
      cases e
      cases rv with
      | fz h =>
        cases h with
        | scr ns h1 => exact ⟨_, _, rfl, .inl ⟨_, sb.l h1, rfl⟩, by rw [List.length_map, ← List.length_map (f := fun n => (PyData.none, PyData.int n))]; exact rt _ (.int _)⟩
        | tks => simp at hal
    · cases e
  · cases e
theorem prim_list : Prim K (fun xs H Q => ∃ p ys, xs = [.ref p] ∧ (SqL K H p ys ∨ SqT K H p ys) ∧ ∀ l, H l = none → Q (.ref l) (upd H l (.lst ys))) pListOf := fun G H vs ds x Q sb rs e rt => by
  unfold pListOf at e
  split at e
  · obtain ⟨v, rfl, rv⟩ := rpAll1 rs
    cases e
    obtain ⟨a, ys, rfl, h1, r1⟩ := rv.list sb
    exact ⟨_, _, rfl, .inl (SqL.of h1), fun l hl => rt l _ hl r1⟩
  · obtain ⟨v, rfl, rv⟩ := rpAll1 rs
    cases e
    obtain ⟨a, ys, rfl, h1, r1⟩ := rv.tuple sb
    exact ⟨_, _, rfl, .inr h1, fun l hl => rt l _ hl r1⟩
  · cases e
theorem prim_tuple : Prim K (fun xs H Q => ∃ p ys, xs = [.ref p] ∧ ((SqL K H p ys ∧ ∀ l, H l = none → Q (.ref l) (upd H l (.tup ys))) ∨ (SqT K H p ys ∧ Q (.ref p) H))) pTupleOf := fun G H vs ds x Q sb rs e rt => by
  unfold pTupleOf at e
  split at e
  · obtain ⟨v, rfl, rv⟩ := rpAll1 rs
    cases e
    obtain ⟨a, ys, rfl, h1, r1⟩ := rv.list sb
    exact ⟨_, _, rfl, .inl ⟨SqL.of h1, fun l hl => rt.2 l _ hl r1⟩⟩
  · obtain ⟨v, rfl, rv⟩ := rpAll1 rs
    cases e
    cases rv with
    | fz h =>
      have h' := h
      cases h with
      | tup h1 r1 => exact ⟨_, _, rfl, .inr ⟨sb.t h1, rt _ h'⟩⟩
  · cases e
theorem prim_all : Prim K (rAll K) pAll := fun G H vs ds x Q sb rs e rt => by
  unfold pAll at e
  split at e
  · obtain ⟨v, rfl, rv⟩ := rpAll1 rs
    obtain ⟨a, ys, rfl, h1, r1⟩ := rv.list sb
    rename_i xs
    cases e2 : boolsOf xs with
    | none => rw [e2] at e; cases e
    | some ns =>
      rw [e2] at e; cases e
      have z := boolsOf_dq e2 r1
      subst z
      exact ⟨a, ns, rfl, SqL.of h1, rt _ (.bl _)⟩
  · cases e
theorem prim_abs : Prim K (fun xs H Q => ∃ i, xs = [.int i] ∧ Q (.int (if i < 0 then -i else i)) H) pAbs := fun G H vs ds x Q sb rs e rt => by
  unfold pAbs at e
  split at e
  · obtain ⟨v, rfl, rv⟩ := rpAll1 rs
    cases e
    rw [rv.int]; exact ⟨_, rfl, rt _ (.int _)⟩
  · cases e
theorem prim_int : Prim K (fun xs H Q => (∃ i, xs = [.int i] ∧ Q (.int i) H) ∨ ∃ k, xs = [.bl k] ∧ Q (.int (if k then 1 else 0)) H) pInt := fun G H vs ds x Q sb rs e rt => by
  unfold pInt at e
  split at e
  · obtain ⟨v, rfl, rv⟩ := rpAll1 rs
    cases e
    rw [rv.int]; exact .inl ⟨_, rfl, rt _ (.int _)⟩
  · obtain ⟨v, rfl, rv⟩ := rpAll1 rs
    cases e
    rw [rv.bool]; exact .inr ⟨_, rfl, rt _ (.int _)⟩
  · cases e
theorem prim_max2 : Prim K (fun xs H Q => ∃ i j, xs = [.int i, .int j] ∧ Q (.int (if j > i then j else i)) H) pMax2 := fun G H vs ds x Q sb rs e rt => by
  unfold pMax2 at e
  split at e
  · obtain ⟨v, u, rfl, rv, ru⟩ := rpAll2 rs
    cases e
    rw [rv.int, ru.int]; exact ⟨_, _, rfl, rt _ (.int _)⟩
  · cases e
theorem prim_min2 : Prim K (fun xs H Q => ∃ i j, xs = [.int i, .int j] ∧ Q (.int (if j < i then j else i)) H) pMin2 := fun G H vs ds x Q sb rs e rt => by
  unfold pMin2 at e
  split at e
  · obtain ⟨v, u, rfl, rv, ru⟩ := rpAll2 rs
    cases e
    rw [rv.int, ru.int]; exact ⟨_, _, rfl, rt _ (.int _)⟩
  · cases e
end
section
variable {X : Cx}
def rSortD (K : PySem.W.Frag) : List V → Hp → VK → Prop := fun vs H Q => ∃ (a : Addr) (xs : List V) (ds : List D), vs = [.ref a] ∧ (SqL K H a xs ∨ SqT K H a xs) ∧ DqAll K H xs ds ∧ sortOk ds = true ∧
  ∀ p, H p = none → Q (.ref p) (upd H p (.lst (((xs.zip ds).mergeSort (dataLe false Prod.snd)).map Prod.fst)))
theorem each_zip {K : PySem.W.Frag} {H : Hp} : ∀ {xs : List V} {ds : List D} {its : List Value}, Vals xs its → DqAll K H xs ds → EachIs (fun (u : Value) (b : V × D) => RelV b.1 u) its (xs.zip ds)
  | _, _, _, .nil, h => by cases h; exact .nil
  | _, _, _, .cons r t, h => by cases h with | cons h1 h2 => exact .cons r (each_zip t h2)
theorem each_reads {pins : List (Addr × Obj)} {σ : L2.St} {H : Hp} {s : Shared} (I : Inv X pins σ H s) : ∀ {xs : List V} {ds : List D} {its : List Value}, noDictAll ds = true → Vals xs its → DqAll X.K H xs ds → EachIs (fun (u : Value) (b : V × D) => ∃ as, Reads s.heap u b.2 as) its (xs.zip ds)
  | _, _, _, _, .nil, h => by cases h; exact .nil
  | _, _, _, n, .cons r t, h => by
    cases h with
    | cons h1 h2 =>
      rw [noDictAll, Bool.and_eq_true] at n
      exact .cons (Dp.reads I _ _ _ (dq_dp n.1 h1) r) (each_reads I n.2 t h2)
theorem zip_snd {K : PySem.W.Frag} {H : Hp} : ∀ {xs : List V} {ds : List D}, DqAll K H xs ds → (xs.zip ds).map Prod.snd = ds
  | _, _, .nil => rfl
  | _, _, .cons _ t => by show _ :: (List.zip _ _).map Prod.snd = _; rw [zip_snd t]
theorem vals_each : ∀ {its : List Value} {bs : List (V × D)}, EachIs (fun (u : Value) (b : V × D) => RelV b.1 u) its bs → Vals (bs.map Prod.fst) its
  | _, _, .nil => .nil
  | _, _, .cons r t => .cons r (vals_each t)
theorem sortOk_of {xs : List D} (h : sortOk xs = true) : AllAlike xs ∧ SortableE xs ∧ (∀ x ∈ xs, x.depth ≤ 60) ∧ xs.length ≤ sizeLine ∧ noDictAll xs = true := by
  unfold sortOk at h
  simp only [Bool.and_eq_true, Bool.or_eq_true, List.all_eq_true, decide_eq_true_eq] at h
  obtain ⟨⟨⟨⟨h1, h2⟩, h3⟩, h4⟩, h5⟩ := h
  refine ⟨h1, ?_, h3, h4, h5⟩
  rcases h2 with h2 | h2
  · refine .inl fun d hd => ?_
    have z := h2 d hd
    split at z
    · exact ⟨_, rfl⟩
    · cases z
  · refine .inr fun d hd => ?_
    have z := h2 d hd
    refine ⟨fun e => ?_, fun xs e => ?_⟩
    · rw [e] at z; cases z
    · rw [e] at z; cases z
theorem cr_sortP (hu : X.A.units + 64 < cLine) : CallR X (.builtin "sorted") (rSortD X.K) := by
  intro pins s σ H vs us Q I r h
  obtain ⟨a, xs, ds, rfl, hs, hd, ho, q⟩ := h
  rw [Vals.ref1 r]
  obtain ⟨h1, h2, h3, h4, h5⟩ := sortOk_of ho
  obtain ⟨its, rv, hl⟩ : ∃ its : List Value, Vals xs its ∧ (s.heap.IsList a its.toArray ∨ s.heap.IsTuple a its.toArray) := by
    rcases hs with hs | hs
    · obtain ⟨its, rv, hl, _⟩ := I.list hs; exact ⟨its, rv, .inl hl.isList⟩
    · obtain ⟨its, rv, hl, _⟩ := I.tuple hs; exact ⟨its, rv, .inr hl⟩
  have hz : (xs.zip ds).length = ds.length := by rw [← List.length_map (f := Prod.snd), zip_snd hd]
  refine sorted_anyE hl (each_zip rv hd) (each_reads I h5 rv hd) (by rw [zip_snd hd]; exact h1) (by rw [zip_snd hd]; exact h2) (by rw [hz]; exact h4) (fun b hb => ?_) fun out ho he => ?_
  · have : b.2 ∈ (xs.zip ds).map Prod.snd := List.mem_map.mpr ⟨b, hb, rfl⟩
    rw [zip_snd hd] at this
    have := h3 _ this
    omega
  · obtain ⟨ep, he'⟩ := PyProof.Rows.sortedAll_at s.heap its out.toArray
    have hlen : (((xs.zip ds).mergeSort (dataLe false Prod.snd)).map Prod.fst).length ≤ sizeLine := by
      rw [List.length_map, List.length_mergeSort, hz]; exact h4
    exact ⟨.ref _, upd H (s.heap.objs.size + 1) (.lst (((xs.zip ds).mergeSort (dataLe false Prod.snd)).map Prod.fst)), I.laid (t' := s.toks) (fun _ _ => PyProof.Rows.sortedAll_old) (Nat.le_succ _) ⟨hlen, out, ep, vals_each he, he'⟩, rfl, q _ (I.hok.fresh (Nat.le_succ _))⟩
theorem dq_of_pairs {K : PySem.W.Frag} {G : Hp} : ∀ {l : List (V × D)}, (∀ p ∈ l, Dq K G p.1 p.2) → DqAll K G (l.map Prod.fst) (l.map Prod.snd)
  | [], _ => .nil
  | p :: l, h => .cons (h p List.mem_cons_self) (dq_of_pairs fun q hq => h q (List.mem_cons_of_mem _ hq))
theorem dq_zip_mem {K : PySem.W.Frag} {G : Hp} : ∀ {xs : List V} {ds : List D}, DqAll K G xs ds → ∀ p ∈ xs.zip ds, Dq K G p.1 p.2
  | _, _, .nil, p, h => by cases h
  | _, _, .cons r t, p, h => by
    rcases List.mem_cons.mp h with rfl | h
    · exact r
    · exact dq_zip_mem t p h
theorem sort_dq {K : PySem.W.Frag} {G : Hp} {xs : List V} {ds : List D} (h : DqAll K G xs ds) : DqAll K G (((xs.zip ds).mergeSort (dataLe false Prod.snd)).map Prod.fst) (ds.mergeSort (dataLe false id)) := by
  have e : ds.mergeSort (dataLe false id) = ((xs.zip ds).mergeSort (dataLe false Prod.snd)).map Prod.snd := by
    have := sort_maps (r := dataLe false (Prod.snd : V × D → D)) (s := dataLe false id) (l := xs.zip ds) Prod.snd (fun a _ b _ => rfl)
    rw [this, zip_snd h]
  rw [e]
  exact dq_of_pairs fun p hp => dq_zip_mem h p ((List.mergeSort_perm _ _).mem_iff.mp hp)
theorem prim_sorted {K : PySem.W.Frag} : Prim K (rSortD K) pSorted := fun G H vs ds x Q sb rs e rt => by
  unfold pSorted at e
  split at e
  · obtain ⟨v, rfl, rv⟩ := rpAll1 rs
    split at e
    · rename_i ho
      cases e
      obtain ⟨a, ys, rfl, h1, r1⟩ := rv.list sb
      exact ⟨a, ys, _, rfl, .inl (SqL.of h1), sb.dpAll r1, ho, fun p hp => rt p _ hp (sort_dq r1)⟩
    · cases e
  · obtain ⟨v, rfl, rv⟩ := rpAll1 rs
    split at e
    · rename_i ho
      cases e
      obtain ⟨a, ys, rfl, h1, r1⟩ := rv.tuple sb
      exact ⟨a, ys, _, rfl, .inr h1, sb.dpAll r1, ho, fun p hp => rt p _ hp (sort_dq r1)⟩
    · cases e
  · cases e
end
end L3

namespace L3
open PySem PySem.W PySem.Spec PyProof.Rows L2

def pIx : D → D → Option PO
  | .list xs, .int i => (atI xs i).map .d
  | .tuple xs, .int i => (atI xs i).map .d
  | .dict kvs, .int i => if kvs.all (fun kv => match kv.1 with | .none => true | _ => false) then (atI (kvs.map (·.2)) i).map .d else none
  | _, _ => none
theorem atI_map {α β : Type} (f : α → β) (xs : List α) (i : Int) : atI (xs.map f) i = (atI xs i).map f := by
  unfold atI
  rw [List.length_map]
  cases ixN xs.length i with
  | none => rfl
  | some j => show (xs.map f)[j]? = _; rw [List.getElem?_map]; rfl
theorem prim_ix {K : PySem.W.Frag} : Prim2 K (rIx K) pIx := fun G H v u x y z Q sb rx ry hz rt => by
  unfold pIx at hz
  split at hz
  · rename_i xs i
    obtain ⟨a, ys, rfl, h1, r1⟩ := rx.list sb
    cases e : atI xs i with
    | none => rw [e] at hz; cases hz
    | some d =>
      rw [e] at hz; cases hz
      obtain ⟨w, hw, dw⟩ := atI_dp r1 e
      exact .inl ⟨a, ys, i, w, rfl, ry.int, SqL.of h1, hw, rt w dw⟩
  · rename_i xs i
    obtain ⟨a, ys, rfl, h1, r1⟩ := rx.tuple sb
    cases e : atI xs i with
    | none => rw [e] at hz; cases hz
    | some d =>
      rw [e] at hz; cases hz
      obtain ⟨w, hw, dw⟩ := atI_dp r1 e
      exact .inr (.inl ⟨a, ys, i, w, rfl, ry.int, h1, hw, rt w dw⟩)
  · rename_i kvs i
    split at hz
    rotate_left
    · cases hz
    rename_i hal
    cases rx with
    | fz h =>
      cases h with
      | tks => simp [tsD] at hal
      | @scr a ns h1 =>
        have em : (ns.map fun n => (PyData.none, PyData.int n)).map (·.2) = ns.map PyData.int := by rw [List.map_map]; rfl
        rw [em, atI_map] at hz
        cases e : atI ns i with
        | none => rw [e] at hz; cases hz
        | some n =>
          rw [e] at hz; cases hz
          exact .inl ⟨a, _, i, .int n, rfl, ry.int, sb.l h1, by rw [atI_map, e]; rfl, rt _ (.int n)⟩
  · cases hz
def cutL {α : Type} (xs : List α) (lo hi : Option Int) : List α := (xs.drop (HT.sIx xs.length 0 lo)).take (HT.sIx xs.length xs.length hi - HT.sIx xs.length 0 lo)
def pSl (x : D) (lo hi : Option Int) : Option PO := match x with
  | .list xs => some (.l (cutL xs lo hi))
  | .tuple xs => some (.t (cutL xs lo hi))
  | _ => none
def rSlD (K : PySem.W.Frag) : V → Option Int → Option Int → Hp → VK → Prop := fun x lo hi H Q => rSlL K x lo hi H Q ∨ rSlA K x lo hi H Q
theorem sl_D {X : Cx} : SlR X (rSlD X.K) := sl_list.or sl_tupA
theorem cut_dq {K : PySem.W.Frag} {G : Hp} {xs : List V} {ds : List D} (h : DqAll K G xs ds) (lo hi : Option Int) : DqAll K G (cutV xs lo hi) (cutL ds lo hi) := by
  unfold cutV cutL
  rw [h.length]
  exact (h.drop _).take _
theorem cut_whole {ds : List D} {lo hi : Option Int} (h : HT.sIx ds.length 0 lo = 0 ∧ HT.sIx ds.length ds.length hi = ds.length) : cutL ds lo hi = ds := by
  unfold cutL
  rw [h.1, h.2, List.drop_zero, Nat.sub_zero, List.take_length]
theorem prim_sl {K : PySem.W.Frag} {G H : Hp} {v : V} {x : D} {lo hi : Option Int} {z : PO} {Q : VK} (sb : Sub G H) (rx : Rp K G H v x) (hz : pSl x lo hi = some z) (rt : Ret K G H Q z) : rSlD K v lo hi H Q := by
  unfold pSl at hz
  split at hz
  · cases hz
    obtain ⟨a, ys, rfl, h1, r1⟩ := rx.list sb
    exact .inl ⟨a, ys, rfl, SqL.of h1, fun p hp => rt p _ hp (cut_dq r1 lo hi)⟩
  · rename_i xs
    cases hz
    obtain ⟨a, ys, rfl, h1, r1⟩ := rx.tuple sb
    refine .inr ⟨a, ys, rfl, h1, fun e => ?_, fun _ p hp => rt.2 p _ hp (cut_dq r1 lo hi)⟩
    rw [r1.length] at e
    cases rx with
    | fz rx => exact rt.1 _ (by rw [cut_whole e]; exact rx)
  · cases hz
section
variable {ι : Type} {X : ι → Cx} {K : PySem.W.Frag} {E : WW} {e : Expr}
structure SPt (X : ι → Cx) (K : PySem.W.Frag) (E : WW) (e : Option Expr) (f : M (Option Int)) : Prop where
  ex : ∃ t, (∀ z, L2.PO (X z) e t) ∧ ∀ {β : Type} {F : Hp → Out β → Prop} {k : Option Int → M β} {io L G σ s H} {Q : Option Int → Hp → Prop}, FK K E io L σ F → Wd K io L G σ s H → F G (mbind f k s) →
    (∀ o s' G' H', Sub G G' → Wd K io L G' σ s' H' → F G' (k o s') → Q o H') → t σ H Q
def isI : D → M Int
  | .int i => mret i
  | _ => mstuck
theorem sp_none : SPt X K E none (mret none) := ⟨_, fun _ => L2.po_none, fun {β F k io L G σ s H Q} fk w hf hq => hq none s G H (Sub.refl _) w hf⟩
theorem sp_some {a : Expr} {f : M D} (h : SV X K E a f) : SPt X K E (some a) (mbind f fun d => mbind (isI d) fun i => mret (some i)) := by
  obtain ⟨t, pe, h⟩ := h.use
  refine ⟨_, fun z => L2.po_some (pe z), fun {β F k io L G σ s H Q} fk w hf hq => ?_⟩
  rw [mbind_assoc] at hf
  refine h fk w hf fun v d s' G' H' sb w' dp f => ?_
  match d, dp, f with
  | .int i, dp, f => cases dp; exact ⟨i, rfl, hq _ s' G' H' sb w' f⟩
  | .none, _, f => exact (fk.stuck f).elim
  | .bool _, _, f => exact (fk.stuck f).elim
  | .str _, _, f => exact (fk.stuck f).elim
  | .list _, _, f => exact (fk.stuck f).elim
  | .tuple _, _, f => exact (fk.stuck f).elim
  | .dict _, _, f => exact (fk.stuck f).elim
def eSl (a : Opd) (lo hi : M (Option Int)) : M R := opS a fun h => mbind lo fun l => mbind hi fun u => rsv h fun x => mpo (pSl x l u)
theorem se_sl {a : Expr} {lo hi : Option Expr} {oa : Opd} {fl fh : M (Option Int)} {p2 pos : Pos} (hK : ∀ z, (X z).K = K) (h1 : SO X K E a oa) (hl : SPt X K E lo fl) (hh : SPt X K E hi fh) : SE X K E (.Subscript a (.Slice lo hi none p2) pos) (eSl oa fl fh) := by
  obtain ⟨t, pe, h1⟩ := h1.ex
  obtain ⟨tl, pl, hl⟩ := hl.ex
  obtain ⟨th, ph, hh⟩ := hh.ex
  refine ⟨_, fun z => hK z ▸ pe_slice (sl_D (X := X z)) (pe z) (pl z) (ph z), fun io L G σ s H Q w hf => ?_⟩
  refine h1 (fk_fin (Q := Q)) w hf fun v h s1 G1 H1 sb1 w1 hr f1 => ?_
  refine hl (fk_fin (Q := Q)) w1 f1 fun l s2 G2 H2 sb2 w2 f2 => ?_
  refine hh (fk_fin (Q := Q)) w2 f2 fun u s3 G3 H3 sb3 w3 f3 => ?_
  obtain ⟨x, rx, f4⟩ := (hr.mono (sb2.trans sb3)).use fk_fin w3 f3
  obtain ⟨z, e, rt⟩ := mpo_fin w3 f4
  exact prim_sl w3.sub rx e rt
end

def pIsBo (x y : D) : Option Bool := match x, y with
  | .bool a, .bool b => some (a == b)
  | _, .bool _ => some false
  | _, _ => none
def rIsBo : R2 := fun x y H Q => ∃ b, y = .bl b ∧ Q (.bl (decide (x = .bl b))) H
theorem op_isBo {X : Cx} : OpR X (compareOp .Is) rIsBo := by
  intro pins s σ H x y v u Q I rx ry h
  obtain ⟨b, rfl, q⟩ := h
  cases ry
  cases x with
  | bl a => cases rx; exact wpAny_pure ⟨.bl _, H, I, by cases a <;> cases b <;> rfl, q⟩
  | non => cases rx; refine wpAny_pure ?_; exact ⟨.bl _, H, I, rfl, q⟩
  | int _ => obtain ⟨t, rfl⟩ := rx; refine wpAny_pure ?_; exact ⟨.bl _, H, I, rfl, q⟩
  | str _ => obtain ⟨t, rfl⟩ := rx; refine wpAny_pure ?_; exact ⟨.bl _, H, I, rfl, q⟩
  | byt _ => obtain ⟨t, rfl⟩ := rx; refine wpAny_pure ?_; exact ⟨.bl _, H, I, rfl, q⟩
  | flt _ => obtain ⟨t, rfl⟩ := rx; refine wpAny_pure ?_; exact ⟨.bl _, H, I, rfl, q⟩
  | ref _ => cases rx; refine wpAny_pure ?_; exact ⟨.bl _, H, I, rfl, q⟩
  | ty _ => cases rx; refine wpAny_pure ?_; exact ⟨.bl _, H, I, rfl, q⟩
theorem prim_isBo {K : PySem.W.Frag} : Prim2 K rIsBo (bO pIsBo) := fun G H v u x y z Q sb rx ry hz rt => by
  unfold bO pIsBo at hz
  split at hz
  · rename_i a b
    cases hz
    refine ⟨b, ry.bool, ?_⟩
    rw [rx.bool]
    have : decide (V.bl a = V.bl b) = (a == b) := by cases a <;> cases b <;> rfl
    rw [this]; exact rt _ (.bl _)
  · rename_i b hx
    cases hz
    refine ⟨b, ry.bool, ?_⟩
    have : decide (v = V.bl b) = false := by
      refine decide_eq_false fun e => ?_
      subst e
      cases rx with
      | fz h => cases h; exact hx _ rfl
    rw [this]; exact rt _ (.bl _)
  · cases hz

def eIsi (o : Opd) (n : String) : M R := opS o fun h => rsv h fun x => match isTy n x with
  | some b => mret (.val (.bool b))
  | none => mstuck
def tyName : D → String
  | .none => "NoneType"
  | .bool _ => "bool"
  | .int _ => "int"
  | .str _ => "str"
  | .list _ => "list"
  | .tuple _ => "tuple"
  | .dict _ => "?"
theorem rp_ty {K : PySem.W.Frag} {G H : Hp} {v : V} {x : D} (sb : Sub G H) (h : Rp K G H v x) (hd : ∀ kvs, x ≠ .dict kvs) : TyX K H v (.type (tyName x)) := by
  cases h with
  | fz h =>
    cases h with
    | non => exact .base .non
    | bl b => exact .base (.bl b)
    | int i => exact .base (.int i)
    | str z => exact .base (.str z)
    | lst h1 h2 => exact .base (.lst (sb _ _ h1))
    | tup h1 h2 =>
      rcases h1 with (h1 | ⟨o, h1⟩) | ⟨o, its, n, hk, hc, _⟩
      · exact .base (.tup (sb _ _ h1))
      · exact .fTuple (sb _ _ h1)
      · exact .kTuple hk hc
    | scr ns h1 => exact absurd rfl (hd _)
    | tks => exact absurd rfl (hd _)
  | cell h1 h2 => exact .base (.lst h1)
def kitN (n : String) : Prop := kitB "NoneType" n = some ("NoneType" == n) ∧ kitB "bool" n = some (n == "bool" || n == "int") ∧ kitB "int" n = some (n == "int") ∧ kitB "str" n = some (n == "str") ∧ kitB "list" n = some (n == "list") ∧ kitB "tuple" n = some (n == "tuple")
theorem kit_int : kitN "int" := ⟨by decide +kernel, by decide +kernel, by decide +kernel, by decide +kernel, by decide +kernel, by decide +kernel⟩
theorem kit_bool : kitN "bool" := ⟨by decide +kernel, by decide +kernel, by decide +kernel, by decide +kernel, by decide +kernel, by decide +kernel⟩
theorem kit_str : kitN "str" := ⟨by decide +kernel, by decide +kernel, by decide +kernel, by decide +kernel, by decide +kernel, by decide +kernel⟩
theorem kit_tuple : kitN "tuple" := ⟨by decide +kernel, by decide +kernel, by decide +kernel, by decide +kernel, by decide +kernel, by decide +kernel⟩
section
variable {ι : Type} {X : ι → Cx} {K : PySem.W.Frag} {E : WW} {e : Expr}
theorem se_isi {a b : Expr} {o : Opd} {n : String} (ha : SO X K E a o) (hb : ∀ z, PE (X z) b (tC (.ty n))) (hk : kitN n) (hs : ∀ z, starEach [a, b] (X z).env = (false, eval a (X z).env) :: starEach [b] (X z).env) (hs2 : ∀ z, starEach [b] (X z).env = (false, eval b (X z).env) :: starEach [] (X z).env)
    (hp : ∀ t, (∀ z, PA (X z) [a, b] t) → ∀ z, PE (X z) e (tCB (rIsi K) t)) : SE X K E e (eIsi o n) := by
  obtain ⟨t, pe, h⟩ := ha.ex
  refine ⟨_, hp _ fun z => pa_cons (pe z) (pa_cons (hb z) pa_nil (hs2 z)) (hs z), fun io L G σ s H Q w hf => ?_⟩
  refine h (fk_fin (Q := Q)) w hf fun v h s1 G1 H1 sb1 w1 hr f1 => ?_
  obtain ⟨x, rx, f2⟩ := hr.use fk_fin w1 f1
  cases ei : isTy n x with
  | none => rw [ei] at f2; exact f2.elim
  | some b =>
    rw [ei] at f2
    refine ⟨v, .ty n, .type (tyName x), .type n, b, rfl, .ty n, rp_ty w1.sub rx (fun kvs e => by rw [e] at ei; cases ei), kit_ty ?_, f2 _ G1 H1 (Sub.refl _) w1 (.bl b)⟩
    obtain ⟨k1, k2, k3, k4, k5, k6⟩ := hk
    cases x with
    | none => unfold isTy at ei; rw [← ei]; show kitB "NoneType" n = _; rw [k1, Bool.beq_comm]
    | bool _ => rw [← ei]; exact k2
    | int _ => rw [← ei]; exact k3
    | str _ => rw [← ei]; exact k4
    | list _ => rw [← ei]; exact k5
    | tuple _ => rw [← ei]; exact k6
    | dict _ => cases ei
end

def mAppend : List D → List D → Option (D × List D)
  | ds, [x] => if ds.length < sizeLine then some (.none, ds ++ [x]) else none
  | _, _ => none
theorem prim_append {K : PySem.W.Frag} : PrimM K rAppend mAppend := fun G H a xs ds vs es d ds' Q sb hx rx rv e k => by
  unfold mAppend at e
  split at e
  · split at e
    · rename_i hl
      cases e
      cases rv with
      | cons r1 r2 =>
        cases r2
        exact ⟨a, xs, _, rfl, rfl, hx, by rw [rx.length]; exact hl, k _ _ .non (rx.append (.cons r1 .nil))⟩
    · cases e
  · cases e
def mExtend : List D → List D → Option (D × List D)
  | ds, [.list es] => if ds.length + es.length ≤ sizeLine then some (.none, ds ++ es) else none
  | _, _ => none
theorem prim_extend {K : PySem.W.Frag} : PrimM K rExtend mExtend := fun G H a xs ds vs es d ds' Q sb hx rx rv e k => by
  unfold mExtend at e
  split at e
  · split at e
    · rename_i hl
      cases e
      cases rv with
      | cons r1 r2 =>
        cases r2
        cases r1 with
        | lst h1 r1 => exact ⟨a, _, xs, _, rfl, rfl, hx, sb _ _ h1, by rw [rx.length, r1.length]; exact hl, k _ _ .non (rx.append r1)⟩
    · cases e
  · cases e
def mPopAt : List D → List D → Option (D × List D)
  | ds, [.int i] => if i.natAbs < 2 ^ 63 then match seqIndex? i ds.length with
    | some j => (ds[j]?).map fun x => (x, ds.eraseIdx j)
    | none => none
    else none
  | _, _ => none
theorem dq_erase {K : PySem.W.Frag} {G : Hp} : ∀ {xs : List V} {ds : List D} (j : Nat), DqAll K G xs ds → DqAll K G (xs.eraseIdx j) (ds.eraseIdx j)
  | _, _, _, .nil => .nil
  | _, _, 0, .cons _ t => t
  | _, _, j + 1, .cons r t => .cons r (dq_erase j t)
theorem prim_popAt {K : PySem.W.Frag} : PrimM K rPopAt mPopAt := fun G H a xs ds vs es d ds' Q sb hx rx rv e k => by
  unfold mPopAt at e
  split at e
  · rename_i i
    split at e
    · rename_i hi
      cases ej : seqIndex? i ds.length with
      | none => simp only [ej] at e; cases e
      | some j =>
        simp only [ej] at e
        cases ex : ds[j]? with
        | none => rw [ex] at e; cases e
        | some y =>
          rw [ex] at e; cases e
          obtain ⟨v, hv, dv⟩ := rx.get ex
          cases rv with
          | cons r1 r2 =>
            cases r1; cases r2
            exact ⟨a, xs, i, j, v, rfl, rfl, hx, by omega, by omega, by rw [rx.length]; exact ej, hv, k _ _ dv (dq_erase j rx)⟩
    · cases e
  · cases e
def eLRange (fs : List (M D)) (g : List D → Option (Int × Int)) : M R := evs fs fun ds => match g ds with
  | some (a, b) => if (a.natAbs < 2 ^ 62 ∧ b.natAbs < 2 ^ 62 ∧ (b - a).toNat ≤ 2 ^ 24) then mret (.new (.lst (dRange a (b - a).toNat))) else mstuck
  | none => mstuck
def eTRange (fs : List (M D)) (g : List D → Option (Int × Int)) : M R := evs fs fun ds => match g ds with
  | some (a, b) => if (a.natAbs < 2 ^ 62 ∧ b.natAbs < 2 ^ 62 ∧ (b - a).toNat ≤ 2 ^ 24) then mret (.val (.tuple (dRange a (b - a).toNat))) else mstuck
  | none => mstuck
def rg1 : List D → Option (Int × Int)
  | [.int n] => some (0, n)
  | _ => none
theorem rg_dq {K : PySem.W.Frag} {G : Hp} (a b : Int) : DqAll K G (rgV a b) (dRange a (b - a).toNat) := by
  unfold rgV dRange
  induction List.range (b - a).toNat with
  | nil => exact .nil
  | cons i is ih => exact .cons (.int _) ih
section
variable {ι : Type} {X : ι → Cx} {K : PySem.W.Frag} {E : WW}
theorem se_lrange1 {a : Expr} {f : M D} {p1 p2 pos pos2 : Pos} (hc : ∀ z, (X z).calm = true) (hgl : ∀ z, Gl (X z) "list") (hml : ∀ z, (X z).mg "list" = none) (hg : ∀ z, Gl (X z) "range") (hm : ∀ z, (X z).mg "range" = none) (ha : SV X K E a f)
    (na : ∀ z, starEach [a] (X z).env = (false, eval a (X z).env) :: starEach [] (X z).env := by intro _; rfl)
    (na2 : ∀ z, starEach [.Call (.Name "range" p1) [a] [] pos] (X z).env = (false, eval (.Call (.Name "range" p1) [a] [] pos) (X z).env) :: starEach [] (X z).env := by intro _; rfl) :
    SE X K E (.Call (.Name "list" p2) [.Call (.Name "range" p1) [a] [] pos] [] pos2) (eLRange [f] rg1) := by
  obtain ⟨t, pe, h⟩ := ha.use
  refine ⟨_, fun z => pe_listRg (hc z) (hgl z) (hml z) (prg_1 (hg z) (hm z) (pe z) (na z)) (na2 z), fun io L G σ s H Q w hf => ?_⟩
  refine h (fk_fin (Q := Q)) w hf fun v d s' G' H' sb w' dp f => ?_
  match d, dp, f with
  | .int n, dp, f =>
    cases dp
    have f : Fin K E io L σ G' Q ((if ((0 : Int).natAbs < 2 ^ 62 ∧ n.natAbs < 2 ^ 62 ∧ (n - 0).toNat ≤ 2 ^ 24) then mret (.new (.lst (dRange 0 (n - 0).toNat))) else mstuck : M R) s') := f
    split at f
    · rename_i hr
      exact ⟨n, rfl, ⟨by omega, by omega, by omega, by omega, hr.2.2⟩, fun q hq => ret_fin (x := .l (dRange 0 (n - 0).toNat)) w' f q _ hq (rg_dq 0 n)⟩
    · exact f.elim
  | .none, _, f => exact f.elim
  | .bool _, _, f => exact f.elim
  | .str _, _, f => exact f.elim
  | .list _, _, f => exact f.elim
  | .tuple _, _, f => exact f.elim
  | .dict _, _, f => exact f.elim
theorem se_trange1 {a : Expr} {f : M D} {p1 p2 pos pos2 : Pos} (hc : ∀ z, (X z).calm = true) (hgl : ∀ z, Gl (X z) "tuple") (hml : ∀ z, (X z).mg "tuple" = none) (hg : ∀ z, Gl (X z) "range") (hm : ∀ z, (X z).mg "range" = none) (ha : SV X K E a f)
    (na : ∀ z, starEach [a] (X z).env = (false, eval a (X z).env) :: starEach [] (X z).env := by intro _; rfl)
    (na2 : ∀ z, starEach [.Call (.Name "range" p1) [a] [] pos] (X z).env = (false, eval (.Call (.Name "range" p1) [a] [] pos) (X z).env) :: starEach [] (X z).env := by intro _; rfl) :
    SE X K E (.Call (.Name "tuple" p2) [.Call (.Name "range" p1) [a] [] pos] [] pos2) (eTRange [f] rg1) := by
  obtain ⟨t, pe, h⟩ := ha.use
  refine ⟨_, fun z => pe_tupRg (hc z) (hgl z) (hml z) (prg_1 (hg z) (hm z) (pe z) (na z)) (na2 z), fun io L G σ s H Q w hf => ?_⟩
  refine h (fk_fin (Q := Q)) w hf fun v d s' G' H' sb w' dp f => ?_
  match d, dp, f with
  | .int n, dp, f =>
    cases dp
    have f : Fin K E io L σ G' Q ((if ((0 : Int).natAbs < 2 ^ 62 ∧ n.natAbs < 2 ^ 62 ∧ (n - 0).toNat ≤ 2 ^ 24) then mret (.val (.tuple (dRange 0 (n - 0).toNat))) else mstuck : M R) s') := f
    split at f
    · rename_i hr
      exact ⟨n, rfl, ⟨by omega, by omega, by omega, by omega, hr.2.2⟩, fun q hq => (ret_fin (x := .t (dRange 0 (n - 0).toNat)) w' f).2 q _ hq (rg_dq 0 n)⟩
    · exact f.elim
  | .none, _, f => exact f.elim
  | .bool _, _, f => exact f.elim
  | .str _, _, f => exact f.elim
  | .list _, _, f => exact f.elim
  | .tuple _, _, f => exact f.elim
  | .dict _, _, f => exact f.elim
end
end L3

namespace L3
open PySem PySem.W PySem.Spec PyProof.Rows L2

section
variable {ι : Type} {X : ι → Cx} {K : PySem.W.Frag} {E : WW} {e : Expr}
def t3 (a b c : Opd) (p q : D → D → Option Bool) : M Bool := opS a fun h => opS b fun g => rsv h fun x => rsv g fun y => match p x y with
  | some true => opS c fun k => rsv g fun y => rsv k fun z => match q y z with
    | some r => mret r
    | none => mstuck
  | some false => mret false
  | none => mstuck
end

def keyD : D → Option Key
  | .int i => some (.inl i)
  | .str x => some (.inr x)
  | _ => none
def kD : Key → D
  | .inl i => .int i
  | .inr x => .str x
theorem keyD_v {K : PySem.W.Frag} {G : Hp} {v : V} {x : D} {k : Key} (h : Dq K G v x) (e : keyD x = some k) : v = kV k := by
  cases h <;> cases e <;> rfl
theorem kD_dq {K : PySem.W.Frag} {G : Hp} (k : Key) : Dq K G (kV k) (kD k) := by cases k <;> constructor
def getK (kvs : List (Key × D)) (k : Key) : Option D := (kvs.find? fun kv => decide (kv.1 = k)).map (·.2)
def putD (kvs : List (Key × D)) (k : Key) (v : D) : List (Key × D) :=
  if (kvs.any fun kv => decide (kv.1 = k)) = true then kvs.map (fun kv => if kv.1 = k then (kv.1, v) else kv) else kvs ++ [(k, v)]
section
variable {K : PySem.W.Frag} {G : Hp}
theorem DpKV.length {kvs : List (Key × V)} {kds : List (Key × D)} (h : DpKV K G kvs kds) : kvs.length = kds.length := by
  induction h with
  | nil => rfl
  | cons _ _ ih => simp [ih]
theorem DpKV.get {kvs : List (Key × V)} {kds : List (Key × D)} (h : DpKV K G kvs kds) (k : Key) : (valV kvs k = none ∧ getK kds k = none) ∨ ∃ v d, valV kvs k = some v ∧ getK kds k = some d ∧ Dq K G v d := by
  induction h with
  | nil => exact .inl ⟨rfl, rfl⟩
  | @cons k0 v d kvs kds r _ ih =>
    by_cases e : k0 = k
    · exact .inr ⟨v, d, by simp [valV, e], by simp [getK, e], r⟩
    · have e1 : valV ((k0, v) :: kvs) k = valV kvs k := by simp [valV, e]
      have e2 : getK ((k0, d) :: kds) k = getK kds k := by simp [getK, e]
      rw [e1, e2]; exact ih
theorem DpKV.any {kvs : List (Key × V)} {kds : List (Key × D)} (h : DpKV K G kvs kds) (k : Key) : (kvs.any fun kv => decide (kv.1 = k)) = (kds.any fun kv => decide (kv.1 = k)) := by
  induction h with
  | nil => rfl
  | cons _ _ ih => simp only [List.any_cons, ih]
theorem DpKV.repl {kvs : List (Key × V)} {kds : List (Key × D)} (h : DpKV K G kvs kds) {k : Key} {v : V} {d : D} (r : Dq K G v d) : DpKV K G (kvs.map fun kv => if kv.1 = k then (kv.1, v) else kv) (kds.map fun kv => if kv.1 = k then (kv.1, d) else kv) := by
  induction h with
  | nil => exact .nil
  | @cons k0 v0 d0 kvs kds r0 _ ih =>
    simp only [List.map_cons]
    by_cases e : k0 = k
    · rw [if_pos e, if_pos e]; exact .cons r ih
    · rw [if_neg e, if_neg e]; exact .cons r0 ih
theorem DpKV.snoc {kvs : List (Key × V)} {kds : List (Key × D)} (h : DpKV K G kvs kds) {k : Key} {v : V} {d : D} (r : Dq K G v d) : DpKV K G (kvs ++ [(k, v)]) (kds ++ [(k, d)]) := by
  induction h with
  | nil => exact .cons r .nil
  | cons r0 _ ih => exact .cons r0 ih
theorem DpKV.put {kvs : List (Key × V)} {kds : List (Key × D)} (h : DpKV K G kvs kds) {k : Key} {v : V} {d : D} (r : Dq K G v d) : DpKV K G (putK kvs k v) (putD kds k d) := by
  unfold putK putD
  rw [h.any k]
  split
  · exact h.repl r
  · exact h.snoc r
theorem DpKV.keys {kvs : List (Key × V)} {kds : List (Key × D)} (h : DpKV K G kvs kds) : DqAll K G (kvs.map fun kv => kV kv.1) (kds.map fun kv => kD kv.1) := by
  induction h with
  | nil => exact .nil
  | cons _ _ ih => exact .cons (kD_dq _) ih
end
def S.dct (s : S) (i : Nat) : Option (List (Key × D)) := match s.env[i]? with
  | some (some (Sl.own (C.dct kds))) => some kds
  | _ => none
theorem Wd.dct {K : PySem.W.Frag} {io : Option Addr} {L G H : Hp} {σ : L2.St} {s : S} {i : Nat} {kds : List (Key × D)} (w : Wd K io L G σ s H) (h : s.dct i = some kds) :
    s.env[i]? = some (some (Sl.own (C.dct kds))) ∧ ∃ a kvs, σ[i]? = some (some (V.ref a)) ∧ H a = some (.dK kvs) ∧ DpKV K G kvs kds := by
  unfold S.dct at h
  split at h
  · rename_i c q
    cases h
    obtain ⟨a, o, e, g, ha, r, l, _⟩ := w.owns i _ q
    cases r with
    | dct r => exact ⟨q, a, _, e, ha, r⟩
  · cases h
section
variable {ι : Type} {X : ι → Cx} {K : PySem.W.Frag} {E : WW} {e : Expr}
def eNewD : M R := mret (.new (.dct []))
theorem se_newD {pos : Pos} : SE X K E (.Dict [] [] pos) eNewD := by
  refine ⟨_, fun _ => pe_dnewK, fun io L G σ s H Q w hf => fun p hp => ?_⟩
  obtain ⟨hL, w'⟩ := w.fresh (o := .dK []) hp
  exact hf p _ G _ (Sub.refl _) hL w' (.dct .nil)
def sDPut (i : Nat) (fv fk : M D) : M Fl := mbind fv fun v s => match s.dct i with
  | none => .stuck
  | some _ => mbind fk (fun k s' => match s'.dct i with
    | none => .stuck
    | some kds => match keyD k with
      | none => .stuck
      | some k => if kds.length < sizeLine then .ok .nx (s'.seto i (.dct (putD kds k v))) else .stuck) s
theorem ss_dput {i : Nat} {st : Stmt} {ev ek : Expr} {fv fk : M D} (hv : SV X K E ev fv) (hk : SV X K E ek fk) (hp : ∀ tv tk, (∀ z, PE (X z) ev tv) → (∀ z, PE (X z) ek tk) → ∀ z, PS (X z) st (L2.sDPut (tVar i) tk tv)) : SS X K E st (sDPut i fv fk) := by
  obtain ⟨tv, pv, hv⟩ := hv.use
  obtain ⟨tk, pk, hk⟩ := hk.use
  refine ⟨_, hp tv tk pv pk, fun io L G σ s H A w hf => ?_⟩
  refine hv (fk_finS (A := A)) w hf fun v x s1 G1 H1 sb1 w1 dp1 f1 => ?_
  split at f1
  · exact f1.elim
  · rename_i kds0 e0
    obtain ⟨_, a, kvs0, e1, _⟩ := w1.dct e0
    refine ⟨_, e1, ?_⟩
    refine hk (fk_finS (A := A)) w1 f1 fun u y s2 G2 H2 sb2 w2 dp2 f2 => ?_
    split at f2
    · exact f2.elim
    · rename_i kds ec
      obtain ⟨q, a', kvs, e2, ha, rk⟩ := w2.dct ec
      rw [e1] at e2; cases e2
      split at f2
      · exact f2.elim
      · rename_i k ek
        split at f2
        · rename_i hl
          have := keyD_v dp2 ek
          subst this
          refine ⟨a, _, rfl, DPut.k ha (by rw [rk.length]; exact hl), ?_⟩
          exact f2 _ G2 _ (Sub.refl _) (w2.writeO q e1 (.dct (rk.put (sb2.dp dp1))))
        · exact f2.elim
def eDGet (i : Nat) (fk : M D) : M R := fun s => match s.dct i with
  | none => .stuck
  | some _ => mbind fk (fun k s' => match s'.dct i with
    | none => .stuck
    | some kds => match keyD k with
      | none => .stuck
      | some k => match getK kds k with
        | none => .stuck
        | some d => .ok (.val d) s') s
def tDIn (i : Nat) (fk : M D) (pos : Bool) : M Bool := mbind fk fun k s => match s.dct i with
  | none => .stuck
  | some kds => match keyD k with
    | none => .stuck
    | some k => .ok ((getK kds k).isSome == pos) s
def eDLen (i : Nat) : M R := fun s => match s.dct i with
  | none => .stuck
  | some kds => .ok (.val (.int kds.length)) s
def eDList (i : Nat) : M R := fun s => match s.dct i with
  | none => .stuck
  | some kds => .ok (.new (.lst (kds.map fun kv => kD kv.1))) s
theorem se_dlist {i : Nat} {a : Expr} (ha : ∀ z, PE (X z) a (tVar i)) (hs : ∀ z, starEach [a] (X z).env = [(false, eval a (X z).env)]) (hp : ∀ t, (∀ z, PA (X z) [a] t) → ∀ z, PE (X z) e (tCB rListD t)) : SE X K E e (eDList i) := by
  refine ⟨_, hp _ fun z => pa_cons (ha z) pa_nil (hs z), fun io L G σ s H Q w hf => ?_⟩
  unfold eDList at hf
  split at hf
  · exact hf.elim
  · rename_i kds ec
    obtain ⟨q, a, kvs, e1, ha, rk⟩ := w.dct ec
    refine ⟨_, e1, a, kvs, rfl, ha, fun p hp => ?_⟩
    exact ret_fin (x := .l (kds.map fun kv => kD kv.1)) w hf p _ hp rk.keys
end
end L3

namespace L3
open PySem PySem.W PySem.Spec PyProof.Rows L2

section
variable {ι : Type} {X : ι → Cx} {K : PySem.W.Frag} {E : WW} {e : Expr} {st : Stmt}
def sUnp (is : List Nat) (f : M D) : M Fl := mbind f fun d s => match gT is d s with
  | some s' => .ok .nx s'
  | none => .stuck
theorem ss_unp {is : List Nat} {f : M D} (he : SV X K E e f) (hp : ∀ te, (∀ z, PE (X z) e te) → ∀ z, PS (X z) st (tAsg te (gTup K is.length (gNames is)))) : SS X K E st (sUnp is f) := by
  obtain ⟨t, p, h⟩ := he.use
  refine ⟨_, hp t p, fun io L G σ s H A w hf => ?_⟩
  refine h (fk_finS (A := A)) w hf fun v d s' G' H' sb w' dp f => ?_
  unfold gT at f
  split at f
  · rename_i s2 e2
    split at e2
    · rename_i ds
      split at e2
      · rename_i hl
        cases e2
        cases dp with
        | tup h1 h2 => exact ⟨_, _, rfl, w'.sub.t h1, h2.length.trans hl, gNames_wd w' h2 hl fun σ' _ _ w2 => f _ G' H' (Sub.refl _) w2⟩
      · cases e2
    · cases e2
  · exact f.elim
structure Cal (P : Program) (w : World) (K : PySem.W.Frag) (mg : Str → Option Value) (base : Heap) (x : Str) (ps : List Str) (lv : Nat) (bx : Bool) (g : Fn) (ds : List Value) : Prop where
  ex : ∃ f fd, FnOk P w K mg base CX0 lv f fd ps (spF K bx ps.length g) ∧ mg x = some (.ref f) ∧ PySem.W.keepIn K (.ref f) = true ∧ Binds K fd ps ds
end
theorem law_sp {K : PySem.W.Frag} {H : Hp} {a : Addr} {ns : List Int} {g : Fn} (m : ∃ bs, g [scr ns] [] = .ok (.val (.bool true)) bs) (hS : SqL K H a (ns.map V.int)) : spF K false 1 g [.ref a] H (fun v _ => v = .bl true) fun _ _ _ => False := by
  obtain ⟨bs, m⟩ := m
  refine ⟨H, none, [scr ns], [], [.ref a], Sub.refl _, rfl, rfl, .cons (.scr ns hS) .nil, rfl, fun a h => (by cases h), ?_⟩
  rw [m]
  intro G' H' _ v dp
  cases dp
  rfl
end L3

namespace L3
open PySem PySem.W PySem.Spec PyProof.Rows L2

theorem spF_stuck {K : PySem.W.Frag} {bx : Bool} {np : Nat} {vs : List V} {H : Hp} {Q : VK} {E : XK} : ¬ spF K bx np (fun _ _ => .stuck) vs H Q E := by
  rintro ⟨G, io, ds, box, ws, _, _, _, _, _, _, h⟩
  exact h
theorem fn_stuck {P : Program} {w : World} {K : PySem.W.Frag} {mg : Str → Option Value} {base : Heap} {k : Nat} {f : Addr} {fd : FuncData} {ps : List Str} {bx : Bool} {np : Nat} : FnOk P w K mg base CX0 k f fd ps (spF K bx np (fun _ _ => .stuck)) :=
  ⟨fun _ _ _ _ h => (spF_stuck h).elim, fun _ _ _ _ _ _ _ _ _ _ _ _ _ h => (spF_stuck h).elim⟩

section
variable {P : Program} {w : World} {K : PySem.W.Frag} {mg : Str → Option Value} {base : Heap}
theorem fn_okD {x qual : Str} {st : Stmt} {f : Addr} {fd : FuncData} {N ps : List Str} {k : Nat} {b : M Fl} (bx : Bool) {dvs : List V} (F : FunD K x qual (defArgs st) (defBody st) (defScope st) dvs [] f fd) (S : FnScope N ps (defScope st)) (hps : ps.length ≤ N.length)
    (hb : ∀ (cdv : Value) (A : Around) (outer : List Env) (s : Shared) (H : Hp) (E : XK), Room k (A.deeper (envOfC qual (defScope st) s.heap.objs.size f cdv)) →
      SB (fun _ : Unit => (cxOf CX0 P w K mg base N qual (defScope st) f cdv A outer s H E).nox) K WW0 (defBody st) b) : FnOk P w K mg base CX0 (k + 1) f fd ps (spF K bx ps.length (runF bx N.length b)) := by
  refine F.ok S (fun vs H Q E h => ?_) (fun cdv A outer s H vs Q E hr h => ?_)
  · obtain ⟨G, io, ds, box, ws, _, _, _, _, hl, _⟩ := h
    exact hl
  · obtain ⟨G, io, ds, box, ws, sb, rfl, hbx, hd, hl, hio, hg⟩ := h
    obtain ⟨t, p, h⟩ := (hb cdv A outer s H E hr).ex
    refine ⟨t, (p ()).nox, ?_⟩
    have w0 := start_wd (N := N) sb hd (by omega) hio
    rw [hbx] at w0
    refine h io _ G _ _ H _ w0 ?_
    unfold runF at hg
    have ext : ∀ {L G' H' σ s'}, (∀ b o, H b = some o → G b = none → io ≠ some b → L b = some o) → Sub G G' → Wd K io L G' σ s' H' → Ext K G H io G' H' s'.box := fun {L G' H' σ s'} hL e w' =>
      ⟨e, w'.sub, fun b o h1 h2 h3 => w'.loose b o (hL b o h1 h2 h3), fun a ha => let ⟨g, _, q⟩ := w'.ios a ha; ⟨g, q⟩⟩
    have L0 : ∀ b o, H b = some o → G b = none → io ≠ some b → (if G b = none ∧ io ≠ some b then H b else none) = some o := fun b o h1 h2 h3 => by rw [if_pos ⟨h2, h3⟩]; exact h1
    cases e : b ⟨initE bx N.length ds, box⟩ with
    | stuck => rw [e] at hg; exact hg.elim
    | exc c d s' => rw [e] at hg; exact hg.elim
    | ok fl s' =>
      rw [e] at hg
      match fl, hg with
      | .nx, hg => exact fun σ' G' H' sb' w' => hg G' H' (ext L0 sb' w') _ .non
      | .rt (.val d), hg => exact fun v σ' G' H' sb' w' dp => hg G' H' (ext L0 sb' w') v dp
      | .rt (.new c), hg =>
        intro a o σ' G' H' sb' hL w' rc
        obtain ⟨hG', hH'⟩ := w'.loose a o upd_same
        have hioa : io ≠ some a := fun q => by
          have z := (w'.ios a q).2.1
          rw [upd_same] at z; cases z
        have hG : G a = none := sb'.none hG'
        have hH : H a = none := by
          have hL : (if G a = none ∧ io ≠ some a then H a else none) = none := hL
          rw [if_pos ⟨hG, hioa⟩] at hL
          exact hL
        exact hg G' H' (ext L0 sb' (w'.drop hL)) a o hH hG' hH' rc hioa
      | .bk, hg => exact hg.elim
      | .ct, hg => exact hg.elim
end
def arr {α : Type} (ix : List Nat) (nu nw : Nat) (ds us ws : List α) : List α := if us.length = nu ∧ ws.length = nw then ix.filterMap fun i => (us ++ (ws ++ ds))[i]? else []
theorem vals_pick {xs : List V} {us : List Value} (h : Vals xs us) : ∀ ix : List Nat, Vals (ix.filterMap fun i => xs[i]?) (ix.filterMap fun i => us[i]?)
  | [] => .nil
  | i :: ix => by
    rw [List.filterMap_cons, List.filterMap_cons]
    cases e : xs[i]? with
    | none =>
      have : us[i]? = none := by
        rw [List.getElem?_eq_none_iff] at e ⊢
        rw [← h.length]; exact e
      rw [this]
      exact vals_pick h ix
    | some x =>
      obtain ⟨u, eu, r⟩ := h.get e
      rw [eu]
      exact .cons r (vals_pick h ix)
theorem dq_pick {K : PySem.W.Frag} {G : Hp} {xs : List V} {us : List D} (h : DqAll K G xs us) : ∀ ix : List Nat, DqAll K G (ix.filterMap fun i => xs[i]?) (ix.filterMap fun i => us[i]?)
  | [] => .nil
  | i :: ix => by
    rw [List.filterMap_cons, List.filterMap_cons]
    cases e : us[i]? with
    | none =>
      have : xs[i]? = none := by
        rw [List.getElem?_eq_none_iff] at e ⊢
        rw [h.length]; exact e
      rw [this]
      exact dq_pick h ix
    | some x =>
      obtain ⟨u, eu, r⟩ := h.get e
      rw [eu]
      exact .cons r (dq_pick h ix)
theorem vals_app {a b : List V} {c d : List Value} (h : Vals a c) (h2 : Vals b d) : Vals (a ++ b) (c ++ d) := by
  induction h with
  | nil => exact h2
  | cons r _ ih => exact .cons r ih
theorem arr_vals {ix : List Nat} {nu nw : Nat} {dvs vs zs : List V} {ds us ws : List Value} (hd : Vals dvs ds) (h : Vals vs us) (h2 : Vals zs ws) : Vals (arr ix nu nw dvs vs zs) (arr ix nu nw ds us ws) := by
  unfold arr
  rw [h.length, h2.length]
  split
  · exact vals_pick (vals_app h (vals_app h2 hd)) ix
  · exact .nil
theorem kb_mk {K : PySem.W.Frag} {fd : FuncData} {ps ks : List Str} {ix : List Nat} {nu nw : Nat} {dvs : List V} {ds : List Value} (hd : Vals dvs ds)
    (h : ∀ (s : Shared) (us ws : List Value), K.In s.heap → us.length = nu → ws.length = nw → BindsTo s fd ⟨us, ks.zip ws⟩ (ps.zip (arr ix nu nw ds us ws))) (hp : ps ≠ []) : KBinds K fd ps ks (arr ix nu nw ds) (arr ix nu nw dvs) where
  to := fun s us ws hs hl => by
    by_cases c : us.length = nu ∧ ws.length = nw
    · exact h s us ws hs c.1 c.2
    · exfalso
      unfold arr at hl
      rw [if_neg c] at hl
      exact hp (List.length_eq_zero_iff.mp hl.symm)
  rel := fun r rz => arr_vals hd r rz
section
variable {X : Cx} {CX : CXT} {k : Nat} {f C : Addr} {fd : FuncData} {ps ks : List Str} {sp : Sp} {E : XK} {x m : Str} {p pos apos kpos : Pos} {e o : Expr} {es : List Expr} {kws : List Keyword} {te ta : TE} {t tk : TA} {nm : Option Str} {g : List Value → List Value → List Value} {gV : List V → List V → List V}
end
section
variable {ι : Type} {X : ι → Cx} {K : PySem.W.Frag} {E : WW} {e : Expr}
structure SKw {ι : Type} (X : ι → Cx) (K : PySem.W.Frag) (E : WW) (es : List Keyword) (fs : List (M D)) : Prop where
  ex : ∃ t, (∀ i, PK (X i) es t) ∧ ∀ {β : Type} {F : Hp → Out β → Prop} {k : List D → M β} {io L G σ s H} {Q : List V → Hp → Prop}, FK K E io L σ F → Wd K io L G σ s H → F G (evs fs k s) →
    (∀ vs ds s' G' H', Sub G G' → Wd K io L G' σ s' H' → DqAll K G' vs ds → F G' (k ds s') → Q vs H') → t σ H Q
theorem skw_nil : SKw X K E [] [] := ⟨_, fun _ => pk_nil, fun {β F k io L G σ s H Q} fk w hf hq => hq [] [] s G H (Sub.refl _) w .nil hf⟩
theorem skw_cons {nm : Option Str} {kpos : Pos} {e : Expr} {es : List Keyword} {f : M D} {fs : List (M D)} (h1 : SV X K E e f) (h2 : SKw X K E es fs) : SKw X K E (⟨nm, e, kpos⟩ :: es) (f :: fs) := by
  obtain ⟨t, pe, h1⟩ := h1.use
  obtain ⟨u, pa, h2⟩ := h2.ex
  refine ⟨_, fun z => pk_cons (pe z) (pa z), fun {β F k io L G σ s H Q} fk w hf hq => ?_⟩
  refine h1 fk w hf fun v d s1 G1 H1 sb1 w1 dp f1 => ?_
  refine h2 fk w1 f1 fun vs ds s2 G2 H2 sb2 w2 rs f2 => ?_
  exact hq _ _ s2 G2 H2 (sb1.trans sb2) w2 (.cons (sb2.dp dp) rs) f2
def eCallK (g : Fn) (ix : List Nat) (np nu nw : Nat) (fs ks : List (M D)) (dd : List D) : M R := evs fs fun us => evs ks fun ws s => if (arr ix nu nw dd us ws).length = np then (match g (arr ix nu nw dd us ws) [] with
  | .ok r _ => .ok r s
  | _ => .stuck) else .stuck
theorem arr_dq {K : PySem.W.Frag} {G : Hp} {ix : List Nat} {nu nw : Nat} {dvs vs zs : List V} {dd us ws : List D} (hd : DqAll K G dvs dd) (h : DqAll K G vs us) (h2 : DqAll K G zs ws) : DqAll K G (arr ix nu nw dvs vs zs) (arr ix nu nw dd us ws) := by
  unfold arr
  rw [h.length, h2.length]
  split
  · exact dq_pick (h.append (h2.append hd)) ix
  · exact .nil
end
end L3

namespace L3
open PySem PySem.W PySem.Calls PySem.Spec PyProof.Rows L2
section
variable {P : Program} {w : World} {A : Around} {E : Value → Shared → Prop} {s : Shared} {β : Type} {enc : β → PyData} {R : Value → β → Prop}
end

def tupI (ns : List Int) : D := .tuple (ns.map .int)
def tupsOf : List D → Option (List (List Int))
  | [] => some []
  | .tuple xs :: ds => match intsOf xs with
    | some ns => (tupsOf ds).map (ns :: ·)
    | none => none
  | _ :: _ => none
def nub {α : Type} [DecidableEq α] : List α → List α
  | [] => []
  | x :: xs => if x ∈ xs then nub xs else x :: nub xs
theorem nub_mem {α : Type} [DecidableEq α] {x : α} : ∀ {l : List α}, x ∈ nub l ↔ x ∈ l
  | [] => .rfl
  | y :: l => by
    unfold nub
    split
    · rename_i h
      rw [nub_mem (l := l), List.mem_cons]
      exact ⟨.inr, fun q => q.elim (fun e => e ▸ h) id⟩
    · rw [List.mem_cons, List.mem_cons, nub_mem (l := l)]
theorem nub_nodup {α : Type} [DecidableEq α] : ∀ l : List α, (nub l).Nodup
  | [] => List.nodup_nil
  | y :: l => by
    unfold nub
    split
    · exact nub_nodup l
    · rename_i h
      exact List.nodup_cons.mpr ⟨fun q => h (nub_mem.mp q), nub_nodup l⟩
def leT (a b : List Int) : Bool := dataLe false tupI a b
def leI (a b : Int) : Bool := decide (a ≤ b)
def sortT (nss : List (List Int)) : List (List Int) := (nub nss).mergeSort leT
def sortI (ns : List Int) : List Int := (nub ns).mergeSort leI
def setOf (ds : List D) : Option (List D) := match intsOf ds with
  | some ns => if ns.length < 64 then some ((sortI ns).map .int) else none
  | none => match tupsOf ds with
    | some nss => if nss.length < 64 then some ((sortT nss).map tupI) else none
    | none => none
def pSortSet : List D → Option PO
  | [.list ds] => (setOf ds).map .l
  | [.tuple ds] => match intsOf ds with
    | some ns => if ns.length < 64 then some (.l ((sortI ns).map .int)) else none
    | none => none
  | _ => none
theorem leI_sorted (l : List Int) : (l.mergeSort leI).Pairwise fun a b => a ≤ b :=
  (List.pairwise_mergeSort (le := leI) (fun a b c h1 h2 => by unfold leI at *; simp at *; omega) (fun a b => by unfold leI; simp; omega) l).imp fun h => of_decide_eq_true h
theorem sortI_eq {l ns : List Int} (hs : l.Pairwise fun a b => a < b) (hm : ∀ z, z ∈ l ↔ z ∈ ns) : l = sortI ns := by
  have hn : l.Nodup := hs.imp fun h => Int.ne_of_lt h
  exact List.Perm.eq_of_pairwise (le := fun x y => x ≤ y) (fun x y _ _ h1 h2 => Int.le_antisymm h1 h2) (hs.imp fun h => Int.le_of_lt h) (leI_sorted _) (((List.perm_ext_iff_of_nodup hn (nub_nodup ns)).mpr fun z => by rw [hm, nub_mem]).trans (List.mergeSort_perm _ _).symm)
end L3

namespace L3
open PySem PySem.W PySem.Calls PySem.Spec PyProof.Rows L2
section
variable {P : Program} {w : World} {A : Around} {E : Value → Shared → Prop} {s : Shared}
end
section
variable {X : Cx}
end
end L3

namespace L3
open PySem PySem.W PySem.Calls PySem.Spec PyProof.Rows L2
section
variable {X : Cx}
end
section
variable {ι : Type} {X : ι → Cx} {K : PySem.W.Frag} {E : WW} {e : Expr} {P : Program} {w : World}
end
end L3

namespace L3
open PySem PySem.W PySem.Spec PyProof.Rows L2
section
variable {l : Addr} {its : Array Value} {n : Nat} {dd : Option Addr} {sl : Array (Option Value)} {x : Int} {u : Tok}
abbrev tupOb (its : Array Value) (n : Nat) (dd : Option Addr) (sl : Array (Option Value)) : Obj := { cls := .type "tuple", dict := dd, data := .seq its n, slots := sl }
theorem mul_none (c0 : (decide (x < -(2 ^ 63)) || decide (x ≥ 2 ^ 63)) = false) (c1 : (its.isEmpty || x == 1) = false) (c2 : (decide (x ≤ 0) || its.isEmpty) = true) :
    Meets (Builtin.«tuple.__mul__» ⟨[.ref l, .int x u], []⟩) fun _ R s => s.heap.get? l = some (tupOb its n dd sl) ∧ R (.ok (.ret (Value.ref s.heap.objs.size))) { s with heap := s.heap.push { cls := Value.type "tuple", data := Data.seq #[] }, toks := s.toks } :=
  .of_wp fun prog w A R s ⟨hl, h⟩ => by
    obtain ⟨hp, g, d, tk, os⟩ := s
    have hl : hp.get? l = some { cls := .type "tuple", dict := dd, data := .seq its n, slots := sl } := hl
    have ix := AutoSeq1.idx_int
    wp_walk using wpAny_loadPart' hl
    repeat (first
      | (refine wpAny_ite_false (decide_eq_false (by rw [c0]; simp)) ?_; wp_walk using wpAny_loadPart' hl)
      | (refine wpAny_ite_false (decide_eq_false (by rw [c1]; simp)) ?_; wp_walk using wpAny_loadPart' hl)
      | (refine wpAny_ite_true (decide_eq_true (by rw [c2])) ?_; wp_walk using wpAny_loadPart' hl))
    exact ⟨_, rfl, h⟩
theorem mul_same (c0 : (decide (x < -(2 ^ 63)) || decide (x ≥ 2 ^ 63)) = false) (c1 : (its.isEmpty || x == 1) = true) :
    Meets (Builtin.«tuple.__mul__» ⟨[.ref l, .int x u], []⟩) fun _ R s => s.heap.get? l = some (tupOb its n dd sl) ∧ R (.ok (.ret (Value.ref l))) s :=
  .of_wp fun prog w A R s ⟨hl, h⟩ => by
    obtain ⟨hp, g, d, tk, os⟩ := s
    have hl : hp.get? l = some { cls := .type "tuple", dict := dd, data := .seq its n, slots := sl } := hl
    have ix := AutoSeq1.idx_int
    wp_walk using wpAny_loadPart' hl
    repeat (first
      | (refine wpAny_ite_false (decide_eq_false (by rw [c0]; simp)) ?_; wp_walk using wpAny_loadPart' hl)
      | (refine wpAny_ite_true (decide_eq_true (by rw [c1])) ?_; wp_walk using wpAny_loadPart' hl))
    exact ⟨_, rfl, h⟩
end
section
variable {X : Cx}
def rRep1 (K : PySem.W.Frag) : R2 := fun x y H Q => ∃ l k xs, x = .ref l ∧ y = .int k ∧ SqT K H l xs ∧ (xs = [] ∨ k = 1) ∧ -1000 ≤ k ∧ k ≤ 1000 ∧ Q (.ref l) H
def rRep0 (K : PySem.W.Frag) : R2 := fun x y H Q => ∃ l k xs, x = .ref l ∧ y = .int k ∧ SqT K H l xs ∧ xs ≠ [] ∧ -1000 ≤ k ∧ k ≤ 0 ∧ ∀ p, H p = none → Q (.ref p) (upd H p (.tup []))
theorem tup_nil {its : List Value} {xs : List V} (r : Vals xs its) : its.toArray.isEmpty = xs.isEmpty := by
  cases r <;> rfl
theorem op_rep1 : OpR X (binaryOp .Mult) (rRep1 X.K) := by
  intro pins s σ H x y v u Q I rx ry h
  obtain ⟨l, k, xs, rfl, rfl, hT, hk, h1, h2, q⟩ := h
  cases rx
  obtain ⟨t, rfl⟩ := ry
  obtain ⟨its, r, ⟨⟨cls, dd, data, sl⟩, ho, hc, n, hd⟩, _⟩ := I.tuple hT
  simp only at hc hd
  subst hc hd
  have c0 : (decide (k < -(2 ^ 63)) || decide (k ≥ 2 ^ 63)) = false := by
    rw [Bool.or_eq_false_iff]
    exact ⟨decide_eq_false (by omega), decide_eq_false (by omega)⟩
  have c1 : (its.toArray.isEmpty || k == 1) = true := by
    rw [tup_nil r, Bool.or_eq_true]
    rcases hk with rfl | rfl
    · exact .inl rfl
    · exact .inr rfl
  have ob : s.heap.get? l = some (tupOb its.toArray n dd sl) := ho
  have ty : s.TypeIs (.ref l) "tuple" := ⟨_, ho, rfl⟩
  refine wpAny_binaryOp_repeat_ref (T := "tuple") (U := "int") (by decide) ty (fun s' => typeIs_int s' k t) noFill_tuple_mul F.fills_int_mul F.slot_int_rmul repeat_tuple F.slot_int_index.lookup ?_
  refine call_meets F.slot_int_rmul (typeIs_int s k t) F.entry_int_rmul (F.args_int_rmul_2 _ _) (int_rmul_tuple k t l its.toArray n dd sl) ⟨ho, rfl, ty, ?_⟩
  refine call_meets F.slot_tuple_mul ty F.entry_tuple_mul (F.args_tuple_mul_2 _ _) (mul_same (dd := dd) (sl := sl) (n := n) c0 c1) ⟨ob, ?_⟩
  exact ⟨.ref l, H, I, rfl, q⟩
theorem op_rep0 : OpR X (binaryOp .Mult) (rRep0 X.K) := by
  intro pins s σ H x y v u Q I rx ry h
  obtain ⟨l, k, xs, rfl, rfl, hT, hne, h1, h2, q⟩ := h
  cases rx
  obtain ⟨t, rfl⟩ := ry
  obtain ⟨its, r, ⟨⟨cls, dd, data, sl⟩, ho, hc, n, hd⟩, _⟩ := I.tuple hT
  simp only at hc hd
  subst hc hd
  have c0 : (decide (k < -(2 ^ 63)) || decide (k ≥ 2 ^ 63)) = false := by
    rw [Bool.or_eq_false_iff]
    exact ⟨decide_eq_false (by omega), decide_eq_false (by omega)⟩
  have c1 : (its.toArray.isEmpty || k == 1) = false := by
    rw [tup_nil r, Bool.or_eq_false_iff]
    exact ⟨by cases xs <;> simp_all, beq_eq_false_iff_ne.mpr (by omega)⟩
  have c2 : (decide (k ≤ 0) || its.toArray.isEmpty) = true := by rw [decide_eq_true h2]; rfl
  have ob : s.heap.get? l = some (tupOb its.toArray n dd sl) := ho
  have ty : s.TypeIs (.ref l) "tuple" := ⟨_, ho, rfl⟩
  refine wpAny_binaryOp_repeat_ref (T := "tuple") (U := "int") (by decide) ty (fun s' => typeIs_int s' k t) noFill_tuple_mul F.fills_int_mul F.slot_int_rmul repeat_tuple F.slot_int_index.lookup ?_
  refine call_meets F.slot_int_rmul (typeIs_int s k t) F.entry_int_rmul (F.args_int_rmul_2 _ _) (int_rmul_tuple k t l its.toArray n dd sl) ⟨ho, rfl, ty, ?_⟩
  refine call_meets F.slot_tuple_mul ty F.entry_tuple_mul (F.args_tuple_mul_2 _ _) (mul_none (dd := dd) (sl := sl) (n := n) c0 c1 c2) ⟨ob, ?_⟩
  refine ⟨.ref s.heap.objs.size, _, I.laid (t' := s.toks) (o := .tup []) (fun b ob q => Heap.get?_push_of_some _ q) (Nat.le_refl _) ⟨Nat.zero_le _, [], .nil, IsTup.new _ _⟩, rfl, q _ (I.hok.fresh (Nat.le_refl _))⟩
def rMulT (K : PySem.W.Frag) : R2 := fun x y H Q => rMulD x y H Q ∨ (rRepT K x y H Q ∨ (rRep1 K x y H Q ∨ rRep0 K x y H Q))
theorem op_mulT : OpR X (binaryOp .Mult) (rMulT X.K) := op_mulD.or (op_repT.or (op_rep1.or op_rep0))
end
def pMulT (x y : D) : Option PO := match x, y with
  | .tuple xs, .int k => if -1000 ≤ k ∧ k ≤ 1000 ∧ xs.length ≤ 1000 then some (.t (List.replicate k.toNat xs).flatten) else none
  | .list xs, .int k => if -1000 ≤ k ∧ k ≤ 1000 ∧ xs.length ≤ 1000 then pMul (.list xs) (.int k) else none
  | x, y => pMul x y
theorem prim_mulT {K : PySem.W.Frag} : Prim2 K (rMulT K) pMulT := fun G H v u x y z Q sb rx ry hz rt => by
  unfold pMulT at hz
  split at hz
  · rename_i xs k
    split at hz
    · rename_i hc
      cases hz
      obtain ⟨a, vs, rfl, h1, r1⟩ := rx.tuple sb
      have hy := ry.int
      subst hy
      have hl := r1.length
      by_cases h0 : vs = [] ∨ k = 1
      · refine .inr (.inr (.inl ⟨a, k, vs, rfl, rfl, h1, h0, hc.1, hc.2.1, rt.1 _ ?_⟩))
        have e : (List.replicate k.toNat xs).flatten = xs := by
          rcases h0 with rfl | rfl
          · have : xs = [] := List.length_eq_zero_iff.mp hl.symm
            subst this
            simp
          · simp
        rw [e]
        cases rx with
        | fz h => exact h
      · have hv : vs ≠ [] := fun e => h0 (.inl e)
        by_cases h2 : k ≤ 0
        · refine .inr (.inr (.inr ⟨a, k, vs, rfl, rfl, h1, hv, hc.1, h2, fun p hp => ?_⟩))
          have e : k.toNat = 0 := by omega
          have := rt.2 p [] hp (by rw [e]; exact .nil)
          exact this
        · have h3 : k ≠ 1 := fun e => h0 (.inr e)
          exact .inr (.inl ⟨a, k, vs, rfl, rfl, h1, hv, by omega, hc.2.1, by rw [hl]; exact hc.2.2, fun p hp => rt.2 p _ hp (dq_rep r1 _)⟩)
    · cases hz
  · split at hz
    · exact .inl (prim_mul G H v u _ _ z Q sb rx ry hz rt)
    · cases hz
  · exact .inl (prim_mul G H v u _ _ z Q sb rx ry hz rt)
end L3

namespace L3
open PySem PySem.W PySem.Spec PyProof.Rows L2 HT
section
variable {prog : Program} {w : World} {A : Around} {E : Value → Shared → Prop} {s : Shared}
theorem adjust_rev (n : Nat) : Builtin.Slice.sliceAdjust none none (-1) (n : Int) = ((n : Int) - 1, -1) := by
  unfold Builtin.Slice.sliceAdjust
  simp
theorem places_rev (n : Nat) : Builtin.Slice.slicePlaces ((n : Int) - 1) (-1) (-1) = n := by
  unfold Builtin.Slice.slicePlaces
  simp
  omega
theorem applied_rev {sl : Addr} {vl vu vs : Value} {n : Nat} {Q : Int × Int × Nat → Shared → Prop} (hs : s.heap.IsSliceOf sl vl vu vs) (pl : IsPart vl none) (pu : IsPart vu none) (ps : IsPart vs (some (-1))) (h : Q ((n : Int) - 1, -1, n) s) :
    wpAny (model prog w) A (Builtin.Slice.sliceApplied (.ref sl) (pure (n : Int))) Q E s := by
  obtain ⟨o, at1, _, parts⟩ := id hs
  unfold Builtin.Slice.sliceApplied Builtin.Slice.sliceFields
  refine wpAny_bind (wpAny_bind (wpAny_field at1 parts (x := vl) rfl (wpAny_bind (wpAny_field at1 parts (x := vu) rfl (wpAny_bind (wpAny_field at1 parts (x := vs) rfl (wpAny_pure ?_)))))))
  refine wpAny_bind (slicePart_ ps ?_)
  show wpAny _ _ (if ((-1 : Int) == 0) = true then _ else _) _ _ s
  rw [if_neg (by decide)]
  refine wpAny_bind (slicePart_ pl (wpAny_bind (slicePart_ pu (wpAny_bind (wpAny_pure ?_)))))
  show wpAny _ _ (match Builtin.Slice.sliceAdjust none none (-1) (n : Int) with | (a, b) => pure (a, (-1 : Int), Builtin.Slice.slicePlaces a b (-1))) _ _ s
  rw [adjust_rev]
  show wpAny _ _ (pure ((n : Int) - 1, (-1 : Int), Builtin.Slice.slicePlaces ((n : Int) - 1) (-1) (-1))) _ _ s
  rw [places_rev]
  exact wpAny_pure h
theorem fm_congr {α β : Type} {f g : α → Option β} : ∀ {l : List α}, (∀ x ∈ l, f x = g x) → l.filterMap f = l.filterMap g
  | [], _ => rfl
  | x :: l, h => by rw [List.filterMap_cons, List.filterMap_cons, h x List.mem_cons_self, fm_congr fun y hy => h y (List.mem_cons_of_mem _ hy)]
theorem pick_rev (xs : Array Value) : ((List.range xs.size).filterMap fun (k : Nat) => xs[((xs.size : Int) - 1 + (k : Int) * (-1)).toNat]?).toArray = xs.toList.reverse.toArray := by
  congr 1
  have e : ∀ k ∈ List.range xs.size, xs[((xs.size : Int) - 1 + (k : Int) * (-1)).toNat]? = xs.toList.reverse[k]? := fun k hk => by
    have hk := List.mem_range.mp hk
    rw [List.getElem?_reverse (by rw [Array.length_toList]; exact hk), Array.length_toList, Array.getElem?_toList]
    congr 1
    omega
  rw [fm_congr e]
  have len : xs.size = xs.toList.reverse.length := by rw [List.length_reverse, Array.length_toList]
  rw [len]
  generalize xs.toList.reverse = l
  refine List.ext_getElem? fun i => ?_
  have all : ∀ l : List Value, (List.range l.length).filterMap (fun k => l[k]?) = l := fun l => by
    induction l with
    | nil => rfl
    | cons a l ih =>
      rw [List.length_cons, List.range_succ_eq_map, List.filterMap_cons_some (by rfl), List.filterMap_map]
      congr 1
  rw [all]
theorem getItem_tup_rev {t sl : Addr} {items : Array Value} {vl vu vs : Value} {Q : Value → Shared → Prop} (ht : IsTup s.heap t items) (hs : s.heap.IsSliceOf sl vl vu vs) (pl : IsPart vl none) (pu : IsPart vu none) (ps : IsPart vs (some (-1)))
    (h : Q (.ref s.heap.objs.size) { s with heap := s.heap.push { cls := .type "tuple", data := .seq items.toList.reverse.toArray } }) (hsz : items.size ≤ sizeLine) : wpAny (model prog w) A (getItem (.ref t) (.ref sl)) Q E s := by
  have ok : sizeOk (.seq items.toList.reverse.toArray) := by
    show items.toList.reverse.toArray.size ≤ sizeLine
    rw [List.size_toArray, List.length_reverse, Array.length_toList]; exact hsz
  obtain ⟨o, at1, cl, _⟩ := id hs
  have ty : s.TypeIs (.ref sl) "slice" := ⟨o, at1, cl⟩
  unfold getItem
  try with_reducible refine wpAny_holding ?_
  first | refine wpAny_bind (wpAny_pure ?_) | skip
  refine wpAny_bind (wpAny_sequenceKey ht.typeIs (by decide) ?_)
  refine wpAny_bind (wpAny_callSpecial?_slot (name := Str.ofString "__getitem__") ht.typeIs PyProof.Rows.slot_tuple_getitem (wpAny_call_entry PyProof.Rows.slot_tuple_getitem ht.typeIs entry_tuple_getitem ?_ (args_tuple_getitem _ _)))
  show wpAny _ _ (Builtin.Tuple.tupleItemsOf (.ref t) >>= _) _ _ s
  refine wpAny_bind (tupleItemsOf_ ht ?_)
  refine wpAny_bind (wpAny_typeOf ty ?_)
  rw [if_pos (by decide)]
  refine wpAny_bind (applied_rev hs pl pu ps ?_)
  have no : ¬ ((((items.size : Int) - 1) == 0 && (-1 : Int) == 1 && items.size == items.size) = true) := by simp
  show wpAny _ _ (if (((items.size : Int) - 1) == 0 && (-1 : Int) == 1 && items.size == items.size) = true then _ else _) _ _ s
  rw [if_neg no, pick_rev]
  first
    | exact wpAny_bind (m := Builtin.Tuple.tupleExact _) (wpAny_newObj_type (wpAny_pure ⟨_, rfl, wpAny_pure h⟩) ok)
    | exact wpAny_bind (m := Builtin.Tuple.tupleExact _) (wpAny_newObj_type (wpAny_bind (wpAny_pure (wpAny_pure ⟨_, rfl, wpAny_pure h⟩))) ok)
    | exact wpAny_bind (wpAny_bind (m := Builtin.Tuple.tupleExact _) (wpAny_newObj_type (wpAny_pure (wpAny_pure ⟨_, rfl, wpAny_pure h⟩)) ok))
    | exact wpAny_bind (wpAny_bind (m := Builtin.Tuple.tupleExact _) (wpAny_newObj_type (wpAny_pure ⟨_, rfl, wpAny_pure h⟩) ok))
end
section
variable {X : Cx}
end
def tRevB (K : PySem.W.Frag) (te : TE) : TE := fun σ H Q => te σ H fun x H1 => (∃ a xs, x = .ref a ∧ SqT K H1 a xs ∧ ∀ p, H1 p = none → Q (.ref p) (upd H1 p (.tup xs.reverse))) ∨ ∃ a xs, x = .ref a ∧ SqL K H1 a xs ∧ ∀ p, H1 p = none → Q (.ref p) (upd H1 p (.lst xs.reverse))
theorem pe_revB {X : Cx} {e : Expr} {te : TE} {k : Nat} {p1 p2 p3 pos : Pos} (he : PE X e te) : PE X (.Subscript e (.Slice none none (some (.UnaryOp .USub (.Constant (.int 1) k p1) p2)) p3) pos) (tRevB X.K te) := by
  refine ⟨fun pins s σ H Q I h => ?_⟩
  refine Subscript_ (thn (he.run pins s σ H _ I h) fun v s1 ⟨x, H1, I1, r1, q1⟩ => ?_)
  have st : L2.PO X (some (.UnaryOp .USub (.Constant (.int 1) k p1) p2)) (tPart (tUn (rU fun i => .int (-i)) (tC (.int 1)))) := po_some (pe_un un_neg pe_int)
  refine wpAny_Slice (thn (po_none.run pins s1 σ H1 (fun o H2 => o = none ∧ H2 = H1) I1 ⟨rfl, rfl⟩) fun vl s2 ⟨_, _, I2, pl, z1, z2⟩ => ?_)
  cases z1; cases z2
  refine thn (po_none.run pins s2 σ H1 (fun o H3 => o = none ∧ H3 = H1) I2 ⟨rfl, rfl⟩) fun vu s3 ⟨_, _, I3, pu, z1, z2⟩ => ?_
  cases z1; cases z2
  refine thn (st.run pins s3 σ H1 (fun o H4 => o = some (-1) ∧ H4 = H1) I3 ⟨1, rfl, -1, rfl, rfl, rfl⟩) fun vs s4 ⟨_, _, I4, ps, z1, z2⟩ => ?_
  cases z1; cases z2
  have I5 : Inv X pins σ H1 { s4 with heap := s4.heap.push { cls := .type "slice", data := .fields #[vl, vu, vs] } } := I4.kept (t' := s4.toks) fun _ _ q => Heap.get?_push_of_some _ q
  rcases q1 with ⟨a, xs, rfl, hx, q⟩ | ⟨a, xs, rfl, hx, q⟩
  all_goals
    cases r1
    show wpAny (model X.prog X.w) X.A (subscriptTail e (.Slice none none (some (.UnaryOp .USub (.Constant (.int 1) k p1) p2)) p3) (.ref a) (.ref s4.heap.objs.size)) (EP X pins σ Q) X.xe _
  · obtain ⟨its, r, ht, hz⟩ := I5.tuple hx
    have hl := r.length
    refine tail_any (ops := [.ref a, .ref s4.heap.objs.size]) ht.typeIs PyProof.Rows.slot_tuple_getitem.lookup ?_ (by with_unfolding_all rfl)
    refine getItem_tup_rev ht (Heap.IsSliceOf.new _ vl vu vs) pl pu ps ?_ (by rw [List.size_toArray]; omega)
    refine ⟨.ref _, _, I5.laid (t' := s4.toks) (o := .tup xs.reverse) (fun _ _ q => Heap.get?_push_of_some _ q) (Nat.le_refl _) ?_, rfl, q _ (I5.hok.fresh (Nat.le_refl _))⟩
    exact ⟨by rw [List.length_reverse]; exact hz, _, r.reverse, IsTup.new _ _⟩
  · obtain ⟨its, r, hr, hz⟩ := I5.list hx
    have hl := r.length
    refine tail_any (ops := [.ref a, .ref s4.heap.objs.size]) hr.isList.typeIs PySem.slot_list_getitem.lookup ?_ (by with_unfolding_all rfl)
    refine wpAny_getItem_list_slice hr.isList (Heap.IsSliceOf.new _ vl vu vs) pl pu ps (by simp) ?_ (by rw [List.size_toArray]; omega)
    rw [PySem.W.krv_pick its.toArray]
    refine ⟨.ref _, _, I5.laid (t' := s4.toks) (o := .lst xs.reverse) (fun _ _ q => Heap.get?_push_of_some _ q) (Nat.le_refl _) ?_, rfl, q _ (I5.hok.fresh (Nat.le_refl _))⟩
    exact ⟨by rw [List.length_reverse]; exact hz, _, 0, r.reverse, Heap.get?_push_size _ rfl⟩
def pRev : D → Option PO
  | .tuple xs => some (.t xs.reverse)
  | .list xs => some (.l xs.reverse)
  | _ => none
theorem DqAll.rev {K : PySem.W.Frag} {G : Hp} : ∀ {vs : List V} {ds : List D}, DqAll K G vs ds → DqAll K G vs.reverse ds.reverse
  | _, _, .nil => .nil
  | _, _, .cons h t => by rw [List.reverse_cons, List.reverse_cons]; exact (DqAll.rev t).append (.cons h .nil)
section
variable {ι : Type} {X : ι → Cx} {K : PySem.W.Frag} {E : WW}
theorem se_rev {a : Expr} {oa : Opd} {k : Nat} {p1 p2 p3 pos : Pos} (hK : ∀ z, (X z).K = K) (h1 : SO X K E a oa) : SE X K E (.Subscript a (.Slice none none (some (.UnaryOp .USub (.Constant (.int 1) k p1) p2)) p3) pos) (e1 oa pRev) := by
  obtain ⟨t, pe, h1⟩ := h1.ex
  refine ⟨tRevB K t, fun z => hK z ▸ pe_revB (X := X z) (pe z), fun io L G σ s H Q w hf => ?_⟩
  refine h1 (fk_fin (Q := Q)) w hf fun v h s1 G1 H1 sb1 w1 hr f1 => ?_
  obtain ⟨x, rx, f3⟩ := hr.use fk_fin w1 f1
  obtain ⟨z, e, rt⟩ := mpo_fin w1 f3
  unfold pRev at e
  split at e
  · cases e
    obtain ⟨b, ys, rfl, h2, r2⟩ := rx.tuple w1.sub
    exact .inl ⟨b, ys, rfl, h2, fun p hp => rt.2 p _ hp (DqAll.rev r2)⟩
  · cases e
    obtain ⟨b, ys, rfl, h2, r2⟩ := rx.list w1.sub
    exact .inr ⟨b, ys, rfl, SqL.of h2, fun p hp => rt p _ hp (DqAll.rev r2)⟩
  · cases e
end
end L3

namespace L3
open PySem PySem.W PySem.Spec PyProof.Rows L2

def S.stk (s : S) (j : Nat) : Option (List Row) := match s.env[j]? with
  | some (some (Sl.stk rows)) => some rows
  | _ => none
theorem stk_of {s : S} {j : Nat} {rows : List Row} (h : s.stk j = some rows) : s.env[j]? = some (some (Sl.stk rows)) := by
  unfold S.stk at h
  split at h
  · rename_i q; cases h; exact q
  · cases h
def S.putStk (s : S) (j : Nat) (rows : List Row) : S := { s with env := (clrE s.env).set j (some (Sl.stk rows)) }
def S.clr (s : S) (j : Nat) : S := { s with env := clrE (s.env.set j none) }
def noStk (env : List (Option Sl)) : Bool := env.all fun x => match x with
  | some (Sl.stk _) => false
  | _ => true
theorem noStk_of {env : List (Option Sl)} (h : noStk env = true) (k : Nat) (rows : List Row) : env[k]? ≠ some (some (Sl.stk rows)) := fun e => by
  unfold noStk at h
  have := List.all_eq_true.mp h _ (List.mem_of_getElem? e)
  cases this
def emp : Hp := fun _ => none
section
variable {K : PySem.W.Frag} {E : WW} {io : Option Addr} {L G H M : Hp} {σ : L2.St} {s : S} {i j : Nat} {a : Addr} {o o' : HO}
theorem un_emp : un L emp = L := by
  funext b
  unfold un emp
  cases L b <;> rfl
theorem un_updR (h : L a = none) : upd (un L M) a o = un L (upd M a o) := by
  funext b
  unfold un
  by_cases e : b = a
  · subst e; rw [upd_same, upd_same, h]
  · rw [upd_ne e, upd_ne e]
theorem un_un {T : Hp} : un L (un M T) = un (un L M) T := by
  funext b
  unfold un
  cases L b <;> rfl
theorem Wd.stkOut {rows : List Row} (w : Wd K io L G σ s H) (h : s.env[j]? = some (some (Sl.stk rows))) : ∃ (M : Hp) (a : Addr) (as : List Addr) (xs : List V), (∀ b u, M b = some u → L b = none) ∧ σ[j]? = some (some (V.ref a)) ∧ M a = some (.lst xs.reverse) ∧ RowsRep K G M as xs rows ∧ (a :: as).Nodup ∧
    Wd K io (un L M) G σ (s.clr j) H ∧ (∀ (k : Nat) (r : List Row), (s.clr j).env[k]? ≠ some (some (Sl.stk r))) := by
  obtain ⟨T, hd, w0, st⟩ := w.ex
  obtain ⟨a, as, xs, h1, h2, h3, h4, _⟩ := st.at' j rows h
  have no : ∀ (k : Nat) (r : List Row), (s.clr j).env[k]? ≠ some (some (Sl.stk r)) := fun k r e => by
    have e1 := (clrE_some e).1
    rcases set_cases e1 with ⟨rfl, z⟩ | ⟨ne, z⟩
    · cases z
    · exact ne (st.one j k _ _ h z)
  refine ⟨T, a, as, xs, hd, h1, h2, h3, h4, ⟨emp, fun _ _ z => (by cases z), ?_, fun k r e => absurd e (no k r), fun k k' r r' e => absurd e (no k r)⟩, no⟩
  rw [un_emp]
  refine w0.re (by show _ = (clrE _).length; rw [clrE_len, List.length_set]; exact w0.len) (fun k x hk => ?_) (fun k c hk => ?_) fun k hk => ?_
  · rcases set_cases (clrE_some hk).1 with ⟨rfl, z⟩ | ⟨ne, z⟩
    · cases z
    · exact w0.vals k x z
  · rcases set_cases (clrE_some hk).1 with ⟨rfl, z⟩ | ⟨ne, z⟩
    · cases z
    · exact ⟨z, rfl⟩
  · rcases set_cases (clrE_some hk).1 with ⟨rfl, z⟩ | ⟨ne, z⟩
    · cases z
    · exact ⟨z, rfl⟩
theorem Wd.stkIn {rows : List Row} {as : List Addr} {xs : List V} (w : Wd K io (un L M) G σ s H) (hd : ∀ b u, M b = some u → L b = none) (hj : j < σ.length) (h2 : M a = some (.lst xs.reverse)) (h3 : RowsRep K G M as xs rows) (h4 : (a :: as).Nodup)
    (no : ∀ (k : Nat) (r : List Row), s.env[k]? ≠ some (some (Sl.stk r))) : Wd K io L G (σ.set j (some (V.ref a))) (s.putStk j rows) H := by
  obtain ⟨T, hd2, w0, st⟩ := w.ex
  rw [← un_un] at w0
  have only : ∀ (k : Nat) (r : List Row), (s.putStk j rows).env[k]? = some (some (Sl.stk r)) → k = j ∧ r = rows := fun k r e => by
    rcases set_cases e with ⟨rfl, z⟩ | ⟨ne, z⟩
    · cases z; exact ⟨rfl, rfl⟩
    · exact absurd (clrE_some z).1 (no k r)
  refine ⟨un M T, fun b u hb => ?_, ?_, ?_⟩
  · cases e : M b with
    | some v => exact hd b v e
    | none =>
      unfold un at hb
      rw [e] at hb
      exact un_left (hd2 b u hb)
  · have ne : ∀ (k : Nat) (x : Sl), (∀ r, x ≠ Sl.stk r) → (s.putStk j rows).env[k]? = some (some x) → j ≠ k ∧ s.env[k]? = some (some x) := fun k x hx hk => by
      rcases set_cases hk with ⟨rfl, z⟩ | ⟨ne, z⟩
      · cases z; exact absurd rfl (hx _)
      · exact ⟨ne, (clrE_some z).1⟩
    refine w0.re (by show _ = ((clrE _).set j _).length; rw [List.length_set, List.length_set, clrE_len]; exact w0.len) (fun k x hk => ?_) (fun k c hk => ?_) fun k hk => ?_
    · obtain ⟨n, z⟩ := ne k _ (fun r e => by cases e) hk
      obtain ⟨v, e1, e2⟩ := w0.vals k x z
      exact ⟨v, by rw [List.getElem?_set_ne n]; exact e1, e2⟩
    · obtain ⟨n, z⟩ := ne k _ (fun r e => by cases e) hk
      exact ⟨z, List.getElem?_set_ne n⟩
    · obtain ⟨n, z⟩ := ne k _ (fun r e => by cases e) hk
      exact ⟨z, List.getElem?_set_ne n⟩
  · refine ⟨fun k r e => ?_, fun k k' r r' e e' => (only k r e).1.trans (only k' r' e').1.symm⟩
    obtain ⟨rfl, rfl⟩ := only k r e
    refine ⟨a, as, xs, List.getElem?_set_self hj, un_l h2, h3.agree fun b hb => ?_, h4, fun k' hk' => ?_⟩
    · cases z : M b with
      | some v => exact un_l z
      | none => exact absurd z (h3.there b hb)
    · rcases set_cases hk' with ⟨rfl, z⟩ | ⟨n, z⟩
      · cases z
      · exact absurd rfl ((clrE_some z).2 _)
theorem Wd.writeM (w : Wd K io (un L M) G σ s H) (h : M a = some o) (hL : L a = none) : Wd K io (un L (upd M a o')) G σ s (upd H a o') := by
  rw [un_rm h hL] at w
  have w2 := w.writeL (o' := o') (un_none hL rm_same)
  have e : upd (un L (rm M a)) a o' = un L (upd M a o') := by
    rw [un_updR hL]
    congr 1
    funext b
    by_cases e : b = a
    · subst e; rw [upd_same, upd_same]
    · rw [upd_ne e, upd_ne e, rm_ne e]
  rw [e] at w2
  exact w2
theorem Wd.freshM (w : Wd K io (un L M) G σ s H) (hp : H a = none) : L a = none ∧ M a = none ∧ Wd K io (un L (upd M a o)) G σ s (upd H a o) := by
  obtain ⟨h1, w2⟩ := w.fresh (o := o) hp
  rw [un_updR (un_left h1)] at w2
  exact ⟨un_left h1, un_right h1, w2⟩
theorem Wd.stkAt {rows : List Row} (w : Wd K io L G σ s H) (h : s.env[j]? = some (some (Sl.stk rows))) : ∃ (a : Addr) (xs : List V), σ[j]? = some (some (V.ref a)) ∧ H a = some (.lst xs.reverse) ∧ xs.length = rows.length := by
  obtain ⟨T, hd, w0, st⟩ := w.ex
  obtain ⟨a, as, xs, h1, h2, h3, h4, _⟩ := st.at' j rows h
  exact ⟨a, xs, h1, (w0.loose _ _ (un_r h2 (hd _ _ h2))).2, h3.len⟩
def S.setTop (s : S) (i j : Nat) : S := { s with env := s.env.set i (some (Sl.top j)) }
theorem Wd.setTop {ds l : List D} {rest : List Row} (w : Wd K io L G σ s H) (h : s.env[j]? = some (some (Sl.stk ((ds, some l) :: rest)))) (hij : i ≠ j) (hi : i < σ.length) :
    ∃ a p q vs xs, σ[j]? = some (some (V.ref a)) ∧ H a = some (.lst (V.ref p :: xs).reverse) ∧ (H p = some (.tup (vs ++ [.ref q])) ∨ H p = some (.lst (vs ++ [.ref q]))) ∧ DqAll K G vs ds ∧ Wd K io L G (σ.set i (some (.ref q))) (s.setTop i j) H := by
  obtain ⟨T, hd, w0, st⟩ := w.ex
  obtain ⟨a, as, xs, h1, h2, h3, h4, h5⟩ := st.at' j _ h
  have lo : ∀ b u, T b = some u → H b = some u := fun b u e => (w0.loose _ _ (un_r e (hd _ _ e))).2
  have h3' := h3
  cases h3 with
  | @cons p q vs us _ _ as' xs' _ z1 z2 z3 z4 z5 =>
    refine ⟨a, p, q, vs, xs', h1, lo _ _ h2, z1.imp (lo _ _) (lo _ _), z2, T, hd, ?_, fun k r e => ?_, fun k k' r r' e e' => ?_⟩
    · refine w0.re (by show _ = (s.env.set i _).length; rw [List.length_set, List.length_set]; exact w0.len) (fun k x hk => ?_) (fun k c hk => ?_) fun k hk => ?_
      · rcases set_cases hk with ⟨rfl, z⟩ | ⟨ne, z⟩
        · cases z
        · obtain ⟨v, e1, e2⟩ := w0.vals k x z
          exact ⟨v, by rw [List.getElem?_set_ne ne]; exact e1, e2⟩
      · rcases set_cases hk with ⟨rfl, z⟩ | ⟨ne, z⟩
        · cases z
        · exact ⟨z, List.getElem?_set_ne ne⟩
      · rcases set_cases hk with ⟨rfl, z⟩ | ⟨ne, z⟩
        · cases z
        · exact ⟨z, List.getElem?_set_ne ne⟩
    · rcases set_cases e with ⟨rfl, z⟩ | ⟨ne, z⟩
      · cases z
      · have ej := st.one k j _ _ z h
        subst ej
        rw [h] at z
        cases z
        refine ⟨a, p :: q :: as', .ref p :: xs', by rw [List.getElem?_set_ne hij]; exact h1, h2, h3', h4, fun k' hk' => ?_⟩
        rcases set_cases hk' with ⟨rfl, z⟩ | ⟨n, z⟩
        · exact ⟨ds, l, rest, p, q, as', rfl, rfl, List.getElem?_set_self hi⟩
        · obtain ⟨ds', l', rest', p', q', as2, e1, e2, e3⟩ := h5 k' z
          exact ⟨ds', l', rest', p', q', as2, e1, e2, by rw [List.getElem?_set_ne n]; exact e3⟩
    · rcases set_cases e with ⟨rfl, z⟩ | ⟨ne, z⟩
      · cases z
      · rcases set_cases e' with ⟨rfl, z'⟩ | ⟨ne', z'⟩
        · cases z'
        · exact st.one k k' _ _ z z'
end

theorem eqNil {X : Cx} (hu : X.A.units + 64 < cLine) : OpR X (compareOp .Eq) (fun x y H Q => ∃ a b xs, x = .ref a ∧ y = .ref b ∧ H a = some (.lst xs) ∧ H b = some (.lst []) ∧ Q (.bl xs.isEmpty) H) := by
  intro pins s σ H x y v u Q I rx ry h
  obtain ⟨a, b, xs, rfl, rfl, h1, h2, q⟩ := h
  cases rx
  cases ry
  obtain ⟨its, r, pl, hz⟩ := I.list (SqL.of (K := X.K) h1)
  obtain ⟨its2, r2, pl2, hz2⟩ := I.list (SqL.of (K := X.K) h2)
  cases r2
  have hl := r.length
  refine (?_ : wpAny _ _ (compareOp .Eq _ _) _ _ s)
  cases xs with
  | nil =>
    cases r
    exact SeqAt.RcAt.lists (e := fun _ => true) pl.isList pl2.isList rfl (by omega) (fun j h _ => (by cases h)) _ _ _ _ ⟨.bl true, H, I, rfl, q⟩
  | cons x xs =>
    cases r with
    | cons _ _ => exact SeqAt.RcAt.lists_lengths pl.isList pl2.isList rfl (by omega) _ _ _ _ ⟨.bl false, H, I, rfl, q⟩
theorem neNil {X : Cx} (hu : X.A.units + 64 < cLine) : OpR X (compareOp .NotEq) (fun x y H Q => ∃ a b xs, x = .ref a ∧ y = .ref b ∧ H a = some (.lst xs) ∧ H b = some (.lst []) ∧ Q (.bl (!xs.isEmpty)) H) := by
  intro pins s σ H x y v u Q I rx ry h
  obtain ⟨a, b, xs, rfl, rfl, h1, h2, q⟩ := h
  cases rx
  cases ry
  obtain ⟨its, r, pl, hz⟩ := I.list (SqL.of (K := X.K) h1)
  obtain ⟨its2, r2, pl2, hz2⟩ := I.list (SqL.of (K := X.K) h2)
  cases r2
  have hl := r.length
  refine (?_ : wpAny _ _ (compareOp .NotEq _ _) _ _ s)
  cases xs with
  | nil =>
    cases r
    exact SeqAt.RcNeAt.lists (e := fun _ => true) pl.isList pl2.isList rfl (by omega) (fun j h _ => (by cases h)) _ _ _ _ ⟨.bl false, H, I, rfl, q⟩
  | cons x xs =>
    cases r with
    | cons _ _ => exact SeqAt.RcNeAt.lists_lengths pl.isList pl2.isList rfl (by omega) _ _ _ _ ⟨.bl true, H, I, rfl, q⟩
end L3

namespace L3
open PySem PySem.W PySem.Spec PyProof.Rows L2

def mkD (kd : Bool) (xs : List V) : HO := match kd with | true => .tup xs | false => .lst xs
def tDis (kd : Bool) (t : TA) : TE := fun σ H Q => t σ H fun xs H1 => xs.length ≤ sizeLine ∧ ∀ p, H1 p = none → Q (.ref p) (upd H1 p (mkD kd xs))
def spl : List R → Option (List D × List D)
  | [.new (.lst l)] => some ([], l)
  | .val d :: rs => (spl rs).map fun p => (d :: p.1, p.2)
  | _ => none
section
variable {ι : Type} {X : ι → Cx} {K : PySem.W.Frag} {E : WW} {e ex : Expr} {es : List Expr} {st : Stmt} {j : Nat}
theorem hold_spl {io : Option Addr} {G H : Hp} {σ : L2.St} {s : S} : ∀ {rs : List R} {L : Hp} {vs : List V} {ds l : List D}, Hold K io G σ s H L vs rs → spl rs = some (ds, l) → ∃ us q zs, vs = us ++ [.ref q] ∧ DqAll K G us ds ∧ L q = none ∧ DqAll K G zs l ∧ Wd K io (upd L q (.lst zs)) G σ s H
  | [], _, _, _, _, _, h => by cases h
  | .val d :: rs, L, vs, ds, l, hd, h => by
    cases hd with
    | val dp hd =>
      unfold spl at h
      cases e : spl rs with
      | none => rw [e] at h; cases h
      | some p =>
        rw [e] at h
        cases h
        obtain ⟨us, q, zs, e1, e2, e3, e4, e5⟩ := hold_spl hd e
        exact ⟨_ :: us, q, zs, by rw [e1]; rfl, .cons dp e2, e3, e4, e5⟩
  | [.new c], L, vs, ds, l, hd, h => by
    cases c with
    | dct _ => cases h
    | ts _ => cases h
    | lst l' =>
      cases h
      cases hd with
      | new hL rc hd =>
        cases hd with
        | nil w =>
          cases rc with
          | lst r => exact ⟨[], _, _, rfl, .nil, hL, r, w⟩
  | .new c :: r :: rs, L, vs, ds, l, hd, h => by cases c <;> cases h

def eLenS (j : Nat) : M R := fun s => match s.stk j with
  | some rows => .ok (.val (.int (rows.length : Int))) s
  | none => .stuck
def tEqS (j : Nat) (neg : Bool) : M Bool := fun s => match s.stk j with
  | some rows => .ok (rows.isEmpty != neg) s
  | none => .stuck
def rEqN (neg : Bool) : R2 := fun x y H Q => ∃ a b xs, x = .ref a ∧ y = .ref b ∧ H a = some (.lst xs) ∧ H b = some (.lst []) ∧ Q (.bl (xs.isEmpty != neg)) H
theorem eqNil2 {X : Cx} (hu : X.A.units + 64 < cLine) : OpR X (compareOp .Eq) (rEqN false) := by
  intro pins s σ H x y v u Q I rx ry h
  obtain ⟨a, b, xs, h1, h2, h3, h4, q⟩ := h
  exact eqNil hu pins s σ H x y v u Q I rx ry ⟨a, b, xs, h1, h2, h3, h4, by simpa using q⟩
theorem neNil2 {X : Cx} (hu : X.A.units + 64 < cLine) : OpR X (compareOp .NotEq) (rEqN true) := by
  intro pins s σ H x y v u Q I rx ry h
  obtain ⟨a, b, xs, h1, h2, h3, h4, q⟩ := h
  exact neNil hu pins s σ H x y v u Q I rx ry ⟨a, b, xs, h1, h2, h3, h4, by cases xs <;> simpa using q⟩
theorem st_eqS {pos : Pos} {neg : Bool} (hx : ∀ z, PE (X z) ex (tVar j)) (hp : ∀ ta tb, (∀ z, PE (X z) ex ta) → (∀ z, PE (X z) (.List [] pos) tb) → ∀ z, PT (X z) e (tTest (tOp (rEqN neg) ta tb))) : ST X K E e (tEqS j neg) := by
  refine ⟨_, hp _ _ hx (fun z => pe_lst pa_nil), fun io L G σ s H Q w hf => ?_⟩
  unfold tEqS at hf
  cases q : s.stk j with
  | none => rw [q] at hf; exact hf.elim
  | some rows =>
    rw [q] at hf
    obtain ⟨a, xs, e1, h1, hl⟩ := w.stkAt (stk_of q)
    refine ⟨_, e1, Nat.zero_le _, fun p hp => ⟨a, p, xs.reverse, rfl, rfl, ?_, upd_same, _, rfl, ?_⟩⟩
    · rw [upd_ne (ne_of_none h1 hp)]; exact h1
    · have e2 : xs.reverse.isEmpty = rows.isEmpty := by
        cases xs with
        | nil => cases rows with
          | nil => rfl
          | cons r rs => cases hl
        | cons x xs => cases rows with
          | nil => cases hl
          | cons r rs => simp
      rw [e2]
      obtain ⟨hL, w2⟩ := w.fresh (o := .lst []) hp
      exact hf G _ (Sub.refl _) (w2.drop hL)
def sPopS (j : Nat) : M Fl := fun s => match s.stk j with
  | some (_ :: rows) => .ok .nx (s.putStk j rows)
  | _ => .stuck
theorem σ_lt {σ : L2.St} {j : Nat} {x : Option V} (h : σ[j]? = some x) : j < σ.length := (List.getElem?_eq_some_iff.mp h).1
theorem clr_put {s : S} {j : Nat} {rows : List Row} : (s.clr j).putStk j rows = s.putStk j rows := by
  show ({ s with env := (clrE (clrE (s.env.set j none))).set j _ } : S) = { s with env := (clrE s.env).set j _ }
  congr 1
  apply List.ext_getElem?
  intro k
  by_cases e : j = k
  · subst e
    by_cases hl : j < s.env.length
    · rw [List.getElem?_set_self (by rw [clrE_len, clrE_len, List.length_set]; exact hl), List.getElem?_set_self (by rw [clrE_len]; exact hl)]
    · rw [List.getElem?_eq_none (by rw [List.length_set, clrE_len, clrE_len, List.length_set]; omega), List.getElem?_eq_none (by rw [List.length_set, clrE_len]; omega)]
  · rw [List.getElem?_set_ne e, List.getElem?_set_ne e, clrE_get, clrE_get, clrE_get, List.getElem?_set_ne e]
    cases s.env[k]? with
    | none => rfl
    | some x => cases x with
      | none => rfl
      | some x => cases x <;> rfl
theorem ss_popS {pos : Pos} (hp : ∀ z, PE (X z) e (tBM0 K "list" rPop (tVar j))) (hs : ∀ z, swapsWith e none pos.line (X z).env = pure false := by intro _; rfl) : SS X K E (.Expr e pos) (sPopS j) := by
  refine ⟨_, fun z => ps_expr (hp z) (hs z), fun io L G σ s H A w hf => ?_⟩
  unfold sPopS at hf
  split at hf
  · rename_i r rows q
    obtain ⟨M, a, as, xs, hd, e1, hM, rr, nd, w2, no⟩ := w.stkOut (stk_of q)
    have ha : H a = some (.lst xs.reverse) := (w2.loose _ _ (un_r hM (hd _ _ hM))).2
    have key : ∃ x xs' as', xs = x :: xs' ∧ RowsRep K G M as' xs' rows ∧ (a :: as').Nodup := by
      cases rr with
      | cons z1 z2 z3 z4 z5 =>
        refine ⟨_, _, _, rfl, z5, ?_⟩
        simp only [List.nodup_cons, List.mem_cons, not_or] at nd ⊢
        exact ⟨nd.1.2.2, nd.2.2.2⟩
      | frz z => exact ⟨_, _, _, rfl, z, nd⟩
    obtain ⟨x, xs', as', rfl, rr', nd'⟩ := key
    have er : (x :: xs').reverse = xs'.reverse ++ [x] := List.reverse_cons
    rw [er] at ha hM
    refine ⟨_, e1, .inl ⟨rfl, _, SqL.of ha⟩, a, _, x, rfl, rfl, ha, by simp, ?_⟩
    rw [List.dropLast_concat]
    have w3 := w2.writeM (o' := .lst xs'.reverse) hM (hd _ _ hM)
    have w4 := w3.stkIn (j := j) (fun b u hb => ?_) (σ_lt e1) upd_same (rr'.agree fun b hb => upd_ne fun z => (List.nodup_cons.mp nd').1 (by rw [← z]; exact hb)) nd' no
    · rw [set_back e1, clr_put] at w4
      exact hf σ G _ (Sub.refl _) w4
    · by_cases z : b = a
      · rw [z]; exact hd _ _ hM
      · rw [upd_ne z] at hb; exact hd _ _ hb
  · exact hf.elim
def sPush (j : Nat) (fs : List (M R)) : M Fl := fun s => match s.stk j with
  | none => .stuck
  | some _ => evr fs (fun rs s => match spl rs, s.stk j with
    | some p, some rows => if rs.length ≤ sizeLine ∧ rows.length < sizeLine then .ok .nx (s.putStk j ((p.1, some p.2) :: rows)) else .stuck
    | _, _ => .stuck) s
theorem push_wd {io : Option Addr} {L G H : Hp} {σ : L2.St} {s : S} {rows : List Row} {us zs : List V} {ds l : List D} {q p a : Addr} {kd : Bool} {xs : List V} (w : Wd K io (upd L q (.lst zs)) G σ s H) (hq : L q = none) (ru : DqAll K G us ds) (rz : DqAll K G zs l)
    (hs : s.env[j]? = some (some (Sl.stk rows))) (hp : H p = none) (ea : σ[j]? = some (some (V.ref a))) (ha : H a = some (.lst xs)) :
    Wd K io L G σ (s.putStk j ((ds, some l) :: rows)) (upd (upd H p (mkD kd (us ++ [.ref q]))) a (.lst (xs ++ [.ref p]))) := by
  obtain ⟨M, a', as, xs', hd, e1, hM, rr, nd, w2, no⟩ := w.stkOut hs
  rw [ea] at e1; cases e1
  have hM' : L a = none := by
    have z := hd _ _ hM
    by_cases e : a = q
    · rw [e]; exact hq
    · rw [upd_ne e] at z; exact z
  have ha' : H a = some (.lst xs'.reverse) := (w2.loose _ _ (un_r hM (hd _ _ hM))).2
  rw [ha] at ha'; cases ha'
  have hMq : M q = none := by
    cases z : M q with
    | none => rfl
    | some u => have := hd _ _ z; rw [upd_same] at this; cases this
  have qa : q ≠ a := fun z => by rw [z, hM] at hMq; cases hMq
  have hdL : ∀ b u, M b = some u → L b = none := fun b u hb => by
    have z := hd b u hb
    by_cases e : b = q
    · rw [e]; exact hq
    · rw [upd_ne e] at z; exact z
  have w3 : Wd K io (un L (upd M q (.lst zs))) G σ (s.clr j) H := by
    have e : un (upd L q (.lst zs)) M = un L (upd M q (.lst zs)) := by rw [un_upd, un_updR hq]
    rw [e] at w2; exact w2
  obtain ⟨hLp, hMp, w4⟩ := w3.freshM (o := mkD kd (us ++ [.ref q])) hp
  have pq : p ≠ q := fun z => by rw [z, upd_same] at hMp; cases hMp
  rw [upd_ne pq] at hMp
  have pa : p ≠ a := fun z => by rw [z, hM] at hMp; cases hMp
  have hMa : upd (upd M q (.lst zs)) p (mkD kd (us ++ [.ref q])) a = some (.lst xs'.reverse) := by
    rw [upd_ne (Ne.symm pa), upd_ne (Ne.symm qa)]; exact hM
  have w5 := w4.writeM (o' := .lst (xs'.reverse ++ [.ref p])) hMa hM'
  have w6 := w5.stkIn (j := j) (a := a) (rows := (ds, some l) :: rows) (as := p :: q :: as) (xs := .ref p :: xs') ?_ (σ_lt ea) ?_ ?_ ?_ no
  · rw [set_back ea, clr_put] at w6; exact w6
  · intro b u hb
    by_cases e : b = a
    · rw [e]; exact hM'
    · rw [upd_ne e] at hb
      by_cases e : b = p
      · rw [e]; exact hLp
      · rw [upd_ne e] at hb
        by_cases e : b = q
        · rw [e]; exact hq
        · rw [upd_ne e] at hb; exact hdL b u hb
  · rw [upd_same, List.reverse_cons]
  · refine .cons (vs := us) ?_ ru ?_ rz (rr.agree fun b hb => ?_)
    · rw [upd_ne pa, upd_same]
      cases kd
      · exact .inr rfl
      · exact .inl rfl
    · rw [upd_ne qa, upd_ne (Ne.symm pq), upd_same]
    · have h1 := rr.there b hb
      rw [upd_ne (fun z => (List.nodup_cons.mp nd).1 (by rw [← z]; exact hb)), upd_ne (fun z => h1 (by rw [z]; exact hMp)), upd_ne (fun z => h1 (by rw [z]; exact hMq))]
  · simp only [List.nodup_cons, List.mem_cons, not_or] at nd ⊢
    exact ⟨⟨Ne.symm pa, Ne.symm qa, nd.1⟩, ⟨pq, fun hb => rr.there _ hb hMp⟩, fun hb => rr.there _ hb hMq, nd.2⟩
theorem ss_push {pos : Pos} {et : Expr} {fs : List (M R)} (kd : Bool) (ha : SAr X K E es fs) (ht : ∀ t, (∀ z, PA (X z) es t) → ∀ z, PE (X z) et (tDis kd t)) (hp : ∀ t, (∀ z, PA (X z) [et] t) → ∀ z, PE (X z) e (tBM K "list" rAppend (tVar j) t))
    (hs : ∀ z, swapsWith e none pos.line (X z).env = pure false := by intro _; rfl) (hs2 : ∀ z, starEach [et] (X z).env = [(false, eval et (X z).env)] := by intro _; rfl) : SS X K E (.Expr e pos) (sPush j fs) := by
  obtain ⟨t, pa, h⟩ := ha.ex
  refine ⟨_, fun z => ps_expr (hp _ (fun z => pa_cons (ht t pa z) pa_nil (hs2 z)) z) (hs z), fun io L G σ s H A w hf => ?_⟩
  unfold sPush at hf
  cases q0 : s.stk j with
  | none => rw [q0] at hf; exact hf.elim
  | some rows0 =>
  rw [q0] at hf
  obtain ⟨a, xs, ea, hxa, _⟩ := w.stkAt (stk_of q0)
  refine ⟨_, ea, .inl ⟨rfl, _, SqL.of hxa⟩, ?_⟩
  refine h (fk_finS (A := A)) w hf fun vs rs s' G' H' sb hd f => ?_
  split at f
  · rename_i p rows e1 e2
    split at f
    · rename_i hz
      obtain ⟨us, q, zs, rfl, ru, hq, rz, w2⟩ := hold_spl hd e1
      refine ⟨by rw [hd.len]; exact hz.1, fun p' hp' => ?_⟩
      obtain ⟨a', xs', ea', hxa', hl'⟩ := w2.stkAt (stk_of e2)
      rw [ea] at ea'; cases ea'
      have ne : a ≠ p' := ne_of_none hxa' hp'
      refine ⟨a, xs'.reverse, _, rfl, rfl, by rw [upd_ne ne]; exact hxa', by rw [List.length_reverse, hl']; exact hz.2, ?_⟩
      exact f σ G' _ (Sub.refl _) (push_wd w2 hq ru rz (stk_of e2) hp' ea hxa')
    · exact f.elim
  · exact f.elim

def sInit (i j : Nat) (f : M R) (fs : List (M R)) : M Fl := mbind f fun r => evr fs fun rs s => match spl rs with
  | some p => if noStk s.env = true ∧ rs.length ≤ sizeLine then .ok .nx ((s.putStk j [(p.1, some p.2)]).put i r) else .stuck
  | none => .stuck
def sInit0 (i j : Nat) (f : M R) (fs : List (M R)) : M Fl := fun s => if j < s.env.length then sInit i j f fs s else .stuck
theorem init_wd {io : Option Addr} {L G H : Hp} {σ : L2.St} {s : S} {us zs : List V} {ds l : List D} {q p a : Addr} {kd : Bool} (w : Wd K io (upd L q (.lst zs)) G σ s H) (hq : L q = none) (ru : DqAll K G us ds) (rz : DqAll K G zs l)
    (no : noStk s.env = true) (hp : H p = none) (ha : upd H p (mkD kd (us ++ [.ref q])) a = none) (hj : j < σ.length) :
    Wd K io L G (σ.set j (some (.ref a))) (s.putStk j [(ds, some l)]) (upd (upd H p (mkD kd (us ++ [.ref q]))) a (.lst [.ref p])) := by
  have w0 : Wd K io (un L (upd emp q (.lst zs))) G σ s H := by
    rw [← un_updR hq, un_emp]; exact w
  obtain ⟨hLp, hMp, w1⟩ := w0.freshM (o := mkD kd (us ++ [.ref q])) hp
  have pq : p ≠ q := fun z => by rw [z, upd_same] at hMp; cases hMp
  obtain ⟨hLa, hMa, w2⟩ := w1.freshM (o := .lst [.ref p]) ha
  have ap : a ≠ p := fun z => by rw [z, upd_same] at hMa; cases hMa
  rw [upd_ne ap] at hMa
  have aq : a ≠ q := fun z => by rw [z, upd_same] at hMa; cases hMa
  refine w2.stkIn (as := [p, q]) (xs := [.ref p]) (fun b u hb => ?_) hj upd_same (.cons (vs := us) ?_ ru ?_ rz .nil) ?_ (noStk_of no)
  · by_cases e : b = a
    · rw [e]; exact hLa
    · rw [upd_ne e] at hb
      by_cases e : b = p
      · rw [e]; exact hLp
      · rw [upd_ne e] at hb
        by_cases e : b = q
        · rw [e]; exact hq
        · rw [upd_ne e] at hb; cases hb
  · rw [upd_ne (Ne.symm ap), upd_same]
    cases kd
    · exact .inr rfl
    · exact .inl rfl
  · rw [upd_ne (Ne.symm aq), upd_ne (Ne.symm pq), upd_same]
  · simp [ap, aq, pq]
theorem ss_init {i : Nat} {p2 : Pos} {et e1 : Expr} {f : M R} {fs : List (M R)} (kd : Bool) (hij : i ≠ j) (h1 : SE X K E e1 f) (ha : SAr X K E es fs) (ht : ∀ t, (∀ z, PA (X z) es t) → ∀ z, PE (X z) et (tDis kd t)) (hp : ∀ t, (∀ z, PA (X z) [e1, .List [et] p2] t) → ∀ z, PS (X z) st (tPar i j t))
    (hs1 : ∀ z, starEach [e1, .List [et] p2] (X z).env = (false, eval e1 (X z).env) :: starEach [.List [et] p2] (X z).env := by intro _; rfl) (hs2 : ∀ z, starEach [.List [et] p2] (X z).env = [(false, eval (.List [et] p2) (X z).env)] := by intro _; rfl)
    (hs3 : ∀ z, starEach [et] (X z).env = [(false, eval et (X z).env)] := by intro _; rfl) : SS X K E st (sInit0 i j f fs) := by
  obtain ⟨t1, q1, h1⟩ := h1.use
  obtain ⟨t2, q2, h2⟩ := ha.ex
  refine ⟨_, hp _ fun z => pa_cons (q1 z) (pa_cons (pe_lst (pa_cons (ht t2 q2 z) pa_nil (hs3 z))) pa_nil (hs2 z)) (hs1 z), fun io L G σ s H A w hf => ?_⟩
  unfold sInit0 at hf
  split at hf
  · rename_i hjl
    have hjσ : j < σ.length := by rw [w.len]; exact hjl
    unfold sInit at hf
    refine h1 (fk_finS (A := A)) w hf (fun v d s' G' H' sb w' dp f => ?_) fun a o c s' G' H' sb hL w' rc f => ?_
    · refine h2 (fk_finS (A := A)) w' f fun vs rs s2 G2 H2 sb2 hd f2 => ?_
      split at f2
      · rename_i p e1
        split at f2
        · rename_i hz
          obtain ⟨us, q, zs, rfl, ru, hq, rz, w2⟩ := hold_spl hd e1
          refine ⟨by rw [hd.len]; exact hz.2, fun p' hp' => ⟨by show 1 ≤ sizeLine; decide, fun a ha => ⟨_, _, rfl, ?_⟩⟩⟩
          have w3 := (init_wd w2 hq ru rz hz.1 hp' ha hjσ).setv (i := i) (sb2.dp dp)
          rw [List.set_comm _ _ hij]
          exact f2 _ G2 _ (Sub.refl _) w3
        · exact f2.elim
      · exact f2.elim
    · refine h2 ((fk_finS (A := A)).up hL) w' f fun vs rs s2 G2 H2 sb2 hd f2 => ?_
      split at f2
      · rename_i p e1
        split at f2
        · rename_i hz
          obtain ⟨us, q, zs, rfl, ru, hq, rz, w2⟩ := hold_spl hd e1
          refine ⟨by rw [hd.len]; exact hz.2, fun p' hp' => ⟨by show 1 ≤ sizeLine; decide, fun a' ha => ⟨_, _, rfl, ?_⟩⟩⟩
          have w3 := (init_wd w2 hq ru rz hz.1 hp' ha hjσ).seto (i := i) hL (sb2.repC rc)
          rw [List.set_comm _ _ hij]
          exact f2 _ G2 _ (Sub.refl _) w3
        · exact f2.elim
      · exact f2.elim
  · exact hf.elim

theorem atI_lastS {α : Type} {xs : List α} {v : α} : atI (xs ++ [v]) (-1) = some v := by
  unfold atI ixN
  rw [if_neg (by omega), if_pos (by simp; omega)]
  show (xs ++ [v])[_]? = _
  have e : ((-1 : Int) + ((xs ++ [v]).length : Int)).toNat = xs.length := by simp; omega
  rw [e]
  simp
theorem atI_endS {α : Type} {xs : List α} {v : α} : atI (xs ++ [v]) (xs.length : Int) = some v := by
  unfold atI ixN
  rw [if_pos (by omega), if_pos (by simp; omega)]
  show (xs ++ [v])[_]? = _
  have e : ((xs.length : Int)).toNat = xs.length := by omega
  rw [e]
  simp
def gAny (K : PySem.W.Frag) (n : Nat) (t : TGs) : TG := fun v σ H Q => gTup K n t v σ H Q ∨ gUnl K n t v σ H Q
theorem pg_any {X : Cx} {t : TGs} {ets : List Expr} {k : Nat} {pos : Pos} {n : Nat} (h1 : PG X (.Tuple ets k pos) (gTup X.K n t)) (h2 : PG X (.Tuple ets k pos) (gUnl X.K n t)) : PG X (.Tuple ets k pos) (gAny X.K n t) :=
  ⟨fun pins s σ H v u Q I r h => h.elim (h1.run pins s σ H v u Q I r) (h2.run pins s σ H v u Q I r)⟩
theorem setAll_snoc {σ : L2.St} {ia : Nat} {x : V} : ∀ {is : List Nat} {vs : List V}, vs.length = is.length → setAll σ (is ++ [ia]) (vs ++ [x]) = setAll (σ.set ia (some x)) is vs
  | [], [], _ => rfl
  | i :: is, v :: vs, h => by
    show (setAll σ (is ++ [ia]) (vs ++ [x])).set i (some v) = (setAll (σ.set ia (some x)) is vs).set i (some v)
    rw [setAll_snoc (Nat.succ.inj h)]
  | [], _ :: _, h => by cases h
  | _ :: _, [], h => by cases h
theorem hold_vals {io : Option Addr} {L G H : Hp} {σ : L2.St} {s : S} (w : Wd K io L G σ s H) : ∀ {vs : List V} {ds : List D}, DqAll K G vs ds → Hold K io G σ s H L vs (ds.map R.val)
  | _, _, .nil => .nil w
  | _, _, .cons r t => .val r (hold_vals w t)
def sBorrow (is : List Nat) (ia j : Nat) (fi : M D) : M Fl := fun s => match s.stk j with
  | none => .stuck
  | some _ => mbind fi (fun x s => match x, s.stk j with
    | .int n, some ((ds, some _) :: _) => if n = -1 ∧ ds.length = is.length then .ok .nx ((s.setTop ia j).putAll is (ds.map R.val)) else .stuck
    | _, _ => .stuck) s
def sBorrow0 (is : List Nat) (ia j : Nat) (fi : M D) : M Fl := fun s => if ia < s.env.length then sBorrow is ia j fi s else .stuck
theorem ss_borrow {is : List Nat} {ia : Nat} {ei : Expr} {fi : M D} (nd : (is ++ [ia]).Nodup) (hij : ia ≠ j) (hx : ∀ z, PE (X z) ex (tVar j)) (hi : SV X K E ei fi)
    (hp : ∀ ta tb, (∀ z, PE (X z) ex ta) → (∀ z, PE (X z) ei tb) → ∀ z, PS (X z) st (tAsg (tOp (rIx K) ta tb) (gAny K (is ++ [ia]).length (gNames (is ++ [ia]))))) : SS X K E st (sBorrow0 is ia j fi) := by
  obtain ⟨t, pi, h⟩ := hi.use
  refine ⟨_, hp _ _ hx pi, fun io L G σ s H A w hf => ?_⟩
  unfold sBorrow0 at hf
  split at hf
  · rename_i hil
    unfold sBorrow at hf
    cases q0 : s.stk j with
    | none => rw [q0] at hf; exact hf.elim
    | some rows0 =>
    rw [q0] at hf
    obtain ⟨a, _, ea, _⟩ := w.stkAt (stk_of q0)
    refine ⟨_, ea, ?_⟩
    refine h (fk_finS (A := A)) w hf fun v d s' G' H' sb w' dp f => ?_
    split at f
    · rename_i n ds l rest q
      split at f
      · rename_i hz
        obtain ⟨hz1, hz2⟩ := hz
        subst hz1
        cases dp
        obtain ⟨a', p, q', vs, xs, ea', ha, hpp, rv, w2⟩ := w'.setTop (i := ia) (stk_of q) hij (by rw [w.len]; exact hil)
        rw [ea] at ea'; cases ea'
        refine .inl ⟨a, _, -1, .ref p, rfl, rfl, SqL.of ha, by rw [List.reverse_cons]; exact atI_lastS, ?_⟩
        have hl : (vs ++ [V.ref q']).length = (is ++ [ia]).length := by simp [rv.length, hz2]
        have w3 := (hold_vals w2 rv).put (is := is) (by rw [rv.length, hz2])
        have fin : gNames (is ++ [ia]) (vs ++ [V.ref q']) σ H' A.nx := gNames_of nd hl (by
          rw [setAll_snoc (by rw [rv.length, hz2])]
          exact f _ G' H' (Sub.refl _) w3)
        rcases hpp with hpp | hpp
        · exact .inl ⟨p, _, rfl, SqT.of hpp, hl, fin⟩
        · exact .inr ⟨p, _, rfl, SqL.of hpp, hl, fin⟩
      · exact f.elim
    · exact f.elim
  · exact hf.elim
theorem Wd0.weak {io : Option Addr} {L L' G H : Hp} {σ : L2.St} {s : S} (w : Wd0 K io L G σ s H) (h : ∀ b u, L' b = some u → L b = some u) : Wd0 K io L' G σ s H := by
  have hn : ∀ b, L b = none → L' b = none := fun b hb => by
    cases e : L' b with
    | none => rfl
    | some u => rw [h b u e] at hb; cases hb
  exact ⟨w.sub, w.len, w.vals, fun i c q => let ⟨a, o, h1, h2, h3, h4, h5, h6⟩ := w.owns i c q; ⟨a, o, h1, h2, h3, h4, hn a h5, h6⟩, w.apart, fun a q => let ⟨h1, h2, h3⟩ := w.ios a q; ⟨h1, hn a h2, h3⟩, w.refs, fun a o q => w.loose a o (h a o q)⟩
theorem Wd.dropM {io : Option Addr} {L M G H : Hp} {σ : L2.St} {s : S} (w : Wd K io (un L M) G σ s H) : Wd K io L G σ s H := by
  obtain ⟨T, hd, w0, st⟩ := w.ex
  refine ⟨T, fun b u hb => un_left (hd b u hb), w0.weak fun b u hb => ?_, st⟩
  unfold un at hb
  cases e : L b with
  | some v => rw [e] at hb; cases hb; exact un_l (un_l e)
  | none => rw [e] at hb; exact un_r hb (hd b u hb)
theorem FK.upM {io : Option Addr} {L M : Hp} {σ : L2.St} {β : Type} {F : Hp → Out β → Prop} (h : FK K E io L σ F) : FK K E io (un L M) σ F :=
  ⟨h.stuck, fun z dx v G H sb w => h.exc z dx v G H sb w.dropM, h.mono⟩
def sTopApp (j : Nat) (fi fk fe : M D) : M Fl := fun s => match s.stk j with
  | none => .stuck
  | some _ => mbind fi (fun x s => match x, s.stk j with
    | .int n, some ((ds, some l) :: rest) => if n = -1 ∧ l.length < sizeLine then mbind fk (fun y s => match y with
      | .int k => if k = (ds.length : Int) then mbind fe (fun d s => if noStk s.env = true then .ok .nx (s.putStk j ((ds, some (l ++ [d])) :: rest)) else .stuck) s else .stuck
      | _ => .stuck) (s.clr j) else .stuck
    | _, _ => .stuck) s
theorem ss_topApp {pos : Pos} {ei ek ee : Expr} {fi fk fe : M D} (hx : ∀ z, PE (X z) ex (tVar j)) (hi : SV X K E ei fi) (hk : SV X K E ek fk) (he : SV X K E ee fe)
    (hp : ∀ ta tb tc t, (∀ z, PE (X z) ex ta) → (∀ z, PE (X z) ei tb) → (∀ z, PE (X z) ek tc) → (∀ z, PA (X z) [ee] t) → ∀ z, PE (X z) e (tBM K "list" rAppend (tOp (rIx K) (tOp (rIx K) ta tb) tc) t))
    (hs : ∀ z, swapsWith e none pos.line (X z).env = pure false := by intro _; rfl) (hs2 : ∀ z, starEach [ee] (X z).env = [(false, eval ee (X z).env)] := by intro _; rfl) : SS X K E (.Expr e pos) (sTopApp j fi fk fe) := by
  obtain ⟨t1, p1, h1⟩ := hi.use
  obtain ⟨t2, p2, h2⟩ := hk.use
  obtain ⟨t3, p3, h3⟩ := he.use
  refine ⟨_, fun z => ps_expr (hp _ _ _ _ hx p1 p2 (fun z => pa_cons (p3 z) pa_nil (hs2 z)) z) (hs z), fun io L G σ s H A w hf => ?_⟩
  unfold sTopApp at hf
  cases q0 : s.stk j with
  | none => rw [q0] at hf; exact hf.elim
  | some rows0 =>
  rw [q0] at hf
  obtain ⟨a, _, ea, _⟩ := w.stkAt (stk_of q0)
  refine ⟨_, ea, ?_⟩
  refine h1 (fk_finS (A := A)) w hf fun v d s1 G1 H1 sb1 w1 dp f1 => ?_
  split at f1
  · rename_i n ds l rest q
    split at f1
    · rename_i hz
      obtain ⟨hz1, hz2⟩ := hz
      subst hz1
      cases dp
      obtain ⟨M, a', as, xs, hd, ea', hM, rr, nd, w2, no⟩ := w1.stkOut (stk_of q)
      rw [ea] at ea'; cases ea'
      cases rr with
      | @cons p q' vs us _ _ as' xs' _ z1 z2 z3 z4 z5 =>
        have lo : ∀ {G' H' s' b u}, Wd K io (un L M) G' σ s' H' → M b = some u → H' b = some u := fun w e => (w.loose _ _ (un_r e (hd _ _ e))).2
        refine .inl ⟨a, _, -1, .ref p, rfl, rfl, SqL.of (lo w2 hM), by rw [List.reverse_cons]; exact atI_lastS, ?_⟩
        refine h2 ((fk_finS (A := A)).upM) w2 f1 fun v d s3 G3 H3 sb3 w3 dp f3 => ?_
        split at f3
        · rename_i k
          cases dp
          split at f3
          · rename_i hk
            have e2 : k = (vs.length : Int) := by rw [z2.length]; exact hk
            subst e2
            have hpr : rIx K (V.ref p) (V.int (vs.length : Int)) H3 (fun x H => tyV K "list" x H ∧ tCons t3 tNil σ H fun xs H2 => rAppend x xs H2 fun _ H => A.nx σ H) := by
              have fin : tyV K "list" (V.ref q') H3 ∧ tCons t3 tNil σ H3 fun xs H2 => rAppend (V.ref q') xs H2 fun _ H => A.nx σ H := by
                refine ⟨.inl ⟨rfl, _, SqL.of (lo w3 z3)⟩, ?_⟩
                refine h3 ((fk_finS (A := A)).upM) w3 f3 fun v d s4 G4 H4 sb4 w4 dp f4 => ?_
                split at f4
                · rename_i hno
                  refine ⟨q', us, v, rfl, rfl, lo w4 z3, by rw [z4.length]; exact hz2, ?_⟩
                  have hq : L q' = none := hd _ _ z3
                  have w5 := w4.writeM (o' := .lst (us ++ [v])) z3 hq
                  have nd' := nd
                  simp only [List.nodup_cons, List.mem_cons, not_or] at nd'
                  have sb5 := sb3.trans sb4
                  have w6 := w5.stkIn (j := j) (a := a) (rows := (ds, some (l ++ [d])) :: rest) (as := p :: q' :: as') (xs := .ref p :: xs') (fun b u hb => ?_) (σ_lt ea) (by rw [upd_ne nd'.1.2.1]; exact hM)
                    (.cons (vs := vs) (by rw [upd_ne nd'.2.1.1]; exact z1) (sb5.dpAll z2) upd_same ((sb5.dpAll z4).append (.cons dp .nil)) ((z5.mono sb5).agree fun b hb => upd_ne fun e => nd'.2.2.1 (by rw [← e]; exact hb))) nd (noStk_of hno)
                  · rw [set_back ea] at w6
                    exact f4 σ G4 _ (Sub.refl _) w6
                  · by_cases e : b = q'
                    · rw [e]; exact hq
                    · rw [upd_ne e] at hb; exact hd _ _ hb
                · exact f4.elim
              rcases z1 with z1 | z1
              · exact .inr (.inl ⟨p, _, _, .ref q', rfl, rfl, SqT.of (lo w3 z1), atI_endS, fin⟩)
              · exact .inl ⟨p, _, _, .ref q', rfl, rfl, SqL.of (lo w3 z1), atI_endS, fin⟩
            exact hpr
          · exact f3.elim
        · exact f3.elim
    · exact f1.elim
  · exact f1.elim
end
end L3

namespace L3
open PySem PySem.W PySem.Spec PyProof.Rows L2

end L3

namespace L3
open PySem PySem.W PySem.Spec PyProof.Rows L2

def initL (n : Nat) (ds : List D) : List (Option Sl) := (ds.map fun d => some (Sl.val d)) ++ some Sl.io :: List.replicate (n - (ds.length + 1)) none
section
variable {P : Program} {w : World} {K : PySem.W.Frag} {mg : Str → Option Value} {base : Heap}
end

section
variable {ι : Type} {X : ι → Cx} {K : PySem.W.Frag} {E : WW} {e : Expr} {es : List Expr} {fs : List (M D)} {g : Fn}
end
end L3

namespace L3
open PySem PySem.W PySem.Spec PyProof.Rows L2

def S.ownl (s : S) (j : Nat) : Option (List D) := match s.env[j]? with
  | some (some (Sl.own (C.lst ds))) => some ds
  | _ => none
open Classical in
noncomputable def compP (all : List D) (j : Nat) (g : D → S → Option S) (c : M Bool) (f : M D) (vs : List Nat) : List D → List D → M (List D)
  | [], acc => fun s => if s.ownl j = some all then .ok acc (s.wipe vs) else .stuck
  | d :: ds, acc => fun s => if s.ownl j = some all then (match g d (s.wipe vs) with
    | none => .stuck
    | some s1 => mbind c (fun b => if b then mbind f fun x => if acc.length < sizeLine then compP all j g c f vs ds (acc ++ [x]) else mstuck else compP all j g c f vs ds acc) s1) else .stuck
noncomputable def eCompP (j : Nat) (vs : List Nat) (g : D → S → Option S) (c : M Bool) (f : M D) : M R := fun s0 => match s0.ownl j with
  | none => .stuck
  | some all => if s0.clean vs && !vs.contains j then (match compP all j g c f vs all [] s0 with
    | .ok acc s => .ok (.new (.lst acc)) (s.back s0 vs)
    | _ => .stuck) else .stuck
section
variable {ι : Type} {X : ι → Cx} {K : PySem.W.Frag} {E : WW}
end
end L3

namespace L3
open PySem PySem.W PySem.Spec PyProof.Rows L2

section
variable {X : Cx} {pins : List (Addr × Obj)} {σ : L2.St} {H : Hp} {s : Shared}
end

def S.tset (s : S) (i : Nat) : Option (List (List Int)) := match s.env[i]? with
  | some (some (Sl.own (C.ts ks))) => some ks
  | _ => none
theorem Wd.tset {K : PySem.W.Frag} {io : Option Addr} {L G H : Hp} {σ : L2.St} {s : S} {i : Nat} {ks : List (List Int)} (w : Wd K io L G σ s H) (h : s.tset i = some ks) :
    s.env[i]? = some (some (Sl.own (C.ts ks))) ∧ ∃ a o as, σ[i]? = some (some (V.ref a)) ∧ H a = some (tsO a o) ∧ TsOk a o ks as ∧ KeysAt K G as ks := by
  unfold S.tset at h
  split at h
  · rename_i c q
    cases h
    obtain ⟨a, o, e, g, ha, r, l, _⟩ := w.owns i _ q
    cases r with
    | ts h1 h2 => exact ⟨q, a, _, _, e, ha, h1, h2⟩
  · cases h
def keyT : D → Option (List Int)
  | .tuple ds => intsOf ds
  | _ => none
def addT (ks : List (List Int)) (k : List Int) : List (List Int) := if k ∈ ks then ks else ks ++ [k]
section
variable {ι : Type} {X : ι → Cx} {K : PySem.W.Frag} {E : WW} {e : Expr}
def eNewT : M R := mret (.new (.ts []))
def sTPut (i : Nat) (fk : M D) : M Fl := fun s => match s.tset i with
  | none => .stuck
  | some _ => mbind fk (fun d s' => match s'.tset i with
    | none => .stuck
    | some ks => match keyT d with
      | none => .stuck
      | some k => if ks.length < sizeLine then .ok .nx (s'.seto i (.ts (addT ks k))) else .stuck) s
def toTL : R → M R
  | .new (.ts ks) => mret (.new (.lst (ks.map itD)))
  | _ => mstuck
def eTList (f : M R) : M R := mbind f toTL
end
end L3

namespace L3
open PySem PySem.W PySem.Spec PyProof.Rows PyProof.V L2

section
variable {X : Cx}
end

def compT (g : D → S → Option S) (f : M D) (vs : List Nat) : List D → List (List Int) → M (List (List Int))
  | [], acc => fun s => .ok acc (s.wipe vs)
  | d :: ds, acc => fun s => match g d (s.wipe vs) with
    | none => .stuck
    | some s1 => mbind f (fun x => match keyT x with
      | none => mstuck
      | some k => if acc.length < sizeLine then compT g f vs ds (addT acc k) else mstuck) s1
def eTComp (it : M (List D)) (vs : List Nat) (g : D → S → Option S) (f : M D) : M R := mbind it fun ds s0 => if s0.clean vs then (match compT g f vs ds [] s0 with
  | .ok acc s => .ok (.new (.ts acc)) (s.back s0 vs)
  | _ => .stuck) else .stuck
section
variable {ι : Type} {X : ι → Cx} {K : PySem.W.Frag} {E : WW}
end
end L3

namespace L3
open PySem PySem.W PySem.Spec PyProof.Rows PyProof.V L2

section
variable {prog : Program} {w : World} {A : Around} {E : Value → Shared → Prop} {s : Shared}
structure Itr where
  it : Addr
  l : Addr
  arr : Array Value
  x : Value
def Elsewhere (ch : List Addr) (h h' : Heap) : Prop := h'.objs.size = h.objs.size ∧ ∀ c o, c ∉ ch → h.get? c = some o → h'.get? c = some o
theorem Elsewhere.refl (ch : List Addr) (h : Heap) : Elsewhere ch h h := ⟨rfl, fun _ _ _ e => e⟩
theorem Elsewhere.step {ch : List Addr} {h h' h2 : Heap} {a : Addr} (x : Elsewhere ch h h') (sb : Heap.SameBut a h' h2) (ha : a ∈ ch) : Elsewhere ch h h2 :=
  ⟨by rw [sb.1, x.1], fun c o hc e => sb.extBut _ _ (fun z => hc (z ▸ ha)) (x.2 c o hc e)⟩
end
end L3

namespace L3
open PySem PySem.W PySem.Spec PyProof.Rows PyProof.V L2
section
variable {prog : Program} {w : World} {A : Around} {E : Value → Shared → Prop} {s : Shared}
end
end L3

namespace L3
open PySem PySem.W PySem.Spec PyProof.Rows PyProof.V L2
section
variable {prog : Program} {w : World} {A : Around} {E : Value → Shared → Prop} {s : Shared}
end
end L3

namespace L3
open PySem PySem.W PySem.Spec PyProof.Rows PyProof.V L2

end L3

namespace L3
open PySem PySem.W PySem.Spec PyProof.Rows L2

def tupsL : List D → Option (List (List D))
  | [] => some []
  | .tuple xs :: ds => (tupsL ds).map (xs :: ·)
  | _ :: _ => none
def minLen : List D → List (List D) → Nat
  | r, [] => r.length
  | r, x :: rs => min r.length (minLen x rs)
def colsD (r : List D) (rs : List (List D)) : List D := (List.range (minLen r rs)).map fun i => .tuple ((r :: rs).map fun x => x.getD i .none)
inductive RowsAt (K : PySem.W.Frag) (G : Hp) : List Addr → List (List D) → Prop
  | nil : RowsAt K G [] []
  | cons {l : Addr} {ls : List Addr} {xs : List V} {ds : List D} {rs : List (List D)} : SqT K G l xs → DqAll K G xs ds → RowsAt K G ls rs → RowsAt K G (l :: ls) (ds :: rs)
theorem RowsAt.len {K : PySem.W.Frag} {G : Hp} {ls : List Addr} {rs : List (List D)} (h : RowsAt K G ls rs) : ls.length = rs.length := by
  induction h with
  | nil => rfl
  | cons _ _ _ ih => simp [ih]
theorem RowsAt.get {K : PySem.W.Frag} {G : Hp} {ls : List Addr} {rs : List (List D)} (h : RowsAt K G ls rs) : ∀ {k : Nat} {l : Addr}, ls[k]? = some l → ∃ ds xs, rs[k]? = some ds ∧ SqT K G l xs ∧ DqAll K G xs ds := by
  induction h with
  | nil => intro k l e; simp at e
  | @cons l0 ls xs ds rs h1 h2 _ ih =>
    intro k l e
    cases k with
    | zero => cases e; exact ⟨ds, xs, rfl, h1, h2⟩
    | succ k => obtain ⟨ds', xs', e1, e2⟩ := ih (by simpa using e); exact ⟨ds', xs', by simpa using e1, e2⟩
def colsOf (ds : List D) : M (List D) := match tupsL ds with
  | some (r :: rs) => if rs.length < sizeLine then mret (colsD r rs) else mstuck
  | _ => mstuck
def zipStarM : D → M (List D)
  | .list ds => colsOf ds
  | .tuple ds => colsOf ds
  | _ => mstuck
def iZipS (f : M D) : M (List D) := mbind f zipStarM
section
variable {ι : Type} {X : ι → Cx} {K : PySem.W.Frag} {E : WW}
end

def pSumT : List D → Option PO
  | [.tuple xs] => (intsOf xs).map fun ns => .d (.int ns.sum)
  | _ => none
end L3

namespace L3
open PySem PySem.W PySem.Calls PySem.Spec PyProof.Rows L2
def sHalt : M Fl := fun _ => .stuck
theorem ss_halt {ι : Type} {X : ι → Cx} {K : PySem.W.Frag} {E : WW} {e : Stmt} : SS X K E e sHalt := ⟨fun _ _ _ => False, fun _ => ⟨fun _ _ _ _ _ _ h => h.elim⟩, fun _ _ _ _ _ _ _ _ hf => hf⟩
end L3

namespace L3
open PySem PySem.W PySem.Calls PySem.Spec PyProof.Rows L2
end L3

namespace L3
open PySem PySem.W PySem.Spec PyProof.Rows L2
def gF : List (D → S → Option S) → List D → S → Option S
  | g :: gs, d :: ds, s => match g d s with
    | some s' => gF gs ds s'
    | none => none
  | _, _, s => some s
def gL (gs : List (D → S → Option S)) : D → S → Option S := fun d s => match d with
  | .tuple ds => if ds.length = gs.length then gF gs ds s else none
  | _ => none
def sUnpG (g : D → S → Option S) (f : M D) : M Fl := mbind f fun d s => match g d s with
  | some s' => .ok .nx s'
  | none => .stuck
section
variable {ι : Type} {X : ι → Cx} {K : PySem.W.Frag} {E : WW} {e tg : Expr} {tgs : List Expr} {st : Stmt} {is js : List Nat} {g : D → S → Option S} {gs : List (D → S → Option S)}
end
end L3

namespace L3
open PySem PySem.W PySem.Spec PyProof.Rows PyProof.V L2
end L3

namespace L3
open PySem PySem.W PySem.Spec PyProof.Rows PyProof.V L2
section
variable {ι : Type} {X : ι → Cx} {K : PySem.W.Frag} {E : WW}
end
end L3

namespace L3
open PySem PySem.W PySem.Spec PyProof.Rows PyProof.V L2

def mergeD (kds more : List (Key × D)) : List (Key × D) := more.foldl (fun acc kv => putD acc kv.1 kv.2) kds
def mPairs : List (M D × M D) → List (Key × D) → M (List (Key × D))
  | [], acc => mret acc
  | (fk, fv) :: r, acc => mbind fk fun x => mbind fv fun y => match keyD x with
    | none => mstuck
    | some k => mPairs r (acc ++ [(k, y)])
def eDisp (fs : List (M D × M D)) : M R := fun s => match mPairs fs [] s with
  | .ok ps s' => if ps.length ≤ 15 then .ok (.new (.dct (mergeD [] ps))) s' else .stuck
  | _ => .stuck
section
variable {K : PySem.W.Frag} {G : Hp}
end
section
variable {ι : Type} {X : ι → Cx} {K : PySem.W.Frag} {E : WW}
end
end L3

namespace L3
open PySem PySem.W PySem.Calls PySem.Spec PyProof.Rows L2
section
variable {P : Program} {w : World} {A : Around} {K : PySem.W.Frag} {mg : Str → Option Value} {base hp : Heap} {g : Array GenState} {d : Drawn} {t : Nat} {os : OsState} {R : Result → Shared → Prop}
variable {C N fI cc cda x t0 : Addr} {name qual nm q : Str} {params : Arguments} {scope : Scope} {dV kV doc pm ct oc ccl cl : Value} {an od cdd cld dd : Option Addr} {osl ccs csl : Array (Option Value)} {fld self msg file : Str} {tf : Tok} {vs : Array Value} {ar : Arg} {v : Value}
  {bs bm : List Value} {sn : List Str} {sub : List Value} {ab : Bool} {col : Option Bool} {k0 k1 k2 k3 k5 : Option Value} {p0 p1 p2 p3 p4 p5 p6 p7 p8 p9 : Pos} {j : Nat} {args : Args}
abbrev supBody (self fld msg : Str) (p0 p1 p2 p3 p4 p5 p6 p7 p8 p9 : Pos) (j : Nat) : List Stmt :=
  [.Expr (.Call (.Attribute (.Call (.Name "super" p0) [] [] p1) "__init__" p2) [.Constant (.str msg) j p3] [] p4) p5, .Assign [.Attribute (.Name self p6) fld p7] (.Name fld p8) p9]
abbrev SupCall (msg : Str) (p0 p1 p2 p3 p4 : Pos) (j : Nat) : Prop := ∀ env : Env, ∃ pl : Sem Bool, eval (.Call (.Attribute (.Call (.Name "super" p0) [] [] p1) "__init__" p2) [.Constant (.str msg) j p3] [] p4) env = (do
  let ov ← attributeBase (.Call (.Name "super" p0) [] [] p1) "__init__" env (eval (.Call (.Name "super" p0) [] [] p1) env)
  standAt p2.atName
  let (f, first) ← holding [ov] (getMethod ov "__init__" pl)
  callWith p4 f first (backTo p4 (starEach [.Constant (.str msg) j p3] env)) [])
theorem sup_run (hsc : SupCall msg p0 p1 p2 p3 p4 j) (hroom : A.depth < recursionLimit) (mod : Mod K mg base) (bk : ∀ b o, base.get? b = some o → hp.get? b = some o)
    (lk : K.lookup fI = some ⟨oc, od, .func (fnX name qual params (supBody self fld msg p0 p1 p2 p3 p4 p5 p6 p7 p8 p9 j) scope [("__class__", cc)] dV kV doc pm an (.ref cda) ct), osl⟩)
    (hcd : codeIn K (.ref cda) qual = true)
    (hbind : BindsTo ⟨hp, g, d, t, os⟩ (fnX name qual params (supBody self fld msg p0 p1 p2 p3 p4 p5 p6 p7 p8 p9 j) scope [("__class__", cc)] dV kV doc pm an (.ref cda) ct) args [(self, .ref x), (fld, v)])
    (hk : scope.kind = .function) (hco : scope.isCoroutine = false) (hgen : scope.isGenerator = false) (hcell : ∀ y ∈ scope.names, y.2 ≠ .cell)
    (ls : scope.names.lookup self = some .local) (lf : scope.names.lookup fld = some .local) (lsup : scope.names.lookup ("super" : Str) = some .globalImplicit) (lcls : scope.names.lookup ("__class__" : Str) = some .free)
    (hne : (fld == self) = false) (hd1 : (self == ("__debug__" : Str)) = false) (hd2 : (fld == ("__debug__" : Str)) = false)
    (hp0 : (params.posonlyargs ++ params.args).head? = some ar) (har : ar.arg = self)
    (lcode : K.lookup cda = some ⟨ccl, cdd, .fields vs, ccs⟩) (hvs : vs[2]? = some (.str file tf)) (hfile : ((P.main.file : Str) == file) = true)
    (lcell : K.lookup cc = some ⟨cl, cld, .cell (some (.ref C)), csl⟩) (hms : mg "super" = none) (htop : (P.main.scope.names.lookup ("super" : Str)).isSome = false)
    (lC : K.lookup C = some (excClassObj nm q C N bs bm true sn sub ab col dd k0 k1 k2 k3 k5 "ValueError.__new__")) (hbm : PySem.HandSPX.refsVE bm = true)
    (sa : findIn K (.ref C) "__setattr__" = some (some (.builtin "object.__setattr__"))) (hsup : ks_superIn K C C "__init__" = some (some (.builtin "ValueError.__init__")))
    (hB : subIn K (.ref C) (.type "ValueError") = some true) (hsub : mroIn K C (.ref C) = some true) (hopq : nsIn K cStatics "thirdparty.any" = some none) (hno : findIn K (.ref C) fld = some none)
    (hx : hp.get? x = some (PySem.HandSPX.excO C t0)) (hxb : ∀ o, base.get? x ≠ some o)
    (hR : ∀ h' t' t1 dx, (∀ b o, b ≠ x → hp.get? b = some o → h'.get? b = some o) → hp.objs.size ≤ dx → dx ≠ x → h'.get? x = some { cls := .ref C, dict := some dx, data := .fields #[.ref t1, .none, .none, .none, .bool false, .none] } →
      h'.Ns1 dx (fun y => if y = fld then some v else none) → R (.ok (.ret .none)) ⟨h', g, d, t', os⟩) : codeAny (model P w) A (.call (.ref fI) args) R ⟨hp, g, d, t, os⟩ := by
  obtain ⟨kd, nms, gn, co, more⟩ := scope
  dsimp only at hk hco hgen
  subst hk hco hgen
  have KX : K.In hp := mod.kin.keeps bk
  have lim : hp.NoLimit := mod.nolimit.keeps bk
  obtain ⟨mb, hb1, hb2⟩ := mod.blt
  have hmb : mb ("super" : Str) = some (.type "super") := (hb2 "super" (by decide)).trans (by first | boot_by_name | rfl | kernel_rfl)
  have hcl : clsIn K C = some { name := nm, bases := bs, mro := .ref C :: bm, ns := N, qualname := q, hasDict := true, slotNames := sn, subclasses := sub, abstract := ab, collection := col, hasDel := false } := by unfold clsIn; rw [lC] <;> rfl
  have hsup' : alongIn K "__init__" (((Value.ref C :: bm).dropWhile (· != .ref C)).drop 1) = some (some (.builtin "ValueError.__init__")) := by
    have z := hsup
    unfold ks_superIn at z
    rw [hcl] at z
    exact z
  have hloc : ∀ y ∈ [(self, Value.ref x), (fld, v)], nms.lookup y.1 = some NameKind.local := by
    intro y hy
    simp only [List.mem_cons, List.not_mem_nil, or_false] at hy
    rcases hy with rfl | rfl
    · exact ls
    · exact lf
  refine ks_codeAny_call_defAt (body := supBody self fld msg p0 p1 p2 p3 p4 p5 p6 p7 p8 p9 j) (binds := [(self, .ref x), (fld, v)]) hroom (KX _ _ lk) rfl lim (codeRec_of KX hcd) rfl hbind hcell hloc (fun h₁ hns hk₁ => ?_) rfl rfl rfl
  have mfs : ([(self, Value.ref x), (fld, v)].reverse.lookup self) = some (.ref x) := by
    have e : (self == fld) = false := by
      cases z : (self == fld) with
      | false => rfl
      | true => rw [eq_of_beq z] at hne; simp at hne
    simp [List.lookup, e]
  have mff : ([(self, Value.ref x), (fld, v)].reverse.lookup fld) = some v := by simp [List.lookup]
  have bk1 : ∀ b o, base.get? b = some o → h₁.get? b = some o := fun b o e => hk₁ b o (bk b o e)
  have KX1 : K.In h₁ := mod.kin.keeps bk1
  refine ks_wpAt_execs_cons (ks_wpAt_Expr_any (ks_wpAt_MethodCall (pl := (hsc _).choose) ?_ (hsc _).choose_spec))
  refine ks_wpAt_super_base lsup lcls (by decide) rfl (KX1 _ _ lk) rfl hp0 rfl (KX1 _ _ lcode) rfl hvs hfile htop ?_
  refine ks_loadName_global rfl lsup (loadGlobal_builtin (mod.glob.keeps bk1) hms (hb1.keeps bk1) hmb ⟨rfl, ?_⟩)
  refine wpAny_loadName_free rfl lcls rfl ⟨_, KX1 _ _ lcell, rfl⟩ ?_
  rw [har]
  refine wpAny_loadName_local rfl ls hns mfs ?_
  have hx1 := hk₁ _ _ hx
  refine ks_wpAny_isType_cls (KX1 _ _ lC) rfl ⟨rfl, ?_⟩
  refine ks_wpAny_call_super (KX1 _ _ lC) rfl hx1 rfl (fun c e => by cases e) (looks_mroIn KX1 hsub) (fun h2 e2 k2 => ?_)
  have bk2 : ∀ b o, base.get? b = some o → h2.get? b = some o := fun b o e => k2 b o (bk1 b o e)
  have KX2 : K.In h2 := mod.kin.keeps bk2
  have hx2 := k2 _ _ hx1
  have I2 : InstAt h2 x (PySem.HandSPX.excO C t0) C none := ⟨hx2, rfl, rfl, trivial⟩
  refine kxs_getMethod kxs_ValueError e2 (looks_opaque KX2 hopq) (l₀ := .ref C :: bm) (fun A Q E s k q => wpAny_bind ((looks_clsIn KX2 hcl) A _ E s k (wpAny_pure q))) rfl KX2 hsup' (I2.type.andThen (looks_subIn KX2 hB)) (ks_ne KX2 I2 hcl) (by decide) ?_
  have hes : starEach [Expr.Constant (.str msg) j p3] (callEnv (fnX name qual params (supBody self fld msg p0 p1 p2 p3 p4 p5 p6 p7 p8 p9 j) ⟨.function, nms, false, false, more⟩ [("__class__", cc)] dV kV doc pm an (.ref cda) ct) hp.objs.size fI) =
    (false, eval (Expr.Constant (.str msg) j p3) (callEnv (fnX name qual params (supBody self fld msg p0 p1 p2 p3 p4 p5 p6 p7 p8 p9 j) ⟨.function, nms, false, false, more⟩ [("__class__", cc)] dV kV doc pm an (.ref cda) ct) hp.objs.size fI)) :: starEach [] (callEnv (fnX name qual params (supBody self fld msg p0 p1 p2 p3 p4 p5 p6 p7 p8 p9 j) ⟨.function, nms, false, false, more⟩ [("__class__", cc)] dV kV doc pm an (.ref cda) ct) hp.objs.size fI) := rfl
  rw [hes]
  have hu3 : (h2.push (kxs_mw "ValueError.__init__" x)).get? h2.objs.size = some (kxs_mw "ValueError.__init__" x) := Heap.get?_push_at rfl rfl
  have k3 : ∀ b o, h2.get? b = some o → (h2.push (kxs_mw "ValueError.__init__" x)).get? b = some o := fun b o e => Heap.get?_push_of_some _ e
  generalize hh3 : h2.push (kxs_mw "ValueError.__init__" x) = h3 at hu3 k3 ⊢
  have bk3 : ∀ b o, base.get? b = some o → h3.get? b = some o := fun b o e => k3 b o (bk2 b o e)
  have KX3 : K.In h3 := mod.kin.keeps bk3
  have hx3 := k3 _ _ hx2
  refine kxs_callWith (i := "ValueError.__init__") (x := x) rfl ?_
  refine evalArgs_plain ?_
  refine spliced_cons ?_
  refine Constant_str (k := j) (pos := p3) ?_
  refine spliced_nil ⟨hu3, ?_⟩
  have FB : ExcBaseFacts "ValueError" "ValueError.__new__" "ValueError.__init__" _ := F.excBase_ValueError
  refine wpAny_call (codeAny_of_tree ?_)
  show wpAny _ (Around.in1 _) (callAny (.ref h2.objs.size) ⟨_, []⟩) _ _ _
  simp only [callAny]
  refine wpAny_bind (wpAny_load hu3 ?_)
  simp only [kxs_mw, show (Value.type "method-wrapper" == Value.type "method" || Value.type "method-wrapper" == Value.type "builtin_function_or_method" || Value.type "method-wrapper" == Value.type "method-wrapper") = true by decide, if_true]
  refine KFB.if_so (by decide) ?_
  refine wpAny_bind (check_bound_init FB.toExcCallFacts (KX3 _ _ lC) hx3 rfl ?_)
  refine wpAny_bind (wpAny_pure (wpAny_pure ?_))
  refine ⟨plainId_quiet FB.init.plain _, codeAny_builtin FB.initEntry ?_⟩
  refine exc_init_tree (cls := .ref C) (t0 := t0) (dv := none) (c2 := .none) (c3 := .none) (b4 := .bool false) hx3 (by show 1 ≤ sizeLine; decide) fun h4 k4 hx4 ht4 => ?_
  show _root_.PySem.wpAt _ _ _ (execs [Stmt.Assign [.Attribute (.Name self p6) fld p7] (.Name fld p8) p9] _) _ _ _
  have xb : base.get? x = none := by
    cases e : base.get? x with
    | none => rfl
    | some o => exact absurd e (hxb o)
  have bk4 : ∀ b o, base.get? b = some o → h4.get? b = some o := fun b o e => k4 b o (fun z => by rw [z, xb] at e; cases e) (bk3 b o e)
  have KX4 : K.In h4 := mod.kin.keeps bk4
  have hlx : hp.objs.size ≠ x := Nat.ne_of_gt (Heap.lt_size hx)
  have hns4 : h4.Ns hp.objs.size (fun y => [(self, Value.ref x), (fld, v)].reverse.lookup y) := by
    obtain ⟨oL, es, ep, hL, r⟩ := hns
    exact ⟨oL, es, ep, k4 _ _ hlx (k3 _ _ (k2 _ _ hL)), r⟩
  refine wpAt_of_wpAny (wpAny_execs_cons (plainObj_wpAny_Assign_Attribute ?_))
  refine wpAny_Name (wpAny_loadName_local rfl lf hns4 mff ?_) hd2
  refine wpAny_Name (wpAny_loadName_local rfl ls hns4 mfs ?_) hd1
  refine set_plain KX4 (ox := excRec (.ref C) h3.objs.size none .none .none (.bool false)) (od := none) ⟨hx4, rfl, rfl, trivial⟩ sa ?_
  refine PySem.HandSPX.exc_osa KX4 hx4 hcl (show PySem.HandSPX.refsVE (.ref C :: bm) = true from hbm) rfl hno (fun h5 tk5 dx k5 dn dne hx5 hn5 => ?_)
  refine wpAny_execs_nil ?_
  refine hR h5 _ _ dx (fun b o hb e => k5 b o hb (k4 b o hb (k3 b o (k2 b o (hk₁ b o e))))) (Nat.le_trans (Nat.le_of_lt hns4.lt) dn) dne hx5 hn5
end

def spInit (C : Addr) (f : Str) : Sp := fun vs H Q _ => ∃ (a : Addr) (y : V), vs = [.ref a, y] ∧ H a = some (exo a C none) ∧ ∀ dx, H dx = none → dx ≠ a → Q .non (upd (upd H dx (exd dx [(f, y)])) a (exo a C (some dx)))
inductive OwnTxt (P : Program) (K : PySem.W.Frag) (C fI : Addr) (f : Str) : FuncData → Str → Prop
  | mk {N cc cda : Addr} {name qual nm q : Str} {params : Arguments} {scope : Scope} {dV kV doc pm ct oc ccl cl : Value} {an od cdd cld dd : Option Addr} {osl ccs csl : Array (Option Value)} {self msg file : Str} {tf : Tok} {vs : Array Value} {ar : Arg}
    {bs bm : List Value} {sn : List Str} {sub : List Value} {ab : Bool} {col : Option Bool} {k0 k1 k2 k3 k5 : Option Value} {p0 p1 p2 p3 p4 p5 p6 p7 p8 p9 : Pos} {j : Nat}
    (h1 : SupCall msg p0 p1 p2 p3 p4 j) (h3 : K.lookup fI = some ⟨oc, od, .func (fnX name qual params (supBody self f msg p0 p1 p2 p3 p4 p5 p6 p7 p8 p9 j) scope [("__class__", cc)] dV kV doc pm an (.ref cda) ct), osl⟩) (h4 : codeIn K (.ref cda) qual = true)
    (a1 : scope.kind = .function) (a2 : scope.isCoroutine = false) (a3 : scope.isGenerator = false) (a4 : ∀ y ∈ scope.names, y.2 ≠ .cell) (a5 : scope.names.lookup self = some .local) (a6 : scope.names.lookup f = some .local)
    (a7 : scope.names.lookup ("super" : Str) = some .globalImplicit) (a8 : scope.names.lookup ("__class__" : Str) = some .free)
    (b1 : (f == self) = false) (b2 : (self == ("__debug__" : Str)) = false) (b3 : (f == ("__debug__" : Str)) = false) (b4 : (params.posonlyargs ++ params.args).head? = some ar) (b5 : ar.arg = self)
    (c1 : K.lookup cda = some ⟨ccl, cdd, .fields vs, ccs⟩) (c2 : vs[2]? = some (.str file tf)) (c3 : ((P.main.file : Str) == file) = true) (c4 : K.lookup cc = some ⟨cl, cld, .cell (some (.ref C)), csl⟩) (c5 : (P.main.scope.names.lookup ("super" : Str)).isSome = false)
    (h8 : K.lookup C = some (excClassObj nm q C N bs bm true sn sub ab col dd k0 k1 k2 k3 k5 "ValueError.__new__")) (h9 : PySem.HandSPX.refsVE bm = true)
    (h10 : ∀ (s : Shared) (us : List Value), us.length = 2 → BindsTo s (fnX name qual params (supBody self f msg p0 p1 p2 p3 p4 p5 p6 p7 p8 p9 j) scope [("__class__", cc)] dV kV doc pm an (.ref cda) ct) ⟨us, []⟩ ([self, f].zip us)) :
    OwnTxt P K C fI f (fnX name qual params (supBody self f msg p0 p1 p2 p3 p4 p5 p6 p7 p8 p9 j) scope [("__class__", cc)] dV kV doc pm an (.ref cda) ct) self
structure OwnInit (P : Program) (K : PySem.W.Frag) (mg : Str → Option Value) (C fI : Addr) (fd : FuncData) (me f : Str) : Prop where
  txt : OwnTxt P K C fI f fd me
  sup : mg "super" = none
  sa : findIn K (.ref C) "__setattr__" = some (some (.builtin "object.__setattr__"))
  ini : findIn K (.ref C) "__init__" = some (some (.ref fI))
  ks : ks_superIn K C C "__init__" = some (some (.builtin "ValueError.__init__"))
  ve : subIn K (.ref C) (.type "ValueError") = some true
  cc : mroIn K C (.ref C) = some true
  opq : nsIn K cStatics "thirdparty.any" = some none
  no : findIn K (.ref C) f = some none
  exC : subIn K (.ref C) (.type "BaseException") = some true
  tyC : typeIn K (.ref C) = some (.type "type")
  kC : keepIn K (.ref C) = true
  tI : typeIn K (.ref fI) = some (.type "function")
theorem OwnInit.oex {P : Program} {K : PySem.W.Frag} {mg : Str → Option Value} {C fI : Addr} {fd : FuncData} {me f : Str} (O : OwnInit P K mg C fI fd me f) : OexC K C := by
  have T := O.txt
  cases T with
  | mk h1 h3 h4 a1 a2 a3 a4 a5 a6 a7 a8 b1 b2 b3 b4 b5 c1 c2 c3 c4 c5 h8 h9 h10 => exact ⟨⟨_, _, _, _, _, _, _, _, _, _, _, _, _, _, _, h8, h9⟩, O.sa, O.exC, O.tyC, O.kC⟩
theorem OwnInit.fn {P : Program} {w : World} {K : PySem.W.Frag} {mg : Str → Option Value} {base : Heap} {C fI : Addr} {fd : FuncData} {me f : Str} {k : Nat} (O : OwnInit P K mg C fI fd me f) : FnOk P w K mg base CX0 (k + 1) fI fd [me, f] (spInit C f) ∧ Binds K fd [me, f] [] := by
  have T := O.txt
  cases T with
  | mk h1 h3 h4 a1 a2 a3 a4 a5 a6 a7 a8 b1 b2 b3 b4 b5 c1 c2 c3 c4 c5 h8 h9 h10 =>
  refine ⟨⟨fun vs H Q E h => ?_, fun A outer s H args us vs2 Q E hr e0 hb r hsp => ?_⟩, fun s us _ hl => by rw [List.append_nil] at hl ⊢; exact h10 s us hl⟩
  · obtain ⟨a, y, rfl, _⟩ := h
    rfl
  · obtain ⟨a, y, rfl, ea, hq⟩ := hsp
    cases r with
    | @cons _ u0 _ ur ra r2 =>
      cases r2 with
      | @cons _ u1 _ _ ry r3 =>
        cases r3
        obtain rfl : u0 = Value.ref a := ra
        obtain ⟨t1, ho⟩ := exo_at e0.hok ea
        obtain ⟨hp, g, d, t, os⟩ := s
        have na : ∀ {b : Addr}, H b = none → b ≠ a := fun {b} n z => by
          rw [z, ea] at n
          cases n
        refine sup_run (fld := f) (self := me) (v := u1) (x := a) (t0 := t1) h1 hr.depth e0.mod (fun b o e => (e0.bs b o e).1) h3 h4 hb a1 a2 a3 a4 a5 a6 a7 a8 b1 b2 b3 b4 b5 c1 c2 c3 c4 O.sup c5 h8 h9 O.sa O.ks O.ve O.cc O.opq O.no ho (fun o e => na (e0.bs a o e).2 rfl) fun h' t' t2 dx keep dn dne hx hn => ?_
        have hnd : H dx = none := e0.hok.fresh dn
        have nd : ∀ {b : Addr} {o : Obj}, hp.get? b = some o → b ≠ dx := fun {b o} q => Nat.ne_of_lt (Nat.lt_of_lt_of_le (Heap.lt_size q) dn)
        refine ⟨.non, _, rfl, e0.bare, ?_, fun b o q => ?_, rfl, hq dx hnd dne⟩
        · exact {
            keep := fun b o q n _ _ => keep b o (na n) q
            slot := fun b o q n _ _ => ⟨o.slots, keep b o (na n) q⟩
            free := fun b o q n _ => by rw [upd_ne (na n), upd_ne (nd q)]; exact n
            there := fun b o q _ => by
              by_cases hb : b = a
              · exact ⟨_, by rw [hb]; exact hx⟩
              · exact ⟨o, keep b o hb q⟩
            tups := fun b xs q => by rw [upd_ne (at_ne ea q exo_tup), upd_ne (ne_of_none q hnd)]; exact q
            frzs := fun b o v q => by rw [upd_ne (at_ne ea q exo_frz), upd_ne (ne_of_none q hnd)]; exact q
            tbls := fun b ps q => ⟨#[], by rw [upd_ne (at_ne ea q exo_tbl), upd_ne (ne_of_none q hnd), q]; simp⟩ }
        · by_cases hb2 : b = a
          · subst hb2
            rw [upd_same] at q
            cases q
            exact exo_ok hx
          · rw [upd_ne hb2] at q
            by_cases hd2 : b = dx
            · subst hd2
              rw [upd_same] at q
              cases q
              exact exd_ok hn (relO_put (fs := []) ry fun g => True.intro)
            · rw [upd_ne hd2] at q
              exact (e0.hok b o q).stay (fun c v hc z => keep c v (by
                  rcases hc with hc | hc
                  · rw [hc]
                    exact hb2
                  · exact at_ne ea hc exo_own) z)
                (fun c hc => by rw [upd_ne (at_ne ea hc exo_own), upd_ne (ne_of_none hc hnd)]; exact hc) (fun c xs hc => by rw [upd_ne (at_ne ea hc exo_tup), upd_ne (ne_of_none hc hnd)]; exact hc)
end L3

namespace L3
open PySem PySem.W PySem.Calls PySem.Spec PyProof.Rows L2
def sRaise (c : Str) (f : M D) : M Fl := mbind f fun d s => .exc c d s
def wx (c : Str) (C : Addr) (W : WX) : WW := fun c' dx σ H => c' = c ∧ W (.ref C) (some dx) σ H
section
variable {ι : Type} {X : ι → Cx} {K : PySem.W.Frag} {c : Str} {C fI : Addr} {W : WX}
theorem ss_raise {fd : FuncData} {me x : Str} {k : Nat} {e : Expr} {f : M D} {p pos pos' : Pos} (hO : ∀ z, OwnInit (X z).prog (X z).K (X z).mg C fI fd me (fld c)) (hr : ∀ z, Room (k + 2) (X z).A) (hc : ∀ z, (X z).calm = true) (tk : ∀ z, Takes (X z) W) (hg : ∀ z, Gl (X z) x) (hm : ∀ z, (X z).mg x = some (.ref C))
    (hf : SV X K (wx c C W) e f) (hdb : (x == ("__debug__" : Str)) = false := by decide) (he : ∀ z, starEach [e] (X z).env = (false, eval e (X z).env) :: starEach [] (X z).env := by intro _; rfl) : SS X K (wx c C W) (.Raise (some (.Call (.Name x p) [e] [] pos)) none pos') (sRaise c f) := by
  obtain ⟨t, pe, h⟩ := hf.use
  refine ⟨_, fun z => ps_raise (hc z) (tk z) (pmk_oex (hO z).oex (hO z).ini (hO z).tI ((hO z).fn (w := (X z).w) (base := (X z).base) (k := k)).1 (hr z) ((hO z).fn (w := (X z).w) (base := (X z).base) (k := k)).2 .nil (fun _ _ _ _ _ _ _ h => h.elim) (hg z) (hm z) (pa_cons (pe z) pa_nil (he z)) hdb (he z)), fun io L G σ s H A w hf => ?_⟩
  refine h (fk_finS (A := A)) w hf fun v d s1 G1 H1 sb1 w1 dp1 f1 => ?_
  refine ⟨by simp, fun a ha => ⟨a, v, rfl, upd_same, fun dx hdx ne => ⟨rfl, dx, [(fld c, v)], upd_same, by rw [upd_ne ne, upd_same], by rw [upd_ne ne] at hdx; exact hdx, ?_⟩⟩⟩
  have hdx' : H1 dx = none := by rw [upd_ne ne] at hdx; exact hdx
  have e : upd (del (upd (upd (upd H1 a (exo a C none)) dx (exd dx [(fld c, v)])) a (exo a C (some dx))) a) dx (.xd [(fld c, v)]) = upd H1 dx (.xd [(fld c, v)]) := by
    funext b
    by_cases h1 : b = dx
    · subst h1; rw [upd_same, upd_same]
    · rw [upd_ne h1, upd_ne h1]
      by_cases h2 : b = a
      · subst h2; rw [del_same, ha]
      · rw [del_ne h2, upd_ne h2, upd_ne h1, upd_ne h2]
  rw [e]
  obtain ⟨hL, w2⟩ := w1.fresh (o := .xd [(fld c, v)]) hdx'
  exact (f1 σ dx v G1 _ (Sub.refl _) (w2.drop hL) upd_same dp1).2
def spX (c : Str) (C : Addr) (K : PySem.W.Frag) (bx : Bool) (np : Nat) (g : Fn) : Sp := fun vs H Q E =>
  ∃ (G : Hp) (io : Option Addr) (ds box : List D) (ws : List V), Sub G H ∧ vs = vsOf io ws ∧ io.isSome = bx ∧ DqAll K G ws ds ∧ vs.length = np ∧ (∀ a, io = some a → G a = none ∧ ∃ xs, H a = some (.lst xs) ∧ DqAll K G xs box) ∧
    match g ds box with
    | .ok r es => ∀ G' H', Ext K G H io G' H' es → RetR K H G' H' io Q r
    | .exc c' d es => c' = c ∧ ∀ dx v G' H', Ext K G H io G' H' es → H' dx = some (.xd [(fld c, v)]) → Dq K G' v d → E (.ref C) (some dx) H'
    | .stuck => False
theorem fn_okX {P : Program} {w : World} {mg : Str → Option Value} {base : Heap} {x qual : Str} {st : Stmt} {f : Addr} {fd : FuncData} {N ps : List Str} {k : Nat} {b : M Fl} (bx : Bool) (F : Fun K x qual st f fd) (S : FnScope N ps (defScope st)) (hps : ps.length ≤ N.length)
    (hb : ∀ (cdv : Value) (A : Around) (outer : List Env) (s : Shared) (H : Hp) (E : XK), Room k (A.deeper (envOfC qual (defScope st) s.heap.objs.size f cdv)) →
      SB (fun _ : Unit => cxOf (L2.CX P w) P w K mg base N qual (defScope st) f cdv A outer s H E) K (wx c C fun cls d _ H => E cls d H) (defBody st) b) : FnOk P w K mg base (L2.CX P w) (k + 1) f fd ps (spX c C K bx ps.length (runF bx N.length b)) := by
  refine F.okX S (fun vs H Q E h => ?_) (fun cdv A outer s H vs Q E hr h => ?_)
  · obtain ⟨G, io, ds, box, ws, _, _, _, _, hl, _⟩ := h
    exact hl
  · obtain ⟨G, io, ds, box, ws, sb, rfl, hbx, hd, hl, hio, hg⟩ := h
    obtain ⟨t, p, h⟩ := (hb cdv A outer s H E hr).ex
    refine ⟨t, p (), ?_⟩
    have w0 := start_wd (N := N) sb hd (by omega) hio
    rw [hbx] at w0
    refine h io _ G _ _ H _ w0 ?_
    unfold runF at hg
    have L0 : ∀ b o, H b = some o → G b = none → io ≠ some b → (if G b = none ∧ io ≠ some b then H b else none) = some o := fun b o h1 h2 h3 => (if_pos (And.intro h2 h3)).trans h1
    have ext : ∀ {G' H' σ s'}, Sub G G' → Wd K io (fun b => if G b = none ∧ io ≠ some b then H b else none) G' σ s' H' → Ext K G H io G' H' s'.box := fun {G' H' σ s'} e w' =>
      ⟨e, w'.sub, fun b o h1 h2 h3 => w'.loose b o (L0 b o h1 h2 h3), fun a ha => ⟨(w'.ios a ha).1, (w'.ios a ha).2.2⟩⟩
    cases e : b ⟨initE bx N.length ds, box⟩ with
    | stuck => rw [e] at hg; exact hg.elim
    | exc c' d s' =>
      rw [e] at hg
      obtain ⟨rfl, hg⟩ := hg
      exact fun σ' dx v G' H' sb' w' hx dp => ⟨rfl, hg dx v G' H' (ext sb' w') hx dp⟩
    | ok fl s' =>
      rw [e] at hg
      match fl, hg with
      | .nx, hg => exact fun σ' G' H' sb' w' => hg G' H' (ext sb' w') _ .non
      | .rt (.val d), hg => exact fun v σ' G' H' sb' w' dp => hg G' H' (ext sb' w') v dp
      | .rt (.new cc), hg =>
        intro a o σ' G' H' sb' hL w' rc
        have ho := w'.loose a o upd_same
        have hioa : io ≠ some a := fun q => by
          have z := (w'.ios a q).2.1
          rw [upd_same] at z; cases z
        have hG : G a = none := sb'.none ho.1
        exact hg G' H' (ext sb' (w'.drop hL)) a o ((if_pos (And.intro hG hioa)).symm.trans hL) ho.1 ho.2 rc hioa
      | .bk, hg => exact hg.elim
      | .ct, hg => exact hg.elim
def eCallX (c : Str) (g : Fn) (fs : List (M D)) : M R := evs fs fun ds s => match g ds [] with
  | .ok r _ => .ok r s
  | .exc c' d _ => if c' = c then .exc c' d s else .stuck
  | .stuck => .stuck
theorem se_callX {e : Expr} {es : List Expr} {fs : List (M D)} {g : Fn} {np : Nat} (ha : SAv X K (wx c C W) es fs) (hl : fs.length = np) (hp : ∀ t, (∀ z, PA (X z) es t) → ∀ z, PE (X z) e (tCallS (spX c C K false np g) (WE W) t)) : SE X K (wx c C W) e (eCallX c g fs) := by
  obtain ⟨t, pa, h⟩ := ha.ex
  refine ⟨_, hp t pa, fun io L G σ s H Q w hf => ?_⟩
  refine h (fk_fin (Q := Q)) w hf fun vs ds s' G' H' sb w' rs hds f => ?_
  refine ⟨G', none, ds, [], vs, w'.sub, rfl, rfl, rs, ?_, fun a h => (by cases h), ?_⟩
  · rw [rs.length, hds]; exact hl
  · cases eg : g ds [] with
    | stuck => rw [eg] at f; exact f.elim
    | exc c' d bs =>
      rw [eg] at f
      dsimp only at f
      split at f
      · rename_i hcc
        subst hcc
        exact ⟨rfl, fun dx v G2 H2 x hx dp => (f dx v G2 H2 x.g (w'.ext x) hx dp).2⟩
      · exact f.elim
    | ok r bs =>
      rw [eg] at f
      intro G2 H2 x
      exact ret_caller (w'.extNew x) x.g f
abbrev TrI (X : ι → Cx) (W : WX) : Type := { q : ι × List (Addr × Obj) × (Value → Shared → Prop) // Takes ((X q.1).tr q.2.1 q.2.2) W ∧ PassesOwn (model (X q.1).prog (X q.1).w) (X q.1).A (X q.1).env q.2.2 }
abbrev trX (X : ι → Cx) (W : WX) : TrI X W → Cx := fun z => (X z.1.1).tr z.1.2.1 z.1.2.2
end
structure ErrOk (P : Program) (K : PySem.W.Frag) (mg : Str → Option Value) (c : Str) (C : Addr) : Prop where
  ex : ∃ fI fd me, OwnInit P K mg C fI fd me (fld c)
  m : mg c = some (.ref C)
  xf : XfC K C
  exm : exmOne K (.ref C) (.ref C) = some true
theorem ErrOk.no {P : Program} {K : PySem.W.Frag} {mg : Str → Option Value} {c : Str} {C : Addr} (h : ErrOk P K mg c C) : findIn K (.ref C) (fld c) = some none := let ⟨_, _, _, O⟩ := h.ex; O.no
structure CalX (P : Program) (w : World) (K : PySem.W.Frag) (mg : Str → Option Value) (base : Heap) (c : Str) (C : Addr) (x : Str) (ps : List Str) (k : Nat) (g : Fn) : Prop where
  ex : ∃ f fd, FnOk P w K mg base (L2.CX P w) k f fd ps (spX c C K false ps.length g) ∧ mg x = some (.ref f) ∧ keepIn K (.ref f) = true ∧ Binds K fd ps []
section
variable {ι : Type} {X : ι → Cx} {K : PySem.W.Frag} {c : Str} {C : Addr} {W : WX}
end
end L3

namespace L3
open PySem PySem.W PySem.Calls PySem.Spec PyProof.Rows L2
structure IsC (K : PySem.W.Frag) (C : Addr) : Prop where
  cl : (clsIn K C).isSome = true
  hg : findIn K (.ref C) "__getattribute__" = some (some (.builtin "BaseException.__getattribute__"))
  hk : findIn K (.ref C) "__getattr__" = some none
  hs : subIn K (.ref C) (.type "BaseException") = some true
  ha : findIn K (.ref C) "__class__" = some (some (.builtin "object.__class__"))
  hn : specialIn K (.builtin "object.__class__") "__get__" = some (some (.builtin "getset_descriptor.__get__"))
  ht : takesIn K (.builtin "object.__class__") = some true
  hm : mroIn K C (.type "object") = some true
def rIsX (K : PySem.W.Frag) (C a dx : Addr) : List V → Hp → VK → Prop := fun xs H Q => ∃ fs b, H dx = some (.xd fs) ∧ Q (.bl b) H ∧
  ((∃ (c : V) (cv : Value), xs = [.ref a, c] ∧ (∀ u, RelV c u → u = cv) ∧ kitOne K (.ref C) cv = some b) ∨ ∃ (p : Addr) (cs : List Addr), xs = [.ref a, .ref p] ∧ H p = some (.tup (cs.map V.ref)) ∧ kitAny K (.ref C) (cs.map Value.ref) = some b)
theorem vals_refs : ∀ {cs : List Addr} {us : List Value}, Vals (cs.map V.ref) us → us = cs.map Value.ref
  | [], _, h => by cases h; rfl
  | c :: cs, _, h => by
    cases h with
    | cons h t =>
      rw [vals_refs t]
      cases h
      rfl
theorem call_isX {X : Cx} {a C dx : Addr} {oe : Obj} {pn : List (Addr × Obj)} (T : IsC X.K C) (hz : Zc (.ref C) (some dx) oe) (hf : ∃ vs, oe.data = .fields vs) : CallR (X.suite a ((a, oe) :: pn)) (.builtin "isinstance") (rIsX X.K C a dx) := by
  intro pins s σ H xs us Q I r h
  obtain ⟨fs, b, hd, q, h⟩ := h
  obtain ⟨hget, _⟩ := I.pin (a, oe) (List.mem_append.mpr (.inl List.mem_cons_self))
  obtain ⟨vs, hv⟩ := hf
  have hx : ObjOk X.prog X.w H s.heap dx (.xd fs) := I.hok dx _ hd
  obtain ⟨mA, ⟨od, es, ep, ho, hr⟩, _⟩ := hx
  have J : InstAt s.heap a oe C (some od) := ⟨hget, hz.1, by unfold notCls; rw [hv] <;> rfl, by rw [hz.2]; exact ho⟩
  have kx := kitx_exc (K := X.K) (x := a) (C := C) (ox := oe) (od := some od) T.cl T.hg T.hk T.hs T.ha T.hn T.ht T.hm
  rcases h with ⟨c, cv, rfl, hcv, e⟩ | ⟨p, cs, rfl, hp, e⟩
  · cases r with
    | cons rx rr =>
      cases rr with
      | cons rt rr =>
        cases rr
        cases rx
        have ec := hcv _ rt
        subst ec
        exact kia_one kx I.kIn J e (fun z => nomatch z) fun tk => ⟨.bl b, H, I.kept (t' := tk) fun _ _ z => z, rfl, q⟩
  · cases r with
    | cons rx rr =>
      cases rr with
      | cons rt rr =>
        cases rr
        cases rx
        cases rt
        obtain ⟨_, its, hi, ht⟩ := (show ObjOk X.prog X.w H s.heap p (.tup (cs.map V.ref)) from I.hok p _ hp)
        have ei := vals_refs hi
        subst ei
        obtain ⟨o, h1, h2, n, h3⟩ := ht
        obtain ⟨oc, od2, oda, osl⟩ := o
        dsimp only at h2 h3
        subst h2 h3
        exact kia_tup kx I.kIn J h1 e (fun z => nomatch z) fun tk => ⟨.bl b, H, I.kept (t' := tk) fun _ _ z => z, rfl, q⟩
def rIsG (K : PySem.W.Frag) (C a : Addr) (cls : Value) (d : Option Addr) : List V → Hp → VK → Prop := fun xs H Q => ∃ dx, cls = .ref C ∧ d = some dx ∧ rIsX K C a dx xs H Q
theorem call_isG {X : Cx} {a C : Addr} {cls : Value} {d : Option Addr} {oe : Obj} {pn : List (Addr × Obj)} (T : IsC X.K C) (hz : Zc cls d oe) (hf : ∃ vs, oe.data = .fields vs) : CallR (X.suite a ((a, oe) :: pn)) (.builtin "isinstance") (rIsG X.K C a cls d) := by
  intro pins s σ H xs us Q I r h
  obtain ⟨dx, rfl, rfl, h⟩ := h
  exact call_isX T hz hf pins s σ H xs us Q I r h
def tRefs : List Addr → TA
  | [] => tNil
  | c :: cs => tCons (tC (V.ref c)) (tRefs cs)
theorem tRefs_run {σ : L2.St} {H : Hp} : ∀ {cs : List Addr} {Q : List V → Hp → Prop}, Q (cs.map V.ref) H → tRefs cs σ H Q
  | [], _, h => h
  | c :: cs, _, h => tRefs_run (cs := cs) h
def sTry2 (c m : Str) (i o : Nat) (body : M Fl) : M Fl := fun s => match body s with
  | .exc c' d s' => if c' = c ∧ i < s'.env.length ∧ o < s'.env.length  then .ok (.rt (.val (.tuple [.str m, d, .bool true]))) ((s'.drop i).setv o (.bool false)) else .stuck
  | o => o
section
variable {ι : Type} {X : ι → Cx} {K : PySem.W.Frag} {c : Str} {C : Addr}
theorem ss_try2 {E : WW} {x n ot m fa : Str} {Cc : Addr} {i o j j2 x1 x2 : Nat} {cs : List Addr} {ces : List Expr} {body : List Stmt} {fb : M Fl} {np pos pos' po q0 q1 q2 q3 q4 r0 r1 r2 r3 r4 r5 r6 r7 r8 r9 r10 r11 r12 r13 r14 r15 r16 r17 : Pos}
    (hs : ∀ z, (X z).stack = (X z).env :: (X z).outer) (hf : ∀ z, (X z).env.frame = some (X z).env.locals) (hN : ∀ z, (X z).N.Nodup) (hi : ∀ z, (X z).N[i]? = some n) (hln : ∀ z, (X z).env.kindOf n = some .local)
    (ho : ∀ z, (X z).N[o]? = some ot) (hlo : ∀ z, (X z).env.scope.names.lookup ot = some .local) (hio : i ≠ o)
    (hc : ∀ z, Names (X z) x (.ref Cc)) (hK : ∀ z, (X z).K = K) (hex : exmOne K (.ref C) (.ref Cc) = some true) (hx : XfC K C) (hxi : IsC K C) (hno : findIn K (.ref C) (fld c) = some none)
    (hany : kitAny K (.ref C) (cs.map Value.ref) = some false) (hone : kitOne K (.ref C) (.ref C) = some true) (hve : kitOne K (.ref C) (.type "ValueError") = some true)
    (gI : ∀ z, Gl (X z) "isinstance") (mI : ∀ z, (X z).mg "isinstance" = none) (gC : ∀ z, Gl (X z) c) (mC : ∀ z, (X z).mg c = some (.ref C)) (gV : ∀ z, Gl (X z) "ValueError") (mV : ∀ z, (X z).mg "ValueError" = none)
    (pvn : ∀ (z : ι) (a : Addr) (oe : Obj) (pn : List (Addr × Obj)) (p : Pos), PE ((X z).suite a ((a, oe) :: pn)) (.Name n p) (tVar i)) (pvo : ∀ (z : ι) (a : Addr) (oe : Obj) (pn : List (Addr × Obj)) (p : Pos), PE ((X z).suite a ((a, oe) :: pn)) (.Name ot p) (tVar o))
    (pcs : ∀ (z : ι) (a : Addr) (oe : Obj) (pn : List (Addr × Obj)), PA ((X z).suite a ((a, oe) :: pn)) ces (tRefs cs)) (hlen : cs.length ≤ 100) (hdbc : (c == ("__debug__" : Str)) = false) (hb : ∀ W, SB (trX X W) K (wx c C W) body fb) (hfa : fa = fld c) :
    SS X K E (.Try body [.ExceptHandler (some (.Name x np)) (some n) [.Assign [.Name ot po] (.Call (.Name "isinstance" q0) [.Name n q1, .Tuple ces x1 q2] [] q3) q4,
      .Return (some (.Tuple [.Constant (.str m) j r0, .IfExp (.Call (.Name "isinstance" r1) [.Name n r2, .Name c r3] [] r4) (.Attribute (.Name n r5) fa r6) (.Constant .none j2 r7) r8,
        .BoolOp .And [.Call (.Name "isinstance" r9) [.Name n r10, .Name "ValueError" r11] [] r12, .UnaryOp .Not (.Name ot r13) r14] r15] x2 r16)) r17] pos'] [] [] pos) (sTry2 c m i o fb) := by
  subst hfa
  let ts : Addr → Value → Option Addr → TS := fun a cls d =>
    tSeq (tAsg (tCB (rIsG K C a cls d) (tCons (tVar i) (tCons (tTup (tRefs cs)) tNil))) (gName o))
      (tRet (tTup (tCons (tC (.str m)) (tCons (tIf (L2.tB (tCB (rIsG K C a cls d) (tCons (tVar i) (tCons (tC (.ref C)) tNil)))) (tXf a cls d C (fld c) (tVar i)) (tC .non))
        (tCons (tAndV (tCB (rIsG K C a cls d) (tCons (tVar i) (tCons (tC (.ty "ValueError")) tNil))) (tNotV (tVar o))) tNil)))))
  refine ⟨fun D σ H => (hb (wAs K (.ref Cc) i ts (fun _ _ _ _ => False) D)).ex.choose D σ H, fun z => ?_, fun io L G σ s H A w hf => ?_⟩
  · have q : PS (X z) (.Try body [.ExceptHandler (some (.Name x np)) (some n) [.Assign [.Name ot po] (.Call (.Name "isinstance" q0) [.Name n q1, .Tuple ces x1 q2] [] q3) q4,
      .Return (some (.Tuple [.Constant (.str m) j r0, .IfExp (.Call (.Name "isinstance" r1) [.Name n r2, .Name c r3] [] r4) (.Attribute (.Name n r5) (fld c) r6) (.Constant .none j2 r7) r8,
        .BoolOp .And [.Call (.Name "isinstance" r9) [.Name n r10, .Name "ValueError" r11] [] r12, .UnaryOp .Not (.Name ot r13) r14] r15] x2 r16)) r17] pos'] [] [] pos) _ := ps_try_as (X := X z) (i := i) (Wout := fun _ _ _ _ => False) (c := .ref Cc) (tb := fun W => (hb W).ex.choose) (ts := ts) (np := np) (pos := pos) (pos' := pos')
      (hs z) (hf z) (hN z) (hi z) (hln z) (hc z) L2.takes0 (fun W pn xe tk pw => (hb W).ex.choose_spec.1 ⟨(z, pn, xe), tk, pw⟩) (fun a oe cls d pn hz hfz => by
        have hI : CallR ((X z).suite a ((a, oe) :: pn)) (.builtin "isinstance") (rIsG K C a cls d) := by
          have h := call_isG (X := X z) (a := a) (C := C) (cls := cls) (d := d) (oe := oe) (pn := pn) ((hK z).symm ▸ hxi) hz hfz
          rw [hK z] at h
          exact h
        exact pss_cons (ps_set (hN z) (ho z) (Or.inl (hlo z)) (pe_callB hI (gI z) (mI z) (by rfl) (pa_cons (pvn z a oe pn q1) (pa_cons (pe_tup (pcs z a oe pn)) pa_nil))) (by rfl) (.inr (hlo z)))
          (pss_one (ps_ret (pe_tup (pa_cons pe_str (pa_cons (pe_ifExp (pt_val (pe_callB hI (gI z) (mI z) (by rfl) (pa_cons (pvn z a oe pn r2) (pa_cons (pe_glob (gC z) (mC z) rfl hdbc) pa_nil)))) (pe_xf ((hK z).symm ▸ hx) ((hK z).symm ▸ hno) hz hfz (pvn z a oe pn r5)) pe_non)
            (pa_cons (pe_and (pe_callB hI (gI z) (mI z) (by rfl) (pa_cons (pvn z a oe pn r10) (pa_cons (pe_bltn (gV z) (mV z) (by rfl) rfl) pa_nil))) (pe_one (pe_not (pvo z a oe pn r13)))) pa_nil)))))))
    rw [hK z] at q
    exact q
  · refine (hb _).ex.choose_spec.2 io L G σ s H A w ?_
    unfold sTry2 at hf
    cases e : fb s with
    | stuck => rw [e] at hf; exact hf.elim
    | ok fl s' =>
      rw [e] at hf
      match fl, hf with
      | .nx, hf => exact hf
      | .bk, hf => exact hf
      | .ct, hf => exact hf
      | .rt (.val d), hf => exact hf
      | .rt (.new c), hf => exact hf
    | exc c' d s' =>
      rw [e] at hf
      dsimp only at hf
      split at hf
      · rename_i hcc
        obtain ⟨hc1, hc2, hc3⟩ := id hcc
        subst hc1
        intro σ' dx v G' H' sb' w' hxd dp
        refine ⟨rfl, true, hex, fun _ a ha => ?_, fun q => by cases q⟩
        have w2 : Wd K io L G' (σ'.set i (some (V.ref a))) (s'.drop i) H' := w'.gone _ List.length_set (fun j x hj e => by rw [List.getElem?_set_ne (Ne.symm hj)]; exact e) fun j hj => List.getElem?_set_ne (Ne.symm hj)
        have hai : (σ'.set i (some (V.ref a)))[i]? = some (some (V.ref a)) := List.getElem?_set_self (by rw [w'.len]; exact hc2)
        have hl : (σ'.set i (some (V.ref a))).length = s'.env.length := by rw [List.length_set, w'.len]
        refine ⟨V.ref a, hai, ?_⟩
        refine tRefs_run ⟨by simp only [List.length_map]; exact Nat.le_trans hlen (by decide), fun p hp => ?_⟩
        have ndp : dx ≠ p := fun z => by rw [z, hp] at hxd; cases hxd
        have hxd2 : (upd H' p (.tup (cs.map V.ref))) dx = some (.xd [(fld c', v)]) := by rw [upd_ne ndp]; exact hxd
        refine ⟨dx, rfl, rfl, [(fld c', v)], false, hxd2, ?_, .inr ⟨p, cs, rfl, upd_same, hany⟩⟩
        have sb2 : Sub G' (upd G' p (.tup (cs.map V.ref))) := Sub.new (w2.sub.none hp)
        have w3 := (w2.grow (o := .tup (cs.map V.ref)) hp).setv (i := o) (v := .bl false) (d := .bool false) (.bl false)
        have hai2 : ((σ'.set i (some (V.ref a))).set o (some (V.bl false)))[i]? = some (some (V.ref a)) := by rw [List.getElem?_set_ne (Ne.symm hio)]; exact hai
        have hao2 : ((σ'.set i (some (V.ref a))).set o (some (V.bl false)))[o]? = some (some (V.bl false)) := List.getElem?_set_self (by rw [hl]; exact hc3)
        refine ⟨V.ref a, hai2, dx, rfl, rfl, _, true, hxd2, ⟨true, rfl, ?_⟩, .inl ⟨.ref C, .ref C, rfl, fun u h => h, hone⟩⟩
        refine iteT ⟨V.ref a, hai2, rfl, rfl, dx, _, v, rfl, hxd2, by simp [List.lookup], ?_⟩
        refine ⟨V.ref a, hai2, dx, rfl, rfl, _, true, hxd2, ⟨true, rfl, iteT ⟨V.bl false, hao2, false, rfl, ?_⟩⟩, .inl ⟨.ty "ValueError", .type "ValueError", rfl, fun u h => h, hve⟩⟩
        refine ⟨by show 3 ≤ sizeLine; decide, fun p2 hp2 => ?_⟩
        have sb3 : Sub (upd G' p (.tup (cs.map V.ref))) (upd (upd G' p (.tup (cs.map V.ref))) p2 (.tup [V.str m, v, V.bl true])) := Sub.new (w3.sub.none hp2)
        exact hf _ _ _ _ (sb'.trans (sb2.trans sb3)) (w3.grow hp2) (.tup (SqT.of upd_same) (.cons (.str _) (.cons (sb3.dp (sb2.dp dp)) (.cons (.bl true) .nil))))
      · exact hf.elim
end
end L3

namespace L3
open PySem PySem.W PySem.Calls PySem.Spec PyProof.Rows L2
section
variable {X : Cx} {CX : CXT} {k : Nat} {f : Addr} {fd : FuncData} {ps ks : List Str} {sp : Sp} {E : L2.St → XK} {x : Str} {p pos : Pos} {kws : List Keyword} {tk : TA} {g : List Value → List Value → List Value} {gV : List V → List V → List V}
def tCallKS (sp : Sp) (gV : List V → List V → List V) (E : L2.St → XK) (tk : TA) : TE := fun σ H Q => tk σ H fun zs H2 => sp (gV [] zs) H2 Q (E σ)
theorem pe_callKS0 (F : FnOk X.prog X.w X.K X.mg X.base CX k f fd ps sp) (hr : Room k X.A) (hg : Gl X x) (hm : X.mg x = some (.ref f)) (hk : keepIn X.K (.ref f) = true) (hb : KBinds X.K fd ps ks g gV) (hx : ∀ σ, PassesAt CX X σ (E σ))
    (hkw : PK X kws tk) (hall : (backToKw pos (keywordEach kws X.env)).all (·.1.isSome) = true := by rfl) (hks : (backToKw pos (keywordEach kws X.env)).filterMap (·.1) = ks := by rfl)
    (hdb : (x == ("__debug__" : Str)) = false := by decide) (hpl : (backToKw pos (keywordEach kws X.env)).any (·.1.isNone) = false := by rfl) :
    PE X (.Call (.Name x p) [] kws pos) (tCallKS sp gV E tk) := by
  refine ⟨fun pins s σ H Q I h => ?_⟩
  refine wpAny_Call_Name_kw (ld_glob I hg hm ?_ hdb)
  refine callWith_KW0 (h₀ := X.base) I.ok.mod.kin hk hall ?_ hpl
  refine thn (hkw.run pos pins s σ H _ I h) fun ws s2 ⟨zs, H2, I2, rz, q2⟩ => ⟨I2.kIn, ?_⟩
  rw [hks]
  have r2 := hb.rel (.nil : Vals [] []) rz
  have hl : (g [] ws).length = ps.length := r2.length.symm.trans (F.len _ _ _ _ q2)
  refine wpAny_call (codeAny_mono (F.run X.A X.stack s2 H2 ⟨[], ks.zip ws⟩ (g [] ws) (gV [] zs) Q (E σ) hr I2.env0 (hb.to s2 [] ws I2.kIn hl) r2 q2) fun r s' hq => ?_)
  match r, hq with
  | .error e, hq => exact hx σ pins H2 s2 e s' I2 hq
  | .ok (.ret u), hq => exact I2.after hq
  | .ok .next, hq => exact False.elim hq
  | .ok .brk, hq => exact False.elim hq
  | .ok .cont, hq => exact False.elim hq
end
def eCallXK (c : Str) (g : Fn) (ix : List Nat) (np nw : Nat) (ks : List (M D)) : M R := evs ks fun ws s => if (arr ix 0 nw [] [] ws).length = np then (match g (arr ix 0 nw [] [] ws) [] with
  | .ok r _ => .ok r s
  | .exc c' d _ => if c' = c then .exc c' d s else .stuck
  | .stuck => .stuck) else .stuck
section
variable {ι : Type} {X : ι → Cx} {K : PySem.W.Frag} {c : Str} {C : Addr} {W : WX}
theorem se_callXK {e : Expr} {kws : List Keyword} {ks : List (M D)} {g : Fn} {ix : List Nat} {np nw : Nat} (hk : SKw X K (wx c C W) kws ks)
    (hp : ∀ tk, (∀ z, PK (X z) kws tk) → ∀ z, PE (X z) e (tCallKS (spX c C K false np g) (arr ix 0 nw []) (WE W) tk)) : SE X K (wx c C W) e (eCallXK c g ix np nw ks) := by
  obtain ⟨tk, pk, h2⟩ := hk.ex
  refine ⟨_, hp tk pk, fun io L G σ s H Q w hf => ?_⟩
  refine h2 (fk_fin (Q := Q)) w hf fun zs ws s2 G2 H2 sb2 w2 rz f2 => ?_
  have rs : DqAll K G2 (arr ix 0 nw [] [] zs) (arr ix 0 nw [] [] ws) := arr_dq .nil .nil rz
  have f2 : Fin K (wx c C W) io L σ G2 Q (if (arr ix 0 nw [] [] ws).length = np then (match g (arr ix 0 nw [] [] ws) [] with
    | .ok r _ => .ok r s2
    | .exc c' d _ => if c' = c then .exc c' d s2 else .stuck
    | .stuck => .stuck) else .stuck) := f2
  split at f2
  · rename_i hl
    refine ⟨G2, none, _, [], _, w2.sub, rfl, rfl, rs, by rw [rs.length]; exact hl, fun a h => (by cases h), ?_⟩
    cases eg : g (arr ix 0 nw [] [] ws) [] with
    | stuck => rw [eg] at f2; exact f2.elim
    | exc c' d bs =>
      rw [eg] at f2
      dsimp only at f2
      split at f2
      · rename_i hcc
        subst hcc
        exact ⟨rfl, fun dx v G3 H3 x hx dp => (f2 dx v G3 H3 x.g (w2.ext x) hx dp).2⟩
      · exact f2.elim
    | ok r bs =>
      rw [eg] at f2
      intro G3 H3 x
      exact ret_caller (w2.extNew x) x.g f2
  · exact f2.elim
end
structure CalXK (P : Program) (w : World) (K : PySem.W.Frag) (mg : Str → Option Value) (base : Heap) (c : Str) (C : Addr) (x : Str) (ps ks : List Str) (k : Nat) (g : Fn) (ix : List Nat) (nw : Nat) : Prop where
  ex : ∃ f fd, FnOk P w K mg base (L2.CX P w) k f fd ps (spX c C K false ps.length g) ∧ mg x = some (.ref f) ∧ keepIn K (.ref f) = true ∧ KBinds K fd ps ks (arr ix 0 nw []) (arr ix 0 nw [])
structure CatchOk (K : PySem.W.Frag) (mg : Str → Option Value) (C CO : Addr) (co : Str) (nms : List Str) (cs : List Addr) : Prop where
  mo : mg co = some (.ref CO)
  exm : exmOne K (.ref C) (.ref CO) = some true
  ms : ∀ p ∈ nms.zip cs, mg p.1 = some (.ref p.2)
  any : kitAny K (.ref C) (cs.map Value.ref) = some false
  isc : IsC K C
  one : kitOne K (.ref C) (.ref C) = some true
  ve : kitOne K (.ref C) (.type "ValueError") = some true
end L3

namespace L3
open PySem PySem.W PySem.Calls PySem.Spec PyProof.Rows L2
def diffI (ns : List Int) : Nat := (firstMet (fun i => ns.getD i 0) ns.length).length
theorem ints_are : ∀ {ns : List Int} {us : List Value}, Vals (ns.map V.int) us → IntsAre us ns
  | [], _, h => by cases h; exact .nil
  | n :: ns, _, h => by
    cases h with
    | cons r t =>
      obtain ⟨k, e⟩ := r
      subst e
      exact .cons n k (ints_are t)
def tDiff (K : PySem.W.Frag) (ta : TE) : TE := fun σ H Q => ta σ H fun x Ha => ∃ (l : Addr) (ns : List Int), x = .ref l ∧ SqL K Ha l (ns.map V.int) ∧ ns.length ≤ 4000 ∧ Q (.int (diffI ns : Nat)) Ha
theorem pe_diff {X : Cx} {a : Expr} {ta : TE} {p p2 q pos : Pos} (hg : Gl X "len") (hm : X.mg "len" = none) (hg2 : Gl X "set") (hm2 : X.mg "set" = none) (hc : X.calm = true) (ha : PE X a ta)
    (na : starEach [a] X.env = (false, eval a X.env) :: starEach [] X.env := by rfl) : PE X (.Call (.Name "len" p) [.Call (.Name "set" p2) [a] [] q] [] pos) (tDiff X.K ta) := by
  refine ⟨fun pins s σ H Q I w => ?_⟩
  refine Call_ (ld_blt I hg hm PySem.boot_len (callWith_builtin1 (args_cons ?_ rfl) rfl rfl))
  refine Call_ (ld_blt I hg2 hm2 PyProof.Rows.boot_set (callWith_type1 (args_cons (thn (ha.run pins s σ H _ I w) fun u s1 hh => args_nil ?_) na) na rfl))
  obtain ⟨y, Ha, J, ry, l, ns, ey, hq, hl, w⟩ := hh
  subst ey
  cases ry
  obtain ⟨its, r, pl, _⟩ := J.list hq
  have e : its.toArray.size = ns.length := by rw [List.size_toArray, ← r.length, List.length_map]
  refine call_set_list (J.ok.hd hc) pl.isList (ns := ns) (by simpa using ints_are r) (by rw [e]; unfold scanBound; omega) fun h' tk hS hk => args_nil ?_
  rw [e] at hS
  have hle := firstMet_length_le (fun i => ns.getD i 0) ns.length
  obtain ⟨o, es, ep, t, ho, hex, hd, _, _, _, hf, hn⟩ := hS
  have J2 : Inv X pins σ Ha { s1 with heap := h', toks := tk } := J.kept fun b u z => hk b u (Heap.lt_size z) z
  exact call_len_set ho hex hd hf (by rw [hn] <;> omega) ⟨.int (diffI ns : Nat), Ha, J2.tok _, ⟨_, by rw [hn]; rfl⟩, w⟩
def eDiff (o : Opd) : M R := opS o fun h => rsv h fun x => match x with
  | .list ds => (match intsOf ds with
    | some ns => if ns.length ≤ 4000 then mret (.val (.int (diffI ns : Nat))) else mstuck
    | none => mstuck)
  | _ => mstuck
section
variable {ι : Type} {X : ι → Cx} {K : PySem.W.Frag} {E : WW} {e : Expr}
theorem se_diff {a : Expr} {o : Opd} (ha : SO X K E a o) (hp : ∀ t, (∀ z, PE (X z) a t) → ∀ z, PE (X z) e (tDiff K t)) : SE X K E e (eDiff o) := by
  obtain ⟨t, pe, h⟩ := ha.ex
  refine ⟨_, hp t pe, fun io L G σ s H Q w hf => ?_⟩
  refine h (fk_fin (Q := Q)) w hf fun v h s1 G1 H1 sb1 w1 hr f1 => ?_
  obtain ⟨x, rx, f2⟩ := hr.use fk_fin w1 f1
  match x, rx, f2 with
  | .list ds, rx, f2 =>
    obtain ⟨l, xs, rfl, hl, hd⟩ := rx.list w1.sub
    cases ei : intsOf ds with
    | none => simp only [ei] at f2; exact f2.elim
    | some ns =>
      simp only [ei] at f2
      by_cases hn : ns.length ≤ 4000
      · rw [if_pos hn] at f2
        have hx := (intsOf_dq ei hd).1
        subst hx
        exact ⟨l, ns, rfl, SqL.of hl, hn, f2 _ G1 H1 (Sub.refl _) w1 (.int _)⟩
      · rw [if_neg hn] at f2
        exact f2.elim
end
theorem first_nodup (val : Nat → Int) : ∀ i, (firstMet val i).Nodup
  | 0 => by rw [firstMet_zero]; exact List.nodup_nil
  | i + 1 => by
    rw [firstMet_succ]
    unfold step_dedup
    by_cases h : (firstMet val i).any (· == val i) = true
    · rw [if_pos h]; exact first_nodup val i
    · rw [if_neg h]
      rw [List.nodup_append]
      refine ⟨first_nodup val i, by simp, fun x hx y hy e => ?_⟩
      rw [List.mem_singleton] at hy
      exact h (List.any_eq_true.mpr ⟨x, hx, by rw [e, hy]; simp⟩)
theorem range_get (ns : List Int) : (List.range ns.length).map (fun i => ns.getD i 0) = ns := by
  refine List.ext_getElem (by simp) fun i h1 h2 => ?_
  simp at h1
  simp [h1]
theorem mem_first {ns : List Int} {x : Int} : x ∈ firstMet (fun i => ns.getD i 0) ns.length ↔ x ∈ ns := by
  have e := firstMet_any (fun i => ns.getD i 0) ns.length x
  rw [range_get] at e
  have h1 : ∀ l : List Int, (l.any (· == x) = true) ↔ x ∈ l := fun l => by simp [List.any_eq_true]
  rw [← h1, e, h1]
end L3

namespace L3
open PySem PySem.W PySem.Spec PyProof.Rows L2

def Wp {α : Type} (o : Out α) (Q : α → S → Prop) : Prop := match o with
  | .ok a s => Q a s
  | _ => False
def WpF (r : Res) (Q : R → List D → Prop) : Prop := match r with
  | .ok a b => Q a b
  | _ => False
theorem Wp.mono {α : Type} {o : Out α} {Q Q' : α → S → Prop} (h : Wp o Q) (hq : ∀ a s, Q a s → Q' a s) : Wp o Q' := by
  cases o with
  | ok a s => exact hq a s h
  | stuck => exact h
  | exc _ _ _ => exact h
theorem WpF.mono {o : Res} {Q Q' : R → List D → Prop} (h : WpF o Q) (hq : ∀ a s, Q a s → Q' a s) : WpF o Q' := by
  cases o with
  | ok a s => exact hq a s h
  | stuck => exact h
  | exc _ _ _ => exact h
theorem WpF.eq {o : Res} {r : R} {b : List D} (h : WpF o fun x y => x = r ∧ y = b) : o = .ok r b := by
  cases o with
  | ok a s => obtain ⟨rfl, rfl⟩ := h; rfl
  | stuck => exact h.elim
  | exc _ _ _ => exact h.elim
section
variable {α β : Type} {Q : α → S → Prop} {s : S}
def asV (Q : D → S → Prop) : R → S → Prop := fun r s => match r with
  | .val d => Q d s
  | .new (.lst ds) => Q (.list ds) s
  | .new (.ts ks) => Q (tsD ks) s
  | .new (.dct _) => False
@[simp ↓] theorem asV_val {Q : D → S → Prop} {d : D} : asV Q (.val d) s = Q d s := rfl
@[simp ↓] theorem asV_lst {Q : D → S → Prop} {ds : List D} : asV Q (.new (.lst ds)) s = Q (.list ds) s := rfl
@[simp ↓] theorem asV_ts {Q : D → S → Prop} {ks : List (List Int)} : asV Q (.new (.ts ks)) s = Q (tsD ks) s := rfl
def goS (g : M Fl) (Q : Fl → S → Prop) : Fl → S → Prop := fun fl s => match fl with
  | .nx => Wp (g s) Q
  | .rt r => Q (.rt r) s
  | .bk => Q .bk s
  | .ct => Q .ct s
@[simp ↓] theorem goS_nx {g : M Fl} {Q : Fl → S → Prop} : goS g Q .nx s = Wp (g s) Q := rfl
@[simp ↓] theorem goS_rt {g : M Fl} {Q : Fl → S → Prop} {r : R} : goS g Q (.rt r) s = Q (.rt r) s := rfl
@[simp ↓] theorem goS_bk {g : M Fl} {Q : Fl → S → Prop} : goS g Q .bk s = Q .bk s := rfl
@[simp ↓] theorem goS_ct {g : M Fl} {Q : Fl → S → Prop} : goS g Q .ct s = Q .ct s := rfl
@[simp ↓] theorem wp_ok {a : α} : Wp (.ok a s) Q = Q a s := rfl
@[simp ↓] theorem wp_mret {a : α} : Wp (mret a s) Q = Q a s := rfl
@[simp ↓] theorem wp_mstuck : Wp ((mstuck : M α) s) Q = False := rfl
@[simp ↓] theorem wp_stuck : Wp (.stuck : Out α) Q = False := rfl
@[simp ↓] theorem wp_mbind {m : M α} {f : α → M β} {Q : β → S → Prop} : Wp (mbind m f s) Q = Wp (m s) fun a s' => Wp (f a s') Q := by
  unfold mbind
  cases m s <;> rfl
@[simp ↓] theorem wp_frz {f : M R} {Q : D → S → Prop} : Wp (frz f s) Q = Wp (f s) (asV Q) := by
  unfold frz mbind
  cases e : f s with
  | ok r s' => match r with
    | .val d => rfl
    | .new (.lst ds) => rfl
    | .new (.ts ks) => rfl
    | .new (.dct _) => rfl
  | stuck => rfl
  | exc _ _ _ => rfl
@[simp ↓] theorem wp_val {f : M D} {Q : R → S → Prop} : Wp (val f s) Q = Wp (f s) fun d s' => Q (.val d) s' := wp_mbind
@[simp ↓] theorem wp_sNil {Q : Fl → S → Prop} : Wp (sNil s) Q = Q .nx s := rfl
@[simp ↓] theorem wp_sSeq {f g : M Fl} {Q : Fl → S → Prop} : Wp (sSeq f g s) Q = Wp (f s) (goS g Q) := by
  unfold sSeq mbind
  cases e : f s with
  | ok r s' => match r with
    | .nx => rfl
    | .bk => rfl
    | .ct => rfl
    | .rt _ => rfl
  | stuck => rfl
  | exc _ _ _ => rfl
@[simp ↓] theorem wp_sSet {i : Nat} {f : M R} {Q : Fl → S → Prop} : Wp (sSet i f s) Q = Wp (f s) fun r s' => Q .nx (s'.put i r) := wp_mbind
@[simp ↓] theorem wp_sRet {f : M R} {Q : Fl → S → Prop} : Wp (sRet f s) Q = Wp (f s) fun r s' => Q (.rt r) s' := wp_mbind
@[simp ↓] theorem wp_sRetN {Q : Fl → S → Prop} : Wp (sRetN s) Q = Q (.rt (.val .none)) s := rfl
@[simp ↓] theorem wp_sDrop {f : M R} {Q : Fl → S → Prop} : Wp (sDrop f s) Q = Wp (f s) fun r s' => Q .nx s' := wp_mbind
theorem wp_if {c : M Bool} {a b : M α} : Wp (mbind c (fun x => if x then a else b) s) Q = Wp (c s) fun x s' => (x = true → Wp (a s') Q) ∧ (x = false → Wp (b s') Q) := by
  rw [wp_mbind]
  congr 1
  funext x s'
  cases x <;> simp
@[simp ↓] theorem wp_sIf {c : M Bool} {a b : M Fl} {Q : Fl → S → Prop} : Wp (sIf c a b s) Q = Wp (c s) fun x s' => (x = true → Wp (a s') Q) ∧ (x = false → Wp (b s') Q) := wp_if
@[simp ↓] theorem wp_eIf {c : M Bool} {a b : M α} : Wp (eIf c a b s) Q = Wp (c s) fun x s' => (x = true → Wp (a s') Q) ∧ (x = false → Wp (b s') Q) := wp_if
@[simp ↓] theorem wp_tAnd {a b : M Bool} {Q : Bool → S → Prop} : Wp (tAnd a b s) Q = Wp (a s) fun x s' => (x = true → Wp (b s') Q) ∧ (x = false → Q false s') := wp_if
@[simp ↓] theorem wp_tOr {a b : M Bool} {Q : Bool → S → Prop} : Wp (tOr a b s) Q = Wp (a s) fun x s' => (x = true → Q true s') ∧ (x = false → Wp (b s') Q) := wp_if
@[simp ↓] theorem wp_tNot {a : M Bool} {Q : Bool → S → Prop} : Wp (tNot a s) Q = Wp (a s) fun x s' => Q (!x) s' := wp_mbind
def asB (Q : Bool → S → Prop) : D → S → Prop := fun d s => match d with
  | .bool b => Q b s
  | _ => False
@[simp ↓] theorem asB_bool {Q : Bool → S → Prop} {b : Bool} : asB Q (.bool b) s = Q b s := rfl
@[simp ↓] theorem wp_tB {f : M D} {Q : Bool → S → Prop} : Wp (tB f s) Q = Wp (f s) (asB Q) := by
  unfold tB mbind
  cases e : f s with
  | ok r s' => cases r <;> rfl
  | stuck => rfl
  | exc _ _ _ => rfl
@[simp ↓] theorem wp_ofB {f : M Bool} {Q : R → S → Prop} : Wp (ofB f s) Q = Wp (f s) fun b s' => Q (.val (.bool b)) s' := wp_mbind
@[simp ↓] theorem wp_vAnd {a : M D} {b : M R} {Q : R → S → Prop} : Wp (vAnd a b s) Q = Wp (tB a s) fun x s' => (x = true → Wp (b s') Q) ∧ (x = false → Q (.val (.bool false)) s') := wp_if
@[simp ↓] theorem wp_vOr {a : M D} {b : M R} {Q : R → S → Prop} : Wp (vOr a b s) Q = Wp (tB a s) fun x s' => (x = true → Q (.val (.bool true)) s') ∧ (x = false → Wp (b s') Q) := wp_if
@[simp ↓] theorem wp_vNot {a : M D} {Q : R → S → Prop} : Wp (vNot a s) Q = Wp (tB a s) fun x s' => Q (.val (.bool !x)) s' := wp_mbind
@[simp ↓] theorem wp_eC {d : D} {Q : R → S → Prop} : Wp (eC d s) Q = Q (.val d) s := rfl
@[simp ↓] theorem wp_eNewD {Q : R → S → Prop} : Wp (eNewD s) Q = Q (.new (.dct [])) s := rfl

variable {env : List (Option Sl)} {box : List D}
def topV (i j : Nat) (env : List (Option Sl)) (box : List D) (Q : R → S → Prop) : Option (Option Sl) → Prop
  | some (some (Sl.stk ((ds, some l) :: rest))) => Q (.val (.list l)) ⟨((clrE env).set j (some (Sl.stk ((ds, none) :: rest)))).set i (some (Sl.val (.list l))), box⟩
  | _ => False
@[simp ↓] theorem topV_stk {i j : Nat} {Q : R → S → Prop} {ds l : List D} {rest : List Row} : topV i j env box Q (some (some (Sl.stk ((ds, some l) :: rest)))) = Q (.val (.list l)) ⟨((clrE env).set j (some (Sl.stk ((ds, none) :: rest)))).set i (some (Sl.val (.list l))), box⟩ := rfl
def varV (i : Nat) (env : List (Option Sl)) (box : List D) (Q : R → S → Prop) : Option (Option Sl) → Prop
  | some (some (.val d)) => Q (.val d) ⟨env, box⟩
  | some (some (.own (.lst ds))) => Q (.val (.list ds)) ⟨env.set i (some (.val (.list ds))), box⟩
  | some (some (.own (.ts ks))) => Q (.val (tsD ks)) ⟨env.set i (some (.val (tsD ks))), box⟩
  | some (some (.top j)) => topV i j env box Q env[j]?
  | _ => False
def movV (i : Nat) (env : List (Option Sl)) (box : List D) (Q : R → S → Prop) : Option (Option Sl) → Prop
  | some (some (.val d)) => Q (.val d) ⟨env, box⟩
  | some (some (.own c)) => Q (.new c) ⟨env.set i none, box⟩
  | _ => False
@[simp ↓] theorem varV_val {i : Nat} {Q : R → S → Prop} {d : D} : varV i env box Q (some (some (.val d))) = Q (.val d) ⟨env, box⟩ := rfl
@[simp ↓] theorem varV_own {i : Nat} {Q : R → S → Prop} {ds : List D} : varV i env box Q (some (some (.own (.lst ds)))) = Q (.val (.list ds)) ⟨env.set i (some (.val (.list ds))), box⟩ := rfl
@[simp ↓] theorem varV_ts {i : Nat} {Q : R → S → Prop} {ks : List (List Int)} : varV i env box Q (some (some (.own (.ts ks)))) = Q (.val (tsD ks)) ⟨env.set i (some (.val (tsD ks))), box⟩ := rfl
@[simp ↓] theorem varV_top {i j : Nat} {Q : R → S → Prop} : varV i env box Q (some (some (.top j))) = topV i j env box Q env[j]? := rfl
@[simp] theorem clrE_nil : clrE [] = [] := rfl
@[simp] theorem clrE_none {e : List (Option Sl)} : clrE (none :: e) = none :: clrE e := rfl
@[simp] theorem clrE_val {d : D} {e : List (Option Sl)} : clrE (some (.val d) :: e) = some (.val d) :: clrE e := rfl
@[simp] theorem clrE_own {c : C} {e : List (Option Sl)} : clrE (some (.own c) :: e) = some (.own c) :: clrE e := rfl
@[simp] theorem clrE_io {e : List (Option Sl)} : clrE (some .io :: e) = some .io :: clrE e := rfl
@[simp] theorem clrE_stk {r : List Row} {e : List (Option Sl)} : clrE (some (.stk r) :: e) = some (.stk r) :: clrE e := rfl
@[simp] theorem clrE_top {j : Nat} {e : List (Option Sl)} : clrE (some (.top j) :: e) = none :: clrE e := rfl
@[simp ↓] theorem movV_val {i : Nat} {Q : R → S → Prop} {d : D} : movV i env box Q (some (some (.val d))) = Q (.val d) ⟨env, box⟩ := rfl
@[simp ↓] theorem movV_own {i : Nat} {Q : R → S → Prop} {c : C} : movV i env box Q (some (some (.own c))) = Q (.new c) ⟨env.set i none, box⟩ := rfl
@[simp] theorem wp_eVar {i : Nat} {Q : R → S → Prop} : Wp (eVar i ⟨env, box⟩) Q = varV i env box Q env[i]? := by
  unfold eVar
  dsimp only
  generalize env[i]? = o
  match o with
  | none => rfl
  | some none => rfl
  | some (some .io) => rfl
  | some (some (.val d)) => rfl
  | some (some (.own (.lst _))) => rfl
  | some (some (.own (.dct _))) => rfl
  | some (some (.own (.ts _))) => rfl
  | some (some (.stk _)) => rfl
  | some (some (.top j)) =>
    dsimp only [varV]
    generalize env[j]? = u
    match u with
    | none => rfl
    | some none => rfl
    | some (some .io) => rfl
    | some (some (.val d)) => rfl
    | some (some (.own _)) => rfl
    | some (some (.top j)) => rfl
    | some (some (.stk [])) => rfl
    | some (some (.stk ((ds, none) :: rest))) => rfl
    | some (some (.stk ((ds, some l) :: rest))) => rfl
@[simp] theorem wp_eMove {i : Nat} {Q : R → S → Prop} : Wp (eMove i ⟨env, box⟩) Q = movV i env box Q env[i]? := by
  unfold eMove
  dsimp only
  generalize env[i]? = o
  match o with
  | none => rfl
  | some none => rfl
  | some (some .io) => rfl
  | some (some (.val d)) => rfl
  | some (some (.own _)) => rfl
  | some (some (.stk _)) => rfl
  | some (some (.top _)) => rfl
@[simp] theorem setv_mk {i : Nat} {d : D} : S.setv ⟨env, box⟩ i d = ⟨env.set i (some (.val d)), box⟩ := rfl
@[simp] theorem seto_mk {i : Nat} {c : C} : S.seto ⟨env, box⟩ i c = ⟨env.set i (some (.own c)), box⟩ := rfl
@[simp] theorem drop_mk {i : Nat} : S.drop ⟨env, box⟩ i = ⟨env.set i none, box⟩ := rfl
@[simp] theorem put_val {i : Nat} {d : D} : S.put ⟨env, box⟩ i (.val d) = ⟨env.set i (some (.val d)), box⟩ := rfl
@[simp] theorem put_new {i : Nat} {c : C} : S.put ⟨env, box⟩ i (.new c) = ⟨env.set i (some (.own c)), box⟩ := rfl
def topP : Option (Option Sl) → Option D
  | some (some (Sl.stk ((_, some l) :: _))) => some (.list l)
  | _ => none
@[simp] theorem topP_stk {ds l : List D} {r : List Row} : topP (some (some (.stk ((ds, some l) :: r)))) = some (.list l) := rfl
def slP (env : List (Option Sl)) (box : List D) : Option (Option Sl) → Option D
  | some (some (Sl.val d)) => some d
  | some (some (Sl.own (C.lst ds))) => some (.list ds)
  | some (some Sl.io) => some (.list box)
  | some (some (Sl.top j)) => topP env[j]?
  | _ => none
@[simp] theorem slP_val {d : D} : slP env box (some (some (.val d))) = some d := rfl
@[simp] theorem slP_own {ds : List D} : slP env box (some (some (.own (.lst ds)))) = some (.list ds) := rfl
@[simp] theorem slP_io : slP env box (some (some .io)) = some (.list box) := rfl
@[simp] theorem slP_top {j : Nat} : slP env box (some (some (.top j))) = topP env[j]? := rfl
@[simp] theorem peek_mk {i : Nat} : S.peek ⟨env, box⟩ i = slP env box env[i]? := by
  unfold S.peek
  dsimp only
  generalize env[i]? = o
  match o with
  | none => rfl
  | some none => rfl
  | some (some .io) => rfl
  | some (some (.val d)) => rfl
  | some (some (.own (.lst _))) => rfl
  | some (some (.own (.dct _))) => rfl
  | some (some (.own (.ts _))) => rfl
  | some (some (.stk _)) => rfl
  | some (some (.top j)) =>
    dsimp only [slP]
    generalize env[j]? = u
    match u with
    | none => rfl
    | some none => rfl
    | some (some .io) => rfl
    | some (some (.val d)) => rfl
    | some (some (.own _)) => rfl
    | some (some (.top j)) => rfl
    | some (some (.stk [])) => rfl
    | some (some (.stk ((ds, none) :: rest))) => rfl
    | some (some (.stk ((ds, some l) :: rest))) => rfl
def slC (box : List D) : Option (Option Sl) → Option (List D)
  | some (some (Sl.own (C.lst ds))) => some ds
  | some (some Sl.io) => some box
  | _ => none
@[simp] theorem slC_own {ds : List D} : slC box (some (some (.own (.lst ds)))) = some ds := rfl
@[simp] theorem slC_io : slC box (some (some .io)) = some box := rfl
@[simp] theorem cell_mk {i : Nat} : S.cell ⟨env, box⟩ i = slC box env[i]? := rfl
def putE (env : List (Option Sl)) (box : List D) (i : Nat) (ds : List D) : Option (Option Sl) → S
  | some (some Sl.io) => ⟨env, ds⟩
  | _ => ⟨env.set i (some (.own (.lst ds))), box⟩
@[simp] theorem putE_own {i : Nat} {ds : List D} {c : C} : putE env box i ds (some (some (.own c))) = ⟨env.set i (some (.own (.lst ds))), box⟩ := rfl
@[simp] theorem putE_io {i : Nat} {ds : List D} : putE env box i ds (some (some .io)) = ⟨env, ds⟩ := rfl
@[simp] theorem putc_mk {i : Nat} {ds : List D} : S.putc ⟨env, box⟩ i ds = putE env box i ds env[i]? := by
  unfold S.putc putE
  show (match env[i]? with | some (some Sl.io) => _ | _ => _) = _
  match env[i]? with
  | none => rfl
  | some none => rfl
  | some (some .io) => rfl
  | some (some (.val d)) => rfl
  | some (some (.own _)) => rfl
  | some (some (.stk _)) => rfl
  | some (some (.top _)) => rfl
def slD : Option (Option Sl) → Option (List (Key × D))
  | some (some (Sl.own (C.dct kds))) => some kds
  | _ => none
@[simp] theorem slD_own {kds : List (Key × D)} : slD (some (some (.own (.dct kds)))) = some kds := rfl
@[simp] theorem dct_mk {i : Nat} : S.dct ⟨env, box⟩ i = slD env[i]? := rfl

def opV (o : Option D) (P : D → Prop) : Prop := match o with
  | some x => P x
  | none => False
@[simp ↓] theorem opV_some {P : D → Prop} {x : D} : opV (some x) P = P x := rfl
@[simp ↓] theorem wp_rsv_var {i : Nat} {k : D → M α} : Wp (rsv (.var i) k s) Q = opV (s.peek i) fun x => Wp (k x s) Q := by
  show Wp (match s.peek i with | some x => k x s | none => .stuck) Q = _
  cases s.peek i <;> rfl
@[simp ↓] theorem wp_rsv_d {x : D} {k : D → M α} : Wp (rsv (.d x) k s) Q = Wp (k x s) Q := rfl
@[simp ↓] theorem wp_opS_var {i : Nat} {k : Hd → M α} : Wp (opS (.var i) k s) Q = opV (s.peek i) fun _ => Wp (k (.var i) s) Q := by
  show Wp (match s.peek i with | some _ => k (.var i) s | none => .stuck) Q = _
  cases s.peek i <;> rfl
@[simp ↓] theorem wp_opS_ex {f : M D} {k : Hd → M α} : Wp (opS (.ex f) k s) Q = Wp (f s) fun x s' => Wp (k (.d x) s') Q := wp_mbind
@[simp ↓] theorem wp_ops_nil {k : List D → M α} : Wp (ops [] k s) Q = Wp (k [] s) Q := rfl
@[simp ↓] theorem wp_ops_cons {o : Opd} {os : List Opd} {k : List D → M α} : Wp (ops (o :: os) k s) Q = Wp (opS o (fun h => ops os fun ds => rsv h fun x => k (x :: ds)) s) Q := rfl
@[simp ↓] theorem wp_evs_nil {k : List D → M α} : Wp (evs [] k s) Q = Wp (k [] s) Q := rfl
@[simp ↓] theorem wp_evs_cons {f : M D} {fs : List (M D)} {k : List D → M α} : Wp (evs (f :: fs) k s) Q = Wp (f s) fun x s' => Wp (evs fs (fun xs => k (x :: xs)) s') Q := wp_mbind
@[simp ↓] theorem wp_evr_nil {k : List R → M α} : Wp (evr [] k s) Q = Wp (k [] s) Q := rfl
@[simp ↓] theorem wp_evr_cons {f : M R} {fs : List (M R)} {k : List R → M α} : Wp (evr (f :: fs) k s) Q = Wp (f s) fun x s' => Wp (evr fs (fun xs => k (x :: xs)) s') Q := wp_mbind
def poV (o : Option PO) (P : R → Prop) : Prop := match o with
  | some x => P x.r
  | none => False
@[simp ↓] theorem poV_some {P : R → Prop} {x : PO} : poV (some x) P = P x.r := rfl
@[simp ↓] theorem wp_mpo {o : Option PO} {Q : R → S → Prop} : Wp (mpo o s) Q = poV o fun r => Q r s := by cases o <;> rfl
@[simp] theorem r_d {x : D} : PO.r (.d x) = .val x := rfl
@[simp] theorem r_l {x : List D} : PO.r (.l x) = .new (.lst x) := rfl
@[simp] theorem r_t {x : List D} : PO.r (.t x) = .val (.tuple x) := rfl
@[simp ↓] theorem wp_eP {os : List Opd} {p : List D → Option PO} {Q : R → S → Prop} : Wp (eP os p s) Q = Wp (ops os (fun ds => mpo (p ds)) s) Q := rfl
@[simp ↓] theorem wp_e2 {a b : Opd} {p : D → D → Option PO} {Q : R → S → Prop} : Wp (e2 a b p s) Q = Wp (opS a (fun h => opS b fun g => rsv h fun x => rsv g fun y => mpo (p x y)) s) Q := rfl
@[simp ↓] theorem wp_e1 {a : Opd} {p : D → Option PO} {Q : R → S → Prop} : Wp (e1 a p s) Q = Wp (opS a (fun h => rsv h fun x => mpo (p x)) s) Q := rfl
def boV (o : Option Bool) (P : Bool → Prop) : Prop := match o with
  | some x => P x
  | none => False
@[simp ↓] theorem boV_some {P : Bool → Prop} {x : Bool} : boV (some x) P = P x := rfl
@[simp ↓] theorem wp_t2 {a b : Opd} {p : D → D → Option Bool} {Q : Bool → S → Prop} : Wp (t2 a b p s) Q = Wp (opS a (fun h => opS b fun g => rsv h fun x => rsv g fun y => match p x y with | some c => mret c | none => mstuck) s) Q := rfl
@[simp ↓] theorem wp_bo {o : Option Bool} {Q : Bool → S → Prop} : Wp ((match o with | some c => mret c | none => mstuck : M Bool) s) Q = boV o fun b => Q b s := by cases o <;> rfl
@[simp ↓] theorem wp_eTup {fs : List (M D)} {Q : R → S → Prop} : Wp (eTup fs s) Q = Wp (evs fs (fun ds => if ds.length ≤ sizeLine then mret (.val (.tuple ds)) else mstuck) s) Q := rfl
@[simp ↓] theorem wp_eLst {fs : List (M D)} {Q : R → S → Prop} : Wp (eLst fs s) Q = Wp (evs fs (fun ds => if ds.length ≤ sizeLine then mret (.new (.lst ds)) else mstuck) s) Q := rfl
@[simp ↓] theorem wp_iteM {c : Prop} [Decidable c] {a b : M α} : Wp ((if c then a else b) s) Q = if c then Wp (a s) Q else Wp (b s) Q := by split <;> rfl
end
def fnE (Q : R → List D → Prop) : Fl → S → Prop := fun fl s => match fl with
  | .rt r => Q r s.box
  | .nx => Q (.val .none) s.box
  | _ => False
@[simp ↓] theorem fnE_rt {Q : R → List D → Prop} {r : R} {s : S} : fnE Q (.rt r) s = Q r s.box := rfl
@[simp ↓] theorem fnE_nx {Q : R → List D → Prop} {s : S} : fnE Q .nx s = Q (.val .none) s.box := rfl
theorem wpF_runF {bx : Bool} {n : Nat} {b : M Fl} {ds box : List D} {Q : R → List D → Prop} : WpF (runF bx n b ds box) Q = Wp (b ⟨initE bx n ds, box⟩) (fnE Q) := by
  unfold runF
  cases b ⟨initE bx n ds, box⟩ with
  | stuck => rfl
  | exc _ _ _ => rfl
  | ok fl s => cases fl <;> rfl
@[simp] theorem initE_t {n : Nat} {ds : List D} : initE true n ds = some Sl.io :: ((ds.map fun d => some (Sl.val d)) ++ List.replicate (n - (ds.length + 1)) none) := rfl
@[simp] theorem initE_f {n : Nat} {ds : List D} : initE false n ds = (ds.map fun d => some (Sl.val d)) ++ List.replicate (n - ds.length) none := rfl
end L3

namespace L3
open PySem PySem.W PySem.Spec PyProof.Rows L2
section
variable {α β : Type} {Q : α → S → Prop} {s : S} {env : List (Option Sl)} {box : List D}
@[simp ↓] theorem wpF_ok {r : R} {b : List D} {Q : R → List D → Prop} : WpF (.ok r b) Q = Q r b := rfl
def kC (g : Fn) (dd : List D) (ds : List D) : M R := fun s => match g (ds ++ dd) [] with
  | .ok r _ => .ok r s
  | _ => .stuck
@[simp ↓] theorem wp_eCall {g : Fn} {fs : List (M D)} {dd : List D} {Q : R → S → Prop} : Wp (eCall g fs dd s) Q = Wp (evs fs (kC g dd) s) Q := rfl
@[simp ↓] theorem wp_kC {g : Fn} {dd ds : List D} {Q : R → S → Prop} : Wp (kC g dd ds s) Q = WpF (g (ds ++ dd) []) fun r _ => Q r s := by
  unfold kC
  cases g (ds ++ dd) [] <;> rfl
def cV {γ : Type} (o : Option γ) (P : γ → Prop) : Prop := match o with
  | some ds => P ds
  | none => False
@[simp ↓] theorem cV_some {γ : Type} {P : γ → Prop} {ds : γ} : cV (some ds) P = P ds := rfl
@[simp ↓] theorem cV_none {γ : Type} {P : γ → Prop} : cV (none : Option γ) P = False := rfl
@[simp] theorem cV_ite {γ : Type} {c : Prop} [Decidable c] {x : γ} {P : γ → Prop} : cV (if c then some x else none) P = (c ∧ P x) := by by_cases h : c <;> simp [h]
@[simp] theorem cV_map {γ δ : Type} {f : γ → δ} {o : Option γ} {P : δ → Prop} : cV (o.map f) P = cV o fun x => P (f x) := by cases o <;> rfl
@[simp] theorem poV_ite {c : Prop} [Decidable c] {x : PO} {P : R → Prop} : poV (if c then some x else none) P = (c ∧ P x.r) := by
  by_cases h : c <;> simp [h, poV]
@[simp] theorem poV_map {γ : Type} {f : γ → PO} {o : Option γ} {P : R → Prop} : poV (o.map f) P = cV o fun x => P (f x).r := by cases o <;> rfl
@[simp] theorem boV_ite {c : Prop} [Decidable c] {x : Bool} {P : Bool → Prop} : boV (if c then some x else none) P = (c ∧ P x) := by
  by_cases h : c <;> simp [h, boV]
@[simp] theorem boV_map {f : Bool → Bool} {o : Option Bool} {P : Bool → Prop} : boV (o.map f) P = boV o fun x => P (f x) := by cases o <;> rfl
@[simp] theorem opV_none {P : D → Prop} : opV none P = False := rfl
def kCB (g : Fn) (i : Nat) (dd : List D) (ds : List D) : M R := fun s' => match s'.cell i with
  | none => .stuck
  | some bs => match g (ds ++ dd) bs with
    | .ok r bs' => .ok r (s'.putc i bs')
    | _ => .stuck
@[simp ↓] theorem wp_eCallB {g : Fn} {i : Nat} {fs : List (M D)} {dd : List D} {Q : R → S → Prop} : Wp (eCallB g i fs dd s) Q = cV (s.cell i) fun _ => Wp (evs fs (kCB g i dd) s) Q := by
  unfold eCallB
  cases s.cell i <;> rfl
@[simp ↓] theorem wp_kCB {g : Fn} {i : Nat} {dd ds : List D} {Q : R → S → Prop} : Wp (kCB g i dd ds s) Q = cV (s.cell i) fun bs => WpF (g (ds ++ dd) bs) fun r bs' => Q r (s.putc i bs') := by
  unfold kCB
  cases s.cell i with
  | none => rfl
  | some bs =>
    show Wp (match g (ds ++ dd) bs with | .ok r bs' => .ok r (s.putc i bs') | _ => .stuck) Q = WpF (g (ds ++ dd) bs) fun r bs' => Q r (s.putc i bs')
    cases g (ds ++ dd) bs <;> rfl
def kM (i : Nat) (p : List D → List D → Option (D × List D)) (es : List D) : M R := fun s' => match s'.cell i with
  | none => .stuck
  | some ds => match p ds es with
    | none => .stuck
    | some (d, ds') => .ok (.val d) (s'.putc i ds')
@[simp ↓] theorem wp_eM {i : Nat} {fs : List (M D)} {p : List D → List D → Option (D × List D)} {Q : R → S → Prop} : Wp (eM i fs p s) Q = cV (s.cell i) fun _ => Wp (evs fs (kM i p) s) Q := by
  unfold eM
  cases s.cell i <;> rfl
@[simp ↓] theorem wp_kM {i : Nat} {p : List D → List D → Option (D × List D)} {es : List D} {Q : R → S → Prop} : Wp (kM i p es s) Q = cV (s.cell i) fun ds => cV (p ds es) fun x => Q (.val x.1) (s.putc i x.2) := by
  unfold kM
  cases s.cell i with
  | none => rfl
  | some ds =>
    show Wp (match p ds es with | none => .stuck | some (d, ds') => .ok (.val d) (s.putc i ds')) Q = cV (p ds es) fun x => Q (.val x.1) (s.putc i x.2)
    cases p ds es <;> rfl
@[simp ↓] theorem wp_sSetIx {i : Nat} {fe fk : M D} {Q : Fl → S → Prop} : Wp (sSetIx i fe fk s) Q = Wp (fe s) fun x s1 => cV (s1.cell i) fun _ => Wp (fk s1) fun k s2 => cV (s2.cell i) fun ds => cV (setAt ds k x) fun ds' => Q .nx (s2.putc i ds') := by
  unfold sSetIx
  rw [wp_mbind]
  congr 1
  funext x s1
  cases s1.cell i with
  | none => rfl
  | some ds =>
    show Wp (mbind fk _ s1) Q = Wp (fk s1) _
    rw [wp_mbind]
    congr 1
    funext k s2
    cases s2.cell i with
    | none => rfl
    | some ds =>
      dsimp only [cV_some]
      cases setAt ds k x <;> rfl
def augV (x : D) (y : D) (P : Int → Int → Prop) : Prop := match x, y with
  | .int x, .int y => P x y
  | _, _ => False
@[simp ↓] theorem augV_int {x y : Int} {P : Int → Int → Prop} : augV (.int x) (.int y) P = P x y := rfl
def intV (x : D) (P : Int → Prop) : Prop := match x with
  | .int x => P x
  | _ => False
@[simp ↓] theorem intV_int {x : Int} {P : Int → Prop} : intV (.int x) P = P x := rfl
@[simp ↓] theorem wp_sAugIx {i : Nat} {fk fe : M D} {g : Int → Int → Int} {Q : Fl → S → Prop} : Wp (sAugIx i fk fe g s) Q = cV (s.cell i) fun _ => Wp (fk s) fun k s1 => cV (s1.cell i) fun ds => intV k fun n => cV (atI ds n) fun x => intV x fun x => Wp (fe s1) fun y s2 => intV y fun y =>
    cV (s2.cell i) fun es => cV (setAt es (.int n) (.int (g x y))) fun es' => Q .nx (s2.putc i es') := by
  unfold sAugIx
  cases s.cell i with
  | none => rfl
  | some ds =>
    show Wp (mbind fk _ s) Q = Wp (fk s) _
    rw [wp_mbind]
    congr 1
    funext k s1
    cases s1.cell i with
    | none => rfl
    | some ds =>
      dsimp only [cV_some]
      cases k with
      | int n =>
        dsimp only [intV_int]
        cases atI ds n with
        | none => rfl
        | some x =>
          dsimp only [cV_some]
          cases x with
          | int x =>
            dsimp only [intV_int]
            rw [wp_mbind]
            congr 1
            funext y s2
            cases y with
            | int y =>
              dsimp only [intV_int]
              cases s2.cell i with
              | none => rfl
              | some es =>
                dsimp only [cV_some]
                cases setAt es (.int n) (.int (g x y)) <;> rfl
            | _ => rfl
          | _ => rfl
      | _ => rfl
def slI : Option (Option Sl) → (Int → Prop) → Prop
  | some (some (Sl.val (.int x))), P => P x
  | _, _ => False
@[simp ↓] theorem slI_int {x : Int} {P : Int → Prop} : slI (some (some (.val (.int x)))) P = P x := rfl
@[simp] theorem wp_sAug {i : Nat} {f : M D} {g : Int → Int → Int} {Q : Fl → S → Prop} : Wp (sAug i f g ⟨env, box⟩) Q = slI env[i]? fun x => Wp (f ⟨env, box⟩) fun y s' => intV y fun y => Q .nx (s'.setv i (.int (g x y))) := by
  unfold sAug
  dsimp only
  generalize env[i]? = o
  match o with
  | none => rfl
  | some none => rfl
  | some (some .io) => rfl
  | some (some (.own _)) => rfl
  | some (some (.stk _)) => rfl
  | some (some (.top _)) => rfl
  | some (some (.val (.int x))) =>
    show Wp (mbind f _ _) Q = Wp (f _) _
    rw [wp_mbind]
    congr 1
    funext y s'
    cases y <;> rfl
  | some (some (.val .none)) => rfl
  | some (some (.val (.bool _))) => rfl
  | some (some (.val (.str _))) => rfl
  | some (some (.val (.list _))) => rfl
  | some (some (.val (.tuple _))) => rfl
  | some (some (.val (.dict _))) => rfl
@[simp ↓] theorem wp_sPar {is : List Nat} {fs : List (M R)} {Q : Fl → S → Prop} : Wp (sPar is fs s) Q = Wp (evr fs (fun rs s => if rs.length = is.length then .ok .nx (s.putAll is rs) else .stuck) s) Q := rfl
@[simp] theorem putAll_cons {i : Nat} {is : List Nat} {r : R} {rs : List R} : S.putAll s (i :: is) (r :: rs) = (s.putAll is rs).put i r := rfl
@[simp] theorem putAll_nil {rs : List R} : S.putAll s [] rs = s := rfl
@[simp] theorem wp_iteO {c : Prop} [Decidable c] {a : Out α} : Wp (if c then a else .stuck) Q = (c ∧ Wp a Q) := by by_cases h : c <;> simp [h, Wp]
@[simp ↓] theorem wp_sUnp {is : List Nat} {f : M D} {Q : Fl → S → Prop} : Wp (sUnp is f s) Q = Wp (f s) fun d s' => cV (gT is d s') fun s2 => Q .nx s2 := by
  unfold sUnp
  rw [wp_mbind]
  congr 1
  funext d s'
  cases gT is d s' <;> rfl
@[simp] theorem gT_tup {is : List Nat} {ds : List D} : gT is (.tuple ds) s = if ds.length = is.length then some (s.setvs is ds) else none := rfl
@[simp] theorem gN_def {i : Nat} {d : D} : gN i d s = some (s.setv i d) := rfl
@[simp] theorem setvs_cons {i : Nat} {is : List Nat} {d : D} {ds : List D} : S.setvs s (i :: is) (d :: ds) = (s.setv i d).setvs is ds := rfl
@[simp] theorem setvs_nil {ds : List D} : S.setvs s [] ds = s := rfl
@[simp ↓] theorem wp_sDPut {i : Nat} {fv fk : M D} {Q : Fl → S → Prop} : Wp (sDPut i fv fk s) Q = Wp (fv s) fun v s1 => cV (s1.dct i) fun _ => Wp (fk s1) fun k s2 => cV (s2.dct i) fun kds => cV (keyD k) fun k => kds.length < sizeLine ∧ Q .nx (s2.seto i (.dct (putD kds k v))) := by
  unfold sDPut
  rw [wp_mbind]
  congr 1
  funext v s1
  cases s1.dct i with
  | none => rfl
  | some _ =>
    show Wp (mbind fk _ s1) Q = Wp (fk s1) _
    rw [wp_mbind]
    congr 1
    funext k s2
    cases s2.dct i with
    | none => rfl
    | some kds =>
      dsimp only [cV_some]
      cases keyD k with
      | none => rfl
      | some k =>
        dsimp only [cV_some]
        by_cases h : kds.length < sizeLine <;> simp [h, Wp]
@[simp ↓] theorem wp_eDGet {i : Nat} {fk : M D} {Q : R → S → Prop} : Wp (eDGet i fk s) Q = cV (s.dct i) fun _ => Wp (fk s) fun k s2 => cV (s2.dct i) fun kds => cV (keyD k) fun k => cV (getK kds k) fun d => Q (.val d) s2 := by
  unfold eDGet
  cases s.dct i with
  | none => rfl
  | some _ =>
    show Wp (mbind fk _ s) Q = Wp (fk s) _
    rw [wp_mbind]
    congr 1
    funext k s2
    cases s2.dct i with
    | none => rfl
    | some kds =>
      dsimp only [cV_some]
      cases keyD k with
      | none => rfl
      | some k =>
        dsimp only [cV_some]
        cases getK kds k <;> rfl
@[simp ↓] theorem wp_tDIn {i : Nat} {fk : M D} {pos : Bool} {Q : Bool → S → Prop} : Wp (tDIn i fk pos s) Q = Wp (fk s) fun k s2 => cV (s2.dct i) fun kds => cV (keyD k) fun k => Q ((getK kds k).isSome == pos) s2 := by
  unfold tDIn
  rw [wp_mbind]
  congr 1
  funext k s2
  cases s2.dct i with
  | none => rfl
  | some kds =>
    dsimp only [cV_some]
    cases keyD k <;> rfl
@[simp ↓] theorem wp_eDLen {i : Nat} {Q : R → S → Prop} : Wp (eDLen i s) Q = cV (s.dct i) fun kds => Q (.val (.int kds.length)) s := by
  unfold eDLen
  cases s.dct i <;> rfl
@[simp ↓] theorem wp_eDList {i : Nat} {Q : R → S → Prop} : Wp (eDList i s) Q = cV (s.dct i) fun kds => Q (.new (.lst (kds.map fun kv => kD kv.1))) s := by
  unfold eDList
  cases s.dct i <;> rfl
@[simp] theorem keyD_int {i : Int} : keyD (.int i) = some (.inl i) := rfl
@[simp] theorem keyD_str {x : Str} : keyD (.str x) = some (.inr x) := rfl
def k3 (g : Hd) (q : D → D → Option Bool) (k : Hd) : M Bool := rsv g fun y => rsv k fun z => match q y z with
  | some r => mret r
  | none => mstuck
@[simp ↓] theorem wp_t3 {a b c : Opd} {p q : D → D → Option Bool} {Q : Bool → S → Prop} : Wp (t3 a b c p q s) Q = Wp (opS a (fun h => opS b fun g => rsv h fun x => rsv g fun y => match p x y with | some true => opS c (k3 g q) | some false => mret false | none => mstuck) s) Q := rfl
@[simp ↓] theorem wp_bo3 {o : Option Bool} {m : M Bool} {Q : Bool → S → Prop} : Wp ((match o with | some true => m | some false => mret false | none => mstuck : M Bool) s) Q = boV o fun b => (b = true → Wp (m s) Q) ∧ (b = false → Q false s) := by
  match o with
  | none => rfl
  | some true => simp [boV]
  | some false => simp [boV]
@[simp ↓] theorem wp_k3 {g k : Hd} {q : D → D → Option Bool} {Q : Bool → S → Prop} : Wp (k3 g q k s) Q = Wp (rsv g (fun y => rsv k fun z => match q y z with | some r => mret r | none => mstuck) s) Q := rfl
@[simp ↓] theorem wp_eSl {a : Opd} {lo hi : M (Option Int)} {Q : R → S → Prop} : Wp (eSl a lo hi s) Q = Wp (opS a (fun h => mbind lo fun l => mbind hi fun u => rsv h fun x => mpo (pSl x l u)) s) Q := rfl
@[simp ↓] theorem wp_isI {d : D} {Q : Int → S → Prop} : Wp (isI d s) Q = intV d fun i => Q i s := by cases d <;> rfl
@[simp ↓] theorem wp_eIsi {o : Opd} {n : String} {Q : R → S → Prop} : Wp (eIsi o n s) Q = Wp (opS o (fun h => rsv h fun x => match isTy n x with | some b => mret (.val (.bool b)) | none => mstuck) s) Q := rfl
@[simp ↓] theorem wp_bor {o : Option Bool} {Q : R → S → Prop} : Wp ((match o with | some b => mret (.val (.bool b)) | none => mstuck : M R) s) Q = boV o fun b => Q (.val (.bool b)) s := by cases o <;> rfl
def lrOk (a b : Int) : Prop := a.natAbs < 2 ^ 62 ∧ b.natAbs < 2 ^ 62 ∧ (b - a).toNat ≤ 2 ^ 24
theorem lrOk_of {a b : Int} (h0 : 0 ≤ a) (h1 : 0 ≤ b) (ha : a ≤ 2 ^ 24) (hb : b ≤ 2 ^ 24) : lrOk a b := by
  refine ⟨by omega, by omega, ?_⟩
  have : (2 : Nat) ^ 24 = 16777216 := rfl
  omega
def kLR (g : List D → Option (Int × Int)) (mk : List D → R) (ds : List D) : M R := match g ds with
  | some (a, b) => if (a.natAbs < 2 ^ 62 ∧ b.natAbs < 2 ^ 62 ∧ (b - a).toNat ≤ 2 ^ 24) then mret (mk (dRange a (b - a).toNat)) else mstuck
  | none => mstuck
@[simp ↓] theorem wp_eLRange {fs : List (M D)} {g : List D → Option (Int × Int)} {Q : R → S → Prop} : Wp (eLRange fs g s) Q = Wp (evs fs (kLR g fun l => .new (.lst l)) s) Q := rfl
@[simp ↓] theorem wp_eTRange {fs : List (M D)} {g : List D → Option (Int × Int)} {Q : R → S → Prop} : Wp (eTRange fs g s) Q = Wp (evs fs (kLR g fun l => .val (.tuple l)) s) Q := rfl
@[simp ↓] theorem wp_kLR {g : List D → Option (Int × Int)} {mk : List D → R} {ds : List D} {Q : R → S → Prop} : Wp (kLR g mk ds s) Q = cV (g ds) fun p => lrOk p.1 p.2 ∧ Q (mk (dRange p.1 (p.2 - p.1).toNat)) s := by
  unfold kLR
  cases g ds with
  | none => rfl
  | some p =>
    obtain ⟨a, b⟩ := p
    dsimp only [cV_some]
    unfold lrOk
    by_cases h : a.natAbs < 2 ^ 62 ∧ b.natAbs < 2 ^ 62 ∧ (b - a).toNat ≤ 2 ^ 24
    · rw [if_pos h, wp_mret]; exact propext ⟨fun q => ⟨h, q⟩, fun q => q.2⟩
    · rw [if_neg h, wp_mstuck]; exact propext ⟨fun q => q.elim, fun q => (h q.1).elim⟩
@[simp] theorem rg1_int {n : Int} : rg1 [.int n] = some (0, n) := rfl
@[simp ↓] theorem wp_iVal {f : M D} {Q : List D → S → Prop} : Wp (iVal f s) Q = Wp (f s) fun d s' => Wp (itemsM d s') Q := wp_mbind
@[simp] theorem itemsM_list {ds : List D} : itemsM (.list ds) = mret ds := rfl
@[simp] theorem itemsM_tuple {ds : List D} : itemsM (.tuple ds) = mret ds := rfl
def rOk (j : Int) : Prop := j.natAbs < 2 ^ 62
theorem rOk_of {j : Int} (h0 : 0 ≤ j) (h : j < 2 ^ 62) : rOk j := by unfold rOk; omega
@[simp ↓] theorem wp_rng1 {j : Int} {Q : List D → S → Prop} : Wp (rng1 [.int j] s) Q = (rOk j ∧ Q (dRange 0 j.toNat) s) := by
  show Wp ((if j.natAbs < 2 ^ 62 then mret (dRange 0 j.toNat) else mstuck : M (List D)) s) Q = (rOk j ∧ _)
  unfold rOk
  by_cases h : j.natAbs < 2 ^ 62
  · rw [if_pos h, wp_mret]; exact propext ⟨fun q => ⟨h, q⟩, fun q => q.2⟩
  · rw [if_neg h, wp_mstuck]; exact propext ⟨fun q => q.elim, fun q => (h q.1).elim⟩
@[simp ↓] theorem wp_rng2 {i j : Int} {Q : List D → S → Prop} : Wp (rng2 [.int i, .int j] s) Q = (rOk i ∧ rOk j ∧ Q (dRange i (j - i).toNat) s) := by
  show Wp ((if i.natAbs < 2 ^ 62 ∧ j.natAbs < 2 ^ 62 then mret (dRange i (j - i).toNat) else mstuck : M (List D)) s) Q = (rOk i ∧ rOk j ∧ _)
  unfold rOk
  by_cases h : i.natAbs < 2 ^ 62 ∧ j.natAbs < 2 ^ 62
  · rw [if_pos h, wp_mret]; exact propext ⟨fun q => ⟨h.1, h.2, q⟩, fun q => q.2.2⟩
  · rw [if_neg h, wp_mstuck]; exact propext ⟨fun q => q.elim, fun q => (h ⟨q.1, q.2.1⟩).elim⟩
@[simp] theorem enM_list {ds : List D} : enM [.list ds] = mret (dEnum ds) := rfl
@[simp] theorem enM_tuple {ds : List D} : enM [.tuple ds] = mret (dEnum ds) := rfl
@[simp] theorem zipM_list {ds es : List D} : zipM [.list ds, .list es] = mret (dZip ds es) := rfl
@[simp] theorem zipM_tuple {ds es : List D} : zipM [.tuple ds, .tuple es] = mret (dZip ds es) := rfl
@[simp] theorem zipM_lt {ds es : List D} : zipM [.list ds, .tuple es] = mret (dZip ds es) := rfl
@[simp] theorem zipM_tl {ds es : List D} : zipM [.tuple ds, .list es] = mret (dZip ds es) := rfl
@[simp ↓] theorem wp_sFor {it : M (List D)} {g : D → S → Option S} {b : M Fl} {Q : Fl → S → Prop} : Wp (sFor it g b s) Q = Wp (it s) fun ds s' => Wp (forL g b ds s') Q := wp_mbind
@[simp ↓] theorem wp_eComp {it : M (List D)} {vs : List Nat} {g : D → S → Option S} {c : M Bool} {f : M D} {Q : R → S → Prop} : Wp (eComp it vs g c f s) Q = Wp (it s) fun ds s0 => s0.clean vs = true ∧ Wp (compL g c f vs ds [] s0) fun acc s' => Q (.new (.lst acc)) (s'.back s0 vs) := by
  unfold eComp
  rw [wp_mbind]
  congr 1
  funext ds s0
  by_cases h : s0.clean vs = true
  · rw [if_pos h]
    cases compL g c f vs ds [] s0 with
    | ok acc s' => simp [h, Wp]
    | stuck => simp [h, Wp]
    | exc _ _ _ => simp [h, Wp]
  · rw [if_neg h]
    simp [h, Wp]
theorem wp_forL {g : D → S → Option S} {b : M Fl} {Q : Fl → S → Prop} {ds : List D} (I : Nat → S → Prop) (h0 : I 0 s)
    (hs : ∀ i d s, ds[i]? = some d → I i s → cV (g d s) fun s1 => Wp (b s1) fun fl s2 => match fl with
      | .nx => I (i + 1) s2
      | .ct => I (i + 1) s2
      | .bk => Q .nx s2
      | .rt r => Q (.rt r) s2)
    (he : ∀ s, I ds.length s → Q .nx s) : Wp (forL g b ds s) Q := by
  have key : ∀ n i s, n = ds.length - i → i ≤ ds.length → I i s → Wp (forL g b (ds.drop i) s) Q := by
    intro n
    induction n with
    | zero =>
      intro i s hn hi h
      have e : i = ds.length := by omega
      subst e
      rw [List.drop_length]
      exact he s h
    | succ n ih =>
      intro i s hn hi h
      have hlt : i < ds.length := by omega
      have ed : ds.drop i = ds[i] :: ds.drop (i + 1) := List.drop_eq_getElem_cons hlt
      have h1 := hs i ds[i] s (List.getElem?_eq_getElem hlt) h
      rw [ed]
      show Wp (match g ds[i] s with | none => .stuck | some s1 => loopK (b s1) (forL g b (ds.drop (i + 1)))) Q
      cases e1 : g ds[i] s with
      | none => rw [e1] at h1; exact h1.elim
      | some s1 =>
        rw [e1] at h1
        have h1 : Wp (b s1) _ := h1
        show Wp (loopK (b s1) (forL g b (ds.drop (i + 1)))) Q
        cases e2 : b s1 with
        | stuck => rw [e2] at h1; exact h1.elim
        | exc _ _ _ => rw [e2] at h1; exact h1.elim
        | ok fl s2 =>
          rw [e2] at h1
          match fl, h1 with
          | .nx, h1 => exact ih (i + 1) s2 (by omega) hlt h1
          | .ct, h1 => exact ih (i + 1) s2 (by omega) hlt h1
          | .bk, h1 => exact h1
          | .rt r, h1 => exact h1
  have := key ds.length 0 s (by omega) (Nat.zero_le _) h0
  rwa [List.drop_zero] at this
theorem wp_compL {g : D → S → Option S} {c : M Bool} {f : M D} {vs : List Nat} {Q : List D → S → Prop} {ds : List D} (I : Nat → List D → S → Prop) (h0 : I 0 [] s)
    (hs : ∀ i d acc s, ds[i]? = some d → I i acc s → cV (g d (s.wipe vs)) fun s1 => Wp (c s1) fun b s2 => (b = true → Wp (f s2) fun x s3 => acc.length < sizeLine ∧ I (i + 1) (acc ++ [x]) s3) ∧ (b = false → I (i + 1) acc s2))
    (he : ∀ acc s, I ds.length acc s → Q acc (s.wipe vs)) : Wp (compL g c f vs ds [] s) Q := by
  have key : ∀ n i acc s, n = ds.length - i → i ≤ ds.length → I i acc s → Wp (compL g c f vs (ds.drop i) acc s) Q := by
    intro n
    induction n with
    | zero =>
      intro i acc s hn hi h
      have e : i = ds.length := by omega
      subst e
      rw [List.drop_length]
      exact he acc s h
    | succ n ih =>
      intro i acc s hn hi h
      have hlt : i < ds.length := by omega
      have ed : ds.drop i = ds[i] :: ds.drop (i + 1) := List.drop_eq_getElem_cons hlt
      have h1 := hs i ds[i] acc s (List.getElem?_eq_getElem hlt) h
      rw [ed]
      show Wp (match g ds[i] (s.wipe vs) with | none => .stuck | some s1 => mbind c (fun b => if b then mbind f fun x => if acc.length < sizeLine then compL g c f vs (ds.drop (i + 1)) (acc ++ [x]) else mstuck else compL g c f vs (ds.drop (i + 1)) acc) s1) Q
      cases e1 : g ds[i] (s.wipe vs) with
      | none => rw [e1] at h1; exact h1.elim
      | some s1 =>
        rw [e1] at h1
        have h1 : Wp (c s1) _ := h1
        show Wp (mbind c _ s1) Q
        rw [wp_mbind]
        refine h1.mono fun b s2 h2 => ?_
        cases b with
        | false => exact ih (i + 1) acc s2 (by omega) hlt (h2.2 rfl)
        | true =>
          show Wp (mbind f _ s2) Q
          rw [wp_mbind]
          refine (h2.1 rfl).mono fun x s3 h3 => ?_
          rw [if_pos h3.1]
          exact ih (i + 1) (acc ++ [x]) s3 (by omega) hlt h3.2
  have := key ds.length 0 [] s (by omega) (Nat.zero_le _) h0
  rwa [List.drop_zero] at this
end
end L3

namespace L3
open PySem PySem.W PySem.Spec PyProof.Rows L2
section
variable {env : List (Option Sl)} {box : List D} {i j : Nat}
def stkV (P : List Row → Prop) : Option (Option Sl) → Prop
  | some (some (Sl.stk rows)) => P rows
  | _ => False
@[simp ↓] theorem stkV_stk {P : List Row → Prop} {rows : List Row} : stkV P (some (some (.stk rows))) = P rows := rfl
theorem stk_wp {α : Type} {Q : α → S → Prop} {f : List Row → Out α} : Wp (match S.stk ⟨env, box⟩ j with | some rows => f rows | none => .stuck) Q = stkV (fun rows => Wp (f rows) Q) env[j]? := by
  unfold S.stk
  dsimp only
  generalize env[j]? = o
  match o with
  | none => rfl
  | some none => rfl
  | some (some (.val _)) => rfl
  | some (some (.own _)) => rfl
  | some (some .io) => rfl
  | some (some (.top _)) => rfl
  | some (some (.stk _)) => rfl
@[simp] theorem noStk_nil : noStk [] = true := rfl
@[simp] theorem noStk_none {e : List (Option Sl)} : noStk (none :: e) = noStk e := rfl
@[simp] theorem noStk_val {d : D} {e : List (Option Sl)} : noStk (some (.val d) :: e) = noStk e := rfl
@[simp] theorem noStk_own {c : C} {e : List (Option Sl)} : noStk (some (.own c) :: e) = noStk e := rfl
@[simp] theorem noStk_io {e : List (Option Sl)} : noStk (some .io :: e) = noStk e := rfl
@[simp] theorem noStk_top {j : Nat} {e : List (Option Sl)} : noStk (some (.top j) :: e) = noStk e := rfl
@[simp] theorem wp_eLenS {Q : R → S → Prop} : Wp (eLenS j ⟨env, box⟩) Q = stkV (fun rows => Q (.val (.int (rows.length : Int))) ⟨env, box⟩) env[j]? := stk_wp
@[simp] theorem wp_tEqS {neg : Bool} {Q : Bool → S → Prop} : Wp (tEqS j neg ⟨env, box⟩) Q = stkV (fun rows => Q (rows.isEmpty != neg) ⟨env, box⟩) env[j]? := stk_wp
def popV (P : List Row → Prop) : List Row → Prop
  | _ :: rows => P rows
  | [] => False
@[simp ↓] theorem popV_cons {P : List Row → Prop} {r : Row} {rows : List Row} : popV P (r :: rows) = P rows := rfl
@[simp] theorem putStk_mk {rows : List Row} : S.putStk ⟨env, box⟩ j rows = ⟨(clrE env).set j (some (.stk rows)), box⟩ := rfl
@[simp] theorem clr_mk : S.clr ⟨env, box⟩ j = ⟨clrE (env.set j none), box⟩ := rfl
@[simp] theorem setTop_mk : S.setTop ⟨env, box⟩ i j = ⟨env.set i (some (.top j)), box⟩ := rfl
@[simp] theorem wp_sPopS {Q : Fl → S → Prop} : Wp (sPopS j ⟨env, box⟩) Q = stkV (popV fun rows => Q .nx (S.putStk ⟨env, box⟩ j rows)) env[j]? := by
  have : sPopS j ⟨env, box⟩ = (match S.stk ⟨env, box⟩ j with | some rows => (match rows with | _ :: rows => .ok .nx (S.putStk ⟨env, box⟩ j rows) | [] => .stuck) | none => .stuck) := by
    unfold sPopS
    cases S.stk ⟨env, box⟩ j with
    | none => rfl
    | some rows => cases rows <;> rfl
  rw [this, stk_wp]
  congr 1
  funext rows
  cases rows <;> rfl
@[simp] theorem spl_new {l : List D} : spl [.new (.lst l)] = some ([], l) := rfl
@[simp] theorem spl_val {d : D} {rs : List R} : spl (.val d :: rs) = (spl rs).map fun p => (d :: p.1, p.2) := rfl
def splV (P : List D × List D → Prop) : Option (List D × List D) → Prop
  | some p => P p
  | none => False
@[simp ↓] theorem splV_some {P : List D × List D → Prop} {p : List D × List D} : splV P (some p) = P p := rfl
def pushK (j : Nat) : List R → M Fl := fun rs s => match spl rs, s.stk j with
  | some p, some rows => if rs.length ≤ sizeLine ∧ rows.length < sizeLine then .ok .nx (s.putStk j ((p.1, some p.2) :: rows)) else .stuck
  | _, _ => .stuck
@[simp] theorem wp_sPush {fs : List (M R)} {Q : Fl → S → Prop} : Wp (sPush j fs ⟨env, box⟩) Q = stkV (fun _ => Wp (evr fs (pushK j) ⟨env, box⟩) Q) env[j]? := by
  have : sPush j fs ⟨env, box⟩ = (match S.stk ⟨env, box⟩ j with | some _ => evr fs (pushK j) ⟨env, box⟩ | none => .stuck) := by
    unfold sPush
    cases S.stk ⟨env, box⟩ j <;> rfl
  rw [this, stk_wp]
@[simp] theorem wp_pushK {rs : List R} {Q : Fl → S → Prop} : Wp (pushK j rs ⟨env, box⟩) Q = splV (fun p => stkV (fun rows => (rs.length ≤ sizeLine ∧ rows.length < sizeLine) ∧ Q .nx (S.putStk ⟨env, box⟩ j ((p.1, some p.2) :: rows))) env[j]?) (spl rs) := by
  unfold pushK
  cases spl rs with
  | none => rfl
  | some p =>
    have e : (match some p, S.stk ⟨env, box⟩ j with | some p, some rows => if rs.length ≤ sizeLine ∧ rows.length < sizeLine then Out.ok Fl.nx (S.putStk ⟨env, box⟩ j ((p.1, some p.2) :: rows)) else .stuck | _, _ => .stuck)
      = (match S.stk ⟨env, box⟩ j with | some rows => (if rs.length ≤ sizeLine ∧ rows.length < sizeLine then Out.ok Fl.nx (S.putStk ⟨env, box⟩ j ((p.1, some p.2) :: rows)) else .stuck) | none => .stuck) := by
      cases S.stk ⟨env, box⟩ j <;> rfl
    refine (congrArg (fun o => Wp o Q) e).trans ?_
    rw [stk_wp]
    show stkV _ _ = stkV _ _
    congr 1
    funext rows
    by_cases h : rs.length ≤ sizeLine ∧ rows.length < sizeLine
    · rw [if_pos h]; simp only [h, and_self, true_and]; rfl
    · rw [if_neg h]; simp only [h, false_and]; rfl
def initK (i j : Nat) (r : R) : List R → M Fl := fun rs s => match spl rs with
  | some p => if noStk s.env = true ∧ rs.length ≤ sizeLine then .ok .nx ((s.putStk j [(p.1, some p.2)]).put i r) else .stuck
  | none => .stuck
@[simp] theorem wp_sInit0 {f : M R} {fs : List (M R)} {Q : Fl → S → Prop} : Wp (sInit0 i j f fs ⟨env, box⟩) Q = (j < env.length ∧ Wp (f ⟨env, box⟩) fun r s => Wp (evr fs (initK i j r) s) Q) := by
  unfold sInit0
  by_cases h : j < env.length
  · rw [if_pos h]
    simp only [h, true_and]
    show Wp (mbind f _ _) Q = _
    rw [wp_mbind]
    rfl
  · rw [if_neg h]; simp only [h, false_and]; rfl
@[simp] theorem wp_initK {r : R} {rs : List R} {Q : Fl → S → Prop} : Wp (initK i j r rs ⟨env, box⟩) Q = splV (fun p => (noStk env = true ∧ rs.length ≤ sizeLine) ∧ Q .nx ((S.putStk ⟨env, box⟩ j [(p.1, some p.2)]).put i r)) (spl rs) := by
  unfold initK
  cases spl rs with
  | none => rfl
  | some p =>
    show Wp (if noStk env = true ∧ rs.length ≤ sizeLine then _ else .stuck) Q = _
    by_cases h : noStk env = true ∧ rs.length ≤ sizeLine
    · rw [if_pos h]; simp only [splV, h, and_self, true_and]; rfl
    · rw [if_neg h]; simp only [splV, h, false_and]; rfl
def topS (P : List D → List D → List Row → Prop) : List Row → Prop
  | (ds, some l) :: rest => P ds l rest
  | _ => False
@[simp ↓] theorem topS_cons {P : List D → List D → List Row → Prop} {ds l : List D} {rest : List Row} : topS P ((ds, some l) :: rest) = P ds l rest := rfl
def intW (x : D) (P : Int → Prop) : Prop := match x with
  | .int n => P n
  | _ => False
@[simp ↓] theorem intW_int {n : Int} {P : Int → Prop} : intW (.int n) P = P n := rfl
def borK (is : List Nat) (ia j : Nat) : D → M Fl := fun x s => match x, s.stk j with
  | .int n, some ((ds, some _) :: _) => if n = -1 ∧ ds.length = is.length then .ok .nx ((s.setTop ia j).putAll is (ds.map R.val)) else .stuck
  | _, _ => .stuck
@[simp] theorem wp_sBorrow0 {is : List Nat} {fi : M D} {Q : Fl → S → Prop} : Wp (sBorrow0 is i j fi ⟨env, box⟩) Q = (i < env.length ∧ stkV (fun _ => Wp (fi ⟨env, box⟩) fun x s => Wp (borK is i j x s) Q) env[j]?) := by
  unfold sBorrow0
  by_cases h : i < env.length
  · rw [if_pos h]
    simp only [h, true_and]
    have : sBorrow is i j fi ⟨env, box⟩ = (match S.stk ⟨env, box⟩ j with | some _ => mbind fi (borK is i j) ⟨env, box⟩ | none => .stuck) := by
      unfold sBorrow
      cases S.stk ⟨env, box⟩ j <;> rfl
    rw [this, stk_wp]
    simp only [wp_mbind]
  · rw [if_neg h]; simp only [h, false_and]; rfl
@[simp] theorem wp_borK {is : List Nat} {x : D} {Q : Fl → S → Prop} : Wp (borK is i j x ⟨env, box⟩) Q = intW x fun n => stkV (topS fun ds l rest => (n = -1 ∧ ds.length = is.length) ∧ Q .nx ((S.setTop ⟨env, box⟩ i j).putAll is (ds.map R.val))) env[j]? := by
  cases x with
  | int n =>
    have : borK is i j (.int n) ⟨env, box⟩ = (match S.stk ⟨env, box⟩ j with | some rows => (match rows with | (ds, some _) :: _ => if n = -1 ∧ ds.length = is.length then .ok .nx ((S.setTop ⟨env, box⟩ i j).putAll is (ds.map R.val)) else .stuck | _ => .stuck) | none => .stuck) := by
      unfold borK
      cases S.stk ⟨env, box⟩ j with
      | none => rfl
      | some rows => match rows with
        | [] => rfl
        | (ds, none) :: _ => rfl
        | (ds, some _) :: _ => rfl
    rw [this, stk_wp]
    show stkV _ _ = stkV _ _
    congr 1
    funext rows
    match rows with
    | [] => rfl
    | (ds, none) :: _ => rfl
    | (ds, some l) :: rest =>
      show Wp (if n = -1 ∧ ds.length = is.length then _ else .stuck) Q = _
      by_cases h : n = -1 ∧ ds.length = is.length
      · rw [if_pos h]; simp only [topS, h, and_self, true_and]; rfl
      · rw [if_neg h]; simp only [topS, h, false_and]; rfl
  | _ => rfl
def appK2 (j : Nat) (fe : M D) (ds l : List D) (rest : List Row) : D → M Fl := fun y s => match y with
  | .int k => if k = (ds.length : Int) then mbind fe (fun d s => if noStk s.env = true then .ok .nx (s.putStk j ((ds, some (l ++ [d])) :: rest)) else .stuck) s else .stuck
  | _ => .stuck
def appK (j : Nat) (fk fe : M D) : D → M Fl := fun x s => match x, s.stk j with
    | .int n, some ((ds, some l) :: rest) => if n = -1 ∧ l.length < sizeLine then mbind fk (appK2 j fe ds l rest) (s.clr j) else .stuck
    | _, _ => .stuck
@[simp] theorem wp_sTopApp {fi fk fe : M D} {Q : Fl → S → Prop} : Wp (sTopApp j fi fk fe ⟨env, box⟩) Q = stkV (fun _ => Wp (fi ⟨env, box⟩) fun x s => Wp (appK j fk fe x s) Q) env[j]? := by
  have : sTopApp j fi fk fe ⟨env, box⟩ = (match S.stk ⟨env, box⟩ j with | some _ => mbind fi (appK j fk fe) ⟨env, box⟩ | none => .stuck) := by
    unfold sTopApp
    cases S.stk ⟨env, box⟩ j <;> rfl
  rw [this, stk_wp]
  simp only [wp_mbind]
@[simp] theorem wp_appK {x : D} {fk fe : M D} {Q : Fl → S → Prop} : Wp (appK j fk fe x ⟨env, box⟩) Q = intW x fun n => stkV (topS fun ds l rest => (n = -1 ∧ l.length < sizeLine) ∧ Wp (fk (S.clr ⟨env, box⟩ j)) fun y s => Wp (appK2 j fe ds l rest y s) Q) env[j]? := by
  cases x with
  | int n =>
    have : appK j fk fe (.int n) ⟨env, box⟩ = (match S.stk ⟨env, box⟩ j with | some rows => (match rows with | (ds, some l) :: rest => if n = -1 ∧ l.length < sizeLine then mbind fk (appK2 j fe ds l rest) (S.clr ⟨env, box⟩ j) else .stuck | _ => .stuck) | none => .stuck) := by
      unfold appK
      cases S.stk ⟨env, box⟩ j with
      | none => rfl
      | some rows => match rows with
        | [] => rfl
        | (ds, none) :: _ => rfl
        | (ds, some _) :: _ => rfl
    rw [this, stk_wp]
    show stkV _ _ = stkV _ _
    congr 1
    funext rows
    match rows with
    | [] => rfl
    | (ds, none) :: _ => rfl
    | (ds, some l) :: rest =>
      show Wp (if n = -1 ∧ l.length < sizeLine then _ else .stuck) Q = _
      by_cases h : n = -1 ∧ l.length < sizeLine
      · rw [if_pos h]; simp only [topS, h, and_self, true_and]; exact wp_mbind
      · rw [if_neg h]; simp only [topS, h, false_and]; rfl
  | _ => rfl
@[simp] theorem wp_appK2 {y : D} {fe : M D} {ds l : List D} {rest : List Row} {Q : Fl → S → Prop} : Wp (appK2 j fe ds l rest y ⟨env, box⟩) Q = intW y fun k => k = (ds.length : Int) ∧ Wp (fe ⟨env, box⟩) fun d s => noStk s.env = true ∧ Q .nx (s.putStk j ((ds, some (l ++ [d])) :: rest)) := by
  cases y with
  | int k =>
    show Wp (if k = (ds.length : Int) then _ else .stuck) Q = _
    by_cases h : k = (ds.length : Int)
    · rw [if_pos h]; simp only [intW, h, true_and]
      rw [wp_mbind]
      congr 1
      funext d s
      by_cases g : noStk s.env = true
      · rw [if_pos g]; simp only [g, true_and]; rfl
      · rw [if_neg g]
        have g' : noStk s.env = false := by simpa using g
        rw [g']
        show False = _
        simp
    · rw [if_neg h]; simp only [intW, h, false_and]; rfl
  | _ => rfl
end
@[simp] theorem initL_def {n : Nat} {ds : List D} : initL n ds = (ds.map fun d => some (Sl.val d)) ++ some Sl.io :: List.replicate (n - (ds.length + 1)) none := rfl
end L3

namespace L3
open PySem PySem.W PySem.Spec PyProof.Rows L2

@[simp] theorem pAdd_int {i j : Int} : pAdd (.int i) (.int j) = some (.d (.int (i + j))) := rfl
@[simp] theorem pAdd_list {xs ys : List D} : pAdd (.list xs) (.list ys) = if xs.length + ys.length ≤ sizeLine then some (.l (xs ++ ys)) else none := rfl
@[simp] theorem pAdd_tuple {xs ys : List D} : pAdd (.tuple xs) (.tuple ys) = if xs.length + ys.length ≤ sizeLine then some (.t (xs ++ ys)) else none := rfl
@[simp] theorem pSub_int {i j : Int} : pSub (.int i) (.int j) = some (.d (.int (i - j))) := rfl
@[simp] theorem pMul_int {i j : Int} : pMul (.int i) (.int j) = if i.natAbs.log2 + j.natAbs.log2 < 1000000 then some (.d (.int (i * j))) else none := rfl
@[simp] theorem pDiv_int {i j : Int} : pDiv (.int i) (.int j) = if 0 < j ∧ j.natAbs.log2 < 9000 then some (.d (.int (i / j))) else none := rfl
@[simp] theorem pMod_int {i j : Int} : pMod (.int i) (.int j) = if 0 < j then some (.d (.int (i % j))) else none := rfl
@[simp] theorem pPow_int {i j : Int} : pPow (.int i) (.int j) = if 0 ≤ j ∧ j ≤ 1000000 ∧ i.natAbs < 2 ^ 64 then some (.d (.int (i ^ j.toNat))) else none := rfl
@[simp] theorem pNeg_int {i : Int} : pNeg (.int i) = some (.d (.int (-i))) := rfl
@[simp] theorem ndLt {i j : Int} : nd2 pLt (.int i) (.int j) = some (decide (i < j)) := rfl
@[simp] theorem ndLe {i j : Int} : nd2 pLe (.int i) (.int j) = some (decide (i ≤ j)) := rfl
@[simp] theorem ndGt {i j : Int} : nd2 pGt (.int i) (.int j) = some (decide (j < i)) := rfl
@[simp] theorem ndGe {i j : Int} : nd2 pGe (.int i) (.int j) = some (decide (j ≤ i)) := rfl
@[simp] theorem ndEq {i j : Int} : nd2 pEq (.int i) (.int j) = some (decide (i = j)) := by
  show some (PyData.eqv (.int i) (.int j)) = _
  congr 1
@[simp] theorem ndNe {i j : Int} : nd2 pNe (.int i) (.int j) = some (!decide (i = j)) := by
  show some (!PyData.eqv (.int i) (.int j)) = _
  congr 1
@[simp] theorem bO_some {f : D → D → Option Bool} {x y : D} : bO f x y = (f x y).map fun c => .d (.bool c) := rfl
@[simp] theorem pLen_list {xs : List D} : pLen [.list xs] = some (.d (.int xs.length)) := rfl
@[simp] theorem pLen_tuple {xs : List D} : pLen [.tuple xs] = some (.d (.int xs.length)) := rfl
@[simp] theorem pListOf_list {xs : List D} : pListOf [.list xs] = some (.l xs) := rfl
@[simp] theorem pListOf_tuple {xs : List D} : pListOf [.tuple xs] = some (.l xs) := rfl
@[simp] theorem pTupleOf_list {xs : List D} : pTupleOf [.list xs] = some (.t xs) := rfl
@[simp] theorem pTupleOf_tuple {xs : List D} : pTupleOf [.tuple xs] = some (.d (.tuple xs)) := rfl
@[simp] theorem pAbs_int {i : Int} : pAbs [.int i] = some (.d (.int (if i < 0 then -i else i))) := rfl
@[simp] theorem pInt_int {i : Int} : pInt [.int i] = some (.d (.int i)) := rfl
@[simp] theorem pMax2_int {i j : Int} : pMax2 [.int i, .int j] = some (.d (.int (if j > i then j else i))) := rfl
@[simp] theorem pMin2_int {i j : Int} : pMin2 [.int i, .int j] = some (.d (.int (if j < i then j else i))) := rfl
@[simp] theorem pSum_list {xs : List D} : pSum [.list xs] = (intsOf xs).map fun ns => .d (.int ns.sum) := rfl
@[simp] theorem pAll_list {xs : List D} : pAll [.list xs] = (boolsOf xs).map fun bs => .d (.bool (bs.all id)) := rfl
@[simp] theorem pAny_list {xs : List D} : pAny [.list xs] = (boolsOf xs).map fun bs => .d (.bool (bs.any id)) := rfl
@[simp] theorem pSorted_list {xs : List D} : pSorted [.list xs] = if sortOk xs then some (.l (xs.mergeSort (dataLe false id))) else none := rfl
@[simp] theorem pSorted_tuple {xs : List D} : pSorted [.tuple xs] = if sortOk xs then some (.l (xs.mergeSort (dataLe false id))) else none := rfl
@[simp] theorem pIx_list {xs : List D} {i : Int} : pIx (.list xs) (.int i) = (atI xs i).map .d := rfl
@[simp] theorem pIx_tuple {xs : List D} {i : Int} : pIx (.tuple xs) (.int i) = (atI xs i).map .d := rfl
@[simp] theorem isTy_int {n : String} {i : Int} : isTy n (.int i) = some (n == "int") := rfl
@[simp] theorem isTy_list {n : String} {i : List D} : isTy n (.list i) = some (n == "list") := rfl
@[simp] theorem isTy_tuple {n : String} {i : List D} : isTy n (.tuple i) = some (n == "tuple") := rfl
@[simp] theorem isTy_none {n : String} : isTy n .none = some (n == "NoneType") := rfl
@[simp] theorem isTy_bool {n : String} {b : Bool} : isTy n (.bool b) = some (n == "bool" || n == "int") := rfl
@[simp] theorem isTy_str {n : String} {b : Str} : isTy n (.str b) = some (n == "str") := rfl
@[simp] theorem mAppend_def {ds : List D} {x : D} : mAppend ds [x] = if ds.length < sizeLine then some (.none, ds ++ [x]) else none := rfl
@[simp] theorem setAt_int {ds : List D} {n : Int} {x : D} : setAt ds (.int n) x = (ixN ds.length n).map fun j => ds.set j x := rfl
theorem ixN_nat {n : Nat} {i : Nat} : ixN n (i : Int) = if i < n then some i else none := by
  unfold ixN
  rw [if_pos (Int.natCast_nonneg i)]
  by_cases h : i < n
  · rw [if_pos h, if_pos (by omega)]; simp
  · rw [if_neg h, if_neg (by omega)]
theorem atI_n {α : Type} {xs : List α} {i : Nat} : atI xs (i : Int) = xs[i]? := by
  unfold atI
  rw [ixN_nat]
  by_cases h : i < xs.length
  · rw [if_pos h]; rfl
  · rw [if_neg h, List.getElem?_eq_none (by omega)]; rfl
@[simp] theorem atI_0 {α : Type} {x : α} {xs : List α} : atI (x :: xs) 0 = some x := atI_n (i := 0)
@[simp] theorem atI_1 {α : Type} {x y : α} {xs : List α} : atI (x :: y :: xs) 1 = some y := atI_n (i := 1)
@[simp] theorem atI_2 {α : Type} {x y z : α} {xs : List α} : atI (x :: y :: z :: xs) 2 = some z := atI_n (i := 2)
@[simp] theorem ixN_0 {n : Nat} : ixN (n + 1) 0 = some 0 := by rw [show (0 : Int) = ((0 : Nat) : Int) from rfl, ixN_nat, if_pos (by omega)]
@[simp] theorem ixN_1 {n : Nat} : ixN (n + 1 + 1) 1 = some 1 := by rw [show (1 : Int) = ((1 : Nat) : Int) from rfl, ixN_nat, if_pos (by omega)]
theorem cV_n {α : Type} {xs : List α} {i : Nat} {P : α → Prop} (h : i < xs.length) : cV (atI xs (i : Int)) P = P xs[i] := by
  rw [atI_n, List.getElem?_eq_getElem h]; rfl
theorem cV_at {α : Type} {xs : List α} {i : Int} {P : α → Prop} (h0 : 0 ≤ i) (h : i < xs.length) (hp : ∀ x, x ∈ xs → P x) : cV (atI xs i) P := by
  obtain ⟨n, rfl⟩ := Int.eq_ofNat_of_zero_le h0
  have hn : n < xs.length := by omega
  rw [cV_n hn]
  exact hp _ (List.getElem_mem hn)
theorem log2_lt {n k : Nat} (h : n < 2 ^ (k + 1)) : n.log2 ≤ k := by
  by_cases h0 : n = 0
  · subst h0; simp
  · have := (Nat.log2_lt h0).mpr h
    omega
end L3

namespace L3
open PySem PySem.W PySem.Spec PyProof.Rows L2

def nD (n : Nat) : D := .int n
def tN (w : List Nat) : D := .tuple (w.map nD)
def fN (F : List (List Nat)) : D := .tuple (F.map tN)
theorem alike_ints_all : ∀ (a b : List Nat), alikeAll (a.map nD) (b.map nD) = true
  | [], _ => rfl
  | _ :: _, [] => rfl
  | x :: xs, y :: ys => by
    show (alike (nD x) (nD y) && alikeAll (xs.map nD) (ys.map nD)) = true
    rw [alike_ints_all xs ys]; rfl
theorem alike_tN (a b : List Nat) : alike (tN a) (tN b) = true := alike_ints_all a b
theorem depth_nDs (a : List Nat) : PyData.depthAll (a.map nD) = 0 := by
  induction a with
  | nil => rfl
  | cons x xs ih => show max (nD x).depth (PyData.depthAll (xs.map nD)) = 0; rw [ih]; rfl
theorem depth_tN (a : List Nat) : (tN a).depth = 1 := by
  show PyData.depthAll (a.map nD) + 1 = 1; rw [depth_nDs]
theorem depth_tNs (a : List (List Nat)) : PyData.depthAll (a.map tN) ≤ 1 := by
  induction a with
  | nil => exact Nat.zero_le _
  | cons x xs ih => show max (tN x).depth (PyData.depthAll (xs.map tN)) ≤ 1; rw [depth_tN]; omega
theorem noDict_nDs (a : List Nat) : noDictAll (a.map nD) = true := by
  induction a with
  | nil => rfl
  | cons x xs ih => show (noDict (nD x) && noDictAll (xs.map nD)) = true; rw [ih]; rfl
theorem noDict_tN (a : List Nat) : noDict (tN a) = true := noDict_nDs a
theorem noDict_tNs (a : List (List Nat)) : noDictAll (a.map tN) = true := by
  induction a with
  | nil => rfl
  | cons x xs ih => show (noDict (tN x) && noDictAll (xs.map tN)) = true; rw [ih, noDict_tN]; rfl
theorem sortOk_ints {a : List Nat} (h : a.length ≤ sizeLine) : sortOk (a.map nD) = true := by
  unfold sortOk
  rw [noDict_nDs]
  simp only [List.length_map, h, decide_true, Bool.and_true, List.all_eq_true, Bool.and_eq_true, List.mem_map, forall_exists_index, and_imp, forall_apply_eq_imp_iff₂, Bool.or_eq_true]
  refine ⟨⟨fun x _ y _ => rfl, .inr fun x _ => rfl⟩, fun x _ => ?_⟩
  refine decide_eq_true ?_
  show (0 : Nat) ≤ 60
  omega
theorem sortOk_ways {a : List (List Nat)} (h : a.length ≤ sizeLine) (hn : ∀ w ∈ a, w ≠ []) : sortOk (a.map tN) = true := by
  unfold sortOk
  rw [noDict_tNs]
  simp only [List.length_map, h, decide_true, Bool.and_true, List.all_eq_true, Bool.and_eq_true, List.mem_map, forall_exists_index, and_imp, forall_apply_eq_imp_iff₂, Bool.or_eq_true]
  refine ⟨⟨fun x _ y _ => alike_tN x y, .inl fun x hx => ?_⟩, fun x _ => ?_⟩
  · cases x with
    | nil => exact absurd rfl (hn _ hx)
    | cons _ _ => rfl
  · rw [depth_tN]; decide
def leN (a b : Nat) : Bool := dataLe false id (nD a) (nD b)
def srtN (ns : List Nat) : List Nat := ns.mergeSort leN
def leW (a b : List Nat) : Bool := dataLe false id (tN a) (tN b)
def srtW (ns : List (List Nat)) : List (List Nat) := ns.mergeSort leW
theorem sort_ints (ns : List Nat) : (ns.map nD).mergeSort (dataLe false id) = (srtN ns).map nD := (List.map_mergeSort (r := leN) (s := dataLe false id) (f := nD) (l := ns) fun _ _ _ _ => rfl).symm
theorem sort_ways (ns : List (List Nat)) : (ns.map tN).mergeSort (dataLe false id) = (srtW ns).map tN := (List.map_mergeSort (r := leW) (s := dataLe false id) (f := tN) (l := ns) fun _ _ _ _ => rfl).symm
theorem srtN_perm (ns : List Nat) : (srtN ns).Perm ns := List.mergeSort_perm _ _
theorem srtW_perm (ns : List (List Nat)) : (srtW ns).Perm ns := List.mergeSort_perm _ _
theorem intsOf_nDs (ns : List Nat) : intsOf (ns.map nD) = some (ns.map fun (n : Nat) => (n : Int)) := by
  induction ns with
  | nil => rfl
  | cons n ns ih => show (intsOf (ns.map nD)).map ((n : Int) :: ·) = _; rw [ih]; rfl
theorem boolsOf_bools {α : Type} (f : α → Bool) (xs : List α) : boolsOf (xs.map fun x => PyData.bool (f x)) = some (xs.map f) := by
  induction xs with
  | nil => rfl
  | cons n ns ih => show (boolsOf (ns.map _)).map (f n :: ·) = _; rw [ih]; rfl

def VB (b : List D) : Prop := ∃ g r : Int, b = [.int g, .int r] ∧ 0 ≤ g ∧ 0 ≤ r ∧ r < 2 ^ 40
@[simp] theorem pLen_scr {ns : List Int} : pLen [scr ns] = some (.d (.int ns.length)) := by
  show (if ((ns.map fun n => (PyData.none, PyData.int n)).all fun kv => match kv.1 with | .none => true | _ => false) = true then some (PO.d (PyData.int ((ns.map fun n => (PyData.none, PyData.int n)).length : Nat))) else none) = _
  rw [if_pos (by rw [List.all_map]; exact List.all_eq_true.mpr fun _ _ => rfl), List.length_map]
@[simp] theorem pIx_scr {ns : List Int} {i : Int} : pIx (scr ns) (.int i) = (atI ns i).map fun n => .d (.int n) := by
  show (if ((ns.map fun n => (PyData.none, PyData.int n)).all fun kv => match kv.1 with | .none => true | _ => false) = true then (atI ((ns.map fun n => (PyData.none, PyData.int n)).map (·.2)) i).map PO.d else none) = _
  rw [if_pos (by rw [List.all_map]; exact List.all_eq_true.mpr fun _ _ => rfl)]
  have em : (ns.map fun n => (PyData.none, PyData.int n)).map (·.2) = ns.map PyData.int := by rw [List.map_map]; rfl
  rw [em, atI_map, Option.map_map]
  rfl
theorem mulS {a b : Nat} (ha : a < 2 ^ 64) (hb : b < 2 ^ 64) : a.log2 + b.log2 < 1000000 := by
  have h1 := log2_lt (k := 63) ha
  have h2 := log2_lt (k := 63) hb
  omega
theorem divS {a : Nat} (ha : a < 2 ^ 64) : a.log2 < 9000 := by
  have h1 := log2_lt (k := 63) ha
  omega
theorem modN (x : Int) {m : Int} (h : 0 < m) : ∃ d : Nat, x % m = d ∧ (d : Int) < m :=
  ⟨(x % m).toNat, by rw [Int.toNat_of_nonneg (Int.emod_nonneg x (by omega))], by rw [Int.toNat_of_nonneg (Int.emod_nonneg x (by omega))]; exact Int.emod_lt_of_pos x h⟩
@[simp] theorem back_mk {env env0 : List (Option Sl)} {box box0 : List D} {vs : List Nat} : S.back ⟨env, box⟩ ⟨env0, box0⟩ vs = ⟨backE env0 env vs, box⟩ := rfl
@[simp] theorem backE_cons {env env0 : List (Option Sl)} {v : Nat} {vs : List Nat} : backE env0 env (v :: vs) = backE env0 (env.set v (slotOf env0 v)) vs := rfl
@[simp] theorem backE_nil {env env0 : List (Option Sl)} : backE env0 env [] = env := rfl
@[simp] theorem clean_mk {env : List (Option Sl)} {box : List D} {vs : List Nat} : S.clean ⟨env, box⟩ vs = vs.all fun v => okSlot env[v]? := rfl
@[simp] theorem wipe_mk {env : List (Option Sl)} {box : List D} {vs : List Nat} : S.wipe ⟨env, box⟩ vs = ⟨wipeE env vs, box⟩ := rfl
@[simp] theorem wipeE_cons {env : List (Option Sl)} {v : Nat} {vs : List Nat} : wipeE env (v :: vs) = (wipeE env vs).set v none := rfl
@[simp] theorem wipeE_nil {env : List (Option Sl)} : wipeE env [] = env := rfl
@[simp] theorem okSlot_none : okSlot (some none) = true := rfl
@[simp] theorem okSlot_val {d : D} : okSlot (some (some (.val d))) = true := rfl
@[simp] theorem slotOf_mk {env : List (Option Sl)} {v : Nat} : slotOf env v = match env[v]? with | some x => x | none => none := rfl
end L3

namespace L3
open PySem PySem.W PySem.Spec PyProof.Rows L2

theorem size_eq : sizeLine = 16777216 := rfl
theorem popAt_n {ds : List D} {d : Nat} (h : d < ds.length) (hl : ds.length ≤ sizeLine) : mPopAt ds [.int (d : Int)] = some (ds[d], ds.eraseIdx d) := by
  unfold mPopAt
  rw [size_eq] at hl
  have h2 : seqIndex? (d : Int) ds.length = some d := by
    rw [seqIndex_of (by omega) (by omega)]; simp
  simp only [h2]
  rw [if_pos (by omega), List.getElem?_eq_getElem h]
  rfl
theorem erase_perm {α : Type} : ∀ {l : List α} {d : Nat} (h : d < l.length), (l[d] :: l.eraseIdx d).Perm l
  | [], _, h => by cases h
  | x :: xs, 0, _ => .refl _
  | x :: xs, d + 1, h => by
    have := erase_perm (l := xs) (d := d) (by simpa using h)
    exact (List.Perm.swap x _ _).trans (this.cons x)
theorem perm_pop {α : Type} {f l xs : List α} {d : Nat} (h : d < l.length) (p : (f ++ l).Perm xs) : ((f ++ [l[d]]) ++ l.eraseIdx d).Perm xs := by
  refine List.Perm.trans ?_ p
  rw [List.append_assoc]
  refine List.Perm.append_left f ?_
  exact erase_perm h
theorem range_nD (n : Nat) : dRange 0 n = (List.range n).map nD := by
  unfold dRange nD
  refine List.map_congr_left fun i _ => ?_
  simp
theorem range_at {n i : Nat} {d : D} (h : (dRange 0 n)[i]? = some d) : i < n ∧ d = .int (i : Int) := by
  rw [range_nD, List.getElem?_map] at h
  by_cases hi : i < n
  · rw [List.getElem?_range hi] at h
    cases h
    exact ⟨hi, rfl⟩
  · rw [List.getElem?_eq_none (by simpa using hi)] at h
    cases h
@[simp] theorem range_len (a : Int) (n : Nat) : (dRange a n).length = n := by unfold dRange; simp
end L3

namespace L3
open PySem PySem.W PySem.Spec PyProof.Rows L2

def addK (ks : List Nat) (n : Nat) : List Nat := if n ∈ ks then ks else ks ++ [n]
def joinedN (F : List (List Nat)) : List Nat := srtN (F.flatten.foldl addK [])
def trueK (ks : List Nat) : List (Key × D) := ks.map fun (n : Nat) => (Sum.inl (n : Int), PyData.bool true)
theorem trueK_len (ks : List Nat) : (trueK ks).length = ks.length := by unfold trueK; simp
theorem keys_true (ks : List Nat) : (trueK ks).map (fun kv => kD kv.1) = ks.map nD := by unfold trueK; rw [List.map_map]; rfl
theorem any_true (ks : List Nat) (n : Nat) : ((trueK ks).any fun kv => decide (kv.1 = Sum.inl (n : Int))) = decide (n ∈ ks) := by
  unfold trueK
  induction ks with
  | nil => simp
  | cons k ks ih =>
    rw [List.map_cons, List.any_cons, ih]
    by_cases h : k = n
    · subst h; simp
    · have h2 : ¬ (n = k) := fun e => h e.symm
      have h3 : ¬ ((k : Int) = (n : Int)) := fun e => h (Int.ofNat.inj e)
      simp [h2, h3]
theorem putD_true (ks : List Nat) (n : Nat) : putD (trueK ks) (Sum.inl (n : Int)) (.bool true) = trueK (addK ks n) := by
  unfold putD addK
  rw [any_true]
  by_cases h : n ∈ ks
  · rw [if_pos (decide_eq_true h), if_pos h]
    unfold trueK
    rw [List.map_map]
    refine List.map_congr_left fun k _ => ?_
    by_cases e : (k : Int) = (n : Int)
    · simp [e]
    · simp [e]
  · rw [if_neg (by simpa using h), if_neg h]
    unfold trueK
    rw [List.map_append]; rfl
theorem addK_len (ns : List Nat) : ∀ ks : List Nat, (ns.foldl addK ks).length ≤ ks.length + ns.length := by
  induction ns with
  | nil => intro ks; simp
  | cons n ns ih =>
    intro ks
    rw [List.foldl_cons]
    have := ih (addK ks n)
    have h2 : (addK ks n).length ≤ ks.length + 1 := by unfold addK; split <;> simp
    simp only [List.length_cons]
    omega
theorem addK_mem (ns : List Nat) : ∀ (ks : List Nat) (x : Nat), x ∈ ns.foldl addK ks ↔ x ∈ ks ∨ x ∈ ns := by
  induction ns with
  | nil => intro ks x; simp
  | cons n ns ih =>
    intro ks x
    rw [List.foldl_cons, ih]
    unfold addK
    by_cases h : n ∈ ks
    · rw [if_pos h]
      constructor
      · rintro (h1 | h1)
        · exact .inl h1
        · exact .inr (List.mem_cons_of_mem _ h1)
      · rintro (h1 | h1)
        · exact .inl h1
        · rcases List.mem_cons.mp h1 with rfl | h1
          · exact .inl h
          · exact .inr h1
    · rw [if_neg h]
      simp [or_assoc]
theorem addK_nodup (ns : List Nat) : ∀ (ks : List Nat), ks.Nodup → (ns.foldl addK ks).Nodup := by
  induction ns with
  | nil => intro ks h; exact h
  | cons n ns ih =>
    intro ks h
    rw [List.foldl_cons]
    refine ih _ ?_
    unfold addK
    split
    · exact h
    · rename_i hn
      exact List.nodup_append.mpr ⟨h, by simp, fun a ha b hb e => by
        simp at hb; subst hb; subst e; exact hn ha⟩
theorem joinedN_mem {F : List (List Nat)} {x : Nat} : x ∈ joinedN F ↔ ∃ w ∈ F, x ∈ w := by
  unfold joinedN
  rw [(srtN_perm _).mem_iff, addK_mem]
  simp [List.mem_flatten]
theorem joinedN_nodup (F : List (List Nat)) : (joinedN F).Nodup := (srtN_perm _).nodup_iff.mpr (addK_nodup _ _ List.nodup_nil)
theorem len_of_mem {xs ys : List Nat} (hx : xs.Nodup) (hy : ys.Nodup) (h : ∀ a, a ∈ xs ↔ a ∈ ys) : xs.length = ys.length :=
  ((List.perm_ext_iff_of_nodup hx hy).mpr h).length_eq
theorem joinedN_range {F : List (List Nat)} {n : Nat} (h : ∀ x, (∃ w ∈ F, x ∈ w) ↔ x < n) : (joinedN F).length = n := by
  have := len_of_mem (joinedN_nodup F) (List.nodup_range (n := n)) fun a => by rw [joinedN_mem, h, List.mem_range]
  rw [this, List.length_range]
end L3

namespace L3
open PySem PySem.W PySem.Spec PyProof.Rows L2

def occ (F : List (List Nat)) (st : List Nat) : List Nat := st.flatMap fun j => F.getD j []
def loadsN (n : Nat) (ws : List Nat) : List Nat := (List.range n).map fun t => ws.count t
end L3

namespace L3
open PySem PySem.W PySem.Spec PyProof.Rows L2

theorem wp_mapE {α : Type} {env : List (Option Sl)} {box : List D} {v : Nat} {f : M D} {Q : List D → S → Prop} {xs : List α} (e : α → D) (h : α → D) (hl : xs.length ≤ sizeLine)
    (hb : ∀ x ∈ xs, Wp (f ⟨env.set v (some (.val (e x))), box⟩) fun y s' => y = h x ∧ s' = ⟨env.set v (some (.val (e x))), box⟩)
    (hq : Q (xs.map h) ⟨env.set v none, box⟩) : Wp (compL (gN v) (mret true) f [v] (xs.map e) [] ⟨env, box⟩) Q := by
  refine wp_compL (fun i acc s => acc = (xs.take i).map h ∧ ∃ y, s = ⟨env.set v y, box⟩ ∨ (i = 0 ∧ s = ⟨env, box⟩)) ⟨by simp, none, .inr ⟨rfl, rfl⟩⟩ (fun i d acc s hi hI => ?_) fun acc s hI => ?_
  · obtain ⟨rfl, y, hs⟩ := hI
    have es : s.wipe [v] = ⟨env.set v none, box⟩ := by
      rcases hs with rfl | ⟨_, rfl⟩
      · show (⟨(env.set v y).set v none, box⟩ : S) = _
        rw [List.set_set]
      · rfl
    rw [es]
    simp only [gN_def, cV_some, wp_mret, setv_mk, List.set_set]
    refine ⟨fun _ => ?_, fun z => by cases z⟩
    rw [List.getElem?_map] at hi
    cases hx : xs[i]? with
    | none => rw [hx] at hi; cases hi
    | some x =>
      rw [hx] at hi; cases hi
      have hm : x ∈ xs := List.mem_of_getElem? hx
      have hlt : i < xs.length := (List.getElem?_eq_some_iff.mp hx).1
      refine (hb x hm).mono fun y s' hx' => ?_
      obtain ⟨rfl, rfl⟩ := hx'
      refine ⟨?_, ?_, some (.val (e x)), .inl rfl⟩
      · rw [List.length_map, List.length_take]; omega
      · rw [List.take_add_one, hx, List.map_append]; rfl
  · obtain ⟨rfl, y, hs⟩ := hI
    rw [List.length_map, List.take_length]
    rcases hs with rfl | ⟨_, rfl⟩
    · show Q _ ⟨(env.set v y).set v none, box⟩
      rw [List.set_set]; exact hq
    · exact hq
theorem wp_filterE {α : Type} {env : List (Option Sl)} {box : List D} {v : Nat} {c : M Bool} {f : M D} {Q : List D → S → Prop} {xs : List α} (e : α → D) (p : α → Bool) (h : α → D) (hl : xs.length ≤ sizeLine)
    (hc : ∀ x ∈ xs, Wp (c ⟨env.set v (some (.val (e x))), box⟩) fun y s' => y = p x ∧ s' = ⟨env.set v (some (.val (e x))), box⟩)
    (hb : ∀ x ∈ xs, p x = true → Wp (f ⟨env.set v (some (.val (e x))), box⟩) fun y s' => y = h x ∧ s' = ⟨env.set v (some (.val (e x))), box⟩)
    (hq : Q ((xs.filter p).map h) ⟨env.set v none, box⟩) : Wp (compL (gN v) c f [v] (xs.map e) [] ⟨env, box⟩) Q := by
  refine wp_compL (fun i acc s => acc = ((xs.take i).filter p).map h ∧ ∃ y, s = ⟨env.set v y, box⟩ ∨ (i = 0 ∧ s = ⟨env, box⟩)) ⟨by simp, none, .inr ⟨rfl, rfl⟩⟩ (fun i d acc s hi hI => ?_) fun acc s hI => ?_
  · obtain ⟨rfl, y, hs⟩ := hI
    have es : s.wipe [v] = ⟨env.set v none, box⟩ := by
      rcases hs with rfl | ⟨_, rfl⟩
      · show (⟨(env.set v y).set v none, box⟩ : S) = _
        rw [List.set_set]
      · rfl
    rw [es]
    simp only [gN_def, cV_some, setv_mk, List.set_set]
    rw [List.getElem?_map] at hi
    cases hx : xs[i]? with
    | none => rw [hx] at hi; cases hi
    | some x =>
      rw [hx] at hi; cases hi
      have hm : x ∈ xs := List.mem_of_getElem? hx
      have hlt : i < xs.length := (List.getElem?_eq_some_iff.mp hx).1
      refine (hc x hm).mono fun y s' hx' => ?_
      obtain ⟨rfl, rfl⟩ := hx'
      refine ⟨fun hp => (hb x hm hp).mono fun y s' hx' => ?_, fun hp => ⟨?_, some (.val (e x)), .inl rfl⟩⟩
      · obtain ⟨rfl, rfl⟩ := hx'
        refine ⟨?_, ?_, some (.val (e x)), .inl rfl⟩
        · rw [List.length_map]
          have := List.length_filter_le p (xs.take i)
          rw [List.length_take] at this
          omega
        · rw [List.take_add_one, hx, List.filter_append, List.map_append]; simp [hp]
      · rw [List.take_add_one, hx, List.filter_append, List.map_append]; simp [hp]
  · obtain ⟨rfl, y, hs⟩ := hI
    rw [List.length_map, List.take_length]
    rcases hs with rfl | ⟨_, rfl⟩
    · show Q _ ⟨(env.set v y).set v none, box⟩
      rw [List.set_set]; exact hq
    · exact hq
theorem enum_at {α : Type} {e : α → D} {xs : List α} {i : Nat} {d : D} (h : (dEnum (xs.map e))[i]? = some d) : ∃ x, xs[i]? = some x ∧ d = .tuple [.int (i : Int), e x] := by
  unfold dEnum at h
  rw [List.getElem?_zipWith] at h
  cases hx : xs[i]? with
  | none =>
    rw [List.getElem?_map, hx] at h
    cases h2 : (List.range (xs.map e).length)[i]? <;> rw [h2] at h <;> cases h
  | some x =>
    have hlt : i < xs.length := (List.getElem?_eq_some_iff.mp hx).1
    rw [List.getElem?_map, hx, List.getElem?_range (by rw [List.length_map]; exact hlt)] at h
    exact ⟨x, rfl, (Option.some.inj h).symm⟩
@[simp] theorem itemsM_tN {w : List Nat} : itemsM (tN w) = mret (w.map nD) := rfl
@[simp] theorem itemsM_fN {w : List (List Nat)} : itemsM (fN w) = mret (w.map tN) := rfl
@[simp] theorem pIx_tN {w : List Nat} {i : Int} : pIx (tN w) (.int i) = (atI (w.map nD) i).map .d := rfl
@[simp] theorem pIx_fN {w : List (List Nat)} {i : Int} : pIx (fN w) (.int i) = (atI (w.map tN) i).map .d := rfl
@[simp] theorem pLen_tN {w : List Nat} : pLen [tN w] = some (.d (.int w.length)) := by show some (PO.d (.int ((w.map nD).length : Nat))) = _; rw [List.length_map]
@[simp] theorem pLen_fN {w : List (List Nat)} : pLen [fN w] = some (.d (.int w.length)) := by show some (PO.d (.int ((w.map tN).length : Nat))) = _; rw [List.length_map]
@[simp] theorem enM_fN {w : List (List Nat)} : enM [fN w] = mret (dEnum (w.map tN)) := rfl
@[simp] theorem enM_tN {w : List Nat} : enM [tN w] = mret (dEnum (w.map nD)) := rfl
@[simp] theorem dEnum_len' (ds : List D) : (dEnum ds).length = ds.length := dEnum_len
end L3

namespace L3
open PySem PySem.W PySem.Spec PyProof.Rows L2

theorem intsOf_ints {α : Type} (f : α → Int) (xs : List α) : intsOf (xs.map fun x => PyData.int (f x)) = some (xs.map f) := by
  induction xs with
  | nil => rfl
  | cons n ns ih => show (intsOf (ns.map _)).map (f n :: ·) = _; rw [ih]; rfl
theorem plain_nDs (w : List Nat) : PyData.plainAll (w.map nD) = true := by
  induction w with
  | nil => rfl
  | cons x xs ih => show ((nD x).plain && PyData.plainAll (xs.map nD)) = true; rw [ih]; rfl
theorem any_nDs (w : List Nat) (t : Nat) : ((w.map nD).any fun z => PyData.eqv z (nD t)) = decide (t ∈ w) := by
  induction w with
  | nil => rfl
  | cons x xs ih =>
    rw [List.map_cons, List.any_cons, ih]
    have : PyData.eqv (nD x) (nD t) = decide (x = t) := by
      show ((x : Int) == (t : Int)) = decide (x = t)
      by_cases h : x = t
      · subst h; simp
      · have h3 : ¬ ((x : Int) = (t : Int)) := fun e => h (Int.ofNat.inj e)
        simp [h, h3]
    rw [this]
    by_cases h : x = t
    · subst h; simp
    · have h2 : ¬ (t = x) := fun e => h e.symm
      simp [h, h2]
theorem pIn_tN (t : Nat) (w : List Nat) : nd2 pIn (.int (t : Int)) (tN w) = some (decide (t ∈ w)) := by
  refine nd2_some ?_ rfl (noDict_tN w)
  show (if inOk (nD t) (w.map nD) then some ((w.map nD).any fun z => PyData.eqv z (nD t)) else none) = _
  have : inOk (nD t) (w.map nD) = true := by
    unfold inOk
    rw [plain_nDs]
    rfl
  rw [if_pos this, any_nDs]
end L3

namespace L3
open PySem PySem.W PySem.Spec PyProof.Rows L2

inductive Okd : Nat → D → Prop
  | non (n : Nat) : Okd n .none
  | bool (n : Nat) (b : Bool) : Okd n (.bool b)
  | int (n : Nat) (i : Int) : Okd n (.int i)
  | str (n : Nat) (x : Str) : PyData.strOk x = true → Okd n (.str x)
  | tup (n : Nat) (xs : List D) : (∀ x ∈ xs, Okd n x) → Okd (n + 1) (.tuple xs)
theorem ndEqS {x : Str} (h : PyData.strOk x = true) : nd2 pEq (.str x) (.str x) = some true := by
  refine nd2_some ?_ rfl rfl
  unfold pEq
  have : SeqAt.shaped (.str x) = true := by
    unfold SeqAt.shaped
    have h1 : (PyData.str x).canLay0 = true := by rw [PyData.canLay0]; exact h
    have h2 : (PyData.str x).depth = 0 := by rw [PyData.depth]
    rw [h1, h2]; rfl
  rw [this]
  show some (PyData.eqv (.str x) (.str x)) = some true
  rw [PyData.eqv, beq_self_eq_true]
@[simp] theorem ndEqB {a b : Bool} : nd2 pEq (.bool a) (.bool b) = some (a == b) := rfl
@[simp] theorem isBo_bool {a b : Bool} : pIsBo (.bool a) (.bool b) = some (a == b) := rfl
@[simp] theorem isBo_int {a : Int} {b : Bool} : pIsBo (.int a) (.bool b) = some false := rfl
@[simp] theorem isBo_str {a : Str} {b : Bool} : pIsBo (.str a) (.bool b) = some false := rfl
@[simp] theorem isBo_none {b : Bool} : pIsBo .none (.bool b) = some false := rfl
@[simp] theorem isBo_tuple {a : List D} {b : Bool} : pIsBo (.tuple a) (.bool b) = some false := rfl
@[simp] theorem isN_int {a : Int} : pIsN (.int a) .none = some false := rfl
@[simp] theorem isN_str {a : Str} : pIsN (.str a) .none = some false := rfl
@[simp] theorem isN_bool {a : Bool} : pIsN (.bool a) .none = some false := rfl
@[simp] theorem isN_none : pIsN .none .none = some true := rfl
@[simp] theorem isN_tuple {a : List D} : pIsN (.tuple a) .none = some false := rfl
@[simp] theorem notN_int {a : Int} : pNotN (.int a) .none = some true := rfl
@[simp] theorem notN_none : pNotN .none .none = some false := rfl
@[simp] theorem notN_tuple {a : List D} : pNotN (.tuple a) .none = some true := rfl
theorem zip_at {xs ys : List D} {i : Nat} {d : D} (h : (dZip xs ys)[i]? = some d) : ∃ x y, xs[i]? = some x ∧ ys[i]? = some y ∧ d = .tuple [x, y] := by
  unfold dZip at h
  rw [List.getElem?_zipWith] at h
  cases hx : xs[i]? with
  | none => rw [hx] at h; cases h2 : ys[i]? <;> rw [h2] at h <;> cases h
  | some x =>
    cases hy : ys[i]? with
    | none => rw [hx, hy] at h; cases h
    | some y => rw [hx, hy] at h; exact ⟨x, y, rfl, rfl, (Option.some.inj h).symm⟩
@[simp] theorem dZip_len' (xs ys : List D) : (dZip xs ys).length = min xs.length ys.length := dZip_len
end L3

namespace L3
open PySem PySem.W PySem.Spec PyProof.Rows L2

section
variable {s : S} {env : List (Option Sl)} {box : List D}
@[simp ↓] theorem wp_eComp2 {it : M (List D)} {vs : List Nat} {g : D → S → Option S} {c : M Bool} {it1 : M (List D)} {vs1 : List Nat} {g1 : D → S → Option S} {c1 : M Bool} {f : M D} {Q : R → S → Prop} :
    Wp (eComp2 it vs g c it1 vs1 g1 c1 f s) Q = Wp (it s) fun ds s0 => s0.clean vs = true ∧ Wp (compO g c it1 g1 c1 f vs vs1 ds [] s0) fun acc s' => Q (.new (.lst acc)) (s'.back s0 vs) := by
  unfold eComp2
  rw [wp_mbind]
  congr 1
  funext ds s0
  by_cases h : s0.clean vs = true
  · rw [if_pos h]
    cases compO g c it1 g1 c1 f vs vs1 ds [] s0 with
    | ok acc s' => simp [h, Wp]
    | stuck => simp [h, Wp]
    | exc _ _ _ => simp [h, Wp]
  · rw [if_neg h]
    simp [h, Wp]
end
end L3

namespace L3
open PySem PySem.W PySem.Spec PyProof.Rows L2

@[simp] theorem pSl_list {xs : List D} {lo hi : Option Int} : pSl (.list xs) lo hi = some (.l (cutL xs lo hi)) := rfl
@[simp] theorem pSl_tuple {xs : List D} {lo hi : Option Int} : pSl (.tuple xs) lo hi = some (.t (cutL xs lo hi)) := rfl
@[simp] theorem pSl_tN {w : List Nat} {lo hi : Option Int} : pSl (tN w) lo hi = some (.t (cutL (w.map nD) lo hi)) := rfl
theorem cut_from {α : Type} {xs : List α} {i : Nat} : cutL xs (some (i : Int)) none = xs.drop i := by
  unfold cutL
  rw [HT.sIx_nat, HT.sIx_none]
  by_cases h : i ≤ xs.length
  · rw [Nat.min_eq_left h, List.take_of_length_le (by rw [List.length_drop]; omega)]
  · rw [Nat.min_eq_right (by omega), List.drop_eq_nil_of_le (by omega), List.drop_eq_nil_of_le (by omega)]; simp
theorem cut_to {α : Type} {xs : List α} {i : Nat} : cutL xs none (some (i : Int)) = xs.take i := by
  unfold cutL
  rw [HT.sIx_nat, HT.sIx_none, List.drop_zero, Nat.sub_zero]
  by_cases h : i ≤ xs.length
  · rw [Nat.min_eq_left h]
  · rw [Nat.min_eq_right (by omega), List.take_length, List.take_of_length_le (by omega)]
@[simp] theorem cut_1 {α : Type} {xs : List α} : cutL xs (some 1) none = xs.drop 1 := cut_from (i := 1)
theorem lay_nDs (w : List Nat) : PyData.canLayAll0 (w.map nD) = true := by
  induction w with
  | nil => rw [List.map_nil, PyData.canLayAll0]
  | cons x xs ih => rw [List.map_cons, PyData.canLayAll0, ih]; unfold nD; rw [PyData.canLay0]; rfl
theorem lay_tN (w : List Nat) : (tN w).canLay0 = true := by unfold tN; rw [PyData.canLay0]; exact lay_nDs w
theorem lay_tNs (w : List (List Nat)) : PyData.canLayAll0 (w.map tN) = true := by
  induction w with
  | nil => rw [List.map_nil, PyData.canLayAll0]
  | cons x xs ih => rw [List.map_cons, PyData.canLayAll0, ih, lay_tN]; rfl
theorem lay_fN (w : List (List Nat)) : (fN w).canLay0 = true := by unfold fN; rw [PyData.canLay0]; exact lay_tNs w
theorem shaped_tN (w : List Nat) : SeqAt.shaped (tN w) = true := by
  unfold SeqAt.shaped
  rw [lay_tN, depth_tN]; rfl
theorem shaped_fN (w : List (List Nat)) : SeqAt.shaped (fN w) = true := by
  unfold SeqAt.shaped
  rw [lay_fN]
  have : (fN w).depth ≤ 64 := by
    show PyData.depthAll (w.map tN) + 1 ≤ 64
    have := depth_tNs w
    omega
  simp [this]
theorem eqv_nD (a b : Nat) : PyData.eqv (nD a) (nD b) = decide (a = b) := by
  unfold nD
  rw [PyData.eqv]
  by_cases h : a = b
  · subst h; simp
  · have h3 : ¬ ((a : Int) = (b : Int)) := fun e => h (Int.ofNat.inj e)
    simp [h, h3]
theorem eqv_nDs : ∀ a b : List Nat, PyData.eqvAll (a.map nD) (b.map nD) = decide (a = b)
  | [], [] => by simp [PyData.eqvAll]
  | [], _ :: _ => by simp [PyData.eqvAll]
  | _ :: _, [] => by simp [PyData.eqvAll]
  | x :: xs, y :: ys => by
    rw [List.map_cons, List.map_cons, PyData.eqvAll, eqv_nD, eqv_nDs xs ys]
    by_cases h : x = y <;> simp [h]
theorem eqv_tN (a b : List Nat) : PyData.eqv (tN a) (tN b) = decide (a = b) := by
  unfold tN
  rw [PyData.eqv]
  exact eqv_nDs a b
theorem eqv_tNs : ∀ a b : List (List Nat), PyData.eqvAll (a.map tN) (b.map tN) = decide (a = b)
  | [], [] => by simp [PyData.eqvAll]
  | [], _ :: _ => by simp [PyData.eqvAll]
  | _ :: _, [] => by simp [PyData.eqvAll]
  | x :: xs, y :: ys => by
    rw [List.map_cons, List.map_cons, PyData.eqvAll, eqv_tN, eqv_tNs xs ys]
    by_cases h : x = y <;> simp [h]
@[simp] theorem ndEq_tN {a b : List Nat} : nd2 pEq (tN a) (tN b) = some (decide (a = b)) := by
  refine nd2_some ?_ (noDict_tN a) (noDict_tN b)
  unfold pEq
  rw [shaped_tN, shaped_tN]
  show some (PyData.eqv (tN a) (tN b)) = _
  rw [eqv_tN]
theorem noDict_fN (a : List (List Nat)) : noDict (fN a) = true := noDict_tNs a
@[simp] theorem ndEq_fN {a b : List (List Nat)} : nd2 pEq (fN a) (fN b) = some (decide (a = b)) := by
  refine nd2_some ?_ (noDict_fN a) (noDict_fN b)
  unfold pEq
  rw [shaped_fN, shaped_fN]
  show some (PyData.eqv (fN a) (fN b)) = _
  unfold fN
  rw [PyData.eqv, eqv_tNs]
@[simp] theorem ndIn_tN {t : Nat} {w : List Nat} : nd2 pIn (.int (t : Int)) (tN w) = some (decide (t ∈ w)) := pIn_tN t w
@[simp] theorem ndNotIn_tN {t : Nat} {w : List Nat} : nd2 pNotIn (.int (t : Int)) (tN w) = some (!decide (t ∈ w)) := by
  have h := pIn_tN t w
  unfold nd2 at h ⊢
  split at h
  · rename_i c
    rw [if_pos c]
    unfold pNotIn
    rw [h]; rfl
  · cases h
inductive Shp | path | fan | bridge | square deriving DecidableEq
def Shp.s : Shp → Str
  | .path => "path"
  | .fan => "fan"
  | .bridge => "bridge"
  | .square => "square"
def shD (k : Shp) : D := .str k.s
@[simp] theorem shp_fan (k : Shp) : nd2 pEq (shD k) (.str "fan") = some (decide (k = .fan)) := by cases k <;> decide +kernel
@[simp] theorem shp_bridge (k : Shp) : nd2 pEq (shD k) (.str "bridge") = some (decide (k = .bridge)) := by cases k <;> decide +kernel
@[simp] theorem shp_path (k : Shp) : nd2 pEq (shD k) (.str "path") = some (decide (k = .path)) := by cases k <;> decide +kernel
@[simp] theorem shpN_fan (k : Shp) : nd2 pNe (shD k) (.str "fan") = some (!decide (k = .fan)) := by cases k <;> decide +kernel
end L3

namespace L3
open PySem PySem.W PySem.Spec PyProof.Rows L2

def cross (J W : List (List Nat)) : List (List Nat) := J.flatMap fun w => W.map fun m => srtN (w ++ m)
def crossAll (Ws : List (List (List Nat))) : List (List Nat) := Ws.foldl cross [[]]
abbrev Pt := D × List (List Nat) × List Nat
def ptD (p : Pt) : D := .tuple [p.1, .list (p.2.1.map tN)]
def rowD (ts : List D) : D := .tuple [.str "row", .tuple ts]
def sideD (ts : List D) : D := .tuple [.str "side", .tuple ts]
inductive Sp (m : Nat) : D → List (List Nat) → List Nat → Prop
  | leaf (n : Nat) : Sp m (nD n) [[n]] [n]
  | row (ps : List Pt) : (∀ p ∈ ps, Sp m p.1 p.2.1 p.2.2) → 2 ≤ ps.length → ps.length ≤ 3 → (crossAll (ps.map (·.2.1))).length ≤ m → Sp m (rowD (ps.map (·.1))) (crossAll (ps.map (·.2.1))) (ps.flatMap (·.2.2))
  | side (ps : List Pt) : (∀ p ∈ ps, Sp m p.1 p.2.1 p.2.2) → 2 ≤ ps.length → ps.length ≤ 3 → Sp m (sideD (ps.map (·.1))) (ps.flatMap (·.2.1)) (ps.flatMap (·.2.2))

theorem cross_len (J W : List (List Nat)) : (cross J W).length = J.length * W.length := by
  unfold cross
  induction J with
  | nil => simp
  | cons a J ih => rw [List.flatMap_cons, List.length_append, ih, List.length_map, List.length_cons, Nat.add_mul, Nat.one_mul, Nat.add_comm]
theorem cross_mem {J W : List (List Nat)} {v : List Nat} : v ∈ cross J W ↔ ∃ w ∈ J, ∃ m ∈ W, v = srtN (w ++ m) := by
  unfold cross
  rw [List.mem_flatMap]
  constructor
  · rintro ⟨w, hw, hv⟩
    obtain ⟨m, hm, rfl⟩ := List.mem_map.mp hv
    exact ⟨w, hw, m, hm, rfl⟩
  · rintro ⟨w, hw, m, hm, rfl⟩
    exact ⟨w, hw, List.mem_map.mpr ⟨m, hm, rfl⟩⟩
theorem srtN_mem {w : List Nat} {x : Nat} : x ∈ srtN w ↔ x ∈ w := (srtN_perm w).mem_iff
structure Ways (W : List (List Nat)) (th : List Nat) : Prop where
  nodup : ∀ w ∈ W, w.Nodup
  sub : ∀ w ∈ W, ∀ x ∈ w, x ∈ th
  all : ∀ x ∈ th, ∃ w ∈ W, x ∈ w
  some : W ≠ []
theorem Ways.cross {J W : List (List Nat)} {a b : List Nat} (h1 : Ways J a) (h2 : Ways W b) (hd : ∀ x ∈ a, x ∉ b) : Ways (cross J W) (a ++ b) where
  nodup := fun v hv => by
    obtain ⟨w, hw, m, hm, rfl⟩ := cross_mem.mp hv
    refine (srtN_perm _).nodup_iff.mpr (List.nodup_append.mpr ⟨h1.nodup w hw, h2.nodup m hm, fun x hx y hy e => ?_⟩)
    subst e
    exact hd x (h1.sub w hw x hx) (h2.sub m hm x hy)
  sub := fun v hv x hx => by
    obtain ⟨w, hw, m, hm, rfl⟩ := cross_mem.mp hv
    rw [srtN_mem, List.mem_append] at hx
    rw [List.mem_append]
    rcases hx with hx | hx
    · exact .inl (h1.sub w hw x hx)
    · exact .inr (h2.sub m hm x hx)
  all := fun x hx => by
    obtain ⟨w0, hw0⟩ := List.exists_mem_of_ne_nil _ h1.some
    obtain ⟨m0, hm0⟩ := List.exists_mem_of_ne_nil _ h2.some
    rw [List.mem_append] at hx
    rcases hx with hx | hx
    · obtain ⟨w, hw, hxw⟩ := h1.all x hx
      exact ⟨_, cross_mem.mpr ⟨w, hw, m0, hm0, rfl⟩, srtN_mem.mpr (List.mem_append_left _ hxw)⟩
    · obtain ⟨w, hw, hxw⟩ := h2.all x hx
      exact ⟨_, cross_mem.mpr ⟨w0, hw0, w, hw, rfl⟩, srtN_mem.mpr (List.mem_append_right _ hxw)⟩
  some := fun e => by
    obtain ⟨w0, hw0⟩ := List.exists_mem_of_ne_nil _ h1.some
    obtain ⟨m0, hm0⟩ := List.exists_mem_of_ne_nil _ h2.some
    have := cross_mem.mpr ⟨w0, hw0, m0, hm0, rfl⟩
    rw [e] at this; cases this
theorem ways_unit : Ways [[]] [] where
  nodup := fun w hw => by
    rw [List.mem_singleton.mp hw]; exact List.nodup_nil
  sub := fun w hw x hx => by
    rw [List.mem_singleton.mp hw] at hx; exact hx
  all := fun x hx => by cases hx
  some := by simp
theorem foldl_cross_ways : ∀ (ps : List Pt) (J : List (List Nat)) (a : List Nat), Ways J a → (∀ p ∈ ps, Ways p.2.1 p.2.2) → (a ++ ps.flatMap (·.2.2)).Nodup → Ways ((ps.map (·.2.1)).foldl L3.cross J) (a ++ ps.flatMap (·.2.2))
  | [], J, a, h, _, _ => by simpa using h
  | p :: ps, J, a, h, hp, hn => by
    rw [List.flatMap_cons, ← List.append_assoc] at hn ⊢
    have hn' := List.nodup_append.mp hn
    have hn2 := List.nodup_append.mp hn'.1
    refine foldl_cross_ways ps (L3.cross J p.2.1) (a ++ p.2.2) (h.cross (hp p List.mem_cons_self) fun x hx hy => hn2.2.2 x hx x hy rfl) (fun q hq => hp q (List.mem_cons_of_mem _ hq)) hn
theorem Sp.ways {m : Nat} {t : D} {W : List (List Nat)} {th : List Nat} (h : Sp m t W th) : th.Nodup → Ways W th := by
  induction h with
  | leaf n =>
    intro _
    refine ⟨fun w hw => ?_, fun w hw x hx => ?_, fun x hx => ⟨[n], List.mem_singleton.mpr rfl, hx⟩, by simp⟩
    · rw [List.mem_singleton.mp hw]; simp
    · rw [List.mem_singleton.mp hw] at hx; exact hx
  | row ps hp h2 h3 hm ih =>
    intro hn
    have : ∀ p ∈ ps, Ways p.2.1 p.2.2 := fun p hpm => ih p hpm (by
      have := List.Sublist.nodup (l₁ := p.2.2) (l₂ := ps.flatMap (·.2.2)) ?_ hn
      · exact this
      · rw [List.flatMap_def]; exact List.sublist_flatten_of_mem (List.mem_map_of_mem hpm))
    have := foldl_cross_ways ps [[]] [] ways_unit this (by simpa using hn)
    simpa [crossAll] using this
  | side ps hp h2 h3 ih =>
    intro hn
    have hw : ∀ p ∈ ps, Ways p.2.1 p.2.2 := fun p hpm => ih p hpm (by
      have := List.Sublist.nodup (l₁ := p.2.2) (l₂ := ps.flatMap (·.2.2)) ?_ hn
      · exact this
      · rw [List.flatMap_def]; exact List.sublist_flatten_of_mem (List.mem_map_of_mem hpm))
    refine ⟨fun w h => ?_, fun w h x hx => ?_, fun x hx => ?_, fun e => ?_⟩
    · obtain ⟨p, hpm, hwp⟩ := List.mem_flatMap.mp h
      exact (hw p hpm).nodup w hwp
    · obtain ⟨p, hpm, hwp⟩ := List.mem_flatMap.mp h
      exact List.mem_flatMap.mpr ⟨p, hpm, (hw p hpm).sub w hwp x hx⟩
    · obtain ⟨p, hpm, hxp⟩ := List.mem_flatMap.mp hx
      obtain ⟨w, hwp, hxw⟩ := (hw p hpm).all x hxp
      exact ⟨w, List.mem_flatMap.mpr ⟨p, hpm, hwp⟩, hxw⟩
    · match ps, h2, hw, e with
      | p :: ps, _, hw, e =>
        rw [List.flatMap_cons, List.append_eq_nil_iff] at e
        exact (hw p List.mem_cons_self).some e.1
theorem Sp.things {m : Nat} {t : D} {W : List (List Nat)} {th : List Nat} (h : Sp m t W th) : th ≠ [] := by
  induction h with
  | leaf n => simp
  | row ps hp h2 h3 hm ih =>
    match ps, h2, ih with
    | p :: ps, _, ih =>
      intro e
      rw [List.flatMap_cons, List.append_eq_nil_iff] at e
      exact ih p List.mem_cons_self e.1
  | side ps hp h2 h3 ih =>
    match ps, h2, ih with
    | p :: ps, _, ih =>
      intro e
      rw [List.flatMap_cons, List.append_eq_nil_iff] at e
      exact ih p List.mem_cons_self e.1
theorem foldl_cross_ne : ∀ (ps : List Pt) (J : List (List Nat)), (∀ w ∈ J, w ≠ []) → ∀ w ∈ (ps.map (·.2.1)).foldl cross J, w ≠ []
  | [], J, h => h
  | p :: ps, J, h => by
    rw [List.map_cons, List.foldl_cons]
    refine foldl_cross_ne ps _ fun v hv e => ?_
    obtain ⟨w, hw, m, hm, rfl⟩ := cross_mem.mp hv
    have h0 : w ++ m = [] := by
      have := (srtN_perm (w ++ m)).length_eq
      rw [e] at this
      exact List.length_eq_zero_iff.mp this.symm
    exact h w hw (List.append_eq_nil_iff.mp h0).1
theorem Sp.ne {m : Nat} {t : D} {W : List (List Nat)} {th : List Nat} (h : Sp m t W th) : ∀ w ∈ W, w ≠ [] := by
  induction h with
  | leaf n => intro w hw; simp at hw; subst hw; simp
  | row ps hp h2 h3 hm ih =>
    match ps, h2, ih with
    | p :: ps, _, ih =>
      refine foldl_cross_ne ps _ fun v hv e => ?_
      obtain ⟨w, hw, m, hm, rfl⟩ := cross_mem.mp hv
      have h0 : w ++ m = [] := by
        have := (srtN_perm (w ++ m)).length_eq
        rw [e] at this
        exact List.length_eq_zero_iff.mp this.symm
      exact ih p List.mem_cons_self m hm (List.append_eq_nil_iff.mp h0).2
  | side ps hp h2 h3 ih =>
    intro w hw
    obtain ⟨p, hpm, hwp⟩ := List.mem_flatMap.mp hw
    exact ih p hpm w hwp
theorem Sp.few {m : Nat} (hm1 : 1 ≤ m) {t : D} {W : List (List Nat)} {th : List Nat} (h : Sp m t W th) : W.length ≤ m * th.length := by
  induction h with
  | leaf n => simpa using hm1
  | row ps hp h2 h3 hm ih =>
    have h0 : (Sp.row ps hp h2 h3 hm).things ≠ (Sp.row ps hp h2 h3 hm).things → False := fun h => h rfl
    have : 0 < (ps.flatMap (·.2.2)).length := List.length_pos_iff.mpr (Sp.row ps hp h2 h3 hm).things
    exact Nat.le_trans hm (Nat.le_mul_of_pos_right m this)
  | side ps hp h2 h3 ih =>
    have : ∀ qs : List Pt, (∀ q ∈ qs, q.2.1.length ≤ m * q.2.2.length) → (qs.flatMap (·.2.1)).length ≤ m * (qs.flatMap (·.2.2)).length := by
      intro qs
      induction qs with
      | nil => intro _; simp
      | cons q qs ih2 =>
        intro hq
        rw [List.flatMap_cons, List.flatMap_cons, List.length_append, List.length_append, Nat.mul_add]
        have h1 := hq q List.mem_cons_self
        have h2 := ih2 fun q hq' => hq q (List.mem_cons_of_mem _ hq')
        omega
    exact this ps ih
theorem crossAll_len (Ws : List (List (List Nat))) : ∀ J, (Ws.foldl cross J).length = J.length * (Ws.map List.length).foldl (· * ·) 1 := by
  have key : ∀ (l : List Nat) (a b : Nat), l.foldl (· * ·) (a * b) = a * l.foldl (· * ·) b := by
    intro l
    induction l with
    | nil => intro a b; rfl
    | cons x l ih => intro a b; rw [List.foldl_cons, List.foldl_cons, Nat.mul_assoc, ih]
  induction Ws with
  | nil => intro J; simp
  | cons W Ws ih =>
    intro J
    rw [List.foldl_cons, ih, cross_len, List.map_cons, List.foldl_cons, Nat.one_mul, Nat.mul_assoc]
    congr 1
    have := key (Ws.map List.length) W.length 1
    rw [Nat.mul_one] at this
    exact this.symm
end L3

namespace L3
open PySem PySem.W PySem.Spec PyProof.Rows L2

def Nowhere (W : List (List Nat)) : Prop := ∀ one two : List (List Nat), (∀ w ∈ one, w ∈ W) → (∀ w ∈ two, w ∈ W) → two.length ≤ one.length → one ≠ [] →
  ∃ w ∈ W, ∀ t ∈ w, 0 < one.flatten.count t ∧ two.flatten.count t ≤ one.flatten.count t
theorem part_nodup {ps : List Pt} (hn : (ps.flatMap (·.2.2)).Nodup) : ∀ p ∈ ps, p.2.2.Nodup := fun p hpm => by
  refine List.Sublist.nodup ?_ hn
  rw [List.flatMap_def]; exact List.sublist_flatten_of_mem (List.mem_map_of_mem hpm)
end L3

namespace L3
open PySem PySem.W PySem.Spec PyProof.Rows L2

theorem three_small : ∀ a < 13, ∀ b < 13, ∀ c < 13, a + b + c ≤ 12 → a * b * c ≤ 64 := by decide +kernel
theorem two_small : ∀ a < 13, ∀ b < 13, a + b ≤ 12 → a * b ≤ 36 := by decide +kernel
theorem cross_small {m : Nat} (hm1 : 1 ≤ m) (hm : m ≤ 60) {ps : List Pt} (hp : ∀ p ∈ ps, Sp m p.1 p.2.1 p.2.2) (h3 : ps.length ≤ 3) (hl : (ps.flatMap (·.2.2)).length ≤ 12) (j : Nat) : (((ps.take j).map (·.2.1)).foldl cross [[]]).length ≤ 13824000 := by
  have fw : ∀ p ∈ ps, p.2.1.length ≤ 60 * p.2.2.length := fun p hpm => Nat.le_trans ((hp p hpm).few hm1) (Nat.mul_le_mul_right _ hm)
  rw [crossAll_len]
  match ps, hp, h3, hl, fw with
  | [], _, _, _, _ => simp
  | [p], _, _, hl, fw =>
    have h1 := fw p (by simp)
    simp at hl
    match j with
    | 0 => simp
    | j + 1 => simp; omega
  | [p, q], _, _, hl, fw =>
    have h1 := fw p (by simp)
    have h2 := fw q (by simp)
    simp at hl
    have h12 := Nat.mul_le_mul h1 h2
    have e12 : 60 * p.2.2.length * (60 * q.2.2.length) = 3600 * (p.2.2.length * q.2.2.length) := by
      rw [Nat.mul_mul_mul_comm]
    have t := two_small p.2.2.length (by omega) q.2.2.length (by omega) (by omega)
    match j with
    | 0 => simp
    | 1 => simp; omega
    | j + 2 => simp; omega
  | [p, q, r], _, _, hl, fw =>
    have h1 := fw p (by simp)
    have h2 := fw q (by simp)
    have h3 := fw r (by simp)
    simp at hl
    have h12 := Nat.mul_le_mul h1 h2
    have h123 := Nat.mul_le_mul h12 h3
    have e12 : 60 * p.2.2.length * (60 * q.2.2.length) = 3600 * (p.2.2.length * q.2.2.length) := by
      rw [Nat.mul_mul_mul_comm]
    have e123 : 60 * p.2.2.length * (60 * q.2.2.length) * (60 * r.2.2.length) = 216000 * (p.2.2.length * q.2.2.length * r.2.2.length) := by
      rw [e12, Nat.mul_mul_mul_comm]
    have t := two_small p.2.2.length (by omega) q.2.2.length (by omega) (by omega)
    have t3 := three_small p.2.2.length (by omega) q.2.2.length (by omega) r.2.2.length (by omega) (by omega)
    match j with
    | 0 => simp
    | 1 => simp; omega
    | 2 => simp; omega
    | j + 3 => simp; omega
theorem flat_small {m : Nat} (hm1 : 1 ≤ m) (hm : m ≤ 60) : ∀ {ps : List Pt}, (∀ p ∈ ps, Sp m p.1 p.2.1 p.2.2) → (ps.flatMap (·.2.1)).length ≤ 60 * (ps.flatMap (·.2.2)).length
  | [], _ => by simp
  | p :: ps, hp => by
    have h1 := flat_small hm1 hm fun q hq => hp q (List.mem_cons_of_mem _ hq)
    have h2 := Nat.le_trans ((hp p List.mem_cons_self).few hm1) (Nat.mul_le_mul_right _ hm)
    rw [List.flatMap_cons, List.flatMap_cons, List.length_append, List.length_append]
    omega
theorem cross_take {J W : List (List Nat)} {i : Nat} {w : List Nat} (h : J[i]? = some w) : cross (J.take (i + 1)) W = cross (J.take i) W ++ W.map fun m => srtN (w ++ m) := by
  unfold cross
  rw [List.take_add_one, h, List.flatMap_append]
  simp
theorem erase_map {α β : Type} (e : α → β) : ∀ (xs : List α) (d : Nat), (xs.map e).eraseIdx d = (xs.eraseIdx d).map e
  | [], _ => rfl
  | x :: xs, 0 => rfl
  | x :: xs, d + 1 => by
    show e x :: (xs.map e).eraseIdx d = e x :: (xs.eraseIdx d).map e
    rw [erase_map e xs d]
theorem popAt_map {α : Type} (e : α → D) {ps : List α} {d : Nat} (h : d < ps.length) (hl : ps.length ≤ sizeLine) : mPopAt (ps.map e) [.int (d : Int)] = some (e ps[d], (ps.eraseIdx d).map e) := by
  rw [popAt_n (by rw [List.length_map]; exact h) (by rw [List.length_map]; exact hl), List.getElem_map, erase_map]
@[simp] theorem pAdd_tN {w m : List Nat} : pAdd (tN w) (tN m) = if w.length + m.length ≤ sizeLine then some (.t ((w ++ m).map nD)) else none := by
  show (if (w.map nD).length + (m.map nD).length ≤ sizeLine then some (PO.t (w.map nD ++ m.map nD)) else none) = _
  rw [List.length_map, List.length_map, List.map_append]
@[simp high] theorem sorted_nDs {w : List Nat} : pSorted [.tuple (w.map nD)] = if w.length ≤ sizeLine then some (.l ((srtN w).map nD)) else none := by
  show (if sortOk (w.map nD) then some (PO.l ((w.map nD).mergeSort (dataLe false id))) else none) = _
  rw [sort_ints]
  by_cases h : w.length ≤ sizeLine
  · rw [if_pos h, if_pos (sortOk_ints h)]
  · have : sortOk (w.map nD) = false := by
      unfold sortOk
      rw [List.length_map]
      simp [h]
    rw [if_neg h, this]; rfl
theorem foldl_long {k : Nat} : ∀ (ps : List Pt) (J : List (List Nat)) (c : Nat), (∀ w ∈ J, w.length ≤ c) → (∀ p ∈ ps, ∀ w ∈ p.2.1, w.length ≤ k) → ∀ w ∈ (ps.map (·.2.1)).foldl cross J, w.length ≤ c + k * ps.length
  | [], J, c, h, _ => h
  | p :: ps, J, c, h, hp => by
    intro w hw
    have := foldl_long ps (cross J p.2.1) (c + k) (fun v hv => by
      obtain ⟨x, hx, m, hm, rfl⟩ := cross_mem.mp hv
      rw [(srtN_perm _).length_eq, List.length_append]
      have h1 := h x hx
      have h2 := hp p List.mem_cons_self m hm
      omega) (fun q hq => hp q (List.mem_cons_of_mem _ hq)) w hw
    rw [List.length_cons, Nat.mul_add]
    omega
@[simp] theorem ptD_0 {p : Pt} : pIx (ptD p) (.int 0) = some (.d p.1) := rfl
@[simp] theorem ptD_1 {p : Pt} : pIx (ptD p) (.int 1) = some (.d (.list (p.2.1.map tN))) := rfl
theorem sorted_ways {W : List (List Nat)} (h : W.length ≤ sizeLine) (hn : ∀ w ∈ W, w ≠ []) : pSorted [.list (W.map tN)] = some (.l ((srtW W).map tN)) := by
  rw [pSorted_list, if_pos (sortOk_ways h hn), sort_ways]
theorem len_le_of_sub : ∀ {w th : List Nat}, w.Nodup → (∀ x ∈ w, x ∈ th) → w.length ≤ th.length
  | [], _, _, _ => Nat.zero_le _
  | x :: xs, th, hn, hs => by
    rw [List.nodup_cons] at hn
    have hx := hs x List.mem_cons_self
    have := len_le_of_sub (w := xs) (th := th.erase x) hn.2 fun y hy => (List.mem_erase_of_ne (show y ≠ x from fun e => hn.1 (by rw [← e]; exact hy))).mpr (hs y (List.mem_cons_of_mem _ hy))
    rw [List.length_erase_of_mem hx] at this
    have : 0 < th.length := List.length_pos_of_mem hx
    rw [List.length_cons]
    omega
theorem row_row : nd2 pEq (.str "row") (.str "row") = some true := by decide +kernel
theorem side_row : nd2 pEq (.str "side") (.str "row") = some false := by decide +kernel
theorem mem_map_at {α : Type} {e : α → D} {xs : List α} {i : Nat} {d : D} (h : (xs.map e)[i]? = some d) : ∃ x, xs[i]? = some x ∧ d = e x := by
  rw [List.getElem?_map] at h
  cases hx : xs[i]? with
  | none => rw [hx] at h; cases h
  | some x => rw [hx] at h; exact ⟨x, rfl, (Option.some.inj h).symm⟩
end L3

namespace L3
open PySem PySem.W PySem.Spec PyProof.Rows L2

structure Fam (F : List (List Nat)) (n : Nat) : Prop where
  some : 1 ≤ F.length
  few : F.length ≤ 1000
  ne : ∀ w ∈ F, w ≠ []
  nodup : ∀ w ∈ F, w.Nodup
  dense : ∀ x, (∃ w ∈ F, x ∈ w) ↔ x < n
  flat : F.flatten.length ≤ 100000
  small : n ≤ 12
theorem Fam.lt {F : List (List Nat)} {n : Nat} (h : Fam F n) : ∀ w ∈ F, ∀ t ∈ w, t < n := fun w hw t ht => (h.dense t).mp ⟨w, hw, ht⟩
theorem Fam.joined {F : List (List Nat)} {n : Nat} (h : Fam F n) : (joinedN F).length = n := joinedN_range h.dense
theorem Fam.nil {F : List (List Nat)} {n : Nat} (h : Fam F n) : F ≠ [] := fun e => by have := h.some; rw [e] at this; cases this
theorem Nowhere.perm {A B : List (List Nat)} (h : Nowhere A) (p : ∀ w, w ∈ A ↔ w ∈ B) : Nowhere B := fun one two h1 h2 hl hne => by
  obtain ⟨w, hw, hg⟩ := h one two (fun w hw => (p w).mpr (h1 w hw)) (fun w hw => (p w).mpr (h2 w hw)) hl hne
  exact ⟨w, (p w).mp hw, hg⟩
end L3

namespace L3
open PySem PySem.W PySem.Spec PyProof.Rows L2

theorem leN_eq (a b : Nat) : leN a b = decide (a ≤ b) := by
  have h : leN a b = !(PyProof.Rows.lexLt itemOrd [Sum.inl (b : Int)] [Sum.inl (a : Int)]) := by
    unfold leN dataLe sortLe nD
    simp only [id, keyToks]
    rfl
  rw [h, PyProof.Rows.lex_cons]
  show (!(decide ((b : Int) < a) || (!decide ((a : Int) < b) && PyProof.Rows.lexLt itemOrd [] []))) = _
  have e : PyProof.Rows.lexLt itemOrd [] [] = false := by first | rfl | rw [PyProof.Rows.lexLt]
  rw [e]
  by_cases h : a ≤ b
  · have h2 : ¬ ((b : Int) < a) := by omega
    simp [h, h2]
  · have h2 : ((b : Int) < a) := by omega
    simp [h, h2]
theorem srtN_sorted (w : List Nat) : (srtN w).Pairwise fun a b => a ≤ b := by
  have := List.pairwise_mergeSort (le := leN) (fun a b c h1 h2 => by rw [leN_eq] at *; simp at *; omega) (fun a b => by rw [leN_eq, leN_eq]; simp; omega) w
  refine this.imp fun {a b} h => ?_
  rw [leN_eq] at h
  exact of_decide_eq_true h
theorem sorted_eq {a b : List Nat} (ha : a.Pairwise fun x y => x ≤ y) (hb : b.Pairwise fun x y => x ≤ y) (p : a.Perm b) : a = b :=
  List.Perm.eq_of_pairwise (le := fun x y => x ≤ y) (fun x y _ _ h1 h2 => Nat.le_antisymm h1 h2) ha hb p
theorem srtN_eq {a b : List Nat} (p : a.Perm b) : srtN a = srtN b := sorted_eq (srtN_sorted a) (srtN_sorted b) ((srtN_perm a).trans (p.trans (srtN_perm b).symm))
end L3

namespace L3
open PySem PySem.W PySem.Spec PyProof.Rows L2

end L3

namespace L3
open PySem PySem.W PySem.Spec PyProof.Rows L2
section
variable {s : S}
def kK (g : Fn) (as : List D) (np : Nat) : M R := fun s => if as.length = np then (match g as [] with
  | .ok r _ => .ok r s
  | _ => .stuck) else .stuck
@[simp ↓] theorem wp_eCallK {g : Fn} {ix : List Nat} {np nu nw : Nat} {fs ks : List (M D)} {dd : List D} {Q : R → S → Prop} : Wp (eCallK g ix np nu nw fs ks dd s) Q = Wp (evs fs (fun us => evs ks fun ws => kK g (arr ix nu nw dd us ws) np) s) Q := rfl
@[simp ↓] theorem wp_kK {g : Fn} {as : List D} {np : Nat} {Q : R → S → Prop} : Wp (kK g as np s) Q = (as.length = np ∧ WpF (g as []) fun r _ => Q r s) := by
  unfold kK
  by_cases h : as.length = np
  · rw [if_pos h]
    cases g as [] with
    | ok r b => simp [h, Wp, WpF]
    | stuck => simp [Wp, WpF]
    | exc _ _ _ => simp [Wp, WpF]
  · rw [if_neg h]
    simp [h, Wp]
@[simp] theorem arr_def {α : Type} {ix : List Nat} {nu nw : Nat} {ds us ws : List α} : arr ix nu nw ds us ws = if us.length = nu ∧ ws.length = nw then ix.filterMap fun i => (us ++ (ws ++ ds))[i]? else [] := rfl
end
end L3

namespace L3
open PySem PySem.W PySem.Spec PyProof.Rows L2

def lN (w : List Nat) : D := .list (w.map nD)
@[simp] theorem itemsM_lN {w : List Nat} : itemsM (lN w) = mret (w.map nD) := rfl
@[simp] theorem pLen_lN {w : List Nat} : pLen [lN w] = some (.d (.int w.length)) := by show some (PO.d (.int ((w.map nD).length : Nat))) = _; rw [List.length_map]
def sN (w : List Nat) : List Nat := srtN (nub w)
def sW (F : List (List Nat)) : List (List Nat) := srtW (nub F)
theorem sN_mem {w : List Nat} {x : Nat} : x ∈ sN w ↔ x ∈ w := by unfold sN; rw [(srtN_perm _).mem_iff, nub_mem]
theorem sN_nodup (w : List Nat) : (sN w).Nodup := (srtN_perm _).nodup_iff.mpr (nub_nodup w)
theorem sN_sorted (w : List Nat) : (sN w).Pairwise fun a b => a ≤ b := srtN_sorted _
theorem sN_lt (w : List Nat) : (sN w).Pairwise fun a b => a < b := ((sN_sorted w).and (sN_nodup w)).imp fun h => by have := h.2; omega
theorem sW_mem {F : List (List Nat)} {x : List Nat} : x ∈ sW F ↔ x ∈ F := by unfold sW; rw [(srtW_perm _).mem_iff, nub_mem]
theorem sortI_nat (w : List Nat) : sortI (w.map fun (n : Nat) => (n : Int)) = (sN w).map fun (n : Nat) => (n : Int) := by
  symm
  refine sortI_eq ?_ fun z => ?_
  · rw [List.pairwise_map]
    exact (sN_lt w).imp fun h => by omega
  · rw [List.mem_map, List.mem_map]
    exact ⟨fun ⟨a, h, e⟩ => ⟨a, sN_mem.mp h, e⟩, fun ⟨a, h, e⟩ => ⟨a, sN_mem.mpr h, e⟩⟩
@[simp] theorem sortSet_lN {w : List Nat} : pSortSet [lN w] = if w.length < 64 then some (.l ((sN w).map nD)) else none := by
  show (setOf (w.map nD)).map PO.l = _
  unfold setOf
  rw [intsOf_nDs]
  simp only [List.length_map]
  by_cases h : w.length < 64
  · rw [if_pos h, if_pos h, sortI_nat, List.map_map]; rfl
  · rw [if_neg h, if_neg h]; rfl
@[simp] theorem sortSet_tN {w : List Nat} : pSortSet [tN w] = if w.length < 64 then some (.l ((sN w).map nD)) else none := by
  show (match intsOf (w.map nD) with | some ns => if ns.length < 64 then some (PO.l ((sortI ns).map .int)) else none | none => none) = _
  rw [intsOf_nDs]
  simp only [List.length_map]
  by_cases h : w.length < 64
  · rw [if_pos h, if_pos h, sortI_nat, List.map_map]; rfl
  · rw [if_neg h, if_neg h]
def inN (a b : List Nat) : Bool := a.all fun x => decide (x ∈ b)
theorem inN_iff {a b : List Nat} : inN a b = true ↔ ∀ x ∈ a, x ∈ b := by
  unfold inN
  simp
def leastN (ls : List (List Nat)) : List (List Nat) := (sW (ls.map sN)).filter fun lot => (sW (ls.map sN)).all fun o => decide (o = lot) || !inN o lot
theorem leastN_mem {ls : List (List Nat)} {w : List Nat} : w ∈ leastN ls ↔ (∃ l ∈ ls, sN l = w) ∧ ∀ l ∈ ls, inN (sN l) w = true → sN l = w := by
  unfold leastN
  simp only [List.mem_filter, List.all_eq_true, sW_mem, List.mem_map, forall_exists_index, and_imp, forall_apply_eq_imp_iff₂]
  refine and_congr .rfl ⟨fun h l hl hi => ?_, fun h l hl => ?_⟩
  · have := h l hl
    rw [hi] at this
    simpa using this
  · by_cases hi : inN (sN l) w = true
    · rw [h l hl hi]; simp
    · rw [Bool.not_eq_true] at hi
      rw [hi]; simp
theorem nodup_sub_len {a b : List Nat} (ha : a.Nodup) (h : ∀ x ∈ a, x ∈ b) : a.length ≤ b.length := len_le_of_sub ha h
theorem sub_eq_of_len {a b : List Nat} (ha : a.Pairwise fun x y => x < y) (hb : b.Pairwise fun x y => x < y) (h : ∀ x ∈ a, x ∈ b) (hl : b.length ≤ a.length) : a = b := by
  have na : a.Nodup := ha.imp fun h => Nat.ne_of_lt h
  have nb : b.Nodup := hb.imp fun h => Nat.ne_of_lt h
  have hsub : ∀ x ∈ b, x ∈ a := by
    intro x hx
    rcases Classical.em (x ∈ a) with h1 | h1
    · exact h1
    · have : (x :: a).length ≤ b.length := len_le_of_sub (List.nodup_cons.mpr ⟨h1, na⟩) fun y hy => by
        rcases List.mem_cons.mp hy with rfl | hy
        · exact hx
        · exact h y hy
      simp at this
      omega
  exact sorted_eq (ha.imp fun h => Nat.le_of_lt h) (hb.imp fun h => Nat.le_of_lt h) ((List.perm_ext_iff_of_nodup na nb).mpr fun x => ⟨h x, hsub x⟩)
theorem leastN_below {ls : List (List Nat)} : ∀ (n : Nat) (l : List Nat), l ∈ ls → (sN l).length ≤ n → ∃ w ∈ leastN ls, ∀ x ∈ w, x ∈ l := by
  intro n
  induction n with
  | zero =>
    intro l hl hn
    refine ⟨sN l, leastN_mem.mpr ⟨⟨l, hl, rfl⟩, fun m hm hi => ?_⟩, fun x hx => sN_mem.mp hx⟩
    exact sub_eq_of_len (sN_lt m) (sN_lt l) (inN_iff.mp hi) (by omega)
  | succ n ih =>
    intro l hl hn
    by_cases h : ∀ m ∈ ls, inN (sN m) (sN l) = true → sN m = sN l
    · exact ⟨sN l, leastN_mem.mpr ⟨⟨l, hl, rfl⟩, h⟩, fun x hx => sN_mem.mp hx⟩
    · have h : ∃ m ∈ ls, inN (sN m) (sN l) = true ∧ sN m ≠ sN l := by
        rcases Classical.em (∃ m ∈ ls, inN (sN m) (sN l) = true ∧ sN m ≠ sN l) with q | q
        · exact q
        · exact absurd (fun m hm hi => Classical.byContradiction fun hne => q ⟨m, hm, hi, hne⟩) h
      obtain ⟨m, hm, hi, hne⟩ := h
      have hi := inN_iff.mp hi
      have hlt : (sN m).length < (sN l).length := by
        rcases Nat.lt_or_ge (sN m).length (sN l).length with q | q
        · exact q
        · exact absurd (sub_eq_of_len (sN_lt m) (sN_lt l) hi q) hne
      obtain ⟨w, hw, hs⟩ := ih m hm (by omega)
      exact ⟨w, hw, fun x hx => sN_mem.mp (hi x (sN_mem.mpr (hs x hx)))⟩
theorem leastN_way {ls : List (List Nat)} {w : List Nat} (h : w ∈ leastN ls) : w.Pairwise fun a b => a < b := by
  obtain ⟨⟨l, _, rfl⟩, _⟩ := leastN_mem.mp h
  exact sN_lt l
theorem leastN_anti {ls : List (List Nat)} {v w : List Nat} (hv : v ∈ leastN ls) (hw : w ∈ leastN ls) (h : ∀ x ∈ v, x ∈ w) : v = w := by
  obtain ⟨⟨l, hl, rfl⟩, _⟩ := leastN_mem.mp hv
  exact (leastN_mem.mp hw).2 l hl (inN_iff.mpr h)

theorem lay_lN (w : List Nat) : (lN w).canLay0 = true := by unfold lN; rw [PyData.canLay0]; exact lay_nDs w
theorem depth_lN (a : List Nat) : (lN a).depth = 1 := by
  show PyData.depthAll (a.map nD) + 1 = 1; rw [depth_nDs]
theorem shaped_lN (w : List Nat) : SeqAt.shaped (lN w) = true := by
  unfold SeqAt.shaped
  rw [lay_lN, depth_lN]; rfl
theorem eqv_lN (a b : List Nat) : PyData.eqv (lN a) (lN b) = decide (a = b) := by
  unfold lN
  rw [PyData.eqv]
  exact eqv_nDs a b
theorem noDict_lN (a : List Nat) : noDict (lN a) = true := noDict_nDs a
@[simp] theorem ndEq_lN {a b : List Nat} : nd2 pEq (lN a) (lN b) = some (decide (a = b)) := by
  refine nd2_some ?_ (noDict_lN a) (noDict_lN b)
  unfold pEq
  rw [shaped_lN, shaped_lN]
  show some (PyData.eqv (lN a) (lN b)) = _
  rw [eqv_lN]
theorem ones_lN {α : Type} (xs : List α) : PyData.list (xs.map fun _ => PyData.int 1) = lN (xs.map fun _ => 1) := by
  unfold lN; rw [List.map_map]; rfl
@[simp high] theorem ndEq_ones {α : Type} {xs : List α} : nd2 pEq (.list (xs.map fun _ => .int 1)) (.list []) = some xs.isEmpty := by
  rw [ones_lN, show PyData.list [] = lN [] from rfl, ndEq_lN]
  cases xs <;> simp
@[simp high] theorem ndNe_ones {α : Type} {xs : List α} : nd2 pNe (.list (xs.map fun _ => .int 1)) (.list []) = some (!xs.isEmpty) := by
  have h := ndEq_ones (xs := xs)
  unfold nd2 at h ⊢
  unfold pNe
  split at h
  · rename_i q
    rw [if_pos q, h]; rfl
  · cases h
@[simp] theorem ndNe_tN {a b : List Nat} : nd2 pNe (tN a) (tN b) = some (!decide (a = b)) := by
  have h := ndEq_tN (a := a) (b := b)
  unfold nd2 at h ⊢
  unfold pNe
  split at h
  · rename_i q
    rw [if_pos q, h]; rfl
  · cases h
@[simp] theorem ndIn_lN {t : Nat} {w : List Nat} : nd2 pIn (.int (t : Int)) (lN w) = some (decide (t ∈ w)) := ndIn_tN
@[simp] theorem ndNotIn_lN {t : Nat} {w : List Nat} : nd2 pNotIn (.int (t : Int)) (lN w) = some (!decide (t ∈ w)) := ndNotIn_tN
@[simp] theorem ndIn_ln {t : Nat} {w : List Nat} : nd2 pIn (.int (t : Int)) (.list (w.map nD)) = some (decide (t ∈ w)) := ndIn_tN
@[simp] theorem ndNotIn_ln {t : Nat} {w : List Nat} : nd2 pNotIn (.int (t : Int)) (.list (w.map nD)) = some (!decide (t ∈ w)) := ndNotIn_tN
@[simp] theorem ndNe_nil {xs : List Nat} : nd2 pNe (.list (xs.map nD)) (.list []) = some (!xs.isEmpty) := by
  have h := ndEq_lN (a := xs) (b := [])
  unfold lN at h
  unfold nd2 at h ⊢
  unfold pNe
  split at h
  · rename_i q
    rw [show ([] : List D) = ([] : List Nat).map nD from rfl, if_pos q, h]
    cases xs <;> simp
  · cases h
@[simp] theorem ndEq_nil {xs : List Nat} : nd2 pEq (.list (xs.map nD)) (.list []) = some xs.isEmpty := by
  have h := ndEq_lN (a := xs) (b := [])
  unfold lN at h
  rw [show ([] : List D) = ([] : List Nat).map nD from rfl, h]
  cases xs <;> simp
end L3

namespace L3
open PySem PySem.W PySem.Spec PyProof.Rows L2

def Inc (v w : List Nat) : Prop := (¬ ∀ x ∈ v, x ∈ w) ∧ ¬ ∀ x ∈ w, x ∈ v
structure RowsOk (R : List (List Nat)) (th : List Nat) : Prop where
  ne : ∀ w ∈ R, w ≠ []
  nodup : ∀ w ∈ R, w.Nodup
  cover : ∀ x, (∃ w ∈ R, x ∈ w) ↔ x ∈ th
  inc : R.Pairwise Inc
theorem RowsOk.leaf (k : Nat) : RowsOk [[k]] [k] where
  ne := by simp
  nodup := by simp
  cover := by simp
  inc := by simp
theorem RowsOk.side {A B : List (List Nat)} {a b : List Nat} (hA : RowsOk A a) (hB : RowsOk B b) (hd : ∀ x ∈ a, x ∉ b) : RowsOk (A ++ B) (a ++ b) where
  ne := fun w hw => (List.mem_append.mp hw).elim (hA.ne w) (hB.ne w)
  nodup := fun w hw => (List.mem_append.mp hw).elim (hA.nodup w) (hB.nodup w)
  cover := fun x => by
    rw [List.mem_append, ← hA.cover x, ← hB.cover x]
    constructor
    · rintro ⟨w, hw, hx⟩
      rcases List.mem_append.mp hw with h | h
      · exact .inl ⟨w, h, hx⟩
      · exact .inr ⟨w, h, hx⟩
    · rintro (⟨w, h, hx⟩ | ⟨w, h, hx⟩)
      · exact ⟨w, List.mem_append_left _ h, hx⟩
      · exact ⟨w, List.mem_append_right _ h, hx⟩
  inc := by
    rw [List.pairwise_append]
    refine ⟨hA.inc, hB.inc, fun v hv w hw => ?_⟩
    have hx := List.exists_mem_of_ne_nil v (hA.ne v hv)
    have hy := List.exists_mem_of_ne_nil w (hB.ne w hw)
    obtain ⟨x, hx⟩ := hx
    obtain ⟨y, hy⟩ := hy
    exact ⟨fun h => hd x ((hA.cover x).mp ⟨v, hv, hx⟩) ((hB.cover x).mp ⟨w, hw, h x hx⟩), fun h => hd y ((hA.cover y).mp ⟨v, hv, h y hy⟩) ((hB.cover y).mp ⟨w, hw, hy⟩)⟩
theorem RowsOk.cross {A B : List (List Nat)} {a b : List Nat} (hA : RowsOk A a) (hB : RowsOk B b) (nA : A ≠ []) (nB : B ≠ []) (hd : ∀ x ∈ a, x ∉ b) : RowsOk (L3.cross A B) (a ++ b) where
  ne := fun w hw => by
    obtain ⟨v, hv, m, hm, rfl⟩ := cross_mem.mp hw
    obtain ⟨x, hx⟩ := List.exists_mem_of_ne_nil v (hA.ne v hv)
    exact List.ne_nil_of_mem (srtN_mem.mpr (List.mem_append_left m hx))
  nodup := fun w hw => by
    obtain ⟨v, hv, m, hm, rfl⟩ := cross_mem.mp hw
    refine (srtN_perm _).nodup_iff.mpr (List.nodup_append.mpr ⟨hA.nodup v hv, hB.nodup m hm, fun x hx y hy e => ?_⟩)
    subst e
    exact hd x ((hA.cover x).mp ⟨v, hv, hx⟩) ((hB.cover x).mp ⟨m, hm, hy⟩)
  cover := fun x => by
    rw [List.mem_append, ← hA.cover x, ← hB.cover x]
    constructor
    · rintro ⟨w, hw, hx⟩
      obtain ⟨v, hv, m, hm, rfl⟩ := cross_mem.mp hw
      rcases List.mem_append.mp (srtN_mem.mp hx) with h | h
      · exact .inl ⟨v, hv, h⟩
      · exact .inr ⟨m, hm, h⟩
    · rintro (⟨v, hv, hx⟩ | ⟨m, hm, hx⟩)
      · obtain ⟨m, hm⟩ := List.exists_mem_of_ne_nil B nB
        exact ⟨_, cross_mem.mpr ⟨v, hv, m, hm, rfl⟩, srtN_mem.mpr (List.mem_append_left _ hx)⟩
      · obtain ⟨v, hv⟩ := List.exists_mem_of_ne_nil A nA
        exact ⟨_, cross_mem.mpr ⟨v, hv, m, hm, rfl⟩, srtN_mem.mpr (List.mem_append_right _ hx)⟩
  inc := by
    have spl : ∀ v ∈ A, ∀ m ∈ B, ∀ v' ∈ A, ∀ m' ∈ B, (∀ x ∈ srtN (v ++ m), x ∈ srtN (v' ++ m')) → (∀ x ∈ v, x ∈ v') ∧ ∀ x ∈ m, x ∈ m' := fun v hv m hm v' hv' m' hm' h => by
      refine ⟨fun x hx => ?_, fun x hx => ?_⟩
      · rcases List.mem_append.mp (srtN_mem.mp (h x (srtN_mem.mpr (List.mem_append_left _ hx)))) with q | q
        · exact q
        · exact absurd ((hB.cover x).mp ⟨m', hm', q⟩) (hd x ((hA.cover x).mp ⟨v, hv, hx⟩))
      · rcases List.mem_append.mp (srtN_mem.mp (h x (srtN_mem.mpr (List.mem_append_right _ hx)))) with q | q
        · exact absurd ((hB.cover x).mp ⟨m, hm, hx⟩) (hd x ((hA.cover x).mp ⟨v', hv', q⟩))
        · exact q
    unfold L3.cross
    rw [List.pairwise_flatMap]
    refine ⟨fun v hv => ?_, List.Pairwise.imp_of_mem (fun {v v'} hv hv' h w hw w' hw' => ?_) hA.inc⟩
    · refine List.pairwise_map.mpr (List.Pairwise.imp_of_mem (fun {m m'} hm hm' h => ?_) hB.inc)
      exact ⟨fun q => h.1 (spl v hv m hm v hv m' hm' q).2, fun q => h.2 (spl v hv m' hm' v hv m hm q).2⟩
    · obtain ⟨m, hm, rfl⟩ := List.mem_map.mp hw
      obtain ⟨m', hm', rfl⟩ := List.mem_map.mp hw'
      exact ⟨fun q => h.1 (spl v hv m hm v' hv' m' hm' q).1, fun q => h.2 (spl v' hv' m' hm' v hv m hm q).1⟩
end L3

namespace L3
open PySem PySem.W PySem.Spec PyProof.Rows L2
@[simp] theorem pListOf_fN {F : List (List Nat)} : pListOf [fN F] = some (.l (F.map tN)) := rfl
@[simp] theorem pListOf_tN {w : List Nat} : pListOf [tN w] = some (.l (w.map nD)) := rfl
@[simp] theorem pTupleOf_tN {w : List Nat} : pTupleOf [tN w] = some (.d (tN w)) := rfl
@[simp] theorem pTupleOf_fN {w : List (List Nat)} : pTupleOf [fN w] = some (.d (fN w)) := rfl
end L3

namespace L3
open PySem PySem.W PySem.Spec PyProof.Rows L2
@[simp] theorem pMulT_int {i j : Int} : pMulT (.int i) (.int j) = if i.natAbs.log2 + j.natAbs.log2 < 1000000 then some (.d (.int (i * j))) else none := rfl
@[simp] theorem pMulT_list {xs : List D} {k : Int} : pMulT (.list xs) (.int k) = if -1000 ≤ k ∧ k ≤ 1000 ∧ xs.length ≤ 1000 then some (.l (List.replicate k.toNat xs).flatten) else none := by
  show (if -1000 ≤ k ∧ k ≤ 1000 ∧ xs.length ≤ 1000 then pMul (.list xs) (.int k) else none) = _
  by_cases h : -1000 ≤ k ∧ k ≤ 1000 ∧ xs.length ≤ 1000
  · rw [if_pos h, if_pos h]
    have h2 : xs.length * k.toNat ≤ 1000 * 1000 := Nat.mul_le_mul h.2.2 (by omega)
    have h3 : -(2 ^ 63) ≤ k ∧ k < 2 ^ 63 ∧ xs.length * k.toNat ≤ sizeLine := ⟨by omega, by omega, by have : sizeLine = 16777216 := rfl; omega⟩
    show (if -(2 ^ 63) ≤ k ∧ k < 2 ^ 63 ∧ xs.length * k.toNat ≤ sizeLine then some (PO.l (List.replicate k.toNat xs).flatten) else none) = _
    rw [if_pos h3]
  · rw [if_neg h, if_neg h]
@[simp] theorem pMulT_tuple {xs : List D} {k : Int} : pMulT (.tuple xs) (.int k) = if -1000 ≤ k ∧ k ≤ 1000 ∧ xs.length ≤ 1000 then some (.t (List.replicate k.toNat xs).flatten) else none := rfl
theorem atI_last {α : Type} {xs : List α} {x : α} (h : xs.getLast? = some x) : atI xs (-1) = some x := by
  have hl : 1 ≤ xs.length := by
    cases xs with
    | nil => cases h
    | cons a l => simp
  unfold atI
  have : ixN xs.length (-1) = some (xs.length - 1) := by
    unfold ixN
    rw [if_neg (by omega), if_pos (by omega)]
    congr 1
    omega
  rw [this]
  rw [List.getLast?_eq_getElem?] at h
  exact h
end L3

namespace L3
open PySem PySem.W PySem.Spec PyProof.Rows L2

def oD : Option Nat → D
  | some n => .int (n : Int)
  | none => .none
def tabD (t : List (Option Nat)) : D := .tuple (t.map oD)
def tabsD (T : List (List (Option Nat))) : D := .tuple (T.map tabD)
@[simp] theorem oD_some {n : Nat} : oD (some n) = .int (n : Int) := rfl
@[simp] theorem oD_none : oD none = .none := rfl
@[simp] theorem itemsM_tabD {t : List (Option Nat)} : itemsM (tabD t) = mret (t.map oD) := rfl
@[simp] theorem itemsM_tabsD {t : List (List (Option Nat))} : itemsM (tabsD t) = mret (t.map tabD) := rfl
@[simp] theorem pIx_tabD {t : List (Option Nat)} {i : Int} : pIx (tabD t) (.int i) = (atI (t.map oD) i).map .d := rfl
@[simp] theorem pIx_tabsD {t : List (List (Option Nat))} {i : Int} : pIx (tabsD t) (.int i) = (atI (t.map tabD) i).map .d := rfl
@[simp] theorem pLen_tabD {t : List (Option Nat)} : pLen [tabD t] = some (.d (.int t.length)) := by show some (PO.d (.int ((t.map oD).length : Nat))) = _; rw [List.length_map]
@[simp] theorem pLen_tabsD {t : List (List (Option Nat))} : pLen [tabsD t] = some (.d (.int t.length)) := by show some (PO.d (.int ((t.map tabD).length : Nat))) = _; rw [List.length_map]
@[simp] theorem pSl_tabD {w : List (Option Nat)} {lo hi : Option Int} : pSl (tabD w) lo hi = some (.t (cutL (w.map oD) lo hi)) := rfl
@[simp] theorem enM_tabsD {t : List (List (Option Nat))} : enM [tabsD t] = mret (dEnum (t.map tabD)) := rfl
@[simp] theorem enM_tabD {t : List (Option Nat)} : enM [tabD t] = mret (dEnum (t.map oD)) := rfl
@[simp] theorem isN_oD {o : Option Nat} : pIsN (oD o) .none = some o.isNone := by cases o <;> rfl
@[simp] theorem notN_oD {o : Option Nat} : pNotN (oD o) .none = some o.isSome := by cases o <;> rfl
def tabAt (T : List (List (Option Nat))) (t : Nat) : List (Option Nat) := T.getD t []
def atN (L : List Nat) (t : Nat) : Nat := L.getD t 0
def entN (t : List (Option Nat)) (l : Nat) : Option Nat := (t[l]?).getD none
def optSum (os : List (Option Nat)) : Option Nat := if os.any Option.isNone then none else some (os.map fun o => o.getD 0).sum
def priceN (T : List (List (Option Nat))) (L : List Nat) (w : List Nat) : Option Nat := optSum (w.map fun t => entN (tabAt T t) (atN L t))
theorem plain_oDs (w : List (Option Nat)) : PyData.plainAll (w.map oD) = true := by
  induction w with
  | nil => rfl
  | cons x xs ih =>
    rw [List.map_cons, PyData.plainAll, ih]
    cases x <;> rfl
theorem noDict_oDs (w : List (Option Nat)) : noDictAll (w.map oD) = true := by
  induction w with
  | nil => rfl
  | cons x xs ih =>
    show (noDict (oD x) && noDictAll (xs.map oD)) = true
    rw [ih]
    cases x <;> rfl
@[simp] theorem ndIn_none {os : List (Option Nat)} : nd2 pIn .none (.list (os.map oD)) = some (os.any Option.isNone) := by
  refine nd2_some ?_ rfl (noDict_oDs os)
  show (if inOk .none (os.map oD) then some ((os.map oD).any fun z => PyData.eqv z .none) else none) = _
  have h1 : inOk .none (os.map oD) = true := by
    unfold inOk
    rw [plain_oDs]; rfl
  rw [if_pos h1]
  congr 1
  rw [List.any_map]
  congr 1
  funext o
  cases o <;> rfl
def isLeast (os : List (Option Nat)) (o : Option Nat) : Bool := match o with
  | none => false
  | some x => os.all fun q => match q with
    | none => true
    | some y => decide (x ≤ y)
def cheapIx (os : List (Option Nat)) : List Nat := (os.zipIdx.filter fun a => isLeast os a.1).map (·.2)
def cheapN (F : List (List Nat)) (T : List (List (Option Nat))) (L : List Nat) : List Nat := cheapIx (F.map (priceN T L))
def moreN (L : List Nat) (w : List Nat) : List Nat := L.zipIdx.map fun a => if a.2 ∈ w then a.1 + 1 else a.1
theorem zipIdx_map_len {α β : Type} (xs : List α) (f : α × Nat → β) : (xs.zipIdx.map f).length = xs.length := by rw [List.length_map, List.length_zipIdx]
theorem moreN_len (L w : List Nat) : (moreN L w).length = L.length := zipIdx_map_len _ _
theorem getD_lt {α : Type} {xs : List α} {i : Nat} {d : α} (h : i < xs.length) : xs[i]? = some (xs.getD i d) := by
  rw [List.getD_eq_getElem?_getD, List.getElem?_eq_getElem h]; rfl
theorem moreN_get {L w : List Nat} {t : Nat} (h : t < L.length) : atN (moreN L w) t = if t ∈ w then atN L t + 1 else atN L t := by
  unfold moreN atN
  rw [List.getD_eq_getElem?_getD, List.getElem?_map, List.getElem?_zipIdx, getD_lt (d := 0) h]
  simp
structure Tab (m : Nat) (t : List (Option Nat)) : Prop where
  shape : ∃ (r : List Nat) (k : Nat), t = r.map some ++ List.replicate k none ∧ r.Pairwise (fun a b => a ≤ b) ∧ ∀ x ∈ r, 0 ≤ x
  len : t.length = m
end L3

namespace L3
open PySem PySem.W PySem.Spec PyProof.Rows L2
end L3

namespace L3
open PySem PySem.W PySem.Spec PyProof.Rows L2
def cjD (p : Nat × Nat) : D := .tuple [.int (p.1 : Int), .int (p.2 : Int)]

theorem ndEq_any {ds : List D} (h1 : noDictAll ds = true) (h2 : PyData.canLayAll0 ds = true) (h3 : PyData.depthAll ds ≤ 60) : nd2 pEq (.list ds) (.list []) = some ds.isEmpty := by
  refine nd2_some ?_ h1 rfl
  unfold pEq
  have s1 : SeqAt.shaped (.list ds) = true := by
    unfold SeqAt.shaped
    rw [PyData.canLay0, h2]
    have : (PyData.list ds).depth ≤ 64 := by
      show PyData.depthAll ds + 1 ≤ 64
      omega
    simp [this]
  have s2 : SeqAt.shaped (.list []) = true := shaped_lN []
  rw [s1, s2]
  show some (PyData.eqv (.list ds) (.list [])) = _
  cases ds with
  | nil => rfl
  | cons d ds => rfl
@[simp] theorem ndEq_cj {xs : List (Nat × Nat)} : nd2 pEq (.list (xs.map cjD)) (.list []) = some xs.isEmpty := by
  have e : xs.map cjD = (xs.map fun x => [x.1, x.2]).map tN := by rw [List.map_map]; rfl
  rw [e, ndEq_any (noDict_tNs _) (lay_tNs _) (Nat.le_trans (depth_tNs _) (by omega))]
  cases xs <;> rfl
end L3

namespace L3
open PySem PySem.W PySem.Spec PyProof.Rows L2
section
variable {F : List (List Nat)} {T : List (List (Option Nat))} {n : Nat} {st : List Nat} {c j v p : Nat}
end
section
variable {F : List (List Nat)} {T : List (List (Option Nat))} {n : Nat} {st : List Nat}
end
end L3

namespace L3
open PySem PySem.W PySem.Spec PyProof.Rows L2
def leO (a b : Option Nat) : Prop := match a, b with
  | _, none => True
  | none, some _ => False
  | some x, some y => x ≤ y
def addO (a b : Option Nat) : Option Nat := match a, b with
  | some x, some y => some (x + y)
  | _, _ => none
theorem leO_refl (a : Option Nat) : leO a a := by cases a <;> simp [leO]
theorem leO_trans {a b c : Option Nat} (h1 : leO a b) (h2 : leO b c) : leO a c := by
  cases a <;> cases b <;> cases c <;> simp [leO] at * <;> omega
theorem leO_add {a b c d : Option Nat} (h1 : leO a c) (h2 : leO b d) : leO (addO a b) (addO c d) := by
  cases a <;> cases b <;> cases c <;> cases d <;> simp [leO, addO] at * <;> omega
theorem leO_left {a c b : Option Nat} {y : Nat} (hb : b = some y) (h : leO (addO a b) (addO c b)) : leO a c := by
  subst hb
  cases a <;> cases c <;> simp [leO, addO] at * <;> omega
theorem leO_right {a c b : Option Nat} {y : Nat} (hb : b = some y) (h : leO (addO b a) (addO b c)) : leO a c := by
  subst hb
  cases a <;> cases c <;> simp [leO, addO] at * <;> omega
theorem leO_some {a : Option Nat} {y : Nat} (h : leO a (some y)) : ∃ x, a = some x ∧ x ≤ y := by
  cases a with
  | none => exact absurd h (by simp [leO])
  | some x => exact ⟨x, rfl, h⟩
theorem addO_some {a b : Option Nat} {z : Nat} (h : addO a b = some z) : ∃ x y, a = some x ∧ b = some y := by
  cases a <;> cases b <;> simp [addO] at h
  exact ⟨_, _, rfl, rfl⟩
def priceF (T : List (List (Option Nat))) (f : Nat → Nat) (w : List Nat) : Option Nat := optSum (w.map fun t => entN (tabAt T t) (f t))
theorem optSum_append (a b : List (Option Nat)) : optSum (a ++ b) = addO (optSum a) (optSum b) := by
  unfold optSum
  rw [List.any_append]
  cases ha : a.any Option.isNone <;> cases hb : b.any Option.isNone <;> simp [addO]
theorem optSum_perm {a b : List (Option Nat)} (p : a.Perm b) : optSum a = optSum b := by
  unfold optSum
  have h : a.any Option.isNone = b.any Option.isNone := by
    rw [Bool.eq_iff_iff, List.any_eq_true, List.any_eq_true]
    exact ⟨fun ⟨x, hx, h⟩ => ⟨x, p.mem_iff.mp hx, h⟩, fun ⟨x, hx, h⟩ => ⟨x, p.mem_iff.mpr hx, h⟩⟩
  rw [h, (p.map _).sum_nat]
theorem priceF_app (T : List (List (Option Nat))) (f : Nat → Nat) (a b : List Nat) : priceF T f (srtN (a ++ b)) = addO (priceF T f a) (priceF T f b) := by
  unfold priceF
  rw [optSum_perm ((srtN_perm (a ++ b)).map _), List.map_append, optSum_append]
theorem priceF_congr {T : List (List (Option Nat))} {f g : Nat → Nat} {w : List Nat} (h : ∀ t ∈ w, f t = g t) : priceF T f w = priceF T g w := by
  unfold priceF
  congr 1
  exact List.map_congr_left fun t ht => by rw [h t ht]
def RiseT (T : List (List (Option Nat))) : Prop := ∀ t i j, i ≤ j → leO (entN (tabAt T t) i) (entN (tabAt T t) j)
theorem optSum_cons (o : Option Nat) (l : List (Option Nat)) : optSum (o :: l) = addO o (optSum l) := by
  have := optSum_append [o] l
  rw [List.singleton_append] at this
  rw [this]
  congr 1
  cases o <;> simp [optSum]
theorem priceF_mono {T : List (List (Option Nat))} (hR : RiseT T) {f g : Nat → Nat} : ∀ {w : List Nat}, (∀ t ∈ w, f t ≤ g t) → leO (priceF T f w) (priceF T g w)
  | [], _ => leO_refl _
  | t :: w, h => by
    unfold priceF
    rw [List.map_cons, List.map_cons, optSum_cons, optSum_cons]
    exact leO_add (hR t _ _ (h t List.mem_cons_self)) (priceF_mono hR fun x hx => h x (List.mem_cons_of_mem _ hx))
def Best (T : List (List (Option Nat))) (W : List (List Nat)) (f : Nat → Nat) (w : List Nat) : Prop := w ∈ W ∧ (priceF T f w).isSome = true ∧ ∀ x ∈ W, leO (priceF T f w) (priceF T f x)
def outF (f : Nat → Nat) (w : List Nat) : Nat → Nat := fun t => f t - (if t ∈ w then 1 else 0)
def inF (f : Nat → Nat) (v : List Nat) : Nat → Nat := fun t => f t + (if t ∈ v then 1 else 0)
def Calm (W : List (List Nat)) : Prop := ∀ (T : List (List (Option Nat))) (f : Nat → Nat) (w v : List Nat), RiseT T → (∀ t ∈ w, 1 ≤ f t) → Best T W (outF f w) w → Best T W f v → Best T W (outF (inF f v) w) w ∧ leO (priceF T (outF (inF f v) w) w) (priceF T f v)
theorem calm_unit : Calm [[]] := fun T f w v hR hf hw hv => by
  have e1 := List.mem_singleton.mp hw.1
  have e2 := List.mem_singleton.mp hv.1
  subst e1; subst e2
  exact ⟨⟨List.mem_singleton.mpr rfl, rfl, fun x hx => by rw [List.mem_singleton.mp hx]; exact leO_refl _⟩, leO_refl _⟩
theorem calm_none : Calm [] := fun T f w v hR hf hw hv => absurd hw.1 (by simp)
theorem calm_leaf (k : Nat) : Calm [[k]] := fun T f w v hR hf hw hv => by
  have e1 := List.mem_singleton.mp hw.1
  have e2 := List.mem_singleton.mp hv.1
  subst e1; subst e2
  have e : priceF T (outF (inF f [k]) [k]) [k] = priceF T f [k] := priceF_congr fun t ht => by
    have h2 := List.mem_singleton.mp ht
    subst h2
    unfold outF inF
    simp
  refine ⟨⟨List.mem_singleton.mpr rfl, by rw [e]; exact hv.2.1, fun x hx => by rw [List.mem_singleton.mp hx]; exact leO_refl _⟩, by rw [e]; exact leO_refl _⟩
theorem calm_side {A B : List (List Nat)} {a b : List Nat} (hA : Calm A) (hB : Calm B) (sa : ∀ w ∈ A, ∀ x ∈ w, x ∈ a) (sb : ∀ w ∈ B, ∀ x ∈ w, x ∈ b) (hd : ∀ x ∈ a, x ∉ b) : Calm (A ++ B) := by
  -- one half; the other by turning
  have half : ∀ {A B : List (List Nat)} {a b : List Nat}, Calm A → (∀ w ∈ A, ∀ x ∈ w, x ∈ a) → (∀ w ∈ B, ∀ x ∈ w, x ∈ b) → (∀ x ∈ a, x ∉ b) → ∀ (T : List (List (Option Nat))) (f : Nat → Nat) (w v : List Nat), RiseT T → (∀ t ∈ w, 1 ≤ f t) → w ∈ A → (priceF T (outF f w) w).isSome = true → (∀ x, x ∈ A ∨ x ∈ B → leO (priceF T (outF f w) w) (priceF T (outF f w) x)) → (v ∈ A ∨ v ∈ B) → (priceF T f v).isSome = true → (∀ x, x ∈ A ∨ x ∈ B → leO (priceF T f v) (priceF T f x)) →
      (priceF T (outF (inF f v) w) w).isSome = true ∧ (∀ x, x ∈ A ∨ x ∈ B → leO (priceF T (outF (inF f v) w) w) (priceF T (outF (inF f v) w) x)) ∧ leO (priceF T (outF (inF f v) w) w) (priceF T f v) := by
    intro A B a b hA sa sb hd T f w v hR hf hwA hw1 hw2 hv0 hv1 hv2
    have outB : ∀ x ∈ B, ∀ g : Nat → Nat, priceF T (outF g w) x = priceF T g x := fun x hx g => priceF_congr fun t ht => by
      unfold outF
      rw [if_neg fun q => hd t (sa w hwA t q) (sb x hx t ht)]; omega
    rcases hv0 with hvA | hvB
    · obtain ⟨h1, h2⟩ := hA T f w v hR hf ⟨hwA, hw1, fun x hx => hw2 x (.inl hx)⟩ ⟨hvA, hv1, fun x hx => hv2 x (.inl hx)⟩
      refine ⟨h1.2.1, fun x hx => ?_, h2⟩
      rcases hx with hx | hx
      · exact h1.2.2 x hx
      · rw [outB x hx]
        have e : priceF T (inF f v) x = priceF T f x := priceF_congr fun t ht => by
          unfold inF
          rw [if_neg fun q => hd t (sa v hvA t q) (sb x hx t ht)]; omega
        rw [e]
        exact leO_trans h2 (hv2 x (.inr hx))
    · have inA : ∀ x ∈ A, priceF T (outF (inF f v) w) x = priceF T (outF f w) x := fun x hx => priceF_congr fun t ht => by
        unfold outF inF
        rw [if_neg (fun q => hd t (sa x hx t ht) (sb v hvB t q) : ¬ t ∈ v)]; omega
      rw [inA w hwA]
      have h3 : leO (priceF T (outF f w) w) (priceF T f v) := by
        have := hw2 v (.inr hvB)
        rwa [outB v hvB] at this
      refine ⟨hw1, fun x hx => ?_, h3⟩
      rcases hx with hx | hx
      · rw [inA x hx]; exact hw2 x (.inl hx)
      · rw [outB x hx]
        refine leO_trans h3 (leO_trans (hv2 x (.inr hx)) (priceF_mono hR fun t _ => ?_))
        unfold inF; omega
  intro T f w v hR hf hw hv
  have all : ∀ {g : Nat → Nat} {u : List Nat}, (∀ x ∈ A ++ B, leO (priceF T g u) (priceF T g x)) → ∀ x, x ∈ A ∨ x ∈ B → leO (priceF T g u) (priceF T g x) := fun h x hx => h x (List.mem_append.mpr hx)
  rcases List.mem_append.mp hw.1 with hwA | hwB
  · obtain ⟨h1, h2, h3⟩ := half hA sa sb hd T f w v hR hf hwA hw.2.1 (all hw.2.2) (List.mem_append.mp hv.1) hv.2.1 (all hv.2.2)
    exact ⟨⟨hw.1, h1, fun x hx => h2 x (List.mem_append.mp hx)⟩, h3⟩
  · obtain ⟨h1, h2, h3⟩ := half hB sb sa (fun x hx hx2 => hd x hx2 hx) T f w v hR hf hwB hw.2.1 (fun x hx => all hw.2.2 x hx.symm) (List.mem_append.mp hv.1).symm hv.2.1 (fun x hx => all hv.2.2 x hx.symm)
    exact ⟨⟨hw.1, h1, fun x hx => h2 x (List.mem_append.mp hx).symm⟩, h3⟩
theorem calm_cross {A B : List (List Nat)} {a b : List Nat} (hA : Calm A) (hB : Calm B) (sa : ∀ w ∈ A, ∀ x ∈ w, x ∈ a) (sb : ∀ w ∈ B, ∀ x ∈ w, x ∈ b) (hd : ∀ x ∈ a, x ∉ b) : Calm (cross A B) := by
  intro T f w v hR hf hw hv
  -- best of a product: best in both
  have split : ∀ (g : Nat → Nat) (w1 w2 : List Nat), w1 ∈ A → w2 ∈ B → Best T (cross A B) g (srtN (w1 ++ w2)) → Best T A g w1 ∧ Best T B g w2 := by
    intro g w1 w2 h1 h2 hb
    have hp := hb.2.1
    obtain ⟨z, hz⟩ := Option.isSome_iff_exists.mp hp
    rw [priceF_app] at hz
    obtain ⟨x, y, hx, hy⟩ := addO_some hz
    refine ⟨⟨h1, by rw [hx]; rfl, fun u hu => ?_⟩, ⟨h2, by rw [hy]; rfl, fun u hu => ?_⟩⟩
    · have := hb.2.2 _ (cross_mem.mpr ⟨u, hu, w2, h2, rfl⟩)
      rw [priceF_app, priceF_app] at this
      exact leO_left hy this
    · have := hb.2.2 _ (cross_mem.mpr ⟨w1, h1, u, hu, rfl⟩)
      rw [priceF_app, priceF_app] at this
      exact leO_right hx this
  obtain ⟨w1, hw1, w2, hw2, rfl⟩ := cross_mem.mp hw.1
  obtain ⟨v1, hv1, v2, hv2, rfl⟩ := cross_mem.mp hv.1
  obtain ⟨bw1, bw2⟩ := split _ _ _ hw1 hw2 hw
  obtain ⟨bv1, bv2⟩ := split _ _ _ hv1 hv2 hv
  have mA : ∀ (x1 x2 : List Nat), x1 ∈ A → x2 ∈ B → ∀ t ∈ a, (t ∈ srtN (x1 ++ x2)) = (t ∈ x1) := fun x1 x2 h1 h2 t ht => by
    rw [srtN_mem, List.mem_append]
    exact propext ⟨fun q => q.elim id fun z => absurd (sb x2 h2 t z) (hd t ht), .inl⟩
  have mB : ∀ (x1 x2 : List Nat), x1 ∈ A → x2 ∈ B → ∀ t ∈ b, (t ∈ srtN (x1 ++ x2)) = (t ∈ x2) := fun x1 x2 h1 h2 t ht => by
    rw [srtN_mem, List.mem_append]
    exact propext ⟨fun q => q.elim (fun z => absurd ht (hd t (sa x1 h1 t z))) id, .inr⟩
  have oA : ∀ (x : List Nat), x ∈ A → priceF T (outF f (srtN (w1 ++ w2))) x = priceF T (outF f w1) x := fun x hx => priceF_congr fun t ht => by
    unfold outF; simp only [mA w1 w2 hw1 hw2 t (sa x hx t ht)]
  have oB : ∀ (x : List Nat), x ∈ B → priceF T (outF f (srtN (w1 ++ w2))) x = priceF T (outF f w2) x := fun x hx => priceF_congr fun t ht => by
    unfold outF; simp only [mB w1 w2 hw1 hw2 t (sb x hx t ht)]
  have pA : ∀ (x : List Nat), x ∈ A → priceF T (outF (inF f (srtN (v1 ++ v2))) (srtN (w1 ++ w2))) x = priceF T (outF (inF f v1) w1) x := fun x hx => priceF_congr fun t ht => by
    unfold outF inF; simp only [mA w1 w2 hw1 hw2 t (sa x hx t ht), mA v1 v2 hv1 hv2 t (sa x hx t ht)]
  have pB : ∀ (x : List Nat), x ∈ B → priceF T (outF (inF f (srtN (v1 ++ v2))) (srtN (w1 ++ w2))) x = priceF T (outF (inF f v2) w2) x := fun x hx => priceF_congr fun t ht => by
    unfold outF inF; simp only [mB w1 w2 hw1 hw2 t (sb x hx t ht), mB v1 v2 hv1 hv2 t (sb x hx t ht)]
  have f1 : ∀ t ∈ w1, 1 ≤ f t := fun t ht => hf t (srtN_mem.mpr (List.mem_append_left _ ht))
  have f2 : ∀ t ∈ w2, 1 ≤ f t := fun t ht => hf t (srtN_mem.mpr (List.mem_append_right _ ht))
  have b1 : Best T A (outF f w1) w1 := ⟨hw1, by rw [← oA w1 hw1]; exact bw1.2.1, fun x hx => by rw [← oA w1 hw1, ← oA x hx]; exact bw1.2.2 x hx⟩
  have b2 : Best T B (outF f w2) w2 := ⟨hw2, by rw [← oB w2 hw2]; exact bw2.2.1, fun x hx => by rw [← oB w2 hw2, ← oB x hx]; exact bw2.2.2 x hx⟩
  obtain ⟨c1, d1⟩ := hA T f w1 v1 hR f1 b1 bv1
  obtain ⟨c2, d2⟩ := hB T f w2 v2 hR f2 b2 bv2
  have e : priceF T (outF (inF f (srtN (v1 ++ v2))) (srtN (w1 ++ w2))) (srtN (w1 ++ w2)) = addO (priceF T (outF (inF f v1) w1) w1) (priceF T (outF (inF f v2) w2) w2) := by
    rw [priceF_app, pA w1 hw1, pB w2 hw2]
  refine ⟨⟨hw.1, ?_, fun x hx => ?_⟩, ?_⟩
  · rw [e]
    obtain ⟨x, hx⟩ := Option.isSome_iff_exists.mp c1.2.1
    obtain ⟨y, hy⟩ := Option.isSome_iff_exists.mp c2.2.1
    rw [hx, hy]; rfl
  · obtain ⟨x1, hx1, x2, hx2, rfl⟩ := cross_mem.mp hx
    rw [e, priceF_app, pA x1 hx1, pB x2 hx2]
    exact leO_add (c1.2.2 x1 hx1) (c2.2.2 x2 hx2)
  · rw [e, priceF_app]
    exact leO_add d1 d2
theorem Calm.perm {A B : List (List Nat)} (h : Calm A) (p : ∀ w, w ∈ A ↔ w ∈ B) : Calm B := by
  intro T f w v hR hf hw hv
  have bs : ∀ (g : Nat → Nat) (u : List Nat), Best T B g u → Best T A g u := fun g u hb => ⟨(p u).mpr hb.1, hb.2.1, fun x hx => hb.2.2 x ((p x).mp hx)⟩
  obtain ⟨h1, h2⟩ := h T f w v hR hf (bs _ _ hw) (bs _ _ hv)
  exact ⟨⟨hw.1, h1.2.1, fun x hx => h1.2.2 x ((p x).mpr hx)⟩, h2⟩
theorem ind_foldl {P : List (List Nat) → Prop} (hc : ∀ (A B : List (List Nat)) (a b : List Nat), P A → P B → (∀ w ∈ A, ∀ x ∈ w, x ∈ a) → (∀ w ∈ B, ∀ x ∈ w, x ∈ b) → (∀ x ∈ a, x ∉ b) → P (cross A B)) : ∀ (ps : List Pt) (J : List (List Nat)) (a : List Nat), P J → (∀ w ∈ J, ∀ x ∈ w, x ∈ a) → (∀ p ∈ ps, P p.2.1) → (∀ p ∈ ps, ∀ w ∈ p.2.1, ∀ x ∈ w, x ∈ p.2.2) → (a ++ ps.flatMap (·.2.2)).Nodup → P ((ps.map (·.2.1)).foldl cross J)
  | [], J, a, h, _, _, _, _ => h
  | p :: ps, J, a, h, sa, hp, sp, hn => by
    rw [List.flatMap_cons, ← List.append_assoc] at hn
    have hn2 := List.nodup_append.mp (List.nodup_append.mp hn).1
    refine ind_foldl hc ps (cross J p.2.1) (a ++ p.2.2) (hc _ _ a p.2.2 h (hp p List.mem_cons_self) sa (sp p List.mem_cons_self) fun x hx hy => hn2.2.2 x hx x hy rfl) (fun v hv x hx => ?_) (fun q hq => hp q (List.mem_cons_of_mem _ hq)) (fun q hq => sp q (List.mem_cons_of_mem _ hq)) hn
    obtain ⟨w, hw, m, hm, rfl⟩ := cross_mem.mp hv
    rw [srtN_mem, List.mem_append] at hx
    rw [List.mem_append]
    rcases hx with hx | hx
    · exact .inl (sa w hw x hx)
    · exact .inr (sp p List.mem_cons_self m hm x hx)
theorem ind_flat {P : List (List Nat) → Prop} (h0 : P []) (hs : ∀ (A B : List (List Nat)) (a b : List Nat), P A → P B → (∀ w ∈ A, ∀ x ∈ w, x ∈ a) → (∀ w ∈ B, ∀ x ∈ w, x ∈ b) → (∀ x ∈ a, x ∉ b) → P (A ++ B)) : ∀ (ps : List Pt), (∀ p ∈ ps, P p.2.1) → (∀ p ∈ ps, ∀ w ∈ p.2.1, ∀ x ∈ w, x ∈ p.2.2) → (ps.flatMap (·.2.2)).Nodup → P (ps.flatMap (·.2.1))
  | [], _, _, _ => h0
  | p :: ps, hp, sp, hn => by
    rw [List.flatMap_cons] at hn ⊢
    have hn2 := List.nodup_append.mp hn
    refine hs _ _ p.2.2 (ps.flatMap (·.2.2)) (hp p List.mem_cons_self) (ind_flat h0 hs ps (fun q hq => hp q (List.mem_cons_of_mem _ hq)) (fun q hq => sp q (List.mem_cons_of_mem _ hq)) hn2.2.1) (sp p List.mem_cons_self) (fun w hw x hx => ?_) fun x hx hy => hn2.2.2 x hx x hy rfl
    obtain ⟨q, hq, hwq⟩ := List.mem_flatMap.mp hw
    exact List.mem_flatMap.mpr ⟨q, hq, sp q (List.mem_cons_of_mem _ hq) w hwq x hx⟩
theorem Sp.ind {P : List (List Nat) → Prop} (hu : P [[]]) (h0 : P []) (hl : ∀ k, P [[k]]) (hc : ∀ (A B : List (List Nat)) (a b : List Nat), P A → P B → (∀ w ∈ A, ∀ x ∈ w, x ∈ a) → (∀ w ∈ B, ∀ x ∈ w, x ∈ b) → (∀ x ∈ a, x ∉ b) → P (cross A B))
    (hs : ∀ (A B : List (List Nat)) (a b : List Nat), P A → P B → (∀ w ∈ A, ∀ x ∈ w, x ∈ a) → (∀ w ∈ B, ∀ x ∈ w, x ∈ b) → (∀ x ∈ a, x ∉ b) → P (A ++ B)) {m : Nat} {t : D} {W : List (List Nat)} {th : List Nat} (h : Sp m t W th) : th.Nodup → P W := by
  induction h with
  | leaf n => exact fun _ => hl n
  | row ps hp h2 h3 hm ih =>
    intro hn
    have pn := part_nodup hn
    exact ind_foldl hc ps [[]] [] hu (fun w hw x hx => by rw [List.mem_singleton.mp hw] at hx; exact hx) (fun p hpm => ih p hpm (pn p hpm)) (fun p hpm => ((hp p hpm).ways (pn p hpm)).sub) (by simpa using hn)
  | side ps hp h2 h3 ih =>
    intro hn
    have pn := part_nodup hn
    exact ind_flat h0 hs ps (fun p hpm => ih p hpm (pn p hpm)) (fun p hpm => ((hp p hpm).ways (pn p hpm)).sub) hn
theorem Sp.calm {m : Nat} {t : D} {W : List (List Nat)} {th : List Nat} (h : Sp m t W th) (hn : th.Nodup) : Calm W :=
  h.ind calm_unit calm_none calm_leaf (fun A B a b => calm_cross) (fun A B a b => calm_side) hn
section
variable {F : List (List Nat)} {T : List (List (Option Nat))} {n : Nat} {st : List Nat} {c j : Nat}
end
inductive Came (F : List (List Nat)) (T : List (List (Option Nat))) (n : Nat) : List Nat → Prop
  | nil : Came F T n []
  | snoc {st : List Nat} {j : Nat} : Came F T n st → j ∈ cheapN F T (loadsN n (occ F st)) → Came F T n (st ++ [j])
theorem Came.take {F : List (List Nat)} {T : List (List (Option Nat))} {n : Nat} {st : List Nat} (h : Came F T n st) : ∀ k, Came F T n (st.take k) := by
  induction h with
  | nil => intro k; rw [List.take_nil]; exact .nil
  | @snoc st j h1 h2 ih =>
    intro k
    by_cases hk : k ≤ st.length
    · rw [List.take_append_of_le_length hk]; exact ih k
    · rw [List.take_of_length_le (by rw [List.length_append, List.length_singleton]; omega)]
      exact .snoc h1 h2
end L3

namespace L3
open PySem PySem.W PySem.Spec PyProof.Rows L2
@[simp] theorem pRev_tuple {xs : List D} : pRev (.tuple xs) = some (.t xs.reverse) := rfl
@[simp] theorem pRev_tN {w : List Nat} : pRev (tN w) = some (.t (w.reverse.map nD)) := by
  show some (PO.t (w.map nD).reverse) = _
  rw [List.map_reverse]
section
variable {F : List (List Nat)} {T : List (List (Option Nat))} {n : Nat}
end
end L3
namespace L3
open PySem PySem.W PySem.Spec PyProof.Rows L2
theorem len_cut {a : List D} {lo hi : Option Int} : (cutL a lo hi).length ≤ a.length := by
  unfold cutL
  rw [List.length_take, List.length_drop]
  omega
end L3

namespace L3
open PySem PySem.W PySem.Spec PyProof.Rows L2

inductive Tr where
  | leaf (x : Nat)
  | node (row : Bool) (ps : List Tr)
def kindS (row : Bool) : Str := if row then "row" else "side"
mutual
def trD : Tr → D
  | .leaf x => .int (x : Int)
  | .node k ps => .tuple [.str (kindS k), .tuple (trDs ps)]
def trDs : List Tr → List D
  | [] => []
  | p :: ps => trD p :: trDs ps
end
mutual
def cnt : Tr → Nat
  | .leaf _ => 1
  | .node _ ps => cnts ps + 1
def cnts : List Tr → Nat
  | [] => 0
  | p :: ps => cnt p + cnts ps
end
mutual
/-- the things of a part, sorted at each part -/
def thS : Tr → List Nat
  | .leaf x => [x]
  | .node _ ps => srtN (thSs ps)
def thSs : List Tr → List Nat
  | [] => []
  | p :: ps => thS p ++ thSs ps
end
abbrev RowT := Option Bool × List Nat × List Nat
def ends (o : Nat) : List Tr → List Nat
  | [] => []
  | p :: ps => (o + cnt p - 1) :: ends (o + cnt p) ps
mutual
def rowsT (o : Nat) : Tr → List RowT
  | .leaf x => [(none, [], [x])]
  | .node k ps => rowsL o ps ++ [(some k, ends o ps, thS (.node k ps))]
def rowsL (o : Nat) : List Tr → List RowT
  | [] => []
  | p :: ps => rowsT o p ++ rowsL (o + cnt p) ps
end
mutual
def subs : Tr → List Tr
  | .leaf x => [.leaf x]
  | .node k ps => subsL ps ++ [.node k ps]
def subsL : List Tr → List Tr
  | [] => []
  | p :: ps => subs p ++ subsL ps
end
theorem cnt_pos (t : Tr) : 1 ≤ cnt t := by
  cases t with
  | leaf x => unfold cnt; omega
  | node k ps => unfold cnt; omega
mutual
theorem rowsT_len (o : Nat) : ∀ t, (rowsT o t).length = cnt t
  | .leaf x => by unfold rowsT cnt; rfl
  | .node k ps => by unfold rowsT cnt; rw [List.length_append, rowsL_len o ps]; rfl
theorem rowsL_len (o : Nat) : ∀ ps, (rowsL o ps).length = cnts ps
  | [] => by unfold rowsL cnts; rfl
  | p :: ps => by unfold rowsL cnts; rw [List.length_append, rowsT_len o p, rowsL_len (o + cnt p) ps]
end
mutual
theorem subs_len : ∀ t, (subs t).length = cnt t
  | .leaf x => by unfold subs cnt; rfl
  | .node k ps => by unfold subs cnt; rw [List.length_append, subsL_len ps]; rfl
theorem subsL_len : ∀ ps, (subsL ps).length = cnts ps
  | [] => by unfold subsL cnts; rfl
  | p :: ps => by unfold subsL cnts; rw [List.length_append, subs_len p, subsL_len ps]
end
theorem ends_len : ∀ (o : Nat) (ps : List Tr), (ends o ps).length = ps.length
  | _, [] => rfl
  | o, p :: ps => by unfold ends; rw [List.length_cons, ends_len, List.length_cons]
theorem trDs_len : ∀ ps, (trDs ps).length = ps.length
  | [] => rfl
  | p :: ps => by unfold trDs; rw [List.length_cons, trDs_len, List.length_cons]
theorem trDs_map : ∀ ps, trDs ps = ps.map trD
  | [] => rfl
  | p :: ps => by unfold trDs; rw [trDs_map, List.map_cons]
theorem rowsT_last (o : Nat) (t : Tr) : ∃ r, (rowsT o t)[cnt t - 1]? = some r ∧ r.2.2 = thS t := by
  cases t with
  | leaf x => unfold rowsT cnt thS; exact ⟨_, rfl, rfl⟩
  | node k ps =>
    refine ⟨(some k, ends o ps, thS (.node k ps)), ?_, rfl⟩
    unfold rowsT cnt
    rw [Nat.add_sub_cancel, List.getElem?_append_right (by rw [rowsL_len]; omega), rowsL_len, Nat.sub_self]
    rfl

abbrev PS := List RowT × List (Tr × List Nat)
def bump (n : Nat) : List (Tr × List Nat) → List (Tr × List Nat)
  | [] => []
  | (u, l) :: st => (u, l ++ [n]) :: st
def thOf (R : List RowT) (n : Nat) : List Nat := match R[n]? with
  | some r => r.2.2
  | none => []
def step : PS → PS
  | (R, []) => (R, [])
  | (R, (.leaf x, _) :: st) => (R ++ [(none, [], [x])], bump R.length st)
  | (R, (.node k ps, l) :: st) => match ps[l.length]? with
    | some p => (R, (p, []) :: (.node k ps, l) :: st)
    | none => (R ++ [(some k, l, srtN (l.flatMap (thOf R)))], bump R.length st)
def it : Nat → PS → PS
  | 0, s => s
  | n + 1, s => it n (step s)
theorem it_add : ∀ (n m : Nat) (s : PS), it (n + m) s = it m (it n s)
  | 0, m, s => by rw [Nat.zero_add]; rfl
  | n + 1, m, s => by
    rw [Nat.add_right_comm]
    show it (n + m) (step s) = it m (it n (step s))
    exact it_add n m _
theorem it_succ (n : Nat) (s : PS) : it (n + 1) s = step (it n s) := by rw [it_add]; rfl
theorem thOf_app {R R' : List RowT} {n : Nat} (h : n < R.length) : thOf (R ++ R') n = thOf R n := by unfold thOf; rw [List.getElem?_append_left h]
theorem ends_ths : ∀ (ps : List Tr) (R : List RowT), (ends R.length ps).flatMap (thOf (R ++ rowsL R.length ps)) = thSs ps
  | [], R => by unfold ends thSs; rfl
  | p :: ps, R => by
    unfold ends thSs rowsL
    rw [List.flatMap_cons, ← List.append_assoc]
    have e : (R ++ rowsT R.length p).length = R.length + cnt p := by rw [List.length_append, rowsT_len]
    have ih := ends_ths ps (R ++ rowsT R.length p)
    rw [e] at ih
    rw [ih]
    congr 1
    rw [thOf_app (by have := cnt_pos p; omega)]
    obtain ⟨r, h1, h2⟩ := rowsT_last R.length p
    unfold thOf
    have hp := cnt_pos p
    rw [List.getElem?_append_right (by omega)]
    have e2 : R.length + cnt p - 1 - R.length = cnt p - 1 := by omega
    rw [e2, h1]
    exact h2
mutual
theorem run_t : ∀ (t : Tr) (R : List RowT) (st : List (Tr × List Nat)), it (2 * cnt t - 1) (R, (t, []) :: st) = (R ++ rowsT R.length t, bump (R.length + cnt t - 1) st)
  | .leaf x, R, st => by
    unfold rowsT cnt
    show step (R, (.leaf x, []) :: st) = _
    rfl
  | .node k ps, R, st => by
    have h := run_l ps k [] [] R st rfl
    unfold cnt
    have e : 2 * (cnts ps + 1) - 1 = 2 * cnts ps + 1 := by omega
    rw [e, it_succ]
    rw [List.nil_append, List.nil_append] at h
    rw [h]
    have e2 : ps[(ends R.length ps).length]? = none := List.getElem?_eq_none (by rw [ends_len]; exact Nat.le_refl _)
    show (match ps[(ends R.length ps).length]? with | some p => _ | none => _) = _
    rw [e2]
    show (_, _) = _
    rw [ends_ths ps R]
    unfold rowsT
    rw [List.append_assoc, List.length_append, rowsL_len]
    congr 1
theorem run_l : ∀ (ps : List Tr) (k : Bool) (done : List Tr) (E : List Nat) (R : List RowT) (st : List (Tr × List Nat)), E.length = done.length →
    it (2 * cnts ps) (R, (.node k (done ++ ps), E) :: st) = (R ++ rowsL R.length ps, (.node k (done ++ ps), E ++ ends R.length ps) :: st)
  | [], k, done, E, R, st, h => by
    unfold cnts rowsL ends
    rw [List.append_nil, List.append_nil, List.append_nil]
    rfl
  | p :: ps, k, done, E, R, st, h => by
    unfold cnts rowsL ends
    have e1 : 2 * (cnt p + cnts ps) = 1 + ((2 * cnt p - 1) + 2 * cnts ps) := by have := cnt_pos p; omega
    rw [e1, it_add]
    have s1 : it 1 (R, (Tr.node k (done ++ p :: ps), E) :: st) = (R, (p, []) :: (.node k (done ++ p :: ps), E) :: st) := by
      show (match (done ++ p :: ps)[E.length]? with | some p => _ | none => _) = _
      rw [h, List.getElem?_append_right (Nat.le_refl _), Nat.sub_self]
      rfl
    rw [s1, it_add, run_t p R]
    have ih := run_l ps k (done ++ [p]) (E ++ [R.length + cnt p - 1]) (R ++ rowsT R.length p) st (by simp [h])
    rw [List.append_assoc, List.singleton_append] at ih
    show it (2 * cnts ps) (R ++ rowsT R.length p, (Tr.node k (done ++ p :: ps), E ++ [R.length + cnt p - 1]) :: st) = _
    rw [ih, List.length_append, rowsT_len, List.append_assoc, List.append_assoc]
    rfl
end
theorem run_all (t : Tr) : it (2 * cnt t - 1) ([], [(t, [])]) = (rowsT 0 t, []) := by
  have h := run_t t [] []
  rw [List.nil_append] at h
  exact h
end L3

namespace L3
open PySem PySem.W PySem.Spec PyProof.Rows L2
def oS : Option (D ⊕ C) → Option Sl
  | none => none
  | some (.inl d) => some (.val d)
  | some (.inr c) => some (.own c)
@[simp] theorem clrE_oS {x : Option (D ⊕ C)} {e : List (Option Sl)} : clrE (oS x :: e) = oS x :: clrE e := by
  match x with
  | none => rfl
  | some (.inl d) => rfl
  | some (.inr c) => rfl
@[simp] theorem noStk_oS {x : Option (D ⊕ C)} {e : List (Option Sl)} : noStk (oS x :: e) = noStk e := by
  match x with
  | none => rfl
  | some (.inl d) => rfl
  | some (.inr c) => rfl
@[simp] theorem okSlot_oS {x : Option D} : okSlot (some (oS (x.map Sum.inl))) = true := by cases x <;> rfl
def kdD : Option Bool → D
  | none => .none
  | some k => .str (kindS k)
def rowD3 (r : RowT) : D := .tuple [kdD r.1, tN r.2.1, tN r.2.2]
def entD (e : Tr × List Nat) : Row := ([trD e.1], some (e.2.map nD))
theorem step_push {R : List RowT} {k : Bool} {ps : List Tr} {l : List Nat} {st : List (Tr × List Nat)} {p : Tr} (e : ps[l.length]? = some p) : step (R, (.node k ps, l) :: st) = (R, (p, []) :: (.node k ps, l) :: st) := by
  show (match ps[l.length]? with | some p => _ | none => _) = _
  rw [e]
theorem step_pop {R : List RowT} {k : Bool} {ps : List Tr} {l : List Nat} {st : List (Tr × List Nat)} (e : ps[l.length]? = none) : step (R, (.node k ps, l) :: st) = (R ++ [(some k, l, srtN (l.flatMap (thOf R)))], bump R.length st) := by
  show (match ps[l.length]? with | some p => _ | none => _) = _
  rw [e]
theorem step_leaf {R : List RowT} {x : Nat} {l : List Nat} {st : List (Tr × List Nat)} : step (R, (.leaf x, l) :: st) = (R ++ [(none, [], [x])], bump R.length st) := rfl
def Sz (i : Nat) (s : PS) : Prop := s.1.length ≤ i ∧ s.2.length ≤ i + 1 ∧ ∀ e ∈ s.2, e.2.length ≤ i ∧ ∀ n ∈ e.2, n < s.1.length
theorem bump_sz {i : Nat} {R R' : List RowT} (hR' : R'.length = R.length + 1) : ∀ {st : List (Tr × List Nat)}, (∀ e ∈ st, e.2.length ≤ i ∧ ∀ n ∈ e.2, n < R.length) → (bump R.length st).length = st.length ∧ ∀ e ∈ bump R.length st, e.2.length ≤ i + 1 ∧ ∀ n ∈ e.2, n < R'.length
  | [], _ => ⟨rfl, fun e he => by cases he⟩
  | (u, l) :: st, h => by
    refine ⟨rfl, fun e he => ?_⟩
    rcases List.mem_cons.mp he with rfl | he
    · have := h (u, l) List.mem_cons_self
      refine ⟨?_, fun n hn => ?_⟩
      · have := this.1
        show (l ++ [R.length]).length ≤ _
        rw [List.length_append]
        show l.length + 1 ≤ _
        exact Nat.succ_le_succ this
      · rcases List.mem_append.mp hn with hn | hn
        · have := this.2 n hn; omega
        · rw [List.mem_singleton.mp hn]; omega
    · have := h e (List.mem_cons_of_mem _ he)
      exact ⟨by omega, fun n hn => by have := this.2 n hn; omega⟩
theorem step_sz {i : Nat} : ∀ {s : PS}, Sz i s → Sz (i + 1) (step s)
  | (R, []), ⟨h1, h2, h3⟩ => ⟨Nat.le_succ_of_le h1, Nat.zero_le _, fun e he => by cases he⟩
  | (R, (.leaf x, l) :: st), ⟨h1, h2, h3⟩ => by
    have h1 : R.length ≤ i := h1
    have h2 : st.length + 1 ≤ i + 1 := h2
    obtain ⟨b1, b2⟩ := bump_sz (i := i) (R := R) (R' := R ++ [(none, [], [x])]) (by simp) (st := st) fun e he => h3 e (List.mem_cons_of_mem _ he)
    refine ⟨?_, ?_, b2⟩
    · show (R ++ [_]).length ≤ _; rw [List.length_append]; show R.length + 1 ≤ _; omega
    · show (bump _ _).length ≤ _; rw [b1]; omega
  | (R, (.node k ps, l) :: st), ⟨h1, h2, h3⟩ => by
    have h1 : R.length ≤ i := h1
    have h2 : st.length + 1 ≤ i + 1 := h2
    cases e : ps[l.length]? with
    | some p =>
      rw [step_push e]
      refine ⟨by show R.length ≤ _; omega, by show st.length + 1 + 1 ≤ _; omega, fun e he => ?_⟩
      rcases List.mem_cons.mp he with rfl | he
      · exact ⟨Nat.zero_le _, fun n hn => by cases hn⟩
      · have := h3 e he
        exact ⟨by omega, this.2⟩
    | none =>
      rw [step_pop e]
      obtain ⟨b1, b2⟩ := bump_sz (i := i) (R := R) (R' := R ++ [(some k, l, srtN (l.flatMap (thOf R)))]) (by simp) (st := st) fun e he => h3 e (List.mem_cons_of_mem _ he)
      refine ⟨?_, ?_, b2⟩
      · show (R ++ [_]).length ≤ _; rw [List.length_append]; show R.length + 1 ≤ _; omega
      · show (bump _ _).length ≤ _; rw [b1]; omega
theorem it_sz (t : Tr) : ∀ i, Sz i (it i ([], [(t, [])]))
  | 0 => ⟨Nat.le_refl _, Nat.le_refl _, fun e he => by
    rw [List.mem_singleton.mp he]
    exact ⟨Nat.le_refl _, fun n hn => by cases hn⟩⟩
  | i + 1 => by rw [it_succ]; exact step_sz (it_sz t i)
theorem step_pre (s : PS) : s.1 <+: (step s).1 := by
  match s with
  | (R, []) => exact List.prefix_refl _
  | (R, (.leaf x, l) :: st) => exact List.prefix_append _ _
  | (R, (.node k ps, l) :: st) =>
    cases e : ps[l.length]? with
    | some p => rw [step_push e]; exact List.prefix_refl _
    | none => rw [step_pop e]; exact List.prefix_append _ _
theorem it_pre (s : PS) : ∀ n, s.1 <+: (it n s).1
  | 0 => List.prefix_refl _
  | n + 1 => by rw [it_succ]; exact (it_pre s n).trans (step_pre _)
theorem it_pre2 {s : PS} {i j : Nat} (h : i ≤ j) : (it i s).1 <+: (it j s).1 := by
  have e : j = i + (j - i) := by omega
  rw [e, it_add]
  exact it_pre _ _
theorem it_done {s : PS} {i : Nat} (h : (it i s).2 = []) : ∀ k, it (i + k) s = it i s
  | 0 => rfl
  | k + 1 => by
    show it (i + k + 1) s = _
    rw [it_succ, it_done h k]
    generalize it i s = q at h ⊢
    obtain ⟨R, st⟩ := q
    have h : st = [] := h
    subst h
    rfl
theorem it_end {t : Tr} {i : Nat} (h : (it i ([], [(t, [])])).2 = []) (hi : i ≤ 2 * cnt t - 1) : (it i ([], [(t, [])])).1 = rowsT 0 t := by
  have := it_done h (2 * cnt t - 1 - i)
  have e : i + (2 * cnt t - 1 - i) = 2 * cnt t - 1 := by omega
  rw [e, run_all] at this
  rw [← this]
mutual
theorem th_le (o : Nat) : ∀ (t : Tr) (r : RowT), r ∈ rowsT o t → r.2.2.length ≤ (thS t).length
  | .leaf x, r, h => by
    unfold rowsT at h
    rw [List.mem_singleton.mp h]
    unfold thS
    exact Nat.le_refl _
  | .node k ps, r, h => by
    unfold rowsT at h
    have e : (thS (.node k ps)).length = (thSs ps).length := by unfold thS; exact (srtN_perm _).length_eq
    rcases List.mem_append.mp h with h | h
    · rw [e]; exact th_les o ps r h
    · rw [List.mem_singleton.mp h]
      exact Nat.le_refl _
theorem th_les (o : Nat) : ∀ (ps : List Tr) (r : RowT), r ∈ rowsL o ps → r.2.2.length ≤ (thSs ps).length
  | [], r, h => by unfold rowsL at h; cases h
  | p :: ps, r, h => by
    unfold rowsL at h
    unfold thSs
    rw [List.length_append]
    rcases List.mem_append.mp h with h | h
    · have := th_le o p r h; omega
    · have := th_les (o + cnt p) ps r h; omega
end
theorem thOf_le {t : Tr} {i : Nat} (hi : i ≤ 2 * cnt t - 1) (n : Nat) : (thOf (it i ([], [(t, [])])).1 n).length ≤ (thS t).length := by
  unfold thOf
  cases e : (it i ([], [(t, [])])).1[n]? with
  | none => exact Nat.zero_le _
  | some r =>
    have hp := it_pre2 (s := ([], [(t, [])])) hi
    rw [run_all] at hp
    exact th_le 0 t r (hp.subset (List.mem_of_getElem? e))
theorem flatMap_le {α β : Type} (l : List α) (f : α → List β) (b : Nat) (h : ∀ x ∈ l, (f x).length ≤ b) : (l.flatMap f).length ≤ l.length * b := by
  induction l with
  | nil => simp
  | cons a l ih =>
    have h1 := ih fun x hx => h x (List.mem_cons_of_mem _ hx)
    have h2 := h a List.mem_cons_self
    rw [List.flatMap_cons, List.length_append, List.length_cons, Nat.add_mul]
    omega
def Sk (s : Option Sl) : Prop := ∃ x, s = oS x
def Ck (s : Option Sl) : Prop := ∃ x : Option D, s = oS (x.map Sum.inl)
@[simp] theorem sk_none : Sk none := ⟨none, rfl⟩
@[simp] theorem sk_val {d : D} : Sk (some (.val d)) := ⟨some (.inl d), rfl⟩
@[simp] theorem sk_own {c : C} : Sk (some (.own c)) := ⟨some (.inr c), rfl⟩
@[simp] theorem sk_oS {x : Option (D ⊕ C)} : Sk (oS x) := ⟨x, rfl⟩
@[simp] theorem ck_none : Ck none := ⟨none, rfl⟩
@[simp] theorem ck_val {d : D} : Ck (some (.val d)) := ⟨some d, rfl⟩
@[simp] theorem ck_oS {x : Option D} : Ck (oS (x.map Sum.inl)) := ⟨x, rfl⟩
end L3

namespace L3
open PySem PySem.W PySem.Spec PyProof.Rows L2

mutual
def waysT : Tr → List (List Nat)
  | .leaf x => [[x]]
  | .node k ps => if k then crossAll (waysTs ps) else (waysTs ps).flatten
def waysTs : List Tr → List (List (List Nat))
  | [] => []
  | p :: ps => waysT p :: waysTs ps
end
mutual
def thF : Tr → List Nat
  | .leaf x => [x]
  | .node _ ps => thFs ps
def thFs : List Tr → List Nat
  | [] => []
  | p :: ps => thF p ++ thFs ps
end
mutual
def Ar : Tr → Prop
  | .leaf _ => True
  | .node _ ps => 2 ≤ ps.length ∧ ps.length ≤ 3 ∧ Ars ps
def Ars : List Tr → Prop
  | [] => True
  | p :: ps => Ar p ∧ Ars ps
end
theorem tr_list : ∀ (ps : List Pt), (∀ p ∈ ps, ∃ t, p.1 = trD t ∧ p.2.1 = waysT t ∧ p.2.2 = thF t ∧ Ar t) → ∃ ts, ps.map (·.1) = trDs ts ∧ ps.map (·.2.1) = waysTs ts ∧ ps.flatMap (·.2.2) = thFs ts ∧ Ars ts ∧ ts.length = ps.length
  | [], _ => ⟨[], rfl, rfl, rfl, trivial, rfl⟩
  | p :: ps, h => by
    obtain ⟨t, h1, h2, h3, h4⟩ := h p List.mem_cons_self
    obtain ⟨ts, g1, g2, g3, g4, g5⟩ := tr_list ps fun q hq => h q (List.mem_cons_of_mem _ hq)
    refine ⟨t :: ts, ?_, ?_, ?_, ⟨h4, g4⟩, by simp [g5]⟩
    · rw [List.map_cons, g1, h1]; rfl
    · rw [List.map_cons, g2, h2]; rfl
    · rw [List.flatMap_cons, g3, h3]; rfl
theorem flatMap_flat {α β : Type} (f : α → List β) (xs : List α) : xs.flatMap f = (xs.map f).flatten := List.flatMap_def ..
theorem Sp.tr {m : Nat} {t : D} {W : List (List Nat)} {th : List Nat} (h : Sp m t W th) : ∃ u, t = trD u ∧ W = waysT u ∧ th = thF u ∧ Ar u := by
  induction h with
  | leaf n => exact ⟨.leaf n, rfl, rfl, rfl, trivial⟩
  | row ps hp h2 h3 hm ih =>
    obtain ⟨ts, g1, g2, g3, g4, g5⟩ := tr_list ps ih
    refine ⟨.node true ts, ?_, ?_, ?_, by unfold Ar; exact ⟨by omega, by omega, g4⟩⟩
    · rw [g1]; rfl
    · rw [g2]; unfold waysT; rw [if_pos rfl]
    · rw [g3]; rfl
  | side ps hp h2 h3 ih =>
    obtain ⟨ts, g1, g2, g3, g4, g5⟩ := tr_list ps ih
    refine ⟨.node false ts, ?_, ?_, ?_, by unfold Ar; exact ⟨by omega, by omega, g4⟩⟩
    · rw [g1]; rfl
    · rw [flatMap_flat, g2]; unfold waysT; rfl
    · rw [g3]; rfl
mutual
theorem cnt_le : ∀ t, Ar t → cnt t + 1 ≤ 2 * (thF t).length
  | .leaf x, _ => by unfold cnt thF; simp
  | .node k ps, h => by
    unfold Ar at h
    unfold cnt thF
    have := cnts_le ps h.2.2
    omega
theorem cnts_le : ∀ ps, Ars ps → cnts ps + ps.length ≤ 2 * (thFs ps).length
  | [], _ => by unfold cnts; simp
  | p :: ps, h => by
    unfold Ars at h
    unfold cnts thFs
    rw [List.length_append, List.length_cons]
    have h1 := cnt_le p h.1
    have h2 := cnts_le ps h.2
    omega
end
mutual
theorem thS_perm : ∀ t, (thS t).Perm (thF t)
  | .leaf x => by unfold thS thF; exact List.Perm.refl _
  | .node k ps => by
    unfold thS thF
    exact (srtN_perm _).trans (thSs_perm ps)
theorem thSs_perm : ∀ ps, (thSs ps).Perm (thFs ps)
  | [] => by unfold thSs thFs; exact List.Perm.refl _
  | p :: ps => by
    unfold thSs thFs
    exact (thS_perm p).append (thSs_perm ps)
end
def RowOk (U : List Tr) (o i : Nat) (u : Tr) (r : RowT) : Prop := match u with
  | .leaf x => r = (none, [], [x])
  | .node k ps => ∃ E, r = (some k, E, thS (.node k ps)) ∧ (∀ n ∈ E, o ≤ n ∧ n < o + i) ∧ E.map (fun n => U[n - o]?) = ps.map some
theorem RowOk.left {U V : List Tr} {o i : Nat} {u : Tr} {r : RowT} (h : RowOk U o i u r) (hi : i ≤ U.length) : RowOk (U ++ V) o i u r := by
  cases u with
  | leaf x => exact h
  | node k ps =>
    obtain ⟨E, h1, h2, h3⟩ := h
    refine ⟨E, h1, h2, ?_⟩
    rw [← h3]
    refine List.map_congr_left fun n hn => ?_
    have := h2 n hn
    exact List.getElem?_append_left (by omega)
theorem RowOk.right {U V : List Tr} {o i : Nat} {u : Tr} {r : RowT} (h : RowOk V (o + U.length) i u r) : RowOk (U ++ V) o (U.length + i) u r := by
  cases u with
  | leaf x => exact h
  | node k ps =>
    obtain ⟨E, h1, h2, h3⟩ := h
    refine ⟨E, h1, fun n hn => by have := h2 n hn; omega, ?_⟩
    rw [← h3]
    refine List.map_congr_left fun n hn => ?_
    have := h2 n hn
    show (U ++ V)[n - o]? = V[n - (o + U.length)]?
    rw [List.getElem?_append_right (by omega)]
    congr 1
    omega
theorem subs_last (t : Tr) : (subs t)[cnt t - 1]? = some t := by
  cases t with
  | leaf x => unfold subs cnt; rfl
  | node k ps =>
    unfold subs cnt
    rw [Nat.add_sub_cancel, List.getElem?_append_right (by rw [subsL_len]; exact Nat.le_refl _), subsL_len, Nat.sub_self]
    rfl
theorem ends_sub : ∀ (ps : List Tr) (o : Nat), (∀ n ∈ ends o ps, o ≤ n ∧ n < o + cnts ps) ∧ (ends o ps).map (fun n => (subsL ps)[n - o]?) = ps.map some
  | [], o => by unfold ends; exact ⟨fun n hn => (by cases hn), rfl⟩
  | p :: ps, o => by
    obtain ⟨h1, h2⟩ := ends_sub ps (o + cnt p)
    have hp := cnt_pos p
    unfold ends cnts subsL
    refine ⟨fun n hn => ?_, ?_⟩
    · rcases List.mem_cons.mp hn with rfl | hn
      · omega
      · have := h1 n hn; omega
    · rw [List.map_cons, List.map_cons]
      congr 1
      · have e : o + cnt p - 1 - o = cnt p - 1 := by omega
        show (subs p ++ subsL ps)[_]? = _
        rw [e, List.getElem?_append_left (by rw [subs_len]; omega)]
        exact subs_last p
      · rw [← h2]
        refine List.map_congr_left fun n hn => ?_
        have := h1 n hn
        show (subs p ++ subsL ps)[n - o]? = (subsL ps)[n - (o + cnt p)]?
        rw [List.getElem?_append_right (by rw [subs_len]; omega), subs_len]
        congr 1
        omega
mutual
theorem rows_sub : ∀ (t : Tr) (o i : Nat) (u : Tr), (subs t)[i]? = some u → ∃ r, (rowsT o t)[i]? = some r ∧ RowOk (subs t) o i u r
  | .leaf x, o, i, u, h => by
    unfold subs at h
    unfold rowsT
    cases i with
    | zero => cases h; exact ⟨_, rfl, rfl⟩
    | succ i => simp at h
  | .node k ps, o, i, u, h => by
    unfold subs at h ⊢
    unfold rowsT
    rcases Nat.lt_or_ge i (subsL ps).length with hi | hi
    · rw [List.getElem?_append_left hi] at h
      obtain ⟨r, h1, h2⟩ := rows_subs ps o i u h
      exact ⟨r, by rw [List.getElem?_append_left (by rw [rowsL_len, ← subsL_len]; exact hi)]; exact h1, h2.left (by omega)⟩
    · rw [List.getElem?_append_right hi] at h
      have hi0 : i - (subsL ps).length = 0 := by
        rcases Nat.eq_zero_or_pos (i - (subsL ps).length) with h0 | h0
        · exact h0
        · rw [List.getElem?_eq_none (by show 1 ≤ _; omega)] at h; cases h
      rw [hi0] at h
      cases h
      have ei : i = cnts ps := by rw [subsL_len] at hi hi0; omega
      subst ei
      obtain ⟨g1, g2⟩ := ends_sub ps o
      refine ⟨(some k, ends o ps, thS (.node k ps)), by rw [List.getElem?_append_right (by rw [rowsL_len]; exact Nat.le_refl _), rowsL_len, Nat.sub_self]; rfl, ends o ps, rfl, g1, ?_⟩
      rw [← g2]
      refine List.map_congr_left fun n hn => ?_
      have := g1 n hn
      exact List.getElem?_append_left (by rw [subsL_len]; omega)
theorem rows_subs : ∀ (ps : List Tr) (o i : Nat) (u : Tr), (subsL ps)[i]? = some u → ∃ r, (rowsL o ps)[i]? = some r ∧ RowOk (subsL ps) o i u r
  | [], o, i, u, h => by unfold subsL at h; simp at h
  | p :: ps, o, i, u, h => by
    unfold subsL at h ⊢
    unfold rowsL
    rcases Nat.lt_or_ge i (subs p).length with hi | hi
    · rw [List.getElem?_append_left hi] at h
      obtain ⟨r, h1, h2⟩ := rows_sub p o i u h
      exact ⟨r, by rw [List.getElem?_append_left (by rw [rowsT_len, ← subs_len]; exact hi)]; exact h1, h2.left (by omega)⟩
    · rw [List.getElem?_append_right hi] at h
      obtain ⟨r, h1, h2⟩ := rows_subs ps (o + cnt p) (i - (subs p).length) u h
      refine ⟨r, by rw [List.getElem?_append_right (by rw [rowsT_len, ← subs_len]; exact hi), rowsT_len]; rw [subs_len] at h1; exact h1, ?_⟩
      have e : i = (subs p).length + (i - (subs p).length) := by omega
      rw [e]
      rw [← subs_len p] at h2
      exact h2.right
end
end L3

namespace L3
open PySem PySem.W PySem.Spec PyProof.Rows L2

inductive Sel : List (List Nat) → List (List (List Nat)) → Prop
  | nil : Sel [] []
  | cons {w : List Nat} {ws : List (List Nat)} {W : List (List Nat)} {Ws : List (List (List Nat))} : w ∈ W → Sel ws Ws → Sel (w :: ws) (W :: Ws)
theorem cross_of : ∀ (Ws : List (List (List Nat))) (J : List (List Nat)) (v : List Nat), v ∈ Ws.foldl cross J → ∃ u ∈ J, ∃ ws, Sel ws Ws ∧ ∀ x, x ∈ v ↔ x ∈ u ∨ ∃ w ∈ ws, x ∈ w
  | [], J, v, h => ⟨v, h, [], .nil, fun x => by simp⟩
  | W :: Ws, J, v, h => by
    obtain ⟨u, hu, ws, hs, hx⟩ := cross_of Ws (cross J W) v h
    obtain ⟨j, hj, m, hm, rfl⟩ := cross_mem.mp hu
    refine ⟨j, hj, m :: ws, .cons hm hs, fun x => ?_⟩
    rw [hx, srtN_mem, List.mem_append]
    constructor
    · rintro ((h | h) | ⟨w, hw, h⟩)
      · exact .inl h
      · exact .inr ⟨m, List.mem_cons_self, h⟩
      · exact .inr ⟨w, List.mem_cons_of_mem _ hw, h⟩
    · rintro (h | ⟨w, hw, h⟩)
      · exact .inl (.inl h)
      · rcases List.mem_cons.mp hw with rfl | hw
        · exact .inl (.inr h)
        · exact .inr ⟨w, hw, h⟩
mutual
theorem waysT_in : ∀ (t : Tr), ∀ w ∈ waysT t, ∀ x ∈ w, x ∈ thF t
  | .leaf n, w, h, x, hx => by
    unfold waysT at h
    unfold thF
    rw [List.mem_singleton.mp h] at hx; exact hx
  | .node k ps, w, h, x, hx => by
    unfold waysT at h
    unfold thF
    split at h
    · obtain ⟨u, hu, ws, hs, hv⟩ := cross_of _ _ _ h
      rw [hv] at hx
      rcases hx with hx | ⟨m, hm, hx⟩
      · rw [List.mem_singleton.mp hu] at hx; cases hx
      · exact waysT_ins ps ws hs m hm x hx
    · obtain ⟨W, hW, hw⟩ := List.mem_flatten.mp h
      exact waysT_inf ps W hW w hw x hx
theorem waysT_ins : ∀ (ps : List Tr) (ws : List (List Nat)), Sel ws (waysTs ps) → ∀ w ∈ ws, ∀ x ∈ w, x ∈ thFs ps
  | [], _, h, w, hw, x, hx => by unfold waysTs at h; cases h; cases hw
  | p :: ps, _, h, w, hw, x, hx => by
    unfold waysTs at h
    unfold thFs
    cases h with
    | cons h1 h2 =>
      rcases List.mem_cons.mp hw with rfl | hw
      · exact List.mem_append_left _ (waysT_in p _ h1 x hx)
      · exact List.mem_append_right _ (waysT_ins ps _ h2 w hw x hx)
theorem waysT_inf : ∀ (ps : List Tr), ∀ W ∈ waysTs ps, ∀ w ∈ W, ∀ x ∈ w, x ∈ thFs ps
  | [], W, h, w, hw, x, hx => by unfold waysTs at h; cases h
  | p :: ps, W, h, w, hw, x, hx => by
    unfold waysTs at h
    unfold thFs
    rcases List.mem_cons.mp h with rfl | h
    · exact List.mem_append_left _ (waysT_in p _ hw x hx)
    · exact List.mem_append_right _ (waysT_inf ps W h w hw x hx)
end
theorem Sel.at {ws : List (List Nat)} {Ws : List (List (List Nat))} (h : Sel ws Ws) : ∀ {j : Nat} {W : List (List Nat)}, Ws[j]? = some W → ∃ w, ws[j]? = some w ∧ w ∈ W := by
  induction h with
  | nil => intro j W h; simp at h
  | cons h1 h2 ih =>
    intro j W h
    cases j with
    | zero => cases h; exact ⟨_, rfl, h1⟩
    | succ j => exact ih (by simpa using h)
theorem Sel.set {ws : List (List Nat)} {Ws : List (List (List Nat))} (h : Sel ws Ws) : ∀ {j : Nat} {W : List (List Nat)} {w : List Nat}, Ws[j]? = some W → w ∈ W → Sel (ws.set j w) Ws := by
  induction h with
  | nil => intro j W w h; simp at h
  | cons h1 h2 ih =>
    intro j W w h hw
    cases j with
    | zero => cases h; exact .cons hw h2
    | succ j => exact .cons h1 (ih (by simpa using h) hw)
theorem waysTs_map : ∀ ps, waysTs ps = ps.map waysT
  | [] => by unfold waysTs; rfl
  | p :: ps => by unfold waysTs; rw [waysTs_map ps]; rfl
theorem thFs_flat : ∀ ps, thFs ps = ps.flatMap thF
  | [] => by unfold thFs; rfl
  | p :: ps => by unfold thFs; rw [thFs_flat ps]; rfl
theorem thF_node {k : Bool} {ps : List Tr} : thF (.node k ps) = thFs ps := by unfold thF; rfl
mutual
theorem subs_ar : ∀ (t u : Tr), u ∈ subs t → Ar t → Ar u
  | .leaf n, u, h, ha => by
    unfold subs at h
    rw [List.mem_singleton.mp h]
    exact ha
  | .node k ps, u, h, ha => by
    unfold subs at h
    rcases List.mem_append.mp h with h | h
    · unfold Ar at ha
      exact subs_ars ps u h ha.2.2
    · rw [List.mem_singleton.mp h]
      exact ha
theorem subs_ars : ∀ (ps : List Tr) (u : Tr), u ∈ subsL ps → Ars ps → Ar u
  | [], u, h, _ => by unfold subsL at h; cases h
  | p :: ps, u, h, ha => by
    unfold subsL at h
    unfold Ars at ha
    rcases List.mem_append.mp h with h | h
    · exact subs_ar p u h ha.1
    · exact subs_ars ps u h ha.2
end
end L3

namespace L3
open PySem PySem.W PySem.Spec PyProof.Rows L2
theorem sum_natI (xs : List Nat) : (xs.map fun (x : Nat) => (x : Int)).sum = (xs.sum : Nat) := by
  induction xs with
  | nil => rfl
  | cons x xs ih => rw [List.map_cons, List.sum_cons, ih, List.sum_cons]; omega
end L3

namespace L3
open PySem PySem.W PySem.Spec PyProof.Rows L2

end L3

namespace L3
open PySem PySem.W PySem.Spec PyProof.Rows L2
section
variable {env : List (Option Sl)} {box : List D}
def slO : Option (Option Sl) → Option (List D)
  | some (some (Sl.own (C.lst ds))) => some ds
  | _ => none
@[simp] theorem slO_own {ds : List D} : slO (some (some (.own (.lst ds)))) = some ds := rfl
@[simp] theorem ownl_mk {j : Nat} : S.ownl ⟨env, box⟩ j = slO env[j]? := rfl
@[simp ↓] theorem wp_eCompP {j : Nat} {vs : List Nat} {g : D → S → Option S} {c : M Bool} {f : M D} {s : S} {Q : R → S → Prop} : Wp (eCompP j vs g c f s) Q = cV (s.ownl j) fun all => (s.clean vs = true ∧ vs.contains j = false) ∧ Wp (compP all j g c f vs all [] s) fun acc s' => Q (.new (.lst acc)) (s'.back s vs) := by
  unfold eCompP
  cases s.ownl j with
  | none => rfl
  | some all =>
    dsimp only [cV_some]
    by_cases h : s.clean vs = true
    · cases h2 : vs.contains j with
      | true => simp [Wp]
      | false =>
        simp only [h, Bool.not_false, Bool.and_true, if_true, true_and]
        cases compP all j g c f vs all [] s <;> rfl
    · simp [h, Wp]
end
end L3

namespace L3
open PySem PySem.W PySem.Spec PyProof.Rows L2

theorem plain_tNs (F : List (List Nat)) : PyData.plainAll (F.map tN) = true := by
  induction F with
  | nil => rfl
  | cons w F ih =>
    rw [List.map_cons, PyData.plainAll, ih, Bool.and_true]
    unfold tN
    rw [PyData.plain]
    exact plain_nDs w
theorem any_tNs (F : List (List Nat)) (w : List Nat) : ((F.map tN).any fun z => PyData.eqv z (tN w)) = decide (w ∈ F) := by
  rw [Bool.eq_iff_iff, List.any_eq_true, decide_eq_true_eq]
  constructor
  · rintro ⟨z, hz, h⟩
    obtain ⟨v, hv, rfl⟩ := List.mem_map.mp hz
    rw [eqv_tN, decide_eq_true_eq] at h
    rw [← h]; exact hv
  · intro h
    exact ⟨tN w, List.mem_map.mpr ⟨w, h, rfl⟩, by rw [eqv_tN, decide_eq_true_eq]⟩
theorem inOk_tNs (w : List Nat) (F : List (List Nat)) : inOk (tN w) (F.map tN) = true := by
  unfold inOk
  rw [plain_tNs, depth_tN]
  unfold tN
  rw [PyData.plain, plain_nDs]; rfl
@[simp] theorem ndIn_fN {w : List Nat} {F : List (List Nat)} : nd2 pIn (tN w) (fN F) = some (decide (w ∈ F)) := by
  refine nd2_some ?_ (noDict_tN w) (noDict_fN F)
  show (if inOk (tN w) (F.map tN) then some ((F.map tN).any fun z => PyData.eqv z (tN w)) else none) = _
  rw [if_pos (inOk_tNs w F), any_tNs]
@[simp] theorem ndNotIn_fN {w : List Nat} {F : List (List Nat)} : nd2 pNotIn (tN w) (fN F) = some (!decide (w ∈ F)) := by
  refine nd2_some ?_ (noDict_tN w) (noDict_fN F)
  show (pIn (tN w) (fN F)).map (!·) = _
  show (if inOk (tN w) (F.map tN) then some ((F.map tN).any fun z => PyData.eqv z (tN w)) else none).map (!·) = _
  rw [if_pos (inOk_tNs w F), any_tNs]; rfl
@[simp] theorem ndIn_lNs {w : List Nat} {F : List (List Nat)} : nd2 pIn (tN w) (.list (F.map tN)) = some (decide (w ∈ F)) := by
  refine nd2_some ?_ (noDict_tN w) (noDict_tNs F)
  show (if inOk (tN w) (F.map tN) then some ((F.map tN).any fun z => PyData.eqv z (tN w)) else none) = _
  rw [if_pos (inOk_tNs w F), any_tNs]
end L3

namespace L3
open PySem PySem.W PySem.Spec PyProof.Rows L2

section
variable {env : List (Option Sl)} {box : List D} {s : S}
@[simp] theorem itemsM_tsD {ks : List (List Int)} : itemsM (tsD ks) = mret (ks.map itD) := itemsM_ts
@[simp ↓] theorem wp_eNewT {Q : R → S → Prop} : Wp (eNewT s) Q = Q (.new (.ts [])) s := rfl
def slT : Option (Option Sl) → Option (List (List Int))
  | some (some (Sl.own (C.ts ks))) => some ks
  | _ => none
@[simp] theorem slT_own {ks : List (List Int)} : slT (some (some (.own (.ts ks)))) = some ks := rfl
@[simp] theorem tset_mk {i : Nat} : S.tset ⟨env, box⟩ i = slT env[i]? := rfl
@[simp ↓] theorem wp_sTPut {i : Nat} {fk : M D} {Q : Fl → S → Prop} : Wp (sTPut i fk s) Q = cV (s.tset i) fun _ => Wp (fk s) fun d s' => cV (s'.tset i) fun ks => cV (keyT d) fun k => ks.length < sizeLine ∧ Q .nx (s'.seto i (.ts (addT ks k))) := by
  unfold sTPut
  cases s.tset i with
  | none => rfl
  | some _ =>
    show Wp (mbind fk _ s) Q = Wp (fk s) _
    rw [wp_mbind]
    congr 1
    funext d s'
    cases s'.tset i with
    | none => rfl
    | some ks =>
      dsimp only [cV_some]
      cases keyT d with
      | none => rfl
      | some k =>
        dsimp only [cV_some]
        by_cases h : ks.length < sizeLine <;> simp [h, Wp]
def asT (Q : R → S → Prop) : R → S → Prop := fun r s => match r with
  | .new (.ts ks) => Q (.new (.lst (ks.map itD))) s
  | _ => False
@[simp ↓] theorem asT_ts {Q : R → S → Prop} {ks : List (List Int)} : asT Q (.new (.ts ks)) s = Q (.new (.lst (ks.map itD))) s := rfl
@[simp ↓] theorem wp_eTList {f : M R} {Q : R → S → Prop} : Wp (eTList f s) Q = Wp (f s) (asT Q) := by
  unfold eTList
  rw [wp_mbind]
  congr 1
  funext r s'
  cases r with
  | val _ => rfl
  | new c => cases c <;> rfl
@[simp ↓] theorem wp_eTComp {it : M (List D)} {vs : List Nat} {g : D → S → Option S} {f : M D} {Q : R → S → Prop} : Wp (eTComp it vs g f s) Q = Wp (it s) fun ds s0 => s0.clean vs = true ∧ Wp (compT g f vs ds [] s0) fun acc s' => Q (.new (.ts acc)) (s'.back s0 vs) := by
  unfold eTComp
  rw [wp_mbind]
  congr 1
  funext ds s0
  by_cases h : s0.clean vs = true
  · rw [if_pos h]
    cases compT g f vs ds [] s0 with
    | ok acc s' => simp [h, Wp]
    | stuck => simp [h, Wp]
    | exc _ _ _ => simp [h, Wp]
  · rw [if_neg h]
    simp [h, Wp]
end
def castW (w : List Nat) : List Int := w.map fun (n : Nat) => (n : Int)
theorem itD_cast (w : List Nat) : itD (castW w) = tN w := by unfold itD castW tN; rw [List.map_map]; rfl
@[simp] theorem keyT_tN {w : List Nat} : keyT (tN w) = some (castW w) := by
  rw [← itD_cast]
  exact intsOf_map _
def addW (F : List (List Nat)) (w : List Nat) : List (List Nat) := if w ∈ F then F else F ++ [w]
theorem addW_mem {F : List (List Nat)} {w x : List Nat} : x ∈ addW F w ↔ x ∈ F ∨ x = w := by
  unfold addW
  split
  · rename_i h
    exact ⟨.inl, fun z => z.elim id fun e => e ▸ h⟩
  · rw [List.mem_append, List.mem_singleton]
theorem addW_nodup {F : List (List Nat)} {w : List Nat} (h : F.Nodup) : (addW F w).Nodup := by
  unfold addW
  split
  · exact h
  · rename_i hw
    rw [List.nodup_append]
    exact ⟨h, by simp, fun a ha b hb e => hw (by rw [List.mem_singleton.mp hb] at e; exact e ▸ ha)⟩
theorem dedW_mem : ∀ {ls F : List (List Nat)} {x : List Nat}, x ∈ ls.foldl addW F ↔ x ∈ F ∨ x ∈ ls
  | [], F, x => by simp
  | l :: ls, F, x => by rw [List.foldl_cons, dedW_mem, addW_mem, List.mem_cons]; exact or_assoc
theorem dedW_nodup : ∀ {ls F : List (List Nat)}, F.Nodup → (ls.foldl addW F).Nodup
  | [], _, h => h
  | _ :: ls, _, h => dedW_nodup (ls := ls) (addW_nodup h)
def dedW (ls : List (List Nat)) : List (List Nat) := ls.foldl addW []
theorem dedW_iff {ls : List (List Nat)} {x : List Nat} : x ∈ dedW ls ↔ x ∈ ls := by unfold dedW; rw [dedW_mem]; simp
end L3

namespace L3
open PySem PySem.W PySem.Spec PyProof.Rows L2
@[simp ↓] theorem wp_sUnpG {g : D → S → Option S} {f : M D} {s : S} {Q : Fl → S → Prop} : Wp (sUnpG g f s) Q = Wp (f s) fun d s' => cV (g d s') fun s2 => Q .nx s2 := by
  unfold sUnpG
  rw [wp_mbind]
  congr 1
  funext d s'
  cases g d s' <;> rfl
@[simp] theorem gL_tup {gs : List (D → S → Option S)} {ds : List D} {s : S} {P : S → Prop} : cV (gL gs (.tuple ds) s) P = (ds.length = gs.length ∧ cV (gF gs ds s) P) := by
  show cV (if ds.length = gs.length then gF gs ds s else none) P = _
  by_cases h : ds.length = gs.length
  · rw [if_pos h]; simp [h]
  · rw [if_neg h]; simp [h]
@[simp] theorem gF_cons {g : D → S → Option S} {gs : List (D → S → Option S)} {d : D} {ds : List D} {s : S} {P : S → Prop} : cV (gF (g :: gs) (d :: ds) s) P = cV (g d s) fun s' => cV (gF gs ds s') P := by
  show cV (match g d s with | some s' => gF gs ds s' | none => none) P = _
  cases g d s <;> rfl
@[simp] theorem gF_nil {ds : List D} {s : S} {P : S → Prop} : cV (gF [] ds s) P = P s := rfl
end L3

namespace L3
open PySem PySem.W PySem.Spec PyProof.Rows L2
def WpX {α : Type} (o : Out α) (Q : α → S → Prop) (E : Str → D → S → Prop) : Prop := match o with
  | .ok a s => Q a s
  | .exc c d s => E c d s
  | .stuck => False
def WpFX (r : Res) (Q : R → List D → Prop) (E : Str → D → List D → Prop) : Prop := match r with
  | .ok a b => Q a b
  | .exc c d b => E c d b
  | .stuck => False
section
variable {α β : Type} {s : S} {Q : Fl → S → Prop} {E : Str → D → S → Prop}
theorem wpx_of {o : Out α} {Q : α → S → Prop} (h : Wp o Q) : WpX o Q E := by
  cases o with
  | ok a s => exact h
  | stuck => exact h.elim
  | exc _ _ _ => exact h.elim
theorem WpX.mono {o : Out α} {Q Q' : α → S → Prop} {E' : Str → D → S → Prop} (h : WpX o Q E) (hq : ∀ a s, Q a s → Q' a s) (he : ∀ c d s, E c d s → E' c d s) : WpX o Q' E' := by
  cases o with
  | ok a s => exact hq _ _ h
  | stuck => exact h.elim
  | exc _ _ _ => exact he _ _ _ h
theorem wpx_bind {m : M α} {f : α → M β} {Q : β → S → Prop} (h : Wp (m s) fun a s' => WpX (f a s') Q E) : WpX (mbind m f s) Q E := by
  unfold mbind
  cases e : m s with
  | ok a s' => rw [e] at h; exact h
  | stuck => rw [e] at h; exact h.elim
  | exc _ _ _ => rw [e] at h; exact h.elim
theorem wpx_seq {f g : M Fl} (h : WpX (f s) (fun fl s' => match fl with
    | .nx => WpX (g s') Q E
    | y => Q y s') E) : WpX (sSeq f g s) Q E := by
  unfold sSeq mbind
  cases e : f s with
  | stuck => rw [e] at h; exact h.elim
  | exc c d s' => rw [e] at h; exact h
  | ok fl s' =>
    rw [e] at h
    cases fl <;> exact h
theorem wpx_if {c : M Bool} {a b : M Fl} (h : Wp (c s) fun x s' => if x then WpX (a s') Q E else WpX (b s') Q E) : WpX (sIf c a b s) Q E := by
  refine wpx_bind (h.mono fun x s' h => ?_)
  cases x <;> exact h
theorem wpx_raise {c : Str} {f : M D} (h : Wp (f s) fun d s' => E c d s') : WpX (sRaise c f s) Q E := wpx_bind h
theorem wpFX_runF {bx : Bool} {n : Nat} {b : M Fl} {ds box : List D} {Q : R → List D → Prop} {E : Str → D → List D → Prop} (h : WpX (b ⟨initE bx n ds, box⟩) (fnE Q) fun c d s => E c d s.box) : WpFX (runF bx n b ds box) Q E := by
  unfold runF
  cases e : b ⟨initE bx n ds, box⟩ with
  | stuck => rw [e] at h; exact h.elim
  | exc _ _ _ => rw [e] at h; exact h
  | ok fl s => rw [e] at h; cases fl <;> exact h
end
section
variable {α β : Type} {s : S}
theorem wpx_bindX {m : M α} {f : α → M β} {Q : β → S → Prop} {E : Str → D → S → Prop} (h : WpX (m s) (fun a s' => WpX (f a s') Q E) E) : WpX (mbind m f s) Q E := by
  unfold mbind
  cases e : m s with
  | ok a s' => rw [e] at h; exact h
  | stuck => rw [e] at h; exact h.elim
  | exc _ _ _ => rw [e] at h; exact h
theorem evsX_bind {k : List D → M β} {fs : List (M D)} {s : S} : evs fs k s = mbind (evs fs mret) k s := by
  rw [evs_bind fs mret k]
  rfl
theorem wpx_callX {c : Str} {g : Fn} {fs : List (M D)} {Q : R → S → Prop} {E : Str → D → S → Prop} (h : Wp (evs fs mret s) fun ds s' => WpFX (g ds []) (fun r _ => Q r s') fun c' d _ => c' = c ∧ E c' d s') : WpX (eCallX c g fs s) Q E := by
  unfold eCallX
  rw [evsX_bind]
  refine wpx_bind (h.mono fun ds s' h => ?_)
  cases e : g ds [] with
  | stuck => rw [e] at h; exact h.elim
  | ok r b => rw [e] at h; exact h
  | exc c' d b =>
    rw [e] at h
    obtain ⟨h1, h5⟩ := h
    subst h1
    dsimp only
    rw [if_pos rfl]
    exact h5
theorem wpx_callXK {c : Str} {g : Fn} {ix : List Nat} {np nw : Nat} {ks : List (M D)} {Q : R → S → Prop} {E : Str → D → S → Prop} (h : Wp (evs ks mret s) fun ws s' => (arr ix 0 nw [] [] ws).length = np ∧ WpFX (g (arr ix 0 nw [] [] ws) []) (fun r _ => Q r s') fun c' d _ => c' = c ∧ E c' d s') : WpX (eCallXK c g ix np nw ks s) Q E := by
  unfold eCallXK
  rw [evsX_bind]
  refine wpx_bind (h.mono fun ds s' h => ?_)
  obtain ⟨hl, h⟩ := h
  rw [if_pos hl]
  cases e : g (arr ix 0 nw [] [] ds) [] with
  | stuck => rw [e] at h; exact h.elim
  | ok r b => rw [e] at h; exact h
  | exc c' d b =>
    rw [e] at h
    obtain ⟨h1, h5⟩ := h
    subst h1
    dsimp only
    rw [if_pos rfl]
    exact h5
theorem wp_try2 {c m : Str} {i o : Nat} {body : M Fl} {Q : Fl → S → Prop} (h : WpX (body s) Q fun c' d s' => c' = c ∧ i < s'.env.length ∧ o < s'.env.length ∧ Q (.rt (.val (.tuple [.str m, d, .bool true]))) ((s'.drop i).setv o (.bool false))) : Wp (sTry2 c m i o body s) Q := by
  unfold sTry2
  cases e : body s with
  | stuck => rw [e] at h; exact h.elim
  | ok fl s' => rw [e] at h; exact h
  | exc c' d s' =>
    rw [e] at h
    obtain ⟨h1, h2, h3, h4⟩ := h
    dsimp only
    rw [if_pos (And.intro h1 (And.intro h2 h3))]
    exact h4
end
@[simp ↓] theorem wp_eDisp {fs : List (M D × M D)} {s : S} {Q : R → S → Prop} : Wp (eDisp fs s) Q = Wp (mPairs fs [] s) fun ps s' => ps.length ≤ 15 ∧ Q (.new (.dct (mergeD [] ps))) s' := by
  unfold eDisp
  cases e : mPairs fs [] s with
  | stuck => rfl
  | exc _ _ _ => rfl
  | ok ps s' =>
    by_cases h : ps.length ≤ 15
    · simp [h, Wp]
    · simp [h, Wp]
@[simp ↓] theorem wp_mPairs_nil {acc : List (Key × D)} {s : S} {Q : List (Key × D) → S → Prop} : Wp (mPairs [] acc s) Q = Q acc s := rfl
@[simp ↓] theorem wp_mPairs_cons {fk fv : M D} {r : List (M D × M D)} {acc : List (Key × D)} {s : S} {Q : List (Key × D) → S → Prop} : Wp (mPairs ((fk, fv) :: r) acc s) Q = Wp (fk s) fun x s1 => Wp (fv s1) fun y s2 => match keyD x with
    | none => False
    | some k => Wp (mPairs r (acc ++ [(k, y)]) s2) Q := by
  show Wp (mbind fk _ s) Q = _
  rw [wp_mbind]
  congr 1
  funext x s1
  rw [wp_mbind]
  congr 1
  funext y s2
  cases keyD x <;> rfl
def difM (x : D) : M R := match x with
  | .list ds => (match intsOf ds with
    | some ns => if ns.length ≤ 4000 then mret (.val (.int (diffI ns : Nat))) else mstuck
    | none => mstuck)
  | _ => mstuck
@[simp ↓] theorem wp_eDiff {o : Opd} {s : S} {Q : R → S → Prop} : Wp (eDiff o s) Q = Wp (opS o (fun h => rsv h difM) s) Q := rfl
theorem wp_difM {α : Type} {f : α → Int} {xs : List α} {s : S} {Q : R → S → Prop} (h : xs.length ≤ 4000) (hq : Q (.val (.int (diffI (xs.map f) : Nat))) s) : Wp (difM (.list (xs.map fun x => .int (f x))) s) Q := by
  unfold difM
  simp only [intsOf_ints]
  rw [if_pos (by simpa using h)]
  exact hq
end L3

namespace L3
open PySem PySem.W PySem.Spec PyProof.Rows L2

section
variable {s : S}
@[simp ↓] theorem wp_iZipS {f : M D} {Q : List D → S → Prop} : Wp (iZipS f s) Q = Wp (f s) fun d s' => Wp (zipStarM d s') Q := wp_mbind
end
@[simp] theorem pSumT_tN {w : List Nat} : pSumT [tN w] = some (.d (.int (w.sum : Nat))) := by
  show (intsOf (w.map nD)).map _ = _
  rw [intsOf_nDs]
  show some (PO.d (.int ((w.map fun (n : Nat) => (n : Int)).sum))) = _
  rw [sum_natI]
end L3

namespace L3
open PySem PySem.W PySem.Spec PyProof.Rows L2
inductive Gr (T : List (List (Option Nat))) (W : List (List Nat)) : (Nat → Nat) → Nat → Prop
  | zero {f : Nat → Nat} : (∀ w ∈ W, ∀ t ∈ w, f t = 0) → Gr T W f 0
  | step {f g : Nat → Nat} {k : Nat} {v : List Nat} : Gr T W f k → Best T W f v → (∀ w ∈ W, ∀ t ∈ w, g t = inF f v t) → Gr T W g (k + 1)
def LowIs (T : List (List (Option Nat))) (W : List (List Nat)) (f : Nat → Nat) (o : Option Nat) : Prop := (∀ w ∈ W, leO o (priceF T f w)) ∧ (∀ y, o = some y → ∃ w ∈ W, priceF T f w = some y)
def Pays (T : List (List (Option Nat))) (W : List (List Nat)) (p : Nat → Option Nat) : Prop := ∀ f k, Gr T W f k → LowIs T W f (p k)
section
variable {T : List (List (Option Nat))} {W A B : List (List Nat)} {f g : Nat → Nat} {k : Nat} {v : List Nat}
theorem leO_anti {y : Nat} {o : Option Nat} (h1 : leO o (some y)) (h2 : ∀ z, o = some z → y ≤ z) : o = some y := by
  obtain ⟨z, rfl, hz⟩ := leO_some h1
  have := h2 z rfl
  rw [show z = y from by omega]
theorem Best.low {o : Option Nat} (h : Best T W f v) (hl : LowIs T W f o) : o = priceF T f v := by
  obtain ⟨y, hy⟩ := Option.isSome_iff_exists.mp h.2.1
  rw [hy]
  refine leO_anti (by rw [← hy]; exact hl.1 v h.1) fun z hz => ?_
  obtain ⟨w, hw, e⟩ := hl.2 z hz
  have := h.2.2 w hw
  rw [hy, e] at this
  exact this
theorem Best.fun_congr (h : ∀ w ∈ W, ∀ t ∈ w, f t = g t) (hb : Best T W f v) : Best T W g v := by
  have e : ∀ x ∈ W, priceF T f x = priceF T g x := fun x hx => priceF_congr fun t ht => h x hx t ht
  exact ⟨hb.1, by rw [← e v hb.1]; exact hb.2.1, fun x hx => by rw [← e v hb.1, ← e x hx]; exact hb.2.2 x hx⟩
theorem Gr.congr (h : Gr T W f k) (hg : ∀ w ∈ W, ∀ t ∈ w, g t = f t) : Gr T W g k := by
  cases h with
  | zero h0 => exact .zero fun w hw t ht => by rw [hg w hw t ht, h0 w hw t ht]
  | step h1 h2 h3 => exact .step h1 h2 fun w hw t ht => by rw [hg w hw t ht, h3 w hw t ht]
theorem Best.mem_congr (h : ∀ w, w ∈ A ↔ w ∈ B) (hb : Best T A f v) : Best T B f v := ⟨(h v).mp hb.1, hb.2.1, fun x hx => hb.2.2 x ((h x).mpr hx)⟩
theorem Gr.mem_congr (h : ∀ w, w ∈ A ↔ w ∈ B) (hg : Gr T A f k) : Gr T B f k := by
  induction hg with
  | zero h0 => exact .zero fun w hw t ht => h0 w ((h w).mpr hw) t ht
  | step h1 h2 h3 ih => exact .step ih (h2.mem_congr h) fun w hw t ht => h3 w ((h w).mpr hw) t ht
theorem Pays.mem_congr {p : Nat → Option Nat} (h : ∀ w, w ∈ A ↔ w ∈ B) (hp : Pays T A p) : Pays T B p := fun f k hg => by
  have h1 := hp f k (hg.mem_congr fun w => (h w).symm)
  exact ⟨fun w hw => h1.1 w ((h w).mpr hw), fun y hy => by obtain ⟨w, hw, e⟩ := h1.2 y hy; exact ⟨w, (h w).mp hw, e⟩⟩
end
theorem Pays.congr {T : List (List (Option Nat))} {W : List (List Nat)} {p q : Nat → Option Nat} (h : Pays T W p) (e : ∀ k, p k = q k) : Pays T W q := fun f k hg => by rw [← e k]; exact h f k hg
end L3

namespace L3
open PySem PySem.W PySem.Spec PyProof.Rows L2
end L3

namespace L3
open PySem PySem.W PySem.Spec PyProof.Rows L2
end L3

namespace L3
open PySem PySem.W PySem.Spec PyProof.Rows L2
def zeroR (w : Nat) : List (Option Nat) := List.replicate w (some 0) ++ List.replicate (13 - w) none
def zeroT (W : List Nat) : List (List (Option Nat)) := W.map zeroR
theorem zeroT_at {W : List Nat} {x : Nat} (h : x < W.length) : tabAt (zeroT W) x = zeroR (atN W x) := by
  unfold tabAt zeroT atN
  rw [List.getD_eq_getElem?_getD, List.getD_eq_getElem?_getD, List.getElem?_map, List.getElem?_eq_getElem h]; rfl
end L3

namespace L3
open PySem PySem.W PySem.Spec PyProof.Rows L2
theorem cross_perm {J J' W W' : List (List Nat)} (h1 : J.Perm J') (h2 : W.Perm W') : (cross J W).Perm (cross J' W') := by
  unfold cross
  refine List.Perm.trans (List.Perm.flatMap_right _ h1) ?_
  clear h1
  induction J' with
  | nil => exact .refl _
  | cons a J' ih => rw [List.flatMap_cons, List.flatMap_cons]; exact (h2.map _).append ih
inductive PermL : List (List (List Nat)) → List (List (List Nat)) → Prop
  | nil : PermL [] []
  | cons {a b : List (List Nat)} {as bs : List (List (List Nat))} : a.Perm b → PermL as bs → PermL (a :: as) (b :: bs)
theorem fold_perm {as bs : List (List (List Nat))} (h : PermL as bs) : ∀ {J J' : List (List Nat)}, J.Perm J' → (as.foldl cross J).Perm (bs.foldl cross J') := by
  induction h with
  | nil => intro J J' hJ; exact hJ
  | cons h1 _ ih => intro J J' hJ; exact ih (cross_perm hJ h1)
theorem flat_perm {as bs : List (List (List Nat))} (h : PermL as bs) : as.flatten.Perm bs.flatten := by
  induction h with
  | nil => exact .refl _
  | cons h1 _ ih => rw [List.flatten_cons, List.flatten_cons]; exact h1.append ih
theorem flat_cons {α β : Type} (x : α → β) (ys : α → List β) : ∀ B : List α, (B.flatMap fun b => x b :: ys b).Perm (B.map x ++ B.flatMap ys)
  | [] => .refl _
  | b :: B => by
    rw [List.flatMap_cons, List.flatMap_cons, List.map_cons, List.cons_append, List.cons_append]
    refine List.Perm.cons _ (((flat_cons x ys B).append_left _).trans ?_)
    rw [← List.append_assoc, ← List.append_assoc]
    exact List.perm_append_comm.append_right _
theorem flat_swap {α β γ : Type} (f : α → β → γ) : ∀ (A : List α) (B : List β), (A.flatMap fun a => B.map (f a)).Perm (B.flatMap fun b => A.map fun a => f a b)
  | [], B => by
    rw [List.flatMap_nil]
    have : (B.flatMap fun b => ([] : List α).map fun a => f a b) = [] := by simp
    rw [this]
  | a :: A, B => by
    rw [List.flatMap_cons]
    refine ((flat_swap f A B).append_left _).trans ?_
    simp only [List.map_cons]
    exact (flat_cons (fun b => f a b) (fun b => A.map fun a => f a b) B).symm
theorem cross_swap (A B : List (List Nat)) : ∀ J, (cross (cross J A) B).Perm (cross (cross J B) A)
  | [] => .refl _
  | j :: J => by
    have e : ∀ X Y : List (List Nat), cross (cross (j :: J) X) Y = cross (X.map fun m => srtN (j ++ m)) Y ++ cross (cross J X) Y := fun X Y => by
      unfold cross
      rw [List.flatMap_cons, List.flatMap_append]
    rw [e, e]
    refine List.Perm.append ?_ (cross_swap A B J)
    unfold cross
    rw [List.flatMap_map, List.flatMap_map]
    have h1 : ∀ (a b : List Nat), srtN (srtN (j ++ a) ++ b) = srtN (srtN (j ++ b) ++ a) := fun a b => by
      refine srtN_eq (((srtN_perm _).append_right _).trans (List.Perm.trans ?_ ((srtN_perm _).append_right _).symm))
      rw [List.append_assoc, List.append_assoc]
      exact List.perm_append_comm.append_left _
    have h2 : (B.flatMap fun b => A.map fun m => srtN (srtN (j ++ b) ++ m)) = B.flatMap fun b => A.map fun a => srtN (srtN (j ++ a) ++ b) := by
      congr 1; funext b; congr 1; funext a; exact (h1 a b).symm
    rw [h2]
    exact flat_swap (fun a b => srtN (srtN (j ++ a) ++ b)) A B
theorem fold_swap {Ws Ws' : List (List (List Nat))} (p : Ws.Perm Ws') : ∀ {J J' : List (List Nat)}, J.Perm J' → (Ws.foldl cross J).Perm (Ws'.foldl cross J') := by
  induction p with
  | nil => intro J J' h; exact h
  | cons W _ ih => intro J J' h; exact ih (cross_perm h (.refl _))
  | swap A B Ws =>
    intro J J' h
    simp only [List.foldl_cons]
    have gen : ∀ (Ws : List (List (List Nat))) {X Y : List (List Nat)}, X.Perm Y → (Ws.foldl cross X).Perm (Ws.foldl cross Y) := fun Ws => by
      induction Ws with
      | nil => intro X Y h; exact h
      | cons W Ws ih => intro X Y h; exact ih (cross_perm h (.refl _))
    exact gen Ws ((cross_perm (cross_perm h (.refl _)) (.refl _)).trans (cross_swap B A J'))
  | trans _ _ ih1 ih2 => intro J J' h; exact (ih1 h).trans (ih2 (.refl _))
end L3

namespace L3
open PySem PySem.W PySem.Spec PyProof.Rows L2
theorem Sel.perm {Ws Ws' : List (List (List Nat))} (p : Ws.Perm Ws') : ∀ {ws : List (List Nat)}, Sel ws Ws → ∃ ws', Sel ws' Ws' ∧ ws.Perm ws' := by
  induction p with
  | nil => intro ws h; exact ⟨ws, h, .refl _⟩
  | cons W _ ih =>
    intro ws h
    cases h with
    | cons hw hs =>
      obtain ⟨vs, h1, h2⟩ := ih hs
      exact ⟨_ :: vs, .cons hw h1, h2.cons _⟩
  | swap W V Ws =>
    intro ws h
    cases h with
    | cons hw hs =>
      cases hs with
      | cons hv hs => exact ⟨_, .cons hv (.cons hw hs), .swap ..⟩
  | trans _ _ ih1 ih2 =>
    intro ws h
    obtain ⟨vs, h1, h2⟩ := ih1 h
    obtain ⟨us, h3, h4⟩ := ih2 h1
    exact ⟨us, h3, h2.trans h4⟩
theorem cross_sel : ∀ (Ws : List (List (List Nat))) (J : List (List Nat)) (v : List Nat), (∀ u ∈ J, srtN u = u) → (v ∈ Ws.foldl cross J ↔ ∃ u ∈ J, ∃ ws, Sel ws Ws ∧ v = srtN (u ++ ws.flatten))
  | [], J, v, hJ => by
    constructor
    · intro h; exact ⟨v, h, [], .nil, by simp [hJ v h]⟩
    · rintro ⟨u, hu, ws, hs, rfl⟩
      cases hs
      simp [hJ u hu, hu]
  | W :: Ws, J, v, hJ => by
    have hJ2 : ∀ u ∈ cross J W, srtN u = u := fun u hu => by
      obtain ⟨w, _, m, _, rfl⟩ := cross_mem.mp hu
      exact srtN_eq (srtN_perm _)
    rw [List.foldl_cons, cross_sel Ws (cross J W) v hJ2]
    constructor
    · rintro ⟨u, hu, ws, hs, rfl⟩
      obtain ⟨w, hw, m, hm, rfl⟩ := cross_mem.mp hu
      refine ⟨w, hw, m :: ws, .cons hm hs, ?_⟩
      rw [List.flatten_cons, ← List.append_assoc]
      exact srtN_eq ((srtN_perm _).append_right _)
    · rintro ⟨u, hu, ws, hs, rfl⟩
      cases hs with
      | cons hw hs =>
        refine ⟨_, cross_mem.mpr ⟨u, hu, _, hw, rfl⟩, _, hs, ?_⟩
        rw [List.flatten_cons, ← List.append_assoc]
        exact (srtN_eq ((srtN_perm _).append_right _)).symm
theorem crossAll_sel {Ws : List (List (List Nat))} {v : List Nat} : v ∈ crossAll Ws ↔ ∃ ws, Sel ws Ws ∧ v = srtN ws.flatten := by
  unfold crossAll
  rw [cross_sel Ws [[]] v fun u hu => by rw [List.mem_singleton.mp hu]; exact List.length_eq_zero_iff.mp ((srtN_perm []).length_eq)]
  constructor
  · rintro ⟨u, hu, ws, hs, rfl⟩
    rw [List.mem_singleton.mp hu]
    exact ⟨ws, hs, rfl⟩
  · rintro ⟨ws, hs, rfl⟩
    exact ⟨[], by simp, ws, hs, rfl⟩
theorem crossAll_perm {Ws Ws' : List (List (List Nat))} (p : Ws.Perm Ws') (v : List Nat) : v ∈ crossAll Ws ↔ v ∈ crossAll Ws' := by
  rw [crossAll_sel, crossAll_sel]
  constructor
  · rintro ⟨ws, hs, rfl⟩
    obtain ⟨vs, h1, h2⟩ := hs.perm p
    exact ⟨vs, h1, srtN_eq h2.flatten⟩
  · rintro ⟨ws, hs, rfl⟩
    obtain ⟨vs, h1, h2⟩ := hs.perm p.symm
    exact ⟨vs, h1, srtN_eq h2.flatten⟩
structure Pb (m : Nat) (p : Pt) (u : Tr) : Prop where
  tr : p.1 = trD u
  ar : Ar u
  sp : ∃ t0, Sp m t0 p.2.1 p.2.2
  th : (thF u).Perm p.2.2
  ways : ∀ w, w ∈ waysT u ↔ w ∈ p.2.1
  perm : (waysT u).Perm p.2.1
theorem Pb.len {m : Nat} {p : Pt} {u : Tr} (h : Pb m p u) : (waysT u).length = p.2.1.length := h.perm.length_eq
theorem Pb.leaf (m x : Nat) : Pb m (nD x, [[x]], [x]) (.leaf x) where
  tr := by unfold trD; rfl
  ar := by unfold Ar; trivial
  sp := ⟨_, .leaf x⟩
  th := by unfold thF; exact .refl _
  ways := fun w => by unfold waysT; rfl
  perm := by unfold waysT; exact .refl _
inductive Pbs (m : Nat) : List Pt → List Tr → Prop
  | nil : Pbs m [] []
  | cons {p : Pt} {u : Tr} {ps : List Pt} {us : List Tr} : Pb m p u → Pbs m ps us → Pbs m (p :: ps) (u :: us)
theorem Pbs.of {m : Nat} : ∀ {ps : List Pt}, (∀ p ∈ ps, ∃ u, Pb m p u) → ∃ us, Pbs m ps us
  | [], _ => ⟨[], .nil⟩
  | p :: ps, h => by
    obtain ⟨u, hu⟩ := h p List.mem_cons_self
    obtain ⟨us, hus⟩ := Pbs.of fun q hq => h q (List.mem_cons_of_mem _ hq)
    exact ⟨u :: us, .cons hu hus⟩
theorem Pbs.len {m : Nat} {ps : List Pt} {us : List Tr} (h : Pbs m ps us) : us.length = ps.length := by
  induction h with
  | nil => rfl
  | cons _ _ ih => simp [ih]
theorem Pbs.ars {m : Nat} {ps : List Pt} {us : List Tr} (h : Pbs m ps us) : Ars us := by
  induction h with
  | nil => unfold Ars; trivial
  | cons h1 _ ih => unfold Ars; exact ⟨h1.ar, ih⟩
theorem Pbs.perms {m : Nat} {ps : List Pt} {us : List Tr} (h : Pbs m ps us) : PermL (us.map waysT) (ps.map (·.2.1)) := by
  induction h with
  | nil => exact .nil
  | cons h1 _ ih => exact .cons h1.perm ih
theorem Pbs.things {m : Nat} {ps : List Pt} {us : List Tr} (h : Pbs m ps us) : (us.flatMap thF).Perm (ps.flatMap (·.2.2)) := by
  induction h with
  | nil => exact .refl _
  | cons h1 _ ih => rw [List.flatMap_cons, List.flatMap_cons]; exact h1.th.append ih
theorem Pbs.sp {m : Nat} {ps : List Pt} {us : List Tr} (h : Pbs m ps us) : ∃ ts : List D, ∃ qs : List Pt, qs.map (·.2.1) = ps.map (·.2.1) ∧ qs.map (·.2.2) = ps.map (·.2.2) ∧ (∀ q ∈ qs, Sp m q.1 q.2.1 q.2.2) ∧ qs.length = ps.length := by
  induction h with
  | nil => exact ⟨[], [], rfl, rfl, by simp, rfl⟩
  | cons h1 _ ih =>
    rename_i p u ps us _
    obtain ⟨_, qs, e1, e2, hs, hl⟩ := ih
    obtain ⟨t0, h0⟩ := h1.sp
    refine ⟨[], (t0, p.2.1, p.2.2) :: qs, by rw [List.map_cons, List.map_cons, e1], by rw [List.map_cons, List.map_cons, e2], fun q hq => ?_, by rw [List.length_cons, List.length_cons, hl]⟩
    rcases List.mem_cons.mp hq with rfl | hq
    · exact h0
    · exact hs q hq
theorem Pbs.sel {m : Nat} {ps : List Pt} {us : List Tr} (h : Pbs m ps us) (ws : List (List Nat)) : Sel ws (us.map waysT) ↔ Sel ws (ps.map (·.2.1)) := by
  induction h generalizing ws with
  | nil => exact Iff.rfl
  | cons h1 _ ih =>
    rw [List.map_cons, List.map_cons]
    constructor
    · intro q
      cases q with
      | cons hw hs => exact .cons ((h1.ways _).mp hw) ((ih _).mp hs)
    · intro q
      cases q with
      | cons hw hs => exact .cons ((h1.ways _).mpr hw) ((ih _).mpr hs)
theorem Pbs.flat {m : Nat} {ps : List Pt} {us : List Tr} (h : Pbs m ps us) (w : List Nat) : w ∈ (us.map waysT).flatten ↔ w ∈ ps.flatMap (·.2.1) := by
  induction h with
  | nil => exact Iff.rfl
  | cons h1 _ ih => rw [List.map_cons, List.flatten_cons, List.flatMap_cons, List.mem_append, List.mem_append, ih, h1.ways]
theorem ars_iff : ∀ {us : List Tr}, Ars us ↔ ∀ u ∈ us, Ar u
  | [] => by unfold Ars; simp
  | u :: us => by unfold Ars; rw [ars_iff]; simp
theorem Pbs.made {m : Nat} {ps : List Pt} {us vs : List Tr} {row : Bool} (h : Pbs m ps us) (hv : vs.Perm us) (h2 : 2 ≤ ps.length) (h3 : ps.length ≤ 3) (hm : row = true → (crossAll (ps.map (·.2.1))).length ≤ m) :
    Pb m (trD (.node row vs), if row then crossAll (ps.map (·.2.1)) else ps.flatMap (·.2.1), ps.flatMap (·.2.2)) (.node row vs) where
  tr := rfl
  ar := by
    unfold Ar
    have hl := hv.length_eq
    have hl2 := h.len
    exact ⟨by omega, by omega, ars_iff.mpr fun u hu => ars_iff.mp h.ars u (hv.mem_iff.mp hu)⟩
  sp := by
    obtain ⟨_, qs, e1, e2, hs, hl⟩ := h.sp
    have e3 : ps.flatMap (·.2.2) = qs.flatMap (·.2.2) := by rw [List.flatMap_def, List.flatMap_def, e2]
    cases row with
    | true =>
      refine ⟨rowD (qs.map (·.1)), ?_⟩
      show Sp m (rowD (qs.map (·.1))) (crossAll (ps.map (·.2.1))) (ps.flatMap (·.2.2))
      rw [e3, ← e1]
      exact .row qs hs (by omega) (by omega) (by rw [e1]; exact hm rfl)
    | false =>
      refine ⟨sideD (qs.map (·.1)), ?_⟩
      show Sp m (sideD (qs.map (·.1))) (ps.flatMap (·.2.1)) (ps.flatMap (·.2.2))
      have e4 : ps.flatMap (·.2.1) = qs.flatMap (·.2.1) := by rw [List.flatMap_def, List.flatMap_def, e1]
      rw [e3, e4]
      exact .side qs hs (by omega) (by omega)
  th := by
    rw [thF_node, thFs_flat]
    exact (List.Perm.flatMap_right _ hv).trans h.things
  ways := fun w => by
    unfold waysT
    rw [waysTs_map]
    cases row with
    | true =>
      show w ∈ crossAll (vs.map waysT) ↔ w ∈ crossAll (ps.map (·.2.1))
      rw [crossAll_perm (hv.map waysT), crossAll_sel, crossAll_sel]
      exact ⟨fun ⟨ws, hs, e⟩ => ⟨ws, (h.sel ws).mp hs, e⟩, fun ⟨ws, hs, e⟩ => ⟨ws, (h.sel ws).mpr hs, e⟩⟩
    | false =>
      show w ∈ (vs.map waysT).flatten ↔ w ∈ ps.flatMap (·.2.1)
      rw [← h.flat, (hv.map waysT).flatten.mem_iff]
  perm := by
    unfold waysT
    rw [waysTs_map]
    cases row with
    | true =>
      show ((vs.map waysT).foldl cross [[]]).Perm ((ps.map (·.2.1)).foldl cross [[]])
      exact (fold_swap (hv.map waysT) (.refl _)).trans (fold_perm h.perms (.refl _))
    | false =>
      show (vs.map waysT).flatten.Perm (ps.flatMap (·.2.1))
      rw [List.flatMap_def]
      exact ((hv.map waysT).flatten).trans (flat_perm h.perms)
end L3

namespace L3
open PySem PySem.W PySem.Spec PyProof.Rows L2
end L3

namespace L3
open PySem PySem.W PySem.Spec PyProof.Rows L2
section
variable {F : List (List Nat)} {T : List (List (Option Nat))} {n mt : Nat} {u : Tr} {PR : List Nat}
end
end L3

namespace L3
open PySem PySem.W PySem.Spec PyProof.Rows L2
end L3

namespace L3
open PySem PySem.W PySem.Spec PyProof.Rows L2
theorem PermL.take {as bs : List (List (List Nat))} (h : PermL as bs) : ∀ j, PermL (as.take j) (bs.take j) := by
  induction h with
  | nil => intro j; simp; exact .nil
  | cons h1 _ ih =>
    intro j
    cases j with
    | zero => exact .nil
    | succ j => exact .cons h1 (ih j)
end L3

namespace L3
open PySem PySem.W PySem.Spec PyProof.Rows L2
end L3

namespace L3
open PySem PySem.W PySem.Spec PyProof.Rows L2
end L3

namespace L3
open PySem PySem.W PySem.Spec PyProof.Rows L2
end L3

namespace L3
open PySem PySem.W PySem.Spec PyProof.Rows L2
end L3

namespace L3
open PySem PySem.W PySem.Spec PyProof.Rows L2
theorem Tab.pair {m : Nat} {t : List (Option Nat)} (h : Tab m t) : t.Pairwise leO := by
  obtain ⟨r, k, rfl, hr, _⟩ := h.shape
  refine List.pairwise_append.mpr ⟨List.pairwise_map.mpr (hr.imp fun h => h), List.pairwise_replicate.mpr (.inr (leO_refl _)), fun x _ y hy => ?_⟩
  rw [List.eq_of_mem_replicate hy]
  cases x <;> simp [leO]
end L3

namespace L3
open PySem PySem.W PySem.Spec PyProof.Rows L2
end L3

namespace L3
open PySem PySem.W PySem.Spec PyProof.Rows L2
section
variable {F : List (List Nat)} {T : List (List (Option Nat))} {n : Nat} {P : List Nat}
end
end L3

namespace L3
open PySem PySem.W PySem.Spec PyProof.Rows L2
def RiseR (W : List (List Nat)) : Prop := ∀ w ∈ W, w.Pairwise fun a b => a < b
theorem sN_id {w : List Nat} (h : w.Pairwise fun a b => a < b) : sN w = w := by
  refine List.Perm.eq_of_pairwise (le := fun x y => x ≤ y) (fun x y _ _ h1 h2 => Nat.le_antisymm h1 h2) (sN_sorted w) (h.imp Nat.le_of_lt) ?_
  exact (List.perm_ext_iff_of_nodup (sN_nodup w) (h.imp Nat.ne_of_lt)).mpr fun x => sN_mem
theorem RiseR.sN {W : List (List Nat)} (h : RiseR W) : W.map L3.sN = W := by
  have : ∀ w ∈ W, L3.sN w = w := fun w hw => sN_id (h w hw)
  rw [List.map_congr_left this, List.map_id']
end L3

namespace L3
open PySem PySem.W PySem.Spec PyProof.Rows L2
def meetW (w l : List Nat) : Bool := l.any fun x => decide (x ∈ w)
def moreL (l w : List Nat) : List (List Nat) := w.map fun t => sN (l ++ [t])
def foundB (B : List (List Nat)) (w : List Nat) : List (List Nat) := B.filter (meetW w) ++ (B.filter fun l => !meetW w l).flatMap fun l => moreL l w
def stepB (B : List (List Nat)) (w : List Nat) : List (List Nat) := leastN (foundB B w)
theorem meetW_iff {w l : List Nat} : meetW w l = true ↔ ∃ x ∈ l, x ∈ w := by unfold meetW; simp
def TransW (W : List (List Nat)) (m : List Nat) : Prop := ∀ w ∈ W, ∃ x ∈ w, x ∈ m
structure BlkI (W B : List (List Nat)) : Prop where
  rise : RiseR B
  trans : ∀ l ∈ B, TransW W l
  below : ∀ m, TransW W m → ∃ l ∈ B, ∀ x ∈ l, x ∈ m
  least : ∀ l ∈ B, ∀ m ∈ B, (∀ x ∈ l, x ∈ m) → l = m
  things : ∀ l ∈ B, ∀ x ∈ l, ∃ w ∈ W, x ∈ w
theorem found_mem {B : List (List Nat)} {w f : List Nat} : f ∈ foundB B w ↔ (f ∈ B ∧ meetW w f = true) ∨ ∃ l ∈ B, meetW w l = false ∧ ∃ t ∈ w, f = sN (l ++ [t]) := by
  unfold foundB moreL
  rw [List.mem_append, List.mem_filter, List.mem_flatMap]
  refine or_congr .rfl ⟨?_, ?_⟩
  · rintro ⟨l, hl, hf⟩
    obtain ⟨h1, h2⟩ := List.mem_filter.mp hl
    obtain ⟨t, ht, rfl⟩ := List.mem_map.mp hf
    exact ⟨l, h1, by simpa using h2, t, ht, rfl⟩
  · rintro ⟨l, h1, h2, t, ht, rfl⟩
    exact ⟨l, List.mem_filter.mpr ⟨h1, by simpa using h2⟩, List.mem_map.mpr ⟨t, ht, rfl⟩⟩
theorem found_rise {B : List (List Nat)} {w : List Nat} (h : RiseR B) : RiseR (foundB B w) := fun f hf => by
  rcases found_mem.mp hf with ⟨h1, _⟩ | ⟨l, _, _, t, _, rfl⟩
  · exact h f h1
  · exact sN_lt _
theorem BlkI.zero : BlkI [] [[]] where
  rise := fun w hw => by rw [List.mem_singleton.mp hw]; exact List.Pairwise.nil
  trans := fun l _ w hw => by cases hw
  below := fun m _ => ⟨[], by simp, by simp⟩
  least := fun l hl m hm _ => by rw [List.mem_singleton.mp hl, List.mem_singleton.mp hm]
  things := fun l hl x hx => by rw [List.mem_singleton.mp hl] at hx; cases hx
theorem BlkI.step {W B : List (List Nat)} {w : List Nat} (h : BlkI W B) : BlkI (W ++ [w]) (stepB B w) where
  rise := fun l hl => leastN_way hl
  trans := fun l hl v hv => by
    obtain ⟨⟨f, hf, rfl⟩, _⟩ := leastN_mem.mp hl
    rw [sN_id (found_rise h.rise f hf)]
    rcases found_mem.mp hf with ⟨h1, h2⟩ | ⟨l, h1, h2, t, ht, rfl⟩
    · rcases List.mem_append.mp hv with hv | hv
      · exact h.trans f h1 v hv
      · rw [List.mem_singleton.mp hv]
        obtain ⟨x, hx, hxw⟩ := meetW_iff.mp h2
        exact ⟨x, hxw, hx⟩
    · rcases List.mem_append.mp hv with hv | hv
      · obtain ⟨x, hx, hxl⟩ := h.trans l h1 v hv
        exact ⟨x, hx, sN_mem.mpr (List.mem_append_left _ hxl)⟩
      · rw [List.mem_singleton.mp hv]
        exact ⟨t, ht, sN_mem.mpr (by simp)⟩
  below := fun m hm => by
    obtain ⟨l, hl, hlm⟩ := h.below m fun v hv => hm v (List.mem_append_left _ hv)
    obtain ⟨t, ht, htm⟩ := hm w (by simp)
    have hf : ∃ f ∈ foundB B w, ∀ x ∈ f, x ∈ m := by
      cases hmt : meetW w l with
      | true => exact ⟨l, found_mem.mpr (.inl ⟨hl, hmt⟩), hlm⟩
      | false =>
        refine ⟨_, found_mem.mpr (.inr ⟨l, hl, hmt, t, ht, rfl⟩), fun x hx => ?_⟩
        rcases List.mem_append.mp (sN_mem.mp hx) with hx | hx
        · exact hlm x hx
        · rw [List.mem_singleton.mp hx]; exact htm
    obtain ⟨f, hf, hfm⟩ := hf
    obtain ⟨u, hu, huf⟩ := leastN_below _ f hf (Nat.le_refl _)
    exact ⟨u, hu, fun x hx => hfm x (huf x hx)⟩
  least := fun l hl m hm hlm => leastN_anti hl hm hlm
  things := fun l hl x hx => by
    obtain ⟨⟨f, hf, rfl⟩, _⟩ := leastN_mem.mp hl
    rw [sN_id (found_rise h.rise f hf)] at hx
    rcases found_mem.mp hf with ⟨h1, _⟩ | ⟨l, h1, _, t, ht, rfl⟩
    · obtain ⟨v, hv, hxv⟩ := h.things f h1 x hx
      exact ⟨v, List.mem_append_left _ hv, hxv⟩
    · rcases List.mem_append.mp (sN_mem.mp hx) with hx | hx
      · obtain ⟨v, hv, hxv⟩ := h.things l h1 x hx
        exact ⟨v, List.mem_append_left _ hv, hxv⟩
      · rw [List.mem_singleton.mp hx]
        exact ⟨w, by simp, ht⟩
end L3
namespace L3
open PySem PySem.W PySem.Spec PyProof.Rows L2
theorem len_sub {α : Type} [DecidableEq α] : ∀ {a b : List α}, a.Nodup → (∀ x ∈ a, x ∈ b) → a.length ≤ b.length
  | [], _, _, _ => Nat.zero_le _
  | x :: a, b, hn, h => by
    have hn2 := List.nodup_cons.mp hn
    have hx := h x List.mem_cons_self
    have := len_sub (a := a) (b := b.erase x) hn2.2 fun y hy => (List.mem_erase_of_ne fun e => hn2.1 (by rw [← e]; exact hy)).mpr (h y (List.mem_cons_of_mem _ hy))
    rw [List.length_erase_of_mem hx] at this
    have := List.length_pos_of_mem hx
    rw [List.length_cons]
    omega
theorem flatMap_len {α β : Type} {f : α → List β} {m : Nat} : ∀ {L : List α}, (∀ x ∈ L, (f x).length ≤ m) → (L.flatMap f).length ≤ m * L.length
  | [], _ => by simp
  | x :: L, h => by
    rw [List.flatMap_cons, List.length_append, List.length_cons, Nat.mul_add]
    have h1 := h x List.mem_cons_self
    have h2 := flatMap_len (L := L) fun y hy => h y (List.mem_cons_of_mem _ hy)
    omega
end L3

namespace L3
open PySem PySem.W PySem.Spec PyProof.Rows L2
def UpW (A : List (List Nat)) (m : List Nat) : Prop := ∃ a ∈ A, ∀ x ∈ a, x ∈ m
theorem UpW.mono {A : List (List Nat)} {m o : List Nat} (h : UpW A m) (hmo : ∀ x ∈ m, x ∈ o) : UpW A o := by
  obtain ⟨a, ha, h⟩ := h
  exact ⟨a, ha, fun x hx => hmo x (h x hx)⟩
theorem UpW.same {A : List (List Nat)} {m o : List Nat} (h : ∀ x, x ∈ m ↔ x ∈ o) : UpW A m ↔ UpW A o := ⟨fun q => q.mono fun x hx => (h x).mp hx, fun q => q.mono fun x hx => (h x).mpr hx⟩
end L3

namespace L3
open PySem PySem.W PySem.Spec PyProof.Rows L2
end L3

namespace L3
open PySem PySem.W PySem.Spec PyProof.Rows L2
theorem thFs_cons {p : Tr} {ps : List Tr} : thFs (p :: ps) = thF p ++ thFs ps := by conv => lhs; unfold thFs
theorem sub_cross {A B : List (List Nat)} {a b : List Nat} (sA : ∀ w ∈ A, ∀ x ∈ w, x ∈ a) (sB : ∀ w ∈ B, ∀ x ∈ w, x ∈ b) : ∀ w ∈ cross A B, ∀ x ∈ w, x ∈ a ++ b := fun w hw x hx => by
  obtain ⟨v, hv, m, hm, rfl⟩ := cross_mem.mp hw
  rcases List.mem_append.mp (srtN_mem.mp hx) with q | q
  · exact List.mem_append_left _ (sA v hv x q)
  · exact List.mem_append_right _ (sB m hm x q)
end L3

namespace L3
open PySem PySem.W PySem.Spec PyProof.Rows L2
end L3

namespace L3
open PySem PySem.W PySem.Spec PyProof.Rows L2
section
variable {s : S}
def asL (Q : List D → S → Prop) : R → S → Prop := fun r s => match r with
  | .new (.lst b) => Q b s
  | _ => False
@[simp ↓] theorem asL_lst {Q : List D → S → Prop} {b : List D} : asL Q (.new (.lst b)) s = Q b s := rfl
def kCN (g : Fn) (b dd : List D) : List D → M R := fun ds s' => match g (ds ++ dd) b with
  | .ok r _ => .ok r s'
  | _ => .stuck
@[simp ↓] theorem wp_eCallN {fb : M R} {g : Fn} {fs : List (M D)} {dd : List D} {Q : R → S → Prop} : Wp (eCallN fb g fs dd s) Q = Wp (fb s) (asL fun b s1 => Wp (evs fs (kCN g b dd) s1) Q) := by
  unfold eCallN
  cases fb s with
  | stuck => rfl
  | exc _ _ _ => rfl
  | ok r s1 =>
    cases r with
    | val _ => rfl
    | new c => cases c <;> rfl
@[simp ↓] theorem wp_kCN {g : Fn} {b dd ds : List D} {Q : R → S → Prop} : Wp (kCN g b dd ds s) Q = WpF (g (ds ++ dd) b) fun r _ => Q r s := by
  unfold kCN
  show Wp (match g (ds ++ dd) b with | .ok r _ => .ok r s | _ => .stuck) Q = WpF (g (ds ++ dd) b) fun r _ => Q r s
  cases g (ds ++ dd) b <;> rfl
end
end L3

namespace L3
open PySem PySem.W PySem.Spec PyProof.Rows L2
def roomF (W : List Nat) (f : Nat → Nat) (w : List Nat) : Bool := w.all fun t => decide (f t < atN W t)
theorem zeroR_ent {w i : Nat} : entN (zeroR w) i = if i < w then some 0 else none := by
  unfold entN zeroR
  by_cases h : i < w
  · rw [if_pos h, List.getElem?_append_left (by simpa using h), List.getElem?_replicate, if_pos h]; rfl
  · rw [if_neg h, List.getElem?_append_right (by simpa using h), List.getElem?_replicate]
    split <;> rfl
theorem price_room {W : List Nat} {f : Nat → Nat} : ∀ {w : List Nat}, (∀ t ∈ w, t < W.length) → priceF (zeroT W) f w = if roomF W f w then some 0 else none
  | [], _ => rfl
  | t :: w, h => by
    have ih := price_room (W := W) (f := f) (w := w) fun x hx => h x (List.mem_cons_of_mem _ hx)
    unfold priceF at ih ⊢
    rw [List.map_cons, optSum_cons, ih, zeroT_at (h t List.mem_cons_self), zeroR_ent]
    unfold roomF
    rw [List.all_cons]
    by_cases h1 : f t < atN W t
    · rw [if_pos h1, decide_eq_true h1, Bool.true_and]
      split <;> rfl
    · rw [if_neg h1, decide_eq_false h1, Bool.false_and]
      split <;> rfl
section
variable {F : List (List Nat)} {W : List Nat} {u : Tr}
theorem best_room {f : Nat → Nat} {w : List Nat} (hF : ∀ w ∈ F, ∀ t ∈ w, t < W.length) (hw : w ∈ F) (hr : roomF W f w = true) : Best (zeroT W) F f w := by
  refine ⟨hw, by rw [price_room (hF w hw), if_pos hr]; rfl, fun x hx => ?_⟩
  rw [price_room (hF w hw), if_pos hr, price_room (hF x hx)]
  split <;> simp [leO]
structure Fill (F : List (List Nat)) (W : List Nat) (c : Nat) : Prop where
  len : ∀ f k, Gr (zeroT W) F f k → k ≤ c
  room : ∀ f k, Gr (zeroT W) F f k → k < c → ∃ w ∈ F, roomF W f w = true
theorem gr_more {f g : Nat → Nat} {k : Nat} {w : List Nat} (hF : ∀ w ∈ F, ∀ t ∈ w, t < W.length) (hg : Gr (zeroT W) F f k) (hw : w ∈ F) (hr : roomF W f w = true) (hgf : ∀ v ∈ F, ∀ t ∈ v, g t = inF f w t) : Gr (zeroT W) F g (k + 1) :=
  .step hg (best_room hF hw hr) hgf
def loadsStep (F : List (List Nat)) (W : List Nat) (Ls : List (List Nat)) : List (List Nat) := dedW (Ls.flatMap fun L => (F.filter (roomF W (atN L))).map fun w => moreN L w)
def rowsTo (m : Nat) : Nat → List (List Nat)
  | 0 => [[]]
  | n + 1 => (rowsTo m n).flatMap fun r => (List.range m).map fun x => r ++ [x]
theorem rowsTo_mem {m : Nat} : ∀ {n : Nat} {L : List Nat}, L.length = n → (∀ x ∈ L, x < m) → L ∈ rowsTo m n
  | 0, L, h, _ => by rw [List.length_eq_zero_iff.mp h]; simp [rowsTo]
  | n + 1, L, h, hx => by
    have hne : L ≠ [] := fun e => by rw [e] at h; cases h
    unfold rowsTo
    refine List.mem_flatMap.mpr ⟨L.dropLast, rowsTo_mem (by rw [List.length_dropLast]; omega) fun x hxl => hx x ((List.dropLast_sublist L).mem hxl), ?_⟩
    refine List.mem_map.mpr ⟨L.getLast hne, List.mem_range.mpr (hx _ (List.getLast_mem hne)), List.dropLast_concat_getLast hne⟩
theorem rowsTo_len (m : Nat) : ∀ n, (rowsTo m n).length ≤ m ^ n
  | 0 => by simp [rowsTo]
  | n + 1 => by
    unfold rowsTo
    have h := flatMap_len (L := rowsTo m n) (f := fun r => (List.range m).map fun x => r ++ [x]) (m := m) fun r _ => by simp
    refine Nat.le_trans h ?_
    rw [Nat.pow_succ, Nat.mul_comm]
    exact Nat.mul_le_mul_right m (rowsTo_len m n)
structure Reach (F : List (List Nat)) (W : List Nat) (n k : Nat) (Ls : List (List Nat)) : Prop where
  once : Ls.Nodup
  len : ∀ L ∈ Ls, L.length = n
  low : ∀ L ∈ Ls, ∀ t, t < n → atN L t ≤ atN W t
  gr : ∀ L ∈ Ls, Gr (zeroT W) F (atN L) k
theorem Reach.few {n k : Nat} {Ls : List (List Nat)} (h : Reach F W n k Ls) (hn : n ≤ 6) (hW : ∀ t, t < n → atN W t ≤ 3) : Ls.length ≤ 4096 := by
  have := len_sub h.once (b := rowsTo 4 n) fun L hL => rowsTo_mem (h.len L hL) fun x hx => by
    obtain ⟨t, ht⟩ := List.mem_iff_getElem?.mp hx
    have htn : t < n := by have := (List.getElem?_eq_some_iff.mp ht).1; rw [h.len L hL] at this; exact this
    have h1 := h.low L hL t htn
    have h2 := hW t htn
    have : atN L t = x := by unfold atN; rw [List.getD_eq_getElem?_getD, ht]; rfl
    omega
  exact Nat.le_trans this (Nat.le_trans (rowsTo_len 4 n) (Nat.le_trans (Nat.pow_le_pow_right (by omega) hn) (by decide)))
theorem Reach.step {n k : Nat} {Ls : List (List Nat)} (h : Reach F W n k Ls) (hF : ∀ w ∈ F, ∀ t ∈ w, t < n) (hW : W.length = n) : Reach F W n (k + 1) (loadsStep F W Ls) := by
  have hm : ∀ M ∈ loadsStep F W Ls, ∃ L ∈ Ls, ∃ w ∈ F, roomF W (atN L) w = true ∧ M = moreN L w := fun M hM => by
    obtain ⟨L, hL, hM⟩ := List.mem_flatMap.mp (dedW_iff.mp hM)
    obtain ⟨w, hw, rfl⟩ := List.mem_map.mp hM
    obtain ⟨h1, h2⟩ := List.mem_filter.mp hw
    exact ⟨L, hL, w, h1, h2, rfl⟩
  refine ⟨dedW_nodup List.nodup_nil, fun M hM => ?_, fun M hM t ht => ?_, fun M hM => ?_⟩
  · obtain ⟨L, hL, w, _, _, rfl⟩ := hm M hM
    rw [moreN_len, h.len L hL]
  · obtain ⟨L, hL, w, _, hr, rfl⟩ := hm M hM
    rw [moreN_get (by rw [h.len L hL]; exact ht)]
    have := h.low L hL t ht
    by_cases htw : t ∈ w
    · rw [if_pos htw]
      unfold roomF at hr
      rw [List.all_eq_true] at hr
      have := hr t htw
      rw [decide_eq_true_eq] at this
      omega
    · rw [if_neg htw]; exact this
  · obtain ⟨L, hL, w, hw, hr, rfl⟩ := hm M hM
    refine gr_more (fun w hw t ht => by rw [hW]; exact hF w hw t ht) (h.gr L hL) hw hr fun v hv t ht => ?_
    rw [moreN_get (by rw [h.len L hL]; exact hF v hv t ht)]
    unfold inF
    by_cases htw : t ∈ w <;> simp [htw]
theorem Reach.next {n k c : Nat} {Ls : List (List Nat)} (h : Reach F W n k Ls) (hF : ∀ w ∈ F, ∀ t ∈ w, t < n) (hW : W.length = n) (hfill : Fill F W c) (hne : Ls ≠ []) : k < c ↔ loadsStep F W Ls ≠ [] := by
  constructor
  · intro hk e
    obtain ⟨L, hL⟩ := List.exists_mem_of_ne_nil Ls hne
    obtain ⟨w, hw, hr⟩ := hfill.room _ _ (h.gr L hL) hk
    have : moreN L w ∈ loadsStep F W Ls := dedW_iff.mpr (List.mem_flatMap.mpr ⟨L, hL, List.mem_map.mpr ⟨w, List.mem_filter.mpr ⟨hw, hr⟩, rfl⟩⟩)
    rw [e] at this; cases this
  · intro hne2
    refine Classical.byContradiction fun hk => hne2 ?_
    refine List.eq_nil_iff_forall_not_mem.mpr fun M hM => ?_
    have := hfill.len _ _ ((h.step hF hW).gr M hM)
    omega
end
end L3

namespace L3
open PySem PySem.W PySem.Spec PyProof.Rows L2
def MinT (W : List (List Nat)) (l : List Nat) : Prop := TransW W l ∧ ∀ m : List Nat, (∀ x ∈ m, x ∈ l) → TransW W m → ∀ x ∈ l, x ∈ m
def CalmB (W : List (List Nat)) : Prop := ∀ l, MinT W l → ∀ w ∈ W, ∀ x ∈ w, ∀ y ∈ w, x ∈ l → y ∈ l → x = y
theorem calmB_leaf (k : Nat) : CalmB [[k]] := fun l _ w hw x hx y hy _ _ => by
  rw [List.mem_singleton.mp hw] at hx hy
  rw [List.mem_singleton.mp hx, List.mem_singleton.mp hy]
theorem calm_half {A B : List (List Nat)} {a b : List Nat} (cA : CalmB A) (sA : ∀ w ∈ A, ∀ x ∈ w, x ∈ a) (sB : ∀ w ∈ B, ∀ x ∈ w, x ∈ b) (hd : ∀ x ∈ a, x ∉ b) {l : List Nat} (hl : TransW A l ∧ TransW B l) (hmin : ∀ m : List Nat, (∀ x ∈ m, x ∈ l) → TransW A m → TransW B m → ∀ x ∈ l, x ∈ m) :
    ∀ w ∈ A, ∀ x ∈ w, ∀ y ∈ w, x ∈ l → y ∈ l → x = y := fun w hw x hx y hy hxl hyl => by
  refine cA (l.filter fun x => decide (x ∈ a)) ⟨fun v hv => ?_, fun m hm hT z hz => ?_⟩ w hw x hx y hy (List.mem_filter.mpr ⟨hxl, by simpa using sA w hw x hx⟩) (List.mem_filter.mpr ⟨hyl, by simpa using sA w hw y hy⟩)
  · obtain ⟨z, hz, hzl⟩ := hl.1 v hv
    exact ⟨z, hz, List.mem_filter.mpr ⟨hzl, by simpa using sA v hv z hz⟩⟩
  · obtain ⟨hz1, hz2⟩ := List.mem_filter.mp hz
    have := hmin (m ++ l.filter fun x => !decide (x ∈ a)) (fun q hq => by
      rcases List.mem_append.mp hq with q1 | q1
      · exact (List.mem_filter.mp (hm q q1)).1
      · exact (List.mem_filter.mp q1).1) (fun v hv => by
      obtain ⟨q, h1, h2⟩ := hT v hv
      exact ⟨q, h1, List.mem_append_left _ h2⟩) (fun v hv => by
      obtain ⟨q, h1, h2⟩ := hl.2 v hv
      exact ⟨q, h1, List.mem_append_right _ (List.mem_filter.mpr ⟨h2, by simpa using fun h => hd q h (sB v hv q h1)⟩)⟩) z hz1
    rcases List.mem_append.mp this with q | q
    · exact q
    · have := (List.mem_filter.mp q).2
      simp at this hz2
      exact absurd hz2 this
theorem trans_app {A B : List (List Nat)} {l : List Nat} : TransW (A ++ B) l ↔ TransW A l ∧ TransW B l :=
  ⟨fun h => ⟨fun w hw => h w (List.mem_append_left _ hw), fun w hw => h w (List.mem_append_right _ hw)⟩, fun h w hw => (List.mem_append.mp hw).elim (h.1 w) (h.2 w)⟩
theorem calmB_side {A B : List (List Nat)} {a b : List Nat} (cA : CalmB A) (cB : CalmB B) (sA : ∀ w ∈ A, ∀ x ∈ w, x ∈ a) (sB : ∀ w ∈ B, ∀ x ∈ w, x ∈ b) (hd : ∀ x ∈ a, x ∉ b) : CalmB (A ++ B) := fun l hl w hw => by
  have h1 := trans_app.mp hl.1
  rcases List.mem_append.mp hw with q | q
  · exact calm_half cA sA sB hd h1 (fun m hm t1 t2 => hl.2 m hm (trans_app.mpr ⟨t1, t2⟩)) w q
  · exact calm_half cB sB sA (fun x h h' => hd x h' h) ⟨h1.2, h1.1⟩ (fun m hm t1 t2 => hl.2 m hm (trans_app.mpr ⟨t2, t1⟩)) w q
theorem cross_one {A B : List (List Nat)} {a b : List Nat} (cA : CalmB A) (sA : ∀ w ∈ A, ∀ x ∈ w, x ∈ a) (sB : ∀ w ∈ B, ∀ x ∈ w, x ∈ b) (hd : ∀ x ∈ a, x ∉ b) {l : List Nat} (hA : TransW A l) (hmin : ∀ m : List Nat, (∀ x ∈ m, x ∈ l) → TransW A m → ∀ x ∈ l, x ∈ m) {v u : List Nat} (hv : v ∈ A) (hu : u ∈ B) :
    ∀ x, x ∈ v ∨ x ∈ u → ∀ y, y ∈ v ∨ y ∈ u → x ∈ l → y ∈ l → x = y := by
  have hla : ∀ x ∈ l, x ∈ a := fun x hx => by
    have := hmin (l.filter fun x => decide (x ∈ a)) (fun q hq => (List.mem_filter.mp hq).1) (fun v hv => by
      obtain ⟨z, hz, hzl⟩ := hA v hv
      exact ⟨z, hz, List.mem_filter.mpr ⟨hzl, by simpa using sA v hv z hz⟩⟩) x hx
    simpa using (List.mem_filter.mp this).2
  have hin : ∀ x, x ∈ v ∨ x ∈ u → x ∈ l → x ∈ v := fun x hx hxl => hx.elim id fun q => absurd (sB u hu x q) (hd x (hla x hxl))
  intro x hx y hy hxl hyl
  exact cA l ⟨hA, hmin⟩ v hv x (hin x hx hxl) y (hin y hy hyl) hxl hyl
theorem calmB_cross {A B : List (List Nat)} {a b : List Nat} (cA : CalmB A) (cB : CalmB B) (sA : ∀ w ∈ A, ∀ x ∈ w, x ∈ a) (sB : ∀ w ∈ B, ∀ x ∈ w, x ∈ b) (hd : ∀ x ∈ a, x ∉ b) : CalmB (cross A B) := fun l hl w hw x hx y hy hxl hyl => by
  obtain ⟨v, hv, u, hu, rfl⟩ := cross_mem.mp hw
  have ex : ∀ z, z ∈ srtN (v ++ u) → z ∈ v ∨ z ∈ u := fun z hz => List.mem_append.mp (srtN_mem.mp hz)
  by_cases hA : TransW A l
  · refine cross_one cA sA sB hd hA (fun m hm hT => hl.2 m hm fun w hw => ?_) hv hu x (ex x hx) y (ex y hy) hxl hyl
    obtain ⟨v', hv', u', hu', rfl⟩ := cross_mem.mp hw
    obtain ⟨z, hz, hzm⟩ := hT v' hv'
    exact ⟨z, srtN_mem.mpr (List.mem_append_left _ hz), hzm⟩
  · have hB : TransW B l := fun u' hu' => by
      refine Classical.byContradiction fun hno => hA fun v' hv' => ?_
      obtain ⟨z, hz, hzl⟩ := hl.1 (srtN (v' ++ u')) (cross_mem.mpr ⟨v', hv', u', hu', rfl⟩)
      rcases List.mem_append.mp (srtN_mem.mp hz) with q | q
      · exact ⟨z, q, hzl⟩
      · exact absurd ⟨z, q, hzl⟩ hno
    refine cross_one cB sB sA (fun x h h' => hd x h' h) hB (fun m hm hT => hl.2 m hm fun w hw => ?_) hu hv x (ex x hx).symm y (ex y hy).symm hxl hyl
    obtain ⟨v', hv', u', hu', rfl⟩ := cross_mem.mp hw
    obtain ⟨z, hz, hzm⟩ := hT u' hu'
    exact ⟨z, srtN_mem.mpr (List.mem_append_right _ hz), hzm⟩
theorem CalmB.congr {A B : List (List Nat)} (h : CalmB A) (e : ∀ w, w ∈ A ↔ w ∈ B) : CalmB B := fun l hl w hw => by
  have ht : ∀ m, TransW A m ↔ TransW B m := fun m => ⟨fun q w hw => q w ((e w).mpr hw), fun q w hw => q w ((e w).mp hw)⟩
  exact h l ⟨(ht l).mpr hl.1, fun m hm hT => hl.2 m hm ((ht m).mp hT)⟩ w ((e w).mpr hw)
structure RowsC (R : List (List Nat)) (th : List Nat) : Prop extends RowsOk R th where
  calm : CalmB R
theorem RowsOk.sub {R : List (List Nat)} {th : List Nat} (h : RowsOk R th) : ∀ w ∈ R, ∀ x ∈ w, x ∈ th := fun w hw x hx => (h.cover x).mp ⟨w, hw, hx⟩
theorem RowsC.leaf (k : Nat) : RowsC [[k]] [k] := ⟨RowsOk.leaf k, calmB_leaf k⟩
theorem RowsC.side {A B : List (List Nat)} {a b : List Nat} (hA : RowsC A a) (hB : RowsC B b) (hd : ∀ x ∈ a, x ∉ b) : RowsC (A ++ B) (a ++ b) := ⟨hA.toRowsOk.side hB.toRowsOk hd, calmB_side hA.calm hB.calm hA.toRowsOk.sub hB.toRowsOk.sub hd⟩
theorem RowsC.cross {A B : List (List Nat)} {a b : List Nat} (hA : RowsC A a) (hB : RowsC B b) (nA : A ≠ []) (nB : B ≠ []) (hd : ∀ x ∈ a, x ∉ b) : RowsC (L3.cross A B) (a ++ b) := ⟨hA.toRowsOk.cross hB.toRowsOk nA nB hd, calmB_cross hA.calm hB.calm hA.toRowsOk.sub hB.toRowsOk.sub hd⟩
end L3

namespace L3
open PySem PySem.W PySem.Spec PyProof.Rows L2
end L3
namespace L3
open PySem PySem.W PySem.Spec PyProof.Rows L2
end L3

namespace L3
open PySem PySem.W PySem.Spec PyProof.Rows L2
end L3

namespace L3
open PySem PySem.W PySem.Spec PyProof.Rows L2
def Lam (W : List (List Nat)) : Prop := ∀ x y, ∀ a ∈ W, ∀ b ∈ W, ∀ c ∈ W, x ∈ a → y ∈ a → x ∈ b → y ∉ b → y ∈ c → x ∈ c
theorem Lam.core {W B : List (List Nat)} {n : List Nat} (hB : Lam B) (h : ∀ v ∈ W, ∃ m ∈ B, ∀ x, x ∈ v ↔ x ∈ n ∨ x ∈ m) : Lam W := fun x y a ha b hb c hc xa ya xb yb yc => by
  obtain ⟨ma, ma1, ma2⟩ := h a ha
  obtain ⟨mb, mb1, mb2⟩ := h b hb
  obtain ⟨mc, mc1, mc2⟩ := h c hc
  rw [mc2]
  rw [ma2] at xa ya
  rw [mb2] at xb yb
  rw [mc2] at yc
  by_cases hx : x ∈ n
  · exact .inl hx
  · have hy : y ∉ n := fun q => yb (.inl q)
    exact .inr (hB x y ma ma1 mb mb1 mc mc1 (xa.resolve_left hx) (ya.resolve_left hy) (xb.resolve_left hx) (fun q => yb (.inr q)) (yc.resolve_left hy))
theorem Lam.congr {W B : List (List Nat)} (hB : Lam B) (h : ∀ v ∈ W, v ∈ B) : Lam W := fun x y a ha b hb c hc => hB x y a (h a ha) b (h b hb) c (h c hc)
theorem Lam.row {A B : List (List Nat)} (hA : Lam A) (hB : Lam B) (h : A.length = 1 ∨ B.length = 1) : Lam (cross A B) := by
  rcases h with h | h
  · match A, h with
    | [n], _ =>
      refine hB.core (n := n) fun v hv => ?_
      obtain ⟨w, hw, m, hm, rfl⟩ := cross_mem.mp hv
      rw [List.mem_singleton.mp hw]
      exact ⟨m, hm, fun x => by rw [srtN_mem, List.mem_append]⟩
  · match B, h with
    | [n], _ =>
      refine hA.core (n := n) fun v hv => ?_
      obtain ⟨w, hw, m, hm, rfl⟩ := cross_mem.mp hv
      rw [List.mem_singleton.mp hm]
      exact ⟨w, hw, fun x => by rw [srtN_mem, List.mem_append, or_comm]⟩
theorem Lam.side {A B : List (List Nat)} {a b : List Nat} (hA : Lam A) (hB : Lam B) (sA : ∀ w ∈ A, ∀ x ∈ w, x ∈ a) (sB : ∀ w ∈ B, ∀ x ∈ w, x ∈ b) (hd : ∀ x ∈ a, x ∉ b) : Lam (A ++ B) := fun x y u hu v hv w hw xu yu xv yv yw => by
  have inA : ∀ w ∈ A ++ B, ∀ z ∈ w, z ∈ a → w ∈ A := fun w hw z hz hza => by
    rcases List.mem_append.mp hw with q | q
    · exact q
    · exact absurd (sB w q z hz) (hd z hza)
  have inB : ∀ w ∈ A ++ B, ∀ z ∈ w, z ∈ b → w ∈ B := fun w hw z hz hzb => by
    rcases List.mem_append.mp hw with q | q
    · exact absurd hzb (hd z (sA w q z hz))
    · exact q
  rcases List.mem_append.mp hu with q | q
  · exact hA x y u q v (inA v hv x xv (sA u q x xu)) w (inA w hw y yw (sA u q y yu)) xu yu xv yv yw
  · exact hB x y u q v (inB v hv x xv (sB u q x xu)) w (inB w hw y yw (sB u q y yu)) xu yu xv yv yw
inductive Pl : Tr → Prop
  | leaf (x : Nat) : Pl (.leaf x)
  | side (p q : Tr) : Pl p → Pl q → Pl (.node false [p, q])
  | row (p q : Tr) : Pl p → Pl q → (waysT p).length = 1 ∨ (waysT q).length = 1 → Pl (.node true [p, q])
theorem waysT_side (p q : Tr) : waysT (.node false [p, q]) = waysT p ++ waysT q := by
  conv => lhs; unfold waysT
  simp [waysTs]
theorem waysT_row (p q : Tr) : waysT (.node true [p, q]) = cross (cross [[]] (waysT p)) (waysT q) := by
  conv => lhs; unfold waysT
  simp [waysTs, crossAll]
theorem thF_two (k : Bool) (p q : Tr) : thF (.node k [p, q]) = thF p ++ thF q := by
  rw [thF_node, thFs_cons, thFs_cons]
  conv => lhs; rhs; rhs; unfold thFs
  rw [List.append_nil]
theorem Pl.ar {u : Tr} (h : Pl u) : Ar u := by
  induction h with
  | leaf x => unfold Ar; trivial
  | side p q _ _ ih1 ih2 => unfold Ar; exact ⟨by simp, by simp, by unfold Ars; exact ⟨ih1, by unfold Ars; exact ⟨ih2, by unfold Ars; trivial⟩⟩⟩
  | row p q _ _ _ ih1 ih2 => unfold Ar; exact ⟨by simp, by simp, by unfold Ars; exact ⟨ih1, by unfold Ars; exact ⟨ih2, by unfold Ars; trivial⟩⟩⟩
theorem Pl.few {u : Tr} (h : Pl u) : (waysT u).length ≤ (thF u).length := by
  induction h with
  | leaf x => unfold waysT thF; simp
  | side p q _ _ ih1 ih2 => rw [waysT_side, thF_two, List.length_append, List.length_append]; omega
  | row p q _ _ h1 ih1 ih2 =>
    rw [waysT_row, thF_two, cross_len, cross_len, List.length_append, List.length_singleton, Nat.one_mul]
    rcases h1 with h1 | h1 <;> rw [h1] <;> omega
end L3

namespace L3
open PySem PySem.W PySem.Spec PyProof.Rows L2
end L3

namespace L3
open PySem PySem.W PySem.Spec PyProof.Rows L2
end L3

namespace L3
open PySem PySem.W PySem.Spec PyProof.Rows L2
end L3

namespace L3
open PySem PySem.W PySem.Spec PyProof.Rows L2
def Mend (W : List (List Nat)) : Prop := ∀ (T : List (List (Option Nat))) (f : Nat → Nat) (w v : List Nat), RiseT T → w ∈ W → v ∈ W → Best T W (outF f w) w → (∀ x ∈ W, leO (priceF T (outF f w) w) (priceF T (outF f v) x)) → Best T W (outF (outF f v) w) w
theorem out_le (f : Nat → Nat) (v w : List Nat) (t : Nat) : outF (outF f v) w t ≤ outF f w t := by unfold outF; omega
theorem mend_some {T : List (List (Option Nat))} {f : Nat → Nat} {v w : List Nat} (hR : RiseT T) (h : (priceF T (outF f w) w).isSome = true) : (priceF T (outF (outF f v) w) w).isSome = true := by
  obtain ⟨y, hy⟩ := Option.isSome_iff_exists.mp h
  have := priceF_mono hR (w := w) fun t _ => out_le f v w t
  rw [hy] at this
  obtain ⟨x, hx, _⟩ := leO_some this
  rw [hx]; rfl
theorem mend_leaf (k : Nat) : Mend [[k]] := fun T f w v hR hw hv hb _ =>
  ⟨hw, mend_some hR hb.2.1, fun x hx => by rw [List.mem_singleton.mp hw, List.mem_singleton.mp hx]; exact leO_refl _⟩
theorem mend_side {A B : List (List Nat)} {a b : List Nat} (hA : Mend A) (hB : Mend B) (sa : ∀ w ∈ A, ∀ x ∈ w, x ∈ a) (sb : ∀ w ∈ B, ∀ x ∈ w, x ∈ b) (hd : ∀ x ∈ a, x ∉ b) : Mend (A ++ B) := by
  have half : ∀ {A B : List (List Nat)} {a b : List Nat}, Mend A → (∀ w ∈ A, ∀ x ∈ w, x ∈ a) → (∀ w ∈ B, ∀ x ∈ w, x ∈ b) → (∀ x ∈ a, x ∉ b) → ∀ (T : List (List (Option Nat))) (f : Nat → Nat) (w v : List Nat), RiseT T → w ∈ A → (v ∈ A ∨ v ∈ B) → (priceF T (outF f w) w).isSome = true →
      (∀ x, x ∈ A ∨ x ∈ B → leO (priceF T (outF f w) w) (priceF T (outF f w) x)) → (∀ x, x ∈ A ∨ x ∈ B → leO (priceF T (outF f w) w) (priceF T (outF f v) x)) → ∀ x, x ∈ A ∨ x ∈ B → leO (priceF T (outF (outF f v) w) w) (priceF T (outF (outF f v) w) x) := by
    intro A B a b hA sa sb hd T f w v hR hw hv hs h1 h2 x hx
    have off : ∀ {w x : List Nat} (g : Nat → Nat), w ∈ A → x ∈ B → priceF T (outF g w) x = priceF T g x := fun g hw hx => priceF_congr fun t ht => by
      unfold outF
      rw [if_neg fun q => hd t (sa _ hw t q) (sb _ hx t ht)]; omega
    have off2 : ∀ {w x : List Nat} (g : Nat → Nat), w ∈ B → x ∈ A → priceF T (outF g w) x = priceF T g x := fun g hw hx => priceF_congr fun t ht => by
      unfold outF
      rw [if_neg fun q => hd t (sa _ hx t ht) (sb _ hw t q)]; omega
    have hm := priceF_mono hR (w := w) fun t _ => out_le f v w t
    have hbA : Best T A (outF f w) w := ⟨hw, hs, fun x hx => h1 x (.inl hx)⟩
    rcases hv with hv | hv
    · rcases hx with hx | hx
      · exact (hA T f w v hR hw hv hbA fun x hx => h2 x (.inl hx)).2.2 x hx
      · rw [off _ hw hx]
        exact leO_trans hm (h2 x (.inr hx))
    · rcases hx with hx | hx
      · have e : ∀ {x : List Nat}, x ∈ A → priceF T (outF (outF f v) w) x = priceF T (outF f w) x := fun {x} hx => priceF_congr fun t ht => by
          unfold outF
          rw [if_neg fun q => hd t (sa _ hx t ht) (sb _ hv t q)]; omega
        rw [e hw, e hx]
        exact h1 x (.inl hx)
      · rw [off _ hw hx]
        exact leO_trans hm (h2 x (.inr hx))
  intro T f w v hR hw hv hb h
  refine ⟨hw, mend_some hR hb.2.1, fun x hx => ?_⟩
  have hx := List.mem_append.mp hx
  have hv := List.mem_append.mp hv
  rcases List.mem_append.mp hw with hw | hw
  · exact half hA sa sb hd T f w v hR hw hv hb.2.1 (fun x hx => hb.2.2 x (List.mem_append.mpr hx)) (fun x hx => h x (List.mem_append.mpr hx)) x hx
  · exact half hB sb sa (fun x h q => hd x q h) T f w v hR hw hv.symm hb.2.1 (fun x hx => hb.2.2 x (List.mem_append.mpr hx.symm)) (fun x hx => h x (List.mem_append.mpr hx.symm)) x hx.symm
structure With (W B : List (List Nat)) (n b : List Nat) : Prop where
  to : ∀ v ∈ W, ∃ m ∈ B, v.Perm (n ++ m)
  of : ∀ m ∈ B, ∃ v ∈ W, v.Perm (n ++ m)
  sub : ∀ m ∈ B, ∀ x ∈ m, x ∈ b
  ap : ∀ x ∈ n, x ∉ b
theorem priceF_perm {T : List (List (Option Nat))} {f : Nat → Nat} {v w : List Nat} (h : v.Perm w) : priceF T f v = priceF T f w := by
  unfold priceF
  exact optSum_perm (h.map _)
theorem priceF_cat (T : List (List (Option Nat))) (f : Nat → Nat) (a b : List Nat) : priceF T f (a ++ b) = addO (priceF T f a) (priceF T f b) := by
  unfold priceF
  rw [List.map_append, optSum_append]
section
variable {T : List (List (Option Nat))} {W B : List (List Nat)} {n b : List Nat}
theorem With.price (h : With W B n b) (g : Nat → Nat) {v m : List Nat} (p : v.Perm (n ++ m)) : priceF T g v = addO (priceF T g n) (priceF T g m) := by rw [priceF_perm p, priceF_cat]
theorem With.outN (h : With W B n b) (f : Nat → Nat) {v m : List Nat} (hm : m ∈ B) (p : v.Perm (n ++ m)) : ∀ t ∈ n, outF f v t = outF f n t := fun t ht => by
  unfold outF
  rw [if_pos (p.mem_iff.mpr (List.mem_append_left _ ht)), if_pos ht]
theorem With.outM (h : With W B n b) (f : Nat → Nat) {v m x : List Nat} (hx : x ∈ B) (p : v.Perm (n ++ m)) : ∀ t ∈ x, outF f v t = outF f m t := fun t ht => by
  unfold outF
  have e : (t ∈ v) = (t ∈ m) := propext ⟨fun q => (List.mem_append.mp (p.mem_iff.mp q)).elim (fun q => absurd (h.sub x hx t ht) (h.ap t q)) id, fun q => p.mem_iff.mpr (List.mem_append_right _ q)⟩
  simp only [e]
theorem With.best (h : With W B n b) {f : Nat → Nat} {w m : List Nat} (hm : m ∈ B) (p : w.Perm (n ++ m)) (hb : Best T W f w) : Best T B f m ∧ (priceF T f n).isSome = true := by
  have h2 := hb.2.1
  rw [h.price f p] at h2
  obtain ⟨z, hz⟩ := Option.isSome_iff_exists.mp h2
  obtain ⟨x, y, hx, hy⟩ := addO_some hz
  refine ⟨⟨hm, by rw [hy]; rfl, fun m' hm' => ?_⟩, by rw [hx]; rfl⟩
  obtain ⟨v, hv, pv⟩ := h.of m' hm'
  have := hb.2.2 v hv
  rw [h.price f p, h.price f pv] at this
  exact leO_right hx this
theorem With.best' (h : With W B n b) {f : Nat → Nat} {w m : List Nat} (hw : w ∈ W) (p : w.Perm (n ++ m)) (hb : Best T B f m) (hn : (priceF T f n).isSome = true) : Best T W f w := by
  obtain ⟨x, hx⟩ := Option.isSome_iff_exists.mp hn
  obtain ⟨y, hy⟩ := Option.isSome_iff_exists.mp hb.2.1
  refine ⟨hw, by rw [h.price f p, hx, hy]; rfl, fun v hv => ?_⟩
  obtain ⟨m', hm', pv⟩ := h.to v hv
  rw [h.price f p, h.price f pv]
  exact leO_add (leO_refl _) (hb.2.2 m' hm')
end
theorem mend_with {W B : List (List Nat)} {n b : List Nat} (h : With W B n b) (hB : Mend B) : Mend W := fun T f w v hR hw hv hb hle => by
  obtain ⟨m, hm, pm⟩ := h.to w hw
  obtain ⟨k, hk, pk⟩ := h.to v hv
  obtain ⟨b1, s1⟩ := h.best hm pm hb
  have b1 : Best T B (outF f m) m := b1.fun_congr fun x hx t ht => h.outM f hx pm t ht
  have b2 := hB T f m k hR hm hk b1 fun x hx => by
    obtain ⟨u, hu, pu⟩ := h.of x hx
    have := hle u hu
    rw [h.price _ pm, h.price _ pu, priceF_congr (h.outN f hm pm), priceF_congr (h.outN f hk pk), priceF_congr (h.outM f hm pm), priceF_congr (h.outM f hx pk)] at this
    obtain ⟨y, hy⟩ := Option.isSome_iff_exists.mp s1
    rw [priceF_congr (h.outN f hm pm)] at hy
    exact leO_right hy this
  refine h.best' hw pm (b2.fun_congr fun x hx t ht => ?_) ?_
  · have e1 := h.outM f hx pk t ht
    have e2 := h.outM (outF f v) hx pm t ht
    rw [e2]
    unfold outF at e1 ⊢
    rw [e1]
  · obtain ⟨y, hy⟩ := Option.isSome_iff_exists.mp s1
    have := priceF_mono hR (w := n) fun t _ => out_le f v w t
    rw [hy] at this
    obtain ⟨x, hx, _⟩ := leO_some this
    rw [hx]; rfl
theorem cross_unit {A B : List (List Nat)} : ∀ v, v ∈ cross (cross [[]] A) B ↔ ∃ w ∈ A, ∃ m ∈ B, v = srtN (srtN w ++ m) := fun v => by
  constructor
  · intro h
    obtain ⟨u, hu, m, hm, rfl⟩ := cross_mem.mp h
    obtain ⟨e, he, w, hw, rfl⟩ := cross_mem.mp hu
    rw [List.mem_singleton.mp he]
    exact ⟨w, hw, m, hm, rfl⟩
  · rintro ⟨w, hw, m, hm, rfl⟩
    exact cross_mem.mpr ⟨_, cross_mem.mpr ⟨[], by simp, w, hw, rfl⟩, m, hm, rfl⟩
theorem srt_two (w m : List Nat) : (srtN (srtN w ++ m)).Perm (w ++ m) := (srtN_perm _).trans ((srtN_perm w).append_right m)
theorem with_row {A B : List (List Nat)} {a b : List Nat} (sa : ∀ w ∈ A, ∀ x ∈ w, x ∈ a) (sb : ∀ w ∈ B, ∀ x ∈ w, x ∈ b) (hd : ∀ x ∈ a, x ∉ b) (h : A.length = 1 ∨ B.length = 1) : ∃ n, With (cross (cross [[]] A) B) B n b ∧ A = [n] ∨ With (cross (cross [[]] A) B) A n a ∧ B = [n] := by
  rcases h with h | h
  · match A, h with
    | [n], _ =>
      refine ⟨n, .inl ⟨⟨fun v hv => ?_, fun m hm => ?_, sb, fun x hx => hd x (sa n (by simp) x hx)⟩, rfl⟩⟩
      · obtain ⟨w, hw, m, hm, rfl⟩ := (cross_unit v).mp hv
        rw [List.mem_singleton.mp hw]
        exact ⟨m, hm, srt_two n m⟩
      · exact ⟨_, (cross_unit _).mpr ⟨n, by simp, m, hm, rfl⟩, srt_two n m⟩
  · match B, h with
    | [n], _ =>
      refine ⟨n, .inr ⟨⟨fun v hv => ?_, fun m hm => ?_, sa, fun x hx q => hd x q (sb n (by simp) x hx)⟩, rfl⟩⟩
      · obtain ⟨w, hw, m, hm, rfl⟩ := (cross_unit v).mp hv
        rw [List.mem_singleton.mp hm]
        exact ⟨w, hw, (srt_two w n).trans List.perm_append_comm⟩
      · exact ⟨_, (cross_unit _).mpr ⟨m, hm, n, by simp, rfl⟩, (srt_two m n).trans List.perm_append_comm⟩
theorem Pl.ind {P : List (List Nat) → Prop} (hl : ∀ k, P [[k]]) (hs : ∀ (A B : List (List Nat)) (a b : List Nat), P A → P B → (∀ w ∈ A, ∀ x ∈ w, x ∈ a) → (∀ w ∈ B, ∀ x ∈ w, x ∈ b) → (∀ x ∈ a, x ∉ b) → P (A ++ B)) (hw : ∀ (W B : List (List Nat)) (n b : List Nat), With W B n b → P B → P W) {u : Tr} (h : Pl u) : (thF u).Nodup → P (waysT u) := by
  induction h with
  | leaf x => intro _; unfold waysT; exact hl x
  | side p q h1 h2 ih1 ih2 =>
    intro hn
    rw [thF_two] at hn
    have hn := List.nodup_append.mp hn
    rw [waysT_side]
    exact hs _ _ _ _ (ih1 hn.1) (ih2 hn.2.1) (waysT_in p) (waysT_in q) fun x h1 h2 => hn.2.2 x h1 x h2 rfl
  | row p q h1 h2 hl ih1 ih2 =>
    intro hn
    rw [thF_two] at hn
    have hn := List.nodup_append.mp hn
    rw [waysT_row]
    obtain ⟨n, h | h⟩ := with_row (waysT_in p) (waysT_in q) (fun x h1 h2 => hn.2.2 x h1 x h2 rfl) hl
    · exact hw _ _ _ _ h.1 (ih2 hn.2.1)
    · exact hw _ _ _ _ h.1 (ih1 hn.1)
theorem Pl.mend {u : Tr} (h : Pl u) (hn : (thF u).Nodup) : Mend (waysT u) :=
  h.ind mend_leaf (fun _ _ _ _ h1 h2 h3 h4 h5 => mend_side h1 h2 h3 h4 h5) (fun _ _ _ _ h1 h2 => mend_with h1 h2) hn
theorem Mend.congr {A B : List (List Nat)} (hA : Mend A) (h : ∀ w, w ∈ A ↔ w ∈ B) : Mend B := fun T f w v hR hw hv hb hle =>
  (hA T f w v hR ((h w).mpr hw) ((h v).mpr hv) (hb.mem_congr fun w => (h w).symm) fun x hx => hle x ((h x).mp hx)).mem_congr h
section
variable {F : List (List Nat)} {T : List (List (Option Nat))} {n : Nat} {st : List Nat}
end
end L3

namespace L3
open PySem PySem.W PySem.Spec PyProof.Rows L2
section
variable {T : List (List (Option Nat))} {A B W : List (List Nat)} {a b n PA PB PR : List Nat}
end
end L3
namespace L3
open PySem PySem.W PySem.Spec PyProof.Rows L2
end L3

namespace L3
open PySem PySem.W PySem.Spec PyProof.Rows L2
theorem Pl.calm {u : Tr} (h : Pl u) : (thF u).Nodup → Calm (waysT u) := by
  induction h with
  | leaf x => intro _; unfold waysT; exact calm_leaf x
  | side p q h1 h2 ih1 ih2 =>
    intro hn
    rw [thF_two] at hn
    have hn := List.nodup_append.mp hn
    rw [waysT_side]
    exact calm_side (ih1 hn.1) (ih2 hn.2.1) (waysT_in p) (waysT_in q) fun x h1 h2 => hn.2.2 x h1 x h2 rfl
  | row p q h1 h2 hl ih1 ih2 =>
    intro hn
    rw [thF_two] at hn
    have hn := List.nodup_append.mp hn
    rw [waysT_row]
    have s0 : ∀ w ∈ cross [[]] (waysT p), ∀ x ∈ w, x ∈ thF p := fun w hw x hx => by
      have := sub_cross (A := [[]]) (a := []) (fun w hw x hx => by rw [List.mem_singleton.mp hw] at hx; exact hx) (waysT_in p) w hw x hx
      simpa using this
    exact calm_cross (calm_cross calm_unit (ih1 hn.1) (a := []) (b := thF p) (fun w hw x hx => by rw [List.mem_singleton.mp hw] at hx; exact hx) (waysT_in p) fun x hx => by cases hx) (ih2 hn.2.1) s0 (waysT_in q) fun x h1 h2 => hn.2.2 x h1 x h2 rfl
section
variable {F : List (List Nat)} {T : List (List (Option Nat))} {n mt m : Nat} {u : Tr} {st : List Nat}
end
end L3

namespace L3
open PySem PySem.W PySem.Spec PyProof.Rows L2
theorem out_in (g : Nat → Nat) (w : List Nat) : outF (inF g w) w = g := by funext t; unfold outF inF; omega
theorem in_swap (g : Nat → Nat) (v w : List Nat) : inF (inF g v) w = inF (inF g w) v := by funext t; unfold inF; omega
theorem le_in (g : Nat → Nat) (w : List Nat) (t : Nat) : g t ≤ inF g w t := by unfold inF; omega
def Keeps (W : List (List Nat)) : Prop := ∀ (T : List (List (Option Nat))) (g : Nat → Nat) (v u : List Nat), RiseT T → Best T W g v → u ∈ W → ∀ x ∈ W, ∃ z ∈ W, leO (priceF T (inF g u) z) (priceF T (inF g v) x)
def Last (W : List (List Nat)) : Prop := ∀ (T : List (List (Option Nat))) (g : Nat → Nat) (w v v' : List Nat), RiseT T → v ∈ W → Best T W (inF g v) w → Best T W (inF g w) v' →
  Best T W (inF g v') w ∧ (leO (priceF T (inF g v') w) (priceF T (inF g v) w) ∨ leO (priceF T (inF g v') w) (priceF T (inF g w) v'))
def Lasts (W : List (List Nat)) : Prop := ∀ (T : List (List (Option Nat))) (g : Nat → Nat) (w v v' : List Nat), RiseT T → v ∈ W → Best T W (inF g v) w → Best T W (inF g w) v' → Best T W (inF g v') w
section
variable {T : List (List (Option Nat))} {W A B : List (List Nat)} {a b n : List Nat}
theorem off_in (sa : ∀ w ∈ A, ∀ x ∈ w, x ∈ a) (sb : ∀ w ∈ B, ∀ x ∈ w, x ∈ b) (hd : ∀ x ∈ a, x ∉ b) (g : Nat → Nat) {w x : List Nat} (hw : w ∈ A) (hx : x ∈ B) : priceF T (inF g w) x = priceF T g x := priceF_congr fun t ht => by
  unfold inF
  rw [if_neg fun q => hd t (sa w hw t q) (sb x hx t ht)]; omega
theorem off_in2 (sa : ∀ w ∈ A, ∀ x ∈ w, x ∈ a) (sb : ∀ w ∈ B, ∀ x ∈ w, x ∈ b) (hd : ∀ x ∈ a, x ∉ b) (g : Nat → Nat) {w x : List Nat} (hw : w ∈ B) (hx : x ∈ A) : priceF T (inF g w) x = priceF T g x := off_in sb sa (fun x h q => hd x q h) g hw hx
theorem keeps_leaf (k : Nat) : Keeps [[k]] := fun T g v u hR hv hu x hx => by
  have e1 := List.mem_singleton.mp hv.1
  have e2 := List.mem_singleton.mp hu
  rw [e1, e2]
  exact ⟨x, hx, leO_refl _⟩
theorem keeps_side (hA : Keeps A) (hB : Keeps B) (sa : ∀ w ∈ A, ∀ x ∈ w, x ∈ a) (sb : ∀ w ∈ B, ∀ x ∈ w, x ∈ b) (hd : ∀ x ∈ a, x ∉ b) : Keeps (A ++ B) := by
  have half : ∀ {A B : List (List Nat)} {a b : List Nat}, Keeps A → (∀ w ∈ A, ∀ x ∈ w, x ∈ a) → (∀ w ∈ B, ∀ x ∈ w, x ∈ b) → (∀ x ∈ a, x ∉ b) → ∀ (T : List (List (Option Nat))) (g : Nat → Nat) (v u : List Nat), RiseT T → v ∈ A → (priceF T g v).isSome = true → (∀ x, x ∈ A ∨ x ∈ B → leO (priceF T g v) (priceF T g x)) → (u ∈ A ∨ u ∈ B) →
      ∀ x, x ∈ A ∨ x ∈ B → ∃ z, (z ∈ A ∨ z ∈ B) ∧ leO (priceF T (inF g u) z) (priceF T (inF g v) x) := by
    intro A B a b hA sa sb hd T g v u hR hv hs hle hu x hx
    rcases hu with hu | hu
    · rcases hx with hx | hx
      · obtain ⟨z, hz, h⟩ := hA T g v u hR ⟨hv, hs, fun x hx => hle x (.inl hx)⟩ hu x hx
        exact ⟨z, .inl hz, h⟩
      · refine ⟨x, .inr hx, ?_⟩
        rw [off_in sa sb hd g hu hx, off_in sa sb hd g hv hx]
        exact leO_refl _
    · refine ⟨v, .inl hv, ?_⟩
      rw [off_in2 sa sb hd g hu hv]
      exact leO_trans (hle x hx) (priceF_mono hR fun t _ => le_in g v t)
  intro T g v u hR hv hu x hx
  rcases List.mem_append.mp hv.1 with hv1 | hv1
  · obtain ⟨z, hz, h⟩ := half hA sa sb hd T g v u hR hv1 hv.2.1 (fun x hx => hv.2.2 x (List.mem_append.mpr hx)) (List.mem_append.mp hu) x (List.mem_append.mp hx)
    exact ⟨z, List.mem_append.mpr hz, h⟩
  · obtain ⟨z, hz, h⟩ := half hB sb sa (fun x h q => hd x q h) T g v u hR hv1 hv.2.1 (fun x hx => hv.2.2 x (List.mem_append.mpr hx.symm)) (List.mem_append.mp hu).symm x (List.mem_append.mp hx).symm
    exact ⟨z, List.mem_append.mpr hz.symm, h⟩
theorem With.inN (h : With W B n b) (f : Nat → Nat) {v m : List Nat} (p : v.Perm (n ++ m)) : ∀ t ∈ n, inF f v t = f t + 1 := fun t ht => by
  unfold inF
  rw [if_pos (p.mem_iff.mpr (List.mem_append_left _ ht))]
theorem With.inM (h : With W B n b) (f : Nat → Nat) {v m x : List Nat} (hx : x ∈ B) (p : v.Perm (n ++ m)) : ∀ t ∈ x, inF f v t = inF f m t := fun t ht => by
  unfold inF
  have e : (t ∈ v) = (t ∈ m) := propext ⟨fun q => (List.mem_append.mp (p.mem_iff.mp q)).elim (fun q => absurd (h.sub x hx t ht) (h.ap t q)) id, fun q => p.mem_iff.mpr (List.mem_append_right _ q)⟩
  simp only [e]
theorem With.priceIn (h : With W B n b) (f : Nat → Nat) {v m u k : List Nat} (hk : k ∈ B) (pv : v.Perm (n ++ m)) (pu : u.Perm (n ++ k)) : priceF T (inF f v) u = addO (priceF T (fun t => f t + 1) n) (priceF T (inF f m) k) := by
  rw [h.price _ pu, priceF_congr (h.inN f pv), priceF_congr (h.inM f hk pv)]
theorem keeps_with (h : With W B n b) (hB : Keeps B) : Keeps W := fun T g v u hR hv hu x hx => by
  obtain ⟨m, hm, pm⟩ := h.to v hv.1
  obtain ⟨k, hk, pk⟩ := h.to u hu
  obtain ⟨y, hy, py⟩ := h.to x hx
  obtain ⟨z, hz, hle⟩ := hB T g m k hR (h.best hm pm hv).1 hk y hy
  obtain ⟨q, hq, pq⟩ := h.of z hz
  refine ⟨q, hq, ?_⟩
  rw [h.priceIn g hz pk pq, h.priceIn g hy pm py]
  exact leO_add (leO_refl _) hle
theorem mend_add (hM : Mend W) (hR : RiseT T) {g : Nat → Nat} {w v : List Nat} (hv : v ∈ W) (hb : Best T W (inF g v) w) (hle : ∀ x ∈ W, leO (priceF T (inF g v) w) (priceF T (inF g w) x)) : Best T W g w := by
  have e1 : outF (inF (inF g v) w) w = inF g v := out_in _ _
  have e2 : outF (inF (inF g v) w) v = inF g w := by rw [in_swap]; exact out_in _ _
  have h := hM T (inF (inF g v) w) w v hR hb.1 hv (by rw [e1]; exact hb) fun x hx => by rw [e1, e2]; exact hle x hx
  rw [e2, out_in] at h
  exact h
theorem calm_add (hC : Calm W) (hR : RiseT T) {g : Nat → Nat} {w v : List Nat} (hw : Best T W g w) (hv : Best T W (inF g w) v) : Best T W (inF g v) w ∧ leO (priceF T (inF g v) w) (priceF T (inF g w) v) := by
  have h := hC T (inF g w) w v hR (fun t ht => by unfold inF; rw [if_pos ht]; omega) (by rw [out_in]; exact hw) hv
  rw [in_swap, out_in] at h
  exact h
theorem last_leaf (k : Nat) : Last [[k]] := fun T g w v v' hR hv hw hv' => by
  have e1 := List.mem_singleton.mp hw.1
  have e2 := List.mem_singleton.mp hv
  have e3 := List.mem_singleton.mp hv'.1
  subst e1; subst e2; subst e3
  exact ⟨hw, .inl (leO_refl _)⟩
theorem last_with (h : With W B n b) (hB : Last B) : Last W := fun T g w v v' hR hv hw hv' => by
  obtain ⟨m, hm, pm⟩ := h.to w hw.1
  obtain ⟨k, hk, pk⟩ := h.to v hv
  obtain ⟨l, hl, pl⟩ := h.to v' hv'.1
  have b1 := h.best hm pm hw
  have b2 := h.best hl pl hv'
  have c1 : Best T B (inF g k) m := b1.1.fun_congr fun x hx t ht => h.inM g hx pk t ht
  have c2 : Best T B (inF g m) l := b2.1.fun_congr fun x hx t ht => h.inM g hx pm t ht
  obtain ⟨c3, c4⟩ := hB T g m k l hR hk c1 c2
  refine ⟨h.best' hw.1 pm (c3.fun_congr fun x hx t ht => (h.inM g hx pl t ht).symm) ?_, ?_⟩
  · have := b1.2
    rw [priceF_congr (h.inN g pk)] at this
    rw [priceF_congr (h.inN g pl)]; exact this
  · rw [h.priceIn g hm pl pm, h.priceIn g hm pk pm, h.priceIn g hl pm pl]
    exact c4.imp (leO_add (leO_refl _)) (leO_add (leO_refl _))
theorem last_side (hA : Last A) (hB : Last B) (mA : Mend A) (mB : Mend B) (cA : Calm A) (cB : Calm B) (kA : Keeps A) (kB : Keeps B) (sa : ∀ w ∈ A, ∀ x ∈ w, x ∈ a) (sb : ∀ w ∈ B, ∀ x ∈ w, x ∈ b) (hd : ∀ x ∈ a, x ∉ b) : Last (A ++ B) := by
  have half : ∀ {A B : List (List Nat)} {a b : List Nat}, Last A → Mend A → Calm B → Keeps A → (∀ w ∈ A, ∀ x ∈ w, x ∈ a) → (∀ w ∈ B, ∀ x ∈ w, x ∈ b) → (∀ x ∈ a, x ∉ b) → ∀ (T : List (List (Option Nat))) (g : Nat → Nat) (w v v' : List Nat), RiseT T → v ∈ A → (w ∈ A ∨ w ∈ B) → (v' ∈ A ∨ v' ∈ B) →
      (priceF T (inF g v) w).isSome = true → (priceF T (inF g w) v').isSome = true → (∀ x, x ∈ A ∨ x ∈ B → leO (priceF T (inF g v) w) (priceF T (inF g v) x)) → (∀ x, x ∈ A ∨ x ∈ B → leO (priceF T (inF g w) v') (priceF T (inF g w) x)) →
      (priceF T (inF g v') w).isSome = true ∧ (∀ x, x ∈ A ∨ x ∈ B → leO (priceF T (inF g v') w) (priceF T (inF g v') x)) ∧ (leO (priceF T (inF g v') w) (priceF T (inF g v) w) ∨ leO (priceF T (inF g v') w) (priceF T (inF g w) v')) := by
    intro A B a b lA mA cB kA sa sb hd T g w v v' hR hv hw hv' s1 s2 h1 h2
    have oA : ∀ {w x : List Nat} (g : Nat → Nat), w ∈ A → x ∈ B → priceF T (inF g w) x = priceF T g x := fun g hw hx => off_in sa sb hd g hw hx
    have oB : ∀ {w x : List Nat} (g : Nat → Nat), w ∈ B → x ∈ A → priceF T (inF g w) x = priceF T g x := fun g hw hx => off_in2 sa sb hd g hw hx
    have up : ∀ (x v : List Nat), leO (priceF T g x) (priceF T (inF g v) x) := fun x v => priceF_mono hR fun t _ => le_in g v t
    rcases hv' with hv' | hv'
    · rcases hw with hw | hw
      · -- all in A
        obtain ⟨c1, c2⟩ := lA T g w v v' hR hv ⟨hw, s1, fun x hx => h1 x (.inl hx)⟩ ⟨hv', s2, fun x hx => h2 x (.inl hx)⟩
        refine ⟨c1.2.1, fun x hx => ?_, c2⟩
        rcases hx with hx | hx
        · exact c1.2.2 x hx
        · rw [oA g hv' hx]
          rcases c2 with c2 | c2
          · have := h1 x (.inr hx)
            rw [oA g hv hx] at this
            exact leO_trans c2 this
          · have := h2 x (.inr hx)
            rw [oA g hw hx] at this
            exact leO_trans c2 this
      · -- w in B, the other one within A
        have e1 : priceF T (inF g v') w = priceF T g w := oA g hv' hw
        have e2 : priceF T (inF g v) w = priceF T g w := oA g hv hw
        rw [e2] at s1 h1
        refine ⟨by rw [e1]; exact s1, fun x hx => ?_, .inl (by rw [e1, e2]; exact leO_refl _)⟩
        rw [e1]
        rcases hx with hx | hx
        · have bv' : Best T A g v' := ⟨hv', by rw [← oB g hw hv']; exact s2, fun x hx => by
            have := h2 x (.inl hx)
            rw [oB g hw hv', oB g hw hx] at this
            exact this⟩
          obtain ⟨z, hz, hle⟩ := kA T g v' v hR bv' hv x hx
          exact leO_trans (h1 z (.inl hz)) hle
        · have := h1 x (.inr hx)
          rw [oA g hv hx] at this
          rw [oA g hv' hx]; exact this
    · rcases hw with hw | hw
      · -- w where the other one came from
        have e2 : priceF T (inF g w) v' = priceF T g v' := oA g hw hv'
        have hpq : ∀ x ∈ A, leO (priceF T (inF g v) w) (priceF T (inF g w) x) := fun x hx => by
          have q1 := h1 v' (.inr hv')
          rw [oA g hv hv', ← e2] at q1
          exact leO_trans q1 (h2 x (.inl hx))
        have c1 := mend_add mA hR hv ⟨hw, s1, fun x hx => h1 x (.inl hx)⟩ hpq
        have e3 : priceF T (inF g v') w = priceF T g w := oB g hv' hw
        refine ⟨by rw [e3]; exact c1.2.1, fun x hx => ?_, .inl (by rw [e3]; exact up w v)⟩
        rw [e3]
        rcases hx with hx | hx
        · rw [oB g hv' hx]; exact c1.2.2 x hx
        · have q1 := h1 x (.inr hx)
          rw [oA g hv hx] at q1
          exact leO_trans (leO_trans (up w v) q1) (up x v')
      · -- w where the other one goes
        have bw : Best T B g w := ⟨hw, by rw [← oA g hv hw]; exact s1, fun x hx => by
          have := h1 x (.inr hx)
          rw [oA g hv hw, oA g hv hx] at this
          exact this⟩
        obtain ⟨c1, c2⟩ := calm_add cB hR bw ⟨hv', s2, fun x hx => h2 x (.inr hx)⟩
        refine ⟨c1.2.1, fun x hx => ?_, .inr c2⟩
        rcases hx with hx | hx
        · have q := h2 x (.inl hx)
          rw [oB g hw hx] at q
          rw [oB g hv' hx]
          exact leO_trans c2 q
        · exact c1.2.2 x hx
  intro T g w v v' hR hv hw hv'
  rcases List.mem_append.mp hv with q | q
  · obtain ⟨c1, c2, c3⟩ := half hA mA cB kA sa sb hd T g w v v' hR q (List.mem_append.mp hw.1) (List.mem_append.mp hv'.1) hw.2.1 hv'.2.1 (fun x hx => hw.2.2 x (List.mem_append.mpr hx)) (fun x hx => hv'.2.2 x (List.mem_append.mpr hx))
    exact ⟨⟨hw.1, c1, fun x hx => c2 x (List.mem_append.mp hx)⟩, c3⟩
  · obtain ⟨c1, c2, c3⟩ := half hB mB cA kB sb sa (fun x h q => hd x q h) T g w v v' hR q (List.mem_append.mp hw.1).symm (List.mem_append.mp hv'.1).symm hw.2.1 hv'.2.1 (fun x hx => hw.2.2 x (List.mem_append.mpr hx.symm)) (fun x hx => hv'.2.2 x (List.mem_append.mpr hx.symm))
    exact ⟨⟨hw.1, c1, fun x hx => c2 x (List.mem_append.mp hx).symm⟩, c3⟩
theorem Pl.keeps {u : Tr} (h : Pl u) (hn : (thF u).Nodup) : Keeps (waysT u) :=
  h.ind keeps_leaf (fun _ _ _ _ h1 h2 h3 h4 h5 => keeps_side h1 h2 h3 h4 h5) (fun _ _ _ _ h1 h2 => keeps_with h1 h2) hn
end
theorem Pl.last {u : Tr} (h : Pl u) : (thF u).Nodup → Last (waysT u) := by
  induction h with
  | leaf x => intro _; unfold waysT; exact last_leaf x
  | side p q h1 h2 ih1 ih2 =>
    intro hn
    rw [thF_two] at hn
    have hn := List.nodup_append.mp hn
    rw [waysT_side]
    exact last_side (ih1 hn.1) (ih2 hn.2.1) (h1.mend hn.1) (h2.mend hn.2.1) (h1.calm hn.1) (h2.calm hn.2.1) (h1.keeps hn.1) (h2.keeps hn.2.1) (waysT_in p) (waysT_in q) fun x h1 h2 => hn.2.2 x h1 x h2 rfl
  | row p q h1 h2 hl ih1 ih2 =>
    intro hn
    rw [thF_two] at hn
    have hn := List.nodup_append.mp hn
    rw [waysT_row]
    obtain ⟨n, ⟨h, _⟩ | ⟨h, _⟩⟩ := with_row (waysT_in p) (waysT_in q) (fun x h1 h2 => hn.2.2 x h1 x h2 rfl) hl
    · exact last_with h (ih2 hn.2.1)
    · exact last_with h (ih1 hn.1)
theorem Lasts.congr {A B : List (List Nat)} (h : Lasts A) (e : ∀ w, w ∈ A ↔ w ∈ B) : Lasts B := fun T g w v v' hR hv hw hv' =>
  (h T g w v v' hR ((e v).mpr hv) (hw.mem_congr fun w => (e w).symm) (hv'.mem_congr fun w => (e w).symm)).mem_congr e
end L3

namespace L3
open PySem PySem.W PySem.Spec PyProof.Rows L2
theorem Mend.none : Mend [] := fun T f w v hR hw => by cases hw
theorem Keeps.none : Keeps [] := fun T g v u hR hv hu => by cases hu
theorem Last.none : Last [] := fun T g w v v' hR hv => by cases hv
theorem Keeps.congr {A B : List (List Nat)} (h : Keeps A) (e : ∀ w, w ∈ A ↔ w ∈ B) : Keeps B := fun T g v u hR hv hu x hx => by
  obtain ⟨z, hz, hle⟩ := h T g v u hR (hv.mem_congr fun w => (e w).symm) ((e u).mpr hu) x ((e x).mpr hx)
  exact ⟨z, (e z).mp hz, hle⟩
theorem Last.congr {A B : List (List Nat)} (h : Last A) (e : ∀ w, w ∈ A ↔ w ∈ B) : Last B := fun T g w v v' hR hv hw hv' => by
  obtain ⟨h1, h2⟩ := h T g w v v' hR ((e v).mpr hv) (hw.mem_congr fun w => (e w).symm) (hv'.mem_congr fun w => (e w).symm)
  exact ⟨h1.mem_congr e, h2⟩
theorem calm_with {W B : List (List Nat)} {n b : List Nat} (h : With W B n b) (hB : Calm B) : Calm W := fun T f w v hR hf hw hv => by
  obtain ⟨m, hm, pm⟩ := h.to w hw.1
  obtain ⟨k, hk, pk⟩ := h.to v hv.1
  have b1 := h.best hm pm hw
  have b2 := h.best hk pk hv
  have c1 : Best T B (outF f m) m := b1.1.fun_congr fun x hx t ht => h.outM f hx pm t ht
  obtain ⟨c2, c3⟩ := hB T f m k hR (fun t ht => hf t (pm.mem_iff.mpr (List.mem_append_right _ ht))) c1 b2.1
  have en : ∀ t ∈ n, outF (inF f v) w t = f t := fun t ht => by
    unfold outF inF
    rw [if_pos (pk.mem_iff.mpr (List.mem_append_left _ ht)), if_pos (pm.mem_iff.mpr (List.mem_append_left _ ht))]; omega
  have em : ∀ x ∈ B, ∀ t ∈ x, outF (inF f v) w t = outF (inF f k) m t := fun x hx t ht => by
    have e1 := h.inM f hx pk t ht
    have e2 := h.outM (inF f v) hx pm t ht
    rw [e2]
    unfold outF
    rw [e1]
  refine ⟨h.best' hw.1 pm (c2.fun_congr fun x hx t ht => (em x hx t ht).symm) ?_, ?_⟩
  · rw [priceF_congr en]; exact b2.2
  · rw [h.price _ pm, h.price _ pk, priceF_congr en, priceF_congr (em m hm)]
    exact leO_add (leO_refl _) c3
structure PW (W : List (List Nat)) : Prop where
  mend : Mend W
  calm : Calm W
  keeps : Keeps W
  last : Last W
theorem PW.congr {A B : List (List Nat)} (h : PW A) (e : ∀ w, w ∈ A ↔ w ∈ B) : PW B := ⟨h.mend.congr e, h.calm.perm e, h.keeps.congr e, h.last.congr e⟩
theorem pw_none : PW [] := ⟨.none, calm_none, .none, .none⟩
theorem pw_leaf (k : Nat) : PW [[k]] := ⟨mend_leaf k, calm_leaf k, keeps_leaf k, last_leaf k⟩
theorem pw_with {W B : List (List Nat)} {n b : List Nat} (h : With W B n b) (hB : PW B) : PW W := ⟨mend_with h hB.mend, calm_with h hB.calm, keeps_with h hB.keeps, last_with h hB.last⟩
theorem pw_side {A B : List (List Nat)} {a b : List Nat} (hA : PW A) (hB : PW B) (sa : ∀ w ∈ A, ∀ x ∈ w, x ∈ a) (sb : ∀ w ∈ B, ∀ x ∈ w, x ∈ b) (hd : ∀ x ∈ a, x ∉ b) : PW (A ++ B) :=
  ⟨mend_side hA.mend hB.mend sa sb hd, calm_side hA.calm hB.calm sa sb hd, keeps_side hA.keeps hB.keeps sa sb hd, last_side hA.last hB.last hA.mend hB.mend hA.calm hB.calm hA.keeps hB.keeps sa sb hd⟩
inductive PlT : Tr → Prop
  | leaf (x : Nat) : PlT (.leaf x)
  | side (ps : List Tr) : (∀ p ∈ ps, PlT p) → PlT (.node false ps)
  | row (ps qs : List Tr) (p : Tr) : ps.Perm (p :: qs) → PlT p → (∀ q ∈ qs, ∃ x, q = .leaf x) → PlT (.node true ps)
theorem with_leaf {J : List (List Nat)} {b : List Nat} {x : Nat} (sb : ∀ w ∈ J, ∀ y ∈ w, y ∈ b) (hx : x ∉ b) : With (cross J [[x]]) J [x] b where
  to := fun v hv => by
    obtain ⟨w, hw, m, hm, rfl⟩ := cross_mem.mp hv
    rw [List.mem_singleton.mp hm]
    exact ⟨w, hw, (srtN_perm _).trans List.perm_append_comm⟩
  of := fun m hm => ⟨_, cross_mem.mpr ⟨m, hm, [x], by simp, rfl⟩, (srtN_perm _).trans List.perm_append_comm⟩
  sub := sb
  ap := fun y hy => by rw [List.mem_singleton.mp hy]; exact hx
theorem with_unit {A : List (List Nat)} {a : List Nat} (sa : ∀ w ∈ A, ∀ x ∈ w, x ∈ a) : With (cross [[]] A) A [] a where
  to := fun v hv => by
    obtain ⟨w, hw, m, hm, rfl⟩ := cross_mem.mp hv
    rw [List.mem_singleton.mp hw]
    exact ⟨m, hm, srtN_perm _⟩
  of := fun m hm => ⟨_, cross_mem.mpr ⟨[], by simp, m, hm, rfl⟩, srtN_perm _⟩
  sub := sa
  ap := fun y hy => by cases hy
theorem pw_leaves : ∀ (qs : List Tr) (J : List (List Nat)) (b : List Nat), PW J → (∀ w ∈ J, ∀ x ∈ w, x ∈ b) → (∀ q ∈ qs, ∃ x, q = .leaf x) → (b ++ thFs qs).Nodup → PW ((qs.map waysT).foldl cross J)
  | [], J, b, hJ, _, _, _ => hJ
  | q :: qs, J, b, hJ, sb, hq, hn => by
    obtain ⟨x, rfl⟩ := hq q List.mem_cons_self
    rw [thFs_cons] at hn
    have e1 : thF (.leaf x) = [x] := by unfold thF; rfl
    have e2 : waysT (.leaf x) = [[x]] := by unfold waysT; rfl
    rw [e1] at hn
    have hx : x ∉ b := fun h => (List.nodup_append.mp hn).2.2 x h x (by simp) rfl
    rw [List.map_cons, List.foldl_cons, e2]
    refine pw_leaves qs _ (b ++ [x]) (pw_with (with_leaf sb hx) hJ) (fun v hv y hy => ?_) (fun q h => hq q (List.mem_cons_of_mem _ h)) (by rw [List.append_assoc]; exact hn)
    obtain ⟨w, hw, m, hm, rfl⟩ := cross_mem.mp hv
    rw [List.mem_singleton.mp hm] at hy
    rcases List.mem_append.mp (srtN_mem.mp hy) with h | h
    · exact List.mem_append_left _ (sb w hw y h)
    · exact List.mem_append_right _ h
theorem pw_flat : ∀ ps : List Tr, (thFs ps).Nodup → (∀ p ∈ ps, (thF p).Nodup → PW (waysT p)) → PW (waysTs ps).flatten
  | [], _, _ => by unfold waysTs; exact pw_none
  | p :: ps, hn, h => by
    rw [thFs_cons] at hn
    have hn := List.nodup_append.mp hn
    unfold waysTs
    rw [List.flatten_cons]
    refine pw_side (b := thFs ps) (h p List.mem_cons_self hn.1) (pw_flat ps hn.2.1 fun q hq => h q (List.mem_cons_of_mem _ hq)) (waysT_in p) (fun w hw x hx => ?_) fun x h1 h2 => hn.2.2 x h1 x h2 rfl
    obtain ⟨W, hW, hw⟩ := List.mem_flatten.mp hw
    exact waysT_inf ps W hW w hw x hx
theorem PlT.pw {u : Tr} (h : PlT u) : (thF u).Nodup → PW (waysT u) := by
  induction h with
  | leaf x => intro _; unfold waysT; exact pw_leaf x
  | side ps hp ih =>
    intro hn
    rw [thF_node] at hn
    unfold waysT
    exact pw_flat ps hn ih
  | row ps qs p hperm hp hq ih =>
    intro hn
    rw [thF_node, thFs_flat] at hn
    have hn2 : ((p :: qs).flatMap thF).Nodup := (hperm.flatMap_right thF).nodup_iff.mp hn
    rw [List.flatMap_cons] at hn2
    have hn3 := List.nodup_append.mp hn2
    unfold waysT
    rw [waysTs_map]
    refine PW.congr (A := crossAll ((p :: qs).map waysT)) ?_ fun w => (crossAll_perm (hperm.map waysT) w).symm
    show PW ((qs.map waysT).foldl cross (cross [[]] (waysT p)))
    refine pw_leaves qs _ (thF p) (pw_with (with_unit (waysT_in p)) (ih hn3.1)) (fun v hv x hx => ?_) hq (by rw [thFs_flat]; exact hn2)
    obtain ⟨w, hw, m, hm, rfl⟩ := cross_mem.mp hv
    rw [List.mem_singleton.mp hw] at hx
    exact waysT_in p m hm x (srtN_mem.mp hx)
section
variable {F : List (List Nat)} {T : List (List (Option Nat))} {n : Nat} {st : List Nat} {c d j : Nat}
end
end L3

namespace L3
open PySem PySem.W PySem.Spec PyProof.Rows L2
end L3

namespace L3
open PySem PySem.W PySem.Spec PyProof.Rows L2
section
variable {F : List (List Nat)} {T : List (List (Option Nat))} {n : Nat} {st : List Nat} {c d g j : Nat}
end
section
variable {F : List (List Nat)} {T : List (List (Option Nat))} {n : Nat} {st : List Nat} {c d g j : Nat}
end
end L3
namespace L3
open PySem PySem.W PySem.Spec PyProof.Rows L2
end L3

namespace L3
open PySem PySem.W PySem.Spec PyProof.Rows L2
section
variable {F : List (List Nat)} {T : List (List (Option Nat))} {n mt : Nat}
end
end L3

namespace L3
open PySem PySem.W PySem.Spec PyProof.Rows L2
@[simp] theorem ndLe_tN {a b : List Nat} : nd2 pLe (tN a) (tN b) = some (leW a b) := by
  unfold nd2
  rw [if_pos (by rw [noDict_tN, noDict_tN]; rfl)]
  show (if ordOk (tN a) (tN b) then some (!dataLt (tN b) (tN a)) else none) = _
  rw [if_pos]
  · rfl
  · unfold ordOk
    rw [alike_tN, depth_tN]; rfl
theorem diffI_eq {ns l : List Int} (hn : l.Nodup) (hm : ∀ x, x ∈ l ↔ x ∈ ns) : diffI ns = l.length := by
  unfold diffI
  exact (List.perm_ext_iff_of_nodup (first_nodup (fun i => ns.getD i 0) ns.length) hn).mpr (fun x => by rw [mem_first, hm]) |>.length_eq
theorem diffI_nat {ns l : List Nat} (hn : l.Nodup) (hm : ∀ x, x ∈ l ↔ x ∈ ns) : diffI (ns.map fun (x : Nat) => (x : Int)) = l.length := by
  rw [diffI_eq (l := l.map fun (x : Nat) => (x : Int)), List.length_map]
  · exact List.Pairwise.map _ (fun a b h e => h (Int.ofNat.inj e)) hn
  · intro x
    rw [List.mem_map, List.mem_map]
    constructor
    · rintro ⟨a, ha, rfl⟩; exact ⟨a, (hm a).mp ha, rfl⟩
    · rintro ⟨a, ha, rfl⟩; exact ⟨a, (hm a).mpr ha, rfl⟩
end L3

namespace L3
open PySem PySem.W PySem.Spec PyProof.Rows L2
inductive Kw | side | row | both deriving DecidableEq
def Kw.d : Kw → D
  | .side => .str "side"
  | .row => .str "row"
  | .both => .str "both"
inductive Hd1 : D → Prop
  | kw (k : Kw) : Hd1 k.d
  | int (i : Int) : Hd1 (.int i)
inductive VT : Bool → D → Prop
  | none (p : Bool) : VT p .none
  | bool (p b : Bool) : VT p (.bool b)
  | int (p : Bool) (i : Int) : VT p (.int i)
  | kw (p : Bool) (k : Kw) : VT p k.d
  | lst (p : Bool) (ds : List D) : VT p (.list ds)
  | tup (ds : List D) : (∀ a b, ds = [a, b] → Hd1 a) → (∀ a b, ds = [a, b] → VT true b) → VT false (.tuple ds)
  | parts (ps : List D) : (∀ d ∈ ps, VT false d) → ps.length ≤ 1000 → VT true (.tuple ps)
def isThing : D → Bool
  | .int i => decide (0 ≤ i) && decide (i ≤ 11)
  | _ => false
def isKw (d : D) : Bool := match d with
  | .str x => decide (x = "side") || decide (x = "row")
  | _ => false
def partsV : D → List D
  | .tuple [_, .tuple ps] => ps
  | _ => []
def isPair : D → Bool
  | .tuple [a, .tuple ps] => isKw a && decide (1 < ps.length)
  | _ => false
def isNodeB (d : D) : Bool := isThing d || isPair d
def thingV (d : D) : Nat := match d with
  | .int i => i.toNat
  | _ => 0
def thingsV (lv : List D) : List Nat := (lv.filter isThing).map thingV
def deepV (lv : List D) : List D := lv.flatMap fun d => if isThing d then [] else partsV d
def walkT : Nat → List D → List Nat → Option (List Nat)
  | 0, lv, f => if lv = [] then some f else none
  | n + 1, lv, f => if lv.all isNodeB then (if 24 < (f ++ thingsV lv).length + (deepV lv).length then none else walkT n (deepV lv) (f ++ thingsV lv)) else none
def faultR (v : D) : Option Int := match walkT 12 [v] [] with
  | none => some (-1)
  | some f => if (joinedN [f]).length < f.length then some (-2) else if joinedN [f] = List.range (joinedN [f]).length then none else some (-3)
theorem walk_succ (n : Nat) (lv : List D) (f : List Nat) : walkT (n + 1) lv f = if lv.all isNodeB then (if 24 < (f ++ thingsV lv).length + (deepV lv).length then none else walkT n (deepV lv) (f ++ thingsV lv)) else none := rfl
theorem things_nD : ∀ (lv : List D), lv.filter isThing = (thingsV lv).map nD
  | [] => rfl
  | d :: lv => by
    have ih := things_nD lv
    unfold thingsV at ih ⊢
    rw [List.filter_cons]
    split
    · rename_i h
      rw [List.map_cons, List.map_cons, ← ih]
      congr 1
      cases d with
      | int i =>
        simp only [isThing, Bool.and_eq_true, decide_eq_true_eq] at h
        show PyData.int i = PyData.int ((i.toNat : Nat) : Int)
        congr 1
        omega
      | _ => cases h
    · exact ih
theorem deep_len {lv : List D} (h : ∀ d ∈ lv, (partsV d).length ≤ 1000) : (deepV lv).length ≤ 1000 * lv.length := by
  induction lv with
  | nil => simp [deepV]
  | cons d lv ih =>
    have h1 := h d (by simp)
    have h2 := ih fun e he => h e (by simp [he])
    unfold deepV at h2 ⊢
    rw [List.flatMap_cons, List.length_append, List.length_cons]
    have : (if isThing d = true then [] else partsV d).length ≤ 1000 := by split <;> simp [h1]
    omega
theorem deep_snoc {lv : List D} {j : Nat} {d : D} (h : lv[j]? = some d) : deepV (lv.take (j + 1)) = deepV (lv.take j) ++ if isThing d then [] else partsV d := by
  unfold deepV
  rw [List.take_add_one, h, List.flatMap_append]
  simp
theorem walk_nil {n : Nat} {f : List Nat} (h : f.length ≤ 24) : walkT n [] f = some f := by
  induction n with
  | zero => rfl
  | succ n ih =>
    unfold walkT
    rw [if_pos (by rfl), if_neg (by simp [thingsV, deepV]; omega)]
    simpa [thingsV, deepV] using ih
theorem nodup_of_len : ∀ {l f : List Nat}, l.Nodup → (∀ x ∈ l, x ∈ f) → f.length ≤ l.length → f.Nodup
  | [], f, _, _, h => by
    have : f = [] := List.length_eq_zero_iff.mp (by simpa using h)
    rw [this]; exact List.nodup_nil
  | a :: l, f, hn, hs, h => by
    have ha := hs a (by simp)
    obtain ⟨h1, h2⟩ := List.nodup_cons.mp hn
    have p := List.perm_cons_erase ha
    have hl := p.length_eq
    simp only [List.length_cons] at hl h
    have hsub : ∀ x ∈ l, x ∈ f.erase a := fun x hx => by
      rcases List.mem_cons.mp (p.mem_iff.mp (hs x (by simp [hx]))) with e | e
      · rw [e] at hx; exact absurd hx h1
      · exact e
    have ih := nodup_of_len h2 hsub (by omega)
    rw [p.nodup_iff]
    refine List.nodup_cons.mpr ⟨fun hc => ?_, ih⟩
    have := nodup_sub_len (a := a :: l) (b := f.erase a) hn fun x hx => (List.mem_cons.mp hx).elim (fun e => by rw [e]; exact hc) (hsub x)
    simp only [List.length_cons] at this
    omega
theorem pair_of {d : D} (h : isPair d = true) : ∃ a ps, d = .tuple [a, .tuple ps] ∧ isKw a = true ∧ 1 < ps.length := by
  unfold isPair at h
  split at h
  · rw [Bool.and_eq_true, decide_eq_true_eq] at h
    exact ⟨_, _, rfl, h⟩
  · cases h
theorem parts_mem {d e : D} (h : e ∈ partsV d) : ∃ a ps, d = .tuple [a, .tuple ps] ∧ e ∈ ps := by
  unfold partsV at h
  split at h
  · exact ⟨_, _, rfl, h⟩
  · cases h
theorem vt_tup {ds : List D} (h : VT false (.tuple ds)) : (∀ a b, ds = [a, b] → Hd1 a) ∧ ∀ a b, ds = [a, b] → VT true b := by
  generalize hq : PyData.tuple ds = q at h
  cases h with
  | tup _ h1 h2 => cases hq; exact ⟨h1, h2⟩
  | kw _ k => cases k <;> cases hq
  | _ => cases hq
theorem vt_ps {ds : List D} (h : VT true (.tuple ds)) : (∀ d ∈ ds, VT false d) ∧ ds.length ≤ 1000 := by
  generalize hq : PyData.tuple ds = q at h
  cases h with
  | parts _ h1 h2 => cases hq; exact ⟨h1, h2⟩
  | kw _ k => cases k <;> cases hq
  | _ => cases hq
theorem deep_vt {lv : List D} (hv : ∀ d ∈ lv, VT false d) : ∀ e ∈ deepV lv, VT false e := fun e he => by
  obtain ⟨d, hd, he⟩ := List.mem_flatMap.mp he
  split at he
  · cases he
  · obtain ⟨a, ps, rfl, he⟩ := parts_mem he
    exact (vt_ps ((vt_tup (hv _ hd)).2 _ _ rfl)).1 e he
theorem walk_okd : ∀ {n : Nat} {lv : List D} {f g : List Nat}, (∀ d ∈ lv, VT false d) → walkT (n + 1) lv f = some g → ∀ d ∈ lv, Okd (2 * n) d
  | 0, lv, f, g, hv, h, d, hd => by
    unfold walkT at h
    split at h
    · rename_i hn
      split at h
      · cases h
      · unfold walkT at h
        split at h
        · rename_i hdeep
          have := List.all_eq_true.mp hn d hd
          unfold isNodeB at this
          cases hx : isThing d with
          | true =>
            cases d with
            | int i => exact .int _ _
            | _ => cases hx
          | false =>
            rw [hx] at this
            have hp : isPair d = true := this
            have : partsV d = [] := by
              cases e : partsV d with
              | nil => rfl
              | cons a b =>
                have : a ∈ deepV lv := List.mem_flatMap.mpr ⟨d, hd, by rw [hx, e]; simp⟩
                rw [hdeep] at this
                cases this
            exfalso
            obtain ⟨a, ps, rfl, _, hl⟩ := pair_of hp
            have e : partsV (.tuple [a, .tuple ps]) = ps := rfl
            rw [e] at this
            subst this
            simp at hl
        · cases h
    · cases h
  | n + 1, lv, f, g, hv, h, d, hd => by
    unfold walkT at h
    split at h
    · rename_i hn
      split at h
      · cases h
      · have deepv := deep_vt hv
        have ih := walk_okd (n := n) deepv h
        have := List.all_eq_true.mp hn d hd
        unfold isNodeB at this
        cases hx : isThing d with
        | true =>
          cases d with
          | int i => exact .int _ _
          | _ => cases hx
        | false =>
          rw [hx] at this
          have hp : isPair d = true := this
          obtain ⟨a, ps, rfl, _, hl⟩ := pair_of hp
          have hsub : ∀ e ∈ ps, Okd (2 * n) e := fun e he => ih e (List.mem_flatMap.mpr ⟨_, hd, by rw [hx]; exact he⟩)
          rw [show 2 * (n + 1) = 2 * n + 1 + 1 from by omega]
          refine .tup _ _ fun e he => ?_
          simp at he
          rcases he with rfl | rfl
          · cases (vt_tup (hv _ hd)).1 _ _ rfl with
            | kw k => cases k <;> exact .str _ _ (by decide +kernel)
            | int i => exact .int _ _
          · exact .tup _ _ hsub
    · cases h
theorem joined_full {f : List Nat} (h : ¬ (joinedN [f]).length < f.length) : joinedN [f] = srtN f := by
  have hm : ∀ x, x ∈ joinedN [f] ↔ x ∈ f := fun x => by rw [joinedN_mem]; simp
  have hn : f.Nodup := by
    have h1 := joinedN_nodup [f]
    have h2 : (joinedN [f]).length ≤ f.length := nodup_sub_len h1 fun x hx => (hm x).mp hx
    exact nodup_of_len h1 (fun x hx => (hm x).mp hx) (by omega)
  have p : (joinedN [f]).Perm f := (List.perm_ext_iff_of_nodup (joinedN_nodup [f]) hn).mpr hm
  have h1 : (joinedN [f]).Pairwise fun a b => a ≤ b := srtN_sorted _
  exact List.Perm.eq_of_pairwise (le := fun x y => x ≤ y) (fun x y _ _ a b => Nat.le_antisymm a b) h1 (srtN_sorted f) (p.trans (srtN_perm f).symm)
theorem vt_parts {d : D} (h : VT false d) : (partsV d).length ≤ 1000 := by
  cases e : partsV d with
  | nil => simp
  | cons a l =>
    obtain ⟨b, ps, rfl, _⟩ := parts_mem (d := d) (e := a) (by rw [e]; simp)
    have := (vt_ps ((vt_tup h).2 _ _ rfl)).2
    have e2 : partsV (.tuple [b, .tuple ps]) = ps := rfl
    rw [← e, e2]; exact this
structure SmN (k : Nat) (d : D) : Prop where
  nd : noDict d = true
  lay : d.canLay0 = true
  dep : d.depth ≤ k
theorem sm_mono {k m : Nat} {d : D} (h : SmN k d) (hm : k ≤ m) : SmN m d := ⟨h.nd, h.lay, Nat.le_trans h.dep hm⟩
theorem sm_all : ∀ {ds : List D} {k : Nat}, (∀ d ∈ ds, SmN k d) → noDictAll ds = true ∧ PyData.canLayAll0 ds = true ∧ PyData.depthAll ds ≤ k
  | [], _, _ => ⟨rfl, by simp [PyData.canLayAll0], Nat.zero_le _⟩
  | d :: ds, k, h => by
    obtain ⟨h1, h2, h3⟩ := sm_all (ds := ds) fun e he => h e (by simp [he])
    have h4 := h d (by simp)
    refine ⟨?_, ?_, ?_⟩
    · show (noDict d && noDictAll ds) = true
      rw [h4.nd, h1]; rfl
    · rw [PyData.canLayAll0, h4.lay, h2]; rfl
    · show max d.depth (PyData.depthAll ds) ≤ k
      have := h4.dep
      omega
theorem sm_of_all : ∀ {ds : List D} {k : Nat}, noDictAll ds = true → PyData.canLayAll0 ds = true → PyData.depthAll ds ≤ k → ∀ d ∈ ds, SmN k d
  | [], _, _, _, _, _, h => by cases h
  | d :: ds, k, h1, h2, h3, e, he => by
    have h1 : (noDict d && noDictAll ds) = true := h1
    rw [PyData.canLayAll0] at h2
    have h3 : max d.depth (PyData.depthAll ds) ≤ k := h3
    rw [Bool.and_eq_true] at h1 h2
    rcases List.mem_cons.mp he with rfl | he
    · exact ⟨h1.1, h2.1, by omega⟩
    · exact sm_of_all h1.2 h2.2 (by omega) e he
theorem sm_tup {ds : List D} {k : Nat} (h : ∀ d ∈ ds, SmN k d) : SmN (k + 1) (.tuple ds) := by
  obtain ⟨h1, h2, h3⟩ := sm_all h
  exact ⟨h1, by rw [PyData.canLay0]; exact h2, by show PyData.depthAll ds + 1 ≤ k + 1; omega⟩
theorem sm_lst {ds : List D} {k : Nat} (h : ∀ d ∈ ds, SmN k d) : SmN (k + 1) (.list ds) := by
  obtain ⟨h1, h2, h3⟩ := sm_all h
  exact ⟨h1, by rw [PyData.canLay0]; exact h2, by show PyData.depthAll ds + 1 ≤ k + 1; omega⟩
theorem sm_of_tup {ds : List D} {k : Nat} (h : SmN k (.tuple ds)) : ∀ d ∈ ds, SmN k d := by
  have h2 := h.lay
  rw [PyData.canLay0] at h2
  have h3 : PyData.depthAll ds + 1 ≤ k := h.dep
  exact sm_of_all h.nd h2 (by omega)
theorem sm_int (i : Int) (k : Nat) : SmN k (.int i) := ⟨rfl, by rw [PyData.canLay0], Nat.zero_le _⟩
theorem sm_bool (i : Bool) (k : Nat) : SmN k (.bool i) := ⟨rfl, by rw [PyData.canLay0], Nat.zero_le _⟩
theorem sm_none (k : Nat) : SmN k .none := ⟨rfl, by rw [PyData.canLay0], Nat.zero_le _⟩
theorem sm_kw (w : Kw) (k : Nat) : SmN k w.d := ⟨by cases w <;> rfl, by cases w <;> (show PyData.canLay0 (.str _) = true; rw [PyData.canLay0]; first | rfl | decide +kernel), by cases w <;> exact Nat.zero_le _⟩
theorem deep_sm {lv : List D} {k : Nat} (hv : ∀ d ∈ lv, SmN k d) : ∀ e ∈ deepV lv, SmN k e := fun e he => by
  obtain ⟨d, hd, he⟩ := List.mem_flatMap.mp he
  split at he
  · cases he
  · obtain ⟨a, ps, rfl, he⟩ := parts_mem he
    exact sm_of_tup (sm_of_tup (hv _ hd) (.tuple ps) (by simp)) e he
theorem nil_eq {lv : List D} (hv : ∀ d ∈ lv, SmN 50 d) : nd2 pEq (.list lv) (.list []) = some lv.isEmpty := by
  obtain ⟨h1, h2, h3⟩ := sm_all hv
  exact ndEq_any h1 h2 (by omega)
def VS (k : Nat) (d : D) : Prop := VT false d ∧ SmN k d
theorem walk_len : ∀ {n : Nat} {lv : List D} {f g : List Nat}, walkT n lv f = some g → f.length ≤ 24 → g.length ≤ 24
  | 0, lv, f, g, h, hf => by
    unfold walkT at h
    split at h
    · cases h; exact hf
    · cases h
  | n + 1, lv, f, g, h, hf => by
    rw [walk_succ] at h
    split at h
    · split at h
      · cases h
      · exact walk_len h (by rename_i h2; omega)
    · cases h
theorem wpx_nil {s : S} {Q : Fl → S → Prop} {E : Str → D → S → Prop} (h : Q .nx s) : WpX (sNil s) Q E := h
end L3

namespace Law
open PySem PySem.W PySem.Spec PyProof.Rows L2 L3
def top (i : Nat) : Stmt := PySem.Challenge.pw_newestpays_k12_terms_and_what_is_none.main.body.getD i (.Pass ⟨0, 0, 0, 0⟩)
structure Txt (K : PySem.W.Frag) (mg : Str → Option Value) : Prop where
  ValueError : mg "ValueError" = none
  abs : mg "abs" = none
  all : mg "all" = none
  bool : mg "bool" = none
  enumerate : mg "enumerate" = none
  int : mg "int" = none
  isinstance : mg "isinstance" = none
  len : mg "len" = none
  list : mg "list" = none
  max : mg "max" = none
  min : mg "min" = none
  range : mg "range" = none
  set : mg "set" = none
  sorted : mg "sorted" = none
  str : mg "str" = none
  tuple : mg "tuple" = none
  zip : mg "zip" = none
  c_MOST_DEPTH : ∃ u, mg "MOST_DEPTH" = some u ∧ RelV (.int 12) u
  c_MOST_THINGS : ∃ u, mg "MOST_THINGS" = some u ∧ RelV (.int 12) u
  c_ROW : ∃ u, mg "ROW" = some u ∧ RelV (.str "row") u
  c_SIDE : ∃ u, mg "SIDE" = some u ∧ RelV (.str "side") u
abbrev si_BadTerm : Stmt := match top 3 with | .ClassDef _ _ _ body _ _ _ _ _ _ _ => body.getD 0 (.Pass ⟨0, 0, 0, 0⟩) | s => s
/-! ### each def as it computes -/
abbrev s_is_int : Stmt := top 16
def b_is_int : M Fl :=
  sRet (vAnd (frz (eIsi (.var 0) "int")) (vNot (frz (eIsi (.var 0) "bool"))))
def g_is_int : Fn := runF false 1 b_is_int
abbrev s_is_number : Stmt := top 17
def b_is_number : M Fl :=
  sRet (vAnd (frz (eCall g_is_int [frz (eVar 0)] [])) (vAnd (frz (e2 (.var 0) (.var 1) (bO (nd2 pGe)))) (vOr (frz (e2 (.var 2) (.ex (frz (eC .none))) (bO pIsN))) (e2 (.var 0) (.var 2) (bO (nd2 pLe))))))
def g_is_number : Fn := runF false 3 b_is_number
abbrev s_is_tuple : Stmt := top 18
def b_is_tuple : M Fl :=
  sRet (vAnd (frz (eIsi (.var 0) "tuple")) (vOr (frz (e2 (.var 1) (.ex (frz (eC .none))) (bO pIsN))) (e2 (.ex (frz (eP [.var 0] pLen))) (.var 1) (bO (nd2 pEq)))))
def g_is_tuple : Fn := runF false 2 b_is_tuple
abbrev s_joined_lots : Stmt := top 19
def b_joined_lots : M Fl :=
  sSeq (sSet 1 (eNewD))
    (sSeq (sFor (iVal (frz (eVar 0))) (gN 2) (sFor (iVal (frz (eVar 2))) (gN 3) (sDPut 1 (frz (eC (.bool true))) (frz (eVar 3)))))
    (sRet (eP [.ex (frz (eP [.ex (frz (eDList 1))] pSorted))] pTupleOf)))
def g_joined_lots : Fn := runF false 4 b_joined_lots
abbrev s_is_node : Stmt := top 21
def b_is_node : M Fl :=
  sSeq (sIf (tB (frz (eCall g_is_number [frz (eVar 0), frz (eC (.int 0)), frz (e2 (.ex (frz (eC (.int 12)))) (.ex (frz (eC (.int 1)))) pSub)] []))) (sRet (eC (.bool true))) (sNil))
    (sRet (vAnd (frz (eCall g_is_tuple [frz (eVar 0), frz (eC (.int 2))] [])) (vAnd (frz (e2 (.ex (frz (e2 (.var 0) (.ex (frz (eC (.int 0)))) pIx))) (.ex (frz (eTup [frz (eC (.str "side")), frz (eC (.str "row"))]))) (bO (nd2 pIn)))) (vAnd (frz (eIsi (.ex (frz (e2 (.var 0) (.ex (frz (eC (.int 1)))) pIx))) "tuple")) (e2 (.ex (frz (eP [.ex (frz (e2 (.var 0) (.ex (frz (eC (.int 1)))) pIx))] pLen))) (.ex (frz (eC (.int 1)))) (bO (nd2 pGt)))))))
def g_is_node : Fn := runF false 1 b_is_node
abbrev s_things_told : Stmt := top 22
def b_things_told : M Fl :=
  sSeq (sPar [1, 2] [eLst [frz (eVar 0)], eLst []])
    (sSeq (sFor (evs [frz (eC (.int 12))] rng1) (gN 3) (sSeq (sIf (tNot (tB (frz (eP [.ex (frz (eComp (iVal (frz (eVar 1))) [4] (gN 4) (mret true) (frz (eCall g_is_node [frz (eVar 4)] []))))] pAll)))) (sRet (eC .none)) (sNil))
    (sSeq (sDrop (eM 2 [frz (eComp (iVal (frz (eVar 1))) [4] (gN 4) (tB (frz (eCall g_is_number [frz (eVar 4)] [.int 0, .none]))) (frz (eVar 4)))] mExtend))
    (sSeq (sSet 5 (eLst []))
    (sSeq (sFor (iVal (frz (eVar 1))) (gN 4) (sIf (tNot (tB (frz (eCall g_is_number [frz (eVar 4)] [.int 0, .none])))) (sDrop (eM 5 [frz (eP [.ex (frz (e2 (.var 4) (.ex (frz (eC (.int 1)))) pIx))] pListOf)] mExtend)) (sNil)))
    (sSeq (sSet 1 (eVar 5))
    (sIf (t2 (.ex (frz (e2 (.ex (frz (eP [.var 2] pLen))) (.ex (frz (eP [.var 1] pLen))) pAdd))) (.ex (frz (e2 (.ex (frz (eC (.int 2)))) (.ex (frz (eC (.int 12)))) pMulT))) (nd2 pGt)) (sRet (eC .none)) (sNil))))))))
    (sRet (eIf (t2 (.ex (frz (eP [.var 1] pLen))) (.ex (frz (eC (.int 0)))) (nd2 pEq)) (eVar 2) (eC .none))))
def g_things_told : Fn := runF false 6 b_things_told
abbrev s_check_term : Stmt := top 23
def b_check_term : M Fl :=
  sSeq (sSet 1 (eCall g_things_told [frz (eVar 0)] []))
    (sSeq (sIf (t2 (.var 1) (.ex (frz (eC .none))) pIsN) (sHalt) (sNil))
    (sSeq (sSet 2 (eCall g_joined_lots [frz (eLst [frz (eP [.var 1] pTupleOf)])] []))
    (sSeq (sIf (t2 (.ex (frz (eP [.var 2] pLen))) (.ex (frz (eP [.var 1] pLen))) (nd2 pLt)) (sHalt) (sNil))
    (sSeq (sIf (t2 (.var 2) (.ex (frz (eTRange [frz (eP [.var 2] pLen)] rg1))) (nd2 pNe)) (sHalt) (sNil))
    (sRet (eMove 0))))))
def g_check_term : Fn := runF false 3 b_check_term
abbrev s_check_term__X : Stmt := top 23
def b_check_term__X : M Fl :=
  sSeq (sSet 1 (eCall g_things_told [frz (eVar 0)] []))
    (sSeq (sIf (t2 (.var 1) (.ex (frz (eC .none))) pIsN) (sRaise "BadTerm" (frz (e1 (.ex (frz (eC (.int 1)))) pNeg))) (sNil))
    (sSeq (sSet 2 (eCall g_joined_lots [frz (eLst [frz (eP [.var 1] pTupleOf)])] []))
    (sSeq (sIf (t2 (.ex (frz (eP [.var 2] pLen))) (.ex (frz (eP [.var 1] pLen))) (nd2 pLt)) (sRaise "BadTerm" (frz (e1 (.ex (frz (eC (.int 2)))) pNeg))) (sNil))
    (sSeq (sIf (t2 (.var 2) (.ex (frz (eTRange [frz (eP [.var 2] pLen)] rg1))) (nd2 pNe)) (sRaise "BadTerm" (frz (e1 (.ex (frz (eC (.int 3)))) pNeg))) (sNil))
    (sRet (eMove 0))))))
def g_check_term__X : Fn := runF false 3 b_check_term__X
abbrev s__law_box : Stmt := top 25
def b__law_box : M Fl :=
  sSeq (sSet 2 (e2 (.ex (frz (e2 (.ex (frz (eC (.int 7919)))) (.var 1) pMulT))) (.ex (frz (eC (.int 3067)))) pAdd))
    (sSeq (sIf (t2 (.var 1) (.ex (frz (eP [.var 0] pLen))) (nd2 pLt)) (sSet 2 (eP [.ex (frz (eP [.ex (frz (e2 (.var 0) (.var 1) pIx))] pInt))] pAbs)) (sIf (t2 (.ex (frz (eP [.var 0] pLen))) (.ex (frz (eC (.int 0)))) (nd2 pGt)) (sSet 2 (e2 (.var 2) (.ex (frz (e2 (.ex (frz (e2 (.ex (frz (eP [.ex (frz (eP [.ex (frz (eP [.ex (frz (e2 (.var 0) (.ex (frz (e2 (.ex (frz (eP [.var 1] pInt))) (.ex (frz (eP [.var 0] pLen))) pMod))) pIx))] pInt))] pAbs))] pInt))) (.ex (frz (eC (.int 2147483563)))) pMod))) (.ex (frz (eC (.int 48271)))) pMulT))) pAdd)) (sNil)))
    (sSeq (sSet 3 (eIf (t2 (.var 2) (.ex (frz (e2 (.ex (frz (eC (.int 10)))) (.ex (frz (eC (.int 18)))) pPow))) (nd2 pGe)) (eVar 2) (eC (.int 0))))
    (sRet (eLst [frz (eVar 3), frz (e2 (.ex (frz (e2 (.ex (frz (eP [.ex (frz (e2 (.ex (frz (e2 (.ex (frz (e2 (.ex (frz (eP [.var 2] pInt))) (.ex (frz (eC (.int 2147483563)))) pMod))) (.ex (frz (eC (.int 40014)))) pMulT))) (.ex (frz (e2 (.ex (frz (eC (.int 3067)))) (.var 1) pMulT))) pAdd))] pInt))) (.ex (frz (eC (.int 2147483563)))) pMod))) (.ex (frz (eC (.int 1)))) pAdd)]))))
def g__law_box : Fn := runF false 4 b__law_box
abbrev s__law_take : Stmt := top 26
def b__law_take : M Fl :=
  sSeq (sIf (t2 (.ex (frz (e2 (.var 0) (.ex (frz (eC (.int 0)))) pIx))) (.ex (frz (eC (.int 0)))) (nd2 pGt)) (sSeq (sSet 2 (e2 (.ex (frz (eP [.ex (frz (e2 (.var 0) (.ex (frz (eC (.int 0)))) pIx))] pInt))) (.var 1) pMod))
    (sSeq (sSetIx 0 (frz (e2 (.ex (frz (e2 (.var 0) (.ex (frz (eC (.int 0)))) pIx))) (.var 1) pDiv)) (frz (eC (.int 0))))
    (sRet (eMove 2)))) (sNil))
    (sSeq (sSet 3 (e2 (.ex (frz (eP [.ex (frz (e2 (.ex (frz (e2 (.ex (frz (e2 (.var 0) (.ex (frz (eC (.int 1)))) pIx))) (.ex (frz (eC (.int 39373)))) pMulT))) (.ex (frz (eC (.int 577)))) pAdd))] pInt))) (.ex (frz (eC (.int 2147483647)))) pMod))
    (sSeq (sSetIx 0 (frz (e2 (.ex (frz (e2 (.ex (frz (eP [.ex (frz (e2 (.ex (frz (e2 (.var 3) (.ex (frz (eC (.int 40692)))) pMulT))) (.ex (frz (eC (.int 79)))) pAdd))] pInt))) (.ex (frz (eC (.int 2147483399)))) pMod))) (.ex (frz (eC (.int 1)))) pAdd)) (frz (eC (.int 1))))
    (sRet (e2 (.ex (frz (eP [.ex (frz (e2 (.ex (frz (e2 (.ex (frz (e2 (.var 3) (.ex (frz (eC (.int 2147483629)))) pMulT))) (.ex (frz (e2 (.var 0) (.ex (frz (eC (.int 1)))) pIx))) pAdd))) (.ex (frz (eC (.int 8231)))) pDiv))] pInt))) (.var 1) pMod))))
def g__law_take : Fn := runF true 4 b__law_take
abbrev s__law_pick : Stmt := top 27
def b__law_pick : M Fl :=
  sRet (e2 (.var 1) (.ex (frz (eCallB g__law_take 0 [frz (eP [.var 1] pLen)] []))) pIx)
def g__law_pick : Fn := runF true 2 b__law_pick
abbrev s__law_shuffled : Stmt := top 28
def b__law_shuffled : M Fl :=
  sSeq (sPar [2, 3] [eP [.var 1] pListOf, eLst []])
    (sSeq (sFor (evs [frz (eP [.var 1] pLen)] rng1) (gN 4) (sDrop (eM 3 [frz (eM 2 [frz (eCallB g__law_take 0 [frz (eP [.var 2] pLen)] [])] mPopAt)] mAppend)))
    (sRet (eMove 3)))
def g__law_shuffled : Fn := runF true 5 b__law_shuffled
abbrev s__law_same : Stmt := top 29
def b__law_same (rec : Fn) : M Fl :=
  sSeq (sIf (tB (frz (eIsi (.var 1) "tuple"))) (sSeq (sIf (tOr (tNot (tB (frz (eIsi (.var 0) "tuple")))) (t2 (.ex (frz (eP [.var 0] pLen))) (.ex (frz (eP [.var 1] pLen))) (nd2 pNe))) (sRet (eC (.bool false))) (sNil))
    (sSeq (sFor (evs [frz (eVar 0), frz (eVar 1)] zipM) (gT [2, 3]) (sIf (tNot (tB (frz (eCall rec [frz (eVar 2), frz (eVar 3)] [])))) (sRet (eC (.bool false))) (sNil)))
    (sRet (eC (.bool true))))) (sNil))
    (sSeq (sIf (t2 (.var 1) (.ex (frz (eC .none))) pIsN) (sRet (e2 (.var 0) (.ex (frz (eC .none))) (bO pIsN))) (sNil))
    (sSeq (sIf (tOr (t2 (.var 1) (.ex (frz (eC (.bool true)))) pIsBo) (t2 (.var 1) (.ex (frz (eC (.bool false)))) pIsBo)) (sRet (vAnd (frz (eIsi (.var 0) "bool")) (e2 (.var 0) (.var 1) (bO (nd2 pEq))))) (sNil))
    (sSeq (sIf (tB (frz (eIsi (.var 1) "int"))) (sRet (vAnd (frz (eIsi (.var 0) "int")) (vAnd (frz (vNot (frz (eIsi (.var 0) "bool")))) (e2 (.var 0) (.var 1) (bO (nd2 pEq)))))) (sNil))
    (sRet (vAnd (frz (eIsi (.var 0) "str")) (vAnd (frz (eIsi (.var 1) "str")) (e2 (.var 0) (.var 1) (bO (nd2 pEq)))))))))
def gr__law_same : Nat → Fn
  | 0 => fun _ _ => .stuck
  | n + 1 => runF false 4 (b__law_same (gr__law_same n))
def g__law_same : Fn := gr__law_same 26
abbrev s__law_term : Stmt := top 30
def b__law_term : M Fl :=
  sSeq (sSet 3 (e2 (.ex (frz (eC (.int 1)))) (.ex (frz (eCallB g__law_take 0 [frz (eVar 1)] []))) pAdd))
    (sSeq (sSet 4 (eComp (iVal (frz (eCallB g__law_shuffled 0 [frz (eLRange [frz (eVar 3)] rg1)] []))) [5] (gN 5) (mret true) (frz (eTup [frz (eVar 5), frz (eLst [frz (eTup [frz (eVar 5)])])]))))
    (sSeq (sFor (evs [frz (e2 (.var 3) (.ex (frz (eC (.int 1)))) pSub)] rng1) (gN 6) (sSeq (sIf (t2 (.ex (frz (eP [.var 4] pLen))) (.ex (frz (eC (.int 1)))) (nd2 pEq)) (mret .bk) (sNil))
    (sSeq (sSet 7 (eComp (evs [frz (eP [.ex (frz (eP [.var 4] pLen)), .ex (frz (eCallB g__law_pick 0 [frz (eLst [frz (eC (.int 2)), frz (eC (.int 2)), frz (eC (.int 2)), frz (eC (.int 3))])] []))] pMin2)] rng1) [8] (gN 8) (mret true) (frz (eM 4 [frz (eCallB g__law_take 0 [frz (eP [.var 4] pLen)] [])] mPopAt))))
    (sSeq (sPar [9, 10] [eLst [frz (eTup [])], eLst []])
    (sSeq (sFor (iVal (frz (eVar 7))) (gN 11) (sSeq (sSet 12 (eLst []))
    (sSeq (sFor (iVal (frz (eVar 9))) (gN 13) (sSet 12 (e2 (.var 12) (.ex (frz (eComp (iVal (frz (e2 (.var 11) (.ex (frz (eC (.int 1)))) pIx))) [14] (gN 14) (mret true) (frz (eP [.ex (frz (eP [.ex (frz (e2 (.var 13) (.var 14) pAdd))] pSorted))] pTupleOf))))) pAdd)))
    (sPar [9, 10] [eVar 12, e2 (.var 10) (.ex (frz (e2 (.var 11) (.ex (frz (eC (.int 1)))) pIx))) pAdd]))))
    (sSeq (sSet 15 (eIf (tAnd (t2 (.ex (frz (eCallB g__law_take 0 [frz (eC (.int 2))] []))) (.ex (frz (eC (.int 0)))) (nd2 pEq)) (t2 (.ex (frz (eP [.var 9] pLen))) (.var 2) (nd2 pLe))) (eC (.str "row")) (eC (.str "side"))))
    (sDrop (eM 4 [frz (eTup [frz (eTup [frz (eVar 15), frz (eP [.ex (frz (eComp (iVal (frz (eVar 7))) [11] (gN 11) (mret true) (frz (e2 (.var 11) (.ex (frz (eC (.int 0)))) pIx))))] pTupleOf)]), frz (eIf (t2 (.var 15) (.ex (frz (eC (.str "row")))) (nd2 pEq)) (eVar 9) (eVar 10))])] mAppend))))))))
    (sRet (eTup [frz (e2 (.ex (frz (e2 (.var 4) (.ex (frz (eC (.int 0)))) pIx))) (.ex (frz (eC (.int 0)))) pIx), frz (eP [.ex (frz (eP [.ex (frz (e2 (.ex (frz (e2 (.var 4) (.ex (frz (eC (.int 0)))) pIx))) (.ex (frz (eC (.int 1)))) pIx))] pSorted))] pTupleOf)]))))
def g__law_term : Fn := runF true 16 b__law_term
abbrev s__law_rows : Stmt := top 31
def b__law_rows : M Fl :=
  sSeq (sInit0 1 2 (eLst []) [val (frz (eVar 0)), eLst []])
    (sSeq (sFor (evs [frz (eC (.int 200))] rng1) (gN 3) (sSeq (sIf (tEqS 2 false) (mret .bk) (sNil))
    (sSeq (sBorrow0 [4] 5 2 (frz (e1 (.ex (frz (eC (.int 1)))) pNeg)))
    (sSeq (sIf (tAnd (tB (frz (eIsi (.var 4) "tuple"))) (t2 (.ex (frz (eP [.var 5] pLen))) (.ex (frz (eP [.ex (frz (e2 (.var 4) (.ex (frz (eC (.int 1)))) pIx))] pLen))) (nd2 pLt))) (sSeq (sPush 2 [val (frz (e2 (.ex (frz (e2 (.var 4) (.ex (frz (eC (.int 1)))) pIx))) (.ex (frz (eP [.var 5] pLen))) pIx)), eLst []])
    (mret .ct)) (sNil))
    (sSeq (sIf (tB (frz (eIsi (.var 4) "tuple"))) (sSeq (sSet 6 (eLst []))
    (sSeq (sFor (iVal (frz (eVar 5))) (gN 7) (sSet 6 (e2 (.var 6) (.ex (frz (eP [.ex (frz (e2 (.ex (frz (e2 (.var 1) (.var 7) pIx))) (.ex (frz (eC (.int 2)))) pIx))] pListOf))) pAdd)))
    (sDrop (eM 1 [frz (eTup [frz (e2 (.var 4) (.ex (frz (eC (.int 0)))) pIx), frz (eP [.var 5] pTupleOf), frz (eP [.ex (frz (eP [.var 6] pSorted))] pTupleOf)])] mAppend)))) (sDrop (eM 1 [frz (eTup [frz (eC .none), frz (eTup []), frz (eTup [frz (eVar 4)])])] mAppend)))
    (sSeq (sPopS 2)
    (sIf (tEqS 2 true) (sTopApp 2 (frz (e1 (.ex (frz (eC (.int 1)))) pNeg)) (frz (eC (.int 1))) (frz (e2 (.ex (frz (eP [.var 1] pLen))) (.ex (frz (eC (.int 1)))) pSub))) (sNil))))))))
    (sRet (eMove 1)))
def g__law_rows : Fn := runF false 8 b__law_rows
abbrev s__law_term_fault : Stmt := top 32
def b__law_term_fault : M Fl :=
  sSeq (sPar [1, 2] [eLst [frz (eVar 0)], eLst []])
    (sSeq (sFor (evs [frz (eC (.int 13))] rng1) (gN 3) (sSeq (sIf (t2 (.var 1) (.ex (frz (eLst []))) (nd2 pEq)) (mret .bk) (sNil))
    (sSeq (sSet 4 (eLst []))
    (sSeq (sFor (iVal (frz (eVar 1))) (gN 5) (sIf (tAnd (tB (frz (eIsi (.var 5) "int"))) (tAnd (tNot (tB (frz (eIsi (.var 5) "bool")))) (tAnd (t2 (.ex (frz (eC (.int 0)))) (.var 5) (nd2 pLe)) (t2 (.var 5) (.ex (frz (eC (.int 11)))) (nd2 pLe))))) (sDrop (eM 2 [frz (eVar 5)] mAppend)) (sIf (tAnd (tB (frz (eIsi (.var 5) "tuple"))) (tAnd (t2 (.ex (frz (eP [.var 5] pLen))) (.ex (frz (eC (.int 2)))) (nd2 pEq)) (tAnd (tB (frz (eIsi (.ex (frz (e2 (.var 5) (.ex (frz (eC (.int 0)))) pIx))) "str"))) (tAnd (t2 (.ex (frz (e2 (.var 5) (.ex (frz (eC (.int 0)))) pIx))) (.ex (frz (eTup [frz (eC (.str "side")), frz (eC (.str "row"))]))) (nd2 pIn)) (tAnd (tB (frz (eIsi (.ex (frz (e2 (.var 5) (.ex (frz (eC (.int 1)))) pIx))) "tuple"))) (t2 (.ex (frz (eP [.ex (frz (e2 (.var 5) (.ex (frz (eC (.int 1)))) pIx))] pLen))) (.ex (frz (eC (.int 1)))) (nd2 pGt))))))) (sSet 4 (e2 (.var 4) (.ex (frz (eP [.ex (frz (e2 (.var 5) (.ex (frz (eC (.int 1)))) pIx))] pListOf))) pAdd)) (sRet (e1 (.ex (frz (eC (.int 1)))) pNeg)))))
    (sSeq (sIf (tOr (t2 (.var 3) (.ex (frz (eC (.int 12)))) (nd2 pEq)) (t2 (.ex (frz (e2 (.ex (frz (eP [.var 2] pLen))) (.ex (frz (eP [.var 4] pLen))) pAdd))) (.ex (frz (eC (.int 24)))) (nd2 pGt))) (sRet (e1 (.ex (frz (eC (.int 1)))) pNeg)) (sNil))
    (sSet 1 (eVar 4)))))))
    (sSeq (sIf (t2 (.ex (frz (eDiff (.var 2)))) (.ex (frz (eP [.var 2] pLen))) (nd2 pLt)) (sRet (e1 (.ex (frz (eC (.int 2)))) pNeg)) (sNil))
    (sRet (eIf (t2 (.ex (frz (eP [.var 2] pSorted))) (.ex (frz (eLRange [frz (eP [.var 2] pLen)] rg1))) (nd2 pEq)) (eC .none) (e1 (.ex (frz (eC (.int 3)))) pNeg)))))
def g__law_term_fault : Fn := runF false 6 b__law_term_fault
abbrev s__law_rebuilt : Stmt := top 33
def b__law_rebuilt : M Fl :=
  sSeq (sSet 3 (eLst []))
    (sSeq (sFor (evs [frz (eVar 0)] enM) (gT [4, 5]) (sSeq (sUnp [6, 7, 8] (frz (eVar 5)))
    (sSeq (sSet 9 (eIf (t2 (.var 6) (.ex (frz (eC .none))) pIsN) (e2 (.var 8) (.ex (frz (eC (.int 0)))) pIx) (eTup [frz (eVar 6), frz (eP [.ex (frz (eComp (iVal (frz (eVar 7))) [10] (gN 10) (mret true) (frz (e2 (.var 3) (.var 10) pIx))))] pTupleOf)])))
    (sDrop (eM 3 [frz (eIf (t2 (.var 4) (.var 1) (nd2 pEq)) (eVar 2) (eVar 9))] mAppend)))))
    (sRet (e2 (.var 3) (.ex (frz (e1 (.ex (frz (eC (.int 1)))) pNeg))) pIx)))
def g__law_rebuilt : Fn := runF false 11 b__law_rebuilt
abbrev s__law_heard : Stmt := top 34
def b__law_heard : M Fl :=
  sTry2 "BadTerm" "refused" 2 3 (sRet (eTup [frz (eC (.str "told")), frz (eIf (tB (frz (eVar 1))) (eCallXK "BadTerm" g_check_term__X [0] 1 1 [frz (eVar 0)]) (eCallX "BadTerm" g_check_term__X [frz (eVar 0)]))]))
def g__law_heard : Fn := runF false 4 b__law_heard
abbrev s__law_chain : Stmt := top 35
def b__law_chain : M Fl :=
  sSeq (sSet 1 (e2 (.var 0) (.ex (frz (e1 (.ex (frz (eC (.int 1)))) pNeg))) pIx))
    (sSeq (sFor (evs [frz (e1 (.ex (frz (eSl (.var 0) (mret none) (mbind (frz (e1 (.ex (frz (eC (.int 1)))) pNeg)) fun d => mbind (isI d) fun i => mret (some i))))) pRev)] enM) (gT [2, 3]) (sSet 1 (eTup [frz (eIf (t2 (.ex (frz (e2 (.ex (frz (eP [.var 2] pInt))) (.ex (frz (eC (.int 2)))) pMod))) (.ex (frz (eC (.int 0)))) (nd2 pEq)) (eC (.str "side")) (eC (.str "row"))), frz (eTup [frz (eVar 3), frz (eVar 1)])])))
    (sRet (eMove 1)))
def g__law_chain : Fn := runF false 4 b__law_chain
abbrev s__law_bent : Stmt := top 36
def b__law_bent : M Fl :=
  sSeq (sSet 2 (eCall g__law_rows [frz (eVar 1)] []))
    (sSeq (sPar [3, 4, 5] [eCallB g__law_take 0 [frz (eP [.var 2] pLen)] [], eCallB g__law_take 0 [frz (eC (.int 13))] [], eP [.ex (frz (e2 (.ex (frz (e2 (.var 2) (.ex (frz (e1 (.ex (frz (eC (.int 1)))) pNeg))) pIx))) (.ex (frz (eC (.int 2)))) pIx))] pListOf])
    (sSeq (sSet 6 (eLst [frz (eC .none), frz (eC (.bool true)), frz (e1 (.ex (frz (eC (.int 1)))) pNeg), frz (eC (.int 12)), frz (e2 (.ex (frz (eC (.int 10)))) (.ex (frz (eC (.int 30)))) pPow), frz (eC (.str "side")), frz (eTup []), frz (eTup [frz (eC (.str "side"))]), frz (eTup [frz (eC (.str "row")), frz (eTup [])]), frz (eTup [frz (eC (.str "side")), frz (eTup [frz (eVar 4)])]), frz (eTup [frz (eC (.str "row")), frz (eLst [frz (eC (.int 0)), frz (eC (.int 1))])]), frz (eTup [frz (eC (.str "both")), frz (eTup [frz (eC (.int 0)), frz (eC (.int 1))])])]))
    (sSeq (sSet 6 (e2 (.var 6) (.ex (frz (eLst [frz (eTup [frz (eC (.str "side")), frz (eTup [frz (eC (.int 0)), frz (eC (.int 1))]), frz (eC (.int 2))]), frz (eLst [frz (eC (.str "side")), frz (eTup [frz (eC (.int 0)), frz (eC (.int 1))])]), frz (eTup [frz (eC (.int 0)), frz (eC (.int 1))]), frz (eVar 4), frz (eVar 4), frz (eTup [frz (eC (.str "row")), frz (eTup [frz (eVar 4), frz (eP [.var 5] pLen)])]), frz (eTup [frz (eTup [frz (eC (.str "side")), frz (eTup [frz (eC (.int 0)), frz (eC (.int 1))])])]), frz (eTup [frz (eC (.str "side")), frz (eC .none)])]))) pAdd))
    (sSeq (sSet 7 (eCall g__law_rebuilt [frz (eVar 2), frz (eVar 3), frz (eCallB g__law_pick 0 [frz (eVar 6)] [])] []))
    (sSeq (sSet 8 (eCallB g__law_take 0 [frz (eC (.int 6))] []))
    (sSeq (sIf (t2 (.var 8) (.ex (frz (eC (.int 0)))) (nd2 pEq)) (sRet (eTup [frz (eC (.str "row")), frz (eTup [frz (eVar 7), frz (eP [.var 5] pLen)])])) (sNil))
    (sSeq (sIf (t2 (.var 8) (.ex (frz (eC (.int 1)))) (nd2 pEq)) (sRet (eTup [frz (eC (.str "side")), frz (eP [.ex (frz (e2 (.var 5) (.ex (frz (eLst [frz (eVar 4)]))) pAdd))] pTupleOf)])) (sNil))
    (sRet (eMove 7)))))))))
def g__law_bent : Fn := runF true 9 b__law_bent
abbrev s_law : Stmt := top 37
def b_law : M Fl :=
  sSeq (sFor (evs [frz (eP [.ex (frz (eC (.int 4))), .ex (frz (eP [.ex (frz (eP [.var 0] pLen)), .ex (frz (eC (.int 8)))] pMin2))] pMax2)] rng1) (gN 1) (sSeq (sSet 2 (eCall g__law_box [frz (eVar 0), frz (eVar 1)] []))
    (sSeq (sUnp [3, 4] (frz (eCallB g__law_term 2 [frz (eIf (t2 (.var 1) (.ex (frz (eC (.int 0)))) (nd2 pEq)) (eC (.int 12)) (eC (.int 7))), frz (eC (.int 40))] [])))
    (sSeq (sSet 5 (eCallB g__law_shuffled 2 [frz (eLRange [frz (eC (.int 12))] rg1)] []))
    (sSeq (sSet 6 (eLst [frz (eVar 3), frz (eCall g__law_chain [frz (eVar 5)] []), frz (eCall g__law_chain [frz (e2 (.ex (frz (eSl (.var 5) (mret none) (mbind (frz (eC (.int 2))) fun d => mbind (isI d) fun i => mret (some i))))) (.ex (frz (eLst [frz (eC (.int 3))]))) pAdd)] []), frz (eCall g__law_chain [frz (e2 (.var 5) (.ex (frz (eLst [frz (eC (.int 0))]))) pAdd)] []), frz (eTup [frz (eC (.str "row")), frz (eTRange [frz (eC (.int 12))] rg1)]), frz (eTup [frz (eC (.str "side")), frz (eP [.ex (frz (e2 (.ex (frz (eLst [frz (eC (.int 0))]))) (.ex (frz (eC (.int 24)))) pMulT))] pTupleOf)]), frz (eTup [frz (eC (.str "side")), frz (eP [.ex (frz (e2 (.ex (frz (eLst [frz (eC (.int 0))]))) (.ex (frz (eC (.int 25)))) pMulT))] pTupleOf)])]))
    (sSeq (sSet 6 (e2 (.ex (frz (e2 (.var 6) (.ex (frz (eComp (evs [frz (eC (.int 8))] rng1) [7] (gN 7) (mret true) (frz (eCallB g__law_bent 2 [frz (eVar 3)] []))))) pAdd))) (.ex (frz (eLst [frz (eTup [frz (eC (.str "side")), frz (eTup [frz (eC (.int 0)), frz (eCall g__law_chain [frz (e2 (.ex (frz (eLst [frz (eC (.int 1))]))) (.ex (frz (eC (.int 12)))) pMulT)] [])])])]))) pAdd))
    (sFor (evs [frz (eVar 6)] enM) (gT [8, 9]) (sSeq (sSet 10 (eCall g__law_term_fault [frz (eVar 9)] []))
    (sIf (tNot (tB (frz (eCall g__law_same [frz (eCall g__law_heard [frz (eVar 9), frz (e2 (.ex (frz (e2 (.ex (frz (eP [.var 8] pInt))) (.ex (frz (eC (.int 2)))) pMod))) (.ex (frz (eC (.int 0)))) (bO (nd2 pEq)))] []), frz (eIf (t2 (.var 10) (.ex (frz (eC .none))) pIsN) (eTup [frz (eC (.str "told")), frz (eVar 9)]) (eTup [frz (eC (.str "refused")), frz (eVar 10), frz (eC (.bool true))]))] [])))) (sRet (eC (.bool false))) (sNil))))))))))
    (sRet (eC (.bool true)))
def g_law : Fn := runF false 11 b_law
/-! ### the walks -/
section
variable {P : Program} {w : World} {K : PySem.W.Frag} {mg : Str → Option Value} {base : Heap}
theorem sc_is_int : FnScope ["value"] ["value"] (defScope s_is_int) := ⟨rfl, rfl, rfl, by decide +kernel, rfl, by decide +kernel, by decide +kernel⟩
theorem sb_is_int (T : Txt K mg) {f : Addr} (cdv : Value) (A : Around) (outer : List Env) (s : Shared) (H : Hp) (E : XK) (hr : Room 0 (A.deeper (envOfC "is_int" (defScope s_is_int) s.heap.objs.size f cdv))) :
    SB (fun _ : Unit => (cxOf CX0 P w K mg base ["value"] "is_int" (defScope s_is_int) f cdv A outer s H E).nox) K WW0 (defBody s_is_int) b_is_int := by
  have nd := (sc_is_int).nd
  exact sb_one (ss_ret (se_and (sv_of (se_isi (so_var (i := 0) (fun _ => pv 0)) (fun _ => pe_bltn (by rfl) T.int boot_int rfl) kit_int (fun _ => rfl) (fun _ => rfl) (fun _ h z => pe_callB call_isi (by rfl) T.isinstance boot_isinstance (h z)))) (se_one (se_not (sv_of (se_isi (so_var (i := 0) (fun _ => pv 0)) (fun _ => pe_bltn (by rfl) T.bool boot_bool rfl) kit_bool (fun _ => rfl) (fun _ => rfl) (fun _ h z => pe_callB call_isi (by rfl) T.isinstance boot_isinstance (h z))))))))
theorem ok_is_int (T : Txt K mg) {f : Addr} {fd : FuncData} (F : Fun K "is_int" "is_int" s_is_int f fd) : FnOk P w K mg base CX0 1 f fd ["value"] (spF K false 1 g_is_int) :=
  fn_ok false F sc_is_int (by decide) fun cdv A outer s H E hr => sb_is_int T  cdv A outer s H E hr
theorem sc_is_number : FnScope ["value", "least", "most"] ["value", "least", "most"] (defScope s_is_number) := ⟨rfl, rfl, rfl, by decide +kernel, rfl, by decide +kernel, by decide +kernel⟩
theorem sb_is_number (T : Txt K mg) (c_is_int : Cal P w K mg base "is_int" ["value"] 1 false g_is_int []) {f : Addr} (cdv : Value) (A : Around) (outer : List Env) (s : Shared) (H : Hp) (E : XK) (hr : Room 1 (A.deeper (envOfC "is_number" (defScope s_is_number) s.heap.objs.size f cdv))) :
    SB (fun _ : Unit => (cxOf CX0 P w K mg base ["value", "least", "most"] "is_number" (defScope s_is_number) f cdv A outer s H E).nox) K WW0 (defBody s_is_number) b_is_number := by
  obtain ⟨f_c_is_int, fd_c_is_int, G_c_is_int, m_c_is_int, k_c_is_int, b_c_is_int⟩ := c_is_int.ex
  have nd := (sc_is_number).nd
  exact sb_one (ss_ret (se_and (sv_of (se_call (dvs := []) (dd := []) (np := 1) (sav_cons (sv_of (se_var (i := 0) (fun _ => pv 0))) (sav_nil)) rfl (fun _ => .nil) (fun _ h z => pe_call G_c_is_int (hr.mono (by omega)) (by rfl) m_c_is_int k_c_is_int b_c_is_int .nil pass0 (h z)))) (se_and (sv_of (se_op2 (so_var (i := 0) (fun _ => pv 0)) (so_var (i := 1) (fun _ => pv 1)) (fun _ _ ha hb z => pe_cmpR (op_geD hr.units) (ha z) (hb z) (nomark _)) prim_rd2)) (se_one (se_or (sv_of (se_op2 (so_var (i := 2) (fun _ => pv 2)) (so_ex (sv_of (se_c (d := .none) (fun _ => pe_non) (fun _ => .non)))) (fun _ _ ha hb z => pe_cmpR op_isN (ha z) (hb z) (nomark _)) prim_isN)) (se_one (se_op2 (so_var (i := 0) (fun _ => pv 0)) (so_var (i := 2) (fun _ => pv 2)) (fun _ _ ha hb z => pe_cmpR (op_leD hr.units) (ha z) (hb z) (nomark _)) prim_rd2)))))))
theorem ok_is_number (T : Txt K mg) (c_is_int : Cal P w K mg base "is_int" ["value"] 1 false g_is_int []) {f : Addr} {fd : FuncData} (F : FunD K "is_number" "is_number" (defArgs s_is_number) (defBody s_is_number) (defScope s_is_number) [.int 0, .non] [] f fd) : FnOk P w K mg base CX0 2 f fd ["value", "least", "most"] (spF K false 3 g_is_number) :=
  fn_okD false F sc_is_number (by decide) fun cdv A outer s H E hr => sb_is_number T c_is_int cdv A outer s H E hr
theorem sc_is_tuple : FnScope ["value", "many"] ["value", "many"] (defScope s_is_tuple) := ⟨rfl, rfl, rfl, by decide +kernel, rfl, by decide +kernel, by decide +kernel⟩
theorem sb_is_tuple (T : Txt K mg) {f : Addr} (cdv : Value) (A : Around) (outer : List Env) (s : Shared) (H : Hp) (E : XK) (hr : Room 0 (A.deeper (envOfC "is_tuple" (defScope s_is_tuple) s.heap.objs.size f cdv))) :
    SB (fun _ : Unit => (cxOf CX0 P w K mg base ["value", "many"] "is_tuple" (defScope s_is_tuple) f cdv A outer s H E).nox) K WW0 (defBody s_is_tuple) b_is_tuple := by
  have nd := (sc_is_tuple).nd
  exact sb_one (ss_ret (se_and (sv_of (se_isi (so_var (i := 0) (fun _ => pv 0)) (fun _ => pe_bltn (by rfl) T.tuple boot_tuple rfl) kit_tuple (fun _ => rfl) (fun _ => rfl) (fun _ h z => pe_callB call_isi (by rfl) T.isinstance boot_isinstance (h z)))) (se_one (se_or (sv_of (se_op2 (so_var (i := 1) (fun _ => pv 1)) (so_ex (sv_of (se_c (d := .none) (fun _ => pe_non) (fun _ => .non)))) (fun _ _ ha hb z => pe_cmpR op_isN (ha z) (hb z) (nomark _)) prim_isN)) (se_one (se_op2 (so_ex (sv_of (se_prim (sa_cons (so_var (i := 0) (fun _ => pv 0)) (sa_nil)) (fun _ h z => pe_callB call_len (by rfl) T.len boot_len (h z)) prim_len))) (so_var (i := 1) (fun _ => pv 1)) (fun _ _ ha hb z => pe_cmpR (op_eqP hr.units) (ha z) (hb z) (nomark _)) prim_rd2))))))
theorem ok_is_tuple (T : Txt K mg) {f : Addr} {fd : FuncData} (F : FunD K "is_tuple" "is_tuple" (defArgs s_is_tuple) (defBody s_is_tuple) (defScope s_is_tuple) [.non] [] f fd) : FnOk P w K mg base CX0 1 f fd ["value", "many"] (spF K false 2 g_is_tuple) :=
  fn_okD false F sc_is_tuple (by decide) fun cdv A outer s H E hr => sb_is_tuple T  cdv A outer s H E hr
theorem sc_joined_lots : FnScope ["lots", "found", "lot", "entry"] ["lots"] (defScope s_joined_lots) := ⟨rfl, rfl, rfl, by decide +kernel, rfl, by decide +kernel, by decide +kernel⟩
theorem sb_joined_lots (T : Txt K mg) {f : Addr} (cdv : Value) (A : Around) (outer : List Env) (s : Shared) (H : Hp) (E : XK) (hr : Room 0 (A.deeper (envOfC "joined_lots" (defScope s_joined_lots) s.heap.objs.size f cdv))) :
    SB (fun _ : Unit => (cxOf CX0 P w K mg base ["lots", "found", "lot", "entry"] "joined_lots" (defScope s_joined_lots) f cdv A outer s H E).nox) K WW0 (defBody s_joined_lots) b_joined_lots := by
  have nd := (sc_joined_lots).nd
  exact sb_cons (ss_set (i := 1) (se_newD) (fun _ h z => ps_set nd rfl (Or.inl rfl) (h z)))
    (sb_cons (ss_for (fun _ => PassesOwn.never) (fun _ => rfl) (si_val (fun _ => rfl) (sv_of (se_var (i := 0) (fun _ => pv 0)))) (sg_name (i := 2) (fun _ => pg_name (i := 2) nd rfl (Or.inl rfl))) (sb_one (ss_for (fun _ => PassesOwn.never) (fun _ => rfl) (si_val (fun _ => rfl) (sv_of (se_var (i := 2) (fun _ => pv 2)))) (sg_name (i := 3) (fun _ => pg_name (i := 3) nd rfl (Or.inl rfl))) (sb_one (ss_dput (i := 1) (sv_of (se_c (d := .bool true) (fun _ => pe_bl) (fun _ => .bl _))) (sv_of (se_var (i := 3) (fun _ => pv 3))) (fun _ _ h1 h2 z => ps_dput (hu_of hr) (pv 1) (h2 z) (h1 z) rfl))))))
    (sb_one (ss_ret (se_prim (sa_cons (so_ex (sv_of (se_prim (sa_cons (so_ex (sv_of (se_dlist (i := 1) (fun _ => pv 1) (fun _ => rfl) (fun _ h z => pe_callTy (call_list_dK rfl) (by rfl) T.list boot_list (h z))))) (sa_nil)) (fun _ h z => pe_callB (cr_sortP hr.units) (by rfl) T.sorted boot_sorted (h z)) prim_sorted))) (sa_nil)) (fun _ h z => pe_callTy call_tuple_of (by rfl) T.tuple boot_tuple (h z)) prim_tuple))))
theorem ok_joined_lots (T : Txt K mg) {f : Addr} {fd : FuncData} (F : Fun K "joined_lots" "joined_lots" s_joined_lots f fd) : FnOk P w K mg base CX0 1 f fd ["lots"] (spF K false 1 g_joined_lots) :=
  fn_ok false F sc_joined_lots (by decide) fun cdv A outer s H E hr => sb_joined_lots T  cdv A outer s H E hr
theorem sc_is_node : FnScope ["value"] ["value"] (defScope s_is_node) := ⟨rfl, rfl, rfl, by decide +kernel, rfl, by decide +kernel, by decide +kernel⟩
theorem sb_is_node (T : Txt K mg) (c_is_number : Cal P w K mg base "is_number" ["value", "least", "most"] 2 false g_is_number []) (c_is_tuple : Cal P w K mg base "is_tuple" ["value", "many"] 1 false g_is_tuple []) {f : Addr} (cdv : Value) (A : Around) (outer : List Env) (s : Shared) (H : Hp) (E : XK) (hr : Room 2 (A.deeper (envOfC "is_node" (defScope s_is_node) s.heap.objs.size f cdv))) :
    SB (fun _ : Unit => (cxOf CX0 P w K mg base ["value"] "is_node" (defScope s_is_node) f cdv A outer s H E).nox) K WW0 (defBody s_is_node) b_is_node := by
  obtain ⟨f_c_is_number, fd_c_is_number, G_c_is_number, m_c_is_number, k_c_is_number, b_c_is_number⟩ := c_is_number.ex
  obtain ⟨f_c_is_tuple, fd_c_is_tuple, G_c_is_tuple, m_c_is_tuple, k_c_is_tuple, b_c_is_tuple⟩ := c_is_tuple.ex
  obtain ⟨u_MOST_THINGS, m_MOST_THINGS, r_MOST_THINGS⟩ := T.c_MOST_THINGS
  obtain ⟨u_ROW, m_ROW, r_ROW⟩ := T.c_ROW
  obtain ⟨u_SIDE, m_SIDE, r_SIDE⟩ := T.c_SIDE
  have nd := (sc_is_node).nd
  exact sb_cons (ss_if (st_val (sv_of (se_call (dvs := []) (dd := []) (np := 3) (sav_cons (sv_of (se_var (i := 0) (fun _ => pv 0))) (sav_cons (sv_of (se_c (d := .int 0) (fun _ => pe_int) (fun _ => .int _))) (sav_cons (sv_of (se_op2 (so_ex (sv_of (se_c (d := .int 12) (fun _ => pe_glob (by rfl) m_MOST_THINGS r_MOST_THINGS) (fun _ => .int _)))) (so_ex (sv_of (se_c (d := .int 1) (fun _ => pe_int) (fun _ => .int _)))) (fun _ _ ha hb z => pe_op op_sub (ha z) (hb z)) prim_sub)) (sav_nil)))) rfl (fun _ => .nil) (fun _ h z => pe_call G_c_is_number (hr.mono (by omega)) (by rfl) m_c_is_number k_c_is_number b_c_is_number .nil pass0 (h z))))) (sb_one (ss_ret (se_c (d := .bool true) (fun _ => pe_bl) (fun _ => .bl _)))) (sb_nil))
    (sb_one (ss_ret (se_and (sv_of (se_call (dvs := []) (dd := []) (np := 2) (sav_cons (sv_of (se_var (i := 0) (fun _ => pv 0))) (sav_cons (sv_of (se_c (d := .int 2) (fun _ => pe_int) (fun _ => .int _))) (sav_nil))) rfl (fun _ => .nil) (fun _ h z => pe_call G_c_is_tuple (hr.mono (by omega)) (by rfl) m_c_is_tuple k_c_is_tuple b_c_is_tuple .nil pass0 (h z)))) (se_and (sv_of (se_op2 (so_ex (sv_of (se_op2 (so_var (i := 0) (fun _ => pv 0)) (so_ex (sv_of (se_c (d := .int 0) (fun _ => pe_int) (fun _ => .int _)))) (fun _ _ ha hb z => pe_ix ix_seq (ha z) (hb z) (fun _ _ => rfl)) prim_ix))) (so_ex (sv_of (se_tup (sav_cons (sv_of (se_c (d := .str "side") (fun _ => pe_glob (by rfl) m_SIDE r_SIDE) (fun _ => .str _))) (sav_cons (sv_of (se_c (d := .str "row") (fun _ => pe_glob (by rfl) m_ROW r_ROW) (fun _ => .str _))) (sav_nil)))))) (fun _ _ ha hb z => pe_cmpR (op_inP hr.units) (ha z) (hb z) (by with_unfolding_all rfl)) prim_rd2)) (se_and (sv_of (se_isi (so_ex (sv_of (se_op2 (so_var (i := 0) (fun _ => pv 0)) (so_ex (sv_of (se_c (d := .int 1) (fun _ => pe_int) (fun _ => .int _)))) (fun _ _ ha hb z => pe_ix ix_seq (ha z) (hb z) (fun _ _ => rfl)) prim_ix))) (fun _ => pe_bltn (by rfl) T.tuple boot_tuple rfl) kit_tuple (fun _ => rfl) (fun _ => rfl) (fun _ h z => pe_callB call_isi (by rfl) T.isinstance boot_isinstance (h z)))) (se_one (se_op2 (so_ex (sv_of (se_prim (sa_cons (so_ex (sv_of (se_op2 (so_var (i := 0) (fun _ => pv 0)) (so_ex (sv_of (se_c (d := .int 1) (fun _ => pe_int) (fun _ => .int _)))) (fun _ _ ha hb z => pe_ix ix_seq (ha z) (hb z) (fun _ _ => rfl)) prim_ix))) (sa_nil)) (fun _ h z => pe_callB call_len (by rfl) T.len boot_len (h z)) prim_len))) (so_ex (sv_of (se_c (d := .int 1) (fun _ => pe_int) (fun _ => .int _)))) (fun _ _ ha hb z => pe_cmpR (op_gtD hr.units) (ha z) (hb z) (nomark _)) prim_rd2)))))))
theorem ok_is_node (T : Txt K mg) (c_is_number : Cal P w K mg base "is_number" ["value", "least", "most"] 2 false g_is_number []) (c_is_tuple : Cal P w K mg base "is_tuple" ["value", "many"] 1 false g_is_tuple []) {f : Addr} {fd : FuncData} (F : Fun K "is_node" "is_node" s_is_node f fd) : FnOk P w K mg base CX0 3 f fd ["value"] (spF K false 1 g_is_node) :=
  fn_ok false F sc_is_node (by decide) fun cdv A outer s H E hr => sb_is_node T c_is_number c_is_tuple cdv A outer s H E hr
theorem sc_things_told : FnScope ["value", "level", "found", "turn", "one", "deeper"] ["value"] (defScope s_things_told) := ⟨rfl, rfl, rfl, by decide +kernel, rfl, by decide +kernel, by decide +kernel⟩
theorem sb_things_told (T : Txt K mg) (c_is_node : Cal P w K mg base "is_node" ["value"] 3 false g_is_node []) (c_is_number_2 : ∃ ds, Vals [.int 0, .non] ds ∧ Cal P w K mg base "is_number" ["value", "least", "most"] 2 false g_is_number ds) {f : Addr} (cdv : Value) (A : Around) (outer : List Env) (s : Shared) (H : Hp) (E : XK) (hr : Room 3 (A.deeper (envOfC "things_told" (defScope s_things_told) s.heap.objs.size f cdv))) :
    SB (fun _ : Unit => (cxOf CX0 P w K mg base ["value", "level", "found", "turn", "one", "deeper"] "things_told" (defScope s_things_told) f cdv A outer s H E).nox) K WW0 (defBody s_things_told) b_things_told := by
  obtain ⟨f_c_is_node, fd_c_is_node, G_c_is_node, m_c_is_node, k_c_is_node, b_c_is_node⟩ := c_is_node.ex
  obtain ⟨_, r_c_is_number_2, h_c_is_number_2⟩ := c_is_number_2
  obtain ⟨f_c_is_number_2, fd_c_is_number_2, G_c_is_number_2, m_c_is_number_2, k_c_is_number_2, b_c_is_number_2⟩ := h_c_is_number_2.ex
  obtain ⟨u_MOST_DEPTH, m_MOST_DEPTH, r_MOST_DEPTH⟩ := T.c_MOST_DEPTH
  obtain ⟨u_MOST_THINGS, m_MOST_THINGS, r_MOST_THINGS⟩ := T.c_MOST_THINGS
  have nd := (sc_things_told).nd
  exact sb_cons (ss_parA (by decide) (sar_cons (se_lst (sav_cons (sv_of (se_var (i := 0) (fun _ => pv 0))) (sav_nil))) (sar_cons (se_lst (sav_nil)) (sar_nil))) (fun _ h z => ps_par rfl nd rfl rfl (by decide) rfl rfl (h z) rfl))
    (sb_cons (ss_for (fun _ => PassesOwn.never) (fun _ => rfl) (si_range1 (fun _ => rfl) (fun _ => T.range) (sav_cons (sv_of (se_c (d := .int 12) (fun _ => pe_glob (by rfl) m_MOST_DEPTH r_MOST_DEPTH) (fun _ => .int _))) (sav_nil))) (sg_name (i := 3) (fun _ => pg_name (i := 3) nd rfl (Or.inl rfl))) (sb_cons (ss_if (st_not (st_val (sv_of (se_prim (sa_cons (so_ex (sv_of (se_comp (own := [("one", 4)]) (fun _ => rfl) (fun _ => nd) (si_val (fun _ => rfl) (sv_of (se_var (i := 1) (fun _ => pv 1)))) (fun _ => blkOk_by (by kernel_rfl)) (sg_name (i := 4) (fun _ => pg_name (i := 4) nd rfl (Or.inl rfl))) (by decide) (sts_nil) (sv_of (se_call (dvs := []) (dd := []) (np := 1) (sav_cons (sv_of (se_var (i := 4) (fun _ => pv 4))) (sav_nil)) rfl (fun _ => .nil) (fun _ h z => pe_call G_c_is_node (hr.mono (by omega)) (by rfl) m_c_is_node k_c_is_node b_c_is_node .nil pass0 (h z))))))) (sa_nil)) (fun _ h z => pe_callB (cr_all rfl) (by rfl) T.all boot_all (h z)) prim_all)))) (sb_one (ss_ret (se_c (d := .none) (fun _ => pe_non) (fun _ => .non)))) (sb_nil))
    (sb_cons (ss_drop (se_meth (i := 2) (sav_cons (sv_of (se_comp (own := [("one", 4)]) (fun _ => rfl) (fun _ => nd) (si_val (fun _ => rfl) (sv_of (se_var (i := 1) (fun _ => pv 1)))) (fun _ => blkOk_by (by kernel_rfl)) (sg_name (i := 4) (fun _ => pg_name (i := 4) nd rfl (Or.inl rfl))) (by decide) (sts_one (st_val (sv_of (se_call (dvs := [.int 0, .non]) (dd := [.int 0, .none]) (np := 3) (sav_cons (sv_of (se_var (i := 4) (fun _ => pv 4))) (sav_nil)) rfl (fun _ => (.cons (.int _) (.cons .non .nil))) (fun _ h z => pe_call G_c_is_number_2 (hr.mono (by omega)) (by rfl) m_c_is_number_2 k_c_is_number_2 b_c_is_number_2 r_c_is_number_2 pass0 (h z)))))) (sv_of (se_var (i := 4) (fun _ => pv 4))))) (sav_nil)) (fun _ h z => pe_bm PySem.F.plainAttrs_list PySem.F.slot_list_extend PySem.F.type_list_extend mt_extend (pv 2) (h z)) prim_extend))
    (sb_cons (ss_set (i := 5) (se_lst (sav_nil)) (fun _ h z => ps_set nd rfl (Or.inl rfl) (h z)))
    (sb_cons (ss_for (fun _ => PassesOwn.never) (fun _ => rfl) (si_val (fun _ => rfl) (sv_of (se_var (i := 1) (fun _ => pv 1)))) (sg_name (i := 4) (fun _ => pg_name (i := 4) nd rfl (Or.inl rfl))) (sb_one (ss_if (st_not (st_val (sv_of (se_call (dvs := [.int 0, .non]) (dd := [.int 0, .none]) (np := 3) (sav_cons (sv_of (se_var (i := 4) (fun _ => pv 4))) (sav_nil)) rfl (fun _ => (.cons (.int _) (.cons .non .nil))) (fun _ h z => pe_call G_c_is_number_2 (hr.mono (by omega)) (by rfl) m_c_is_number_2 k_c_is_number_2 b_c_is_number_2 r_c_is_number_2 pass0 (h z)))))) (sb_one (ss_drop (se_meth (i := 5) (sav_cons (sv_of (se_prim (sa_cons (so_ex (sv_of (se_op2 (so_var (i := 4) (fun _ => pv 4)) (so_ex (sv_of (se_c (d := .int 1) (fun _ => pe_int) (fun _ => .int _)))) (fun _ _ ha hb z => pe_ix ix_seq (ha z) (hb z) (fun _ _ => rfl)) prim_ix))) (sa_nil)) (fun _ h z => pe_callTy call_list_of (by rfl) T.list boot_list (h z)) prim_list)) (sav_nil)) (fun _ h z => pe_bm PySem.F.plainAttrs_list PySem.F.slot_list_extend PySem.F.type_list_extend mt_extend (pv 5) (h z)) prim_extend))) (sb_nil))))
    (sb_cons (ss_set (i := 1) (se_var (i := 5) (fun _ => pv 5)) (fun _ h z => ps_set nd rfl (Or.inl rfl) (h z)))
    (sb_one (ss_if (st_op2 (so_ex (sv_of (se_op2 (so_ex (sv_of (se_prim (sa_cons (so_var (i := 2) (fun _ => pv 2)) (sa_nil)) (fun _ h z => pe_callB call_len (by rfl) T.len boot_len (h z)) prim_len))) (so_ex (sv_of (se_prim (sa_cons (so_var (i := 1) (fun _ => pv 1)) (sa_nil)) (fun _ h z => pe_callB call_len (by rfl) T.len boot_len (h z)) prim_len))) (fun _ _ ha hb z => pe_op op_addD (ha z) (hb z)) prim_add))) (so_ex (sv_of (se_op2 (so_ex (sv_of (se_c (d := .int 2) (fun _ => pe_int) (fun _ => .int _)))) (so_ex (sv_of (se_c (d := .int 12) (fun _ => pe_glob (by rfl) m_MOST_THINGS r_MOST_THINGS) (fun _ => .int _)))) (fun _ _ ha hb z => pe_op op_mulT (ha z) (hb z)) prim_mulT))) (fun _ _ ha hb z => pt_cmpR (op_gtD hr.units) (ha z) (hb z) (nomark _)) prim_rd2) (sb_one (ss_ret (se_c (d := .none) (fun _ => pe_non) (fun _ => .non)))) (sb_nil)))))))))
    (sb_one (ss_ret (se_if (st_op2 (so_ex (sv_of (se_prim (sa_cons (so_var (i := 1) (fun _ => pv 1)) (sa_nil)) (fun _ h z => pe_callB call_len (by rfl) T.len boot_len (h z)) prim_len))) (so_ex (sv_of (se_c (d := .int 0) (fun _ => pe_int) (fun _ => .int _)))) (fun _ _ ha hb z => pt_cmpR (op_eqP hr.units) (ha z) (hb z) (nomark _)) prim_rd2) (se_var (i := 2) (fun _ => pv 2)) (se_c (d := .none) (fun _ => pe_non) (fun _ => .non))))))
theorem ok_things_told (T : Txt K mg) (c_is_node : Cal P w K mg base "is_node" ["value"] 3 false g_is_node []) (c_is_number_2 : ∃ ds, Vals [.int 0, .non] ds ∧ Cal P w K mg base "is_number" ["value", "least", "most"] 2 false g_is_number ds) {f : Addr} {fd : FuncData} (F : Fun K "things_told" "things_told" s_things_told f fd) : FnOk P w K mg base CX0 4 f fd ["value"] (spF K false 1 g_things_told) :=
  fn_ok false F sc_things_told (by decide) fun cdv A outer s H E hr => sb_things_told T c_is_node c_is_number_2 cdv A outer s H E hr
theorem sc_check_term : FnScope ["value", "found", "things"] ["value"] (defScope s_check_term) := ⟨rfl, rfl, rfl, by decide +kernel, rfl, by decide +kernel, by decide +kernel⟩
theorem sb_check_term (T : Txt K mg) (c_joined_lots : Cal P w K mg base "joined_lots" ["lots"] 1 false g_joined_lots []) (c_things_told : Cal P w K mg base "things_told" ["value"] 4 false g_things_told []) {f : Addr} (cdv : Value) (A : Around) (outer : List Env) (s : Shared) (H : Hp) (E : XK) (hr : Room 4 (A.deeper (envOfC "check_term" (defScope s_check_term) s.heap.objs.size f cdv))) :
    SB (fun _ : Unit => (cxOf CX0 P w K mg base ["value", "found", "things"] "check_term" (defScope s_check_term) f cdv A outer s H E).nox) K WW0 (defBody s_check_term) b_check_term := by
  obtain ⟨f_c_joined_lots, fd_c_joined_lots, G_c_joined_lots, m_c_joined_lots, k_c_joined_lots, b_c_joined_lots⟩ := c_joined_lots.ex
  obtain ⟨f_c_things_told, fd_c_things_told, G_c_things_told, m_c_things_told, k_c_things_told, b_c_things_told⟩ := c_things_told.ex
  have nd := (sc_check_term).nd
  exact sb_cons (ss_set (i := 1) (se_call (dvs := []) (dd := []) (np := 1) (sav_cons (sv_of (se_var (i := 0) (fun _ => pv 0))) (sav_nil)) rfl (fun _ => .nil) (fun _ h z => pe_call G_c_things_told (hr.mono (by omega)) (by rfl) m_c_things_told k_c_things_told b_c_things_told .nil pass0 (h z))) (fun _ h z => ps_set nd rfl (Or.inl rfl) (h z)))
    (sb_cons (ss_if (st_op2 (so_var (i := 1) (fun _ => pv 1)) (so_ex (sv_of (se_c (d := .none) (fun _ => pe_non) (fun _ => .non)))) (fun _ _ ha hb z => pt_cmpR op_isN (ha z) (hb z) (nomark _)) prim_isN) (sb_one (ss_halt)) (sb_nil))
    (sb_cons (ss_set (i := 2) (se_call (dvs := []) (dd := []) (np := 1) (sav_cons (sv_of (se_lst (sav_cons (sv_of (se_prim (sa_cons (so_var (i := 1) (fun _ => pv 1)) (sa_nil)) (fun _ h z => pe_callTy call_tuple_of (by rfl) T.tuple boot_tuple (h z)) prim_tuple)) (sav_nil)))) (sav_nil)) rfl (fun _ => .nil) (fun _ h z => pe_call G_c_joined_lots (hr.mono (by omega)) (by rfl) m_c_joined_lots k_c_joined_lots b_c_joined_lots .nil pass0 (h z))) (fun _ h z => ps_set nd rfl (Or.inl rfl) (h z)))
    (sb_cons (ss_if (st_op2 (so_ex (sv_of (se_prim (sa_cons (so_var (i := 2) (fun _ => pv 2)) (sa_nil)) (fun _ h z => pe_callB call_len (by rfl) T.len boot_len (h z)) prim_len))) (so_ex (sv_of (se_prim (sa_cons (so_var (i := 1) (fun _ => pv 1)) (sa_nil)) (fun _ h z => pe_callB call_len (by rfl) T.len boot_len (h z)) prim_len))) (fun _ _ ha hb z => pt_cmpR (op_ltD hr.units) (ha z) (hb z) (nomark _)) prim_rd2) (sb_one (ss_halt)) (sb_nil))
    (sb_cons (ss_if (st_op2 (so_var (i := 2) (fun _ => pv 2)) (so_ex (sv_of (se_trange1 (fun _ => rfl) (fun _ => rfl) (fun _ => T.tuple) (fun _ => rfl) (fun _ => T.range) (sv_of (se_prim (sa_cons (so_var (i := 2) (fun _ => pv 2)) (sa_nil)) (fun _ h z => pe_callB call_len (by rfl) T.len boot_len (h z)) prim_len))))) (fun _ _ ha hb z => pt_cmpR (op_neP hr.units) (ha z) (hb z) (nomark _)) prim_rd2) (sb_one (ss_halt)) (sb_nil))
    (sb_one (ss_ret (se_move (i := 0) (fun _ => pv 0))))))))
theorem ok_check_term (T : Txt K mg) (c_joined_lots : Cal P w K mg base "joined_lots" ["lots"] 1 false g_joined_lots []) (c_things_told : Cal P w K mg base "things_told" ["value"] 4 false g_things_told []) {f : Addr} {fd : FuncData} (F : Fun K "check_term" "check_term" s_check_term f fd) : FnOk P w K mg base CX0 5 f fd ["value"] (spF K false 1 g_check_term) :=
  fn_ok false F sc_check_term (by decide) fun cdv A outer s H E hr => sb_check_term T c_joined_lots c_things_told cdv A outer s H E hr
theorem sc_check_term__X : FnScope ["value", "found", "things"] ["value"] (defScope s_check_term__X) := ⟨rfl, rfl, rfl, by decide +kernel, rfl, by decide +kernel, by decide +kernel⟩
theorem sb_check_term__X (T : Txt K mg) {C_BadTerm : Addr} (e_BadTerm : ErrOk P K mg "BadTerm" C_BadTerm) (c_joined_lots : Cal P w K mg base "joined_lots" ["lots"] 1 false g_joined_lots []) (c_things_told : Cal P w K mg base "things_told" ["value"] 4 false g_things_told []) {f : Addr} (cdv : Value) (A : Around) (outer : List Env) (s : Shared) (H : Hp) (E : XK) (hr : Room 4 (A.deeper (envOfC "check_term" (defScope s_check_term__X) s.heap.objs.size f cdv))) :
    SB (fun _ : Unit => cxOf (L2.CX P w) P w K mg base ["value", "found", "things"] "check_term" (defScope s_check_term__X) f cdv A outer s H E) K (wx "BadTerm" C_BadTerm fun cls d _ H => E cls d H) (defBody s_check_term__X) b_check_term__X := by
  obtain ⟨fI_BadTerm, fdI_BadTerm, me_BadTerm, O_BadTerm⟩ := e_BadTerm.ex
  obtain ⟨f_c_joined_lots, fd_c_joined_lots, G_c_joined_lots, m_c_joined_lots, k_c_joined_lots, b_c_joined_lots⟩ := c_joined_lots.ex
  obtain ⟨f_c_things_told, fd_c_things_told, G_c_things_told, m_c_things_told, k_c_things_told, b_c_things_told⟩ := c_things_told.ex
  have nd := (sc_check_term__X).nd
  exact sb_cons (ss_set (i := 1) (se_call (dvs := []) (dd := []) (np := 1) (sav_cons (sv_of (se_var (i := 0) (fun _ => pv 0))) (sav_nil)) rfl (fun _ => .nil) (fun _ h z => pe_call G_c_things_told (hr.mono (by omega)) (by rfl) m_c_things_told k_c_things_told b_c_things_told .nil pass0 (h z))) (fun _ h z => ps_set nd rfl (Or.inl rfl) (h z)))
    (sb_cons (ss_if (st_op2 (so_var (i := 1) (fun _ => pv 1)) (so_ex (sv_of (se_c (d := .none) (fun _ => pe_non) (fun _ => .non)))) (fun _ _ ha hb z => pt_cmpR op_isN (ha z) (hb z) (nomark _)) prim_isN) (sb_one (ss_raise (k := 0) (fun _ => O_BadTerm) (fun _ => hr.mono (by omega)) (fun _ => rfl) (fun _ => takes_of rfl rfl rfl rfl) (fun _ => by rfl) (fun _ => e_BadTerm.m) (sv_of (se_op1 (so_ex (sv_of (se_c (d := .int 1) (fun _ => pe_int) (fun _ => .int _)))) (fun _ h z => pe_un un_neg (h z)) prim_neg)))) (sb_nil))
    (sb_cons (ss_set (i := 2) (se_call (dvs := []) (dd := []) (np := 1) (sav_cons (sv_of (se_lst (sav_cons (sv_of (se_prim (sa_cons (so_var (i := 1) (fun _ => pv 1)) (sa_nil)) (fun _ h z => pe_callTy call_tuple_of (by rfl) T.tuple boot_tuple (h z)) prim_tuple)) (sav_nil)))) (sav_nil)) rfl (fun _ => .nil) (fun _ h z => pe_call G_c_joined_lots (hr.mono (by omega)) (by rfl) m_c_joined_lots k_c_joined_lots b_c_joined_lots .nil pass0 (h z))) (fun _ h z => ps_set nd rfl (Or.inl rfl) (h z)))
    (sb_cons (ss_if (st_op2 (so_ex (sv_of (se_prim (sa_cons (so_var (i := 2) (fun _ => pv 2)) (sa_nil)) (fun _ h z => pe_callB call_len (by rfl) T.len boot_len (h z)) prim_len))) (so_ex (sv_of (se_prim (sa_cons (so_var (i := 1) (fun _ => pv 1)) (sa_nil)) (fun _ h z => pe_callB call_len (by rfl) T.len boot_len (h z)) prim_len))) (fun _ _ ha hb z => pt_cmpR (op_ltD hr.units) (ha z) (hb z) (nomark _)) prim_rd2) (sb_one (ss_raise (k := 0) (fun _ => O_BadTerm) (fun _ => hr.mono (by omega)) (fun _ => rfl) (fun _ => takes_of rfl rfl rfl rfl) (fun _ => by rfl) (fun _ => e_BadTerm.m) (sv_of (se_op1 (so_ex (sv_of (se_c (d := .int 2) (fun _ => pe_int) (fun _ => .int _)))) (fun _ h z => pe_un un_neg (h z)) prim_neg)))) (sb_nil))
    (sb_cons (ss_if (st_op2 (so_var (i := 2) (fun _ => pv 2)) (so_ex (sv_of (se_trange1 (fun _ => rfl) (fun _ => rfl) (fun _ => T.tuple) (fun _ => rfl) (fun _ => T.range) (sv_of (se_prim (sa_cons (so_var (i := 2) (fun _ => pv 2)) (sa_nil)) (fun _ h z => pe_callB call_len (by rfl) T.len boot_len (h z)) prim_len))))) (fun _ _ ha hb z => pt_cmpR (op_neP hr.units) (ha z) (hb z) (nomark _)) prim_rd2) (sb_one (ss_raise (k := 0) (fun _ => O_BadTerm) (fun _ => hr.mono (by omega)) (fun _ => rfl) (fun _ => takes_of rfl rfl rfl rfl) (fun _ => by rfl) (fun _ => e_BadTerm.m) (sv_of (se_op1 (so_ex (sv_of (se_c (d := .int 3) (fun _ => pe_int) (fun _ => .int _)))) (fun _ h z => pe_un un_neg (h z)) prim_neg)))) (sb_nil))
    (sb_one (ss_ret (se_move (i := 0) (fun _ => pv 0))))))))
theorem ok_check_term__X (T : Txt K mg) {C_BadTerm : Addr} (e_BadTerm : ErrOk P K mg "BadTerm" C_BadTerm) (c_joined_lots : Cal P w K mg base "joined_lots" ["lots"] 1 false g_joined_lots []) (c_things_told : Cal P w K mg base "things_told" ["value"] 4 false g_things_told []) {f : Addr} {fd : FuncData} (F : Fun K "check_term" "check_term" s_check_term__X f fd) : FnOk P w K mg base (L2.CX P w) 5 f fd ["value"] (spX "BadTerm" C_BadTerm K false 1 g_check_term__X) :=
  fn_okX false F sc_check_term__X (by decide) fun cdv A outer s H E hr => sb_check_term__X T e_BadTerm c_joined_lots c_things_told cdv A outer s H E hr
theorem sc__law_box : FnScope ["script", "k", "cell", "great"] ["script", "k"] (defScope s__law_box) := ⟨rfl, rfl, rfl, by decide +kernel, rfl, by decide +kernel, by decide +kernel⟩
theorem sb__law_box (T : Txt K mg) {f : Addr} (cdv : Value) (A : Around) (outer : List Env) (s : Shared) (H : Hp) (E : XK) (hr : Room 0 (A.deeper (envOfC "_law_box" (defScope s__law_box) s.heap.objs.size f cdv))) :
    SB (fun _ : Unit => (cxOf CX0 P w K mg base ["script", "k", "cell", "great"] "_law_box" (defScope s__law_box) f cdv A outer s H E).nox) K WW0 (defBody s__law_box) b__law_box := by
  have nd := (sc__law_box).nd
  exact sb_cons (ss_set (i := 2) (se_op2 (so_ex (sv_of (se_op2 (so_ex (sv_of (se_c (d := .int 7919) (fun _ => pe_int) (fun _ => .int _)))) (so_var (i := 1) (fun _ => pv 1)) (fun _ _ ha hb z => pe_op op_mulT (ha z) (hb z)) prim_mulT))) (so_ex (sv_of (se_c (d := .int 3067) (fun _ => pe_int) (fun _ => .int _)))) (fun _ _ ha hb z => pe_op op_addD (ha z) (hb z)) prim_add) (fun _ h z => ps_set nd rfl (Or.inl rfl) (h z)))
    (sb_cons (ss_if (st_op2 (so_var (i := 1) (fun _ => pv 1)) (so_ex (sv_of (se_prim (sa_cons (so_var (i := 0) (fun _ => pv 0)) (sa_nil)) (fun _ h z => pe_callB call_len (by rfl) T.len boot_len (h z)) prim_len))) (fun _ _ ha hb z => pt_cmpR (op_ltD hr.units) (ha z) (hb z) (nomark _)) prim_rd2) (sb_one (ss_set (i := 2) (se_prim (sa_cons (so_ex (sv_of (se_prim (sa_cons (so_ex (sv_of (se_op2 (so_var (i := 0) (fun _ => pv 0)) (so_var (i := 1) (fun _ => pv 1)) (fun _ _ ha hb z => pe_ix ix_seq (ha z) (hb z) (fun _ _ => rfl)) prim_ix))) (sa_nil)) (fun _ h z => pe_callTy call_int1 (by rfl) T.int boot_int (h z)) prim_int))) (sa_nil)) (fun _ h z => pe_callB call_abs (by rfl) T.abs boot_abs (h z)) prim_abs) (fun _ h z => ps_set nd rfl (Or.inl rfl) (h z)))) (sb_one (ss_if (st_op2 (so_ex (sv_of (se_prim (sa_cons (so_var (i := 0) (fun _ => pv 0)) (sa_nil)) (fun _ h z => pe_callB call_len (by rfl) T.len boot_len (h z)) prim_len))) (so_ex (sv_of (se_c (d := .int 0) (fun _ => pe_int) (fun _ => .int _)))) (fun _ _ ha hb z => pt_cmpR (op_gtD hr.units) (ha z) (hb z) (nomark _)) prim_rd2) (sb_one (ss_set (i := 2) (se_op2 (so_var (i := 2) (fun _ => pv 2)) (so_ex (sv_of (se_op2 (so_ex (sv_of (se_op2 (so_ex (sv_of (se_prim (sa_cons (so_ex (sv_of (se_prim (sa_cons (so_ex (sv_of (se_prim (sa_cons (so_ex (sv_of (se_op2 (so_var (i := 0) (fun _ => pv 0)) (so_ex (sv_of (se_op2 (so_ex (sv_of (se_prim (sa_cons (so_var (i := 1) (fun _ => pv 1)) (sa_nil)) (fun _ h z => pe_callTy call_int1 (by rfl) T.int boot_int (h z)) prim_int))) (so_ex (sv_of (se_prim (sa_cons (so_var (i := 0) (fun _ => pv 0)) (sa_nil)) (fun _ h z => pe_callB call_len (by rfl) T.len boot_len (h z)) prim_len))) (fun _ _ ha hb z => pe_op op_mod (ha z) (hb z)) prim_mod))) (fun _ _ ha hb z => pe_ix ix_seq (ha z) (hb z) (fun _ _ => rfl)) prim_ix))) (sa_nil)) (fun _ h z => pe_callTy call_int1 (by rfl) T.int boot_int (h z)) prim_int))) (sa_nil)) (fun _ h z => pe_callB call_abs (by rfl) T.abs boot_abs (h z)) prim_abs))) (sa_nil)) (fun _ h z => pe_callTy call_int1 (by rfl) T.int boot_int (h z)) prim_int))) (so_ex (sv_of (se_c (d := .int 2147483563) (fun _ => pe_int) (fun _ => .int _)))) (fun _ _ ha hb z => pe_op op_mod (ha z) (hb z)) prim_mod))) (so_ex (sv_of (se_c (d := .int 48271) (fun _ => pe_int) (fun _ => .int _)))) (fun _ _ ha hb z => pe_op op_mulT (ha z) (hb z)) prim_mulT))) (fun _ _ ha hb z => pe_op op_addD (ha z) (hb z)) prim_add) (fun _ h z => ps_set nd rfl (Or.inl rfl) (h z)))) (sb_nil))))
    (sb_cons (ss_set (i := 3) (se_if (st_op2 (so_var (i := 2) (fun _ => pv 2)) (so_ex (sv_of (se_op2 (so_ex (sv_of (se_c (d := .int 10) (fun _ => pe_int) (fun _ => .int _)))) (so_ex (sv_of (se_c (d := .int 18) (fun _ => pe_int) (fun _ => .int _)))) (fun _ _ ha hb z => pe_op op_pow (ha z) (hb z)) prim_pow))) (fun _ _ ha hb z => pt_cmpR (op_geD hr.units) (ha z) (hb z) (nomark _)) prim_rd2) (se_var (i := 2) (fun _ => pv 2)) (se_c (d := .int 0) (fun _ => pe_int) (fun _ => .int _))) (fun _ h z => ps_set nd rfl (Or.inl rfl) (h z)))
    (sb_one (ss_ret (se_lst (sav_cons (sv_of (se_var (i := 3) (fun _ => pv 3))) (sav_cons (sv_of (se_op2 (so_ex (sv_of (se_op2 (so_ex (sv_of (se_prim (sa_cons (so_ex (sv_of (se_op2 (so_ex (sv_of (se_op2 (so_ex (sv_of (se_op2 (so_ex (sv_of (se_prim (sa_cons (so_var (i := 2) (fun _ => pv 2)) (sa_nil)) (fun _ h z => pe_callTy call_int1 (by rfl) T.int boot_int (h z)) prim_int))) (so_ex (sv_of (se_c (d := .int 2147483563) (fun _ => pe_int) (fun _ => .int _)))) (fun _ _ ha hb z => pe_op op_mod (ha z) (hb z)) prim_mod))) (so_ex (sv_of (se_c (d := .int 40014) (fun _ => pe_int) (fun _ => .int _)))) (fun _ _ ha hb z => pe_op op_mulT (ha z) (hb z)) prim_mulT))) (so_ex (sv_of (se_op2 (so_ex (sv_of (se_c (d := .int 3067) (fun _ => pe_int) (fun _ => .int _)))) (so_var (i := 1) (fun _ => pv 1)) (fun _ _ ha hb z => pe_op op_mulT (ha z) (hb z)) prim_mulT))) (fun _ _ ha hb z => pe_op op_addD (ha z) (hb z)) prim_add))) (sa_nil)) (fun _ h z => pe_callTy call_int1 (by rfl) T.int boot_int (h z)) prim_int))) (so_ex (sv_of (se_c (d := .int 2147483563) (fun _ => pe_int) (fun _ => .int _)))) (fun _ _ ha hb z => pe_op op_mod (ha z) (hb z)) prim_mod))) (so_ex (sv_of (se_c (d := .int 1) (fun _ => pe_int) (fun _ => .int _)))) (fun _ _ ha hb z => pe_op op_addD (ha z) (hb z)) prim_add)) (sav_nil))))))))
theorem ok__law_box (T : Txt K mg) {f : Addr} {fd : FuncData} (F : Fun K "_law_box" "_law_box" s__law_box f fd) : FnOk P w K mg base CX0 1 f fd ["script", "k"] (spF K false 2 g__law_box) :=
  fn_ok false F sc__law_box (by decide) fun cdv A outer s H E hr => sb__law_box T  cdv A outer s H E hr
theorem sc__law_take : FnScope ["box", "many", "digit", "raw"] ["box", "many"] (defScope s__law_take) := ⟨rfl, rfl, rfl, by decide +kernel, rfl, by decide +kernel, by decide +kernel⟩
theorem sb__law_take (T : Txt K mg) {f : Addr} (cdv : Value) (A : Around) (outer : List Env) (s : Shared) (H : Hp) (E : XK) (hr : Room 0 (A.deeper (envOfC "_law_take" (defScope s__law_take) s.heap.objs.size f cdv))) :
    SB (fun _ : Unit => (cxOf CX0 P w K mg base ["box", "many", "digit", "raw"] "_law_take" (defScope s__law_take) f cdv A outer s H E).nox) K WW0 (defBody s__law_take) b__law_take := by
  have nd := (sc__law_take).nd
  exact sb_cons (ss_if (st_op2 (so_ex (sv_of (se_op2 (so_var (i := 0) (fun _ => pv 0)) (so_ex (sv_of (se_c (d := .int 0) (fun _ => pe_int) (fun _ => .int _)))) (fun _ _ ha hb z => pe_ix ix_seq (ha z) (hb z) (fun _ _ => rfl)) prim_ix))) (so_ex (sv_of (se_c (d := .int 0) (fun _ => pe_int) (fun _ => .int _)))) (fun _ _ ha hb z => pt_cmpR (op_gtD hr.units) (ha z) (hb z) (nomark _)) prim_rd2) (sb_cons (ss_set (i := 2) (se_op2 (so_ex (sv_of (se_prim (sa_cons (so_ex (sv_of (se_op2 (so_var (i := 0) (fun _ => pv 0)) (so_ex (sv_of (se_c (d := .int 0) (fun _ => pe_int) (fun _ => .int _)))) (fun _ _ ha hb z => pe_ix ix_seq (ha z) (hb z) (fun _ _ => rfl)) prim_ix))) (sa_nil)) (fun _ h z => pe_callTy call_int1 (by rfl) T.int boot_int (h z)) prim_int))) (so_var (i := 1) (fun _ => pv 1)) (fun _ _ ha hb z => pe_op op_mod (ha z) (hb z)) prim_mod) (fun _ h z => ps_set nd rfl (Or.inl rfl) (h z)))
    (sb_cons (ss_setIx (i := 0) (sv_of (se_op2 (so_ex (sv_of (se_op2 (so_var (i := 0) (fun _ => pv 0)) (so_ex (sv_of (se_c (d := .int 0) (fun _ => pe_int) (fun _ => .int _)))) (fun _ _ ha hb z => pe_ix ix_seq (ha z) (hb z) (fun _ _ => rfl)) prim_ix))) (so_var (i := 1) (fun _ => pv 1)) (fun _ _ ha hb z => pe_op op_fdivW (ha z) (hb z)) prim_div)) (sv_of (se_c (d := .int 0) (fun _ => pe_int) (fun _ => .int _))) (fun _ _ h1 h2 z => ps_asg (h1 z) (pg_sub (pv 0) (h2 z) set_list)))
    (sb_one (ss_ret (se_move (i := 2) (fun _ => pv 2)))))) (sb_nil))
    (sb_cons (ss_set (i := 3) (se_op2 (so_ex (sv_of (se_prim (sa_cons (so_ex (sv_of (se_op2 (so_ex (sv_of (se_op2 (so_ex (sv_of (se_op2 (so_var (i := 0) (fun _ => pv 0)) (so_ex (sv_of (se_c (d := .int 1) (fun _ => pe_int) (fun _ => .int _)))) (fun _ _ ha hb z => pe_ix ix_seq (ha z) (hb z) (fun _ _ => rfl)) prim_ix))) (so_ex (sv_of (se_c (d := .int 39373) (fun _ => pe_int) (fun _ => .int _)))) (fun _ _ ha hb z => pe_op op_mulT (ha z) (hb z)) prim_mulT))) (so_ex (sv_of (se_c (d := .int 577) (fun _ => pe_int) (fun _ => .int _)))) (fun _ _ ha hb z => pe_op op_addD (ha z) (hb z)) prim_add))) (sa_nil)) (fun _ h z => pe_callTy call_int1 (by rfl) T.int boot_int (h z)) prim_int))) (so_ex (sv_of (se_c (d := .int 2147483647) (fun _ => pe_int) (fun _ => .int _)))) (fun _ _ ha hb z => pe_op op_mod (ha z) (hb z)) prim_mod) (fun _ h z => ps_set nd rfl (Or.inl rfl) (h z)))
    (sb_cons (ss_setIx (i := 0) (sv_of (se_op2 (so_ex (sv_of (se_op2 (so_ex (sv_of (se_prim (sa_cons (so_ex (sv_of (se_op2 (so_ex (sv_of (se_op2 (so_var (i := 3) (fun _ => pv 3)) (so_ex (sv_of (se_c (d := .int 40692) (fun _ => pe_int) (fun _ => .int _)))) (fun _ _ ha hb z => pe_op op_mulT (ha z) (hb z)) prim_mulT))) (so_ex (sv_of (se_c (d := .int 79) (fun _ => pe_int) (fun _ => .int _)))) (fun _ _ ha hb z => pe_op op_addD (ha z) (hb z)) prim_add))) (sa_nil)) (fun _ h z => pe_callTy call_int1 (by rfl) T.int boot_int (h z)) prim_int))) (so_ex (sv_of (se_c (d := .int 2147483399) (fun _ => pe_int) (fun _ => .int _)))) (fun _ _ ha hb z => pe_op op_mod (ha z) (hb z)) prim_mod))) (so_ex (sv_of (se_c (d := .int 1) (fun _ => pe_int) (fun _ => .int _)))) (fun _ _ ha hb z => pe_op op_addD (ha z) (hb z)) prim_add)) (sv_of (se_c (d := .int 1) (fun _ => pe_int) (fun _ => .int _))) (fun _ _ h1 h2 z => ps_asg (h1 z) (pg_sub (pv 0) (h2 z) set_list)))
    (sb_one (ss_ret (se_op2 (so_ex (sv_of (se_prim (sa_cons (so_ex (sv_of (se_op2 (so_ex (sv_of (se_op2 (so_ex (sv_of (se_op2 (so_var (i := 3) (fun _ => pv 3)) (so_ex (sv_of (se_c (d := .int 2147483629) (fun _ => pe_int) (fun _ => .int _)))) (fun _ _ ha hb z => pe_op op_mulT (ha z) (hb z)) prim_mulT))) (so_ex (sv_of (se_op2 (so_var (i := 0) (fun _ => pv 0)) (so_ex (sv_of (se_c (d := .int 1) (fun _ => pe_int) (fun _ => .int _)))) (fun _ _ ha hb z => pe_ix ix_seq (ha z) (hb z) (fun _ _ => rfl)) prim_ix))) (fun _ _ ha hb z => pe_op op_addD (ha z) (hb z)) prim_add))) (so_ex (sv_of (se_c (d := .int 8231) (fun _ => pe_int) (fun _ => .int _)))) (fun _ _ ha hb z => pe_op op_fdivW (ha z) (hb z)) prim_div))) (sa_nil)) (fun _ h z => pe_callTy call_int1 (by rfl) T.int boot_int (h z)) prim_int))) (so_var (i := 1) (fun _ => pv 1)) (fun _ _ ha hb z => pe_op op_mod (ha z) (hb z)) prim_mod)))))
theorem ok__law_take (T : Txt K mg) {f : Addr} {fd : FuncData} (F : Fun K "_law_take" "_law_take" s__law_take f fd) : FnOk P w K mg base CX0 1 f fd ["box", "many"] (spF K true 2 g__law_take) :=
  fn_ok true F sc__law_take (by decide) fun cdv A outer s H E hr => sb__law_take T  cdv A outer s H E hr
theorem sc__law_pick : FnScope ["box", "some"] ["box", "some"] (defScope s__law_pick) := ⟨rfl, rfl, rfl, by decide +kernel, rfl, by decide +kernel, by decide +kernel⟩
theorem sb__law_pick (T : Txt K mg) (c__law_take : Cal P w K mg base "_law_take" ["box", "many"] 1 true g__law_take []) {f : Addr} (cdv : Value) (A : Around) (outer : List Env) (s : Shared) (H : Hp) (E : XK) (hr : Room 1 (A.deeper (envOfC "_law_pick" (defScope s__law_pick) s.heap.objs.size f cdv))) :
    SB (fun _ : Unit => (cxOf CX0 P w K mg base ["box", "some"] "_law_pick" (defScope s__law_pick) f cdv A outer s H E).nox) K WW0 (defBody s__law_pick) b__law_pick := by
  obtain ⟨f_c__law_take, fd_c__law_take, G_c__law_take, m_c__law_take, k_c__law_take, b_c__law_take⟩ := c__law_take.ex
  have nd := (sc__law_pick).nd
  exact sb_one (ss_ret (se_op2 (so_var (i := 1) (fun _ => pv 1)) (so_ex (sv_of (se_callB (i := 0) (dvs := []) (dd := []) (np := 2) (fun _ => pv 0) (sav_cons (sv_of (se_prim (sa_cons (so_var (i := 1) (fun _ => pv 1)) (sa_nil)) (fun _ h z => pe_callB call_len (by rfl) T.len boot_len (h z)) prim_len)) (sav_nil)) rfl (fun _ => .nil) (fun _ => rfl) (fun _ h z => pe_call G_c__law_take (hr.mono (by omega)) (by rfl) m_c__law_take k_c__law_take b_c__law_take .nil pass0 (h z))))) (fun _ _ ha hb z => pe_ix ix_seq (ha z) (hb z) (fun _ _ => rfl)) prim_ix))
theorem ok__law_pick (T : Txt K mg) (c__law_take : Cal P w K mg base "_law_take" ["box", "many"] 1 true g__law_take []) {f : Addr} {fd : FuncData} (F : Fun K "_law_pick" "_law_pick" s__law_pick f fd) : FnOk P w K mg base CX0 2 f fd ["box", "some"] (spF K true 2 g__law_pick) :=
  fn_ok true F sc__law_pick (by decide) fun cdv A outer s H E hr => sb__law_pick T c__law_take cdv A outer s H E hr
theorem sc__law_shuffled : FnScope ["box", "some", "left", "found", "turn"] ["box", "some"] (defScope s__law_shuffled) := ⟨rfl, rfl, rfl, by decide +kernel, rfl, by decide +kernel, by decide +kernel⟩
theorem sb__law_shuffled (T : Txt K mg) (c__law_take : Cal P w K mg base "_law_take" ["box", "many"] 1 true g__law_take []) {f : Addr} (cdv : Value) (A : Around) (outer : List Env) (s : Shared) (H : Hp) (E : XK) (hr : Room 1 (A.deeper (envOfC "_law_shuffled" (defScope s__law_shuffled) s.heap.objs.size f cdv))) :
    SB (fun _ : Unit => (cxOf CX0 P w K mg base ["box", "some", "left", "found", "turn"] "_law_shuffled" (defScope s__law_shuffled) f cdv A outer s H E).nox) K WW0 (defBody s__law_shuffled) b__law_shuffled := by
  obtain ⟨f_c__law_take, fd_c__law_take, G_c__law_take, m_c__law_take, k_c__law_take, b_c__law_take⟩ := c__law_take.ex
  have nd := (sc__law_shuffled).nd
  exact sb_cons (ss_parA (by decide) (sar_cons (se_prim (sa_cons (so_var (i := 1) (fun _ => pv 1)) (sa_nil)) (fun _ h z => pe_callTy call_list_of (by rfl) T.list boot_list (h z)) prim_list) (sar_cons (se_lst (sav_nil)) (sar_nil))) (fun _ h z => ps_par rfl nd rfl rfl (by decide) rfl rfl (h z) rfl))
    (sb_cons (ss_for (fun _ => PassesOwn.never) (fun _ => rfl) (si_range1 (fun _ => rfl) (fun _ => T.range) (sav_cons (sv_of (se_prim (sa_cons (so_var (i := 1) (fun _ => pv 1)) (sa_nil)) (fun _ h z => pe_callB call_len (by rfl) T.len boot_len (h z)) prim_len)) (sav_nil))) (sg_name (i := 4) (fun _ => pg_name (i := 4) nd rfl (Or.inl rfl))) (sb_one (ss_drop (se_meth (i := 3) (sav_cons (sv_of (se_meth (i := 2) (sav_cons (sv_of (se_callB (i := 0) (dvs := []) (dd := []) (np := 2) (fun _ => pv 0) (sav_cons (sv_of (se_prim (sa_cons (so_var (i := 2) (fun _ => pv 2)) (sa_nil)) (fun _ h z => pe_callB call_len (by rfl) T.len boot_len (h z)) prim_len)) (sav_nil)) rfl (fun _ => .nil) (fun _ => rfl) (fun _ h z => pe_call G_c__law_take (hr.mono (by omega)) (by rfl) m_c__law_take k_c__law_take b_c__law_take .nil pass0 (h z)))) (sav_nil)) (fun _ h z => pe_bm PySem.F.plainAttrs_list PySem.F.slot_list_pop PySem.F.type_list_pop mt_popAt (pv 2) (h z)) prim_popAt)) (sav_nil)) (fun _ h z => pe_bm PySem.F.plainAttrs_list PySem.F.slot_list_append PySem.F.type_list_append mt_append (pv 3) (h z)) prim_append))))
    (sb_one (ss_ret (se_move (i := 3) (fun _ => pv 3)))))
theorem ok__law_shuffled (T : Txt K mg) (c__law_take : Cal P w K mg base "_law_take" ["box", "many"] 1 true g__law_take []) {f : Addr} {fd : FuncData} (F : Fun K "_law_shuffled" "_law_shuffled" s__law_shuffled f fd) : FnOk P w K mg base CX0 2 f fd ["box", "some"] (spF K true 2 g__law_shuffled) :=
  fn_ok true F sc__law_shuffled (by decide) fun cdv A outer s H E hr => sb__law_shuffled T c__law_take cdv A outer s H E hr
theorem sc__law_same : FnScope ["told", "due", "one", "other"] ["told", "due"] (defScope s__law_same) := ⟨rfl, rfl, rfl, by decide +kernel, rfl, by decide +kernel, by decide +kernel⟩
theorem sb__law_same {rec : Fn} {lv : Nat} (T : Txt K mg) (c_rec : Cal P w K mg base "_law_same" ["told", "due"] lv false rec []) (hlv : 0 ≤ lv) {f : Addr} (cdv : Value) (A : Around) (outer : List Env) (s : Shared) (H : Hp) (E : XK) (hr : Room lv (A.deeper (envOfC "_law_same" (defScope s__law_same) s.heap.objs.size f cdv))) :
    SB (fun _ : Unit => (cxOf CX0 P w K mg base ["told", "due", "one", "other"] "_law_same" (defScope s__law_same) f cdv A outer s H E).nox) K WW0 (defBody s__law_same) (b__law_same rec) := by
  obtain ⟨f_c_rec, fd_c_rec, G_c_rec, m_c_rec, k_c_rec, b_c_rec⟩ := c_rec.ex
  have nd := (sc__law_same).nd
  exact sb_cons (ss_if (st_val (sv_of (se_isi (so_var (i := 1) (fun _ => pv 1)) (fun _ => pe_bltn (by rfl) T.tuple boot_tuple rfl) kit_tuple (fun _ => rfl) (fun _ => rfl) (fun _ h z => pe_callB call_isi (by rfl) T.isinstance boot_isinstance (h z))))) (sb_cons (ss_if (SW.st (sw_or (st_not (st_val (sv_of (se_isi (so_var (i := 0) (fun _ => pv 0)) (fun _ => pe_bltn (by rfl) T.tuple boot_tuple rfl) kit_tuple (fun _ => rfl) (fun _ => rfl) (fun _ h z => pe_callB call_isi (by rfl) T.isinstance boot_isinstance (h z)))))) (sw_or1 (st_op2 (so_ex (sv_of (se_prim (sa_cons (so_var (i := 0) (fun _ => pv 0)) (sa_nil)) (fun _ h z => pe_callB call_len (by rfl) T.len boot_len (h z)) prim_len))) (so_ex (sv_of (se_prim (sa_cons (so_var (i := 1) (fun _ => pv 1)) (sa_nil)) (fun _ h z => pe_callB call_len (by rfl) T.len boot_len (h z)) prim_len))) (fun _ _ ha hb z => pt_cmpR (op_neP hr.units) (ha z) (hb z) (nomark _)) prim_rd2)))) (sb_one (ss_ret (se_c (d := .bool false) (fun _ => pe_bl) (fun _ => .bl _)))) (sb_nil))
    (sb_cons (ss_for (fun _ => PassesOwn.never) (fun _ => rfl) (si_zip (fun _ => rfl) (fun _ => rfl) (fun _ => T.zip) (sav_cons (sv_of (se_var (i := 0) (fun _ => pv 0))) (sav_cons (sv_of (se_var (i := 1) (fun _ => pv 1))) (sav_nil)))) (sg_tup (is := [2, 3]) (fun _ => pg_tup rfl (pgs_cons (pg_name (i := 2) nd rfl (Or.inl rfl)) (pgs_cons (pg_name (i := 3) nd rfl (Or.inl rfl)) pgs_nil)))) (sb_one (ss_if (st_not (st_val (sv_of (se_call (dvs := []) (dd := []) (np := 2) (sav_cons (sv_of (se_var (i := 2) (fun _ => pv 2))) (sav_cons (sv_of (se_var (i := 3) (fun _ => pv 3))) (sav_nil))) rfl (fun _ => .nil) (fun _ h z => pe_call G_c_rec (hr.mono (by omega)) (by rfl) m_c_rec k_c_rec b_c_rec .nil pass0 (h z)))))) (sb_one (ss_ret (se_c (d := .bool false) (fun _ => pe_bl) (fun _ => .bl _)))) (sb_nil))))
    (sb_one (ss_ret (se_c (d := .bool true) (fun _ => pe_bl) (fun _ => .bl _)))))) (sb_nil))
    (sb_cons (ss_if (st_op2 (so_var (i := 1) (fun _ => pv 1)) (so_ex (sv_of (se_c (d := .none) (fun _ => pe_non) (fun _ => .non)))) (fun _ _ ha hb z => pt_cmpR op_isN (ha z) (hb z) (nomark _)) prim_isN) (sb_one (ss_ret (se_op2 (so_var (i := 0) (fun _ => pv 0)) (so_ex (sv_of (se_c (d := .none) (fun _ => pe_non) (fun _ => .non)))) (fun _ _ ha hb z => pe_cmpR op_isN (ha z) (hb z) (nomark _)) prim_isN))) (sb_nil))
    (sb_cons (ss_if (SW.st (sw_or (st_op2 (so_var (i := 1) (fun _ => pv 1)) (so_ex (sv_of (se_c (d := .bool true) (fun _ => pe_bl) (fun _ => .bl _)))) (fun _ _ ha hb z => pt_cmpR op_isBo (ha z) (hb z) (nomark _)) prim_isBo) (sw_or1 (st_op2 (so_var (i := 1) (fun _ => pv 1)) (so_ex (sv_of (se_c (d := .bool false) (fun _ => pe_bl) (fun _ => .bl _)))) (fun _ _ ha hb z => pt_cmpR op_isBo (ha z) (hb z) (nomark _)) prim_isBo)))) (sb_one (ss_ret (se_and (sv_of (se_isi (so_var (i := 0) (fun _ => pv 0)) (fun _ => pe_bltn (by rfl) T.bool boot_bool rfl) kit_bool (fun _ => rfl) (fun _ => rfl) (fun _ h z => pe_callB call_isi (by rfl) T.isinstance boot_isinstance (h z)))) (se_one (se_op2 (so_var (i := 0) (fun _ => pv 0)) (so_var (i := 1) (fun _ => pv 1)) (fun _ _ ha hb z => pe_cmpR (op_eqP hr.units) (ha z) (hb z) (nomark _)) prim_rd2))))) (sb_nil))
    (sb_cons (ss_if (st_val (sv_of (se_isi (so_var (i := 1) (fun _ => pv 1)) (fun _ => pe_bltn (by rfl) T.int boot_int rfl) kit_int (fun _ => rfl) (fun _ => rfl) (fun _ h z => pe_callB call_isi (by rfl) T.isinstance boot_isinstance (h z))))) (sb_one (ss_ret (se_and (sv_of (se_isi (so_var (i := 0) (fun _ => pv 0)) (fun _ => pe_bltn (by rfl) T.int boot_int rfl) kit_int (fun _ => rfl) (fun _ => rfl) (fun _ h z => pe_callB call_isi (by rfl) T.isinstance boot_isinstance (h z)))) (se_and (sv_of (se_not (sv_of (se_isi (so_var (i := 0) (fun _ => pv 0)) (fun _ => pe_bltn (by rfl) T.bool boot_bool rfl) kit_bool (fun _ => rfl) (fun _ => rfl) (fun _ h z => pe_callB call_isi (by rfl) T.isinstance boot_isinstance (h z)))))) (se_one (se_op2 (so_var (i := 0) (fun _ => pv 0)) (so_var (i := 1) (fun _ => pv 1)) (fun _ _ ha hb z => pe_cmpR (op_eqP hr.units) (ha z) (hb z) (nomark _)) prim_rd2)))))) (sb_nil))
    (sb_one (ss_ret (se_and (sv_of (se_isi (so_var (i := 0) (fun _ => pv 0)) (fun _ => pe_bltn (by rfl) T.str boot_str rfl) kit_str (fun _ => rfl) (fun _ => rfl) (fun _ h z => pe_callB call_isi (by rfl) T.isinstance boot_isinstance (h z)))) (se_and (sv_of (se_isi (so_var (i := 1) (fun _ => pv 1)) (fun _ => pe_bltn (by rfl) T.str boot_str rfl) kit_str (fun _ => rfl) (fun _ => rfl) (fun _ h z => pe_callB call_isi (by rfl) T.isinstance boot_isinstance (h z)))) (se_one (se_op2 (so_var (i := 0) (fun _ => pv 0)) (so_var (i := 1) (fun _ => pv 1)) (fun _ _ ha hb z => pe_cmpR (op_eqP hr.units) (ha z) (hb z) (nomark _)) prim_rd2)))))))))
theorem ok__law_same (T : Txt K mg) {f : Addr} {fd : FuncData} (F : Fun K "_law_same" "_law_same" s__law_same f fd) (hm : mg "_law_same" = some (.ref f)) (hb : Binds K fd ["told", "due"] []) : ∀ n, FnOk P w K mg base CX0 (0 + n) f fd ["told", "due"] (spF K false 2 (gr__law_same n))
  | 0 => fn_stuck
  | n + 1 => fn_ok false F sc__law_same (by decide) fun cdv A outer s H E hr => sb__law_same T  ⟨_, _, ok__law_same T  F hm hb n, hm, F.kp, hb⟩ (Nat.le_add_right _ _) cdv A outer s H E hr
theorem sc__law_term : FnScope ["box", "most", "many", "things", "parts", "thing", "turn", "some", "one", "joined", "beside", "part", "longer", "way", "more", "kind"] ["box", "most", "many"] (defScope s__law_term) := ⟨rfl, rfl, rfl, by decide +kernel, rfl, by decide +kernel, by decide +kernel⟩
theorem sb__law_term (T : Txt K mg) (c__law_pick : Cal P w K mg base "_law_pick" ["box", "some"] 2 true g__law_pick []) (c__law_shuffled : Cal P w K mg base "_law_shuffled" ["box", "some"] 2 true g__law_shuffled []) (c__law_take : Cal P w K mg base "_law_take" ["box", "many"] 1 true g__law_take []) {f : Addr} (cdv : Value) (A : Around) (outer : List Env) (s : Shared) (H : Hp) (E : XK) (hr : Room 2 (A.deeper (envOfC "_law_term" (defScope s__law_term) s.heap.objs.size f cdv))) :
    SB (fun _ : Unit => (cxOf CX0 P w K mg base ["box", "most", "many", "things", "parts", "thing", "turn", "some", "one", "joined", "beside", "part", "longer", "way", "more", "kind"] "_law_term" (defScope s__law_term) f cdv A outer s H E).nox) K WW0 (defBody s__law_term) b__law_term := by
  obtain ⟨f_c__law_pick, fd_c__law_pick, G_c__law_pick, m_c__law_pick, k_c__law_pick, b_c__law_pick⟩ := c__law_pick.ex
  obtain ⟨f_c__law_shuffled, fd_c__law_shuffled, G_c__law_shuffled, m_c__law_shuffled, k_c__law_shuffled, b_c__law_shuffled⟩ := c__law_shuffled.ex
  obtain ⟨f_c__law_take, fd_c__law_take, G_c__law_take, m_c__law_take, k_c__law_take, b_c__law_take⟩ := c__law_take.ex
  have nd := (sc__law_term).nd
  exact sb_cons (ss_set (i := 3) (se_op2 (so_ex (sv_of (se_c (d := .int 1) (fun _ => pe_int) (fun _ => .int _)))) (so_ex (sv_of (se_callB (i := 0) (dvs := []) (dd := []) (np := 2) (fun _ => pv 0) (sav_cons (sv_of (se_var (i := 1) (fun _ => pv 1))) (sav_nil)) rfl (fun _ => .nil) (fun _ => rfl) (fun _ h z => pe_call G_c__law_take (hr.mono (by omega)) (by rfl) m_c__law_take k_c__law_take b_c__law_take .nil pass0 (h z))))) (fun _ _ ha hb z => pe_op op_addD (ha z) (hb z)) prim_add) (fun _ h z => ps_set nd rfl (Or.inl rfl) (h z)))
    (sb_cons (ss_set (i := 4) (se_comp (own := [("thing", 5)]) (fun _ => rfl) (fun _ => nd) (si_val (fun _ => rfl) (sv_of (se_callB (i := 0) (dvs := []) (dd := []) (np := 2) (fun _ => pv 0) (sav_cons (sv_of (se_lrange1 (fun _ => rfl) (fun _ => rfl) (fun _ => T.list) (fun _ => rfl) (fun _ => T.range) (sv_of (se_var (i := 3) (fun _ => pv 3))))) (sav_nil)) rfl (fun _ => .nil) (fun _ => rfl) (fun _ h z => pe_call G_c__law_shuffled (hr.mono (by omega)) (by rfl) m_c__law_shuffled k_c__law_shuffled b_c__law_shuffled .nil pass0 (h z))))) (fun _ => blkOk_by (by kernel_rfl)) (sg_name (i := 5) (fun _ => pg_name (i := 5) nd rfl (Or.inl rfl))) (by decide) (sts_nil) (sv_of (se_tup (sav_cons (sv_of (se_var (i := 5) (fun _ => pv 5))) (sav_cons (sv_of (se_lst (sav_cons (sv_of (se_tup (sav_cons (sv_of (se_var (i := 5) (fun _ => pv 5))) (sav_nil)))) (sav_nil)))) (sav_nil)))))) (fun _ h z => ps_set nd rfl (Or.inr rfl) (h z)))
    (sb_cons (ss_for (fun _ => PassesOwn.never) (fun _ => rfl) (si_range1 (fun _ => rfl) (fun _ => T.range) (sav_cons (sv_of (se_op2 (so_var (i := 3) (fun _ => pv 3)) (so_ex (sv_of (se_c (d := .int 1) (fun _ => pe_int) (fun _ => .int _)))) (fun _ _ ha hb z => pe_op op_sub (ha z) (hb z)) prim_sub)) (sav_nil))) (sg_name (i := 6) (fun _ => pg_name (i := 6) nd rfl (Or.inl rfl))) (sb_cons (ss_if (st_op2 (so_ex (sv_of (se_prim (sa_cons (so_var (i := 4) (fun _ => pv 4)) (sa_nil)) (fun _ h z => pe_callB call_len (by rfl) T.len boot_len (h z)) prim_len))) (so_ex (sv_of (se_c (d := .int 1) (fun _ => pe_int) (fun _ => .int _)))) (fun _ _ ha hb z => pt_cmpR (op_eqP hr.units) (ha z) (hb z) (nomark _)) prim_rd2) (sb_one (ss_break)) (sb_nil))
    (sb_cons (ss_setC (i := 7) (own := [("one", 8)]) (fun _ => rfl) (fun _ => nd) (fun _ => rfl) (fun _ => rfl) (fun _ => sw_true rfl rfl rfl (by decide +kernel)) (si_range1 (fun _ => rfl) (fun _ => T.range) (sav_cons (sv_of (se_prim (sa_cons (so_ex (sv_of (se_prim (sa_cons (so_var (i := 4) (fun _ => pv 4)) (sa_nil)) (fun _ h z => pe_callB call_len (by rfl) T.len boot_len (h z)) prim_len))) (sa_cons (so_ex (sv_of (se_callB (i := 0) (dvs := []) (dd := []) (np := 2) (fun _ => pv 0) (sav_cons (sv_of (se_lst (sav_cons (sv_of (se_c (d := .int 2) (fun _ => pe_int) (fun _ => .int _))) (sav_cons (sv_of (se_c (d := .int 2) (fun _ => pe_int) (fun _ => .int _))) (sav_cons (sv_of (se_c (d := .int 2) (fun _ => pe_int) (fun _ => .int _))) (sav_cons (sv_of (se_c (d := .int 3) (fun _ => pe_int) (fun _ => .int _))) (sav_nil))))))) (sav_nil)) rfl (fun _ => .nil) (fun _ => rfl) (fun _ h z => pe_call G_c__law_pick (hr.mono (by omega)) (by rfl) m_c__law_pick k_c__law_pick b_c__law_pick .nil pass0 (h z))))) (sa_nil))) (fun _ h z => pe_callB (call_min2 rfl) (by rfl) T.min boot_min (h z)) prim_min2)) (sav_nil))) (fun _ => blkOk_by (by kernel_rfl)) (sg_name (i := 8) (fun _ => pg_name (i := 8) nd rfl (Or.inl rfl))) (by decide) (sts_nil) (sv_of (se_meth (i := 4) (sav_cons (sv_of (se_callB (i := 0) (dvs := []) (dd := []) (np := 2) (fun _ => pv 0) (sav_cons (sv_of (se_prim (sa_cons (so_var (i := 4) (fun _ => pv 4)) (sa_nil)) (fun _ h z => pe_callB call_len (by rfl) T.len boot_len (h z)) prim_len)) (sav_nil)) rfl (fun _ => .nil) (fun _ => rfl) (fun _ h z => pe_call G_c__law_take (hr.mono (by omega)) (by rfl) m_c__law_take k_c__law_take b_c__law_take .nil pass0 (h z)))) (sav_nil)) (fun _ h z => pe_bm PySem.F.plainAttrs_list PySem.F.slot_list_pop PySem.F.type_list_pop mt_popAt (pv 4) (h z)) prim_popAt)))
    (sb_cons (ss_parA (by decide) (sar_cons (se_lst (sav_cons (sv_of (se_tup (sav_nil))) (sav_nil))) (sar_cons (se_lst (sav_nil)) (sar_nil))) (fun _ h z => ps_par rfl nd rfl rfl (by decide) rfl rfl (h z) rfl))
    (sb_cons (ss_for (fun _ => PassesOwn.never) (fun _ => rfl) (si_val (fun _ => rfl) (sv_of (se_var (i := 7) (fun _ => pv 7)))) (sg_name (i := 11) (fun _ => pg_name (i := 11) nd rfl (Or.inl rfl))) (sb_cons (ss_set (i := 12) (se_lst (sav_nil)) (fun _ h z => ps_set nd rfl (Or.inl rfl) (h z)))
    (sb_cons (ss_for (fun _ => PassesOwn.never) (fun _ => rfl) (si_val (fun _ => rfl) (sv_of (se_var (i := 9) (fun _ => pv 9)))) (sg_name (i := 13) (fun _ => pg_name (i := 13) nd rfl (Or.inr rfl))) (sb_one (ss_set (i := 12) (se_op2 (so_var (i := 12) (fun _ => pv 12)) (so_ex (sv_of (se_comp (own := [("more", 14)]) (fun _ => rfl) (fun _ => nd) (si_val (fun _ => rfl) (sv_of (se_op2 (so_var (i := 11) (fun _ => pv 11)) (so_ex (sv_of (se_c (d := .int 1) (fun _ => pe_int) (fun _ => .int _)))) (fun _ _ ha hb z => pe_ix ix_seq (ha z) (hb z) (fun _ _ => rfl)) prim_ix))) (fun _ => blkOk_by (by kernel_rfl)) (sg_name (i := 14) (fun _ => pg_name (i := 14) nd rfl (Or.inl rfl))) (by decide) (sts_nil) (sv_of (se_prim (sa_cons (so_ex (sv_of (se_prim (sa_cons (so_ex (sv_of (se_op2 (so_var (i := 13) (fun _ => pv 13)) (so_var (i := 14) (fun _ => pv 14)) (fun _ _ ha hb z => pe_op op_addD (ha z) (hb z)) prim_add))) (sa_nil)) (fun _ h z => pe_callB (cr_sortP hr.units) (by rfl) T.sorted boot_sorted (h z)) prim_sorted))) (sa_nil)) (fun _ h z => pe_callTy call_tuple_of (by rfl) T.tuple boot_tuple (h z)) prim_tuple))))) (fun _ _ ha hb z => pe_op op_addD (ha z) (hb z)) prim_add) (fun _ h z => ps_set nd rfl (Or.inl rfl) (h z)))))
    (sb_one (ss_parA (by decide) (sar_cons (se_var (i := 12) (fun _ => pv 12)) (sar_cons (se_op2 (so_var (i := 10) (fun _ => pv 10)) (so_ex (sv_of (se_op2 (so_var (i := 11) (fun _ => pv 11)) (so_ex (sv_of (se_c (d := .int 1) (fun _ => pe_int) (fun _ => .int _)))) (fun _ _ ha hb z => pe_ix ix_seq (ha z) (hb z) (fun _ _ => rfl)) prim_ix))) (fun _ _ ha hb z => pe_op op_addD (ha z) (hb z)) prim_add) (sar_nil))) (fun _ h z => ps_par rfl nd rfl rfl (by decide) rfl rfl (h z) rfl))))))
    (sb_cons (ss_set (i := 15) (se_if (SW.st (sw_and (st_op2 (so_ex (sv_of (se_callB (i := 0) (dvs := []) (dd := []) (np := 2) (fun _ => pv 0) (sav_cons (sv_of (se_c (d := .int 2) (fun _ => pe_int) (fun _ => .int _))) (sav_nil)) rfl (fun _ => .nil) (fun _ => rfl) (fun _ h z => pe_call G_c__law_take (hr.mono (by omega)) (by rfl) m_c__law_take k_c__law_take b_c__law_take .nil pass0 (h z))))) (so_ex (sv_of (se_c (d := .int 0) (fun _ => pe_int) (fun _ => .int _)))) (fun _ _ ha hb z => pt_cmpR (op_eqP hr.units) (ha z) (hb z) (nomark _)) prim_rd2) (sw_and1 (st_op2 (so_ex (sv_of (se_prim (sa_cons (so_var (i := 9) (fun _ => pv 9)) (sa_nil)) (fun _ h z => pe_callB call_len (by rfl) T.len boot_len (h z)) prim_len))) (so_var (i := 2) (fun _ => pv 2)) (fun _ _ ha hb z => pt_cmpR (op_leD hr.units) (ha z) (hb z) (nomark _)) prim_rd2)))) (se_c (d := .str "row") (fun _ => pe_str) (fun _ => .str _)) (se_c (d := .str "side") (fun _ => pe_str) (fun _ => .str _))) (fun _ h z => ps_set nd rfl (Or.inl rfl) (h z)))
    (sb_one (ss_drop (se_meth (i := 4) (sav_cons (sv_of (se_tup (sav_cons (sv_of (se_tup (sav_cons (sv_of (se_var (i := 15) (fun _ => pv 15))) (sav_cons (sv_of (se_prim (sa_cons (so_ex (sv_of (se_comp (own := [("part", 11)]) (fun _ => rfl) (fun _ => nd) (si_val (fun _ => rfl) (sv_of (se_var (i := 7) (fun _ => pv 7)))) (fun _ => blkOk_by (by kernel_rfl)) (sg_name (i := 11) (fun _ => pg_name (i := 11) nd rfl (Or.inl rfl))) (by decide) (sts_nil) (sv_of (se_op2 (so_var (i := 11) (fun _ => pv 11)) (so_ex (sv_of (se_c (d := .int 0) (fun _ => pe_int) (fun _ => .int _)))) (fun _ _ ha hb z => pe_ix ix_seq (ha z) (hb z) (fun _ _ => rfl)) prim_ix))))) (sa_nil)) (fun _ h z => pe_callTy call_tuple_of (by rfl) T.tuple boot_tuple (h z)) prim_tuple)) (sav_nil))))) (sav_cons (sv_of (se_if (st_op2 (so_var (i := 15) (fun _ => pv 15)) (so_ex (sv_of (se_c (d := .str "row") (fun _ => pe_str) (fun _ => .str _)))) (fun _ _ ha hb z => pt_cmpR (op_eqP hr.units) (ha z) (hb z) (nomark _)) prim_rd2) (se_var (i := 9) (fun _ => pv 9)) (se_var (i := 10) (fun _ => pv 10)))) (sav_nil))))) (sav_nil)) (fun _ h z => pe_bm PySem.F.plainAttrs_list PySem.F.slot_list_append PySem.F.type_list_append mt_append (pv 4) (h z)) prim_append)))))))))
    (sb_one (ss_ret (se_tup (sav_cons (sv_of (se_op2 (so_ex (sv_of (se_op2 (so_var (i := 4) (fun _ => pv 4)) (so_ex (sv_of (se_c (d := .int 0) (fun _ => pe_int) (fun _ => .int _)))) (fun _ _ ha hb z => pe_ix ix_seq (ha z) (hb z) (fun _ _ => rfl)) prim_ix))) (so_ex (sv_of (se_c (d := .int 0) (fun _ => pe_int) (fun _ => .int _)))) (fun _ _ ha hb z => pe_ix ix_seq (ha z) (hb z) (fun _ _ => rfl)) prim_ix)) (sav_cons (sv_of (se_prim (sa_cons (so_ex (sv_of (se_prim (sa_cons (so_ex (sv_of (se_op2 (so_ex (sv_of (se_op2 (so_var (i := 4) (fun _ => pv 4)) (so_ex (sv_of (se_c (d := .int 0) (fun _ => pe_int) (fun _ => .int _)))) (fun _ _ ha hb z => pe_ix ix_seq (ha z) (hb z) (fun _ _ => rfl)) prim_ix))) (so_ex (sv_of (se_c (d := .int 1) (fun _ => pe_int) (fun _ => .int _)))) (fun _ _ ha hb z => pe_ix ix_seq (ha z) (hb z) (fun _ _ => rfl)) prim_ix))) (sa_nil)) (fun _ h z => pe_callB (cr_sortP hr.units) (by rfl) T.sorted boot_sorted (h z)) prim_sorted))) (sa_nil)) (fun _ h z => pe_callTy call_tuple_of (by rfl) T.tuple boot_tuple (h z)) prim_tuple)) (sav_nil))))))))
theorem ok__law_term (T : Txt K mg) (c__law_pick : Cal P w K mg base "_law_pick" ["box", "some"] 2 true g__law_pick []) (c__law_shuffled : Cal P w K mg base "_law_shuffled" ["box", "some"] 2 true g__law_shuffled []) (c__law_take : Cal P w K mg base "_law_take" ["box", "many"] 1 true g__law_take []) {f : Addr} {fd : FuncData} (F : Fun K "_law_term" "_law_term" s__law_term f fd) : FnOk P w K mg base CX0 3 f fd ["box", "most", "many"] (spF K true 3 g__law_term) :=
  fn_ok true F sc__law_term (by decide) fun cdv A outer s H E hr => sb__law_term T c__law_pick c__law_shuffled c__law_take cdv A outer s H E hr
theorem sc__law_rows : FnScope ["term", "rows", "stack", "turn", "one", "ahead", "things", "number"] ["term"] (defScope s__law_rows) := ⟨rfl, rfl, rfl, by decide +kernel, rfl, by decide +kernel, by decide +kernel⟩
theorem sb__law_rows (T : Txt K mg) {f : Addr} (cdv : Value) (A : Around) (outer : List Env) (s : Shared) (H : Hp) (E : XK) (hr : Room 0 (A.deeper (envOfC "_law_rows" (defScope s__law_rows) s.heap.objs.size f cdv))) :
    SB (fun _ : Unit => (cxOf CX0 P w K mg base ["term", "rows", "stack", "turn", "one", "ahead", "things", "number"] "_law_rows" (defScope s__law_rows) f cdv A outer s H E).nox) K WW0 (defBody s__law_rows) b__law_rows := by
  have nd := (sc__law_rows).nd
  exact sb_cons (ss_init (i := 1) (j := 2) false (by decide) (se_lst (sav_nil)) (sar_cons (se_val (sv_of (se_var (i := 0) (fun _ => pv 0)))) (sar_cons (se_lst (sav_nil)) (sar_nil))) (fun _ h z => pe_lst (h z)) (fun _ h z => ps_par rfl nd rfl rfl (by decide) rfl rfl (h z) rfl))
    (sb_cons (ss_for (fun _ => PassesOwn.never) (fun _ => rfl) (si_range1 (fun _ => rfl) (fun _ => T.range) (sav_cons (sv_of (se_c (d := .int 200) (fun _ => pe_int) (fun _ => .int _))) (sav_nil))) (sg_name (i := 3) (fun _ => pg_name (i := 3) nd rfl (Or.inl rfl))) (sb_cons (ss_if (st_eqS (j := 2) (neg := false) (fun _ => pv 2) (fun _ _ ha hb z => pt_cmpR (eqNil2 hr.units) (ha z) (hb z) (nomark _))) (sb_one (ss_break)) (sb_nil))
    (sb_cons (ss_borrow (is := [4]) (ia := 5) (j := 2) (by decide) (by decide) (fun _ => pv 2) (sv_of (se_op1 (so_ex (sv_of (se_c (d := .int 1) (fun _ => pe_int) (fun _ => .int _)))) (fun _ h z => pe_un un_neg (h z)) prim_neg)) (fun _ _ ha hb z => ps_asg (pe_ix ix_seq (ha z) (hb z) (fun _ _ => rfl)) (pg_any (pg_tup rfl (pgs_cons (pg_name (i := 4) nd rfl (Or.inl rfl)) (pgs_cons (pg_name (i := 5) nd rfl (Or.inl rfl)) pgs_nil))) (pg_unl rfl (pgs_cons (pg_name (i := 4) nd rfl (Or.inl rfl)) (pgs_cons (pg_name (i := 5) nd rfl (Or.inl rfl)) pgs_nil))))))
    (sb_cons (ss_if (SW.st (sw_and (st_val (sv_of (se_isi (so_var (i := 4) (fun _ => pv 4)) (fun _ => pe_bltn (by rfl) T.tuple boot_tuple rfl) kit_tuple (fun _ => rfl) (fun _ => rfl) (fun _ h z => pe_callB call_isi (by rfl) T.isinstance boot_isinstance (h z))))) (sw_and1 (st_op2 (so_ex (sv_of (se_prim (sa_cons (so_var (i := 5) (fun _ => pv 5)) (sa_nil)) (fun _ h z => pe_callB call_len (by rfl) T.len boot_len (h z)) prim_len))) (so_ex (sv_of (se_prim (sa_cons (so_ex (sv_of (se_op2 (so_var (i := 4) (fun _ => pv 4)) (so_ex (sv_of (se_c (d := .int 1) (fun _ => pe_int) (fun _ => .int _)))) (fun _ _ ha hb z => pe_ix ix_seq (ha z) (hb z) (fun _ _ => rfl)) prim_ix))) (sa_nil)) (fun _ h z => pe_callB call_len (by rfl) T.len boot_len (h z)) prim_len))) (fun _ _ ha hb z => pt_cmpR (op_ltD hr.units) (ha z) (hb z) (nomark _)) prim_rd2)))) (sb_cons (ss_push (j := 2) false (sar_cons (se_val (sv_of (se_op2 (so_ex (sv_of (se_op2 (so_var (i := 4) (fun _ => pv 4)) (so_ex (sv_of (se_c (d := .int 1) (fun _ => pe_int) (fun _ => .int _)))) (fun _ _ ha hb z => pe_ix ix_seq (ha z) (hb z) (fun _ _ => rfl)) prim_ix))) (so_ex (sv_of (se_prim (sa_cons (so_var (i := 5) (fun _ => pv 5)) (sa_nil)) (fun _ h z => pe_callB call_len (by rfl) T.len boot_len (h z)) prim_len))) (fun _ _ ha hb z => pe_ix ix_seq (ha z) (hb z) (fun _ _ => rfl)) prim_ix))) (sar_cons (se_lst (sav_nil)) (sar_nil))) (fun _ h z => pe_lst (h z)) (fun _ h z => pe_bm PySem.F.plainAttrs_list PySem.F.slot_list_append PySem.F.type_list_append mt_append (pv 2) (h z)))
    (sb_one (ss_cont))) (sb_nil))
    (sb_cons (ss_if (st_val (sv_of (se_isi (so_var (i := 4) (fun _ => pv 4)) (fun _ => pe_bltn (by rfl) T.tuple boot_tuple rfl) kit_tuple (fun _ => rfl) (fun _ => rfl) (fun _ h z => pe_callB call_isi (by rfl) T.isinstance boot_isinstance (h z))))) (sb_cons (ss_set (i := 6) (se_lst (sav_nil)) (fun _ h z => ps_set nd rfl (Or.inl rfl) (h z)))
    (sb_cons (ss_for (fun _ => PassesOwn.never) (fun _ => rfl) (si_val (fun _ => rfl) (sv_of (se_var (i := 5) (fun _ => pv 5)))) (sg_name (i := 7) (fun _ => pg_name (i := 7) nd rfl (Or.inl rfl))) (sb_one (ss_set (i := 6) (se_op2 (so_var (i := 6) (fun _ => pv 6)) (so_ex (sv_of (se_prim (sa_cons (so_ex (sv_of (se_op2 (so_ex (sv_of (se_op2 (so_var (i := 1) (fun _ => pv 1)) (so_var (i := 7) (fun _ => pv 7)) (fun _ _ ha hb z => pe_ix ix_seq (ha z) (hb z) (fun _ _ => rfl)) prim_ix))) (so_ex (sv_of (se_c (d := .int 2) (fun _ => pe_int) (fun _ => .int _)))) (fun _ _ ha hb z => pe_ix ix_seq (ha z) (hb z) (fun _ _ => rfl)) prim_ix))) (sa_nil)) (fun _ h z => pe_callTy call_list_of (by rfl) T.list boot_list (h z)) prim_list))) (fun _ _ ha hb z => pe_op op_addD (ha z) (hb z)) prim_add) (fun _ h z => ps_set nd rfl (Or.inl rfl) (h z)))))
    (sb_one (ss_drop (se_meth (i := 1) (sav_cons (sv_of (se_tup (sav_cons (sv_of (se_op2 (so_var (i := 4) (fun _ => pv 4)) (so_ex (sv_of (se_c (d := .int 0) (fun _ => pe_int) (fun _ => .int _)))) (fun _ _ ha hb z => pe_ix ix_seq (ha z) (hb z) (fun _ _ => rfl)) prim_ix)) (sav_cons (sv_of (se_prim (sa_cons (so_var (i := 5) (fun _ => pv 5)) (sa_nil)) (fun _ h z => pe_callTy call_tuple_of (by rfl) T.tuple boot_tuple (h z)) prim_tuple)) (sav_cons (sv_of (se_prim (sa_cons (so_ex (sv_of (se_prim (sa_cons (so_var (i := 6) (fun _ => pv 6)) (sa_nil)) (fun _ h z => pe_callB (cr_sortP hr.units) (by rfl) T.sorted boot_sorted (h z)) prim_sorted))) (sa_nil)) (fun _ h z => pe_callTy call_tuple_of (by rfl) T.tuple boot_tuple (h z)) prim_tuple)) (sav_nil)))))) (sav_nil)) (fun _ h z => pe_bm PySem.F.plainAttrs_list PySem.F.slot_list_append PySem.F.type_list_append mt_append (pv 1) (h z)) prim_append))))) (sb_one (ss_drop (se_meth (i := 1) (sav_cons (sv_of (se_tup (sav_cons (sv_of (se_c (d := .none) (fun _ => pe_non) (fun _ => .non))) (sav_cons (sv_of (se_tup (sav_nil))) (sav_cons (sv_of (se_tup (sav_cons (sv_of (se_var (i := 4) (fun _ => pv 4))) (sav_nil)))) (sav_nil)))))) (sav_nil)) (fun _ h z => pe_bm PySem.F.plainAttrs_list PySem.F.slot_list_append PySem.F.type_list_append mt_append (pv 1) (h z)) prim_append))))
    (sb_cons (ss_popS (j := 2) (fun z => pe_bm0 PySem.F.plainAttrs_list PySem.F.slot_list_pop PySem.F.type_list_pop mt_pop (pv 2)))
    (sb_one (ss_if (st_eqS (j := 2) (neg := true) (fun _ => pv 2) (fun _ _ ha hb z => pt_cmpR (neNil2 hr.units) (ha z) (hb z) (nomark _))) (sb_one (ss_topApp (j := 2) (fun _ => pv 2) (sv_of (se_op1 (so_ex (sv_of (se_c (d := .int 1) (fun _ => pe_int) (fun _ => .int _)))) (fun _ h z => pe_un un_neg (h z)) prim_neg)) (sv_of (se_c (d := .int 1) (fun _ => pe_int) (fun _ => .int _))) (sv_of (se_op2 (so_ex (sv_of (se_prim (sa_cons (so_var (i := 1) (fun _ => pv 1)) (sa_nil)) (fun _ h z => pe_callB call_len (by rfl) T.len boot_len (h z)) prim_len))) (so_ex (sv_of (se_c (d := .int 1) (fun _ => pe_int) (fun _ => .int _)))) (fun _ _ ha hb z => pe_op op_sub (ha z) (hb z)) prim_sub)) (fun _ _ _ _ ha hb hc h z => pe_bm PySem.F.plainAttrs_list PySem.F.slot_list_append PySem.F.type_list_append mt_append (pe_ix ix_seq (pe_ix ix_seq (ha z) (hb z) (fun _ _ => rfl)) (hc z) (fun _ _ => rfl)) (h z)))) (sb_nil)))))))))
    (sb_one (ss_ret (se_move (i := 1) (fun _ => pv 1)))))
theorem ok__law_rows (T : Txt K mg) {f : Addr} {fd : FuncData} (F : Fun K "_law_rows" "_law_rows" s__law_rows f fd) : FnOk P w K mg base CX0 1 f fd ["term"] (spF K false 1 g__law_rows) :=
  fn_ok false F sc__law_rows (by decide) fun cdv A outer s H E hr => sb__law_rows T  cdv A outer s H E hr
theorem sc__law_term_fault : FnScope ["value", "level", "found", "turn", "deeper", "one"] ["value"] (defScope s__law_term_fault) := ⟨rfl, rfl, rfl, by decide +kernel, rfl, by decide +kernel, by decide +kernel⟩
theorem sb__law_term_fault (T : Txt K mg) {f : Addr} (cdv : Value) (A : Around) (outer : List Env) (s : Shared) (H : Hp) (E : XK) (hr : Room 0 (A.deeper (envOfC "_law_term_fault" (defScope s__law_term_fault) s.heap.objs.size f cdv))) :
    SB (fun _ : Unit => (cxOf CX0 P w K mg base ["value", "level", "found", "turn", "deeper", "one"] "_law_term_fault" (defScope s__law_term_fault) f cdv A outer s H E).nox) K WW0 (defBody s__law_term_fault) b__law_term_fault := by
  have nd := (sc__law_term_fault).nd
  exact sb_cons (ss_parA (by decide) (sar_cons (se_lst (sav_cons (sv_of (se_var (i := 0) (fun _ => pv 0))) (sav_nil))) (sar_cons (se_lst (sav_nil)) (sar_nil))) (fun _ h z => ps_par rfl nd rfl rfl (by decide) rfl rfl (h z) rfl))
    (sb_cons (ss_for (fun _ => PassesOwn.never) (fun _ => rfl) (si_range1 (fun _ => rfl) (fun _ => T.range) (sav_cons (sv_of (se_c (d := .int 13) (fun _ => pe_int) (fun _ => .int _))) (sav_nil))) (sg_name (i := 3) (fun _ => pg_name (i := 3) nd rfl (Or.inl rfl))) (sb_cons (ss_if (st_op2 (so_var (i := 1) (fun _ => pv 1)) (so_ex (sv_of (se_lst (sav_nil)))) (fun _ _ ha hb z => pt_cmpR (op_eqP hr.units) (ha z) (hb z) (nomark _)) prim_rd2) (sb_one (ss_break)) (sb_nil))
    (sb_cons (ss_set (i := 4) (se_lst (sav_nil)) (fun _ h z => ps_set nd rfl (Or.inl rfl) (h z)))
    (sb_cons (ss_for (fun _ => PassesOwn.never) (fun _ => rfl) (si_val (fun _ => rfl) (sv_of (se_var (i := 1) (fun _ => pv 1)))) (sg_name (i := 5) (fun _ => pg_name (i := 5) nd rfl (Or.inl rfl))) (sb_one (ss_if (SW.st (sw_and (st_val (sv_of (se_isi (so_var (i := 5) (fun _ => pv 5)) (fun _ => pe_bltn (by rfl) T.int boot_int rfl) kit_int (fun _ => rfl) (fun _ => rfl) (fun _ h z => pe_callB call_isi (by rfl) T.isinstance boot_isinstance (h z))))) (sw_and (st_not (st_val (sv_of (se_isi (so_var (i := 5) (fun _ => pv 5)) (fun _ => pe_bltn (by rfl) T.bool boot_bool rfl) kit_bool (fun _ => rfl) (fun _ => rfl) (fun _ h z => pe_callB call_isi (by rfl) T.isinstance boot_isinstance (h z)))))) (sw_and (st_op2 (so_ex (sv_of (se_c (d := .int 0) (fun _ => pe_int) (fun _ => .int _)))) (so_var (i := 5) (fun _ => pv 5)) (fun _ _ ha hb z => pt_cmpR (op_leD hr.units) (ha z) (hb z) (nomark _)) prim_rd2) (sw_and1 (st_op2 (so_var (i := 5) (fun _ => pv 5)) (so_ex (sv_of (se_c (d := .int 11) (fun _ => pe_int) (fun _ => .int _)))) (fun _ _ ha hb z => pt_cmpR (op_leD hr.units) (ha z) (hb z) (nomark _)) prim_rd2)))))) (sb_one (ss_drop (se_meth (i := 2) (sav_cons (sv_of (se_var (i := 5) (fun _ => pv 5))) (sav_nil)) (fun _ h z => pe_bm PySem.F.plainAttrs_list PySem.F.slot_list_append PySem.F.type_list_append mt_append (pv 2) (h z)) prim_append))) (sb_one (ss_if (SW.st (sw_and (st_val (sv_of (se_isi (so_var (i := 5) (fun _ => pv 5)) (fun _ => pe_bltn (by rfl) T.tuple boot_tuple rfl) kit_tuple (fun _ => rfl) (fun _ => rfl) (fun _ h z => pe_callB call_isi (by rfl) T.isinstance boot_isinstance (h z))))) (sw_and (st_op2 (so_ex (sv_of (se_prim (sa_cons (so_var (i := 5) (fun _ => pv 5)) (sa_nil)) (fun _ h z => pe_callB call_len (by rfl) T.len boot_len (h z)) prim_len))) (so_ex (sv_of (se_c (d := .int 2) (fun _ => pe_int) (fun _ => .int _)))) (fun _ _ ha hb z => pt_cmpR (op_eqP hr.units) (ha z) (hb z) (nomark _)) prim_rd2) (sw_and (st_val (sv_of (se_isi (so_ex (sv_of (se_op2 (so_var (i := 5) (fun _ => pv 5)) (so_ex (sv_of (se_c (d := .int 0) (fun _ => pe_int) (fun _ => .int _)))) (fun _ _ ha hb z => pe_ix ix_seq (ha z) (hb z) (fun _ _ => rfl)) prim_ix))) (fun _ => pe_bltn (by rfl) T.str boot_str rfl) kit_str (fun _ => rfl) (fun _ => rfl) (fun _ h z => pe_callB call_isi (by rfl) T.isinstance boot_isinstance (h z))))) (sw_and (st_op2 (so_ex (sv_of (se_op2 (so_var (i := 5) (fun _ => pv 5)) (so_ex (sv_of (se_c (d := .int 0) (fun _ => pe_int) (fun _ => .int _)))) (fun _ _ ha hb z => pe_ix ix_seq (ha z) (hb z) (fun _ _ => rfl)) prim_ix))) (so_ex (sv_of (se_tup (sav_cons (sv_of (se_c (d := .str "side") (fun _ => pe_str) (fun _ => .str _))) (sav_cons (sv_of (se_c (d := .str "row") (fun _ => pe_str) (fun _ => .str _))) (sav_nil)))))) (fun _ _ ha hb z => pt_cmpR (op_inP hr.units) (ha z) (hb z) (by with_unfolding_all rfl)) prim_rd2) (sw_and (st_val (sv_of (se_isi (so_ex (sv_of (se_op2 (so_var (i := 5) (fun _ => pv 5)) (so_ex (sv_of (se_c (d := .int 1) (fun _ => pe_int) (fun _ => .int _)))) (fun _ _ ha hb z => pe_ix ix_seq (ha z) (hb z) (fun _ _ => rfl)) prim_ix))) (fun _ => pe_bltn (by rfl) T.tuple boot_tuple rfl) kit_tuple (fun _ => rfl) (fun _ => rfl) (fun _ h z => pe_callB call_isi (by rfl) T.isinstance boot_isinstance (h z))))) (sw_and1 (st_op2 (so_ex (sv_of (se_prim (sa_cons (so_ex (sv_of (se_op2 (so_var (i := 5) (fun _ => pv 5)) (so_ex (sv_of (se_c (d := .int 1) (fun _ => pe_int) (fun _ => .int _)))) (fun _ _ ha hb z => pe_ix ix_seq (ha z) (hb z) (fun _ _ => rfl)) prim_ix))) (sa_nil)) (fun _ h z => pe_callB call_len (by rfl) T.len boot_len (h z)) prim_len))) (so_ex (sv_of (se_c (d := .int 1) (fun _ => pe_int) (fun _ => .int _)))) (fun _ _ ha hb z => pt_cmpR (op_gtD hr.units) (ha z) (hb z) (nomark _)) prim_rd2)))))))) (sb_one (ss_set (i := 4) (se_op2 (so_var (i := 4) (fun _ => pv 4)) (so_ex (sv_of (se_prim (sa_cons (so_ex (sv_of (se_op2 (so_var (i := 5) (fun _ => pv 5)) (so_ex (sv_of (se_c (d := .int 1) (fun _ => pe_int) (fun _ => .int _)))) (fun _ _ ha hb z => pe_ix ix_seq (ha z) (hb z) (fun _ _ => rfl)) prim_ix))) (sa_nil)) (fun _ h z => pe_callTy call_list_of (by rfl) T.list boot_list (h z)) prim_list))) (fun _ _ ha hb z => pe_op op_addD (ha z) (hb z)) prim_add) (fun _ h z => ps_set nd rfl (Or.inl rfl) (h z)))) (sb_one (ss_ret (se_op1 (so_ex (sv_of (se_c (d := .int 1) (fun _ => pe_int) (fun _ => .int _)))) (fun _ h z => pe_un un_neg (h z)) prim_neg))))))))
    (sb_cons (ss_if (SW.st (sw_or (st_op2 (so_var (i := 3) (fun _ => pv 3)) (so_ex (sv_of (se_c (d := .int 12) (fun _ => pe_int) (fun _ => .int _)))) (fun _ _ ha hb z => pt_cmpR (op_eqP hr.units) (ha z) (hb z) (nomark _)) prim_rd2) (sw_or1 (st_op2 (so_ex (sv_of (se_op2 (so_ex (sv_of (se_prim (sa_cons (so_var (i := 2) (fun _ => pv 2)) (sa_nil)) (fun _ h z => pe_callB call_len (by rfl) T.len boot_len (h z)) prim_len))) (so_ex (sv_of (se_prim (sa_cons (so_var (i := 4) (fun _ => pv 4)) (sa_nil)) (fun _ h z => pe_callB call_len (by rfl) T.len boot_len (h z)) prim_len))) (fun _ _ ha hb z => pe_op op_addD (ha z) (hb z)) prim_add))) (so_ex (sv_of (se_c (d := .int 24) (fun _ => pe_int) (fun _ => .int _)))) (fun _ _ ha hb z => pt_cmpR (op_gtD hr.units) (ha z) (hb z) (nomark _)) prim_rd2)))) (sb_one (ss_ret (se_op1 (so_ex (sv_of (se_c (d := .int 1) (fun _ => pe_int) (fun _ => .int _)))) (fun _ h z => pe_un un_neg (h z)) prim_neg))) (sb_nil))
    (sb_one (ss_set (i := 1) (se_var (i := 4) (fun _ => pv 4)) (fun _ h z => ps_set nd rfl (Or.inl rfl) (h z)))))))))
    (sb_cons (ss_if (st_op2 (so_ex (sv_of (se_diff (so_var (i := 2) (fun _ => pv 2)) (fun _ h z => pe_diff (by rfl) T.len (by rfl) T.set rfl (h z))))) (so_ex (sv_of (se_prim (sa_cons (so_var (i := 2) (fun _ => pv 2)) (sa_nil)) (fun _ h z => pe_callB call_len (by rfl) T.len boot_len (h z)) prim_len))) (fun _ _ ha hb z => pt_cmpR (op_ltD hr.units) (ha z) (hb z) (nomark _)) prim_rd2) (sb_one (ss_ret (se_op1 (so_ex (sv_of (se_c (d := .int 2) (fun _ => pe_int) (fun _ => .int _)))) (fun _ h z => pe_un un_neg (h z)) prim_neg))) (sb_nil))
    (sb_one (ss_ret (se_if (st_op2 (so_ex (sv_of (se_prim (sa_cons (so_var (i := 2) (fun _ => pv 2)) (sa_nil)) (fun _ h z => pe_callB (cr_sortP hr.units) (by rfl) T.sorted boot_sorted (h z)) prim_sorted))) (so_ex (sv_of (se_lrange1 (fun _ => rfl) (fun _ => rfl) (fun _ => T.list) (fun _ => rfl) (fun _ => T.range) (sv_of (se_prim (sa_cons (so_var (i := 2) (fun _ => pv 2)) (sa_nil)) (fun _ h z => pe_callB call_len (by rfl) T.len boot_len (h z)) prim_len))))) (fun _ _ ha hb z => pt_cmpR (op_eqP hr.units) (ha z) (hb z) (nomark _)) prim_rd2) (se_c (d := .none) (fun _ => pe_non) (fun _ => .non)) (se_op1 (so_ex (sv_of (se_c (d := .int 3) (fun _ => pe_int) (fun _ => .int _)))) (fun _ h z => pe_un un_neg (h z)) prim_neg))))))
theorem ok__law_term_fault (T : Txt K mg) {f : Addr} {fd : FuncData} (F : Fun K "_law_term_fault" "_law_term_fault" s__law_term_fault f fd) : FnOk P w K mg base CX0 1 f fd ["value"] (spF K false 1 g__law_term_fault) :=
  fn_ok false F sc__law_term_fault (by decide) fun cdv A outer s H E hr => sb__law_term_fault T  cdv A outer s H E hr
theorem sc__law_rebuilt : FnScope ["rows", "spot", "odd", "told", "number", "row", "kind", "numbers", "things", "one", "part"] ["rows", "spot", "odd"] (defScope s__law_rebuilt) := ⟨rfl, rfl, rfl, by decide +kernel, rfl, by decide +kernel, by decide +kernel⟩
theorem sb__law_rebuilt (T : Txt K mg) {f : Addr} (cdv : Value) (A : Around) (outer : List Env) (s : Shared) (H : Hp) (E : XK) (hr : Room 0 (A.deeper (envOfC "_law_rebuilt" (defScope s__law_rebuilt) s.heap.objs.size f cdv))) :
    SB (fun _ : Unit => (cxOf CX0 P w K mg base ["rows", "spot", "odd", "told", "number", "row", "kind", "numbers", "things", "one", "part"] "_law_rebuilt" (defScope s__law_rebuilt) f cdv A outer s H E).nox) K WW0 (defBody s__law_rebuilt) b__law_rebuilt := by
  have nd := (sc__law_rebuilt).nd
  exact sb_cons (ss_set (i := 3) (se_lst (sav_nil)) (fun _ h z => ps_set nd rfl (Or.inr rfl) (h z)))
    (sb_cons (ss_for (fun _ => PassesOwn.never) (fun _ => rfl) (si_enum (fun _ => rfl) (fun _ => rfl) (fun _ => T.enumerate) (sav_cons (sv_of (se_var (i := 0) (fun _ => pv 0))) (sav_nil))) (sg_tup (is := [4, 5]) (fun _ => pg_tup rfl (pgs_cons (pg_name (i := 4) nd rfl (Or.inl rfl)) (pgs_cons (pg_name (i := 5) nd rfl (Or.inl rfl)) pgs_nil)))) (sb_cons (ss_unp (is := [6, 7, 8]) (sv_of (se_var (i := 5) (fun _ => pv 5))) (fun _ h z => ps_asg (h z) (pg_tup rfl (pgs_cons (pg_name (i := 6) nd rfl (Or.inl rfl)) (pgs_cons (pg_name (i := 7) nd rfl (Or.inl rfl)) (pgs_cons (pg_name (i := 8) nd rfl (Or.inl rfl)) pgs_nil))))))
    (sb_cons (ss_set (i := 9) (se_if (st_op2 (so_var (i := 6) (fun _ => pv 6)) (so_ex (sv_of (se_c (d := .none) (fun _ => pe_non) (fun _ => .non)))) (fun _ _ ha hb z => pt_cmpR op_isN (ha z) (hb z) (nomark _)) prim_isN) (se_op2 (so_var (i := 8) (fun _ => pv 8)) (so_ex (sv_of (se_c (d := .int 0) (fun _ => pe_int) (fun _ => .int _)))) (fun _ _ ha hb z => pe_ix ix_seq (ha z) (hb z) (fun _ _ => rfl)) prim_ix) (se_tup (sav_cons (sv_of (se_var (i := 6) (fun _ => pv 6))) (sav_cons (sv_of (se_prim (sa_cons (so_ex (sv_of (se_comp (own := [("part", 10)]) (fun _ => rfl) (fun _ => nd) (si_val (fun _ => rfl) (sv_of (se_var (i := 7) (fun _ => pv 7)))) (fun _ => blkOk_by (by kernel_rfl)) (sg_name (i := 10) (fun _ => pg_name (i := 10) nd rfl (Or.inl rfl))) (by decide) (sts_nil) (sv_of (se_op2 (so_var (i := 3) (fun _ => pv 3)) (so_var (i := 10) (fun _ => pv 10)) (fun _ _ ha hb z => pe_ix ix_seq (ha z) (hb z) (fun _ _ => rfl)) prim_ix))))) (sa_nil)) (fun _ h z => pe_callTy call_tuple_of (by rfl) T.tuple boot_tuple (h z)) prim_tuple)) (sav_nil))))) (fun _ h z => ps_set nd rfl (Or.inl rfl) (h z)))
    (sb_one (ss_drop (se_meth (i := 3) (sav_cons (sv_of (se_if (st_op2 (so_var (i := 4) (fun _ => pv 4)) (so_var (i := 1) (fun _ => pv 1)) (fun _ _ ha hb z => pt_cmpR (op_eqP hr.units) (ha z) (hb z) (nomark _)) prim_rd2) (se_var (i := 2) (fun _ => pv 2)) (se_var (i := 9) (fun _ => pv 9)))) (sav_nil)) (fun _ h z => pe_bm PySem.F.plainAttrs_list PySem.F.slot_list_append PySem.F.type_list_append mt_append (pv 3) (h z)) prim_append))))))
    (sb_one (ss_ret (se_op2 (so_var (i := 3) (fun _ => pv 3)) (so_ex (sv_of (se_op1 (so_ex (sv_of (se_c (d := .int 1) (fun _ => pe_int) (fun _ => .int _)))) (fun _ h z => pe_un un_neg (h z)) prim_neg))) (fun _ _ ha hb z => pe_ix ix_seq (ha z) (hb z) (fun _ _ => rfl)) prim_ix))))
theorem ok__law_rebuilt (T : Txt K mg) {f : Addr} {fd : FuncData} (F : Fun K "_law_rebuilt" "_law_rebuilt" s__law_rebuilt f fd) : FnOk P w K mg base CX0 1 f fd ["rows", "spot", "odd"] (spF K false 3 g__law_rebuilt) :=
  fn_ok false F sc__law_rebuilt (by decide) fun cdv A outer s H E hr => sb__law_rebuilt T  cdv A outer s H E hr
theorem sc__law_heard : FnScope ["value", "named", "fault", "others"] ["value", "named"] (defScope s__law_heard) := ⟨rfl, rfl, rfl, by decide +kernel, rfl, by decide +kernel, by decide +kernel⟩
theorem sb__law_heard (T : Txt K mg) {C_BadTerm : Addr} (e_BadTerm : ErrOk P K mg "BadTerm" C_BadTerm) {C_OwnError C_BadFamily C_BadOctets C_BadState C_BadTables C_BadText C_BadTimes C_BadWeb C_Refused : Addr} (k_BadTerm_OwnError : CatchOk K mg C_BadTerm C_OwnError "OwnError" ["BadFamily", "BadOctets", "BadState", "BadTables", "BadText", "BadTimes", "BadWeb", "Refused"] [C_BadFamily, C_BadOctets, C_BadState, C_BadTables, C_BadText, C_BadTimes, C_BadWeb, C_Refused]) (ckx_check_term_value : CalXK P w K mg base "BadTerm" C_BadTerm "check_term" ["value"] ["value"] 5 g_check_term__X [0] 1) (c_check_term__X : CalX P w K mg base "BadTerm" C_BadTerm "check_term" ["value"] 5 g_check_term__X) {f : Addr} (cdv : Value) (A : Around) (outer : List Env) (s : Shared) (H : Hp) (E : XK) (hr : Room 5 (A.deeper (envOfC "_law_heard" (defScope s__law_heard) s.heap.objs.size f cdv))) :
    SB (fun _ : Unit => (cxOf CX0 P w K mg base ["value", "named", "fault", "others"] "_law_heard" (defScope s__law_heard) f cdv A outer s H E).nox) K WW0 (defBody s__law_heard) b__law_heard := by
  obtain ⟨fI_BadTerm, fdI_BadTerm, me_BadTerm, O_BadTerm⟩ := e_BadTerm.ex
  obtain ⟨f_ckx_check_term_value, fd_ckx_check_term_value, G_ckx_check_term_value, m_ckx_check_term_value, k_ckx_check_term_value, b_ckx_check_term_value⟩ := ckx_check_term_value.ex
  obtain ⟨f_c_check_term__X, fd_c_check_term__X, G_c_check_term__X, m_c_check_term__X, k_c_check_term__X, b_c_check_term__X⟩ := c_check_term__X.ex
  have nd := (sc__law_heard).nd
  exact sb_one (ss_try2 (i := 2) (o := 3) (fun _ => rfl) (fun _ => rfl) (fun _ => nd) (fun _ => rfl) (fun _ => rfl) (fun _ => rfl) (fun _ => rfl) (by decide) (fun _ => ⟨by rfl, by decide, .inl k_BadTerm_OwnError.mo⟩) (fun _ => rfl) k_BadTerm_OwnError.exm e_BadTerm.xf k_BadTerm_OwnError.isc e_BadTerm.no k_BadTerm_OwnError.any k_BadTerm_OwnError.one k_BadTerm_OwnError.ve (fun _ => by rfl) (fun _ => T.isinstance) (fun _ => by rfl) (fun _ => e_BadTerm.m) (fun _ => by rfl) (fun _ => T.ValueError) (fun _ _ _ _ _ => pv 2) (fun _ _ _ _ _ => pv 3) (fun _ _ _ _ => pa_cons (pe_glob (by rfl) (k_BadTerm_OwnError.ms ("BadFamily", C_BadFamily) (by simp)) rfl) (pa_cons (pe_glob (by rfl) (k_BadTerm_OwnError.ms ("BadOctets", C_BadOctets) (by simp)) rfl) (pa_cons (pe_glob (by rfl) (k_BadTerm_OwnError.ms ("BadState", C_BadState) (by simp)) rfl) (pa_cons (pe_glob (by rfl) (k_BadTerm_OwnError.ms ("BadTables", C_BadTables) (by simp)) rfl) (pa_cons (pe_glob (by rfl) (k_BadTerm_OwnError.ms ("BadText", C_BadText) (by simp)) rfl) (pa_cons (pe_glob (by rfl) (k_BadTerm_OwnError.ms ("BadTimes", C_BadTimes) (by simp)) rfl) (pa_cons (pe_glob (by rfl) (k_BadTerm_OwnError.ms ("BadWeb", C_BadWeb) (by simp)) rfl) (pa_cons (pe_glob (by rfl) (k_BadTerm_OwnError.ms ("Refused", C_Refused) (by simp)) rfl) (pa_nil))))))))) (by simp) (by decide) (fun W => sb_one (ss_ret (se_tup (sav_cons (sv_of (se_c (d := .str "told") (fun _ => pe_str) (fun _ => .str _))) (sav_cons (sv_of (se_if (st_val (sv_of (se_var (i := 1) (fun _ => pv 1)))) (se_callXK (np := 1) (skw_cons (sv_of (se_var (i := 0) (fun _ => pv 0))) (skw_nil)) (fun _ h z => pe_callKS0 G_ckx_check_term_value (hr.mono (by omega)) (by rfl) m_ckx_check_term_value k_ckx_check_term_value b_ckx_check_term_value (passAt z.2.1) (h z))) (se_callX (np := 1) (sav_cons (sv_of (se_var (i := 0) (fun _ => pv 0))) (sav_nil)) rfl (fun _ h z => pe_callS G_c_check_term__X (hr.mono (by omega)) (by rfl) m_c_check_term__X k_c_check_term__X b_c_check_term__X (passAt z.2.1) (h z))))) (sav_nil)))))) (by decide))
theorem ok__law_heard (T : Txt K mg) {C_BadTerm : Addr} (e_BadTerm : ErrOk P K mg "BadTerm" C_BadTerm) {C_OwnError C_BadFamily C_BadOctets C_BadState C_BadTables C_BadText C_BadTimes C_BadWeb C_Refused : Addr} (k_BadTerm_OwnError : CatchOk K mg C_BadTerm C_OwnError "OwnError" ["BadFamily", "BadOctets", "BadState", "BadTables", "BadText", "BadTimes", "BadWeb", "Refused"] [C_BadFamily, C_BadOctets, C_BadState, C_BadTables, C_BadText, C_BadTimes, C_BadWeb, C_Refused]) (ckx_check_term_value : CalXK P w K mg base "BadTerm" C_BadTerm "check_term" ["value"] ["value"] 5 g_check_term__X [0] 1) (c_check_term__X : CalX P w K mg base "BadTerm" C_BadTerm "check_term" ["value"] 5 g_check_term__X) {f : Addr} {fd : FuncData} (F : Fun K "_law_heard" "_law_heard" s__law_heard f fd) : FnOk P w K mg base CX0 6 f fd ["value", "named"] (spF K false 2 g__law_heard) :=
  fn_ok false F sc__law_heard (by decide) fun cdv A outer s H E hr => sb__law_heard T e_BadTerm k_BadTerm_OwnError ckx_check_term_value c_check_term__X cdv A outer s H E hr
theorem sc__law_chain : FnScope ["things", "term", "number", "thing"] ["things"] (defScope s__law_chain) := ⟨rfl, rfl, rfl, by decide +kernel, rfl, by decide +kernel, by decide +kernel⟩
theorem sb__law_chain (T : Txt K mg) {f : Addr} (cdv : Value) (A : Around) (outer : List Env) (s : Shared) (H : Hp) (E : XK) (hr : Room 0 (A.deeper (envOfC "_law_chain" (defScope s__law_chain) s.heap.objs.size f cdv))) :
    SB (fun _ : Unit => (cxOf CX0 P w K mg base ["things", "term", "number", "thing"] "_law_chain" (defScope s__law_chain) f cdv A outer s H E).nox) K WW0 (defBody s__law_chain) b__law_chain := by
  have nd := (sc__law_chain).nd
  exact sb_cons (ss_set (i := 1) (se_op2 (so_var (i := 0) (fun _ => pv 0)) (so_ex (sv_of (se_op1 (so_ex (sv_of (se_c (d := .int 1) (fun _ => pe_int) (fun _ => .int _)))) (fun _ h z => pe_un un_neg (h z)) prim_neg))) (fun _ _ ha hb z => pe_ix ix_seq (ha z) (hb z) (fun _ _ => rfl)) prim_ix) (fun _ h z => ps_set nd rfl (Or.inl rfl) (h z)))
    (sb_cons (ss_for (fun _ => PassesOwn.never) (fun _ => rfl) (si_enum (fun _ => rfl) (fun _ => rfl) (fun _ => T.enumerate) (sav_cons (sv_of (se_rev (fun _ => rfl) (so_ex (sv_of (se_sl (fun _ => rfl) (so_var (i := 0) (fun _ => pv 0)) (sp_none) (sp_some (sv_of (se_op1 (so_ex (sv_of (se_c (d := .int 1) (fun _ => pe_int) (fun _ => .int _)))) (fun _ h z => pe_un un_neg (h z)) prim_neg)))))))) (sav_nil))) (sg_tup (is := [2, 3]) (fun _ => pg_tup rfl (pgs_cons (pg_name (i := 2) nd rfl (Or.inl rfl)) (pgs_cons (pg_name (i := 3) nd rfl (Or.inl rfl)) pgs_nil)))) (sb_one (ss_set (i := 1) (se_tup (sav_cons (sv_of (se_if (st_op2 (so_ex (sv_of (se_op2 (so_ex (sv_of (se_prim (sa_cons (so_var (i := 2) (fun _ => pv 2)) (sa_nil)) (fun _ h z => pe_callTy call_int1 (by rfl) T.int boot_int (h z)) prim_int))) (so_ex (sv_of (se_c (d := .int 2) (fun _ => pe_int) (fun _ => .int _)))) (fun _ _ ha hb z => pe_op op_mod (ha z) (hb z)) prim_mod))) (so_ex (sv_of (se_c (d := .int 0) (fun _ => pe_int) (fun _ => .int _)))) (fun _ _ ha hb z => pt_cmpR (op_eqP hr.units) (ha z) (hb z) (nomark _)) prim_rd2) (se_c (d := .str "side") (fun _ => pe_str) (fun _ => .str _)) (se_c (d := .str "row") (fun _ => pe_str) (fun _ => .str _)))) (sav_cons (sv_of (se_tup (sav_cons (sv_of (se_var (i := 3) (fun _ => pv 3))) (sav_cons (sv_of (se_var (i := 1) (fun _ => pv 1))) (sav_nil))))) (sav_nil)))) (fun _ h z => ps_set nd rfl (Or.inl rfl) (h z)))))
    (sb_one (ss_ret (se_move (i := 1) (fun _ => pv 1)))))
theorem ok__law_chain (T : Txt K mg) {f : Addr} {fd : FuncData} (F : Fun K "_law_chain" "_law_chain" s__law_chain f fd) : FnOk P w K mg base CX0 1 f fd ["things"] (spF K false 1 g__law_chain) :=
  fn_ok false F sc__law_chain (by decide) fun cdv A outer s H E hr => sb__law_chain T  cdv A outer s H E hr
theorem sc__law_bent : FnScope ["box", "term", "rows", "spot", "thing", "things", "odd", "told", "way"] ["box", "term"] (defScope s__law_bent) := ⟨rfl, rfl, rfl, by decide +kernel, rfl, by decide +kernel, by decide +kernel⟩
theorem sb__law_bent (T : Txt K mg) (c__law_pick : Cal P w K mg base "_law_pick" ["box", "some"] 2 true g__law_pick []) (c__law_rebuilt : Cal P w K mg base "_law_rebuilt" ["rows", "spot", "odd"] 1 false g__law_rebuilt []) (c__law_rows : Cal P w K mg base "_law_rows" ["term"] 1 false g__law_rows []) (c__law_take : Cal P w K mg base "_law_take" ["box", "many"] 1 true g__law_take []) {f : Addr} (cdv : Value) (A : Around) (outer : List Env) (s : Shared) (H : Hp) (E : XK) (hr : Room 2 (A.deeper (envOfC "_law_bent" (defScope s__law_bent) s.heap.objs.size f cdv))) :
    SB (fun _ : Unit => (cxOf CX0 P w K mg base ["box", "term", "rows", "spot", "thing", "things", "odd", "told", "way"] "_law_bent" (defScope s__law_bent) f cdv A outer s H E).nox) K WW0 (defBody s__law_bent) b__law_bent := by
  obtain ⟨f_c__law_pick, fd_c__law_pick, G_c__law_pick, m_c__law_pick, k_c__law_pick, b_c__law_pick⟩ := c__law_pick.ex
  obtain ⟨f_c__law_rebuilt, fd_c__law_rebuilt, G_c__law_rebuilt, m_c__law_rebuilt, k_c__law_rebuilt, b_c__law_rebuilt⟩ := c__law_rebuilt.ex
  obtain ⟨f_c__law_rows, fd_c__law_rows, G_c__law_rows, m_c__law_rows, k_c__law_rows, b_c__law_rows⟩ := c__law_rows.ex
  obtain ⟨f_c__law_take, fd_c__law_take, G_c__law_take, m_c__law_take, k_c__law_take, b_c__law_take⟩ := c__law_take.ex
  have nd := (sc__law_bent).nd
  exact sb_cons (ss_set (i := 2) (se_call (dvs := []) (dd := []) (np := 1) (sav_cons (sv_of (se_var (i := 1) (fun _ => pv 1))) (sav_nil)) rfl (fun _ => .nil) (fun _ h z => pe_call G_c__law_rows (hr.mono (by omega)) (by rfl) m_c__law_rows k_c__law_rows b_c__law_rows .nil pass0 (h z))) (fun _ h z => ps_set nd rfl (Or.inl rfl) (h z)))
    (sb_cons (ss_parB (by decide) (by decide) (by decide) (sar_cons (se_callB (i := 0) (dvs := []) (dd := []) (np := 2) (fun _ => pv 0) (sav_cons (sv_of (se_prim (sa_cons (so_var (i := 2) (fun _ => pv 2)) (sa_nil)) (fun _ h z => pe_callB call_len (by rfl) T.len boot_len (h z)) prim_len)) (sav_nil)) rfl (fun _ => .nil) (fun _ => rfl) (fun _ h z => pe_call G_c__law_take (hr.mono (by omega)) (by rfl) m_c__law_take k_c__law_take b_c__law_take .nil pass0 (h z))) (sar_cons (se_callB (i := 0) (dvs := []) (dd := []) (np := 2) (fun _ => pv 0) (sav_cons (sv_of (se_c (d := .int 13) (fun _ => pe_int) (fun _ => .int _))) (sav_nil)) rfl (fun _ => .nil) (fun _ => rfl) (fun _ h z => pe_call G_c__law_take (hr.mono (by omega)) (by rfl) m_c__law_take k_c__law_take b_c__law_take .nil pass0 (h z))) (sar_cons (se_prim (sa_cons (so_ex (sv_of (se_op2 (so_ex (sv_of (se_op2 (so_var (i := 2) (fun _ => pv 2)) (so_ex (sv_of (se_op1 (so_ex (sv_of (se_c (d := .int 1) (fun _ => pe_int) (fun _ => .int _)))) (fun _ h z => pe_un un_neg (h z)) prim_neg))) (fun _ _ ha hb z => pe_ix ix_seq (ha z) (hb z) (fun _ _ => rfl)) prim_ix))) (so_ex (sv_of (se_c (d := .int 2) (fun _ => pe_int) (fun _ => .int _)))) (fun _ _ ha hb z => pe_ix ix_seq (ha z) (hb z) (fun _ _ => rfl)) prim_ix))) (sa_nil)) (fun _ h z => pe_callTy call_list_of (by rfl) T.list boot_list (h z)) prim_list) (sar_nil)))) (fun _ h z => ps_par3 rfl nd rfl rfl rfl (by decide) (by decide) (by decide) rfl rfl rfl (h z) rfl))
    (sb_cons (ss_set (i := 6) (se_lst (sav_cons (sv_of (se_c (d := .none) (fun _ => pe_non) (fun _ => .non))) (sav_cons (sv_of (se_c (d := .bool true) (fun _ => pe_bl) (fun _ => .bl _))) (sav_cons (sv_of (se_op1 (so_ex (sv_of (se_c (d := .int 1) (fun _ => pe_int) (fun _ => .int _)))) (fun _ h z => pe_un un_neg (h z)) prim_neg)) (sav_cons (sv_of (se_c (d := .int 12) (fun _ => pe_int) (fun _ => .int _))) (sav_cons (sv_of (se_op2 (so_ex (sv_of (se_c (d := .int 10) (fun _ => pe_int) (fun _ => .int _)))) (so_ex (sv_of (se_c (d := .int 30) (fun _ => pe_int) (fun _ => .int _)))) (fun _ _ ha hb z => pe_op op_pow (ha z) (hb z)) prim_pow)) (sav_cons (sv_of (se_c (d := .str "side") (fun _ => pe_str) (fun _ => .str _))) (sav_cons (sv_of (se_tup (sav_nil))) (sav_cons (sv_of (se_tup (sav_cons (sv_of (se_c (d := .str "side") (fun _ => pe_str) (fun _ => .str _))) (sav_nil)))) (sav_cons (sv_of (se_tup (sav_cons (sv_of (se_c (d := .str "row") (fun _ => pe_str) (fun _ => .str _))) (sav_cons (sv_of (se_tup (sav_nil))) (sav_nil))))) (sav_cons (sv_of (se_tup (sav_cons (sv_of (se_c (d := .str "side") (fun _ => pe_str) (fun _ => .str _))) (sav_cons (sv_of (se_tup (sav_cons (sv_of (se_var (i := 4) (fun _ => pv 4))) (sav_nil)))) (sav_nil))))) (sav_cons (sv_of (se_tup (sav_cons (sv_of (se_c (d := .str "row") (fun _ => pe_str) (fun _ => .str _))) (sav_cons (sv_of (se_lst (sav_cons (sv_of (se_c (d := .int 0) (fun _ => pe_int) (fun _ => .int _))) (sav_cons (sv_of (se_c (d := .int 1) (fun _ => pe_int) (fun _ => .int _))) (sav_nil))))) (sav_nil))))) (sav_cons (sv_of (se_tup (sav_cons (sv_of (se_c (d := .str "both") (fun _ => pe_str) (fun _ => .str _))) (sav_cons (sv_of (se_tup (sav_cons (sv_of (se_c (d := .int 0) (fun _ => pe_int) (fun _ => .int _))) (sav_cons (sv_of (se_c (d := .int 1) (fun _ => pe_int) (fun _ => .int _))) (sav_nil))))) (sav_nil))))) (sav_nil)))))))))))))) (fun _ h z => ps_set nd rfl (Or.inl rfl) (h z)))
    (sb_cons (ss_set (i := 6) (se_op2 (so_var (i := 6) (fun _ => pv 6)) (so_ex (sv_of (se_lst (sav_cons (sv_of (se_tup (sav_cons (sv_of (se_c (d := .str "side") (fun _ => pe_str) (fun _ => .str _))) (sav_cons (sv_of (se_tup (sav_cons (sv_of (se_c (d := .int 0) (fun _ => pe_int) (fun _ => .int _))) (sav_cons (sv_of (se_c (d := .int 1) (fun _ => pe_int) (fun _ => .int _))) (sav_nil))))) (sav_cons (sv_of (se_c (d := .int 2) (fun _ => pe_int) (fun _ => .int _))) (sav_nil)))))) (sav_cons (sv_of (se_lst (sav_cons (sv_of (se_c (d := .str "side") (fun _ => pe_str) (fun _ => .str _))) (sav_cons (sv_of (se_tup (sav_cons (sv_of (se_c (d := .int 0) (fun _ => pe_int) (fun _ => .int _))) (sav_cons (sv_of (se_c (d := .int 1) (fun _ => pe_int) (fun _ => .int _))) (sav_nil))))) (sav_nil))))) (sav_cons (sv_of (se_tup (sav_cons (sv_of (se_c (d := .int 0) (fun _ => pe_int) (fun _ => .int _))) (sav_cons (sv_of (se_c (d := .int 1) (fun _ => pe_int) (fun _ => .int _))) (sav_nil))))) (sav_cons (sv_of (se_var (i := 4) (fun _ => pv 4))) (sav_cons (sv_of (se_var (i := 4) (fun _ => pv 4))) (sav_cons (sv_of (se_tup (sav_cons (sv_of (se_c (d := .str "row") (fun _ => pe_str) (fun _ => .str _))) (sav_cons (sv_of (se_tup (sav_cons (sv_of (se_var (i := 4) (fun _ => pv 4))) (sav_cons (sv_of (se_prim (sa_cons (so_var (i := 5) (fun _ => pv 5)) (sa_nil)) (fun _ h z => pe_callB call_len (by rfl) T.len boot_len (h z)) prim_len)) (sav_nil))))) (sav_nil))))) (sav_cons (sv_of (se_tup (sav_cons (sv_of (se_tup (sav_cons (sv_of (se_c (d := .str "side") (fun _ => pe_str) (fun _ => .str _))) (sav_cons (sv_of (se_tup (sav_cons (sv_of (se_c (d := .int 0) (fun _ => pe_int) (fun _ => .int _))) (sav_cons (sv_of (se_c (d := .int 1) (fun _ => pe_int) (fun _ => .int _))) (sav_nil))))) (sav_nil))))) (sav_nil)))) (sav_cons (sv_of (se_tup (sav_cons (sv_of (se_c (d := .str "side") (fun _ => pe_str) (fun _ => .str _))) (sav_cons (sv_of (se_c (d := .none) (fun _ => pe_non) (fun _ => .non))) (sav_nil))))) (sav_nil)))))))))))) (fun _ _ ha hb z => pe_op op_addD (ha z) (hb z)) prim_add) (fun _ h z => ps_set nd rfl (Or.inl rfl) (h z)))
    (sb_cons (ss_set (i := 7) (se_call (dvs := []) (dd := []) (np := 3) (sav_cons (sv_of (se_var (i := 2) (fun _ => pv 2))) (sav_cons (sv_of (se_var (i := 3) (fun _ => pv 3))) (sav_cons (sv_of (se_callB (i := 0) (dvs := []) (dd := []) (np := 2) (fun _ => pv 0) (sav_cons (sv_of (se_var (i := 6) (fun _ => pv 6))) (sav_nil)) rfl (fun _ => .nil) (fun _ => rfl) (fun _ h z => pe_call G_c__law_pick (hr.mono (by omega)) (by rfl) m_c__law_pick k_c__law_pick b_c__law_pick .nil pass0 (h z)))) (sav_nil)))) rfl (fun _ => .nil) (fun _ h z => pe_call G_c__law_rebuilt (hr.mono (by omega)) (by rfl) m_c__law_rebuilt k_c__law_rebuilt b_c__law_rebuilt .nil pass0 (h z))) (fun _ h z => ps_set nd rfl (Or.inl rfl) (h z)))
    (sb_cons (ss_set (i := 8) (se_callB (i := 0) (dvs := []) (dd := []) (np := 2) (fun _ => pv 0) (sav_cons (sv_of (se_c (d := .int 6) (fun _ => pe_int) (fun _ => .int _))) (sav_nil)) rfl (fun _ => .nil) (fun _ => rfl) (fun _ h z => pe_call G_c__law_take (hr.mono (by omega)) (by rfl) m_c__law_take k_c__law_take b_c__law_take .nil pass0 (h z))) (fun _ h z => ps_set nd rfl (Or.inl rfl) (h z)))
    (sb_cons (ss_if (st_op2 (so_var (i := 8) (fun _ => pv 8)) (so_ex (sv_of (se_c (d := .int 0) (fun _ => pe_int) (fun _ => .int _)))) (fun _ _ ha hb z => pt_cmpR (op_eqP hr.units) (ha z) (hb z) (nomark _)) prim_rd2) (sb_one (ss_ret (se_tup (sav_cons (sv_of (se_c (d := .str "row") (fun _ => pe_str) (fun _ => .str _))) (sav_cons (sv_of (se_tup (sav_cons (sv_of (se_var (i := 7) (fun _ => pv 7))) (sav_cons (sv_of (se_prim (sa_cons (so_var (i := 5) (fun _ => pv 5)) (sa_nil)) (fun _ h z => pe_callB call_len (by rfl) T.len boot_len (h z)) prim_len)) (sav_nil))))) (sav_nil)))))) (sb_nil))
    (sb_cons (ss_if (st_op2 (so_var (i := 8) (fun _ => pv 8)) (so_ex (sv_of (se_c (d := .int 1) (fun _ => pe_int) (fun _ => .int _)))) (fun _ _ ha hb z => pt_cmpR (op_eqP hr.units) (ha z) (hb z) (nomark _)) prim_rd2) (sb_one (ss_ret (se_tup (sav_cons (sv_of (se_c (d := .str "side") (fun _ => pe_str) (fun _ => .str _))) (sav_cons (sv_of (se_prim (sa_cons (so_ex (sv_of (se_op2 (so_var (i := 5) (fun _ => pv 5)) (so_ex (sv_of (se_lst (sav_cons (sv_of (se_var (i := 4) (fun _ => pv 4))) (sav_nil))))) (fun _ _ ha hb z => pe_op op_addD (ha z) (hb z)) prim_add))) (sa_nil)) (fun _ h z => pe_callTy call_tuple_of (by rfl) T.tuple boot_tuple (h z)) prim_tuple)) (sav_nil)))))) (sb_nil))
    (sb_one (ss_ret (se_move (i := 7) (fun _ => pv 7)))))))))))
theorem ok__law_bent (T : Txt K mg) (c__law_pick : Cal P w K mg base "_law_pick" ["box", "some"] 2 true g__law_pick []) (c__law_rebuilt : Cal P w K mg base "_law_rebuilt" ["rows", "spot", "odd"] 1 false g__law_rebuilt []) (c__law_rows : Cal P w K mg base "_law_rows" ["term"] 1 false g__law_rows []) (c__law_take : Cal P w K mg base "_law_take" ["box", "many"] 1 true g__law_take []) {f : Addr} {fd : FuncData} (F : Fun K "_law_bent" "_law_bent" s__law_bent f fd) : FnOk P w K mg base CX0 3 f fd ["box", "term"] (spF K true 2 g__law_bent) :=
  fn_ok true F sc__law_bent (by decide) fun cdv A outer s H E hr => sb__law_bent T c__law_pick c__law_rebuilt c__law_rows c__law_take cdv A outer s H E hr
theorem sc_law : FnScope ["script", "k", "box", "term", "ways", "names", "values", "turn", "number", "value", "due"] ["script"] (defScope s_law) := ⟨rfl, rfl, rfl, by decide +kernel, rfl, by decide +kernel, by decide +kernel⟩
theorem sb_law (T : Txt K mg) (c__law_bent : Cal P w K mg base "_law_bent" ["box", "term"] 3 true g__law_bent []) (c__law_box : Cal P w K mg base "_law_box" ["script", "k"] 1 false g__law_box []) (c__law_chain : Cal P w K mg base "_law_chain" ["things"] 1 false g__law_chain []) (c__law_heard : Cal P w K mg base "_law_heard" ["value", "named"] 6 false g__law_heard []) (c__law_same : Cal P w K mg base "_law_same" ["told", "due"] 26 false g__law_same []) (c__law_shuffled : Cal P w K mg base "_law_shuffled" ["box", "some"] 2 true g__law_shuffled []) (c__law_term : Cal P w K mg base "_law_term" ["box", "most", "many"] 3 true g__law_term []) (c__law_term_fault : Cal P w K mg base "_law_term_fault" ["value"] 1 false g__law_term_fault []) {f : Addr} (cdv : Value) (A : Around) (outer : List Env) (s : Shared) (H : Hp) (E : XK) (hr : Room 26 (A.deeper (envOfC "law" (defScope s_law) s.heap.objs.size f cdv))) :
    SB (fun _ : Unit => (cxOf CX0 P w K mg base ["script", "k", "box", "term", "ways", "names", "values", "turn", "number", "value", "due"] "law" (defScope s_law) f cdv A outer s H E).nox) K WW0 (defBody s_law) b_law := by
  obtain ⟨f_c__law_bent, fd_c__law_bent, G_c__law_bent, m_c__law_bent, k_c__law_bent, b_c__law_bent⟩ := c__law_bent.ex
  obtain ⟨f_c__law_box, fd_c__law_box, G_c__law_box, m_c__law_box, k_c__law_box, b_c__law_box⟩ := c__law_box.ex
  obtain ⟨f_c__law_chain, fd_c__law_chain, G_c__law_chain, m_c__law_chain, k_c__law_chain, b_c__law_chain⟩ := c__law_chain.ex
  obtain ⟨f_c__law_heard, fd_c__law_heard, G_c__law_heard, m_c__law_heard, k_c__law_heard, b_c__law_heard⟩ := c__law_heard.ex
  obtain ⟨f_c__law_same, fd_c__law_same, G_c__law_same, m_c__law_same, k_c__law_same, b_c__law_same⟩ := c__law_same.ex
  obtain ⟨f_c__law_shuffled, fd_c__law_shuffled, G_c__law_shuffled, m_c__law_shuffled, k_c__law_shuffled, b_c__law_shuffled⟩ := c__law_shuffled.ex
  obtain ⟨f_c__law_term, fd_c__law_term, G_c__law_term, m_c__law_term, k_c__law_term, b_c__law_term⟩ := c__law_term.ex
  obtain ⟨f_c__law_term_fault, fd_c__law_term_fault, G_c__law_term_fault, m_c__law_term_fault, k_c__law_term_fault, b_c__law_term_fault⟩ := c__law_term_fault.ex
  have nd := (sc_law).nd
  exact sb_cons (ss_for (fun _ => PassesOwn.never) (fun _ => rfl) (si_range1 (fun _ => rfl) (fun _ => T.range) (sav_cons (sv_of (se_prim (sa_cons (so_ex (sv_of (se_c (d := .int 4) (fun _ => pe_int) (fun _ => .int _)))) (sa_cons (so_ex (sv_of (se_prim (sa_cons (so_ex (sv_of (se_prim (sa_cons (so_var (i := 0) (fun _ => pv 0)) (sa_nil)) (fun _ h z => pe_callB call_len (by rfl) T.len boot_len (h z)) prim_len))) (sa_cons (so_ex (sv_of (se_c (d := .int 8) (fun _ => pe_int) (fun _ => .int _)))) (sa_nil))) (fun _ h z => pe_callB (call_min2 rfl) (by rfl) T.min boot_min (h z)) prim_min2))) (sa_nil))) (fun _ h z => pe_callB (call_max2 rfl) (by rfl) T.max boot_max (h z)) prim_max2)) (sav_nil))) (sg_name (i := 1) (fun _ => pg_name (i := 1) nd rfl (Or.inl rfl))) (sb_cons (ss_set (i := 2) (se_call (dvs := []) (dd := []) (np := 2) (sav_cons (sv_of (se_var (i := 0) (fun _ => pv 0))) (sav_cons (sv_of (se_var (i := 1) (fun _ => pv 1))) (sav_nil))) rfl (fun _ => .nil) (fun _ h z => pe_call G_c__law_box (hr.mono (by omega)) (by rfl) m_c__law_box k_c__law_box b_c__law_box .nil pass0 (h z))) (fun _ h z => ps_set nd rfl (Or.inr rfl) (h z)))
    (sb_cons (ss_unp (is := [3, 4]) (sv_of (se_callB (i := 2) (dvs := []) (dd := []) (np := 3) (fun _ => pv 2) (sav_cons (sv_of (se_if (st_op2 (so_var (i := 1) (fun _ => pv 1)) (so_ex (sv_of (se_c (d := .int 0) (fun _ => pe_int) (fun _ => .int _)))) (fun _ _ ha hb z => pt_cmpR (op_eqP hr.units) (ha z) (hb z) (nomark _)) prim_rd2) (se_c (d := .int 12) (fun _ => pe_int) (fun _ => .int _)) (se_c (d := .int 7) (fun _ => pe_int) (fun _ => .int _)))) (sav_cons (sv_of (se_c (d := .int 40) (fun _ => pe_int) (fun _ => .int _))) (sav_nil))) rfl (fun _ => .nil) (fun _ => rfl) (fun _ h z => pe_call G_c__law_term (hr.mono (by omega)) (by rfl) m_c__law_term k_c__law_term b_c__law_term .nil pass0 (h z)))) (fun _ h z => ps_asg (h z) (pg_tup rfl (pgs_cons (pg_name (i := 3) nd rfl (Or.inr rfl)) (pgs_cons (pg_name (i := 4) nd rfl (Or.inl rfl)) pgs_nil)))))
    (sb_cons (ss_set (i := 5) (se_callB (i := 2) (dvs := []) (dd := []) (np := 2) (fun _ => pv 2) (sav_cons (sv_of (se_lrange1 (fun _ => rfl) (fun _ => rfl) (fun _ => T.list) (fun _ => rfl) (fun _ => T.range) (sv_of (se_c (d := .int 12) (fun _ => pe_int) (fun _ => .int _))))) (sav_nil)) rfl (fun _ => .nil) (fun _ => rfl) (fun _ h z => pe_call G_c__law_shuffled (hr.mono (by omega)) (by rfl) m_c__law_shuffled k_c__law_shuffled b_c__law_shuffled .nil pass0 (h z))) (fun _ h z => ps_set nd rfl (Or.inl rfl) (h z)))
    (sb_cons (ss_set (i := 6) (se_lst (sav_cons (sv_of (se_var (i := 3) (fun _ => pv 3))) (sav_cons (sv_of (se_call (dvs := []) (dd := []) (np := 1) (sav_cons (sv_of (se_var (i := 5) (fun _ => pv 5))) (sav_nil)) rfl (fun _ => .nil) (fun _ h z => pe_call G_c__law_chain (hr.mono (by omega)) (by rfl) m_c__law_chain k_c__law_chain b_c__law_chain .nil pass0 (h z)))) (sav_cons (sv_of (se_call (dvs := []) (dd := []) (np := 1) (sav_cons (sv_of (se_op2 (so_ex (sv_of (se_sl (fun _ => rfl) (so_var (i := 5) (fun _ => pv 5)) (sp_none) (sp_some (sv_of (se_c (d := .int 2) (fun _ => pe_int) (fun _ => .int _))))))) (so_ex (sv_of (se_lst (sav_cons (sv_of (se_c (d := .int 3) (fun _ => pe_int) (fun _ => .int _))) (sav_nil))))) (fun _ _ ha hb z => pe_op op_addD (ha z) (hb z)) prim_add)) (sav_nil)) rfl (fun _ => .nil) (fun _ h z => pe_call G_c__law_chain (hr.mono (by omega)) (by rfl) m_c__law_chain k_c__law_chain b_c__law_chain .nil pass0 (h z)))) (sav_cons (sv_of (se_call (dvs := []) (dd := []) (np := 1) (sav_cons (sv_of (se_op2 (so_var (i := 5) (fun _ => pv 5)) (so_ex (sv_of (se_lst (sav_cons (sv_of (se_c (d := .int 0) (fun _ => pe_int) (fun _ => .int _))) (sav_nil))))) (fun _ _ ha hb z => pe_op op_addD (ha z) (hb z)) prim_add)) (sav_nil)) rfl (fun _ => .nil) (fun _ h z => pe_call G_c__law_chain (hr.mono (by omega)) (by rfl) m_c__law_chain k_c__law_chain b_c__law_chain .nil pass0 (h z)))) (sav_cons (sv_of (se_tup (sav_cons (sv_of (se_c (d := .str "row") (fun _ => pe_str) (fun _ => .str _))) (sav_cons (sv_of (se_trange1 (fun _ => rfl) (fun _ => rfl) (fun _ => T.tuple) (fun _ => rfl) (fun _ => T.range) (sv_of (se_c (d := .int 12) (fun _ => pe_int) (fun _ => .int _))))) (sav_nil))))) (sav_cons (sv_of (se_tup (sav_cons (sv_of (se_c (d := .str "side") (fun _ => pe_str) (fun _ => .str _))) (sav_cons (sv_of (se_prim (sa_cons (so_ex (sv_of (se_op2 (so_ex (sv_of (se_lst (sav_cons (sv_of (se_c (d := .int 0) (fun _ => pe_int) (fun _ => .int _))) (sav_nil))))) (so_ex (sv_of (se_c (d := .int 24) (fun _ => pe_int) (fun _ => .int _)))) (fun _ _ ha hb z => pe_op op_mulT (ha z) (hb z)) prim_mulT))) (sa_nil)) (fun _ h z => pe_callTy call_tuple_of (by rfl) T.tuple boot_tuple (h z)) prim_tuple)) (sav_nil))))) (sav_cons (sv_of (se_tup (sav_cons (sv_of (se_c (d := .str "side") (fun _ => pe_str) (fun _ => .str _))) (sav_cons (sv_of (se_prim (sa_cons (so_ex (sv_of (se_op2 (so_ex (sv_of (se_lst (sav_cons (sv_of (se_c (d := .int 0) (fun _ => pe_int) (fun _ => .int _))) (sav_nil))))) (so_ex (sv_of (se_c (d := .int 25) (fun _ => pe_int) (fun _ => .int _)))) (fun _ _ ha hb z => pe_op op_mulT (ha z) (hb z)) prim_mulT))) (sa_nil)) (fun _ h z => pe_callTy call_tuple_of (by rfl) T.tuple boot_tuple (h z)) prim_tuple)) (sav_nil))))) (sav_nil))))))))) (fun _ h z => ps_set nd rfl (Or.inl rfl) (h z)))
    (sb_cons (ss_set (i := 6) (se_op2 (so_ex (sv_of (se_op2 (so_var (i := 6) (fun _ => pv 6)) (so_ex (sv_of (se_comp (own := [("turn", 7)]) (fun _ => rfl) (fun _ => nd) (si_range1 (fun _ => rfl) (fun _ => T.range) (sav_cons (sv_of (se_c (d := .int 8) (fun _ => pe_int) (fun _ => .int _))) (sav_nil))) (fun _ => blkOk_by (by kernel_rfl)) (sg_name (i := 7) (fun _ => pg_name (i := 7) nd rfl (Or.inl rfl))) (by decide) (sts_nil) (sv_of (se_callB (i := 2) (dvs := []) (dd := []) (np := 2) (fun _ => pv 2) (sav_cons (sv_of (se_var (i := 3) (fun _ => pv 3))) (sav_nil)) rfl (fun _ => .nil) (fun _ => rfl) (fun _ h z => pe_call G_c__law_bent (hr.mono (by omega)) (by rfl) m_c__law_bent k_c__law_bent b_c__law_bent .nil pass0 (h z))))))) (fun _ _ ha hb z => pe_op op_addD (ha z) (hb z)) prim_add))) (so_ex (sv_of (se_lst (sav_cons (sv_of (se_tup (sav_cons (sv_of (se_c (d := .str "side") (fun _ => pe_str) (fun _ => .str _))) (sav_cons (sv_of (se_tup (sav_cons (sv_of (se_c (d := .int 0) (fun _ => pe_int) (fun _ => .int _))) (sav_cons (sv_of (se_call (dvs := []) (dd := []) (np := 1) (sav_cons (sv_of (se_op2 (so_ex (sv_of (se_lst (sav_cons (sv_of (se_c (d := .int 1) (fun _ => pe_int) (fun _ => .int _))) (sav_nil))))) (so_ex (sv_of (se_c (d := .int 12) (fun _ => pe_int) (fun _ => .int _)))) (fun _ _ ha hb z => pe_op op_mulT (ha z) (hb z)) prim_mulT)) (sav_nil)) rfl (fun _ => .nil) (fun _ h z => pe_call G_c__law_chain (hr.mono (by omega)) (by rfl) m_c__law_chain k_c__law_chain b_c__law_chain .nil pass0 (h z)))) (sav_nil))))) (sav_nil))))) (sav_nil))))) (fun _ _ ha hb z => pe_op op_addD (ha z) (hb z)) prim_add) (fun _ h z => ps_set nd rfl (Or.inl rfl) (h z)))
    (sb_one (ss_for (fun _ => PassesOwn.never) (fun _ => rfl) (si_enum (fun _ => rfl) (fun _ => rfl) (fun _ => T.enumerate) (sav_cons (sv_of (se_var (i := 6) (fun _ => pv 6))) (sav_nil))) (sg_tup (is := [8, 9]) (fun _ => pg_tup rfl (pgs_cons (pg_name (i := 8) nd rfl (Or.inl rfl)) (pgs_cons (pg_name (i := 9) nd rfl (Or.inl rfl)) pgs_nil)))) (sb_cons (ss_set (i := 10) (se_call (dvs := []) (dd := []) (np := 1) (sav_cons (sv_of (se_var (i := 9) (fun _ => pv 9))) (sav_nil)) rfl (fun _ => .nil) (fun _ h z => pe_call G_c__law_term_fault (hr.mono (by omega)) (by rfl) m_c__law_term_fault k_c__law_term_fault b_c__law_term_fault .nil pass0 (h z))) (fun _ h z => ps_set nd rfl (Or.inl rfl) (h z)))
    (sb_one (ss_if (st_not (st_val (sv_of (se_call (dvs := []) (dd := []) (np := 2) (sav_cons (sv_of (se_call (dvs := []) (dd := []) (np := 2) (sav_cons (sv_of (se_var (i := 9) (fun _ => pv 9))) (sav_cons (sv_of (se_op2 (so_ex (sv_of (se_op2 (so_ex (sv_of (se_prim (sa_cons (so_var (i := 8) (fun _ => pv 8)) (sa_nil)) (fun _ h z => pe_callTy call_int1 (by rfl) T.int boot_int (h z)) prim_int))) (so_ex (sv_of (se_c (d := .int 2) (fun _ => pe_int) (fun _ => .int _)))) (fun _ _ ha hb z => pe_op op_mod (ha z) (hb z)) prim_mod))) (so_ex (sv_of (se_c (d := .int 0) (fun _ => pe_int) (fun _ => .int _)))) (fun _ _ ha hb z => pe_cmpR (op_eqP hr.units) (ha z) (hb z) (nomark _)) prim_rd2)) (sav_nil))) rfl (fun _ => .nil) (fun _ h z => pe_call G_c__law_heard (hr.mono (by omega)) (by rfl) m_c__law_heard k_c__law_heard b_c__law_heard .nil pass0 (h z)))) (sav_cons (sv_of (se_if (st_op2 (so_var (i := 10) (fun _ => pv 10)) (so_ex (sv_of (se_c (d := .none) (fun _ => pe_non) (fun _ => .non)))) (fun _ _ ha hb z => pt_cmpR op_isN (ha z) (hb z) (nomark _)) prim_isN) (se_tup (sav_cons (sv_of (se_c (d := .str "told") (fun _ => pe_str) (fun _ => .str _))) (sav_cons (sv_of (se_var (i := 9) (fun _ => pv 9))) (sav_nil)))) (se_tup (sav_cons (sv_of (se_c (d := .str "refused") (fun _ => pe_str) (fun _ => .str _))) (sav_cons (sv_of (se_var (i := 10) (fun _ => pv 10))) (sav_cons (sv_of (se_c (d := .bool true) (fun _ => pe_bl) (fun _ => .bl _))) (sav_nil))))))) (sav_nil))) rfl (fun _ => .nil) (fun _ h z => pe_call G_c__law_same (hr.mono (by omega)) (by rfl) m_c__law_same k_c__law_same b_c__law_same .nil pass0 (h z)))))) (sb_one (ss_ret (se_c (d := .bool false) (fun _ => pe_bl) (fun _ => .bl _)))) (sb_nil))))))))))))
    (sb_one (ss_ret (se_c (d := .bool true) (fun _ => pe_bl) (fun _ => .bl _))))
theorem ok_law (T : Txt K mg) (c__law_bent : Cal P w K mg base "_law_bent" ["box", "term"] 3 true g__law_bent []) (c__law_box : Cal P w K mg base "_law_box" ["script", "k"] 1 false g__law_box []) (c__law_chain : Cal P w K mg base "_law_chain" ["things"] 1 false g__law_chain []) (c__law_heard : Cal P w K mg base "_law_heard" ["value", "named"] 6 false g__law_heard []) (c__law_same : Cal P w K mg base "_law_same" ["told", "due"] 26 false g__law_same []) (c__law_shuffled : Cal P w K mg base "_law_shuffled" ["box", "some"] 2 true g__law_shuffled []) (c__law_term : Cal P w K mg base "_law_term" ["box", "most", "many"] 3 true g__law_term []) (c__law_term_fault : Cal P w K mg base "_law_term_fault" ["value"] 1 false g__law_term_fault []) {f : Addr} {fd : FuncData} (F : Fun K "law" "law" s_law f fd) : FnOk P w K mg base CX0 27 f fd ["script"] (spF K false 1 g_law) :=
  fn_ok false F sc_law (by decide) fun cdv A outer s H E hr => sb_law T c__law_bent c__law_box c__law_chain c__law_heard c__law_same c__law_shuffled c__law_term c__law_term_fault cdv A outer s H E hr
end
theorem all_mk {l : PySem.W.OpenLaw} {w : World} {K : PySem.W.Frag} {h : Heap} {mg : Str → Option Value} {fa : Addr} (X : K.In h) (G : h.Ns mainGlobals mg) (hfa : mg "law" = some (.ref fa))
    {f0 : Addr} {od0 an0 : Option Addr} {sl0 : Array (Option Value)} {oc0 kV0 dc0 pm0 cd0 ct0 : Value}
    (a0 : PySem.W.nsIn K mainGlobals "is_int" = some (some (.ref f0))) (l0 : K.lookup f0 = some ⟨oc0, od0, .func (PySem.W.fnOf "is_int" "is_int" (defArgs s_is_int) (defBody s_is_int) (defScope s_is_int) .none kV0 dc0 pm0 an0 cd0 ct0), sl0⟩) (c0 : PySem.W.codeIn K cd0 "is_int" = true) (k0 : PySem.W.keepIn K (.ref f0) = true)
    {f1 : Addr} {od1 an1 : Option Addr} {sl1 : Array (Option Value)} {oc1 kV1 dc1 pm1 cd1 ct1 : Value}
    {T1 : Addr} {o1 : Obj} {its1 : List Value} {n1 : Nat}
    (a1 : PySem.W.nsIn K mainGlobals "is_number" = some (some (.ref f1))) (l1 : K.lookup f1 = some ⟨oc1, od1, .func (PySem.W.fnOf "is_number" "is_number" (defArgs s_is_number) (defBody s_is_number) (defScope s_is_number) (.ref T1) kV1 dc1 pm1 an1 cd1 ct1), sl1⟩) (c1 : PySem.W.codeIn K cd1 "is_number" = true) (k1 : PySem.W.keepIn K (.ref f1) = true)
    (t1 : K.lookup T1 = some o1) (u1 : o1.data = .seq its1.toArray n1) (v1 : Vals [.int 0, .non] its1)
    {f2 : Addr} {od2 an2 : Option Addr} {sl2 : Array (Option Value)} {oc2 kV2 dc2 pm2 cd2 ct2 : Value}
    {T2 : Addr} {o2 : Obj} {its2 : List Value} {n2 : Nat}
    (a2 : PySem.W.nsIn K mainGlobals "is_tuple" = some (some (.ref f2))) (l2 : K.lookup f2 = some ⟨oc2, od2, .func (PySem.W.fnOf "is_tuple" "is_tuple" (defArgs s_is_tuple) (defBody s_is_tuple) (defScope s_is_tuple) (.ref T2) kV2 dc2 pm2 an2 cd2 ct2), sl2⟩) (c2 : PySem.W.codeIn K cd2 "is_tuple" = true) (k2 : PySem.W.keepIn K (.ref f2) = true)
    (t2 : K.lookup T2 = some o2) (u2 : o2.data = .seq its2.toArray n2) (v2 : Vals [.non] its2)
    {f3 : Addr} {od3 an3 : Option Addr} {sl3 : Array (Option Value)} {oc3 kV3 dc3 pm3 cd3 ct3 : Value}
    (a3 : PySem.W.nsIn K mainGlobals "joined_lots" = some (some (.ref f3))) (l3 : K.lookup f3 = some ⟨oc3, od3, .func (PySem.W.fnOf "joined_lots" "joined_lots" (defArgs s_joined_lots) (defBody s_joined_lots) (defScope s_joined_lots) .none kV3 dc3 pm3 an3 cd3 ct3), sl3⟩) (c3 : PySem.W.codeIn K cd3 "joined_lots" = true) (k3 : PySem.W.keepIn K (.ref f3) = true)
    {f4 : Addr} {od4 an4 : Option Addr} {sl4 : Array (Option Value)} {oc4 kV4 dc4 pm4 cd4 ct4 : Value}
    (a4 : PySem.W.nsIn K mainGlobals "is_node" = some (some (.ref f4))) (l4 : K.lookup f4 = some ⟨oc4, od4, .func (PySem.W.fnOf "is_node" "is_node" (defArgs s_is_node) (defBody s_is_node) (defScope s_is_node) .none kV4 dc4 pm4 an4 cd4 ct4), sl4⟩) (c4 : PySem.W.codeIn K cd4 "is_node" = true) (k4 : PySem.W.keepIn K (.ref f4) = true)
    {f5 : Addr} {od5 an5 : Option Addr} {sl5 : Array (Option Value)} {oc5 kV5 dc5 pm5 cd5 ct5 : Value}
    (a5 : PySem.W.nsIn K mainGlobals "things_told" = some (some (.ref f5))) (l5 : K.lookup f5 = some ⟨oc5, od5, .func (PySem.W.fnOf "things_told" "things_told" (defArgs s_things_told) (defBody s_things_told) (defScope s_things_told) .none kV5 dc5 pm5 an5 cd5 ct5), sl5⟩) (c5 : PySem.W.codeIn K cd5 "things_told" = true) (k5 : PySem.W.keepIn K (.ref f5) = true)
    {f6 : Addr} {od6 an6 : Option Addr} {sl6 : Array (Option Value)} {oc6 kV6 dc6 pm6 cd6 ct6 : Value}
    (a6 : PySem.W.nsIn K mainGlobals "check_term" = some (some (.ref f6))) (l6 : K.lookup f6 = some ⟨oc6, od6, .func (PySem.W.fnOf "check_term" "check_term" (defArgs s_check_term) (defBody s_check_term) (defScope s_check_term) .none kV6 dc6 pm6 an6 cd6 ct6), sl6⟩) (c6 : PySem.W.codeIn K cd6 "check_term" = true) (k6 : PySem.W.keepIn K (.ref f6) = true)
    {f8 : Addr} {od8 an8 : Option Addr} {sl8 : Array (Option Value)} {oc8 kV8 dc8 pm8 cd8 ct8 : Value}
    (a8 : PySem.W.nsIn K mainGlobals "_law_box" = some (some (.ref f8))) (l8 : K.lookup f8 = some ⟨oc8, od8, .func (PySem.W.fnOf "_law_box" "_law_box" (defArgs s__law_box) (defBody s__law_box) (defScope s__law_box) .none kV8 dc8 pm8 an8 cd8 ct8), sl8⟩) (c8 : PySem.W.codeIn K cd8 "_law_box" = true) (k8 : PySem.W.keepIn K (.ref f8) = true)
    {f9 : Addr} {od9 an9 : Option Addr} {sl9 : Array (Option Value)} {oc9 kV9 dc9 pm9 cd9 ct9 : Value}
    (a9 : PySem.W.nsIn K mainGlobals "_law_take" = some (some (.ref f9))) (l9 : K.lookup f9 = some ⟨oc9, od9, .func (PySem.W.fnOf "_law_take" "_law_take" (defArgs s__law_take) (defBody s__law_take) (defScope s__law_take) .none kV9 dc9 pm9 an9 cd9 ct9), sl9⟩) (c9 : PySem.W.codeIn K cd9 "_law_take" = true) (k9 : PySem.W.keepIn K (.ref f9) = true)
    {f10 : Addr} {od10 an10 : Option Addr} {sl10 : Array (Option Value)} {oc10 kV10 dc10 pm10 cd10 ct10 : Value}
    (a10 : PySem.W.nsIn K mainGlobals "_law_pick" = some (some (.ref f10))) (l10 : K.lookup f10 = some ⟨oc10, od10, .func (PySem.W.fnOf "_law_pick" "_law_pick" (defArgs s__law_pick) (defBody s__law_pick) (defScope s__law_pick) .none kV10 dc10 pm10 an10 cd10 ct10), sl10⟩) (c10 : PySem.W.codeIn K cd10 "_law_pick" = true) (k10 : PySem.W.keepIn K (.ref f10) = true)
    {f11 : Addr} {od11 an11 : Option Addr} {sl11 : Array (Option Value)} {oc11 kV11 dc11 pm11 cd11 ct11 : Value}
    (a11 : PySem.W.nsIn K mainGlobals "_law_shuffled" = some (some (.ref f11))) (l11 : K.lookup f11 = some ⟨oc11, od11, .func (PySem.W.fnOf "_law_shuffled" "_law_shuffled" (defArgs s__law_shuffled) (defBody s__law_shuffled) (defScope s__law_shuffled) .none kV11 dc11 pm11 an11 cd11 ct11), sl11⟩) (c11 : PySem.W.codeIn K cd11 "_law_shuffled" = true) (k11 : PySem.W.keepIn K (.ref f11) = true)
    {f12 : Addr} {od12 an12 : Option Addr} {sl12 : Array (Option Value)} {oc12 kV12 dc12 pm12 cd12 ct12 : Value}
    (a12 : PySem.W.nsIn K mainGlobals "_law_same" = some (some (.ref f12))) (l12 : K.lookup f12 = some ⟨oc12, od12, .func (PySem.W.fnOf "_law_same" "_law_same" (defArgs s__law_same) (defBody s__law_same) (defScope s__law_same) .none kV12 dc12 pm12 an12 cd12 ct12), sl12⟩) (c12 : PySem.W.codeIn K cd12 "_law_same" = true) (k12 : PySem.W.keepIn K (.ref f12) = true)
    {f13 : Addr} {od13 an13 : Option Addr} {sl13 : Array (Option Value)} {oc13 kV13 dc13 pm13 cd13 ct13 : Value}
    (a13 : PySem.W.nsIn K mainGlobals "_law_term" = some (some (.ref f13))) (l13 : K.lookup f13 = some ⟨oc13, od13, .func (PySem.W.fnOf "_law_term" "_law_term" (defArgs s__law_term) (defBody s__law_term) (defScope s__law_term) .none kV13 dc13 pm13 an13 cd13 ct13), sl13⟩) (c13 : PySem.W.codeIn K cd13 "_law_term" = true) (k13 : PySem.W.keepIn K (.ref f13) = true)
    {f14 : Addr} {od14 an14 : Option Addr} {sl14 : Array (Option Value)} {oc14 kV14 dc14 pm14 cd14 ct14 : Value}
    (a14 : PySem.W.nsIn K mainGlobals "_law_rows" = some (some (.ref f14))) (l14 : K.lookup f14 = some ⟨oc14, od14, .func (PySem.W.fnOf "_law_rows" "_law_rows" (defArgs s__law_rows) (defBody s__law_rows) (defScope s__law_rows) .none kV14 dc14 pm14 an14 cd14 ct14), sl14⟩) (c14 : PySem.W.codeIn K cd14 "_law_rows" = true) (k14 : PySem.W.keepIn K (.ref f14) = true)
    {f15 : Addr} {od15 an15 : Option Addr} {sl15 : Array (Option Value)} {oc15 kV15 dc15 pm15 cd15 ct15 : Value}
    (a15 : PySem.W.nsIn K mainGlobals "_law_term_fault" = some (some (.ref f15))) (l15 : K.lookup f15 = some ⟨oc15, od15, .func (PySem.W.fnOf "_law_term_fault" "_law_term_fault" (defArgs s__law_term_fault) (defBody s__law_term_fault) (defScope s__law_term_fault) .none kV15 dc15 pm15 an15 cd15 ct15), sl15⟩) (c15 : PySem.W.codeIn K cd15 "_law_term_fault" = true) (k15 : PySem.W.keepIn K (.ref f15) = true)
    {f16 : Addr} {od16 an16 : Option Addr} {sl16 : Array (Option Value)} {oc16 kV16 dc16 pm16 cd16 ct16 : Value}
    (a16 : PySem.W.nsIn K mainGlobals "_law_rebuilt" = some (some (.ref f16))) (l16 : K.lookup f16 = some ⟨oc16, od16, .func (PySem.W.fnOf "_law_rebuilt" "_law_rebuilt" (defArgs s__law_rebuilt) (defBody s__law_rebuilt) (defScope s__law_rebuilt) .none kV16 dc16 pm16 an16 cd16 ct16), sl16⟩) (c16 : PySem.W.codeIn K cd16 "_law_rebuilt" = true) (k16 : PySem.W.keepIn K (.ref f16) = true)
    {f17 : Addr} {od17 an17 : Option Addr} {sl17 : Array (Option Value)} {oc17 kV17 dc17 pm17 cd17 ct17 : Value}
    (a17 : PySem.W.nsIn K mainGlobals "_law_heard" = some (some (.ref f17))) (l17 : K.lookup f17 = some ⟨oc17, od17, .func (PySem.W.fnOf "_law_heard" "_law_heard" (defArgs s__law_heard) (defBody s__law_heard) (defScope s__law_heard) .none kV17 dc17 pm17 an17 cd17 ct17), sl17⟩) (c17 : PySem.W.codeIn K cd17 "_law_heard" = true) (k17 : PySem.W.keepIn K (.ref f17) = true)
    {f18 : Addr} {od18 an18 : Option Addr} {sl18 : Array (Option Value)} {oc18 kV18 dc18 pm18 cd18 ct18 : Value}
    (a18 : PySem.W.nsIn K mainGlobals "_law_chain" = some (some (.ref f18))) (l18 : K.lookup f18 = some ⟨oc18, od18, .func (PySem.W.fnOf "_law_chain" "_law_chain" (defArgs s__law_chain) (defBody s__law_chain) (defScope s__law_chain) .none kV18 dc18 pm18 an18 cd18 ct18), sl18⟩) (c18 : PySem.W.codeIn K cd18 "_law_chain" = true) (k18 : PySem.W.keepIn K (.ref f18) = true)
    {f19 : Addr} {od19 an19 : Option Addr} {sl19 : Array (Option Value)} {oc19 kV19 dc19 pm19 cd19 ct19 : Value}
    (a19 : PySem.W.nsIn K mainGlobals "_law_bent" = some (some (.ref f19))) (l19 : K.lookup f19 = some ⟨oc19, od19, .func (PySem.W.fnOf "_law_bent" "_law_bent" (defArgs s__law_bent) (defBody s__law_bent) (defScope s__law_bent) .none kV19 dc19 pm19 an19 cd19 ct19), sl19⟩) (c19 : PySem.W.codeIn K cd19 "_law_bent" = true) (k19 : PySem.W.keepIn K (.ref f19) = true)
    {f20 : Addr} {od20 an20 : Option Addr} {sl20 : Array (Option Value)} {oc20 kV20 dc20 pm20 cd20 ct20 : Value}
    (a20 : PySem.W.nsIn K mainGlobals "law" = some (some (.ref f20))) (l20 : K.lookup f20 = some ⟨oc20, od20, .func (PySem.W.fnOf "law" "law" (defArgs s_law) (defBody s_law) (defScope s_law) .none kV20 dc20 pm20 an20 cd20 ct20), sl20⟩) (c20 : PySem.W.codeIn K cd20 "law" = true) (k20 : PySem.W.keepIn K (.ref f20) = true)
    (zz_super : PySem.W.nsIn K mainGlobals "super" = some none) (zz_opq : PySem.W.nsIn K PySem.cStatics "thirdparty.any" = some none)
    {C_BadTerm fI_BadTerm cc_BadTerm cda_BadTerm N_BadTerm : Addr} {oc_BadTerm kV_BadTerm doc_BadTerm pm_BadTerm ct_BadTerm ccl_BadTerm cl_BadTerm : Value} {od_BadTerm an_BadTerm cdd_BadTerm cld_BadTerm dd_BadTerm : Option Addr} {osl_BadTerm ccs_BadTerm csl_BadTerm : Array (Option Value)} {nm_BadTerm q_BadTerm file_BadTerm : Str} {tf_BadTerm : Tok} {vs_BadTerm : Array Value} {bs_BadTerm bm_BadTerm sub_BadTerm : List Value} {sn_BadTerm : List Str} {ab_BadTerm : Bool} {col_BadTerm : Option Bool} {k0_BadTerm k1_BadTerm k2_BadTerm k3_BadTerm k5_BadTerm : Option Value}
    (xa_BadTerm : PySem.W.nsIn K mainGlobals "BadTerm" = some (some (.ref C_BadTerm))) (xb_BadTerm : PySem.W.findIn K (.ref C_BadTerm) "__init__" = some (some (.ref fI_BadTerm)))
    (xc_BadTerm : K.lookup fI_BadTerm = some ⟨oc_BadTerm, od_BadTerm, .func (PySem.W.fnX "__init__" "BadTerm.__init__" (defArgs si_BadTerm) (defBody si_BadTerm) (defScope si_BadTerm) [("__class__", cc_BadTerm)] .none kV_BadTerm doc_BadTerm pm_BadTerm an_BadTerm (.ref cda_BadTerm) ct_BadTerm), osl_BadTerm⟩) (xd_BadTerm : PySem.W.codeIn K (.ref cda_BadTerm) "BadTerm.__init__" = true)
    (xe_BadTerm : K.lookup cda_BadTerm = some ⟨ccl_BadTerm, cdd_BadTerm, .fields vs_BadTerm, ccs_BadTerm⟩) (xf_BadTerm : vs_BadTerm[2]? = some (.str file_BadTerm tf_BadTerm)) (xg_BadTerm : ((l.prog.main.file : Str) == file_BadTerm) = true) (xh_BadTerm : K.lookup cc_BadTerm = some ⟨cl_BadTerm, cld_BadTerm, .cell (some (.ref C_BadTerm)), csl_BadTerm⟩) (xi_BadTerm : (l.prog.main.scope.names.lookup ("super" : Str)).isSome = false)
    (xj_BadTerm : K.lookup C_BadTerm = some (excClassObj nm_BadTerm q_BadTerm C_BadTerm N_BadTerm bs_BadTerm bm_BadTerm true sn_BadTerm sub_BadTerm ab_BadTerm col_BadTerm dd_BadTerm k0_BadTerm k1_BadTerm k2_BadTerm k3_BadTerm k5_BadTerm "ValueError.__new__")) (xk_BadTerm : PySem.HandSPX.refsVE bm_BadTerm = true)
    (xl_BadTerm : PySem.W.findIn K (.ref C_BadTerm) "__setattr__" = some (some (.builtin "object.__setattr__"))) (xm_BadTerm : PySem.W.ks_superIn K C_BadTerm C_BadTerm "__init__" = some (some (.builtin "ValueError.__init__"))) (xn_BadTerm : PySem.W.subIn K (.ref C_BadTerm) (.type "ValueError") = some true) (xo_BadTerm : PySem.W.mroIn K C_BadTerm (.ref C_BadTerm) = some true)
    (xp_BadTerm : PySem.W.findIn K (.ref C_BadTerm) (fld "BadTerm") = some none) (xq_BadTerm : PySem.W.subIn K (.ref C_BadTerm) (.type "BaseException") = some true) (xr_BadTerm : PySem.W.typeIn K (.ref C_BadTerm) = some (.type "type")) (xs_BadTerm : PySem.W.keepIn K (.ref C_BadTerm) = true) (xt_BadTerm : PySem.W.typeIn K (.ref fI_BadTerm) = some (.type "function"))
    (xu_BadTerm : PySem.W.hasDictIn K C_BadTerm = true) (xw_BadTerm : PySem.W.findIn K (.ref C_BadTerm) "__getattribute__" = some (some (.builtin "BaseException.__getattribute__"))) (xx_BadTerm : PySem.W.findIn K (.ref C_BadTerm) "__getattr__" = some none) (xv_BadTerm : PySem.W.exmOne K (.ref C_BadTerm) (.ref C_BadTerm) = some true)
    {C_BadFamily : Addr} (xa_BadFamily : PySem.W.nsIn K mainGlobals "BadFamily" = some (some (.ref C_BadFamily)))
    {C_BadOctets : Addr} (xa_BadOctets : PySem.W.nsIn K mainGlobals "BadOctets" = some (some (.ref C_BadOctets)))
    {C_BadState : Addr} (xa_BadState : PySem.W.nsIn K mainGlobals "BadState" = some (some (.ref C_BadState)))
    {C_BadTables : Addr} (xa_BadTables : PySem.W.nsIn K mainGlobals "BadTables" = some (some (.ref C_BadTables)))
    {C_BadText : Addr} (xa_BadText : PySem.W.nsIn K mainGlobals "BadText" = some (some (.ref C_BadText)))
    {C_BadTimes : Addr} (xa_BadTimes : PySem.W.nsIn K mainGlobals "BadTimes" = some (some (.ref C_BadTimes)))
    {C_BadWeb : Addr} (xa_BadWeb : PySem.W.nsIn K mainGlobals "BadWeb" = some (some (.ref C_BadWeb)))
    {C_OwnError : Addr} (xa_OwnError : PySem.W.nsIn K mainGlobals "OwnError" = some (some (.ref C_OwnError)))
    {C_Refused : Addr} (xa_Refused : PySem.W.nsIn K mainGlobals "Refused" = some (some (.ref C_Refused)))
    (ya_BadTerm_OwnError : PySem.W.exmOne K (.ref C_BadTerm) (.ref C_OwnError) = some true) (yb_BadTerm_OwnError : PySem.W.kitAny K (.ref C_BadTerm) [.ref C_BadFamily, .ref C_BadOctets, .ref C_BadState, .ref C_BadTables, .ref C_BadText, .ref C_BadTimes, .ref C_BadWeb, .ref C_Refused] = some false) (yc_BadTerm_OwnError : PySem.W.kitOne K (.ref C_BadTerm) (.ref C_BadTerm) = some true) (yd_BadTerm_OwnError : PySem.W.kitOne K (.ref C_BadTerm) (.type "ValueError") = some true)
    (yh_BadTerm_OwnError : PySem.W.findIn K (.ref C_BadTerm) "__class__" = some (some (.builtin "object.__class__")))
    (yi_BadTerm_OwnError : PySem.W.specialIn K (.builtin "object.__class__") "__get__" = some (some (.builtin "getset_descriptor.__get__"))) (yj_BadTerm_OwnError : PySem.W.takesIn K (.builtin "object.__class__") = some true) (yk_BadTerm_OwnError : PySem.W.mroIn K C_BadTerm (.type "object") = some true)
    (z_ValueError : PySem.W.nsIn K mainGlobals "ValueError" = some none)
    (z_abs : PySem.W.nsIn K mainGlobals "abs" = some none)
    (z_all : PySem.W.nsIn K mainGlobals "all" = some none)
    (z_bool : PySem.W.nsIn K mainGlobals "bool" = some none)
    (z_enumerate : PySem.W.nsIn K mainGlobals "enumerate" = some none)
    (z_int : PySem.W.nsIn K mainGlobals "int" = some none)
    (z_isinstance : PySem.W.nsIn K mainGlobals "isinstance" = some none)
    (z_len : PySem.W.nsIn K mainGlobals "len" = some none)
    (z_list : PySem.W.nsIn K mainGlobals "list" = some none)
    (z_max : PySem.W.nsIn K mainGlobals "max" = some none)
    (z_min : PySem.W.nsIn K mainGlobals "min" = some none)
    (z_range : PySem.W.nsIn K mainGlobals "range" = some none)
    (z_set : PySem.W.nsIn K mainGlobals "set" = some none)
    (z_sorted : PySem.W.nsIn K mainGlobals "sorted" = some none)
    (z_str : PySem.W.nsIn K mainGlobals "str" = some none)
    (z_tuple : PySem.W.nsIn K mainGlobals "tuple" = some none)
    (z_zip : PySem.W.nsIn K mainGlobals "zip" = some none)
    {tk_MOST_DEPTH : Tok} (y_MOST_DEPTH : PySem.W.nsIn K mainGlobals "MOST_DEPTH" = some (some (.int 12 tk_MOST_DEPTH)))
    {tk_MOST_THINGS : Tok} (y_MOST_THINGS : PySem.W.nsIn K mainGlobals "MOST_THINGS" = some (some (.int 12 tk_MOST_THINGS)))
    {tk_ROW : Tok} (y_ROW : PySem.W.nsIn K mainGlobals "ROW" = some (some (.str "row" tk_ROW)))
    {tk_SIDE : Tok} (y_SIDE : PySem.W.nsIn K mainGlobals "SIDE" = some (some (.str "side" tk_SIDE)))
    : ∃ fd : FuncData, (∀ (s : Shared) (v : Value), BindsTo s fd ⟨[v], []⟩ [("script", v)]) ∧ ∀ base : Heap, K.In base → base.Ns mainGlobals mg → FnOk l.prog w K mg base CX0 27 fa fd ["script"] (spF K false 1 g_law) := by
  have e := hfa.symm.trans (PySem.W.mg_of X G a20)
  cases e
  have T : Txt K mg := ⟨PySem.W.mg_none_of X G z_ValueError, PySem.W.mg_none_of X G z_abs, PySem.W.mg_none_of X G z_all, PySem.W.mg_none_of X G z_bool, PySem.W.mg_none_of X G z_enumerate, PySem.W.mg_none_of X G z_int, PySem.W.mg_none_of X G z_isinstance, PySem.W.mg_none_of X G z_len, PySem.W.mg_none_of X G z_list, PySem.W.mg_none_of X G z_max, PySem.W.mg_none_of X G z_min, PySem.W.mg_none_of X G z_range, PySem.W.mg_none_of X G z_set, PySem.W.mg_none_of X G z_sorted, PySem.W.mg_none_of X G z_str, PySem.W.mg_none_of X G z_tuple, PySem.W.mg_none_of X G z_zip, ⟨_, PySem.W.mg_of X G y_MOST_DEPTH, _, rfl⟩, ⟨_, PySem.W.mg_of X G y_MOST_THINGS, _, rfl⟩, ⟨_, PySem.W.mg_of X G y_ROW, _, rfl⟩, ⟨_, PySem.W.mg_of X G y_SIDE, _, rfl⟩⟩
  have E_BadTerm : ErrOk l.prog K mg "BadTerm" C_BadTerm := ⟨⟨fI_BadTerm, _, _, ⟨.mk (fun _ => ⟨_, rfl⟩) xc_BadTerm xd_BadTerm rfl rfl rfl (by decide +kernel) (by decide +kernel) (by decide +kernel) (by decide +kernel) (by decide +kernel) (by decide +kernel) (by decide +kernel) (by decide +kernel) rfl rfl xe_BadTerm xf_BadTerm xg_BadTerm xh_BadTerm xi_BadTerm xj_BadTerm xk_BadTerm (fun _ us hl => match us, hl with | [_, _], _ => .of_eq rfl),
    PySem.W.mg_none_of X G zz_super, xl_BadTerm, xb_BadTerm, xm_BadTerm, xn_BadTerm, xo_BadTerm, zz_opq, xp_BadTerm, xq_BadTerm, xr_BadTerm, xs_BadTerm, xt_BadTerm⟩⟩, PySem.W.mg_of X G xa_BadTerm, ⟨xw_BadTerm, xx_BadTerm, xq_BadTerm, xu_BadTerm⟩, xv_BadTerm⟩
  have KK_BadTerm_OwnError : CatchOk K mg C_BadTerm C_OwnError "OwnError" ["BadFamily", "BadOctets", "BadState", "BadTables", "BadText", "BadTimes", "BadWeb", "Refused"] [C_BadFamily, C_BadOctets, C_BadState, C_BadTables, C_BadText, C_BadTimes, C_BadWeb, C_Refused] := ⟨PySem.W.mg_of X G xa_OwnError, ya_BadTerm_OwnError, by
    intro p hp
    simp only [List.zip_cons_cons, List.zip_nil_right, List.mem_cons, List.not_mem_nil, or_false] at hp
    rcases hp with rfl | rfl | rfl | rfl | rfl | rfl | rfl | rfl
    · exact PySem.W.mg_of X G xa_BadFamily
    · exact PySem.W.mg_of X G xa_BadOctets
    · exact PySem.W.mg_of X G xa_BadState
    · exact PySem.W.mg_of X G xa_BadTables
    · exact PySem.W.mg_of X G xa_BadText
    · exact PySem.W.mg_of X G xa_BadTimes
    · exact PySem.W.mg_of X G xa_BadWeb
    · exact PySem.W.mg_of X G xa_Refused, yb_BadTerm_OwnError, ⟨by obtain ⟨cd, hc, _⟩ := any_some xu_BadTerm; rw [hc]; rfl, xw_BadTerm, xx_BadTerm, xq_BadTerm, yh_BadTerm_OwnError, yi_BadTerm_OwnError, yj_BadTerm_OwnError, yk_BadTerm_OwnError⟩, yc_BadTerm_OwnError, yd_BadTerm_OwnError⟩
  have F0 := fun_mk (st := s_is_int) l0 c0 k0
  have F1 : FunD K "is_number" "is_number" (defArgs s_is_number) (defBody s_is_number) (defScope s_is_number) [.int 0, .non] [] _ _ := ⟨⟨_, _, _, _, _, _, _, _, _, _, rfl, l1, c1, .inr ⟨by simp, T1, o1, its1, n1, rfl, t1, u1, v1⟩, .inl rfl⟩, k1⟩
  have F2 : FunD K "is_tuple" "is_tuple" (defArgs s_is_tuple) (defBody s_is_tuple) (defScope s_is_tuple) [.non] [] _ _ := ⟨⟨_, _, _, _, _, _, _, _, _, _, rfl, l2, c2, .inr ⟨by simp, T2, o2, its2, n2, rfl, t2, u2, v2⟩, .inl rfl⟩, k2⟩
  have F3 := fun_mk (st := s_joined_lots) l3 c3 k3
  have F4 := fun_mk (st := s_is_node) l4 c4 k4
  have F5 := fun_mk (st := s_things_told) l5 c5 k5
  have F6 := fun_mk (st := s_check_term) l6 c6 k6
  have F8 := fun_mk (st := s__law_box) l8 c8 k8
  have F9 := fun_mk (st := s__law_take) l9 c9 k9
  have F10 := fun_mk (st := s__law_pick) l10 c10 k10
  have F11 := fun_mk (st := s__law_shuffled) l11 c11 k11
  have F12 := fun_mk (st := s__law_same) l12 c12 k12
  have F13 := fun_mk (st := s__law_term) l13 c13 k13
  have F14 := fun_mk (st := s__law_rows) l14 c14 k14
  have F15 := fun_mk (st := s__law_term_fault) l15 c15 k15
  have F16 := fun_mk (st := s__law_rebuilt) l16 c16 k16
  have F17 := fun_mk (st := s__law_heard) l17 c17 k17
  have F18 := fun_mk (st := s__law_chain) l18 c18 k18
  have F19 := fun_mk (st := s__law_bent) l19 c19 k19
  have F20 := fun_mk (st := s_law) l20 c20 k20
  refine ⟨PySem.W.fnOf "law" "law" (defArgs s_law) (defBody s_law) (defScope s_law) .none kV20 dc20 pm20 an20 cd20 ct20, fun s v => .of_eq rfl, fun base _ _ => ?_⟩
  have G0 := ok_is_int (P := l.prog) (w := w) (base := base) T  F0
  have C_is_int : Cal l.prog w K mg base "is_int" ["value"] 1 false g_is_int [] := ⟨_, _, G0, PySem.W.mg_of X G a0, k0, F0.binds (ps := ["value"]) fun _ _ _ _ _ _ us hl => match us, hl with | [_], _ => rfl⟩
  have G1 := ok_is_number (P := l.prog) (w := w) (base := base) T  C_is_int F1
  have C_is_number_0 : ∃ ds, Vals [] ds ∧ Cal l.prog w K mg base "is_number" ["value", "least", "most"] 2 false g_is_number ds := by
    obtain ⟨ds, hv, hb⟩ := F1.binds1 (ps := ["value", "least", "most"]) 3 2 (by simp) rfl fun T kV doc pm an cdv ct us its h1 h2 => match us, h1, its, h2 with | [_, _, _], _, [_, _], _ => ⟨_, rfl, rfl⟩
    exact ⟨ds, hv, _, _, G1, PySem.W.mg_of X G a1, k1, hb⟩
  have C_is_number : Cal l.prog w K mg base "is_number" ["value", "least", "most"] 2 false g_is_number [] := by
    obtain ⟨ds, hv, hc⟩ := C_is_number_0
    cases hv
    exact hc
  have C_is_number_2 : ∃ ds, Vals [.int 0, .non] ds ∧ Cal l.prog w K mg base "is_number" ["value", "least", "most"] 2 false g_is_number ds := by
    obtain ⟨ds, hv, hb⟩ := F1.binds1 (ps := ["value", "least", "most"]) 1 0 (by simp) rfl fun T kV doc pm an cdv ct us its h1 h2 => match us, h1, its, h2 with | [_], _, [_, _], _ => ⟨_, rfl, rfl⟩
    exact ⟨ds, hv, _, _, G1, PySem.W.mg_of X G a1, k1, hb⟩
  have G2 := ok_is_tuple (P := l.prog) (w := w) (base := base) T  F2
  have C_is_tuple_0 : ∃ ds, Vals [] ds ∧ Cal l.prog w K mg base "is_tuple" ["value", "many"] 1 false g_is_tuple ds := by
    obtain ⟨ds, hv, hb⟩ := F2.binds1 (ps := ["value", "many"]) 2 1 (by simp) rfl fun T kV doc pm an cdv ct us its h1 h2 => match us, h1, its, h2 with | [_, _], _, [_], _ => ⟨_, rfl, rfl⟩
    exact ⟨ds, hv, _, _, G2, PySem.W.mg_of X G a2, k2, hb⟩
  have C_is_tuple : Cal l.prog w K mg base "is_tuple" ["value", "many"] 1 false g_is_tuple [] := by
    obtain ⟨ds, hv, hc⟩ := C_is_tuple_0
    cases hv
    exact hc
  have G3 := ok_joined_lots (P := l.prog) (w := w) (base := base) T  F3
  have C_joined_lots : Cal l.prog w K mg base "joined_lots" ["lots"] 1 false g_joined_lots [] := ⟨_, _, G3, PySem.W.mg_of X G a3, k3, F3.binds (ps := ["lots"]) fun _ _ _ _ _ _ us hl => match us, hl with | [_], _ => rfl⟩
  have G4 := ok_is_node (P := l.prog) (w := w) (base := base) T  C_is_number C_is_tuple F4
  have C_is_node : Cal l.prog w K mg base "is_node" ["value"] 3 false g_is_node [] := ⟨_, _, G4, PySem.W.mg_of X G a4, k4, F4.binds (ps := ["value"]) fun _ _ _ _ _ _ us hl => match us, hl with | [_], _ => rfl⟩
  have G5 := ok_things_told (P := l.prog) (w := w) (base := base) T  C_is_node C_is_number_2 F5
  have C_things_told : Cal l.prog w K mg base "things_told" ["value"] 4 false g_things_told [] := ⟨_, _, G5, PySem.W.mg_of X G a5, k5, F5.binds (ps := ["value"]) fun _ _ _ _ _ _ us hl => match us, hl with | [_], _ => rfl⟩
  have G6 := ok_check_term (P := l.prog) (w := w) (base := base) T  C_joined_lots C_things_told F6
  have G7 := ok_check_term__X (P := l.prog) (w := w) (base := base) T  E_BadTerm C_joined_lots C_things_told F6
  have Cckx_check_term_value : CalXK l.prog w K mg base "BadTerm" _ "check_term" ["value"] ["value"] 5 g_check_term__X [0] 1 := ⟨_, _, G7, PySem.W.mg_of X G a6, k6, kb_mk .nil (fun s us ws _ h1 h2 => match us, h1, ws, h2 with | [], _, [_], _ => .of_eq rfl) (by simp)⟩
  have C_check_term__X : CalX l.prog w K mg base "BadTerm" _ "check_term" ["value"] 5 g_check_term__X := ⟨_, _, G7, PySem.W.mg_of X G a6, k6, F6.binds (ps := ["value"]) fun _ _ _ _ _ _ us hl => match us, hl with | [_], _ => rfl⟩
  have G8 := ok__law_box (P := l.prog) (w := w) (base := base) T  F8
  have C__law_box : Cal l.prog w K mg base "_law_box" ["script", "k"] 1 false g__law_box [] := ⟨_, _, G8, PySem.W.mg_of X G a8, k8, F8.binds (ps := ["script", "k"]) fun _ _ _ _ _ _ us hl => match us, hl with | [_, _], _ => rfl⟩
  have G9 := ok__law_take (P := l.prog) (w := w) (base := base) T  F9
  have C__law_take : Cal l.prog w K mg base "_law_take" ["box", "many"] 1 true g__law_take [] := ⟨_, _, G9, PySem.W.mg_of X G a9, k9, F9.binds (ps := ["box", "many"]) fun _ _ _ _ _ _ us hl => match us, hl with | [_, _], _ => rfl⟩
  have G10 := ok__law_pick (P := l.prog) (w := w) (base := base) T  C__law_take F10
  have C__law_pick : Cal l.prog w K mg base "_law_pick" ["box", "some"] 2 true g__law_pick [] := ⟨_, _, G10, PySem.W.mg_of X G a10, k10, F10.binds (ps := ["box", "some"]) fun _ _ _ _ _ _ us hl => match us, hl with | [_, _], _ => rfl⟩
  have G11 := ok__law_shuffled (P := l.prog) (w := w) (base := base) T  C__law_take F11
  have C__law_shuffled : Cal l.prog w K mg base "_law_shuffled" ["box", "some"] 2 true g__law_shuffled [] := ⟨_, _, G11, PySem.W.mg_of X G a11, k11, F11.binds (ps := ["box", "some"]) fun _ _ _ _ _ _ us hl => match us, hl with | [_, _], _ => rfl⟩
  have B12 : Binds K _ ["told", "due"] [] := F12.binds (ps := ["told", "due"]) fun _ _ _ _ _ _ us hl => match us, hl with | [_, _], _ => rfl
  have G12 := ok__law_same (P := l.prog) (w := w) (base := base) T  F12 (PySem.W.mg_of X G a12) B12 26
  have C__law_same : Cal l.prog w K mg base "_law_same" ["told", "due"] 26 false g__law_same [] := ⟨_, _, G12, PySem.W.mg_of X G a12, k12, B12⟩
  have G13 := ok__law_term (P := l.prog) (w := w) (base := base) T  C__law_pick C__law_shuffled C__law_take F13
  have C__law_term : Cal l.prog w K mg base "_law_term" ["box", "most", "many"] 3 true g__law_term [] := ⟨_, _, G13, PySem.W.mg_of X G a13, k13, F13.binds (ps := ["box", "most", "many"]) fun _ _ _ _ _ _ us hl => match us, hl with | [_, _, _], _ => rfl⟩
  have G14 := ok__law_rows (P := l.prog) (w := w) (base := base) T  F14
  have C__law_rows : Cal l.prog w K mg base "_law_rows" ["term"] 1 false g__law_rows [] := ⟨_, _, G14, PySem.W.mg_of X G a14, k14, F14.binds (ps := ["term"]) fun _ _ _ _ _ _ us hl => match us, hl with | [_], _ => rfl⟩
  have G15 := ok__law_term_fault (P := l.prog) (w := w) (base := base) T  F15
  have C__law_term_fault : Cal l.prog w K mg base "_law_term_fault" ["value"] 1 false g__law_term_fault [] := ⟨_, _, G15, PySem.W.mg_of X G a15, k15, F15.binds (ps := ["value"]) fun _ _ _ _ _ _ us hl => match us, hl with | [_], _ => rfl⟩
  have G16 := ok__law_rebuilt (P := l.prog) (w := w) (base := base) T  F16
  have C__law_rebuilt : Cal l.prog w K mg base "_law_rebuilt" ["rows", "spot", "odd"] 1 false g__law_rebuilt [] := ⟨_, _, G16, PySem.W.mg_of X G a16, k16, F16.binds (ps := ["rows", "spot", "odd"]) fun _ _ _ _ _ _ us hl => match us, hl with | [_, _, _], _ => rfl⟩
  have G17 := ok__law_heard (P := l.prog) (w := w) (base := base) T  E_BadTerm KK_BadTerm_OwnError Cckx_check_term_value C_check_term__X F17
  have C__law_heard : Cal l.prog w K mg base "_law_heard" ["value", "named"] 6 false g__law_heard [] := ⟨_, _, G17, PySem.W.mg_of X G a17, k17, F17.binds (ps := ["value", "named"]) fun _ _ _ _ _ _ us hl => match us, hl with | [_, _], _ => rfl⟩
  have G18 := ok__law_chain (P := l.prog) (w := w) (base := base) T  F18
  have C__law_chain : Cal l.prog w K mg base "_law_chain" ["things"] 1 false g__law_chain [] := ⟨_, _, G18, PySem.W.mg_of X G a18, k18, F18.binds (ps := ["things"]) fun _ _ _ _ _ _ us hl => match us, hl with | [_], _ => rfl⟩
  have G19 := ok__law_bent (P := l.prog) (w := w) (base := base) T  C__law_pick C__law_rebuilt C__law_rows C__law_take F19
  have C__law_bent : Cal l.prog w K mg base "_law_bent" ["box", "term"] 3 true g__law_bent [] := ⟨_, _, G19, PySem.W.mg_of X G a19, k19, F19.binds (ps := ["box", "term"]) fun _ _ _ _ _ _ us hl => match us, hl with | [_, _], _ => rfl⟩
  have G20 := ok_law (P := l.prog) (w := w) (base := base) T  C__law_bent C__law_box C__law_chain C__law_heard C__law_same C__law_shuffled C__law_term C__law_term_fault F20
  exact G20
theorem walk {l : PySem.W.OpenLaw} {q : Program} {loose : List Str} {XP : (Str → Option Value) → Heap → Prop} {YP : World → Heap → Prop} {d : DefRec} {K : Params → PySem.W.Frag} (hn : l.most = some 63) (hdf : d.params.defaults = [])
    (math : ∀ ns : List Int, ns.length ≤ 63 → ∃ bs, g_law [scr ns] [] = .ok (.val (.bool true)) bs)
    (hY : ∀ (w : World) (h : Heap), YP w h → (K w.params).In h)
    (F : ∀ (w : World) (mg : Str → Option Value) (fa : Addr) (h : Heap), (K w.params).In h → h.Ns mainGlobals mg → mg d.name = some (.ref fa) →
      ∃ fd : FuncData, (∀ (s : Shared) (u : Value), BindsTo s fd ⟨[u], []⟩ [("script", u)]) ∧ ∀ base : Heap, (K w.params).In base → base.Ns mainGlobals mg → FnOk l.prog w (K w.params) mg base CX0 27 fa fd ["script"] (spF (K w.params) false 1 g_law)) :
    PySem.W.WalkO q loose XP YP l.row.toRowW d [] (fun f vs => PySem.call f vs) :=
  L2.walk_of (n := 63) (k := 27) (x := "script") (CX := fun _ => CX0) (sp := fun w => spF (K w.params) false 1 g_law) hn (by decide) hdf ⟨rfl, by decide, by decide⟩ hY F (fun w H a ns hl _ hS => law_sp (math ns hl) hS) fun _ _ _ _ _ z => z
end Law

namespace Law
open PySem L2 L3
theorem box_ok {ns : List Int} {k : Nat} {Q : R → List D → Prop} (hk : k < 100) (hl : ns.length ≤ 63) (hq : ∀ b, VB b → Q (.new (.lst b)) []) : WpF (g__law_box [scr ns, .int k] []) Q := by
  unfold g__law_box b__law_box
  rw [wpF_runF]
  simp
  have leaf : ∀ c g : Int, 0 ≤ g → ((c % 2147483563).natAbs.log2 + Nat.log2 40014 < 1000000 ∧ Nat.log2 3067 + k.log2 < 1000000 ∧ 2 ≤ sizeLine ∧ Q (.new (.lst [.int g, .int ((c % 2147483563 * 40014 + 3067 * (k : Int)) % 2147483563 + 1)])) []) := fun c g hg =>
    ⟨mulS (by omega) (by omega), mulS (by omega) (by omega), by decide, hq _ ⟨_, _, rfl, hg, by omega, by omega⟩⟩
  refine ⟨mulS (by omega) (by omega), fun h => ?_, fun h => ⟨fun h1 => ⟨h1, ?_⟩, fun _ => ⟨fun _ => leaf _ _ (by omega), fun _ => leaf _ _ (by omega)⟩⟩⟩
  · refine cV_at (by omega) (by omega) fun x _ => ⟨fun h => leaf _ _ (by omega), fun _ => leaf _ _ (by omega)⟩
  · refine cV_at (Int.emod_nonneg _ (by omega)) (Int.emod_lt_of_pos _ (by omega)) fun x _ => ⟨mulS (by omega) (by omega), fun h => leaf _ _ (by omega), fun _ => leaf _ _ (by omega)⟩

theorem mod_q {P : Int → Prop} {x m : Int} (h0 : 0 < m) (h : ∀ d : Nat, (d : Int) < m → P d) : P (x % m) := by
  obtain ⟨d, e, hd⟩ := modN x h0
  rw [e]; exact h d hd
theorem take_ok {box : List D} {many : Int} {Q : R → List D → Prop} (hb : VB box) (h0 : 0 < many) (h1 : many < 2 ^ 30) (hq : ∀ (d : Nat) y, (d : Int) < many → VB y → Q (.val (.int d)) y) : WpF (g__law_take [.int many] box) Q := by
  obtain ⟨g, r, rfl, hg, hr, hr2⟩ := hb
  unfold g__law_take b__law_take
  rw [wpF_runF]
  simp
  refine ⟨fun hgp => ⟨h0, ⟨h0, divS (by omega)⟩, ?_⟩, fun hgn => ⟨mulS (by omega) (by omega), mulS (by omega) (by omega), mulS (by omega) (by omega), divS (by omega), h0, ?_⟩⟩
  · exact mod_q (P := fun v => Q (.val (.int v)) _) h0 fun d hd => hq d _ hd ⟨_, _, rfl, Int.ediv_nonneg hg (by omega), hr, hr2⟩
  · exact mod_q (P := fun v => Q (.val (.int v)) _) h0 fun d hd => hq d _ hd ⟨_, _, rfl, hg, by omega, by omega⟩

theorem pick_ok {box : List D} {xs : List D} {Q : R → List D → Prop} (hb : VB box) (h0 : 0 < xs.length) (h1 : xs.length < 2 ^ 30) (hq : ∀ d y, d ∈ xs → VB y → Q (.val d) y) : WpF (g__law_pick [.list xs] box) Q := by
  unfold g__law_pick b__law_pick
  rw [wpF_runF]
  simp
  refine take_ok hb (by omega) (by omega) fun d y hd hy => ?_
  have hd' : d < xs.length := by omega
  simp [cV_n hd']
  exact hq _ _ (List.getElem_mem _) hy

def InvShuf (xs : List D) (i : Nat) (s : S) : Prop := ∃ l f t y, s = ⟨[some .io, some (.val (.list xs)), some (.own (.lst l)), some (.own (.lst f)), t], y⟩ ∧ VB y ∧ (f ++ l).Perm xs ∧ l.length + i = xs.length
theorem shuffled_ok {box : List D} {xs : List D} {Q : R → List D → Prop} (hb : VB box) (hl : xs.length ≤ 2 ^ 20) (hq : ∀ ys y, ys.Perm xs → VB y → Q (.new (.lst ys)) y) : WpF (g__law_shuffled [.list xs] box) Q := by
  unfold g__law_shuffled b__law_shuffled
  rw [wpF_runF]
  simp
  refine ⟨rOk_of (by omega) (by omega), ?_⟩
  refine wp_forL (InvShuf xs) ⟨xs, [], none, box, rfl, hb, .refl _, rfl⟩ ?_ ?_
  · rintro i d s hd ⟨l, f, t, y, rfl, hy, hp, hli⟩
    have hi := (range_at hd).1
    simp
    refine take_ok hy (by omega) (by omega) fun d z hd hz => ?_
    have hd' : d < l.length := by omega
    have hf : f.length + l.length = xs.length := by rw [← List.length_append]; exact hp.length_eq
    have hs : l.length ≤ sizeLine := by rw [size_eq]; omega
    simp [popAt_n hd' hs]
    refine ⟨by rw [size_eq]; omega, _, _, _, _, rfl, hz, perm_pop hd' hp, ?_⟩
    rw [List.length_eraseIdx, if_pos hd']; omega
  · rintro s ⟨l, f, t, y, rfl, hy, hp, hli⟩
    have : l = [] := List.length_eq_zero_iff.mp (by rw [range_len] at hli; omega)
    subst this
    simp
    exact hq _ _ (by simpa using hp) hy

theorem shufA_ok {box : List D} {n : Nat} {Q : R → List D → Prop} (hb : VB box) (hl : n ≤ 2 ^ 20) (hq : ∀ (ys : List Nat) y, ys.Perm (List.range n) → VB y → Q (.new (.lst (ys.map nD))) y) : WpF (g__law_shuffled [.list (dRange 0 n)] box) Q := by
  refine shuffled_ok hb (by rw [range_len]; exact hl) fun ys y hp hy => ?_
  rw [range_nD] at hp
  have hall : ∀ d ∈ ys, ∃ k : Nat, d = nD k := fun d hd => by
    obtain ⟨k, _, e⟩ := List.mem_map.mp (hp.mem_iff.mp hd)
    exact ⟨k, e.symm⟩
  have : ∃ ks : List Nat, ys = ks.map nD := by
    clear hp hq
    induction ys with
    | nil => exact ⟨[], rfl⟩
    | cons d ys ih =>
      obtain ⟨k, rfl⟩ := hall d List.mem_cons_self
      obtain ⟨ks, e⟩ := ih fun d hd => hall d (List.mem_cons_of_mem _ hd)
      exact ⟨k :: ks, by rw [e]; rfl⟩
  obtain ⟨ks, rfl⟩ := this
  refine hq ks y ?_ hy
  have inv : ∀ l : List Nat, (l.map nD).map (fun d => match d with | .int i => i.toNat | _ => 0) = l := fun l => by
    rw [List.map_map]
    conv => rhs; rw [← List.map_id l]
    rfl
  have := hp.map (fun d => match d with | .int i => i.toNat | _ => 0)
  rwa [inv, inv] at this


def InvJO (L : D) (F : List (List Nat)) (i : Nat) (s : S) : Prop := ∃ t u, s = ⟨[some (.val L), some (.own (.dct (trueK ((F.take i).flatten.foldl addK [])))), t, u], []⟩
def InvJI (L : D) (e : D) (ks : List Nat) (w : List Nat) (i : Nat) (s : S) : Prop := ∃ u, s = ⟨[some (.val L), some (.own (.dct (trueK ((w.take i).foldl addK ks)))), some (.val e), u], []⟩
theorem joined_ok {L : D} {F : List (List Nat)} {Q : R → List D → Prop} (hL : L = .tuple (F.map tN) ∨ L = .list (F.map tN)) (hl : F.flatten.length < sizeLine) (hq : Q (.val (tN (joinedN F))) []) : WpF (g_joined_lots [L] []) Q := by
  unfold g_joined_lots b_joined_lots
  rw [wpF_runF]
  have key : Wp (forL (gN 2) (sFor (iVal (frz (eVar 2))) (gN 3) (sDPut 1 (frz (eC (PyData.bool true))) (frz (eVar 3)))) (F.map tN) ⟨[some (.val L), some (.own (.dct [])), none, none], []⟩)
      (goS (sRet (eP [.ex (frz (eP [.ex (frz (eDList 1))] pSorted))] pTupleOf)) (fnE Q)) := by
    refine wp_forL (InvJO L F) ⟨none, none, rfl⟩ ?_ ?_
    · rintro i d s hd ⟨t, u, rfl⟩
      rw [List.getElem?_map] at hd
      cases hw : F[i]? with
      | none => rw [hw] at hd; cases hd
      | some w =>
        rw [hw] at hd; cases hd
        simp [tN]
        refine wp_forL (InvJI L (.tuple (w.map nD)) ((F.take i).flatten.foldl addK []) w) ⟨u, rfl⟩ ?_ ?_
        · rintro j d s hd ⟨u, rfl⟩
          rw [List.getElem?_map] at hd
          cases hn : w[j]? with
          | none => rw [hn] at hd; cases hd
          | some n =>
            rw [hn] at hd; cases hd
            simp [nD]
            have hs : ((w.take j).foldl addK ((F.take i).flatten.foldl addK [])).length < sizeLine := by
              rw [← List.foldl_append]
              refine Nat.lt_of_le_of_lt (addK_len _ []) (Nat.lt_of_le_of_lt ?_ hl)
              have h1 : ((F.take i).flatten ++ w.take j).Sublist F.flatten := by
                obtain ⟨hi, e⟩ := List.getElem?_eq_some_iff.mp hw
                have : F.flatten = (F.take i).flatten ++ (w ++ (F.drop (i + 1)).flatten) := by
                  rw [← e, ← List.flatten_cons, ← List.drop_eq_getElem_cons hi, ← List.flatten_append, List.take_append_drop]
                rw [this]
                exact (List.Sublist.refl _).append ((List.take_sublist _ _).trans (List.sublist_append_left _ _))
              simpa using h1.length_le
            refine ⟨by rw [trueK_len]; exact hs, some (.val (.int n)), ?_⟩
            rw [putD_true, List.take_add_one, hn, List.foldl_append]
            rfl
        · rintro s ⟨u, rfl⟩
          rw [List.length_map, List.take_length]
          refine ⟨some (.val (.tuple (w.map nD))), u, ?_⟩
          rw [List.take_add_one, hw, List.flatten_append, List.foldl_append]
          simp
    · rintro s ⟨t, u, rfl⟩
      rw [List.length_map, List.take_length]
      have hs : (F.flatten.foldl addK []).length ≤ sizeLine := Nat.le_trans (addK_len _ []) (Nat.le_of_lt (by simpa using hl))
      simp [keys_true, sortOk_ints hs, sort_ints]
      exact hq
  rcases hL with rfl | rfl <;> simpa using key

def InvSame (T : D) (i : Nat) (s : S) : Prop := ∃ a b, s = ⟨[some (.val T), some (.val T), a, b], []⟩
theorem same_gr : ∀ (m n : Nat) (x : D) (Q : R → List D → Prop), Okd n x → n < m → Q (.val (.bool true)) [] → WpF (gr__law_same m [x, x] []) Q
  | 0, _, _, _, _, h, _ => absurd h (Nat.not_lt_zero _)
  | m + 1, n, x, Q, hx, hn, hq => by
    show WpF (runF false 4 (b__law_same (gr__law_same m)) [x, x] []) Q
    unfold b__law_same
    rw [wpF_runF]
    cases hx with
    | non => simp; exact hq
    | bool n b => cases b <;> simp <;> exact hq
    | int n i => simp; exact hq
    | str n x hs => simp [ndEqS hs]; exact hq
    | tup n xs hx =>
      simp
      refine wp_forL (InvSame (.tuple xs)) ⟨none, none, rfl⟩ ?_ ?_
      · rintro i d s hd ⟨a, b, rfl⟩
        obtain ⟨x, y, h1, h2, rfl⟩ := zip_at hd
        rw [h1] at h2; cases h2
        simp
        refine same_gr m n x _ (hx x (List.mem_of_getElem? h1)) (by omega) ?_
        simp
        exact ⟨_, _, rfl⟩
      · rintro s ⟨a, b, rfl⟩
        simp
        exact hq
theorem same_ok {n : Nat} {x : D} {Q : R → List D → Prop} (hx : Okd n x) (hn : n < 26) (hq : Q (.val (.bool true)) []) : WpF (g__law_same [x, x] []) Q := same_gr 26 n x Q hx hn hq


abbrev envT (a b n : Int) (s4 s5 s6 s7 s8 s9 s10 s11 s12 s13 s14 s15 : Option Sl) : List (Option Sl) := [some .io, some (.val (.int a)), some (.val (.int b)), some (.val (.int n)), s4, s5, s6, s7, s8, s9, s10, s11, s12, s13, s14, s15]
def PF (m n : Nat) (ps : List Pt) : Prop := (∀ p ∈ ps, Sp m p.1 p.2.1 p.2.2) ∧ (ps.flatMap (·.2.2)).Perm (List.range n)
def InvT (a b : Int) (m n : Nat) (i : Nat) (s : S) : Prop := ∃ (ps : List Pt) (s6 s7 s9 s10 s11 s12 s13 s15 : Option Sl) (y : List D), s = ⟨envT a b n (some (.own (.lst (ps.map ptD)))) none s6 s7 none s9 s10 s11 s12 s13 none s15, y⟩ ∧ okSlot (some s11) = true ∧ VB y ∧ PF m n ps ∧ 1 ≤ ps.length ∧ ps.length + i ≤ n
def InvPop (a b : Int) (n : Nat) (ps : List Pt) (s6 s7 s9 s10 s11 s12 s13 s15 : Option Sl) (i : Nat) (acc : List D) (s : S) : Prop := ∃ (qs rs : List Pt) (x : Option Sl) (y : List D), acc = qs.map ptD ∧ (qs ++ rs).Perm ps ∧ rs.length + i = ps.length ∧ VB y ∧
  s = ⟨envT a b n (some (.own (.lst (rs.map ptD)))) none s6 s7 x s9 s10 s11 s12 s13 none s15, y⟩
def Jn (qs : List Pt) (j : Nat) : List (List Nat) := ((qs.take j).map (·.2.1)).foldl cross [[]]
def Bn (qs : List Pt) (j : Nat) : List (List Nat) := (qs.take j).flatMap (·.2.1)
def InvJ (a b : Int) (n : Nat) (s4 s6 s15 : Option Sl) (y : List D) (qs : List Pt) (j : Nat) (s : S) : Prop := ∃ (s9 : Sl) (s11 s12 s13 : Option Sl), s = ⟨envT a b n s4 none s6 (some (.val (.list (qs.map ptD)))) none (some s9) (some (.own (.lst ((Bn qs j).map tN)))) s11 s12 s13 none s15, y⟩ ∧
  ((j = 0 ∧ s9 = .own (.lst ((Jn qs j).map tN))) ∨ (0 < j ∧ s9 = .val (.list ((Jn qs j).map tN)))) ∧ okSlot (some s11) = true
def InvL (a b : Int) (n : Nat) (s4 s6 s7 s9 s10 s11 s15 : Option Sl) (y : List D) (J W : List (List Nat)) (i : Nat) (s : S) : Prop := ∃ (s13 : Option Sl), s = ⟨envT a b n s4 none s6 s7 none s9 s10 s11 (some (.own (.lst ((cross (J.take i) W).map tN)))) s13 none s15, y⟩
theorem Jn_succ {qs : List Pt} {j : Nat} {q : Pt} (h : qs[j]? = some q) : Jn qs (j + 1) = cross (Jn qs j) q.2.1 := by
  unfold Jn
  rw [List.take_add_one, h, List.map_append, List.foldl_append]
  rfl
theorem Bn_succ {qs : List Pt} {j : Nat} {q : Pt} (h : qs[j]? = some q) : Bn qs (j + 1) = Bn qs j ++ q.2.1 := by
  unfold Bn
  rw [List.take_add_one, h, List.flatMap_append]
  simp
def bJoin : M Fl := sSeq (sSet 12 (eLst []))
    (sSeq (sFor (iVal (frz (eVar 9))) (gN 13) (sSet 12 (e2 (.var 12) (.ex (frz (eComp (iVal (frz (e2 (.var 11) (.ex (frz (eC (.int 1)))) pIx))) [14] (gN 14) (mret true) (frz (eP [.ex (frz (eP [.ex (frz (e2 (.var 13) (.var 14) pAdd))] pSorted))] pTupleOf))))) pAdd)))
    (sPar [9, 10] [eVar 12, e2 (.var 10) (.ex (frz (e2 (.var 11) (.ex (frz (eC (.int 1)))) pIx))) pAdd]))
theorem join_ok {a b : Int} {n m : Nat} {s4 s6 s11 s12 s13 s15 : Option Sl} {y : List D} {qs : List Pt} {Q : Fl → S → Prop} (hm1 : 1 ≤ m) (hm : m ≤ 60) (hp : ∀ p ∈ qs, Sp m p.1 p.2.1 p.2.2) (h3 : qs.length ≤ 3) (h1 : 1 ≤ qs.length) (hl : (qs.flatMap (·.2.2)).length ≤ 12) (h11 : okSlot (some s11) = true) (hw : ∀ p ∈ qs, ∀ w ∈ p.2.1, w.length ≤ 12) 
    (hq : ∀ s11 s12 s13, okSlot (some s11) = true → Q .nx ⟨envT a b n s4 none s6 (some (.val (.list (qs.map ptD)))) none (some (.val (.list ((crossAll (qs.map (·.2.1))).map tN)))) (some (.own (.lst ((qs.flatMap (·.2.1)).map tN)))) s11 s12 s13 none s15, y⟩) :
    Wp (forL (gN 11) bJoin (qs.map ptD) ⟨envT a b n s4 none s6 (some (.val (.list (qs.map ptD)))) none (some (.own (.lst [tN []]))) (some (.own (.lst []))) s11 s12 s13 none s15, y⟩) Q := by
  have hsz := size_eq
  refine wp_forL (InvJ a b n s4 s6 s15 y qs) ⟨_, s11, s12, s13, rfl, .inl ⟨rfl, rfl⟩, h11⟩ ?_ ?_
  · rintro j d s hd ⟨s9, s11, s12, s13, rfl, h9, h11⟩
    obtain ⟨q, hqj, rfl⟩ := mem_map_at hd
    have hqm : q ∈ qs := List.mem_of_getElem? hqj
    have hJ1 := cross_small hm1 hm hp h3 hl (j + 1)
    have hJ0 := cross_small hm1 hm hp h3 hl j
    have hB : (Bn qs (j + 1)).length ≤ 720 := by
      have e1 : (qs.flatMap (·.2.1)).length = (Bn qs (j + 1)).length + ((qs.drop (j + 1)).flatMap (·.2.1)).length := by
        unfold Bn
        rw [← List.length_append, ← List.flatMap_append, List.take_append_drop]
      have := flat_small hm1 hm hp
      omega
    rw [Bn_succ hqj, List.length_append] at hB
    have hJ1' : (cross (Jn qs j) q.2.1).length ≤ 13824000 := by rw [← Jn_succ hqj]; exact hJ1
    have hwl : q.2.1.length ≤ 720 := by omega
    have lenJ : ∀ w ∈ Jn qs j, w.length ≤ 36 := fun w hw' => by
      have := foldl_long (k := 12) (qs.take j) [[]] 0 (fun w hw => by rw [List.mem_singleton.mp hw]; exact Nat.le_refl _) (fun p hpm => hw p (List.mem_of_mem_take hpm)) w hw'
      have h2 : (qs.take j).length ≤ 3 := by rw [List.length_take]; omega
      omega
    have inner : ∀ (Q : Fl → S → Prop), (∀ s13, Q .nx ⟨envT a b n s4 none s6 (some (.val (.list (qs.map ptD)))) none (some (.val (.list ((Jn qs j).map tN)))) (some (.own (.lst ((Bn qs j).map tN)))) (some (.val (ptD q))) (some (.own (.lst ((cross (Jn qs j) q.2.1).map tN)))) s13 none s15, y⟩) →
        Wp (forL (gN 13) (sSet 12 (e2 (.var 12) (.ex (frz (eComp (iVal (frz (e2 (.var 11) (.ex (frz (eC (.int 1)))) pIx))) [14] (gN 14) (mret true) (frz (eP [.ex (frz (eP [.ex (frz (e2 (.var 13) (.var 14) pAdd))] pSorted))] pTupleOf))))) pAdd)) ((Jn qs j).map tN)
          ⟨envT a b n s4 none s6 (some (.val (.list (qs.map ptD)))) none (some (.val (.list ((Jn qs j).map tN)))) (some (.own (.lst ((Bn qs j).map tN)))) (some (.val (ptD q))) (some (.own (.lst []))) s13 none s15, y⟩) Q := by
      intro Q hQ
      refine wp_forL (InvL a b n s4 s6 (some (.val (.list (qs.map ptD)))) (some (.val (.list ((Jn qs j).map tN)))) (some (.own (.lst ((Bn qs j).map tN)))) (some (.val (ptD q))) s15 y (Jn qs j) q.2.1) ⟨s13, rfl⟩ ?_ ?_
      · rintro i d s hd ⟨s13, rfl⟩
        obtain ⟨w, hw', rfl⟩ := mem_map_at hd
        simp
        refine wp_mapE tN (fun m => tN (srtN (w ++ m))) (by omega) (fun v hv => ?_) ?_
        · have h1 := lenJ w (List.mem_of_getElem? hw')
          have h2 := hw q hqm v hv
          simp [-List.map_append]
          exact ⟨by omega, rfl⟩
        · have hs : (cross ((Jn qs j).take (i + 1)) q.2.1).length ≤ (cross (Jn qs j) q.2.1).length := by
            rw [cross_len, cross_len]
            exact Nat.mul_le_mul_right _ (by rw [List.length_take]; omega)
          rw [cross_take hw', List.length_append, List.length_map] at hs
          simp
          refine ⟨by omega, ?_⟩
          refine ⟨some (.val (tN w)), ?_⟩
          rw [cross_take hw', List.map_append, List.map_map]
          rfl
      · rintro s ⟨s13, rfl⟩
        rw [List.length_map, List.take_length]
        exact hQ s13
    have fin : ∀ s13, InvJ a b n s4 s6 s15 y qs (j + 1) ⟨envT a b n s4 none s6 (some (.val (.list (qs.map ptD)))) none (some (.val (.list ((cross (Jn qs j) q.2.1).map tN)))) (some (.own (.lst ((Bn qs j).map tN ++ q.2.1.map tN)))) (some (.val (ptD q))) (some (.val (.list ((cross (Jn qs j) q.2.1).map tN)))) s13 none s15, y⟩ := fun s13 => by
      refine ⟨_, some (.val (ptD q)), some (.val (.list ((cross (Jn qs j) q.2.1).map tN))), s13, ?_, .inr ⟨by omega, rfl⟩, rfl⟩
      rw [Jn_succ hqj, Bn_succ hqj, List.map_append]
    unfold bJoin
    rcases h9 with ⟨hj, rfl⟩ | ⟨hj, rfl⟩
    · simp
      refine inner _ fun s13 => ?_
      simp
      exact ⟨by omega, fin s13⟩
    · simp
      refine inner _ fun s13 => ?_
      simp
      exact ⟨by omega, fin s13⟩
  · rintro s ⟨s9, s11, s12, s13, rfl, h9, h11⟩
    rw [List.length_map] at h9 ⊢
    rcases h9 with ⟨hj, _⟩ | ⟨hj, rfl⟩
    · omega
    · have e1 : Jn qs qs.length = crossAll (qs.map (·.2.1)) := by unfold Jn; rw [List.take_length]; rfl
      have e2 : Bn qs qs.length = qs.flatMap (·.2.1) := by unfold Bn; rw [List.take_length]
      rw [e1, e2]
      exact hq s11 s12 s13 h11

theorem ptD_len {ps : List Pt} : (ps.map ptD).length = ps.length := List.length_map _
theorem pop_ok {a b : Int} {n c : Nat} {ps : List Pt} {s6 s7 s9 s10 s11 s12 s13 s15 : Option Sl} {y : List D} {Q : List D → S → Prop} (hc : c ≤ ps.length) (hps : ps.length ≤ 12) (hy : VB y)
    (hq : ∀ (qs rs : List Pt) z, VB z → (qs ++ rs).Perm ps → qs.length = c → Q (qs.map ptD) ⟨envT a b n (some (.own (.lst (rs.map ptD)))) none s6 s7 none s9 s10 s11 s12 s13 none s15, z⟩) :
    Wp (compL (gN 8) (mret true) (frz (eM 4 [frz (eCallB g__law_take 0 [frz (eP [.var 4] pLen)] [])] mPopAt)) [8] (dRange 0 c) [] ⟨envT a b n (some (.own (.lst (ps.map ptD)))) none s6 s7 none s9 s10 s11 s12 s13 none s15, y⟩) Q := by
  have hsz := size_eq
  refine wp_compL (InvPop a b n ps s6 s7 s9 s10 s11 s12 s13 s15) ⟨[], ps, none, y, rfl, .refl _, rfl, hy, rfl⟩ ?_ ?_
  · rintro i d acc s hd ⟨qs, rs, x, z, rfl, hp, hl, hz, rfl⟩
    have hi := (range_at hd).1
    have hql : qs.length + rs.length = ps.length := by rw [← List.length_append]; exact hp.length_eq
    simp
    refine take_ok hz (by omega) (by omega) fun k z2 hk hz2 => ?_
    have hk' : k < rs.length := by omega
    simp [popAt_map ptD hk' (show rs.length ≤ sizeLine by omega)]
    refine ⟨by omega, qs ++ [rs[k]], rs.eraseIdx k, some (.val d), z2, by rw [List.map_append]; rfl, perm_pop hk' hp, ?_, hz2, rfl⟩
    rw [List.length_eraseIdx, if_pos hk']; omega
  · rintro acc s ⟨qs, rs, x, z, rfl, hp, hl, hz, rfl⟩
    rw [range_len] at hl
    have hql : qs.length + rs.length = ps.length := by rw [← List.length_append]; exact hp.length_eq
    exact hq qs rs z hz hp (by omega)
theorem PF.pick {m n : Nat} {ps qs rs : List Pt} (h : PF m n ps) (hp : (qs ++ rs).Perm ps) : (∀ p ∈ qs, Sp m p.1 p.2.1 p.2.2) ∧ (∀ p ∈ rs, Sp m p.1 p.2.1 p.2.2) ∧ (qs.flatMap (·.2.2) ++ rs.flatMap (·.2.2)).Perm (List.range n) := by
  refine ⟨fun p hm => h.1 p (hp.mem_iff.mp (List.mem_append_left _ hm)), fun p hm => h.1 p (hp.mem_iff.mp (List.mem_append_right _ hm)), ?_⟩
  rw [← List.flatMap_append]
  exact (hp.flatMap_right _).trans h.2
theorem term_ok {box : List D} {most m : Nat} {Q : R → List D → Prop} (hb : VB box) (h1 : 1 ≤ most) (h2 : most ≤ 12) (hm1 : 1 ≤ m) (hm : m ≤ 60)
    (hq : ∀ t W th n y, Sp m t W th → th.Perm (List.range n) → 1 ≤ n → n ≤ most → VB y → Q (.val (.tuple [t, fN (srtW W)])) y) : WpF (g__law_term [.int (most : Int), .int (m : Int)] box) Q := by
  have hsz := size_eq
  unfold g__law_term b__law_term
  rw [wpF_runF]
  simp
  refine take_ok hb (by omega) (by omega) fun d y hd hy => ?_
  obtain ⟨n, hn, hn1, hn2⟩ : ∃ n : Nat, (1 : Int) + d = n ∧ 1 ≤ n ∧ n ≤ most := ⟨1 + d, by omega, by omega, by omega⟩
  simp [hn]
  refine ⟨lrOk_of (by omega) (by omega) (by omega) (by omega), ?_⟩
  refine shufA_ok hy (by omega) fun ks z hk hz => ?_
  simp
  have hkl : ks.length = n := by rw [hk.length_eq, List.length_range]
  refine wp_mapE nD (fun k => ptD (nD k, [[k]], [k])) (by omega) (fun k _ => ?_) ?_
  · simp [ptD, nD, tN]
    omega
  simp
  refine ⟨rOk_of (by omega) (by omega), ?_⟩
  have fin : ∀ (ps : List Pt) (s6 s7 s9 s10 s11 s12 s13 s15 : Option Sl) (y : List D), PF m n ps → ps.length = 1 → VB y → Wp (sRet (eTup [frz (e2 (.ex (frz (e2 (.var 4) (.ex (frz (eC (.int 0)))) pIx))) (.ex (frz (eC (.int 0)))) pIx), frz (eP [.ex (frz (eP [.ex (frz (e2 (.ex (frz (e2 (.var 4) (.ex (frz (eC (.int 0)))) pIx))) (.ex (frz (eC (.int 1)))) pIx))] pSorted))] pTupleOf)])
      ⟨envT most m n (some (.own (.lst (ps.map ptD)))) none s6 s7 none s9 s10 s11 s12 s13 none s15, y⟩) (fnE Q) := by
    intro ps s6 s7 s9 s10 s11 s12 s13 s15 y hP hl hy
    match ps, hl with
    | [p], _ =>
      have hS := hP.1 p (by simp)
      have hth : p.2.2.Perm (List.range n) := by simpa using hP.2
      have hthl : p.2.2.length = n := by rw [hth.length_eq, List.length_range]
      have hW : p.2.1.length ≤ 720 := by
        have h3 := hS.few hm1
        have h4 : m * p.2.2.length ≤ 60 * 12 := Nat.mul_le_mul hm (by omega)
        omega
      simp [sorted_ways (show p.2.1.length ≤ sizeLine by omega) hS.ne]
      exact ⟨by omega, hq p.1 p.2.1 p.2.2 n y hS hth hn1 hn2 hy⟩
  refine wp_forL (InvT most m m n) ⟨ks.map fun k => (nD k, [[k]], [k]), none, none, none, none, none, none, none, none, z, ?_, rfl, hz, ⟨?_, ?_⟩, ?_, ?_⟩ ?_ ?_
  · rw [List.map_map]; rfl
  · intro p hp
    obtain ⟨k, _, rfl⟩ := List.mem_map.mp hp
    exact .leaf k
  · have : (ks.map fun k => ((nD k, [[k]], [k]) : Pt)).flatMap (·.2.2) = ks := by
      rw [List.flatMap_map]
      show ks.flatMap (fun k => [k]) = ks
      clear hk hkl
      induction ks with
      | nil => rfl
      | cons k ks ih => rw [List.flatMap_cons, ih]; rfl
    rw [this]; exact hk
  · rw [List.length_map]; omega
  · rw [List.length_map]; omega
  · rintro i d s hd ⟨ps, s6, s7, s9, s10, s11, s12, s13, s15, y, rfl, h11, hy, hP, hp1, hpi⟩
    have hi := (range_at hd).1
    simp
    refine ⟨fun hl => ?_, fun hl => ⟨by omega, pick_ok hy (by decide) (by decide) fun e y2 he hy2 => ?_⟩⟩
    · have := fin ps (some (.val d)) s7 s9 s10 s11 s12 s13 s15 y hP (by omega) hy
      simpa using this
    obtain ⟨c, hc, hc2, hc3, hck⟩ : ∃ c : Nat, pMin2 [.int (ps.length : Int), e] = some (.d (.int (c : Int))) ∧ 2 ≤ c ∧ c ≤ 3 ∧ c ≤ ps.length := by
      have he' : e = .int 2 ∨ e = .int 3 := by
        simpa using he
      rcases he' with rfl | rfl
      · refine ⟨2, ?_, by omega, by omega, by omega⟩
        rw [pMin2_int, show (if (2 : Int) < (ps.length : Int) then (2 : Int) else (ps.length : Int)) = ((2 : Nat) : Int) from by split <;> omega]
      · by_cases h : (3 : Int) < ps.length
        · exact ⟨3, by rw [pMin2_int, if_pos h]; rfl, by omega, by omega, by omega⟩
        · exact ⟨ps.length, by rw [pMin2_int, if_neg h], by omega, by omega, by omega⟩
    simp [hc]
    refine ⟨rOk_of (by omega) (by omega), ?_⟩
    have hps : ps.length ≤ 12 := by omega
    refine pop_ok hck hps hy2 fun qs rs z hz hp hqc => ?_
    obtain ⟨hSq, hSr, hth⟩ := hP.pick hp
    simp
    refine ⟨by omega, ?_⟩
    have hthl : (qs.flatMap (·.2.2)).length + (rs.flatMap (·.2.2)).length = n := by
      rw [← List.length_append, hth.length_eq, List.length_range]
    have hnd : (qs.flatMap (·.2.2) ++ rs.flatMap (·.2.2)).Nodup := hth.nodup_iff.mpr List.nodup_range
    have hndq := (List.nodup_append.mp hnd).1
    refine join_ok hm1 hm hSq (by omega) (by omega) (by omega) h11 (fun p hpq w hw => ?_) fun s11' s12' s13' h11' => ?_
    · have hpn := part_nodup hndq p hpq
      have hway := (hSq p hpq).ways hpn
      have h5 : w.length ≤ p.2.2.length := len_le_of_sub (hway.nodup w hw) (hway.sub w hw)
      have h6 : p.2.2.length ≤ (qs.flatMap (·.2.2)).length := by
        rw [List.flatMap_def]
        exact (List.sublist_flatten_of_mem (List.mem_map_of_mem (f := fun x : Pt => x.2.2) hpq)).length_le
      omega
    simp
    refine take_ok hz (by omega) (by omega) fun e3 y3 he3 hy3 => ?_
    simp
    have hpl : qs.length + rs.length = ps.length := by rw [← List.length_append]; exact hp.length_eq
    have perm2 : (rs.flatMap (·.2.2) ++ qs.flatMap (·.2.2)).Perm (List.range n) := List.perm_append_comm.trans hth
    have next : ∀ (q : Pt) (t6 t7 t9 t10 t11 t12 t13 t15 : Option Sl) (L : List D), Sp m q.1 q.2.1 q.2.2 → q.2.2 = qs.flatMap (·.2.2) → okSlot (some t11) = true → L = rs.map ptD ++ [ptD q] → InvT most m m n (i + 1) ⟨envT most m n (some (.own (.lst L))) none t6 t7 none t9 t10 t11 t12 t13 none t15, y3⟩ := by
      intro q t6 t7 t9 t10 t11 t12 t13 t15 L hq1 hq2 ht hL
      refine ⟨rs ++ [q], t6, t7, t9, t10, t11, t12, t13, t15, y3, by rw [hL, List.map_append]; rfl, ht, hy3, ⟨fun p hpm => ?_, ?_⟩, by simp, by simp; omega⟩
      · rcases List.mem_append.mp hpm with h | h
        · exact hSr p h
        · rw [List.mem_singleton.mp h]; exact hq1
      · rw [List.flatMap_append]
        simpa [hq2] using perm2
    refine ⟨fun h0 => ⟨fun hle => ⟨h11', ?_⟩, fun hgt => ⟨h11', ?_⟩⟩, fun h0 => ⟨h11', ?_⟩⟩
    · refine wp_mapE ptD (fun p => p.1) (by omega) (fun p _ => by simp) ?_
      simp [row_row]
      exact ⟨by omega, by omega, next (rowD (qs.map (·.1)), crossAll (qs.map (·.2.1)), qs.flatMap (·.2.2)) _ _ _ _ _ _ _ _ _ (.row qs hSq (by omega) (by omega) hle) rfl h11' rfl⟩
    · refine wp_mapE ptD (fun p => p.1) (by omega) (fun p _ => by simp) ?_
      simp [side_row]
      exact ⟨by omega, by omega, next (sideD (qs.map (·.1)), qs.flatMap (·.2.1), qs.flatMap (·.2.2)) _ _ _ _ _ _ _ _ _ (.side qs hSq (by omega) (by omega)) rfl h11' rfl⟩
    · refine wp_mapE ptD (fun p => p.1) (by omega) (fun p _ => by simp) ?_
      simp [side_row]
      exact ⟨by omega, by omega, next (sideD (qs.map (·.1)), qs.flatMap (·.2.1), qs.flatMap (·.2.2)) _ _ _ _ _ _ _ _ _ (.side qs hSq (by omega) (by omega)) rfl h11' rfl⟩
  · rintro s ⟨ps, s6, s7, s9, s10, s11, s12, s13, s15, y, rfl, h11, hy, hP, hp1, hpi⟩
    rw [range_len] at hpi
    exact fin ps s6 s7 s9 s10 s11 s12 s13 s15 y hP (by omega) hy

/-- the state ahead of a turn -/
def envR (t : Tr) (i : Nat) (x3 x4 x5 x6 x7 : Option (D ⊕ C)) : List (Option Sl) := [some (.val (trD t)), some (.own (.lst ((it i ([], [(t, [])])).1.map rowD3))), some (.stk ((it i ([], [(t, [])])).2.map entD)), oS x3, oS x4, oS x5, oS x6, oS x7]
def InvR (t : Tr) (i : Nat) (s : S) : Prop := ∃ x3 x4 x5 x6 x7, s = ⟨envR t i x3 x4 x5 x6 x7, []⟩ ∧ i ≤ 2 * cnt t - 1 ∧ okSlot (some (oS x7)) = true
theorem lrows_ok {t : Tr} {Q : R → List D → Prop} (hc : cnt t ≤ 60) (ht : (thS t).length ≤ 60) (hq : Q (.new (.lst ((rowsT 0 t).map rowD3))) []) : WpF (g__law_rows [trD t] []) Q := by
  have hsz := size_eq
  unfold g__law_rows b__law_rows
  rw [wpF_runF]
  simp
  refine ⟨by omega, ?_⟩
  have he : ([some (.val (trD t)), some (.own (.lst [])), some (.stk [([trD t], some [])]), none, none, none, none, none] : List (Option Sl)) = envR t 0 none none none none none := rfl
  rw [he]
  refine ⟨rOk_of (by omega) (by omega), ?_⟩
  refine wp_forL (InvR t) ⟨none, none, none, none, none, rfl, Nat.zero_le _, rfl⟩ ?_ ?_
  · rintro i d s hd ⟨x3, x4, x5, x6, x7, rfl, hi, hx7⟩
    have hz := it_sz t i
    have hth := fun n => thOf_le hi n
    have hend := fun h => it_end (t := t) (i := i) h hi
    have hnext := it_succ i ([], [(t, [])])
    have hfin : (it i ([], [(t, [])])).2 ≠ [] → i + 1 ≤ 2 * cnt t - 1 := fun h => by
      rcases Nat.lt_or_ge i (2 * cnt t - 1) with h1 | h1
      · exact h1
      · exfalso
        have e : i = 2 * cnt t - 1 := by omega
        rw [e, run_all] at h
        exact h rfl
    unfold InvR
    unfold envR at he ⊢
    rw [hnext]
    generalize it i ([], [(t, [])]) = q at *
    obtain ⟨Rw, st⟩ := q
    obtain ⟨h1, h2, h3⟩ := hz
    match st, h2, h3, hfin, hend with
    | [], h2, h3, hfin, hend =>
      have e := hend rfl
      simp
      have e : Rw = rowsT 0 t := e
      subst e
      exact hq
    | (.leaf x, l) :: st, h2, h3, hfin, hend =>
      rw [step_leaf]
      have h1 : Rw.length ≤ i := h1
      have hf := hfin (by simp)
      simp [entD, trD]
      refine ⟨by omega, by omega, by omega, fun hst => ?_, fun hst => ?_⟩
      · match st, hst, h3 with
        | (u, l') :: st, _, h3 =>
          have h4 := (h3 (u, l') (by simp)).1
          simp only at h4
          simp [entD]
          refine ⟨by omega, some (.inl d), some (.inl (.int (x : Int))), none, x6, x7, ⟨rfl, ?_, rfl, rfl, rfl, rfl, rfl⟩, hf, hx7⟩
          simp [L3.bump, entD, nD]
      · subst hst
        exact ⟨some (.inl d), some (.inl (.int (x : Int))), none, x6, x7, ⟨rfl, rfl, rfl, rfl, rfl, rfl, rfl⟩, hf, hx7⟩
    | (.node k ps, l) :: st, h2, h3, hfin, hend =>
      have h1 : Rw.length ≤ i := h1
      have hf := hfin (by simp)
      cases e : ps[l.length]? with
      | some p =>
        rw [step_push e]
        have hlt := (List.getElem?_eq_some_iff.mp e).1
        simp [entD, trD, trDs_len, hlt]
        have e2 : atI (trDs ps) (l.length : Int) = some (trD p) := by rw [trDs_map, atI_map, atI_nat e]; rfl
        rw [e2]
        have h2 : st.length + 1 ≤ i + 1 := h2
        simp
        exact ⟨⟨by omega, by omega⟩, some (.inl d), some (.inl (.tuple [.str (kindS k), .tuple (trDs ps)])), none, x6, x7, ⟨rfl, rfl, rfl, rfl, rfl⟩, hf, hx7⟩
      | none =>
        rw [step_pop e]
        have hge : ¬ l.length < ps.length := fun h => by rw [List.getElem?_eq_getElem h] at e; cases e
        simp [entD, trD, trDs_len, hge]
        have hln := h3 (.node k ps, l) (by simp)
        simp only at hln
        have inner : ∀ (Q : Fl → S → Prop), (∀ x7 : Option (D ⊕ C), okSlot (some (oS x7)) = true → Q .nx ⟨[some (.val (trD t)), some (.own (.lst (Rw.map rowD3))), some (.stk (([.tuple [.str (kindS k), .tuple (trDs ps)]], none) :: st.map entD)), some (.val d), some (.val (.tuple [.str (kindS k), .tuple (trDs ps)])),
            some (.val (.list (l.map nD))), some (.own (.lst ((l.flatMap (thOf Rw)).map nD))), oS x7], []⟩) →
          Wp (forL (gN 7) (sSet 6 (e2 (.var 6) (.ex (frz (eP [.ex (frz (e2 (.ex (frz (e2 (.var 1) (.var 7) pIx))) (.ex (frz (eC (.int 2)))) pIx))] pListOf))) pAdd)) (l.map nD)
            ⟨[some (.val (trD t)), some (.own (.lst (Rw.map rowD3))), some (.stk (([.tuple [.str (kindS k), .tuple (trDs ps)]], none) :: st.map entD)), some (.val d), some (.val (.tuple [.str (kindS k), .tuple (trDs ps)])),
            some (.val (.list (l.map nD))), some (.own (.lst [])), oS x7], []⟩) Q := by
          intro Q hQ
          refine wp_forL (fun j s => ∃ x7 : Option (D ⊕ C), okSlot (some (oS x7)) = true ∧ s = ⟨[some (.val (trD t)), some (.own (.lst (Rw.map rowD3))), some (.stk (([.tuple [.str (kindS k), .tuple (trDs ps)]], none) :: st.map entD)), some (.val d), some (.val (.tuple [.str (kindS k), .tuple (trDs ps)])),
            some (.val (.list (l.map nD))), some (.own (.lst (((l.take j).flatMap (thOf Rw)).map nD))), oS x7], []⟩) ⟨x7, hx7, by simp⟩ ?_ ?_
          · rintro j v s hv ⟨x7, hx7, rfl⟩
            obtain ⟨n, hn, rfl⟩ := mem_map_at hv
            have hnl := hln.2 n (List.mem_of_getElem? hn)
            have er : Rw[n]? = some Rw[n] := List.getElem?_eq_getElem hnl
            have et : thOf Rw n = Rw[n].2.2 := by unfold thOf; rw [er]
            have e2 : atI (Rw.map rowD3) (n : Int) = some (rowD3 Rw[n]) := by rw [atI_map, atI_nat er]; rfl
            have hb1 := flatMap_le (l.take j) (thOf Rw) (thS t).length fun x _ => hth x
            have hb2 := hth n
            rw [et] at hb2
            have hj : (l.take j).length ≤ i := by rw [List.length_take]; omega
            have hb3 : (l.take j).length * (thS t).length ≤ 200 * 60 := Nat.mul_le_mul (by omega) ht
            have eG : (l.take (j + 1)).flatMap (thOf Rw) = (l.take j).flatMap (thOf Rw) ++ Rw[n].2.2 := by
              rw [List.take_add_one, hn, List.flatMap_append]
              simp [et]
            rw [eG]
            generalize (l.take j).flatMap (thOf Rw) = Gj at *
            simp [e2, nD, rowD3, tN]
            refine ⟨by omega, some (.inl (.int (n : Int))), rfl, rfl⟩
          · rintro s ⟨x7, hx7, rfl⟩
            rw [List.length_map, List.take_length]
            exact hQ x7 hx7
        refine inner _ fun x7 hx7 => ?_
        have hb := flatMap_le l (thOf Rw) (thS t).length fun x _ => hth x
        have hb3 : l.length * (thS t).length ≤ 200 * 60 := Nat.mul_le_mul (by omega) ht
        have hso := sortOk_ints (a := l.flatMap (thOf Rw)) (by omega)
        generalize l.flatMap (thOf Rw) = Gj at *
        simp [hso, sort_ints]
        refine ⟨by omega, by omega, fun hst => ?_, fun hst => ?_⟩
        · match st, hst, h3 with
          | (u, l') :: st, _, h3 =>
            have h4 := (h3 (u, l') (by simp)).1
            simp only at h4
            simp [entD]
            refine ⟨by omega, some (.inl d), some (.inl (.tuple [.str (kindS k), .tuple (trDs ps)])), some (.inl (.list (l.map nD))), some (.inr (.lst (Gj.map nD))), x7, ⟨rfl, ?_, rfl, rfl, rfl, rfl, rfl⟩, hf, hx7⟩
            simp [L3.bump, entD, nD]
        · subst hst
          exact ⟨some (.inl d), some (.inl (.tuple [.str (kindS k), .tuple (trDs ps)])), some (.inl (.list (l.map nD))), some (.inr (.lst (Gj.map nD))), x7, ⟨rfl, rfl, rfl, rfl, rfl, rfl, rfl⟩, hf, hx7⟩
  · rintro s ⟨x3, x4, x5, x6, x7, rfl, hi, hx7⟩
    exfalso
    simp [dRange] at hi
    omega

theorem isint_vt {d : D} {Q : R → List D → Prop} (hd : VT false d) (hq : Q (.val (.bool (match d with | .int _ => true | _ => false))) []) : WpF (g_is_int [d] []) Q := by
  unfold g_is_int b_is_int
  rw [wpF_runF]
  cases hd with
  | kw _ k => cases k <;> simp [Kw.d] <;> exact hq
  | _ => simp; exact hq
theorem isnum_thing {d : D} {Q : R → List D → Prop} (hd : VT false d) (hq : Q (.val (.bool (isThing d))) []) : WpF (g_is_number [d, .int 0, .int 11] []) Q := by
  unfold g_is_number b_is_number
  rw [wpF_runF]
  have hd' := hd
  cases hd with
  | int _ i =>
    simp
    refine isint_vt hd' ?_
    by_cases h : 0 ≤ i
    · by_cases h2 : i ≤ 11
      · simp [h, h2, isThing] at hq ⊢
        exact hq
      · simp [h, h2, isThing] at hq ⊢
        exact hq
    · simp [h, isThing] at hq ⊢
      exact hq
  | kw _ k => cases k <;> (simp [Kw.d]; refine isint_vt hd' ?_; simp [Kw.d]; exact hq)
  | _ => simp; refine isint_vt hd' ?_; simp; exact hq
theorem isnum_node {d : D} {Q : R → List D → Prop} (hd : VT false d) (hn : isNodeB d = true) (hq : Q (.val (.bool (isThing d))) []) : WpF (g_is_number [d, .int 0, .none] []) Q := by
  unfold g_is_number b_is_number
  rw [wpF_runF]
  have hd' := hd
  cases hd with
  | int _ i =>
    have h : 0 ≤ i ∧ i ≤ 11 := by
      unfold isNodeB at hn
      simpa [isThing, isPair] using hn
    simp
    refine isint_vt hd' ?_
    simp [h.1]
    simp [isThing, h.1, h.2] at hq
    exact hq
  | kw _ k => cases k <;> (simp [Kw.d]; refine isint_vt hd' ?_; simp [Kw.d]; exact hq)
  | _ => simp; refine isint_vt hd' ?_; simp; exact hq
theorem hd_in {a : D} (h : Hd1 a) : nd2 pIn a (.tuple [.str "side", .str "row"]) = some (isKw a) := by
  cases h with
  | kw k => cases k <;> decide +kernel
  | int i => rfl
theorem istup_two {ds : List D} {Q : R → List D → Prop} (hq : Q (.val (.bool (decide (ds.length = 2)))) []) : WpF (g_is_tuple [.tuple ds, .int 2] []) Q := by
  unfold g_is_tuple b_is_tuple
  rw [wpF_runF]
  simp
  rw [show decide ((ds.length : Int) = 2) = decide (ds.length = 2) from by rw [decide_eq_decide]; omega]
  exact hq
theorem isnode_ok {d : D} {Q : R → List D → Prop} (hd : VT false d) (hq : Q (.val (.bool (isNodeB d))) []) : WpF (g_is_node [d] []) Q := by
  have hsz := size_eq
  unfold g_is_node b_is_node
  rw [wpF_runF]
  simp
  refine isnum_thing hd ?_
  simp
  refine ⟨fun h => ?_, fun h => ?_⟩
  · unfold isNodeB at hq
    rw [h] at hq
    exact hq
  · have hn : isNodeB d = isPair d := by unfold isNodeB; rw [h]; rfl
    rw [hn] at hq
    have no : isTy "tuple" d = some false → isPair d = false → WpF (g_is_tuple [d, .int 2] []) (fun r b => r = .val (.bool false) ∧ b = []) := fun h _ => by
      unfold g_is_tuple b_is_tuple
      rw [wpF_runF]
      simp [h]
    cases hd with
    | none _ => exact (no rfl rfl).mono fun r b h => by obtain ⟨rfl, rfl⟩ := h; simp; exact hq
    | bool _ _ => exact (no rfl rfl).mono fun r b h => by obtain ⟨rfl, rfl⟩ := h; simp; exact hq
    | int _ i => exact (no rfl rfl).mono fun r b h => by obtain ⟨rfl, rfl⟩ := h; simp; exact hq
    | lst _ ds => exact (no rfl rfl).mono fun r b h => by obtain ⟨rfl, rfl⟩ := h; simp; exact hq
    | kw _ k => cases k <;> exact (no rfl rfl).mono fun r b h => by obtain ⟨rfl, rfl⟩ := h; simp; exact hq
    | tup ds h3 h1 =>
      refine istup_two ?_
      by_cases hl : ds.length = 2
      · obtain ⟨a, b, rfl⟩ : ∃ a b, ds = [a, b] := by
          match ds, hl with
          | [a, b], _ => exact ⟨a, b, rfl⟩
        have ha := h3 a b rfl
        have hb := h1 a b rfl
        simp
        rw [hd_in ha]
        simp
        refine ⟨by omega, fun hk => ?_, fun hk => ?_⟩
        · have no2 : isTy "tuple" b = some false → (∀ ps, b ≠ .tuple ps) → Q (.val (.bool false)) [] := fun _ h5 => by
            have : isPair (.tuple [a, b]) = false := by
              cases e : isPair (.tuple [a, b]) with
              | false => rfl
              | true =>
                obtain ⟨_, ps, e2, _⟩ := pair_of e
                cases e2
                exact absurd rfl (h5 ps)
            rw [this] at hq
            exact hq
          cases hb with
          | none _ => simp; exact no2 rfl fun ps e => by cases e
          | bool _ _ => simp; exact no2 rfl fun ps e => by cases e
          | int _ _ => simp; exact no2 rfl fun ps e => by cases e
          | lst _ _ => simp; exact no2 rfl fun ps e => by cases e
          | kw _ k => cases k <;> (simp [Kw.d]; exact no2 rfl fun ps e => by cases e)
          | parts ps _ _ =>
            simp
            have e : isPair (.tuple [a, .tuple ps]) = decide (1 < ps.length) := by
              show (isKw a && decide (1 < ps.length)) = _
              rw [hk]; rfl
            rw [e] at hq
            rw [show decide ((1 : Int) < (ps.length : Int)) = decide (1 < ps.length) from by rw [decide_eq_decide]; omega]
            exact hq
        · have : isPair (.tuple [a, b]) = false := by
            cases e : isPair (.tuple [a, b]) with
            | false => rfl
            | true =>
              obtain ⟨_, ps, e2, h5, _⟩ := pair_of e
              cases e2
              rw [h5] at hk; cases hk
          rw [this] at hq
          exact hq
      · simp [hl]
        have : isPair (.tuple ds) = false := by
          cases e : isPair (.tuple ds) with
          | false => rfl
          | true =>
            obtain ⟨a, ps, e2, _⟩ := pair_of e
            cases e2
            simp at hl
        rw [this] at hq
        exact hq

/-- the state ahead of a turn -/
def InvT2 (v : D) (i : Nat) (s : S) : Prop := ∃ (lv : List D) (f : List Nat) (x1 x3 x5 : Option Sl) (x4 : Option D), walkT 12 [v] [] = walkT (12 - i) lv f ∧ (∀ d ∈ lv, VT false d) ∧ f.length + lv.length ≤ 24 ∧ (x1 = some (.own (.lst lv)) ∨ x1 = some (.val (.list lv))) ∧ s = ⟨[some (.val v), x1, some (.own (.lst (f.map nD))), x3, oS (x4.map Sum.inl), x5], []⟩
def InvT3 (v : D) (lv : List D) (f : List Nat) (x3 : Option Sl) (j : Nat) (s : S) : Prop := ∃ x4 : Option D, s = ⟨[some (.val v), some (.val (.list lv)), some (.own (.lst (f.map nD))), x3, oS (x4.map Sum.inl), some (.own (.lst (deepV (lv.take j))))], []⟩
theorem told_ok {v : D} {Q : R → List D → Prop} (hv : VT false v) (hq : Q (.val (match walkT 12 [v] [] with | none => .none | some f => lN f)) []) : WpF (g_things_told [v] []) Q := by
  have hsz := size_eq
  unfold g_things_told b_things_told
  rw [wpF_runF]
  simp
  refine ⟨by omega, rOk_of (by omega) (by omega), ?_⟩
  refine wp_forL (InvT2 v) ⟨[v], [], _, none, none, none, rfl, by simpa using hv, by simp, .inl rfl, rfl⟩ ?_ ?_
  · rintro i d s hd ⟨lv, f, x1, x3, x5, x4, hw, hlv, hlen, hx1, rfl⟩
    obtain ⟨hi, rfl⟩ := range_at hd
    rw [show 12 - i = 11 - i + 1 from by omega, walk_succ (11 - i) lv f] at hw
    rcases hx1 with rfl | rfl
    all_goals
      simp
      conv => lhs; rw [← List.map_id lv]
      refine wp_mapE (e := id) (h := fun d => .bool (isNodeB d)) (by omega) (fun d hd => by simp; exact isnode_ok (hlv d hd) (by simp)) ?_
      rw [boolsOf_bools]
      simp
      refine ⟨fun d hd hb => ?_, fun hall => ?_⟩
      · rw [if_neg (by rw [List.all_eq_true]; intro h; rw [h d hd] at hb; cases hb)] at hw
        rw [hw] at hq
        exact hq
      · rw [if_pos (List.all_eq_true.mpr hall)] at hw
        conv => lhs; rw [← List.map_id lv]
        refine wp_filterE (e := id) (p := isThing) (h := id) (by omega) (fun d hd => by simp; exact isnum_node (hlv d hd) (hall d hd) (by simp)) (fun d hd _ => by simp) ?_
        have hfl : (thingsV lv).length ≤ lv.length := by unfold thingsV; rw [List.length_map]; exact List.length_filter_le _ _
        rw [List.map_id, things_nD]
        simp [mExtend]
        refine ⟨by omega, ?_⟩
        refine wp_forL (InvT3 v lv (f ++ thingsV lv) (some (.val (.int (i : Int))))) ⟨x4, by simp [deepV]⟩ ?_ ?_
        · rintro j d s hd ⟨x4, rfl⟩
          have hum := List.mem_of_getElem? hd
          have hj := (List.getElem?_eq_some_iff.mp hd).1
          have hdl : (deepV (lv.take (j + 1))).length ≤ 1000 * 24 := Nat.le_trans (deep_len fun d hd => vt_parts (hlv d (List.mem_of_mem_take hd))) (Nat.mul_le_mul_left _ (by simp; omega))
          have hds := deep_snoc hd
          unfold InvT3
          rw [hds] at hdl ⊢
          generalize deepV (lv.take j) = dl at *
          simp
          refine isnum_node (hlv d hum) (hall d hum) ?_
          simp
          refine ⟨fun h => ?_, fun h => ?_⟩
          · have hp : isPair d = true := by
              have := hall d hum
              unfold isNodeB at this
              rw [h] at this
              exact this
            obtain ⟨a, ps, rfl, _, _⟩ := pair_of hp
            rw [h] at hdl ⊢
            have e2 : partsV (.tuple [a, .tuple ps]) = ps := rfl
            rw [e2] at hdl ⊢
            simp at hdl
            simp [mExtend]
            exact ⟨by omega, some _, rfl⟩
          · rw [h]
            simp
            exact ⟨some _, rfl⟩
        · rintro s ⟨x4, rfl⟩
          rw [List.take_of_length_le (Nat.le_refl _)]
          by_cases h24 : 24 < (f ++ thingsV lv).length + (deepV lv).length
          · rw [if_pos h24] at hw
            rw [hw] at hq
            simp at h24
            simp
            refine ⟨by decide, fun _ => hq, fun h => ?_⟩
            omega
          · rw [if_neg h24] at hw
            have hdv := deep_vt hlv
            generalize thingsV lv = tl at *
            generalize deepV lv = dl at *
            simp at h24
            simp
            refine ⟨by decide, fun h => ?_, fun h => ?_⟩
            · omega
            · refine ⟨dl, f ++ tl, some (.val (.list dl)), some (.val (.int (i : Int))), some (.val (.list dl)), x4, ?_, hdv, by simp; omega, .inr rfl, by rw [List.map_append]⟩
              rw [hw, show 11 - i = 12 - (i + 1) from by omega]
  · rintro s ⟨lv, f, x1, x3, x5, x4, hw, hlv, hlen, hx1, rfl⟩
    rw [range_len] at hw
    have hw : walkT 12 [v] [] = if lv = [] then some f else none := hw
    rw [hw] at hq
    rcases hx1 with rfl | rfl
    all_goals
      simp
      refine ⟨fun h => ?_, fun h => ?_⟩
      · rw [if_pos h] at hq
        exact hq
      · rw [if_neg h] at hq
        exact hq

theorem check12_ok {v : D} {Q : R → List D → Prop} {E : Str → D → List D → Prop} (hv : VT false v) (hq : faultR v = none → Q (.val v) []) (he : ∀ d, faultR v = some d → E "BadTerm" (.int d) []) : WpFX (g_check_term__X [v] []) Q E := by
  have hsz := size_eq
  unfold g_check_term__X b_check_term__X
  refine wpFX_runF ?_
  refine wpx_seq (wpx_of ?_)
  simp
  refine told_ok hv ?_
  unfold faultR at hq he
  cases hw : walkT 12 [v] [] with
  | none =>
    rw [hw] at he
    simp
    refine wpx_seq (wpx_if ?_)
    simp
    refine wpx_raise ?_
    simp
    exact he _ rfl
  | some f =>
    rw [hw] at he hq
    simp only at he hq
    have hfl : f.length ≤ 24 := walk_len hw (by simp)
    simp
    refine wpx_seq (wpx_if ?_)
    simp
    show WpX (sSeq _ _ _) _ _
    refine wpx_seq (wpx_of ?_)
    simp
    refine ⟨by omega, ?_⟩
    refine joined_ok (F := [f]) (.inr rfl) (by simp; omega) ?_
    have hjl : (joinedN [f]).length ≤ 24 := by
      have := nodup_sub_len (joinedN_nodup [f]) fun x hx => by simpa using joinedN_mem.mp hx
      omega
    generalize joinedN [f] = J at *
    simp
    refine wpx_seq (wpx_if ?_)
    simp
    by_cases h1 : J.length < f.length
    · rw [if_pos h1] at he
      rw [if_pos h1]
      refine wpx_raise ?_
      simp
      exact he _ rfl
    · rw [if_neg h1] at he hq
      rw [if_neg h1]
      show WpX (sSeq _ _ _) _ _
      refine wpx_seq (wpx_if ?_)
      simp
      refine ⟨lrOk_of (by omega) (by omega) (by omega) (by omega), ?_⟩
      rw [show PyData.tuple (dRange 0 J.length) = tN (List.range J.length) from by rw [range_nD]; rfl]
      simp
      by_cases hj : J = List.range J.length
      · rw [if_pos hj] at hq
        rw [if_pos hj]
        refine wpx_nil ?_
        refine wpx_of ?_
        simp
        exact hq rfl
      · rw [if_neg hj] at he
        rw [if_neg hj]
        refine wpx_raise ?_
        simp
        exact he _ rfl
theorem thing_iff {i : Int} : isThing (.int i) = (decide (0 ≤ i) && decide (i ≤ 11)) := rfl
/-- the state ahead of a turn -/
def InvL1 (v : D) (i : Nat) (s : S) : Prop := i ≤ 12 ∧ ∃ (lv : List D) (f : List Nat) (x1 x3 x4 x5 : Option Sl), walkT 12 [v] [] = walkT (12 - i) lv f ∧ (∀ d ∈ lv, VT false d ∧ SmN 50 d) ∧ f.length + lv.length ≤ 24 ∧ (x1 = some (.own (.lst lv)) ∨ x1 = some (.val (.list lv))) ∧ s = ⟨[some (.val v), x1, some (.own (.lst (f.map nD))), x3, x4, x5], []⟩
def InvL2 (v : D) (lv : List D) (f : List Nat) (x3 : Option Sl) (j : Nat) (s : S) : Prop := (∀ d ∈ lv.take j, isNodeB d = true) ∧ ∃ x5 : Option Sl, s = ⟨[some (.val v), some (.val (.list lv)), some (.own (.lst ((f ++ thingsV (lv.take j)).map nD))), x3, some (.own (.lst (deepV (lv.take j)))), x5], []⟩
theorem things_snoc {lv : List D} {j : Nat} {d : D} (h : lv[j]? = some d) : thingsV (lv.take (j + 1)) = thingsV (lv.take j) ++ if isThing d then [thingV d] else [] := by
  unfold thingsV
  rw [List.take_add_one, h, List.filter_append, List.map_append]
  simp [List.filter_cons]
  split <;> simp
theorem fault12_ok {v : D} {Q : R → List D → Prop} (hv : VT false v) (hs : SmN 50 v) (hq : Q (.val (match faultR v with | some i => .int i | none => .none)) []) : WpF (g__law_term_fault [v] []) Q := by
  have hsz := size_eq
  unfold g__law_term_fault b__law_term_fault
  rw [wpF_runF]
  simp
  refine ⟨by omega, rOk_of (by omega) (by omega), ?_⟩
  have none_q : walkT 12 [v] [] = none → Q (.val (.int (-1))) [] := fun h => by
    unfold faultR at hq
    rw [h] at hq
    exact hq
  have fin : ∀ f : List Nat, walkT 12 [v] [] = some f → ∀ x1 x3 x4 x5 : Option Sl, Wp (sSeq (sIf (t2 (.ex (frz (eDiff (.var 2)))) (.ex (frz (eP [.var 2] pLen))) (nd2 pLt)) (sRet (e1 (.ex (frz (eC (.int 2)))) pNeg)) (sNil)) (sRet (eIf (t2 (.ex (frz (eP [.var 2] pSorted))) (.ex (frz (eLRange [frz (eP [.var 2] pLen)] rg1))) (nd2 pEq)) (eC .none) (e1 (.ex (frz (eC (.int 3)))) pNeg))) ⟨[some (.val v), x1, some (.own (.lst (f.map nD))), x3, x4, x5], []⟩) (fnE Q) := by
    intro f hf x1 x3 x4 x5
    have hfl : f.length ≤ 24 := walk_len hf (by simp)
    unfold faultR at hq
    rw [hf] at hq
    simp only at hq
    have hm : ∀ x, x ∈ joinedN [f] ↔ x ∈ f := fun x => by rw [joinedN_mem]; simp
    simp
    refine wp_difM (f := fun (x : Nat) => (x : Int)) (xs := f) (by omega) ?_
    rw [diffI_nat (joinedN_nodup [f]) hm]
    simp
    refine ⟨fun h1 => ?_, fun h1 => ?_⟩
    · rw [if_pos h1] at hq
      exact hq
    · rw [if_neg (by omega)] at hq
      have hj := joined_full (f := f) (by omega)
      rw [hj] at hq
      simp only [sortOk_ints (show f.length ≤ sizeLine by omega), sort_ints]
      simp
      refine ⟨lrOk_of (by omega) (by omega) (by omega) (by omega), ?_⟩
      rw [show PyData.list (dRange 0 f.length) = lN (List.range f.length) from by rw [range_nD]; rfl, show PyData.list ((srtN f).map nD) = lN (srtN f) from rfl]
      simp
      rw [(srtN_perm f).length_eq] at hq
      refine ⟨fun h => ?_, fun h => ?_⟩
      · rw [if_pos h] at hq; exact hq
      · rw [if_neg h] at hq; exact hq
  refine wp_forL (InvL1 v) ⟨by omega, [v], [], _, none, none, none, rfl, by simpa using ⟨hv, hs⟩, by simp, .inl rfl, rfl⟩ ?_ ?_
  · rintro i d s hd ⟨hi12, lv, f, x1, x3, x4, x5, hw, hlv, hlen, hx1, rfl⟩
    obtain ⟨hi, rfl⟩ := range_at hd
    have hlvt : ∀ d ∈ lv, VT false d := fun d hd => (hlv d hd).1
    have hnil := nil_eq fun d hd => (hlv d hd).2
    have e1 : ∀ x1, (x1 = some (Sl.own (.lst lv)) ∨ x1 = some (.val (.list lv))) → slP [some (.val v), x1, some (.own (.lst (f.map nD))), some (.val (.int (i : Int))), x4, x5] [] (some x1) = some (.list lv) := fun x1 h => by rcases h with rfl | rfl <;> rfl
    have e1 := e1 x1 hx1
    by_cases h0 : lv = []
    · subst h0
      rw [walk_nil (by omega)] at hw
      have hf := fin f hw x1 (some (.val (.int (i : Int)))) x4 x5
      simp at hf
      simp [e1, hnil]
      exact hf
    · have bad : (∃ d ∈ lv, isNodeB d = false) → Q (.val (.int (-1))) [] := fun ⟨d, hd, hb⟩ => by
        refine none_q ?_
        rw [hw]
        rcases Nat.lt_or_ge i 12 with h | h
        · rw [show 12 - i = 11 - i + 1 from by omega, walk_succ, if_neg]
          rw [List.all_eq_true]
          intro h2
          rw [h2 d hd] at hb; cases hb
        · rw [show 12 - i = 0 from by omega]
          show (if lv = [] then some f else none) = none
          rw [if_neg h0]
      have ev : ∀ (Q2 : R → S → Prop), Q2 (.val (.list lv)) ⟨[some (.val v), some (.val (.list lv)), some (.own (.lst (f.map nD))), some (.val (.int (i : Int))), some (.own (.lst [])), x5], []⟩ → varV 1 [some (.val v), x1, some (.own (.lst (f.map nD))), some (.val (.int (i : Int))), some (.own (.lst [])), x5] [] Q2 (some x1) := fun Q2 h => by rcases hx1 with rfl | rfl <;> exact h
      simp [e1, hnil, h0]
      refine ev _ ?_
      simp
      refine wp_forL (InvL2 v lv f (some (.val (.int (i : Int))))) ⟨by simp, x5, by simp [thingsV, deepV]⟩ ?_ ?_
      · rintro j d s hd ⟨hok, x5, rfl⟩
        have hdm := List.mem_of_getElem? hd
        have hj := (List.getElem?_eq_some_iff.mp hd).1
        have hdl : (deepV (lv.take (j + 1))).length ≤ 1000 * 24 := Nat.le_trans (deep_len fun d hd => vt_parts (hlvt d (List.mem_of_mem_take hd))) (Nat.mul_le_mul_left _ (by simp; omega))
        have htl : (thingsV (lv.take j)).length ≤ lv.length := by
          unfold thingsV
          rw [List.length_map]
          exact Nat.le_trans (List.length_filter_le _ _) (by simp; omega)
        have hts := things_snoc hd
        have hds := deep_snoc hd
        have hok2 : isNodeB d = true → ∀ e ∈ lv.take (j + 1), isNodeB e = true := fun h e he => by
          rw [List.take_add_one, hd] at he
          rcases List.mem_append.mp he with he | he
          · exact hok e he
          · simp at he; rw [he]; exact h
        unfold InvL2
        rw [hds] at hdl
        rw [hts, hds]
        generalize deepV (lv.take j) = dl at *
        generalize thingsV (lv.take j) = tl at *
        have nope : isNodeB d = false → Q (.val (.int (-1))) [] := fun h => bad ⟨d, hdm, h⟩
        cases hlvt d hdm with
        | none _ => simp; exact nope rfl
        | bool _ b => simp; exact nope rfl
        | lst _ ds => simp; exact nope rfl
        | kw _ k => cases k <;> (simp [Kw.d]; exact nope rfl)
        | int _ z =>
          have hq2 : isPair (.int z) = false := rfl
          simp
          refine ⟨fun h1 => ⟨fun h2 => ?_, fun h2 => ?_⟩, fun h1 => ?_⟩
          · have hth : isThing (.int z) = true := by rw [thing_iff]; simp [h1, h2]
            refine ⟨by omega, hok2 (by unfold isNodeB; rw [hth]; rfl), ?_⟩
            rw [hth]
            have ez : PyData.int z = nD (thingV (.int z)) := by
              show PyData.int z = PyData.int ((z.toNat : Nat) : Int)
              congr 1; omega
            simpa using ez
          · exact nope (by unfold isNodeB; rw [hq2, thing_iff]; simp; omega)
          · exact nope (by unfold isNodeB; rw [hq2, thing_iff]; simp; omega)
        | tup ds h3 h1 =>
          have hth : isThing (.tuple ds) = false := rfl
          have hnb : isNodeB (.tuple ds) = isPair (.tuple ds) := by unfold isNodeB; rw [hth]; rfl
          rw [hnb] at nope hok2
          by_cases hl : ds.length = 2
          · obtain ⟨a, b, rfl⟩ : ∃ a b, ds = [a, b] := by
              match ds, hl with
              | [a, b], _ => exact ⟨a, b, rfl⟩
            have ha := h3 a b rfl
            have hb := h1 a b rfl
            have hin := hd_in ha
            have np : (∀ ps, b ≠ .tuple ps) → Q (.val (.int (-1))) [] := fun h5 => nope (by
              cases e : isPair (.tuple [a, b]) with
              | false => rfl
              | true =>
                obtain ⟨_, ps, e2, _⟩ := pair_of e
                cases e2
                exact absurd rfl (h5 ps))
            have nk : isKw a = false → Q (.val (.int (-1))) [] := fun h5 => nope (by
              cases e : isPair (.tuple [a, b]) with
              | false => rfl
              | true =>
                obtain ⟨_, ps, e2, h6, _⟩ := pair_of e
                cases e2
                rw [h6] at h5; cases h5)
            simp
            have tail : isKw a = true → True := fun _ => trivial
            cases ha with
            | int z => simp; exact nk rfl
            | kw k =>
              have ht : isTy "str" k.d = some true := by cases k <;> rfl
              simp [ht, hin]
              refine ⟨by omega, fun hk => ?_, fun hk => nk hk⟩
              cases hb with
              | none _ => simp; exact np fun ps e => by cases e
              | bool _ _ => simp; exact np fun ps e => by cases e
              | int _ _ => simp; exact np fun ps e => by cases e
              | lst _ _ => simp; exact np fun ps e => by cases e
              | kw _ k2 => cases k2 <;> (simp [Kw.d]; exact np fun ps e => by cases e)
              | parts ps _ _ =>
                have e : isPair (.tuple [k.d, .tuple ps]) = decide (1 < ps.length) := by
                  show (isKw k.d && decide (1 < ps.length)) = _
                  rw [hk]; rfl
                have e2 : partsV (.tuple [k.d, .tuple ps]) = ps := rfl
                rw [e] at hok2 nope
                rw [hth, e2] at hdl ⊢
                simp at hdl
                simp
                exact ⟨fun h6 => ⟨by omega, hok2 (by simp; omega)⟩, fun h6 => nope (by simp; omega)⟩
          · simp
            refine ⟨fun h => absurd h (by omega), fun _ => nope ?_⟩
            cases e : isPair (.tuple ds) with
            | false => rfl
            | true =>
              obtain ⟨a, ps, e2, _⟩ := pair_of e
              cases e2
              simp at hl
      · rintro s ⟨hok, x5, rfl⟩
        rw [List.take_of_length_le (Nat.le_refl _)] at hok ⊢
        have hdt := deep_vt hlvt
        have hds := deep_sm fun d hd => (hlv d hd).2
        have htl : (thingsV lv).length ≤ lv.length := by
          unfold thingsV
          rw [List.length_map]
          exact List.length_filter_le _ _
        have hdl : (deepV lv).length ≤ 1000 * 24 := Nat.le_trans (deep_len fun d hd => vt_parts (hlvt d hd)) (Nat.mul_le_mul_left _ (by omega))
        have step : i < 12 → walkT 12 [v] [] = if 24 < (f ++ thingsV lv).length + (deepV lv).length then none else walkT (12 - (i + 1)) (deepV lv) (f ++ thingsV lv) := fun h => by
          rw [hw, show 12 - i = 11 - i + 1 from by omega, walk_succ, if_pos (List.all_eq_true.mpr hok), show 12 - (i + 1) = 11 - i from by omega]
        have last : i = 12 → walkT 12 [v] [] = none := fun h => by
          rw [hw, h]
          show (if lv = [] then some f else none) = none
          rw [if_neg h0]
        generalize thingsV lv = tl at *
        generalize deepV lv = dl at *
        simp
        refine ⟨fun h => none_q (last (by omega)), fun h => ⟨fun h24 => none_q ?_, fun h24 => ?_⟩⟩
        · rw [step (by omega), if_pos (by simp; omega)]
        · refine ⟨by omega, dl, f ++ tl, some (.val (.list dl)), some (.val (.int (i : Int))), some (.val (.list dl)), x5, ?_, fun d hd => ⟨hdt d hd, hds d hd⟩, by simp; omega, .inr rfl, by rw [List.map_append]⟩
          rw [step (by omega), if_neg (by simp; omega)]
  · rintro s ⟨h12, _⟩
    rw [range_len] at h12
    omega

theorem heard12_ok {v : D} {b : Bool} {Q : R → List D → Prop} (hv : VT false v) (hq : faultR v = none → Q (.val (.tuple [.str "told", v])) []) (he : ∀ d, faultR v = some d → Q (.val (.tuple [.str "refused", .int d, .bool true])) []) : WpF (g__law_heard [v, .bool b] []) Q := by
  unfold g__law_heard b__law_heard
  rw [wpF_runF]
  refine wp_try2 ?_
  refine wpx_bindX ?_
  show WpX (mbind (frz (eIf _ _ _)) _ _) _ _
  refine wpx_bindX ?_
  show WpX (mbind (eIf _ _ _) _ _) _ _
  refine wpx_bindX ?_
  have hsz : (2 : Nat) ≤ sizeLine := by decide
  cases b
  · show WpX (eCallX _ _ _ _) _ _
    refine wpx_callX ?_
    simp
    refine check12_ok hv (fun h => ?_) fun d h => ?_
    · simp only [WpX, toD, mret, evs, List.length_nil]
      rw [if_pos (show 0 + 1 + 1 ≤ sizeLine by decide)]
      exact hq h
    · exact ⟨rfl, he d h⟩
  · show WpX (eCallXK _ _ _ _ _ _ _) _ _
    refine wpx_callXK ?_
    simp
    refine check12_ok hv (fun h => ?_) fun d h => ?_
    · simp only [WpX, toD, mret, evs, List.length_nil]
      rw [if_pos (show 0 + 1 + 1 ≤ sizeLine by decide)]
      exact hq h
    · exact ⟨rfl, he d h⟩

@[simp] theorem pRev_list {xs : List D} : pRev (.list xs) = some (.l xs.reverse) := rfl
/-- a made value of a depth -/
structure VS (p : Bool) (k : Nat) (d : D) : Prop where
  vt : VT p d
  sm : SmN k d
theorem VS.mono {p : Bool} {k m : Nat} {d : D} (h : VS p k d) (hm : k ≤ m) : VS p m d := ⟨h.vt, sm_mono h.sm hm⟩
theorem vs_int (p : Bool) (k : Nat) (i : Int) : VS p k (.int i) := ⟨.int _ _, sm_int _ _⟩
theorem vs_none (p : Bool) (k : Nat) : VS p k .none := ⟨.none _, sm_none _⟩
theorem vs_bool (p b : Bool) (k : Nat) : VS p k (.bool b) := ⟨.bool _ _, sm_bool _ _⟩
theorem vs_kw (p : Bool) (k : Nat) (w : Kw) : VS p k w.d := ⟨.kw _ _, sm_kw _ _⟩
theorem vs_parts {ps : List D} {k : Nat} (h : ∀ d ∈ ps, VS false k d) (hl : ps.length ≤ 1000) : VS true (k + 1) (.tuple ps) := ⟨.parts _ (fun d hd => (h d hd).vt) hl, sm_tup fun d hd => (h d hd).sm⟩
theorem vs_pair {b : D} {k : Nat} (w : Kw) (h : VS true k b) : VS false (k + 1) (.tuple [w.d, b]) := ⟨.tup _ (fun a b e => by cases e; exact .kw _) (fun a b e => by cases e; exact h.vt), sm_tup fun d hd => by
  simp at hd
  rcases hd with rfl | rfl
  · exact sm_kw _ _
  · exact h.sm⟩
theorem vs_node {ps : List D} {k : Nat} (w : Kw) (h : ∀ d ∈ ps, VS false k d) (hl : ps.length ≤ 1000) : VS false (k + 2) (.tuple [w.d, .tuple ps]) := vs_pair w (vs_parts h hl)
theorem kw_row (k : Bool) : PyData.str (kindS k) = (if k then Kw.row.d else Kw.side.d) := by cases k <;> rfl
def kwB (k : Bool) : Kw := if k then .row else .side
theorem kwB_d (k : Bool) : PyData.str (kindS k) = (kwB k).d := by cases k <;> rfl
/-- the things in a chain -/
theorem chain_ok {xs : List Nat} {XD : D} {Q : R → List D → Prop} (hX : XD = lN xs ∨ XD = .list (xs.map nD)) (h0 : xs ≠ []) (hl : xs.length ≤ 20) (hq : ∀ v, VS false 44 v → Q (.val v) []) : WpF (g__law_chain [XD] []) Q := by
  have hsz := size_eq
  have eX : XD = .list (xs.map nD) := by rcases hX with rfl | rfl <;> rfl
  subst eX
  unfold g__law_chain b__law_chain
  rw [wpF_runF]
  obtain ⟨z, hz⟩ : ∃ z, xs.getLast? = some z := ⟨_, List.getLast?_eq_some_getLast h0⟩
  have e1 : atI (xs.map nD) (-1) = some (nD z) := atI_last (by rw [List.getLast?_map, hz]; rfl)
  have hall : ∀ d ∈ (cutL (xs.map nD) none (some (-1))).reverse, ∃ j : Nat, d = nD j := fun d hd => by
    have h1 := List.mem_reverse.mp hd
    unfold cutL at h1
    obtain ⟨j, _, rfl⟩ := List.mem_map.mp (List.mem_of_mem_drop (List.mem_of_mem_take h1))
    exact ⟨j, rfl⟩
  have hlen : (cutL (xs.map nD) none (some (-1))).reverse.length ≤ 20 := by
    have := len_cut (a := xs.map nD) (lo := none) (hi := some (-1))
    rw [List.length_reverse]
    rw [List.length_map] at this
    omega
  simp [e1, pRev_list]
  generalize (cutL (xs.map nD) none (some (-1))).reverse = ds at hall hlen
  refine wp_forL (fun i s => ∃ (v : D) (x2 x3 : Option Sl), VS false (2 * i) v ∧ s = ⟨[some (.val (.list (xs.map nD))), some (.val v), x2, x3], []⟩) ⟨nD z, none, none, vs_int _ _ _, rfl⟩ ?_ ?_
  · rintro i d s hd ⟨v, x2, x3, hv, rfl⟩
    rw [← List.map_id ds] at hd
    obtain ⟨u, hu, rfl⟩ := enum_at (e := id) hd
    obtain ⟨j, hj⟩ := hall u (List.mem_of_getElem? hu)
    have two : ∀ w : Kw, VS false (2 * (i + 1)) (.tuple [w.d, .tuple [u, v]]) := fun w => by
      rw [show 2 * (i + 1) = 2 * i + 2 from by omega]
      refine vs_node w (fun d hd => ?_) (by simp)
      simp at hd
      rcases hd with rfl | rfl
      · rw [hj]; exact vs_int _ _ _
      · exact hv
    simp
    exact ⟨fun _ => ⟨by omega, two .side⟩, fun _ => ⟨by omega, two .row⟩⟩
  · rintro s ⟨v, x2, x3, hv, rfl⟩
    rw [dEnum_len'] at hv
    simp
    exact hq v (hv.mono (by omega))
/-- a row's own parts stand ahead of it -/
theorem rebuilt_ok {t : Tr} {spot : Nat} {odd : D} {Q : R → List D → Prop} (ha : Ar t) (hc : cnt t ≤ 23) (ho : VS false 3 odd) (hq : ∀ v, VS false 47 v → Q (.val v) []) : WpF (g__law_rebuilt [.list ((rowsT 0 t).map rowD3), .int (spot : Int), odd] []) Q := by
  have hsz := size_eq
  unfold g__law_rebuilt b__law_rebuilt
  rw [wpF_runF]
  simp
  refine wp_forL (fun i s => ∃ (told : List D) (x4 x5 x6 x7 x8 x9 : Option Sl), told.length = i ∧ (∀ j d, told[j]? = some d → VS false (2 * j + 3) d) ∧ s = ⟨[some (.val (.list ((rowsT 0 t).map rowD3))), some (.val (.int (spot : Int))), some (.val odd), some (.own (.lst told)), x4, x5, x6, x7, x8, x9, none], []⟩) ⟨[], none, none, none, none, none, none, rfl, by simp, rfl⟩ ?_ ?_
  · rintro i d s hd ⟨told, x4, x5, x6, x7, x8, x9, hl, ht, rfl⟩
    obtain ⟨r, hr, rfl⟩ := enum_at hd
    have hi := (List.getElem?_eq_some_iff.mp hr).1
    rw [rowsT_len] at hi
    obtain ⟨u, hu⟩ : ∃ u, (subs t)[i]? = some u := ⟨_, List.getElem?_eq_getElem (by rw [subs_len]; exact hi)⟩
    obtain ⟨r2, hr2, hok⟩ := rows_sub t 0 i u hu
    rw [hr] at hr2
    cases hr2
    have put : ∀ e, VS false (2 * i + 3) e → ∀ (j : Nat) (d : D), (told ++ [e])[j]? = some d → VS false (2 * j + 3) d := fun e he j d hj => by
      rcases Nat.lt_trichotomy j told.length with h | h | h
      · rw [List.getElem?_append_left h] at hj; exact ht j d hj
      · subst h
        rw [List.getElem?_append_right (Nat.le_refl _)] at hj
        simp at hj
        rw [← hj, hl]; exact he
      · rw [List.getElem?_append_right (by omega), List.getElem?_eq_none (by simp; omega)] at hj; cases hj
    simp [rowD3]
    cases u with
    | leaf x =>
      have hok : r = (none, [], [x]) := hok
      subst hok
      simp [kdD]
      have up : ∀ e, VS false (2 * i + 3) e → ∀ (j : Nat) (d : D), (told ++ [e])[j]? = some d → VS false (2 * j + 3) d := put
      exact ⟨fun _ => ⟨by omega, hl, up _ (ho.mono (by omega))⟩, fun _ => ⟨by omega, hl, up _ (vs_int _ _ _)⟩⟩
    | node k ps =>
      obtain ⟨E, rfl, hE, hEp⟩ := hok
      have hps : ps.length ≤ 3 := (subs_ar t _ (List.mem_of_getElem? hu) ha).2.1
      have hEl : E.length = ps.length := by simpa using congrArg List.length hEp
      have up : ∀ e, VS false (2 * i + 3) e → ∀ (j : Nat) (d : D), (told ++ [e])[j]? = some d → VS false (2 * j + 3) d := put
      simp [kdD]
      refine wp_mapE nD (fun n => told.getD n .none) (by omega) (fun n hn => ?_) ?_
      · have hn2 := hE n hn
        have e1 : atI told (n : Int) = some (told.getD n .none) := by rw [atI_n]; exact getD_lt (by omega)
        simp [nD, e1]
      · have hnode : VS false (2 * i + 3) (.tuple [.str (kindS k), .tuple (E.map fun n => told.getD n .none)]) := by
          rw [kwB_d]
          rcases Nat.eq_zero_or_pos i with h0 | h0
          · have : E = [] := List.eq_nil_iff_forall_not_mem.mpr fun n hn => by have := hE n hn; omega
            subst this
            exact (vs_node (k := 0) (kwB k) (by simp) (by simp)).mono (by omega)
          · rw [show 2 * i + 3 = (2 * i + 1) + 2 from by omega]
            refine vs_node (kwB k) (fun d hd => ?_) (by simp; omega)
            obtain ⟨n, hn, rfl⟩ := List.mem_map.mp hd
            have hn2 := hE n hn
            exact (ht n _ (getD_lt (by omega))).mono (by omega)
        simp
        refine ⟨by omega, ?_⟩
        exact ⟨fun _ => ⟨by omega, hl, up _ (ho.mono (by omega))⟩, fun _ => ⟨by omega, hl, up _ hnode⟩⟩
  · rintro s ⟨told, x4, x5, x6, x7, x8, x9, hl, ht, rfl⟩
    rw [dEnum_len', List.length_map, rowsT_len] at hl
    have hp := cnt_pos t
    obtain ⟨z, hz⟩ : ∃ z, told.getLast? = some z := ⟨_, List.getLast?_eq_some_getLast (fun e => by rw [e] at hl; simp at hl; omega)⟩
    simp [atI_last hz]
    refine hq z ?_
    rw [List.getLast?_eq_getElem?] at hz
    exact (ht _ _ hz).mono (by omega)
mutual
theorem vs_tr : ∀ (t : Tr), Ar t → VS false (2 * cnt t) (trD t)
  | .leaf x, _ => vs_int _ _ _
  | .node k ps, h => by
    unfold trD cnt
    rw [kwB_d, show 2 * (cnts ps + 1) = 2 * cnts ps + 2 from by omega]
    refine vs_node _ (vs_trs ps h.2.2) ?_
    rw [trDs_len]
    have := h.2.1
    omega
theorem vs_trs : ∀ (ps : List Tr), Ars ps → ∀ d ∈ trDs ps, VS false (2 * cnts ps) d
  | [], _, _, h => by cases h
  | p :: ps, h, d, hd => by
    unfold trDs at hd
    unfold cnts
    rcases List.mem_cons.mp hd with rfl | hd
    · exact (vs_tr p h.1).mono (by omega)
    · exact (vs_trs ps h.2 d hd).mono (by omega)
end
theorem vs_tup0 {ds : List D} (k : Nat) (hl : ds.length ≠ 2) (h : ∀ d ∈ ds, SmN k d) : VS false (k + 1) (.tuple ds) := ⟨.tup _ (fun a b e => by rw [e] at hl; simp at hl) (fun a b e => by rw [e] at hl; simp at hl), sm_tup h⟩
theorem vs_ints (xs : List Nat) (hl : xs.length ≤ 1000) (w : Kw) : VS false 2 (.tuple [w.d, .tuple (xs.map nD)]) := vs_node (k := 0) w (fun d hd => by
  obtain ⟨x, _, rfl⟩ := List.mem_map.mp hd
  exact vs_int _ _ _) (by simpa using hl)
theorem vs_two {a b : D} {k : Nat} (h1 : Hd1 a) (h2 : SmN k a) (h : VS true k b) : VS false (k + 1) (.tuple [a, b]) := ⟨.tup _ (fun _ _ e => by cases e; exact h1) (fun _ _ e => by cases e; exact h.vt), sm_tup fun d hd => by
  simp at hd
  rcases hd with rfl | rfl
  · exact h2
  · exact h.sm⟩
theorem vs_01 (p : Bool) : VS p 1 (.tuple [.int 0, .int 1]) := by
  cases p with
  | false => exact vs_two (.int _) (sm_int _ _) (vs_int _ _ _)
  | true => exact vs_parts (fun d hd => by simp at hd; rcases hd with rfl | rfl <;> exact vs_int _ _ _) (by simp)
theorem vs_l {ds : List D} (p : Bool) {k : Nat} (h : ∀ d ∈ ds, SmN k d) : VS p (k + 1) (.list ds) := ⟨.lst _ _, sm_lst h⟩
theorem odd_vs {th n : Nat} {e : D} (h : e ∈ [PyData.none, .bool true, .int (-1), .int 12, .int 1000000000000000000000000000000, .str "side", .tuple [], .tuple [.str "side"], .tuple [.str "row", .tuple []], .tuple [.str "side", .tuple [.int (th : Int)]], .tuple [.str "row", .list [.int 0, .int 1]], .tuple [.str "both", .tuple [.int 0, .int 1]], .tuple [.str "side", .tuple [.int 0, .int 1], .int 2], .list [.str "side", .tuple [.int 0, .int 1]], .tuple [.int 0, .int 1], .int (th : Int), .int (th : Int), .tuple [.str "row", .tuple [.int (th : Int), .int (n : Int)]], .tuple [.tuple [.str "side", .tuple [.int 0, .int 1]]], .tuple [.str "side", .none]]) : VS false 3 e := by
  simp only [List.mem_cons, List.not_mem_nil, or_false] at h
  have s01 : SmN 1 (.tuple [.int 0, .int 1]) := (vs_01 true).sm
  rcases h with rfl | rfl | rfl | rfl | rfl | rfl | rfl | rfl | rfl | rfl | rfl | rfl | rfl | rfl | rfl | rfl | rfl | rfl | rfl | rfl
  · exact vs_none _ _
  · exact vs_bool _ _ _
  · exact vs_int _ _ _
  · exact vs_int _ _ _
  · exact vs_int _ _ _
  · exact vs_kw _ _ .side
  · exact (vs_tup0 0 (by simp) (by simp)).mono (by omega)
  · exact (vs_tup0 0 (by simp) (fun d hd => by simp at hd; subst hd; exact sm_kw .side _)).mono (by omega)
  · exact (vs_node (k := 0) .row (by simp) (by simp)).mono (by omega)
  · exact (vs_node (k := 0) .side (fun d hd => by simp at hd; subst hd; exact vs_int _ _ _) (by simp)).mono (by omega)
  · exact (vs_pair (k := 1) .row (vs_l true fun d hd => by simp at hd; rcases hd with rfl | rfl <;> exact sm_int _ _)).mono (by omega)
  · exact (vs_pair .both (vs_01 true)).mono (by omega)
  · exact (vs_tup0 1 (by simp) (fun d hd => by simp at hd; rcases hd with rfl | rfl | rfl <;> first | exact s01 | exact sm_int _ _ | exact sm_kw .side _)).mono (by omega)
  · exact (vs_l (k := 1) false (fun d hd => by simp at hd; rcases hd with rfl | rfl <;> first | exact s01 | exact sm_kw .side _)).mono (by omega)
  · exact (vs_01 false).mono (by omega)
  · exact vs_int _ _ _
  · exact vs_int _ _ _
  · exact (vs_node (k := 0) .row (fun d hd => by simp at hd; rcases hd with rfl | rfl <;> exact vs_int _ _ _) (by simp)).mono (by omega)
  · exact (vs_tup0 2 (by simp) (fun d hd => by simp at hd; subst hd; exact (vs_pair .side (vs_01 true)).sm)).mono (by omega)
  · exact (vs_pair (k := 0) .side (vs_none _ _)).mono (by omega)
theorem bent12_ok {box : List D} {t : Tr} {Q : R → List D → Prop} (hb : VB box) (ha : Ar t) (hc : cnt t ≤ 23) (hn : (thS t).length ≤ 12) (hq : ∀ v y, VS false 49 v → VB y → Q (.val v) y) : WpF (g__law_bent [trD t] box) Q := by
  have hsz := size_eq
  have hp := cnt_pos t
  obtain ⟨r, hr1, hr2⟩ := rowsT_last 0 t
  have hlast : atI ((rowsT 0 t).map rowD3) (-1) = some (rowD3 r) := atI_last (by
    rw [List.getLast?_map, List.getLast?_eq_getElem?, rowsT_len, hr1]; rfl)
  unfold g__law_bent b__law_bent
  rw [wpF_runF]
  simp
  refine lrows_ok (by omega) (by omega) ?_
  simp [rowsT_len]
  refine take_ok hb (by omega) (by omega) fun spot y hspot hy => ?_
  refine take_ok hy (by omega) (by omega) fun th y hth hy => ?_
  simp [hlast, rowD3, hr2]
  repeat (refine And.intro (by omega) ?_)
  refine pick_ok hy (by simp) (by simp) fun e y he hy => ?_
  have hE := odd_vs he
  simp
  refine rebuilt_ok ha hc hE fun v hv => ?_
  simp
  refine take_ok hy (by omega) (by omega) fun w y hw hy => ?_
  simp
  refine ⟨fun _ => ⟨by omega, ?_⟩, fun _ => ⟨fun _ => ?_, fun _ => ?_⟩⟩
  · refine hq _ y (vs_node (k := 47) .row (fun d hd => ?_) (by simp)) hy
    simp at hd
    rcases hd with rfl | rfl
    · exact hv
    · exact vs_int _ _ _
  · have e : PyData.tuple [PyData.str "side", PyData.tuple ((thS t).map nD ++ [PyData.int (th : Int)])] = .tuple [Kw.side.d, .tuple ((thS t ++ [th]).map nD)] := by rw [List.map_append]; rfl
    refine ⟨by omega, by omega, by omega, ?_⟩
    rw [e]
    exact hq _ y ((vs_ints (thS t ++ [th]) (by rw [List.length_append, List.length_singleton]; omega) .side).mono (by omega)) hy
  · exact hq v y (hv.mono (by omega)) hy

theorem ones12 : ∃ xs : List Nat, PyData.list [.int 1, .int 1, .int 1, .int 1, .int 1, .int 1, .int 1, .int 1, .int 1, .int 1, .int 1, .int 1] = .list (xs.map nD) ∧ xs.length = 12 := ⟨List.replicate 12 1, by simp only [List.replicate, List.map]; rfl, by simp⟩
theorem fault12_okd {v : D} (hv : VT false v) (h : faultR v = none) : Okd 22 v := by
  unfold faultR at h
  split at h
  · cases h
  · rename_i f hf
    exact walk_okd (n := 11) (lv := [v]) (fun d hd => by simp at hd; rw [hd]; exact hv) hf v (by simp)
def InvK (ns : List Int) (i : Nat) (s : S) : Prop := ∃ e1 e2 e3 e4 e5 e6 e8 e9 e10 : Option Sl, s = ⟨[some (.val (scr ns)), e1, e2, e3, e4, e5, e6, none, e8, e9, e10], []⟩
def InvM (ns : List Int) (k : Nat) (b : List D) (e3 e4 e5 e6 : Option Sl) (i : Nat) (s : S) : Prop := ∃ e8 e9 e10 : Option Sl, s = ⟨[some (.val (scr ns)), some (.val (.int (k : Int))), some (.own (.lst b)), e3, e4, e5, e6, none, e8, e9, e10], []⟩
def Mid12 (e0 : List (Option Sl)) (y : List D) (r : R) (s' : S) : Prop := ∃ m : Nat, 1 ≤ m ∧ m ≤ 12 ∧ r = .val (.int (m : Int)) ∧ s' = ⟨e0, []⟩
theorem math (ns : List Int) (hns : ns.length ≤ 63) : ∃ bs, g_law [scr ns] [] = .ok (.val (.bool true)) bs := by
  have hsz := size_eq
  have main : WpF (g_law [scr ns] []) fun x y => x = .val (.bool true) ∧ y = [] := by
    unfold g_law b_law
    rw [wpF_runF]
    simp
    obtain ⟨K, hK, hK2⟩ : ∃ K : Nat, (if (4 : Int) < (if (8 : Int) < (ns.length : Int) then (8 : Int) else (ns.length : Int)) then (if (8 : Int) < (ns.length : Int) then (8 : Int) else (ns.length : Int)) else 4) = (K : Int) ∧ K ≤ 8 := by
      refine ⟨(if (4 : Int) < (if (8 : Int) < (ns.length : Int) then (8 : Int) else (ns.length : Int)) then (if (8 : Int) < (ns.length : Int) then (8 : Int) else (ns.length : Int)) else 4).toNat, ?_, ?_⟩ <;> omega
    rw [hK]
    refine ⟨rOk_of (by omega) (by omega), ?_⟩
    refine wp_forL (InvK ns) ⟨none, none, none, none, none, none, none, none, none, rfl⟩ ?_ ?_
    · rintro k d s hd ⟨e1, e2, e3, e4, e5, e6, e8, e9, e10, rfl⟩
      obtain ⟨hk, rfl⟩ := range_at hd
      rw [Int.toNat_natCast] at hk
      simp [-wp_eIf]
      refine box_ok (by omega) hns fun b hb => ?_
      simp [-wp_eIf]
      refine Wp.mono (α := R) (Q := Mid12 [some (.val (scr ns)), some (.val (.int (k : Int))), some (.own (.lst b)), e3, e4, e5, e6, none, e8, e9, e10] b) ?_ ?_
      · simp
        exact ⟨fun _ => ⟨12, by omega, by omega, rfl, rfl⟩, fun _ => ⟨7, by omega, by omega, rfl, rfl⟩⟩
      · rintro r s' ⟨m, hm1, hm2, rfl, rfl⟩
        simp
        refine term_ok (m := 40) hb hm1 hm2 (by omega) (by omega) fun t W th n y hSp hth hn1 hnm hy => ?_
        obtain ⟨u, rfl, hW, hthu, ha⟩ := hSp.tr
        have hcn := cnt_le u ha
        have hlen : (thF u).length = n := by rw [← hthu, hth.length_eq, List.length_range]
        simp
        refine ⟨lrOk_of (by omega) (by omega) (by omega) (by omega), shufA_ok hy (by omega) fun names y hnm2 hy => ?_⟩
        have hnl : names.length = 12 := by rw [hnm2.length_eq, List.length_range]
        simp
        refine chain_ok (xs := names) (.inr rfl) (fun e => by rw [e] at hnl; cases hnl) (by omega) fun v1 hv1 => ?_
        have c2 : cutL (names.map nD) none (some 2) = (names.take 2).map nD := by rw [show (2 : Int) = ((2 : Nat) : Int) from rfl, cut_to, List.map_take]
        simp [c2, -List.map_take]
        refine ⟨by omega, by omega, ?_⟩
        rw [show PyData.list ((names.take 2).map nD ++ [PyData.int 3]) = .list ((names.take 2 ++ [3]).map nD) from by rw [List.map_append]; rfl]
        refine chain_ok (.inr rfl) (by simp) (by simp; omega) fun v2 hv2 => ?_
        simp
        refine ⟨by omega, by omega, ?_⟩
        rw [show PyData.list (names.map nD ++ [PyData.int 0]) = .list ((names ++ [0]).map nD) from by rw [List.map_append]; rfl]
        refine chain_ok (.inr rfl) (by simp) (by simp; omega) fun v3 hv3 => ?_
        simp
        refine ⟨lrOk_of (by omega) (by omega) (by omega) (by omega), by omega, by omega, by omega, by omega, by omega, by omega, rOk_of (by omega) (by omega), ?_⟩
        have hL : ∀ v ∈ [trD u, v1, v2, v3, PyData.tuple [.str "row", .tuple (dRange 0 12)], .tuple [.str "side", .tuple [.int 0, .int 0, .int 0, .int 0, .int 0, .int 0, .int 0, .int 0, .int 0, .int 0, .int 0, .int 0, .int 0, .int 0, .int 0, .int 0, .int 0, .int 0, .int 0, .int 0, .int 0, .int 0, .int 0, .int 0]], .tuple [.str "side", .tuple [.int 0, .int 0, .int 0, .int 0, .int 0, .int 0, .int 0, .int 0, .int 0, .int 0, .int 0, .int 0, .int 0, .int 0, .int 0, .int 0, .int 0, .int 0, .int 0, .int 0, .int 0, .int 0, .int 0, .int 0, .int 0]]], VS false 49 v := fun v hv => by
          simp only [List.mem_cons, List.not_mem_nil, or_false] at hv
          rcases hv with rfl | rfl | rfl | rfl | rfl | rfl | rfl
          · exact (vs_tr u ha).mono (by omega)
          · exact hv1.mono (by omega)
          · exact hv2.mono (by omega)
          · exact hv3.mono (by omega)
          · rw [range_nD]
            exact (vs_ints (List.range 12) (by simp) .row).mono (by omega)
          · exact (vs_node (k := 0) .side (fun d hd => by rw [List.eq_of_mem_replicate (n := 24) (a := PyData.int 0) hd]; exact vs_int _ _ _) (by simp)).mono (by omega)
          · exact (vs_node (k := 0) .side (fun d hd => by rw [List.eq_of_mem_replicate (n := 25) (a := PyData.int 0) hd]; exact vs_int _ _ _) (by simp)).mono (by omega)
        have hL7 : ([trD u, v1, v2, v3, PyData.tuple [.str "row", .tuple (dRange 0 12)], .tuple [.str "side", .tuple [.int 0, .int 0, .int 0, .int 0, .int 0, .int 0, .int 0, .int 0, .int 0, .int 0, .int 0, .int 0, .int 0, .int 0, .int 0, .int 0, .int 0, .int 0, .int 0, .int 0, .int 0, .int 0, .int 0, .int 0]], .tuple [.str "side", .tuple [.int 0, .int 0, .int 0, .int 0, .int 0, .int 0, .int 0, .int 0, .int 0, .int 0, .int 0, .int 0, .int 0, .int 0, .int 0, .int 0, .int 0, .int 0, .int 0, .int 0, .int 0, .int 0, .int 0, .int 0, .int 0]]]).length = 7 := rfl
        generalize [trD u, v1, v2, v3, PyData.tuple [.str "row", .tuple (dRange 0 12)], .tuple [.str "side", .tuple [.int 0, .int 0, .int 0, .int 0, .int 0, .int 0, .int 0, .int 0, .int 0, .int 0, .int 0, .int 0, .int 0, .int 0, .int 0, .int 0, .int 0, .int 0, .int 0, .int 0, .int 0, .int 0, .int 0, .int 0]], .tuple [.str "side", .tuple [.int 0, .int 0, .int 0, .int 0, .int 0, .int 0, .int 0, .int 0, .int 0, .int 0, .int 0, .int 0, .int 0, .int 0, .int 0, .int 0, .int 0, .int 0, .int 0, .int 0, .int 0, .int 0, .int 0, .int 0, .int 0]]] = L at hL hL7
        refine wp_compL (fun i acc s => ∃ (b : List D) (x : Option Sl), acc.length = i ∧ (∀ v ∈ acc, VS false 49 v) ∧ VB b ∧ s = ⟨[some (.val (scr ns)), some (.val (.int (k : Int))), some (.own (.lst b)), some (.val (trD u)), some (.val (fN (srtW W))), some (.val (.list (names.map nD))), some (.own (.lst L)), x, e8, e9, e10], []⟩) ⟨y, none, rfl, by simp, hy, rfl⟩ ?_ ?_
        · rintro i d acc s hd ⟨b, x, hal, hav, hb, rfl⟩
          have := (List.getElem?_eq_some_iff.mp hd).1
          rw [range_len] at this
          have hth12 : (thS u).length ≤ 12 := by rw [(thS_perm u).length_eq]; omega
          simp
          refine bent12_ok hb ha (by omega) hth12 fun v y hv hy => ?_
          simp
          refine ⟨by omega, hal, ?_, hy⟩
          intro w hw
          rcases hw with h | h
          · exact hav w h
          · rw [h]; exact hv
        · rintro acc s ⟨b, x, hal, hav, hb, rfl⟩
          rw [range_len] at hal
          simp
          refine ⟨by omega, by omega, ?_⟩
          obtain ⟨xs, hxs, hxl⟩ := ones12
          rw [hxs]
          refine chain_ok (xs := xs) (.inr rfl) (fun e => by rw [e] at hxl; cases hxl) (by omega) fun v4 hv4 => ?_
          simp
          refine ⟨by omega, by omega, by omega, ?_⟩
          have hvs : ∀ v ∈ (L ++ (acc ++ [.tuple [.str "side", .tuple [.int 0, v4]]])), VS false 49 v := fun v hv => by
            rcases List.mem_append.mp hv with h | h
            · exact hL v h
            · rcases List.mem_append.mp h with h | h
              · exact hav v h
              · rw [List.mem_singleton.mp h]
                refine (vs_node (k := 44) .side (fun d hd => ?_) (by simp)).mono (by omega)
                simp at hd
                rcases hd with rfl | rfl
                · exact vs_int _ _ _
                · exact hv4
          generalize (L ++ (acc ++ [PyData.tuple [.str "side", .tuple [.int 0, v4]]])) = vs at hvs
          refine wp_forL (InvM ns k b (some (.val (trD u))) (some (.val (fN (srtW W)))) (some (.val (.list (names.map nD)))) (some (.val (.list vs)))) ⟨e8, e9, e10, rfl⟩ ?_ ?_
          · rintro i d s hd ⟨e8, e9, e10, rfl⟩
            rw [← List.map_id vs] at hd
            obtain ⟨v, hv, rfl⟩ := enum_at (e := id) hd
            have hV := hvs v (List.mem_of_getElem? hv)
            simp
            refine fault12_ok hV.vt (sm_mono hV.sm (by omega)) ?_
            cases hfa : faultR v with
            | none =>
              have hok := fault12_okd hV.vt hfa
              simp
              refine heard12_ok hV.vt (fun _ => ?_) (fun d h => by rw [hfa] at h; cases h)
              simp
              refine ⟨by omega, ?_⟩
              refine same_ok (n := 23) (.tup 22 _ fun x hx => ?_) (by decide) ?_
              · simp at hx
                rcases hx with rfl | rfl
                · exact .str _ _ (by first | rfl | decide +kernel)
                · exact hok
              simp
              exact ⟨_, _, _, rfl⟩
            | some z =>
              simp
              refine heard12_ok hV.vt (fun h => by rw [hfa] at h; cases h) (fun d h => ?_)
              rw [hfa] at h
              cases h
              simp
              refine ⟨by omega, ?_⟩
              refine same_ok (n := 2) (.tup 1 _ fun x hx => ?_) (by decide) ?_
              · simp at hx
                rcases hx with rfl | rfl | rfl
                · exact .str _ _ (by first | rfl | decide +kernel)
                · exact .int _ _
                · exact .bool _ _
              simp
              exact ⟨_, _, _, rfl⟩
          · rintro s ⟨e8, e9, e10, rfl⟩
            simp
            exact ⟨_, _, _, _, _, _, _, _, _, rfl⟩
    · rintro s ⟨e1, e2, e3, e4, e5, e6, e8, e9, e10, rfl⟩
      simp
  exact ⟨[], main.eq⟩

end Law
open PySem PySem.W PyProof.Rows in
set_option maxRecDepth 100000 in
set_option maxHeartbeats 0 in
theorem PySem.Challenge.cw_newestpays_k12_terms_and_what_is_none_holds : PySem.Challenge.rw_newestpays_k12_terms_and_what_is_none.Holds := by
  w_on; o_law; k_head; (case hw => w_witness2)
  k_fill
  refine Law.walk (l := PySem.Challenge.rw_newestpays_k12_terms_and_what_is_none) rfl rfl Law.math (fun w h Y => PySem.W.kIn_of Y) ?F
  case F =>
    intro w mg fa h KX G hmg
    refine' Law.all_mk KX G hmg ?a0 ?l0 ?c0 ?k0 ?a1 ?l1 ?c1 ?k1 ?t1 ?u1 ?v1 ?a2 ?l2 ?c2 ?k2 ?t2 ?u2 ?v2 ?a3 ?l3 ?c3 ?k3 ?a4 ?l4 ?c4 ?k4 ?a5 ?l5 ?c5 ?k5 ?a6 ?l6 ?c6 ?k6 ?a8 ?l8 ?c8 ?k8 ?a9 ?l9 ?c9 ?k9 ?a10 ?l10 ?c10 ?k10 ?a11 ?l11 ?c11 ?k11 ?a12 ?l12 ?c12 ?k12 ?a13 ?l13 ?c13 ?k13 ?a14 ?l14 ?c14 ?k14 ?a15 ?l15 ?c15 ?k15 ?a16 ?l16 ?c16 ?k16 ?a17 ?l17 ?c17 ?k17 ?a18 ?l18 ?c18 ?k18 ?a19 ?l19 ?c19 ?k19 ?a20 ?l20 ?c20 ?k20 ?zz_super ?zz_opq ?xa_BadTerm ?xb_BadTerm ?xc_BadTerm ?xd_BadTerm ?xe_BadTerm ?xf_BadTerm ?xg_BadTerm ?xh_BadTerm ?xi_BadTerm ?xj_BadTerm ?xk_BadTerm ?xl_BadTerm ?xm_BadTerm ?xn_BadTerm ?xo_BadTerm ?xp_BadTerm ?xq_BadTerm ?xr_BadTerm ?xs_BadTerm ?xt_BadTerm ?xu_BadTerm ?xw_BadTerm ?xx_BadTerm ?xv_BadTerm ?xa_BadFamily ?xa_BadOctets ?xa_BadState ?xa_BadTables ?xa_BadText ?xa_BadTimes ?xa_BadWeb ?xa_OwnError ?xa_Refused ?ya_BadTerm_OwnError ?yb_BadTerm_OwnError ?yc_BadTerm_OwnError ?yd_BadTerm_OwnError ?yh_BadTerm_OwnError ?yi_BadTerm_OwnError ?yj_BadTerm_OwnError ?yk_BadTerm_OwnError ?z_ValueError ?z_abs ?z_all ?z_bool ?z_enumerate ?z_int ?z_isinstance ?z_len ?z_list ?z_max ?z_min ?z_range ?z_set ?z_sorted ?z_str ?z_tuple ?z_zip ?y_MOST_DEPTH ?y_MOST_THINGS ?y_ROW ?y_SIDE
    (case a0 => k_is)
    (case l0 => k_is)
    (case c0 => k_is)
    (case k0 => k_is)
    (case a1 => k_is)
    (case l1 => k_is)
    (case c1 => k_is)
    (case k1 => k_is)
    (case t1 => k_is)
    (case u1 => rfl)
    (case v1 => repeat (first | exact .nil | refine .cons ⟨_, rfl⟩ ?_ | refine .cons rfl ?_))
    (case a2 => k_is)
    (case l2 => k_is)
    (case c2 => k_is)
    (case k2 => k_is)
    (case t2 => k_is)
    (case u2 => rfl)
    (case v2 => repeat (first | exact .nil | refine .cons ⟨_, rfl⟩ ?_ | refine .cons rfl ?_))
    (case a3 => k_is)
    (case l3 => k_is)
    (case c3 => k_is)
    (case k3 => k_is)
    (case a4 => k_is)
    (case l4 => k_is)
    (case c4 => k_is)
    (case k4 => k_is)
    (case a5 => k_is)
    (case l5 => k_is)
    (case c5 => k_is)
    (case k5 => k_is)
    (case a6 => k_is)
    (case l6 => k_is)
    (case c6 => k_is)
    (case k6 => k_is)
    (case a8 => k_is)
    (case l8 => k_is)
    (case c8 => k_is)
    (case k8 => k_is)
    (case a9 => k_is)
    (case l9 => k_is)
    (case c9 => k_is)
    (case k9 => k_is)
    (case a10 => k_is)
    (case l10 => k_is)
    (case c10 => k_is)
    (case k10 => k_is)
    (case a11 => k_is)
    (case l11 => k_is)
    (case c11 => k_is)
    (case k11 => k_is)
    (case a12 => k_is)
    (case l12 => k_is)
    (case c12 => k_is)
    (case k12 => k_is)
    (case a13 => k_is)
    (case l13 => k_is)
    (case c13 => k_is)
    (case k13 => k_is)
    (case a14 => k_is)
    (case l14 => k_is)
    (case c14 => k_is)
    (case k14 => k_is)
    (case a15 => k_is)
    (case l15 => k_is)
    (case c15 => k_is)
    (case k15 => k_is)
    (case a16 => k_is)
    (case l16 => k_is)
    (case c16 => k_is)
    (case k16 => k_is)
    (case a17 => k_is)
    (case l17 => k_is)
    (case c17 => k_is)
    (case k17 => k_is)
    (case a18 => k_is)
    (case l18 => k_is)
    (case c18 => k_is)
    (case k18 => k_is)
    (case a19 => k_is)
    (case l19 => k_is)
    (case c19 => k_is)
    (case k19 => k_is)
    (case a20 => k_is)
    (case l20 => k_is)
    (case c20 => k_is)
    (case k20 => k_is)
    (case zz_super => k_is)
    (case zz_opq => k_is)
    (case xa_BadTerm => k_is)
    (case xb_BadTerm => k_is)
    (case xc_BadTerm => k_is)
    (case xd_BadTerm => k_is)
    (case xe_BadTerm => k_is)
    (case xf_BadTerm => first | rfl | decide +kernel | kernel_rfl)
    (case xg_BadTerm => first | rfl | decide +kernel | kernel_rfl)
    (case xh_BadTerm => k_is)
    (case xi_BadTerm => first | rfl | decide +kernel | kernel_rfl)
    (case xj_BadTerm => k_is)
    (case xk_BadTerm => first | rfl | decide +kernel | kernel_rfl)
    (case xl_BadTerm => k_is)
    (case xm_BadTerm => ks_is)
    (case xn_BadTerm => k_is)
    (case xo_BadTerm => k_is)
    (case xp_BadTerm => k_is)
    (case xq_BadTerm => k_is)
    (case xr_BadTerm => k_is)
    (case xs_BadTerm => k_is)
    (case xt_BadTerm => k_is)
    (case xu_BadTerm => k_is)
    (case xw_BadTerm => k_is)
    (case xx_BadTerm => k_is)
    (case xv_BadTerm => kts_exm)
    (case xa_BadFamily => k_is)
    (case xa_BadOctets => k_is)
    (case xa_BadState => k_is)
    (case xa_BadTables => k_is)
    (case xa_BadText => k_is)
    (case xa_BadTimes => k_is)
    (case xa_BadWeb => k_is)
    (case xa_OwnError => k_is)
    (case xa_Refused => k_is)
    (case ya_BadTerm_OwnError => kts_exm)
    (case yb_BadTerm_OwnError => kit_is)
    (case yc_BadTerm_OwnError => kit_is)
    (case yd_BadTerm_OwnError => kit_is)
    (case yh_BadTerm_OwnError => k_is)
    (case yi_BadTerm_OwnError => k_is)
    (case yj_BadTerm_OwnError => k_is)
    (case yk_BadTerm_OwnError => k_is)
    (case z_ValueError => k_is)
    (case z_abs => k_is)
    (case z_all => k_is)
    (case z_bool => k_is)
    (case z_enumerate => k_is)
    (case z_int => k_is)
    (case z_isinstance => k_is)
    (case z_len => k_is)
    (case z_list => k_is)
    (case z_max => k_is)
    (case z_min => k_is)
    (case z_range => k_is)
    (case z_set => k_is)
    (case z_sorted => k_is)
    (case z_str => k_is)
    (case z_tuple => k_is)
    (case z_zip => k_is)
    (case y_MOST_DEPTH => k_is)
    (case y_MOST_THINGS => k_is)
    (case y_ROW => k_is)
    (case y_SIDE => k_is)
#print axioms PySem.Challenge.cw_newestpays_k12_terms_and_what_is_none_holds
