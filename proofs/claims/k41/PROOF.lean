import PyProof.Rows.All
import Wide.All
import OpenK.AllK
import Wide.FinOn
import HandS.ForMost
import HandS.Style
import HandS.Wide
import HandS.SlotsOwn
import HandS.Exc
import HandS.WordsExc
import HandS.IsInst
import PyProof.Rows.RuleB_pow
import HandS.NoneIn
import PySem.Challenge.RW_toothchain_k41_whole_lines_put_together
set_option Elab.async false
set_option linter.all false
set_option maxRecDepth 100000
set_option maxHeartbeats 4000000
/-! ZCore: values as trees, a store of cells; what a piece of the text computes as a plain function (its mirror); the rules that tie both. -/
namespace Zm
open PySem L2

/-! ### trees, cells, results -/
inductive BT where
  | non | bool | int | str | tuple | list | dict
  deriving DecidableEq
def BT.name : BT → String
  | .non => "NoneType" | .bool => "bool" | .int => "int" | .str => "str" | .tuple => "tuple" | .list => "list" | .dict => "dict"
inductive T where
  | non | bl (b : Bool) | int (i : Int) | str (s : Str) | tup (ts : List T) | lst (ts : List T) | ins (c : Nat) (fs : List T) | hdl (i : Nat) | scr (ts : List T) | ty (n : BT) | cls (c : Nat)
inductive Cell where
  | lst (ts : List T) | obj (c : Nat) (fs : List (Option T))
structure Exn where
  cls : Nat
  arg : Option (Str × T)
inductive Rs (α : Type) where
  | ok (a : α) | er (x : Exn)
abbrev Sto := List Cell
abbrev M (α : Type) := Sto → Option (Rs α × Sto)
abbrev Ev := List (Option T)
abbrev EM := Ev → M T
def ret {α : Type} (a : α) : M α := fun S => some (.ok a, S)
def fail {α : Type} : M α := fun _ => none
def bind {α β : Type} (m : M α) (f : α → M β) : M β := fun S => match m S with
  | none => none
  | some (.ok a, S') => f a S'
  | some (.er x, S') => some (.er x, S')
def ofO {α : Type} (o : Option α) : M α := fun S => match o with
  | none => none
  | some a => some (.ok a, S)

/-! ### how trees lie in the heap -/
abbrev As := List (Addr × Addr)
def Live (as : As) (a : Addr) : Prop := ∃ (i : Nat) (p : Addr × Addr), as[i]? = some p ∧ (a = p.1 ∨ a = p.2)
def Trk (H : Hp) (as : As) (a : Addr) (o : HO) : Prop := H a = some o ∧ ¬ Live as a
def TrkT (K : PySem.W.Frag) (H : Hp) (as : As) (a : Addr) (vs : List V) : Prop := Trk H as a (.tup vs) ∨
  ∃ (o : Obj) (its : Array Value) (n : Nat), K.lookup a = some o ∧ o.cls = .type "tuple" ∧ o.data = .seq its n ∧ its.size ≤ sizeLine ∧ Vals vs its.toList
def TrkL (K : PySem.W.Frag) (H : Hp) (as : As) (a : Addr) (vs : List V) : Prop := Trk H as a (.lst vs) ∨ (∃ o, Trk H as a (.frz o (.lst vs))) ∨
  ∃ (o : Obj) (its : Array Value) (n : Nat), K.lookup a = some o ∧ o.cls = .type "list" ∧ o.dict = none ∧ o.data = .seq its n ∧ its.size ≤ sizeLine ∧ Vals vs its.toList
def TrkS (H : Hp) (as : As) (a C dx : Addr) (vs : List (Option V)) : Prop := (Trk H as a (.ins C dx []) ∧ vs = []) ∨ (Trk H as a (SlX.SlO a C dx vs) ∧ Trk H as dx (.xd []))
mutual
def Rep (K : PySem.W.Frag) (C : Nat → Addr) (H : Hp) (as : As) : T → V → Prop
  | .non, v => v = .non
  | .bl b, v => v = .bl b
  | .int i, v => v = .int i
  | .str s, v => v = .str s
  | .tup ts, v => ∃ a vs, v = .ref a ∧ TrkT K H as a vs ∧ RepL K C H as ts vs
  | .lst ts, v => ∃ a vs, v = .ref a ∧ Trk H as a (.lst vs) ∧ RepL K C H as ts vs
  | .ins c fs, v => ∃ a dx vs, v = .ref a ∧ TrkS H as a (C c) dx (vs.map some) ∧ RepL K C H as fs vs
  | .hdl i, v => ∃ p, as[i]? = some p ∧ v = .ref p.1
  | .scr ts, v => ∃ a vs, v = .ref a ∧ TrkL K H as a vs ∧ RepL K C H as ts vs
  | .ty n, v => v = .ty n.name
  | .cls c, v => v = .ref (C c)
def RepL (K : PySem.W.Frag) (C : Nat → Addr) (H : Hp) (as : As) : List T → List V → Prop
  | [], vs => vs = []
  | t :: ts, vs => ∃ v ws, vs = v :: ws ∧ Rep K C H as t v ∧ RepL K C H as ts ws
end
structure Evo (H : Hp) (as : As) (H' : Hp) (as' : As) : Prop where
  pre : ∀ i : Nat, i < as.length → as'[i]? = as[i]?
  len : as.length ≤ as'.length
  keep : ∀ a o, Trk H as a o → Trk H' as' a o
theorem Evo.refl (H : Hp) (as : As) : Evo H as H as := ⟨fun _ _ => rfl, Nat.le_refl _, fun _ _ h => h⟩
theorem Evo.trans {H H1 H2 : Hp} {as as1 as2 : As} (a : Evo H as H1 as1) (b : Evo H1 as1 H2 as2) : Evo H as H2 as2 :=
  ⟨fun i h => (b.pre i (Nat.lt_of_lt_of_le h a.len)).trans (a.pre i h), Nat.le_trans a.len b.len, fun x o h => b.keep x o (a.keep x o h)⟩
theorem Evo.get {H H1 : Hp} {as as1 : As} (a : Evo H as H1 as1) {i : Nat} {p : Addr × Addr} (h : as[i]? = some p) : as1[i]? = some p := by
  rw [a.pre i (List.getElem?_eq_some_iff.mp h).1]; exact h

section
variable {K : PySem.W.Frag} {C : Nat → Addr} {H H' : Hp} {as as' : As}
theorem TrkT.mono {a : Addr} {vs : List V} (e : Evo H as H' as') (h : TrkT K H as a vs) : TrkT K H' as' a vs := by
  rcases h with h | h
  · exact .inl (e.keep _ _ h)
  · exact .inr h
theorem TrkL.mono {a : Addr} {vs : List V} (e : Evo H as H' as') (h : TrkL K H as a vs) : TrkL K H' as' a vs := by
  rcases h with h | ⟨o, h⟩ | h
  · exact .inl (e.keep _ _ h)
  · exact .inr (.inl ⟨o, e.keep _ _ h⟩)
  · exact .inr (.inr h)
theorem TrkL.sq {a : Addr} {vs : List V} (h : TrkL K H as a vs) : SqL K H a vs := by
  rcases h with h | ⟨o, h⟩ | h
  · exact .inl (.inl h.1)
  · exact .inl (.inr ⟨o, h.1⟩)
  · exact .inr h
theorem TrkL.of {a : Addr} {vs : List V} (h : SqL K H a vs) : TrkL K H [] a vs := by
  have no : ¬ Live [] a := fun ⟨i, p, e, _⟩ => by simp at e
  rcases h with (h | ⟨o, h⟩) | h
  · exact .inl ⟨h, no⟩
  · exact .inr (.inl ⟨o, h, no⟩)
  · exact .inr (.inr h)
theorem TrkS.mono {a c dx : Addr} {vs : List (Option V)} (e : Evo H as H' as') (h : TrkS H as a c dx vs) : TrkS H' as' a c dx vs := by
  rcases h with ⟨h, z⟩ | ⟨h, z⟩
  · exact .inl ⟨e.keep _ _ h, z⟩
  · exact .inr ⟨e.keep _ _ h, e.keep _ _ z⟩
theorem TrkT.sq {a : Addr} {vs : List V} (h : TrkT K H as a vs) : SqT K H a vs := by
  rcases h with h | h
  · exact .inl (.inl h.1)
  · exact .inr h
theorem TrkS.sl {a c dx : Addr} {vs : List (Option V)} (h : TrkS H as a c dx vs) : SlX.Slt H a c dx vs := by
  rcases h with ⟨h, z⟩ | ⟨h, z⟩
  · exact .inl ⟨h.1, z⟩
  · exact .inr ⟨h.1, z.1⟩
mutual
theorem Rep.mono (e : Evo H as H' as') : ∀ (t : T) (v : V), Rep K C H as t v → Rep K C H' as' t v
  | .non, _, h => h
  | .bl _, _, h => h
  | .int _, _, h => h
  | .str _, _, h => h
  | .tup ts, _, ⟨a, vs, q, r, l⟩ => ⟨a, vs, q, r.mono e, RepL.mono e ts vs l⟩
  | .lst ts, _, ⟨a, vs, q, r, l⟩ => ⟨a, vs, q, e.keep _ _ r, RepL.mono e ts vs l⟩
  | .ins c fs, _, ⟨a, dx, vs, q, r, l⟩ => ⟨a, dx, vs, q, r.mono e, RepL.mono e fs vs l⟩
  | .hdl i, _, ⟨p, q, r⟩ => ⟨p, e.get q, r⟩
  | .scr ts, _, ⟨a, vs, q, r, l⟩ => ⟨a, vs, q, r.mono e, RepL.mono e ts vs l⟩
  | .ty _, _, h => h
  | .cls _, _, h => h
theorem RepL.mono (e : Evo H as H' as') : ∀ (ts : List T) (vs : List V), RepL K C H as ts vs → RepL K C H' as' ts vs
  | [], _, h => h
  | t :: ts, _, ⟨v, ws, q, r, l⟩ => ⟨v, ws, q, Rep.mono e t v r, RepL.mono e ts ws l⟩
end
theorem RepL.len : ∀ {ts : List T} {vs : List V}, RepL K C H as ts vs → vs.length = ts.length
  | [], vs, h => by rw [show vs = [] from h]; rfl
  | _ :: _, _, ⟨v, ws, q, _, l⟩ => by rw [q, List.length_cons, List.length_cons, RepL.len l]
theorem RepL.get : ∀ {ts : List T} {vs : List V} {i : Nat} {t : T}, RepL K C H as ts vs → ts[i]? = some t → ∃ v, vs[i]? = some v ∧ Rep K C H as t v
  | t :: ts, _, 0, u, ⟨v, ws, q, r, l⟩, e => by
    cases (show t = u by simpa using e)
    exact ⟨v, by rw [q]; rfl, r⟩
  | t :: ts, _, i + 1, u, ⟨v, ws, q, r, l⟩, e => by
    obtain ⟨w, h1, h2⟩ := RepL.get (i := i) (t := u) l (by simpa using e)
    exact ⟨w, by rw [q]; simpa using h1, h2⟩
theorem RepL.snoc : ∀ {ts : List T} {vs : List V} {t : T} {v : V}, RepL K C H as ts vs → Rep K C H as t v → RepL K C H as (ts ++ [t]) (vs ++ [v])
  | [], _, t, v, h, r => by rw [show _ = [] from h]; exact ⟨v, [], rfl, r, rfl⟩
  | u :: ts, _, t, v, ⟨w, ws, q, r', l⟩, r => by rw [q]; exact ⟨w, ws ++ [v], rfl, r', RepL.snoc l r⟩
theorem RepL.app : ∀ {ts us : List T} {vs ws : List V}, RepL K C H as ts vs → RepL K C H as us ws → RepL K C H as (ts ++ us) (vs ++ ws)
  | [], us, _, ws, h, r => by rw [show _ = [] from h]; exact r
  | u :: ts, us, _, ws, ⟨w, xs, q, r', l⟩, r => by rw [q]; exact ⟨w, xs ++ ws, rfl, r', RepL.app l r⟩
theorem RepL.put : ∀ {ts : List T} {vs : List V} (i : Nat) {t : T} {v : V}, RepL K C H as ts vs → Rep K C H as t v → RepL K C H as (ts.set i t) (vs.set i v)
  | [], _, _, _, _, h, _ => by rw [show _ = [] from h]; exact rfl
  | u :: ts, _, 0, t, v, ⟨w, ws, q, r', l⟩, r => by rw [q]; exact ⟨v, ws, rfl, r, l⟩
  | u :: ts, _, i + 1, t, v, ⟨w, ws, q, r', l⟩, r => by rw [q]; exact ⟨w, ws.set i v, rfl, r', RepL.put i l r⟩
theorem RepL.rev {ts : List T} {vs : List V} (h : RepL K C H as ts vs) : RepL K C H as ts.reverse vs.reverse := by
  induction ts generalizing vs with
  | nil => rw [show _ = [] from h]; exact rfl
  | cons t ts ih =>
    obtain ⟨w, ws, q, r, l⟩ := h
    rw [q, List.reverse_cons, List.reverse_cons]
    exact RepL.snoc (ih l) r
theorem RepL.drop : ∀ {ts : List T} {vs : List V} (n : Nat), RepL K C H as ts vs → RepL K C H as (ts.drop n) (vs.drop n)
  | _, _, 0, h => h
  | [], _, n + 1, h => by rw [show _ = [] from h]; exact rfl
  | u :: ts, _, n + 1, ⟨w, ws, q, r, l⟩ => by rw [q]; exact RepL.drop n l
theorem RepL.take : ∀ {ts : List T} {vs : List V} (n : Nat), RepL K C H as ts vs → RepL K C H as (ts.take n) (vs.take n)
  | _, _, 0, h => rfl
  | [], _, n + 1, h => by rw [show _ = [] from h]; exact rfl
  | u :: ts, _, n + 1, ⟨w, ws, q, r, l⟩ => by rw [q]; exact ⟨w, ws.take n, rfl, r, RepL.take n l⟩
end

/-! ### the store -/
mutual
/-- no cell is named in it -/
def noH : T → Bool
  | .tup ts => noHs ts
  | .lst ts => noHs ts
  | .ins _ ts => noHs ts
  | .scr ts => noHs ts
  | .hdl _ => false
  | _ => true
def noHs : List T → Bool
  | [] => true
  | t :: ts => noH t && noHs ts
end
def CellOk (K : PySem.W.Frag) (C : Nat → Addr) (H : Hp) (as : As) (p : Addr × Addr) : Cell → Prop
  | .lst ts => p.2 = p.1 ∧ noHs ts = true ∧ ∃ vs, H p.1 = some (.lst vs) ∧ RepL K C H as ts vs
  | .obj c fs => p.2 ≠ p.1 ∧ ∃ vs, SlX.Slt H p.1 (C c) p.2 vs ∧ (∃ u, H p.2 = some u) ∧ ∀ (j : Nat) (t : T), fs[j]? = some (some t) → noH t = true ∧ ∃ v, vs[j]? = some (some v) ∧ Rep K C H as t v
structure StOk (K : PySem.W.Frag) (C : Nat → Addr) (H : Hp) (as : As) (S : Sto) : Prop where
  len : as.length = S.length
  cell : ∀ (i : Nat) (c : Cell) (p : Addr × Addr), S[i]? = some c → as[i]? = some p → CellOk K C H as p c
  apart : ∀ (i j : Nat) (p q : Addr × Addr), as[i]? = some p → as[j]? = some q → i ≠ j → p.1 ≠ q.1 ∧ p.1 ≠ q.2 ∧ p.2 ≠ q.1 ∧ p.2 ≠ q.2
def EnvOk (K : PySem.W.Frag) (C : Nat → Addr) (H : Hp) (as : As) (τ : Ev) (σ : L2.St) : Prop := τ.length = σ.length ∧ ∀ (i : Nat) (t : T), τ[i]? = some (some t) → ∃ v, σ[i]? = some (some v) ∧ Rep K C H as t v
section
variable {K : PySem.W.Frag} {C : Nat → Addr} {H H' : Hp} {as as' : As} {S : Sto} {τ : Ev} {σ : L2.St}
theorem EnvOk.mono (e : Evo H as H' as') (h : EnvOk K C H as τ σ) : EnvOk K C H' as' τ σ :=
  ⟨h.1, fun i t q => let ⟨v, h1, h2⟩ := h.2 i t q; ⟨v, h1, Rep.mono e t v h2⟩⟩
theorem EnvOk.set {i : Nat} {t : T} {v : V} (h : EnvOk K C H as τ σ) (r : Rep K C H as t v) : EnvOk K C H as (τ.set i (some t)) (σ.set i (some v)) := by
  refine ⟨by rw [List.length_set, List.length_set]; exact h.1, fun j u q => ?_⟩
  by_cases hj : j = i
  · subst hj
    have hl : j < τ.length := by
      have := (List.getElem?_eq_some_iff.mp q).1
      rw [List.length_set] at this; exact this
    rw [List.getElem?_set_self hl] at q
    cases q
    exact ⟨v, List.getElem?_set_self (by rw [← h.1]; exact hl), r⟩
  · rw [List.getElem?_set_ne (Ne.symm hj)] at q
    obtain ⟨w, h1, h2⟩ := h.2 j u q
    exact ⟨w, by rw [List.getElem?_set_ne (Ne.symm hj)]; exact h1, h2⟩
theorem CellOk.there {p : Addr × Addr} {c : Cell} (h : CellOk K C H as p c) : (∃ u, H p.1 = some u) ∧ ∃ u, H p.2 = some u := by
  cases c with
  | lst ts =>
    obtain ⟨e, _, vs, q, _⟩ := h
    rw [e]; exact ⟨⟨_, q⟩, ⟨_, q⟩⟩
  | obj c fs =>
    obtain ⟨e, vs, q, z, _⟩ := h
    refine ⟨?_, z⟩
    rcases q with ⟨q, _⟩ | ⟨q, _⟩
    · exact ⟨_, q⟩
    · exact ⟨_, q⟩
theorem StOk.at_ (h : StOk K C H as S) {i : Nat} {p : Addr × Addr} (q : as[i]? = some p) : ∃ c, S[i]? = some c ∧ CellOk K C H as p c := by
  have hl := (List.getElem?_eq_some_iff.mp q).1
  rw [h.len] at hl
  exact ⟨S[i], by simp [hl], h.cell i _ p (by simp [hl]) q⟩
theorem StOk.live (h : StOk K C H as S) {a : Addr} (l : Live as a) : ∃ u, H a = some u := by
  obtain ⟨i, p, q, z⟩ := l
  obtain ⟨c, _, k⟩ := h.at_ q
  rcases z with z | z
  · rw [z]; exact k.there.1
  · rw [z]; exact k.there.2
theorem StOk.fresh (h : StOk K C H as S) {a : Addr} (n : H a = none) : ¬ Live as a := fun l => by
  obtain ⟨u, q⟩ := h.live l
  rw [n] at q; cases q
/-- a new object that is no cell -/
theorem Evo.new {p : Addr} {o : HO} (n : H p = none) : Evo H as (upd H p o) as := ⟨fun _ _ => rfl, Nat.le_refl _, fun a u h => ⟨by rw [upd_ne (ne_of_none h.1 n)]; exact h.1, h.2⟩⟩
theorem Slt.keep {a c dx : Addr} {vs : List (Option V)} (h : SlX.Slt H a c dx vs) (h1 : H' a = H a) (h2 : H' dx = H dx) : SlX.Slt H' a c dx vs := by
  rcases h with ⟨h, z⟩ | ⟨h, z⟩
  · exact .inl ⟨h1.trans h, z⟩
  · exact .inr ⟨h1.trans h, h2.trans z⟩
theorem CellOk.keep {p : Addr × Addr} {c : Cell} (h : CellOk K C H as p c) (e : Evo H as H' as') (h1 : H' p.1 = H p.1) (h2 : H' p.2 = H p.2) : CellOk K C H' as' p c := by
  cases c with
  | lst ts =>
    obtain ⟨z, n, vs, q, r⟩ := h
    exact ⟨z, n, vs, h1.trans q, RepL.mono e _ _ r⟩
  | obj c fs =>
    obtain ⟨z, vs, q, ⟨u, w⟩, r⟩ := h
    exact ⟨z, vs, Slt.keep q h1 h2, ⟨u, h2.trans w⟩, fun j t x => let ⟨n, v, a, b⟩ := r j t x; ⟨n, v, a, Rep.mono e t v b⟩⟩
theorem StOk.new {p : Addr} {o : HO} (h : StOk K C H as S) (n : H p = none) : StOk K C (upd H p o) as S := by
  refine ⟨h.len, fun i c q a b => ?_, h.apart⟩
  have k := h.cell i c q a b
  obtain ⟨⟨u, t1⟩, ⟨w, t2⟩⟩ := k.there
  exact k.keep (Evo.new n) (upd_ne (ne_of_none t1 n)) (upd_ne (ne_of_none t2 n))
theorem Rep.newTup {p : Addr} {ts : List T} {vs : List V} (h : StOk K C H as S) (n : H p = none) (r : RepL K C H as ts vs) : Rep K C (upd H p (.tup vs)) as (.tup ts) (.ref p) :=
  ⟨p, vs, rfl, .inl ⟨upd_same, h.fresh n⟩, RepL.mono (Evo.new n) _ _ r⟩
theorem Rep.newLst {p : Addr} {ts : List T} {vs : List V} (h : StOk K C H as S) (n : H p = none) (r : RepL K C H as ts vs) : Rep K C (upd H p (.lst vs)) as (.lst ts) (.ref p) :=
  ⟨p, vs, rfl, ⟨upd_same, h.fresh n⟩, RepL.mono (Evo.new n) _ _ r⟩
/-- a new list that is a cell -/
theorem get_snoc {α : Type} {l : List α} {x y : α} {i : Nat} (h : (l ++ [x])[i]? = some y) : (l[i]? = some y ∧ i < l.length) ∨ (i = l.length ∧ y = x) := by
  by_cases hi : i < l.length
  · rw [List.getElem?_append_left hi] at h
    exact .inl ⟨h, hi⟩
  · rw [List.getElem?_append_right (by omega)] at h
    have : i - l.length = 0 := by
      have := (List.getElem?_eq_some_iff.mp h).1
      simp at this; omega
    rw [this] at h
    exact .inr ⟨by omega, by simpa using h.symm⟩
theorem Evo.cell {p d : Addr} (n : H p = none) (m : H d = none) (k : ∀ a u, H a = some u → H' a = some u) : Evo H as H' (as ++ [(p, d)]) := by
  refine ⟨fun i hi => List.getElem?_append_left hi, by simp, fun a u h => ⟨k a u h.1, ?_⟩⟩
  rintro ⟨i, q, e, z⟩
  rcases get_snoc e with ⟨e, _⟩ | ⟨_, e⟩
  · exact h.2 ⟨i, q, e, z⟩
  · subst e
    rcases z with z | z
    · exact ne_of_none h.1 n z
    · exact ne_of_none h.1 m z
theorem StOk.cellNew {p d : Addr} {c : Cell} (h : StOk K C H as S) (n : H p = none) (m : H d = none) (k : ∀ a u, H a = some u → H' a = some u) (ok : CellOk K C H' (as ++ [(p, d)]) (p, d) c) : StOk K C H' (as ++ [(p, d)]) (S ++ [c]) := by
  have ev : Evo H as H' (as ++ [(p, d)]) := Evo.cell n m k
  refine ⟨by simp [h.len], fun i c' q a b => ?_, fun i j q q' a b ne => ?_⟩
  · rcases get_snoc b with ⟨b, hb⟩ | ⟨hi, hq⟩
    · rcases get_snoc a with ⟨a, _⟩ | ⟨z, _⟩
      · have x := h.cell i c' q a b
        obtain ⟨⟨u, t1⟩, ⟨w, t2⟩⟩ := x.there
        exact x.keep ev ((k _ _ t1).trans t1.symm) ((k _ _ t2).trans t2.symm)
      · rw [z, ← h.len] at hb; exact absurd hb (Nat.lt_irrefl _)
    · rcases get_snoc a with ⟨a, z⟩ | ⟨_, ha⟩
      · rw [hi, h.len] at z; exact absurd z (Nat.lt_irrefl _)
      · subst ha; subst hq; exact ok
  · have old : ∀ (i : Nat) (q : Addr × Addr), as[i]? = some q → q.1 ≠ p ∧ q.1 ≠ d ∧ q.2 ≠ p ∧ q.2 ≠ d := fun i q z => by
      obtain ⟨c', _, x⟩ := h.at_ z
      obtain ⟨⟨u, t1⟩, ⟨w, t2⟩⟩ := x.there
      exact ⟨ne_of_none t1 n, ne_of_none t1 m, ne_of_none t2 n, ne_of_none t2 m⟩
    rcases get_snoc a with ⟨a, _⟩ | ⟨hi, ha⟩
    · rcases get_snoc b with ⟨b, _⟩ | ⟨hj, hb⟩
      · exact h.apart i j q q' a b ne
      · subst hb; exact old i q a
    · rcases get_snoc b with ⟨b, _⟩ | ⟨hj, hb⟩
      · subst ha
        have z := old j q' b
        exact ⟨z.1.symm, z.2.2.1.symm, z.2.1.symm, z.2.2.2.symm⟩
      · exact absurd (hi.trans hj.symm) ne
/-- a list cell is written -/
theorem Evo.write {i : Nat} {p : Addr × Addr} {o : HO} (q : as[i]? = some p) : Evo H as (upd H p.1 o) as :=
  ⟨fun _ _ => rfl, Nat.le_refl _, fun a u h => ⟨by rw [upd_ne (show a ≠ p.1 from fun z => h.2 ⟨i, p, q, .inl z⟩)]; exact h.1, h.2⟩⟩
theorem StOk.write {i : Nat} {p : Addr × Addr} {ts : List T} {vs : List V} (h : StOk K C H as S) (q : as[i]? = some p) (z : p.2 = p.1) (n : noHs ts = true) (r : RepL K C H as ts vs) : StOk K C (upd H p.1 (.lst vs)) as (S.set i (.lst ts)) := by
  have ev : Evo H as (upd H p.1 (.lst vs)) as := Evo.write q
  refine ⟨by rw [List.length_set]; exact h.len, fun j c p' a b => ?_, h.apart⟩
  by_cases hj : j = i
  · subst hj
    rw [q] at b; cases b
    have hl : j < S.length := by rw [← h.len]; exact (List.getElem?_eq_some_iff.mp q).1
    rw [List.getElem?_set_self hl] at a
    cases a
    exact ⟨z, n, vs, upd_same, RepL.mono ev _ _ r⟩
  · rw [List.getElem?_set_ne (Ne.symm hj)] at a
    have x := h.cell j c p' a b
    have y := h.apart j i p' p b q hj
    exact x.keep ev (upd_ne y.1) (upd_ne y.2.2.1)
end

/-! ### what a result asks -/
def ExnRep (K : PySem.W.Frag) (C : Nat → Addr) (H : Hp) (as : As) (x : Exn) (v : Value) (d : Option Addr) : Prop :=
  v = .ref (C x.cls) ∧ match x.arg with
    | none => True
    | some (f, t) => ∃ dd pv, d = some dd ∧ Trk H as dd (.xd [(f, pv)]) ∧ Rep K C H as t pv
section
variable (K : PySem.W.Frag) (C : Nat → Addr) (W : XK)
def WpX (S : Sto) (x : Exn) (as : As) (H : Hp) : Prop := ∀ H' as' v d, Evo H as H' as' → StOk K C H' as' S → ExnRep K C H' as' x v d → W v d H'
def WpV (R : Option (Rs T × Sto)) (as : As) (H : Hp) (Q : VK) : Prop := match R with
  | none => False
  | some (.ok t, S) => ∀ v H' as', Evo H as H' as' → StOk K C H' as' S → Rep K C H' as' t v → Q v H'
  | some (.er x, S) => WpX K C W S x as H
def WpB (R : Option (Rs Bool × Sto)) (as : As) (H : Hp) (Q : Bool → Hp → Prop) : Prop := match R with
  | none => False
  | some (.ok b, S) => ∀ H' as', Evo H as H' as' → StOk K C H' as' S → Q b H'
  | some (.er x, S) => WpX K C W S x as H
def WpA (R : Option (Rs (List T) × Sto)) (as : As) (H : Hp) (Q : List V → Hp → Prop) : Prop := match R with
  | none => False
  | some (.ok ts, S) => ∀ vs H' as', Evo H as H' as' → StOk K C H' as' S → RepL K C H' as' ts vs → Q vs H'
  | some (.er x, S) => WpX K C W S x as H
end
section
variable {K : PySem.W.Frag} {C : Nat → Addr} {W : XK} {H H' : Hp} {as as' : As}
theorem WpX.mono {S : Sto} {x : Exn} (e : Evo H as H' as') (h : WpX K C W S x as H) : WpX K C W S x as' H' := fun H2 as2 v d e2 => h H2 as2 v d (e.trans e2)
theorem WpV.mono {R : Option (Rs T × Sto)} {Q : VK} (e : Evo H as H' as') (h : WpV K C W R as H Q) : WpV K C W R as' H' Q := by
  match R with
  | none => exact h
  | some (.ok t, S) => exact fun v H2 as2 e2 => h v H2 as2 (e.trans e2)
  | some (.er x, S) => exact WpX.mono e h
theorem WpV.imp {R : Option (Rs T × Sto)} {Q Q' : VK} (h : WpV K C W R as H Q) (k : ∀ v H, Q v H → Q' v H) : WpV K C W R as H Q' := by
  match R with
  | none => exact h
  | some (.ok t, S) => exact fun v H2 as2 e2 s r => k _ _ (h v H2 as2 e2 s r)
  | some (.er x, S) => exact h
end

/-! ### the judgements: a piece of the text and its mirror -/
def EOk (X : Cx) (C : Nat → Addr) (W : XK) (e : Expr) (m : EM) : Prop := ∃ t, PE X e t ∧ ∀ σ τ H as S Q, EnvOk X.K C H as τ σ → StOk X.K C H as S → WpV X.K C W (m τ S) as H Q → t σ H Q
def TOk (X : Cx) (C : Nat → Addr) (W : XK) (e : Expr) (m : Ev → M Bool) : Prop := ∃ t, PT X e t ∧ ∀ σ τ H as S Q, EnvOk X.K C H as τ σ → StOk X.K C H as S → WpB X.K C W (m τ S) as H Q → t σ H Q
def PWOk (X : Cx) (C : Nat → Addr) (W : XK) (e : Expr) (m : Ev → M Bool) : Prop := ∃ t, PW X e t ∧ ∀ σ τ H as S Q, EnvOk X.K C H as τ σ → StOk X.K C H as S → WpB X.K C W (m τ S) as H Q → t σ H Q
def AOk (X : Cx) (C : Nat → Addr) (W : XK) (es : List Expr) (m : Ev → M (List T)) : Prop := ∃ t, PA X es t ∧ ∀ σ τ H as S Q, EnvOk X.K C H as τ σ → StOk X.K C H as S → WpA X.K C W (m τ S) as H Q → t σ H Q
/-- an operation on two values, on one, a call on values -/
def OpM (X : Cx) (C : Nat → Addr) (f : Value → Value → Sem Value) (g : T → T → M T) : Prop := ∃ r : R2, OpR X f r ∧
  ∀ W a b x y H as S Q, StOk X.K C H as S → Rep X.K C H as a x → Rep X.K C H as b y → WpV X.K C W (g a b S) as H Q → r x y H Q
def UnM (X : Cx) (C : Nat → Addr) (f : Value → Sem Value) (g : T → M T) : Prop := ∃ r : V → Hp → VK → Prop, UnR X f r ∧
  ∀ W a x H as S Q, StOk X.K C H as S → Rep X.K C H as a x → WpV X.K C W (g a S) as H Q → r x H Q
def CallM (X : Cx) (C : Nat → Addr) (f : Value) (g : List T → M T) : Prop := ∃ r : List V → Hp → VK → Prop, CallR X f r ∧
  ∀ W ts vs H as S Q, StOk X.K C H as S → RepL X.K C H as ts vs → WpV X.K C W (g ts S) as H Q → r vs H Q

section
variable {X : Cx} {C : Nat → Addr} {W : XK} {K : PySem.W.Frag}
/-! ### names, constants -/
def eVar (i : Nat) : EM := fun τ => match τ[i]? with
  | some (some t) => ret t
  | _ => fail
def eC (t : T) : EM := fun _ => ret t
theorem em_var (i : Nat) {x : Str} {pos : Pos} (hN : X.N[i]? = some x := by rfl) (hv : Vis X.env.scope x := by first | exact Or.inl rfl | exact Or.inr (Or.inl rfl) | exact Or.inr (Or.inr rfl)) (hd : (x == ("__debug__" : Str)) = false := by decide)
    (hcd : (x == ("__classdict__" : Str)) = false := by decide) : EOk X C W (.Name x pos) (eVar i) := by
  refine ⟨_, pv i hN hv hd hcd, fun σ τ H as S Q he hs h => ?_⟩
  unfold eVar at h
  match hq : τ[i]? with
  | none => rw [hq] at h; exact h.elim
  | some none => rw [hq] at h; exact h.elim
  | some (some t) =>
    rw [hq] at h
    obtain ⟨v, h1, h2⟩ := he.2 i t hq
    exact ⟨v, h1, h v H as (Evo.refl _ _) hs h2⟩
theorem wpv_ret {t : T} {v : V} {as : As} {H : Hp} {S : Sto} {Q : VK} (h : WpV K C W (ret t S) as H Q) (hs : StOk K C H as S) (r : Rep K C H as t v) : Q v H := h v H as (Evo.refl _ _) hs r
theorem em_int {i j pos} : EOk X C W (.Constant (.int i) j pos) (eC (.int i)) := ⟨_, pe_int, fun σ τ H as S Q he hs h => wpv_ret h hs rfl⟩
theorem em_bl {b j pos} : EOk X C W (.Constant (.bool b) j pos) (eC (.bl b)) := ⟨_, pe_bl, fun σ τ H as S Q he hs h => wpv_ret h hs rfl⟩
theorem em_non {j pos} : EOk X C W (.Constant .none j pos) (eC .non) := ⟨_, pe_non, fun σ τ H as S Q he hs h => wpv_ret h hs rfl⟩
theorem em_str {x j pos} : EOk X C W (.Constant (.str x) j pos) (eC (.str x)) := ⟨_, pe_str, fun σ τ H as S Q he hs h => wpv_ret h hs rfl⟩
theorem em_globInt {x : Str} {i : Int} {u : Value} {pos : Pos} (hm : X.mg x = some u) (hu : ∃ t, u = .int i t) (hg : Gl X x := by rfl) (hd : (x == ("__debug__" : Str)) = false := by decide) : EOk X C W (.Name x pos) (eC (.int i)) :=
  ⟨_, pe_glob (v := .int i) hg hm hu hd, fun σ τ H as S Q he hs h => wpv_ret h hs rfl⟩

/-! ### operators -/
theorem wpv_bind {m : M T} {f : T → M T} {as : As} {H : Hp} {S : Sto} {Q : VK} (h : WpV K C W (bind m f S) as H Q) :
    WpV K C W (m S) as H (fun v H' => ∃ t as' S', StOk K C H' as' S' ∧ Rep K C H' as' t v ∧ Evo H as H' as' ∧ WpV K C W (f t S') as' H' Q) := by
  unfold bind at h
  match hm : m S with
  | none => rw [hm] at h; exact h
  | some (.ok t, S1) =>
    rw [hm] at h
    exact fun v H' as' e s r => ⟨t, as', S1, s, r, e, h.mono e⟩
  | some (.er x, S1) => rw [hm] at h; exact h
def eOp (g : T → T → M T) (a b : EM) : EM := fun τ => bind (a τ) fun x => bind (b τ) fun y => g x y
theorem op_core {e1 e2 : Expr} {ma mb : EM} {g : T → T → M T} {ta tb : TE} {r : R2} (k1 : ∀ σ τ H as S Q, EnvOk X.K C H as τ σ → StOk X.K C H as S → WpV X.K C W (ma τ S) as H Q → ta σ H Q)
    (k2 : ∀ σ τ H as S Q, EnvOk X.K C H as τ σ → StOk X.K C H as S → WpV X.K C W (mb τ S) as H Q → tb σ H Q)
    (k : ∀ W a b x y H as S Q, StOk X.K C H as S → Rep X.K C H as a x → Rep X.K C H as b y → WpV X.K C W (g a b S) as H Q → r x y H Q) :
    ∀ σ τ H as S Q, EnvOk X.K C H as τ σ → StOk X.K C H as S → WpV X.K C W (eOp g ma mb τ S) as H Q → tOp r ta tb σ H Q := fun σ τ H as S Q he hs h => by
  refine k1 σ τ H as S _ he hs ((wpv_bind h).imp fun x H1 ⟨t1, as1, S1, s1, r1, e1, h1⟩ => ?_)
  refine k2 σ τ H1 as1 S1 _ (he.mono e1) s1 ((wpv_bind h1).imp fun y H2 ⟨t2, as2, S2, s2, r2, e2, h2⟩ => ?_)
  exact k W t1 t2 x y H2 as2 S2 Q s2 (Rep.mono e2 _ _ r1) r2 h2
theorem em_op {op : Operator} {g : T → T → M T} {a b : Expr} {ma mb : EM} {pos : Pos} (ho : OpM X C (binaryOp op) g) (ha : EOk X C W a ma) (hb : EOk X C W b mb) : EOk X C W (.BinOp a op b pos) (eOp g ma mb) := by
  obtain ⟨r, hr, k⟩ := ho
  obtain ⟨ta, h1, k1⟩ := ha
  obtain ⟨tb, h2, k2⟩ := hb
  exact ⟨_, pe_op hr h1 h2, op_core (e1 := a) (e2 := b) k1 k2 k⟩
theorem em_cmp {op : CmpOp} {g : T → T → M T} {a b : Expr} {ma mb : EM} {pos : Pos} (ho : OpM X C (compareOp op) g) (ha : EOk X C W a ma) (hb : EOk X C W b mb) (hm : behindInMarks op b = false) : EOk X C W (.Compare a [op] [b] pos) (eOp g ma mb) := by
  obtain ⟨r, hr, k⟩ := ho
  obtain ⟨ta, h1, k1⟩ := ha
  obtain ⟨tb, h2, k2⟩ := hb
  exact ⟨_, pe_cmpR hr h1 h2 hm, op_core (e1 := a) (e2 := b) k1 k2 k⟩
def eUn (g : T → M T) (a : EM) : EM := fun τ => bind (a τ) g
theorem em_un {op : UnaryOp} {g : T → M T} {a : Expr} {ma : EM} {pos : Pos} (ho : UnM X C (unaryOp op) g) (ha : EOk X C W a ma) : EOk X C W (.UnaryOp op a pos) (eUn g ma) := by
  obtain ⟨r, hr, k⟩ := ho
  obtain ⟨ta, h1, k1⟩ := ha
  refine ⟨_, pe_un hr h1, fun σ τ H as S Q he hs h => ?_⟩
  exact k1 σ τ H as S _ he hs ((wpv_bind h).imp fun x H1 ⟨t1, as1, S1, s1, r1, e1, h1⟩ => k W t1 x H1 as1 S1 Q s1 r1 h1)
/-- a value as a test -/
def isB : T → M Bool
  | .bl b => ret b
  | _ => fail
def tOf (m : EM) : Ev → M Bool := fun τ => bind (m τ) isB
theorem wpb_of {m : M T} {as : As} {H : Hp} {S : Sto} {Q : Bool → Hp → Prop} (h : WpB K C W (bind m isB S) as H Q) : WpV K C W (m S) as H (fun v H' => ∃ c, v = .bl c ∧ Q c H') := by
  unfold bind at h
  match hm : m S with
  | none => rw [hm] at h; exact h
  | some (.ok t, S1) =>
    rw [hm] at h
    cases t with
    | bl b => exact fun v H' as' e s r => ⟨b, r, h H' as' e s⟩
    | non => exact h.elim
    | int _ => exact h.elim
    | str _ => exact h.elim
    | tup _ => exact h.elim
    | lst _ => exact h.elim
    | ins _ _ => exact h.elim
    | hdl _ => exact h.elim
    | scr _ => exact h.elim
    | ty _ => exact h.elim
    | cls _ => exact h.elim
  | some (.er x, S1) => rw [hm] at h; exact h
theorem tm_cmp {op : CmpOp} {g : T → T → M T} {a b : Expr} {ma mb : EM} {pos : Pos} (ho : OpM X C (compareOp op) g) (ha : EOk X C W a ma) (hb : EOk X C W b mb) (hm : behindInMarks op b = false) : TOk X C W (.Compare a [op] [b] pos) (tOf (eOp g ma mb)) := by
  obtain ⟨r, hr, k⟩ := ho
  obtain ⟨ta, h1, k1⟩ := ha
  obtain ⟨tb, h2, k2⟩ := hb
  refine ⟨_, pt_cmpR hr h1 h2 hm, fun σ τ H as S Q he hs h => ?_⟩
  exact op_core (e1 := a) (e2 := b) k1 k2 k σ τ H as S _ he hs (wpb_of h)
theorem tm_val {e : Expr} {m : EM} (h : EOk X C W e m) (he : ∀ whole, isTrue e X.env whole = (do let v ← whole; standAt e.pos; holding [v] (truthy v)) := by intro _; rfl) : TOk X C W e (tOf m) := by
  obtain ⟨t, h1, k1⟩ := h
  exact ⟨_, pt_val h1 he, fun σ τ H as S Q hv hs h => k1 σ τ H as S _ hv hs (wpb_of h)⟩
theorem wpb_bind {m : M Bool} {f : Bool → M Bool} {as : As} {H : Hp} {S : Sto} {Q : Bool → Hp → Prop} (h : WpB K C W (bind m f S) as H Q) :
    WpB K C W (m S) as H (fun b H' => ∃ as' S', StOk K C H' as' S' ∧ Evo H as H' as' ∧ WpB K C W (f b S') as' H' Q) := by
  unfold bind at h
  match hm : m S with
  | none => rw [hm] at h; exact h
  | some (.ok t, S1) =>
    rw [hm] at h
    refine fun H' as' e s => ⟨as', S1, s, e, ?_⟩
    revert h
    show WpB K C W (f t S1) as H Q → WpB K C W (f t S1) as' H' Q
    intro h
    match f t S1, h with
    | none, h => exact h
    | some (.ok b, S2), h => exact fun H2 as2 e2 => h H2 as2 (e.trans e2)
    | some (.er x, S2), h => exact WpX.mono e h
  | some (.er x, S1) => rw [hm] at h; exact h
theorem WpB.imp {R : Option (Rs Bool × Sto)} {as : As} {H : Hp} {Q Q' : Bool → Hp → Prop} (h : WpB K C W R as H Q) (k : ∀ v H, Q v H → Q' v H) : WpB K C W R as H Q' := by
  match R with
  | none => exact h
  | some (.ok t, S) => exact fun H2 as2 e2 s => k _ _ (h H2 as2 e2 s)
  | some (.er x, S) => exact h
def tNotM (m : Ev → M Bool) : Ev → M Bool := fun τ => bind (m τ) fun b => ret (!b)
def tAndM (m n : Ev → M Bool) : Ev → M Bool := fun τ => bind (m τ) fun b => if b then n τ else ret false
def tOrM (m n : Ev → M Bool) : Ev → M Bool := fun τ => bind (m τ) fun b => if b then ret true else n τ
theorem tm_not {e : Expr} {m : Ev → M Bool} {pos : Pos} (h : TOk X C W e m) : TOk X C W (.UnaryOp .Not e pos) (tNotM m) := by
  obtain ⟨t, h1, k1⟩ := h
  refine ⟨_, pt_not h1, fun σ τ H as S Q hv hs h => ?_⟩
  exact k1 σ τ H as S _ hv hs ((wpb_bind h).imp fun b H1 ⟨as1, S1, s1, e1, h2⟩ => h2 H1 as1 (Evo.refl _ _) s1)
theorem tw_and1 {e : Expr} {m : Ev → M Bool} {pos : Pos} (h : TOk X C W e m) : PWOk X C W (.BoolOp .And [e] pos) m := by
  obtain ⟨t, h1, k1⟩ := h
  exact ⟨_, pw_and1 h1, k1⟩
theorem tw_or1 {e : Expr} {m : Ev → M Bool} {pos : Pos} (h : TOk X C W e m) : PWOk X C W (.BoolOp .Or [e] pos) m := by
  obtain ⟨t, h1, k1⟩ := h
  exact ⟨_, pw_or1 h1, k1⟩
theorem tw_and {a b : Expr} {rest : List Expr} {m n : Ev → M Bool} {pos : Pos} (h : TOk X C W a m) (g : PWOk X C W (.BoolOp .And (b :: rest) pos) n) : PWOk X C W (.BoolOp .And (a :: b :: rest) pos) (tAndM m n) := by
  obtain ⟨t, h1, k1⟩ := h
  obtain ⟨u, h2, k2⟩ := g
  refine ⟨_, pw_and h1 h2, fun σ τ H as S Q hv hs h => ?_⟩
  refine k1 σ τ H as S _ hv hs ((wpb_bind h).imp fun b H1 ⟨as1, S1, s1, e1, h2⟩ => ?_)
  cases b with
  | true => exact k2 σ τ H1 as1 S1 Q (hv.mono e1) s1 h2
  | false => exact h2 H1 as1 (Evo.refl _ _) s1
theorem tw_or {a b : Expr} {rest : List Expr} {m n : Ev → M Bool} {pos : Pos} (h : TOk X C W a m) (g : PWOk X C W (.BoolOp .Or (b :: rest) pos) n) : PWOk X C W (.BoolOp .Or (a :: b :: rest) pos) (tOrM m n) := by
  obtain ⟨t, h1, k1⟩ := h
  obtain ⟨u, h2, k2⟩ := g
  refine ⟨_, pw_or h1 h2, fun σ τ H as S Q hv hs h => ?_⟩
  refine k1 σ τ H as S _ hv hs ((wpb_bind h).imp fun b H1 ⟨as1, S1, s1, e1, h2⟩ => ?_)
  cases b with
  | true => exact h2 H1 as1 (Evo.refl _ _) s1
  | false => exact k2 σ τ H1 as1 S1 Q (hv.mono e1) s1 h2
theorem PWOk.t {e : Expr} {m : Ev → M Bool} (h : PWOk X C W e m) : TOk X C W e m := by
  obtain ⟨t, h1, k1⟩ := h
  exact ⟨t, h1.pt, k1⟩
/-! values: and, or, not of truths; if else -/
def eAnd (a b : EM) : EM := fun τ => bind (bind (a τ) isB) fun c => if c then b τ else ret (.bl false)
def eOr (a b : EM) : EM := fun τ => bind (bind (a τ) isB) fun c => if c then ret (.bl true) else b τ
def eNot (a : EM) : EM := fun τ => bind (bind (a τ) isB) fun c => ret (.bl (!c))
def eIf (t : Ev → M Bool) (a b : EM) : EM := fun τ => bind (t τ) fun c => if c then a τ else b τ
theorem wpvb_bind {m : M Bool} {f : Bool → M T} {as : As} {H : Hp} {S : Sto} {Q : VK} (h : WpV K C W (bind m f S) as H Q) :
    WpB K C W (m S) as H (fun b H' => ∃ as' S', StOk K C H' as' S' ∧ Evo H as H' as' ∧ WpV K C W (f b S') as' H' Q) := by
  unfold bind at h
  match hm : m S with
  | none => rw [hm] at h; exact h
  | some (.ok t, S1) => rw [hm] at h; exact fun H' as' e s => ⟨as', S1, s, e, h.mono e⟩
  | some (.er x, S1) => rw [hm] at h; exact h
theorem em_one {op} {e : Expr} {m : EM} {pos : Pos} (h : EOk X C W e m) : EOk X C W (.BoolOp op [e] pos) m := by
  obtain ⟨t, h1, k1⟩ := h
  exact ⟨_, pe_one h1, k1⟩
theorem em_and {a b : Expr} {rest : List Expr} {m n : EM} {pos : Pos} (h : EOk X C W a m) (g : EOk X C W (.BoolOp .And (b :: rest) pos) n) : EOk X C W (.BoolOp .And (a :: b :: rest) pos) (eAnd m n) := by
  obtain ⟨t, h1, k1⟩ := h
  obtain ⟨u, h2, k2⟩ := g
  refine ⟨_, pe_and h1 h2, fun σ τ H as S Q hv hs h => ?_⟩
  refine k1 σ τ H as S _ hv hs ((wpb_of (wpvb_bind h)).imp fun v H1 ⟨c, e, as1, S1, s1, e1, h2⟩ => ⟨c, e, ?_⟩)
  cases c with
  | true => exact k2 σ τ H1 as1 S1 Q (hv.mono e1) s1 h2
  | false => exact wpv_ret h2 s1 rfl
theorem em_or {a b : Expr} {rest : List Expr} {m n : EM} {pos : Pos} (h : EOk X C W a m) (g : EOk X C W (.BoolOp .Or (b :: rest) pos) n) : EOk X C W (.BoolOp .Or (a :: b :: rest) pos) (eOr m n) := by
  obtain ⟨t, h1, k1⟩ := h
  obtain ⟨u, h2, k2⟩ := g
  refine ⟨_, pe_or h1 h2, fun σ τ H as S Q hv hs h => ?_⟩
  refine k1 σ τ H as S _ hv hs ((wpb_of (wpvb_bind h)).imp fun v H1 ⟨c, e, as1, S1, s1, e1, h2⟩ => ⟨c, e, ?_⟩)
  cases c with
  | true => exact wpv_ret h2 s1 rfl
  | false => exact k2 σ τ H1 as1 S1 Q (hv.mono e1) s1 h2
theorem em_not {a : Expr} {m : EM} {pos : Pos} (h : EOk X C W a m) : EOk X C W (.UnaryOp .Not a pos) (eNot m) := by
  obtain ⟨t, h1, k1⟩ := h
  refine ⟨_, pe_not h1, fun σ τ H as S Q hv hs h => ?_⟩
  exact k1 σ τ H as S _ hv hs ((wpb_of (wpvb_bind h)).imp fun v H1 ⟨c, e, as1, S1, s1, e1, h2⟩ => ⟨c, e, wpv_ret h2 s1 rfl⟩)
theorem em_if {c a b : Expr} {mc : Ev → M Bool} {m n : EM} {pos : Pos} (hc : TOk X C W c mc) (h : EOk X C W a m) (g : EOk X C W b n) : EOk X C W (.IfExp c a b pos) (eIf mc m n) := by
  obtain ⟨tc, h0, k0⟩ := hc
  obtain ⟨t, h1, k1⟩ := h
  obtain ⟨u, h2, k2⟩ := g
  refine ⟨_, pe_ifExp h0 h1 h2, fun σ τ H as S Q hv hs h => ?_⟩
  refine k0 σ τ H as S _ hv hs ((wpvb_bind h).imp fun c H1 ⟨as1, S1, s1, e1, h2⟩ => ?_)
  cases c with
  | true => exact k1 σ τ H1 as1 S1 Q (hv.mono e1) s1 h2
  | false => exact k2 σ τ H1 as1 S1 Q (hv.mono e1) s1 h2
/-! ### argument lists, displays -/
def aNil : Ev → M (List T) := fun _ => ret []
def aCons (a : EM) (r : Ev → M (List T)) : Ev → M (List T) := fun τ => bind (a τ) fun x => bind (r τ) fun xs => ret (x :: xs)
theorem am_nil : AOk X C W [] aNil := ⟨_, pa_nil, fun σ τ H as S Q hv hs h => h [] H as (Evo.refl _ _) hs rfl⟩
theorem WpA.mono {R : Option (Rs (List T) × Sto)} {Q : List V → Hp → Prop} {H H' : Hp} {as as' : As} (e : Evo H as H' as') (h : WpA K C W R as H Q) : WpA K C W R as' H' Q := by
  match R with
  | none => exact h
  | some (.ok t, S) => exact fun v H2 as2 e2 => h v H2 as2 (e.trans e2)
  | some (.er x, S) => exact WpX.mono e h
theorem WpA.imp {R : Option (Rs (List T) × Sto)} {as : As} {H : Hp} {Q Q' : List V → Hp → Prop} (h : WpA K C W R as H Q) (k : ∀ v H, Q v H → Q' v H) : WpA K C W R as H Q' := by
  match R with
  | none => exact h
  | some (.ok t, S) => exact fun v H2 as2 e2 s r => k _ _ (h v H2 as2 e2 s r)
  | some (.er x, S) => exact h
theorem wpav_bind {m : M T} {f : T → M (List T)} {as : As} {H : Hp} {S : Sto} {Q : List V → Hp → Prop} (h : WpA K C W (bind m f S) as H Q) :
    WpV K C W (m S) as H (fun v H' => ∃ t as' S', StOk K C H' as' S' ∧ Rep K C H' as' t v ∧ Evo H as H' as' ∧ WpA K C W (f t S') as' H' Q) := by
  unfold bind at h
  match hm : m S with
  | none => rw [hm] at h; exact h
  | some (.ok t, S1) => rw [hm] at h; exact fun v H' as' e s r => ⟨t, as', S1, s, r, e, h.mono e⟩
  | some (.er x, S1) => rw [hm] at h; exact h
theorem wpaa_bind {m : M (List T)} {f : List T → M (List T)} {as : As} {H : Hp} {S : Sto} {Q : List V → Hp → Prop} (h : WpA K C W (bind m f S) as H Q) :
    WpA K C W (m S) as H (fun v H' => ∃ t as' S', StOk K C H' as' S' ∧ RepL K C H' as' t v ∧ Evo H as H' as' ∧ WpA K C W (f t S') as' H' Q) := by
  unfold bind at h
  match hm : m S with
  | none => rw [hm] at h; exact h
  | some (.ok t, S1) => rw [hm] at h; exact fun v H' as' e s r => ⟨t, as', S1, s, r, e, h.mono e⟩
  | some (.er x, S1) => rw [hm] at h; exact h
theorem wpva_bind {m : M (List T)} {f : List T → M T} {as : As} {H : Hp} {S : Sto} {Q : VK} (h : WpV K C W (bind m f S) as H Q) :
    WpA K C W (m S) as H (fun v H' => ∃ t as' S', StOk K C H' as' S' ∧ RepL K C H' as' t v ∧ Evo H as H' as' ∧ WpV K C W (f t S') as' H' Q) := by
  unfold bind at h
  match hm : m S with
  | none => rw [hm] at h; exact h
  | some (.ok t, S1) => rw [hm] at h; exact fun v H' as' e s r => ⟨t, as', S1, s, r, e, h.mono e⟩
  | some (.er x, S1) => rw [hm] at h; exact h
theorem am_cons {e : Expr} {es : List Expr} {m : EM} {r : Ev → M (List T)} (h : EOk X C W e m) (g : AOk X C W es r) (hs : starEach (e :: es) X.env = (false, eval e X.env) :: starEach es X.env := by rfl) : AOk X C W (e :: es) (aCons m r) := by
  obtain ⟨t, h1, k1⟩ := h
  obtain ⟨u, h2, k2⟩ := g
  refine ⟨_, pa_cons h1 h2 hs, fun σ τ H as S Q hv hs h => ?_⟩
  refine k1 σ τ H as S _ hv hs ((wpav_bind h).imp fun v H1 ⟨t1, as1, S1, s1, r1, e1, h2⟩ => ?_)
  refine k2 σ τ H1 as1 S1 _ (hv.mono e1) s1 ((wpaa_bind h2).imp fun vs H2 ⟨ts, as2, S2, s2, r2, e2, h3⟩ => ?_)
  exact h3 (v :: vs) H2 as2 (Evo.refl _ _) s2 ⟨v, vs, rfl, Rep.mono e2 _ _ r1, r2⟩
def big : Nat := 10000000
theorem big_le {n : Nat} (h : n ≤ big) : n ≤ sizeLine := Nat.le_trans h (by decide)
theorem big_lt {n : Nat} (h : n < big) : n < sizeLine := Nat.lt_of_lt_of_le h (by decide)
def eTup (r : Ev → M (List T)) : EM := fun τ => bind (r τ) fun ts => if ts.length ≤ big then ret (.tup ts) else fail
def eLst (r : Ev → M (List T)) : EM := fun τ => bind (r τ) fun ts => if ts.length ≤ big then ret (.lst ts) else fail
/-- a list that is a cell -/
def newC (ts : List T) : M T := fun S => if noHs ts then some (.ok (.hdl S.length), S ++ [.lst ts]) else none
def eCel (r : Ev → M (List T)) : EM := fun τ => bind (r τ) fun ts => if ts.length ≤ big then newC ts else fail
theorem em_tup {es : List Expr} {r : Ev → M (List T)} {x1} {pos : Pos} (g : AOk X C W es r) : EOk X C W (.Tuple es x1 pos) (eTup r) := by
  obtain ⟨u, h2, k2⟩ := g
  refine ⟨_, pe_tup h2, fun σ τ H as S Q hv hs h => ?_⟩
  refine k2 σ τ H as S _ hv hs ((wpva_bind h).imp fun vs H1 ⟨ts, as1, S1, s1, r1, e1, h2⟩ => ?_)
  by_cases hl : ts.length ≤ big
  · rw [if_pos hl] at h2
    refine ⟨by rw [r1.len]; exact big_le hl, fun p hp => ?_⟩
    exact h2 (.ref p) _ as1 (Evo.new hp) (s1.new hp) (Rep.newTup s1 hp r1)
  · rw [if_neg hl] at h2; exact h2.elim
theorem em_lst {es : List Expr} {r : Ev → M (List T)} {pos : Pos} (g : AOk X C W es r) : EOk X C W (.List es pos) (eLst r) := by
  obtain ⟨u, h2, k2⟩ := g
  refine ⟨_, pe_lst h2, fun σ τ H as S Q hv hs h => ?_⟩
  refine k2 σ τ H as S _ hv hs ((wpva_bind h).imp fun vs H1 ⟨ts, as1, S1, s1, r1, e1, h2⟩ => ?_)
  by_cases hl : ts.length ≤ big
  · rw [if_pos hl] at h2
    refine ⟨by rw [r1.len]; exact big_le hl, fun p hp => ?_⟩
    exact h2 (.ref p) _ as1 (Evo.new hp) (s1.new hp) (Rep.newLst s1 hp r1)
  · rw [if_neg hl] at h2; exact h2.elim
/-- a new list laid as a cell -/
theorem cell_lst {as : As} {H : Hp} {S : Sto} {ts : List T} {vs : List V} {p : Addr} {Q : VK} (s : StOk X.K C H as S) (r : RepL X.K C H as ts vs) (hp : H p = none) (h : WpV X.K C W (newC ts S) as H Q) : Q (.ref p) (upd H p (.lst vs)) := by
  unfold newC at h
  by_cases n : noHs ts = true
  case neg => rw [if_neg n] at h; exact h.elim
  rw [if_pos n] at h
  have k : ∀ a u, H a = some u → upd H p (.lst vs) a = some u := fun a u e => by rw [upd_ne (ne_of_none e hp)]; exact e
  have ev : Evo H as (upd H p (.lst vs)) (as ++ [(p, p)]) := Evo.cell hp hp k
  refine h (.ref p) _ (as ++ [(p, p)]) ev (s.cellNew hp hp k ⟨rfl, n, vs, upd_same, RepL.mono ev _ _ r⟩) ⟨(p, p), ?_, rfl⟩
  rw [← s.len, List.getElem?_append_right (Nat.le_refl _), Nat.sub_self]; rfl
theorem em_cel {es : List Expr} {r : Ev → M (List T)} {pos : Pos} (g : AOk X C W es r) : EOk X C W (.List es pos) (eCel r) := by
  obtain ⟨u, h2, k2⟩ := g
  refine ⟨_, pe_lst h2, fun σ τ H as S Q hv hs h => ?_⟩
  refine k2 σ τ H as S _ hv hs ((wpva_bind h).imp fun vs H1 ⟨ts, as1, S1, s1, r1, e1, h2⟩ => ?_)
  by_cases hl : ts.length ≤ big
  · rw [if_pos hl] at h2
    exact ⟨by rw [r1.len]; exact big_le hl, fun p hp => cell_lst s1 r1 hp h2⟩
  · rw [if_neg hl] at h2; exact h2.elim
end
end Zm
set_option Elab.async false
set_option linter.all false
set_option maxRecDepth 100000
set_option maxHeartbeats 4000000
/-! ZOps: operators, comparisons, calls of built-ins, subscripts, methods of lists: what each does to trees. -/
namespace Zm
open PySem L2
/-! ### sizes -/
def mulOk (i j : Int) : Bool := decide (i.natAbs < 2 ^ 64) || decide (j.natAbs < 2 ^ 64) || decide (i.natAbs.log2 + j.natAbs.log2 < 1000000)
theorem mulOk.ok {i j : Int} (h : mulOk i j = true) : IntMulOk i j := by
  unfold mulOk at h
  rw [Bool.or_eq_true, Bool.or_eq_true] at h
  rcases h with (h | h) | h
  · have := of_decide_eq_true h
    exact CMul.ok (.inl (by omega))
  · have := of_decide_eq_true h
    exact CMul.ok (.inr (by omega))
  · exact CMulW.ok (show i.natAbs.log2 + j.natAbs.log2 < 1000000 from of_decide_eq_true h)
def divOk (j : Int) : Bool := decide (0 < j) && decide (j.natAbs.log2 < 9000)
def powOk (i n : Int) : Bool := decide (0 ≤ n) && decide ((Builtin.Int.intBits i : Int) * n ≤ 2 ^ 27)

/-! ### binary operators -/
def orM (g k : T → T → M T) : T → T → M T := fun a b S => match g a b S with
  | none => k a b S
  | some r => some r
def addI : T → T → M T
  | .int i, .int j => ret (.int (i + j))
  | _, _ => fail
def addS : T → T → M T
  | .str x, .str y => if x.length + y.length ≤ big then ret (.str (x ++ y)) else fail
  | _, _ => fail
def addT : T → T → M T
  | .tup xs, .tup ys => if !xs.isEmpty && decide (xs.length + ys.length ≤ big) then ret (.tup (xs ++ ys)) else fail
  | _, _ => fail
def addL : T → T → M T
  | .lst xs, .lst ys => if xs.length + ys.length ≤ big then ret (.lst (xs ++ ys)) else fail
  | _, _ => fail
def addM : T → T → M T := orM addI (orM addS (orM addT addL))
def subM : T → T → M T
  | .int i, .int j => ret (.int (i - j))
  | _, _ => fail
def mulM : T → T → M T
  | .int i, .int j => if mulOk i j then ret (.int (i * j)) else fail
  | _, _ => fail
def fdivM : T → T → M T
  | .int i, .int j => if divOk j then ret (.int (i / j)) else fail
  | _, _ => fail
def modM : T → T → M T
  | .int i, .int j => if decide (0 < j) then ret (.int (i % j)) else fail
  | _, _ => fail
def powM : T → T → M T
  | .int i, .int j => if powOk i j then ret (.int (i ^ j.toNat)) else fail
  | _, _ => fail
def negM : T → M T
  | .int i => ret (.int (-i))
  | _ => fail
def ltM : T → T → M T
  | .int i, .int j => ret (.bl (decide (i < j)))
  | _, _ => fail
def leM : T → T → M T
  | .int i, .int j => ret (.bl (decide (i ≤ j)))
  | _, _ => fail
def gtM : T → T → M T
  | .int i, .int j => ret (.bl (decide (j < i)))
  | _, _ => fail
def geM : T → T → M T
  | .int i, .int j => ret (.bl (decide (j ≤ i)))
  | _, _ => fail
section
variable {X : Cx} {C : Nat → Addr} {W : XK}
theorem big_add {xs ys : List T} {vs ws : List V} {K : PySem.W.Frag} {H : Hp} {as : As} (r : RepL K C H as xs vs) (q : RepL K C H as ys ws) (h : xs.length + ys.length ≤ big) : vs.length + ws.length ≤ sizeLine := by
  rw [r.len, q.len]; exact big_le h
theorem OpM.or {f : Value → Value → Sem Value} {g k : T → T → M T} (h1 : OpM X C f g) (h2 : OpM X C f k) : OpM X C f (orM g k) := by
  obtain ⟨r, hr, k1⟩ := h1
  obtain ⟨u, hu, k2⟩ := h2
  refine ⟨_, hr.or hu, fun W a b x y H as S Q hs ra rb h => ?_⟩
  unfold orM at h
  match e : g a b S with
  | none => rw [e] at h; exact .inr (k2 W a b x y H as S Q hs ra rb h)
  | some z => rw [e] at h; exact .inl (k1 W a b x y H as S Q hs ra rb (by rw [e]; exact h))
theorem om_addS : OpM X C (binaryOp .Add) addS := by
  refine ⟨_, op_add_str, fun W a b x y H as S Q hs ra rb h => ?_⟩
  unfold addS at h
  split at h
  · obtain rfl := ra; obtain rfl := rb
    split at h
    · rename_i hb; exact ⟨_, _, rfl, rfl, big_le hb, wpv_ret h hs rfl⟩
    · exact h.elim
  · exact h.elim
theorem om_addT : OpM X C (binaryOp .Add) addT := by
  refine ⟨_, op_catT, fun W a b x y H as S Q hs ra rb h => ?_⟩
  unfold addT at h
  split at h
  · rename_i xs ys
    obtain ⟨p, vs, rfl, h1, r1⟩ := ra
    obtain ⟨q, ws, rfl, h2, r2⟩ := rb
    split at h
    · rename_i hb
      have hb' := Bool.and_eq_true_iff.mp hb
      refine ⟨p, q, vs, ws, rfl, rfl, h1.sq, h2.sq, fun z => ?_, big_add r1 r2 (of_decide_eq_true hb'.2), fun z => ?_, fun z l hl => ?_⟩
      · cases xs with
        | nil => exact absurd hb'.1 (by decide)
        | cons t ts => obtain ⟨_, _, e, _⟩ := r1; rw [z] at e; cases e
      · have e : ys = [] := by
          cases ys with
          | nil => rfl
          | cons u us => obtain ⟨_, _, e, _⟩ := r2; rw [z] at e; cases e
        subst e
        rw [List.append_nil] at h
        exact wpv_ret h hs ⟨p, vs, rfl, h1, r1⟩
      · exact h _ _ _ (Evo.new hl) (hs.new hl) (Rep.newTup hs hl (RepL.app r1 r2))
    · exact h.elim
  · exact h.elim
theorem om_addL : OpM X C (binaryOp .Add) addL := by
  refine ⟨_, op_cat, fun W a b x y H as S Q hs ra rb h => ?_⟩
  unfold addL at h
  split at h
  · rename_i xs ys
    obtain ⟨p, vs, rfl, h1, r1⟩ := ra
    obtain ⟨q, ws, rfl, h2, r2⟩ := rb
    split at h
    · rename_i hb
      exact ⟨p, q, vs, ws, rfl, rfl, h1.1, h2.1, big_add r1 r2 hb, fun l hl => h _ _ _ (Evo.new hl) (hs.new hl) (Rep.newLst hs hl (RepL.app r1 r2))⟩
    · exact h.elim
  · exact h.elim
theorem om_int {f : Value → Value → Sem Value} {g : T → T → M T} {Cd : Int → Int → Bool} {k : Int → Int → T} {kv : Int → Int → V} (hk : ∀ i j K H as, Rep K C H as (k i j) (kv i j)) (ho : OpR X f (rI (fun i j => Cd i j = true) kv))
    (hg : ∀ i j, g (T.int i) (T.int j) = if Cd i j then ret (k i j) else fail) (hn : ∀ a b S, (∀ i j, ¬ (a = T.int i ∧ b = T.int j)) → g a b S = none) : OpM X C f g := by
  refine ⟨_, ho, fun W a b x y H as S Q hs ra rb h => ?_⟩
  by_cases q : ∃ i j, a = T.int i ∧ b = T.int j
  · obtain ⟨i, j, rfl, rfl⟩ := q
    obtain rfl := ra; obtain rfl := rb
    rw [hg] at h
    by_cases hc : Cd i j = true
    · rw [if_pos hc] at h
      exact ⟨i, j, rfl, rfl, hc, wpv_ret h hs (hk i j _ _ _)⟩
    · rw [if_neg hc] at h; exact h.elim
  · rw [hn a b S fun i j z => q ⟨i, j, z⟩] at h
    exact h.elim
theorem om_int0 {f : Value → Value → Sem Value} {g : T → T → M T} {k : Int → Int → T} {kv : Int → Int → V} (hk : ∀ i j K H as, Rep K C H as (k i j) (kv i j)) (ho : OpR X f (rI0 kv))
    (hg : ∀ i j, g (T.int i) (T.int j) = ret (k i j)) (hn : ∀ a b S, (∀ i j, ¬ (a = T.int i ∧ b = T.int j)) → g a b S = none) : OpM X C f g := by
  refine ⟨_, ho, fun W a b x y H as S Q hs ra rb h => ?_⟩
  by_cases q : ∃ i j, a = T.int i ∧ b = T.int j
  · obtain ⟨i, j, rfl, rfl⟩ := q
    obtain rfl := ra; obtain rfl := rb
    rw [hg] at h
    exact ⟨i, j, rfl, rfl, wpv_ret h hs (hk i j _ _ _)⟩
  · rw [hn a b S fun i j z => q ⟨i, j, z⟩] at h
    exact h.elim
local macro_rules | `(tactic| trivial) => `(tactic| (intro a b S h; cases a <;> first | rfl | (cases b <;> first | rfl | exact absurd ⟨rfl, rfl⟩ (h _ _))))
theorem om_addI : OpM X C (binaryOp .Add) addI := om_int0 (k := fun i j => T.int (i + j)) (fun _ _ _ _ _ => rfl) op_add (fun _ _ => rfl) (by trivial)
theorem om_add : OpM X C (binaryOp .Add) addM := om_addI.or (om_addS.or (om_addT.or om_addL))
theorem om_sub : OpM X C (binaryOp .Sub) subM := om_int0 (k := fun i j => T.int (i - j)) (fun _ _ _ _ _ => rfl) op_sub (fun _ _ => rfl) (by trivial)
theorem om_lt : OpM X C (compareOp .Lt) ltM := om_int0 (k := fun i j => T.bl (decide (i < j))) (fun _ _ _ _ _ => rfl) op_lt (fun _ _ => rfl) (by trivial)
theorem om_le : OpM X C (compareOp .LtE) leM := om_int0 (k := fun i j => T.bl (decide (i ≤ j))) (fun _ _ _ _ _ => rfl) op_le (fun _ _ => rfl) (by trivial)
theorem om_gt : OpM X C (compareOp .Gt) gtM := om_int0 (k := fun i j => T.bl (decide (j < i))) (fun _ _ _ _ _ => rfl) op_gt (fun _ _ => rfl) (by trivial)
theorem om_ge : OpM X C (compareOp .GtE) geM := om_int0 (k := fun i j => T.bl (decide (j ≤ i))) (fun _ _ _ _ _ => rfl) op_ge (fun _ _ => rfl) (by trivial)
theorem or_mul : OpR X (binaryOp .Mult) (rI (fun i j => mulOk i j = true) fun i j => V.int (i * j)) := opI fun _ _ _ _ _ _ _ hc q => PyProof.Rows.mul_int q (mulOk.ok hc)
theorem or_fdiv : OpR X (binaryOp .FloorDiv) (rI (fun _ j => divOk j = true) fun i j => V.int (i / j)) := opI fun i j _ _ _ _ _ hc q => by
  have hc' := Bool.and_eq_true_iff.mp hc
  have h1 : (0 : Int) < j := of_decide_eq_true hc'.1
  exact PyProof.Rows.floordiv_int (by omega) (by rw [Int.fdiv_eq_ediv_of_nonneg i (by omega)]; exact q) (.inl (PyProof.noPylong_of_log2 (of_decide_eq_true hc'.2)))
theorem or_pow : OpR X (binaryOp .Pow) (rI (fun i j => powOk i j = true) fun i j => V.int (i ^ j.toNat)) := opI fun i j _ _ _ _ _ hc q => by
  have hc' := Bool.and_eq_true_iff.mp hc
  exact PyProof.Rows.pow_int (of_decide_eq_true hc'.1) (of_decide_eq_true hc'.2) q
theorem om_mul : OpM X C (binaryOp .Mult) mulM := om_int (k := fun i j => T.int (i * j)) (fun _ _ _ _ _ => rfl) or_mul (fun _ _ => rfl) (by trivial)
theorem om_fdiv : OpM X C (binaryOp .FloorDiv) fdivM := om_int (k := fun i j => T.int (i / j)) (fun _ _ _ _ _ => rfl) or_fdiv (fun _ _ => rfl) (by trivial)
theorem or_mod : OpR X (binaryOp .Mod) (rI (fun _ j => decide (0 < j) = true) fun i j => V.int (i % j)) := by
  have h := op_mod (X := X)
  intro pins s σ H x y v u Q I rx ry ⟨i, j, e1, e2, hc, q⟩
  exact h pins s σ H x y v u Q I rx ry ⟨i, j, e1, e2, of_decide_eq_true hc, q⟩
theorem om_mod : OpM X C (binaryOp .Mod) modM := om_int (Cd := fun _ j => decide (0 < j)) (k := fun i j => T.int (i % j)) (fun _ _ _ _ _ => rfl) or_mod (fun _ _ => rfl) (by trivial)
theorem om_pow : OpM X C (binaryOp .Pow) powM := om_int (k := fun i j => T.int (i ^ j.toNat)) (fun _ _ _ _ _ => rfl) or_pow (fun _ _ => rfl) (by trivial)
theorem um_neg : UnM X C (unaryOp .USub) negM := by
  refine ⟨_, un_neg, fun W a x H as S Q hs ra h => ?_⟩
  cases a <;> first | exact False.elim h | skip
  obtain rfl := ra
  exact ⟨_, rfl, wpv_ret h hs rfl⟩
end

/-! ### == and != of data -/
mutual
def toPD : T → Option PyData
  | .non => some .none
  | .bl b => some (.bool b)
  | .int i => some (.int i)
  | .str s => some (.str s)
  | .tup ts => (toPDs ts).map .tuple
  | .lst ts => (toPDs ts).map .list
  | .scr ts => (toPDs ts).map .list
  | _ => none
def toPDs : List T → Option (List PyData)
  | [] => some []
  | t :: ts => (toPD t).bind fun d => (toPDs ts).map fun ds => d :: ds
end
def toPDS (S : Sto) : T → Option PyData
  | .hdl i => match S[i]? with
    | some (.lst ts) => (toPDs ts).map .list
    | _ => none
  | t => toPD t
def eqD (a b : T) : M T := fun S => match toPDS S a, toPDS S b with
  | some d, some e => if SeqAt.shaped d && SeqAt.shaped e then ret (.bl (PyData.eqv d e)) S else none
  | _, _ => none
def neD (a b : T) : M T := fun S => match toPDS S a, toPDS S b with
  | some d, some e => if SeqAt.shaped d && SeqAt.shaped e then ret (.bl (!PyData.eqv d e)) S else none
  | _, _ => none
section
variable {X : Cx} {C : Nat → Addr} {W : XK} {K : PySem.W.Frag} {H : Hp} {as : As} {S : Sto}
mutual
theorem dp_of : ∀ (t : T) (v : V) (d : PyData), Rep K C H as t v → toPD t = some d → Dp K H v d
  | .non, v, d, r, e => by cases e; obtain rfl := r; exact .non
  | .bl b, v, d, r, e => by cases e; obtain rfl := r; exact .bl b
  | .int i, v, d, r, e => by cases e; obtain rfl := r; exact .int i
  | .str s, v, d, r, e => by cases e; obtain rfl := r; exact .str s
  | .tup ts, v, d, ⟨a, vs, q, r, l⟩, e => by
    obtain ⟨ds, h1, h2⟩ := Option.map_eq_some_iff.mp e
    subst h2; rw [q]; exact .tup r.sq (dps_of ts vs ds l h1)
  | .lst ts, v, d, ⟨a, vs, q, r, l⟩, e => by
    obtain ⟨ds, h1, h2⟩ := Option.map_eq_some_iff.mp e
    subst h2; rw [q]; exact .lst (SqL.of r.1) (dps_of ts vs ds l h1)
  | .scr ts, v, d, ⟨a, vs, q, r, l⟩, e => by
    obtain ⟨ds, h1, h2⟩ := Option.map_eq_some_iff.mp e
    subst h2; rw [q]; exact .lst r.sq (dps_of ts vs ds l h1)
  | .ins _ _, _, _, _, e => by cases e
  | .hdl _, _, _, _, e => by cases e
  | .ty _, _, _, _, e => by cases e
  | .cls _, _, _, _, e => by cases e
theorem dps_of : ∀ (ts : List T) (vs : List V) (ds : List PyData), RepL K C H as ts vs → toPDs ts = some ds → DpAll K H vs ds
  | [], _, _, r, e => by cases e; rw [show _ = [] from r]; exact .nil
  | t :: ts, _, _, ⟨v, ws, q, r, l⟩, e => by
    obtain ⟨d, h1, h2⟩ := Option.bind_eq_some_iff.mp e
    obtain ⟨ds, h3, h4⟩ := Option.map_eq_some_iff.mp h2
    subst h4; rw [q]; exact .cons (dp_of t v d r h1) (dps_of ts ws ds l h3)
end
theorem dpS_of {t : T} {v : V} {d : PyData} (hs : StOk K C H as S) (r : Rep K C H as t v) (e : toPDS S t = some d) : Dp K H v d := by
  cases t with
  | hdl i =>
    obtain ⟨p, q, rfl⟩ := r
    obtain ⟨c, hc, ok⟩ := hs.at_ q
    unfold toPDS at e
    dsimp only at e
    rw [hc] at e
    cases c with
    | obj _ _ => cases e
    | lst ts =>
      obtain ⟨_, _, vs, h1, h2⟩ := ok
      obtain ⟨ds, h3, h4⟩ := Option.map_eq_some_iff.mp e
      subst h4
      exact .lst (SqL.of h1) (dps_of ts vs ds h2 h3)
  | _ => exact dp_of _ v d r e
theorem om_eqD (hu : X.A.units + 64 < cLine) : OpM X C (compareOp .Eq) eqD := by
  refine ⟨_, op_eqD hu, fun W a b x y H as S Q hs ra rb h => ?_⟩
  unfold eqD at h
  match e1 : toPDS S a, e2 : toPDS S b with
  | none, _ => rw [e1] at h; exact h.elim
  | some d, none => rw [e1, e2] at h; exact h.elim
  | some d, some e =>
    rw [e1, e2] at h
    dsimp only at h
    split at h
    · rename_i hc
      have hc' := Bool.and_eq_true_iff.mp hc
      exact ⟨d, e, dpS_of hs ra e1, dpS_of hs rb e2, hc'.1, hc'.2, wpv_ret (W := W) h hs rfl⟩
    · exact h.elim
theorem om_neD (hu : X.A.units + 64 < cLine) : OpM X C (compareOp .NotEq) neD := by
  refine ⟨_, op_neD hu, fun W a b x y H as S Q hs ra rb h => ?_⟩
  unfold neD at h
  match e1 : toPDS S a, e2 : toPDS S b with
  | none, _ => rw [e1] at h; exact h.elim
  | some d, none => rw [e1, e2] at h; exact h.elim
  | some d, some e =>
    rw [e1, e2] at h
    dsimp only at h
    split at h
    · rename_i hc
      have hc' := Bool.and_eq_true_iff.mp hc
      exact ⟨d, e, dpS_of hs ra e1, dpS_of hs rb e2, hc'.1, hc'.2, wpv_ret (W := W) h hs rfl⟩
    · exact h.elim
/-! texts at once, whatever their signs -/
def eqS : T → T → M T
  | .str x, .str y => ret (.bl (x == y))
  | _, _ => fail
def neS : T → T → M T
  | .str x, .str y => ret (.bl (!(x == y)))
  | _, _ => fail
def eqM : T → T → M T := orM eqS eqD
def neM : T → T → M T := orM neS neD
theorem om_eqS : OpM X C (compareOp .Eq) eqS := by
  refine ⟨_, op_eq, fun W a b x y H as S Q hs ra rb h => ?_⟩
  unfold eqS at h
  split at h
  · obtain rfl := ra; obtain rfl := rb
    exact ⟨rfl, wpv_ret h hs (by rw [dec_str]; rfl)⟩
  · exact h.elim
theorem om_neS : OpM X C (compareOp .NotEq) neS := by
  refine ⟨_, op_ne, fun W a b x y H as S Q hs ra rb h => ?_⟩
  unfold neS at h
  split at h
  · obtain rfl := ra; obtain rfl := rb
    exact ⟨rfl, wpv_ret h hs (by rw [dec_str]; rfl)⟩
  · exact h.elim
theorem om_eq (hu : X.A.units + 64 < cLine) : OpM X C (compareOp .Eq) eqM := om_eqS.or (om_eqD hu)
theorem om_ne (hu : X.A.units + 64 < cLine) : OpM X C (compareOp .NotEq) neM := om_neS.or (om_neD hu)
/-! is None -/
def isNon : T → Bool
  | .non => true
  | _ => false
theorem isNon_of {t : T} {v : V} (r : Rep K C H as t v) : decide (v = .non) = isNon t := by
  cases t with
  | non => obtain rfl := r; rfl
  | bl _ => obtain rfl := r; rfl
  | int _ => obtain rfl := r; rfl
  | str _ => obtain rfl := r; rfl
  | ty _ => obtain rfl := r; rfl
  | cls _ => obtain rfl := r; rfl
  | tup _ => obtain ⟨_, _, rfl, _⟩ := r; rfl
  | lst _ => obtain ⟨_, _, rfl, _⟩ := r; rfl
  | ins _ _ => obtain ⟨_, _, _, rfl, _⟩ := r; rfl
  | hdl _ => obtain ⟨_, _, rfl⟩ := r; rfl
  | scr _ => obtain ⟨_, _, rfl, _⟩ := r; rfl
def isM (a b : T) : M T := match b with
  | .non => ret (.bl (isNon a))
  | _ => fail
def notM (a b : T) : M T := match b with
  | .non => ret (.bl (!isNon a))
  | _ => fail
theorem om_is : OpM X C (compareOp .Is) isM := by
  refine ⟨_, op_isN, fun W a b x y H as S Q hs ra rb h => ?_⟩
  cases b <;> first | exact False.elim h | skip
  obtain rfl := rb
  refine ⟨rfl, ?_⟩
  rw [isNon_of ra]
  exact wpv_ret (W := W) h hs rfl
theorem om_not : OpM X C (compareOp .IsNot) notM := by
  refine ⟨_, op_notN, fun W a b x y H as S Q hs ra rb h => ?_⟩
  cases b <;> first | exact False.elim h | skip
  obtain rfl := rb
  refine ⟨rfl, ?_⟩
  rw [isNon_of ra]
  exact wpv_ret (W := W) h hs rfl
/-! in, not in: flat items -/
def flatT : T → Option V
  | .non => some .non
  | .bl b => some (.bl b)
  | .int i => some (.int i)
  | .str s => some (.str s)
  | _ => none
def flatTs : List T → Option (List V)
  | [] => some []
  | t :: ts => (flatT t).bind fun v => (flatTs ts).map fun vs => v :: vs
theorem flat_of {t : T} {v w : V} (r : Rep K C H as t v) (e : flatT t = some w) : v = w ∧ flatV v = true := by
  cases t <;> first | cases e | skip
  all_goals (obtain rfl := r; exact ⟨rfl, rfl⟩)
theorem flats_of : ∀ {ts : List T} {vs ws : List V}, RepL K C H as ts vs → flatTs ts = some ws → vs = ws ∧ vs.all flatV = true
  | [], _, _, r, e => by cases e; rw [show _ = [] from r]; exact ⟨rfl, rfl⟩
  | t :: ts, _, _, ⟨v, xs, q, r, l⟩, e => by
    obtain ⟨d, h1, h2⟩ := Option.bind_eq_some_iff.mp e
    obtain ⟨ds, h3, h4⟩ := Option.map_eq_some_iff.mp h2
    obtain ⟨e1, f1⟩ := flat_of r h1
    obtain ⟨e2, f2⟩ := flats_of l h3
    subst h4; subst e1; subst e2
    rw [q]
    exact ⟨rfl, by rw [List.all_cons, f1, f2]; rfl⟩
def itemsT (S : Sto) : T → Option (List T)
  | .tup ts => some ts
  | .lst ts => some ts
  | .scr ts => some ts
  | .hdl i => match S[i]? with
    | some (.lst ts) => some ts
    | _ => none
  | _ => none
theorem items_of {t : T} {v : V} {ts : List T} (hs : StOk K C H as S) (r : Rep K C H as t v) (e : itemsT S t = some ts) : ∃ a vs, v = .ref a ∧ (SqL K H a vs ∨ SqT K H a vs) ∧ RepL K C H as ts vs := by
  cases t with
  | tup us => cases e; obtain ⟨a, vs, q, h, l⟩ := r; exact ⟨a, vs, q, .inr h.sq, l⟩
  | lst us => cases e; obtain ⟨a, vs, q, h, l⟩ := r; exact ⟨a, vs, q, .inl (SqL.of h.1), l⟩
  | scr us => cases e; obtain ⟨a, vs, q, h, l⟩ := r; exact ⟨a, vs, q, .inl h.sq, l⟩
  | hdl i =>
    obtain ⟨p, q, rfl⟩ := r
    obtain ⟨c, hc, ok⟩ := hs.at_ q
    unfold itemsT at e
    dsimp only at e
    rw [hc] at e
    cases c with
    | obj _ _ => cases e
    | lst us => cases e; obtain ⟨_, _, vs, h1, h2⟩ := ok; exact ⟨_, vs, rfl, .inl (SqL.of h1), h2⟩
  | _ => cases e
def inM (neg : Bool) (a b : T) : M T := fun S => match flatT a, (itemsT S b).bind flatTs with
  | some v, some vs => ret (.bl (if neg then !inV v vs else inV v vs)) S
  | _, _ => none
theorem in_core {neg : Bool} {W : XK} {a b : T} {x y : V} {Q : VK} (hs : StOk K C H as S) (ra : Rep K C H as a x) (rb : Rep K C H as b y) (h : WpV K C W (inM neg a b S) as H Q) : rIn K neg x y H Q := by
  unfold inM at h
  match e1 : flatT a, e2 : (itemsT S b).bind flatTs with
  | none, _ => rw [e1] at h; exact h.elim
  | some d, none => rw [e1, e2] at h; exact h.elim
  | some d, some e =>
    rw [e1, e2] at h
    obtain ⟨ts, h1, h2⟩ := Option.bind_eq_some_iff.mp e2
    obtain ⟨p, vs, rfl, sq, l⟩ := items_of hs rb h1
    obtain ⟨z1, z2⟩ := flat_of ra e1
    obtain ⟨z3, z4⟩ := flats_of l h2
    subst z1; subst z3
    exact ⟨p, vs, rfl, sq, z2, z4, h _ _ _ (Evo.refl _ _) hs rfl⟩
theorem om_in : OpM X C (compareOp .In) (inM false) := ⟨_, op_in_seq, fun W a b x y H as S Q hs ra rb h => in_core hs ra rb h⟩
theorem om_notIn : OpM X C (compareOp .NotIn) (inM true) := ⟨_, op_notIn_seq, fun W a b x y H as S Q hs ra rb h => in_core hs ra rb h⟩

/-! ### calls of built-ins -/
def tyOf : T → Option BT
  | .non => some .non
  | .bl _ => some .bool
  | .int _ => some .int
  | .str _ => some .str
  | .tup _ => some .tuple
  | .lst _ => some .list
  | .scr _ => some .list
  | _ => none
theorem tyx_of {t : T} {v : V} {n : BT} (r : Rep K C H as t v) (e : tyOf t = some n) : TyX K H v (.type n.name) := by
  cases t <;> first | cases e | skip
  · obtain rfl := r; exact .base .non
  · obtain rfl := r; exact .base (.bl _)
  · obtain rfl := r; exact .base (.int _)
  · obtain rfl := r; exact .base (.str _)
  · obtain ⟨a, vs, rfl, h | h, _⟩ := r
    · exact .base (.tup h.1)
    · obtain ⟨o, its, m, h1, h2, _⟩ := h
      exact .kTuple h1 h2
  · obtain ⟨a, vs, rfl, h, _⟩ := r; exact .base (.lst h.1)
  · obtain ⟨a, vs, rfl, h | ⟨o, h⟩ | h, _⟩ := r
    · exact .base (.lst h.1)
    · exact .base (.frz h.1)
    · obtain ⟨o, its, m, h1, h2, _⟩ := h
      exact .kList h1 h2
def kitT (a b : BT) : Bool := decide (a = b) || (decide (a = .bool) && decide (b = .int))
theorem kit_known (a b : BT) : kitB a.name b.name = some (kitT a b) := by
  cases a <;> cases b <;> decide +kernel
def isiM : List T → M T
  | [t, .ty b] => match tyOf t with
    | some a => ret (.bl (kitT a b))
    | none => fail
  | _ => fail
theorem cm_isi : CallM X C (.builtin "isinstance") isiM := by
  refine ⟨_, call_isi, fun W ts vs H as S Q hs r h => ?_⟩
  unfold isiM at h
  split at h
  · rename_i t b
    obtain ⟨v, _, e1, r1, w, _, e2, r2, e3⟩ := r
    cases e3; subst e2; subst e1
    obtain rfl := r2
    match e : tyOf t with
    | none => rw [e] at h; exact h.elim
    | some a =>
      rw [e] at h
      exact ⟨v, _, _, _, _, rfl, .ty b.name, tyx_of r1 e, kit_ty (kit_known a b), wpv_ret h hs rfl⟩
  · exact h.elim
def absM : List T → M T
  | [.int i] => ret (.int (if i < 0 then -i else i))
  | _ => fail
def intM : List T → M T
  | [.int i] => ret (.int i)
  | [.bl b] => ret (.int (if b then 1 else 0))
  | _ => fail
def boolM : List T → M T
  | [.int i] => ret (.bl (i != 0))
  | [.bl b] => ret (.bl b)
  | _ => fail
def maxM : List T → M T
  | [.int i, .int j] => ret (.int (if j > i then j else i))
  | _ => fail
def minM : List T → M T
  | [.int i, .int j] => ret (.int (if j < i then j else i))
  | _ => fail
def strM : List T → M T
  | [.int i] => if i.natAbs.log2 < 1920 then ret (.str (toString i)) else fail
  | _ => fail
def lenM : List T → M T
  | [.str s] => if s.length ≤ big then ret (.int (s.length : Nat)) else fail
  | [t] => fun S => match itemsT S t with
    | some ts => ret (.int (ts.length : Nat)) S
    | none => none
  | _ => fail
theorem cm_abs : CallM X C (.builtin "abs") absM := by
  refine ⟨_, call_abs, fun W ts vs H as S Q hs r h => ?_⟩
  unfold absM at h
  split at h
  · obtain ⟨v, _, e1, r1, e2⟩ := r
    cases e2; subst e1; obtain rfl := r1
    exact ⟨_, rfl, wpv_ret h hs rfl⟩
  · exact h.elim
theorem cm_int : CallM X C (.type "int") intM := by
  refine ⟨_, call_int1, fun W ts vs H as S Q hs r h => ?_⟩
  unfold intM at h
  split at h
  · obtain ⟨v, _, e1, r1, e2⟩ := r
    cases e2; subst e1; obtain rfl := r1
    exact .inl ⟨_, rfl, wpv_ret h hs rfl⟩
  · obtain ⟨v, _, e1, r1, e2⟩ := r
    cases e2; subst e1; obtain rfl := r1
    exact .inr ⟨_, rfl, wpv_ret h hs rfl⟩
  · exact h.elim
theorem cm_bool : CallM X C (.type "bool") boolM := by
  refine ⟨_, call_bool1, fun W ts vs H as S Q hs r h => ?_⟩
  unfold boolM at h
  split at h
  · obtain ⟨v, _, e1, r1, e2⟩ := r
    cases e2; subst e1; obtain rfl := r1
    exact .inl ⟨_, rfl, wpv_ret h hs rfl⟩
  · obtain ⟨v, _, e1, r1, e2⟩ := r
    cases e2; subst e1; obtain rfl := r1
    exact .inr ⟨_, rfl, wpv_ret h hs rfl⟩
  · exact h.elim
theorem cm_str : CallM X C (.type "str") strM := by
  refine ⟨_, call_str_int, fun W ts vs H as S Q hs r h => ?_⟩
  unfold strM at h
  split at h
  · obtain ⟨v, _, e1, r1, e2⟩ := r
    cases e2; subst e1; obtain rfl := r1
    split at h
    · rename_i hb; exact ⟨_, rfl, hb, wpv_ret h hs rfl⟩
    · exact h.elim
  · exact h.elim
theorem cm_max (hc : X.calm = true) : CallM X C (.builtin "max") maxM := by
  refine ⟨_, call_max2 hc, fun W ts vs H as S Q hs r h => ?_⟩
  unfold maxM at h
  split at h
  · obtain ⟨v, _, e1, r1, w, _, e2, r2, e3⟩ := r
    cases e3; subst e2; subst e1; obtain rfl := r1; obtain rfl := r2
    exact ⟨_, _, rfl, wpv_ret h hs rfl⟩
  · exact h.elim
theorem cm_min (hc : X.calm = true) : CallM X C (.builtin "min") minM := by
  refine ⟨_, call_min2 hc, fun W ts vs H as S Q hs r h => ?_⟩
  unfold minM at h
  split at h
  · obtain ⟨v, _, e1, r1, w, _, e2, r2, e3⟩ := r
    cases e3; subst e2; subst e1; obtain rfl := r1; obtain rfl := r2
    exact ⟨_, _, rfl, wpv_ret h hs rfl⟩
  · exact h.elim
theorem cm_len : CallM X C (.builtin "len") lenM := by
  refine ⟨_, call_len_str.or call_len_seq, fun W ts vs H as S Q hs r h => ?_⟩
  unfold lenM at h
  split at h
  · obtain ⟨v, _, e1, r1, e2⟩ := r
    cases e2; subst e1; obtain rfl := r1
    split at h
    · rename_i hb; exact .inl ⟨_, rfl, big_le hb, wpv_ret h hs rfl⟩
    · exact h.elim
  · rename_i t _
    obtain ⟨v, _, e1, r1, e2⟩ := r
    cases e2; subst e1
    dsimp only at h
    match e3 : itemsT S t with
    | none => rw [e3] at h; exact h.elim
    | some us =>
      rw [e3] at h
      obtain ⟨p, vs, rfl, sq, l⟩ := items_of hs r1 e3
      exact .inr ⟨p, vs, rfl, sq, by rw [l.len]; exact wpv_ret (W := W) h hs rfl⟩
  · exact h.elim
end
end Zm
set_option Elab.async false
set_option linter.all false
set_option maxRecDepth 100000
set_option maxHeartbeats 4000000
/-! ZStm: subscripts, calls, statements, loops, defs: their mirrors. -/
namespace Zm
open PySem L2
section
variable {X : Cx} {C : Nat → Addr} {W : XK} {K : PySem.W.Frag} {H : Hp} {as : As} {S : Sto}
/-! ### o[i] -/
def ixM (a b : T) : M T := fun S => match b with
  | .int i => match a with
    | .str z => if z.length ≤ big then (match atI z.cps.toList i with | some c => ret (.str ⟨#[c]⟩) S | none => none) else none
    | _ => match itemsT S a with
      | some ts => match atI ts i with
        | some t => ret t S
        | none => none
      | none => none
  | _ => none
theorem atI_rep {ts : List T} {vs : List V} {i : Int} {t : T} (r : RepL K C H as ts vs) (h : atI ts i = some t) : ∃ v, atI vs i = some v ∧ Rep K C H as t v := by
  unfold atI at h ⊢
  obtain ⟨j, h1, h2⟩ := Option.bind_eq_some_iff.mp h
  obtain ⟨v, h3, h4⟩ := RepL.get r h2
  exact ⟨v, Option.bind_eq_some_iff.mpr ⟨j, by rw [r.len]; exact h1, h3⟩, h4⟩
theorem ix_core {a b : T} {x y : V} {Q : VK} (hs : StOk K C H as S) (ra : Rep K C H as a x) (rb : Rep K C H as b y) (h : WpV K C W (ixM a b S) as H Q) : rIx K x y H Q := by
  cases b <;> first | exact False.elim h | skip
  rename_i i
  obtain rfl := rb
  have seq : ∀ ts t, itemsT S a = some ts → atI ts i = some t → WpV K C W (ret t S) as H Q → rIx K x (.int i) H Q := fun ts t e1 e2 h => by
    obtain ⟨p, vs, rfl, sq, l⟩ := items_of hs ra e1
    obtain ⟨v, e3, r⟩ := atI_rep l e2
    have q : Q v H := h v H as (Evo.refl _ _) hs r
    rcases sq with sq | sq
    · exact .inl ⟨p, vs, i, v, rfl, rfl, sq, e3, q⟩
    · exact .inr (.inl ⟨p, vs, i, v, rfl, rfl, sq, e3, q⟩)
  have gen : (match itemsT S a with
      | some ts => match atI ts i with
        | some t => ret t S
        | none => none
      | none => none : Option (Rs T × Sto)) = ixM a (.int i) S → rIx K x (.int i) H Q := fun e => by
    rw [← e] at h
    match e1 : itemsT S a with
    | none => rw [e1] at h; exact h.elim
    | some ts =>
      rw [e1] at h
      dsimp only at h
      match e2 : atI ts i with
      | none => rw [e2] at h; exact h.elim
      | some t => rw [e2] at h; exact seq ts t e1 e2 h
  cases a with
  | str z =>
    obtain rfl := ra
    unfold ixM at h
    dsimp only at h
    split at h
    · rename_i hb
      match e : atI z.cps.toList i with
      | none => rw [e] at h; exact h.elim
      | some c => rw [e] at h; exact .inr (.inr ⟨z, i, c, rfl, rfl, big_le hb, e, h _ H as (Evo.refl _ _) hs rfl⟩)
    · exact h.elim
  | _ => exact gen rfl
theorem em_ix {a b : Expr} {ma mb : EM} {pos : Pos} (ha : EOk X C W a ma) (hb : EOk X C W b mb) (hs : PlainIx b := by exact fun _ _ => rfl) : EOk X C W (.Subscript a b pos) (eOp ixM ma mb) := by
  obtain ⟨ta, h1, k1⟩ := ha
  obtain ⟨tb, h2, k2⟩ := hb
  exact ⟨_, pe_ix ix_seq h1 h2 hs, op_core (e1 := a) (e2 := b) k1 k2 fun W a b x y H as S Q hs ra rb h => ix_core hs ra rb h⟩
/-! xs[::-1] of a list -/
def revM (a : T) : M T := fun S => match a with
  | .tup _ => none
  | .scr _ => none
  | _ => match itemsT S a with
    | some ts => ret (.lst ts.reverse) S
    | none => none
theorem listL_of {t : T} {v : V} {ts : List T} (hs : StOk K C H as S) (r : Rep K C H as t v) (e : itemsT S t = some ts) (n1 : ∀ us, t ≠ .tup us) : ∃ a vs, v = .ref a ∧ SqL K H a vs ∧ RepL K C H as ts vs := by
  cases t with
  | tup us => exact absurd rfl (n1 us)
  | lst us => cases e; obtain ⟨a, vs, q, h, l⟩ := r; exact ⟨a, vs, q, SqL.of h.1, l⟩
  | scr us => cases e; obtain ⟨a, vs, q, h, l⟩ := r; exact ⟨a, vs, q, h.sq, l⟩
  | hdl i =>
    obtain ⟨p, q, rfl⟩ := r
    obtain ⟨c, hc, ok⟩ := hs.at_ q
    unfold itemsT at e
    dsimp only at e
    rw [hc] at e
    cases c with
    | obj _ _ => cases e
    | lst us => cases e; obtain ⟨_, _, vs, h1, h2⟩ := ok; exact ⟨_, vs, rfl, SqL.of h1, h2⟩
  | _ => cases e
theorem em_rev {e : Expr} {m : EM} {k : Nat} {p1 p2 p3 pos : Pos} (he : EOk X C W e m) : EOk X C W (.Subscript e (.Slice none none (some (.UnaryOp .USub (.Constant (.int 1) k p1) p2)) p3) pos) (eUn revM m) := by
  obtain ⟨t, h1, k1⟩ := he
  refine ⟨_, pe_revL h1, fun σ τ H as S Q he hs h => ?_⟩
  refine k1 σ τ H as S _ he hs ((wpv_bind h).imp fun x H1 ⟨a, as1, S1, s1, r1, e1, h1⟩ => ?_)
  have gen : (match itemsT S1 a with
      | some ts => ret (.lst ts.reverse) S1
      | none => none : Option (Rs T × Sto)) = revM a S1 → (∀ us, a ≠ .tup us) → ∃ q xs, x = .ref q ∧ SqL X.K H1 q xs ∧ ∀ p, H1 p = none → Q (.ref p) (upd H1 p (.lst xs.reverse)) := fun e n1 => by
    rw [← e] at h1
    match e1 : itemsT S1 a with
    | none => rw [e1] at h1; exact h1.elim
    | some ts =>
      rw [e1] at h1
      obtain ⟨q, vs, rfl, sq, l⟩ := listL_of s1 r1 e1 n1
      exact ⟨q, vs, rfl, sq, fun p hp => h1 _ _ as1 (Evo.new hp) (s1.new hp) (Rep.newLst s1 hp (RepL.rev l))⟩
  cases a with
  | tup _ => exact h1.elim
  | scr _ => exact h1.elim
  | _ => exact gen rfl (fun _ z => nomatch z)

/-! ### calls -/
def eCall (g : List T → M T) (r : Ev → M (List T)) : EM := fun τ => bind (r τ) g
theorem call_core {g : List T → M T} {r : Ev → M (List T)} {t : TA} {rd : List V → Hp → VK → Prop} (k2 : ∀ σ τ H as S Q, EnvOk X.K C H as τ σ → StOk X.K C H as S → WpA X.K C W (r τ S) as H Q → t σ H Q)
    (k : ∀ ts vs H as S Q, StOk X.K C H as S → RepL X.K C H as ts vs → WpV X.K C W (g ts S) as H Q → rd vs H Q) :
    ∀ σ τ H as S Q, EnvOk X.K C H as τ σ → StOk X.K C H as S → WpV X.K C W (eCall g r τ S) as H Q → t σ H fun vs H1 => rd vs H1 Q := fun σ τ H as S Q he hs h =>
  k2 σ τ H as S _ he hs ((wpva_bind h).imp fun vs H1 ⟨ts, as1, S1, s1, r1, e1, h2⟩ => k ts vs H1 as1 S1 Q s1 r1 h2)
theorem em_callB {x : Str} {id : String} {p pos : Pos} {e : Expr} {es : List Expr} {g : List T → M T} {r : Ev → M (List T)} (hc : CallM X C (.builtin id) g) (ha : AOk X C W (e :: es) r) (hm : X.mg x = none) (hv : bootBuiltins x = some (.builtin id)) (hg : Gl X x := by rfl)
    (hn : x ≠ "__name__" := by decide) (hdb : (x == ("__debug__" : Str)) = false := by decide)
    (he : starEach (e :: es) X.env = (false, eval e X.env) :: starEach es X.env := by rfl) (hpl : (backTo pos (starEach es X.env)).any (·.1) = false := by rfl) : EOk X C W (.Call (.Name x p) (e :: es) [] pos) (eCall g r) := by
  obtain ⟨t, h1, k1⟩ := ha
  obtain ⟨rd, hr, k⟩ := hc
  exact ⟨_, pe_callB hr hg hm hv h1 hn hdb he hpl, call_core k1 (k W)⟩
theorem em_callT {x : Str} {id : String} {p pos : Pos} {e : Expr} {es : List Expr} {g : List T → M T} {r : Ev → M (List T)} (hc : CallM X C (.type id) g) (ha : AOk X C W (e :: es) r) (hm : X.mg x = none) (hv : bootBuiltins x = some (.type id)) (hg : Gl X x := by rfl)
    (hn : x ≠ "__name__" := by decide) (hdb : (x == ("__debug__" : Str)) = false := by decide)
    (he : starEach (e :: es) X.env = (false, eval e X.env) :: starEach es X.env := by rfl) (hpl : (backTo pos (starEach es X.env)).any (·.1) = false := by rfl) : EOk X C W (.Call (.Name x p) (e :: es) [] pos) (eCall g r) := by
  obtain ⟨t, h1, k1⟩ := ha
  obtain ⟨rd, hr, k⟩ := hc
  exact ⟨_, pe_callTy hr hg hm hv h1 hn hdb he hpl, call_core k1 (k W)⟩
theorem em_ty {x : Str} {b : BT} {pos : Pos} (hm : X.mg x = none) (hv : bootBuiltins x = some (.type b.name)) (hg : Gl X x := by rfl) (hn : x ≠ "__name__" := by decide) (hd : (x == ("__debug__" : Str)) = false := by decide) : EOk X C W (.Name x pos) (eC (.ty b)) :=
  ⟨_, pe_bltn (v := .ty b.name) hg hm hv rfl hn hd, fun σ τ H as S Q he hs h => wpv_ret h hs rfl⟩
/-- what a def of the text promises: its mirror -/
def spM (K : PySem.W.Frag) (C : Nat → Addr) (n : Nat) (g : List T → M T) : Sp := fun vs H Q E => vs.length = n ∧ ∃ ts as S, StOk K C H as S ∧ RepL K C H as ts vs ∧ WpV K C E (g ts S) as H Q
theorem spM_of {n : Nat} {g : List T → M T} {ts : List T} {vs : List V} {Q : VK} (hl : ts.length = n) (hs : StOk K C H as S) (r : RepL K C H as ts vs) (h : WpV K C W (g ts S) as H Q) : spM K C n g vs H Q W :=
  ⟨by rw [r.len]; exact hl, ts, as, S, hs, r, h⟩
/-- only with so many arguments -/
def ar (n : Nat) (g : List T → M T) : List T → M T := fun ts => if ts.length = n then g ts else fail
/-- a def of the text as it is called by its name -/
structure DefOk (X : Cx) (C : Nat → Addr) (W : XK) (x : Str) (n : Nat) (g : List T → M T) : Prop where
  ok : ∃ (CX : CXT) (k : Nat) (f : Addr) (fd : FuncData) (ps : List Str), FnOk X.prog X.w X.K X.mg X.base CX k f fd ps (spM X.K C n g) ∧ Room k X.A ∧ X.mg x = some (.ref f) ∧ PySem.W.keepIn X.K (.ref f) = true ∧ Binds X.K fd ps [] ∧ Passes CX X W
theorem em_call {x : Str} {n : Nat} {p pos : Pos} {e : Expr} {es : List Expr} {g : List T → M T} {r : Ev → M (List T)} (F : DefOk X C W x n g) (ha : AOk X C W (e :: es) r) (hg : Gl X x := by rfl) (hdb : (x == ("__debug__" : Str)) = false := by decide)
    (he : starEach (e :: es) X.env = (false, eval e X.env) :: starEach es X.env := by rfl) (hpl : (backTo pos (starEach es X.env)).any (·.1) = false := by rfl) : EOk X C W (.Call (.Name x p) (e :: es) [] pos) (eCall (ar n g) r) := by
  obtain ⟨CX, k, f, fd, ps, F, hr, hm, hk, hb, hx⟩ := F.ok
  obtain ⟨t, h1, k1⟩ := ha
  refine ⟨_, pe_call F hr hg hm hk hb .nil hx h1 hdb he hpl, call_core k1 fun ts vs H as S Q hs r h => ?_⟩
  unfold ar at h
  split at h
  · rename_i hl
    rw [List.append_nil]
    exact spM_of hl hs r h
  · exact h.elim
theorem em_call0 {x : Str} {p pos : Pos} {g : List T → M T} (F : DefOk X C W x 0 g) (hg : Gl X x := by rfl) (hdb : (x == ("__debug__" : Str)) = false := by decide) : EOk X C W (.Call (.Name x p) [] [] pos) (eCall (ar 0 g) aNil) := by
  obtain ⟨CX, k, f, fd, ps, F, hr, hm, hk, hb, hx⟩ := F.ok
  refine ⟨_, pe_call0 F hr hg hm hk hb .nil hx hdb, call_core (t := tNil) (rd := fun vs H Q => spM X.K C 0 g (vs ++ []) H Q W) (fun σ τ H as S Q he hs h => h [] H as (Evo.refl _ _) hs rfl) fun ts vs H as S Q hs r h => ?_⟩
  unfold ar at h
  split at h
  · rename_i hl
    rw [List.append_nil]
    exact spM_of hl hs r h
  · exact h.elim
end
/-! ### statements -/
inductive SR where
  | nx (τ : Ev) | bk (τ : Ev) | ct (τ : Ev) | rt (t : T)
abbrev SM := Ev → M SR
abbrev GM := T → Ev → M Ev
section
variable (K : PySem.W.Frag) (C : Nat → Addr) (W : XK)
def WpS (R : Option (Rs SR × Sto)) (as : As) (H : Hp) (D : Ends) : Prop := match R with
  | none => False
  | some (.ok (.nx τ), S) => ∀ σ' H' as', Evo H as H' as' → StOk K C H' as' S → EnvOk K C H' as' τ σ' → D.nx σ' H'
  | some (.ok (.bk τ), S) => ∀ σ' H' as', Evo H as H' as' → StOk K C H' as' S → EnvOk K C H' as' τ σ' → D.bk σ' H'
  | some (.ok (.ct τ), S) => ∀ σ' H' as', Evo H as H' as' → StOk K C H' as' S → EnvOk K C H' as' τ σ' → D.ct σ' H'
  | some (.ok (.rt t), S) => ∀ v H' as', Evo H as H' as' → StOk K C H' as' S → Rep K C H' as' t v → D.rt v H'
  | some (.er x, S) => WpX K C W S x as H
def WpE (R : Option (Rs Ev × Sto)) (as : As) (H : Hp) (Q : L2.St → Hp → Prop) : Prop := match R with
  | none => False
  | some (.ok τ, S) => ∀ σ' H' as', Evo H as H' as' → StOk K C H' as' S → EnvOk K C H' as' τ σ' → Q σ' H'
  | some (.er x, S) => WpX K C W S x as H
/-- an iterator yields these -/
def Yld (J : It) (H : Hp) (as : As) (ts : List T) : Prop := ∀ H2 as2, Evo H as H2 as2 → J.stop ts.length H2 ∧
  ∀ (i : Nat) (t : T), ts[i]? = some t → J.go i H2 ∧ ∀ x H3, J.yld i H2 x H3 → Evo H2 as2 H3 as2 ∧ (∀ S, StOk K C H2 as2 S → StOk K C H3 as2 S) ∧ Rep K C H3 as2 t x
def WpI (R : Option (Rs (List T) × Sto)) (as : As) (H : Hp) (Q : It → Hp → Prop) : Prop := match R with
  | none => False
  | some (.ok ts, S) => ∀ J H' as', Evo H as H' as' → StOk K C H' as' S → Yld K C J H' as' ts → Q J H'
  | some (.er x, S) => WpX K C W S x as H
end
def SOk (X : Cx) (C : Nat → Addr) (W : XK) (st : Stmt) (m : SM) : Prop := ∃ t, PS X st t ∧ ∀ σ τ H as S D, EnvOk X.K C H as τ σ → StOk X.K C H as S → WpS X.K C W (m τ S) as H D → t D σ H
def SsOk (X : Cx) (C : Nat → Addr) (W : XK) (st : List Stmt) (m : SM) : Prop := ∃ t, PSs X st t ∧ ∀ σ τ H as S D, EnvOk X.K C H as τ σ → StOk X.K C H as S → WpS X.K C W (m τ S) as H D → t D σ H
def GOk (X : Cx) (C : Nat → Addr) (W : XK) (tg : Expr) (g : GM) : Prop := ∃ t, PG X tg t ∧ ∀ a v σ τ H as S Q, EnvOk X.K C H as τ σ → StOk X.K C H as S → Rep X.K C H as a v → WpE X.K C W (g a τ S) as H Q → t v σ H Q
def GsOk (X : Cx) (C : Nat → Addr) (W : XK) (tg : List Expr) (g : List T → Ev → M Ev) : Prop := ∃ t, PGs X tg t ∧ ∀ a v σ τ H as S Q, EnvOk X.K C H as τ σ → StOk X.K C H as S → RepL X.K C H as a v → WpE X.K C W (g a τ S) as H Q → t v σ H Q
def IOk (X : Cx) (C : Nat → Addr) (W : XK) (tg iter : Expr) (m : Ev → M (List T)) : Prop := ∃ w, PI X tg iter w ∧ ∀ σ τ H as S R, EnvOk X.K C H as τ σ → StOk X.K C H as S → WpI X.K C W (m τ S) as H R → w σ H R
section
variable {X : Cx} {C : Nat → Addr} {W : XK} {K : PySem.W.Frag} {H H' : Hp} {as as' : As} {S : Sto}
theorem WpS.mono {R : Option (Rs SR × Sto)} {D : Ends} (e : Evo H as H' as') (h : WpS K C W R as H D) : WpS K C W R as' H' D := by
  match R with
  | none => exact h
  | some (.ok (.nx τ), S) => exact fun v H2 as2 e2 => h v H2 as2 (e.trans e2)
  | some (.ok (.bk τ), S) => exact fun v H2 as2 e2 => h v H2 as2 (e.trans e2)
  | some (.ok (.ct τ), S) => exact fun v H2 as2 e2 => h v H2 as2 (e.trans e2)
  | some (.ok (.rt τ), S) => exact fun v H2 as2 e2 => h v H2 as2 (e.trans e2)
  | some (.er x, S) => exact WpX.mono e h
theorem WpS.imp {R : Option (Rs SR × Sto)} {D D' : Ends} (h : WpS K C W R as H D) (h1 : ∀ σ H, D.nx σ H → D'.nx σ H) (h2 : ∀ v H, D.rt v H → D'.rt v H) (h3 : ∀ σ H, D.bk σ H → D'.bk σ H) (h4 : ∀ σ H, D.ct σ H → D'.ct σ H) : WpS K C W R as H D' := by
  match R with
  | none => exact h
  | some (.ok (.nx τ), S) => exact fun v H2 as2 e2 s r => h1 _ _ (h v H2 as2 e2 s r)
  | some (.ok (.bk τ), S) => exact fun v H2 as2 e2 s r => h3 _ _ (h v H2 as2 e2 s r)
  | some (.ok (.ct τ), S) => exact fun v H2 as2 e2 s r => h4 _ _ (h v H2 as2 e2 s r)
  | some (.ok (.rt τ), S) => exact fun v H2 as2 e2 s r => h2 _ _ (h v H2 as2 e2 s r)
  | some (.er x, S) => exact h
theorem WpE.mono {R : Option (Rs Ev × Sto)} {Q : L2.St → Hp → Prop} (e : Evo H as H' as') (h : WpE K C W R as H Q) : WpE K C W R as' H' Q := by
  match R with
  | none => exact h
  | some (.ok τ, S) => exact fun v H2 as2 e2 => h v H2 as2 (e.trans e2)
  | some (.er x, S) => exact WpX.mono e h
theorem WpE.imp {R : Option (Rs Ev × Sto)} {Q Q' : L2.St → Hp → Prop} (h : WpE K C W R as H Q) (k : ∀ σ H, Q σ H → Q' σ H) : WpE K C W R as H Q' := by
  match R with
  | none => exact h
  | some (.ok τ, S) => exact fun v H2 as2 e2 s r => k _ _ (h v H2 as2 e2 s r)
  | some (.er x, S) => exact h
/-- what a statement leads to, and how it goes on -/
def brS (n : SR → M SR) (m : M SR) : M SR := bind m n
theorem wpsv_bind {m : M T} {f : T → M SR} {D : Ends} (h : WpS K C W (bind m f S) as H D) :
    WpV K C W (m S) as H (fun v H' => ∃ t as' S', StOk K C H' as' S' ∧ Rep K C H' as' t v ∧ Evo H as H' as' ∧ WpS K C W (f t S') as' H' D) := by
  unfold bind at h
  match hm : m S with
  | none => rw [hm] at h; exact h
  | some (.ok t, S1) => rw [hm] at h; exact fun v H' as' e s r => ⟨t, as', S1, s, r, e, h.mono e⟩
  | some (.er x, S1) => rw [hm] at h; exact h
theorem wpsb_bind {m : M Bool} {f : Bool → M SR} {D : Ends} (h : WpS K C W (bind m f S) as H D) :
    WpB K C W (m S) as H (fun b H' => ∃ as' S', StOk K C H' as' S' ∧ Evo H as H' as' ∧ WpS K C W (f b S') as' H' D) := by
  unfold bind at h
  match hm : m S with
  | none => rw [hm] at h; exact h
  | some (.ok t, S1) => rw [hm] at h; exact fun H' as' e s => ⟨as', S1, s, e, h.mono e⟩
  | some (.er x, S1) => rw [hm] at h; exact h
theorem wpse_bind {m : M Ev} {f : Ev → M SR} {D : Ends} (h : WpS K C W (bind m f S) as H D) :
    WpE K C W (m S) as H (fun σ' H' => ∃ τ' as' S', StOk K C H' as' S' ∧ EnvOk K C H' as' τ' σ' ∧ Evo H as H' as' ∧ WpS K C W (f τ' S') as' H' D) := by
  unfold bind at h
  match hm : m S with
  | none => rw [hm] at h; exact h
  | some (.ok t, S1) => rw [hm] at h; exact fun σ' H' as' e s r => ⟨t, as', S1, s, r, e, h.mono e⟩
  | some (.er x, S1) => rw [hm] at h; exact h
theorem wpsa_bind {m : M (List T)} {f : List T → M SR} {D : Ends} (h : WpS K C W (bind m f S) as H D) :
    WpA K C W (m S) as H (fun v H' => ∃ t as' S', StOk K C H' as' S' ∧ RepL K C H' as' t v ∧ Evo H as H' as' ∧ WpS K C W (f t S') as' H' D) := by
  unfold bind at h
  match hm : m S with
  | none => rw [hm] at h; exact h
  | some (.ok t, S1) => rw [hm] at h; exact fun v H' as' e s r => ⟨t, as', S1, s, r, e, h.mono e⟩
  | some (.er x, S1) => rw [hm] at h; exact h
theorem wpsi_bind {m : M (List T)} {f : List T → M SR} {D : Ends} (h : WpS K C W (bind m f S) as H D) :
    WpI K C W (m S) as H (fun J H' => ∃ t as' S', StOk K C H' as' S' ∧ Yld K C J H' as' t ∧ Evo H as H' as' ∧ WpS K C W (f t S') as' H' D) := by
  unfold bind at h
  match hm : m S with
  | none => rw [hm] at h; exact h
  | some (.ok t, S1) => rw [hm] at h; exact fun v H' as' e s r => ⟨t, as', S1, s, r, e, h.mono e⟩
  | some (.er x, S1) => rw [hm] at h; exact h
theorem WpI.imp {R : Option (Rs (List T) × Sto)} {Q Q' : It → Hp → Prop} (h : WpI K C W R as H Q) (k : ∀ J H, Q J H → Q' J H) : WpI K C W R as H Q' := by
  match R with
  | none => exact h
  | some (.ok τ, S) => exact fun v H2 as2 e2 s r => k _ _ (h v H2 as2 e2 s r)
  | some (.er x, S) => exact h
/-- what a statement does, then the wish of each way -/
theorem wpss_bind {m : M SR} {f : SR → M SR} {D : Ends} (h : WpS K C W (bind m f S) as H D) :
    WpS K C W (m S) as H ⟨fun σ' H' => ∃ τ' as' S', StOk K C H' as' S' ∧ EnvOk K C H' as' τ' σ' ∧ Evo H as H' as' ∧ WpS K C W (f (.nx τ') S') as' H' D,
      fun v H' => ∃ t as' S', StOk K C H' as' S' ∧ Rep K C H' as' t v ∧ Evo H as H' as' ∧ WpS K C W (f (.rt t) S') as' H' D,
      fun σ' H' => ∃ τ' as' S', StOk K C H' as' S' ∧ EnvOk K C H' as' τ' σ' ∧ Evo H as H' as' ∧ WpS K C W (f (.bk τ') S') as' H' D,
      fun σ' H' => ∃ τ' as' S', StOk K C H' as' S' ∧ EnvOk K C H' as' τ' σ' ∧ Evo H as H' as' ∧ WpS K C W (f (.ct τ') S') as' H' D⟩ := by
  unfold bind at h
  match hm : m S with
  | none => rw [hm] at h; exact h
  | some (.ok (.nx τ), S1) => rw [hm] at h; exact fun σ' H' as' e s r => ⟨τ, as', S1, s, r, e, h.mono e⟩
  | some (.ok (.bk τ), S1) => rw [hm] at h; exact fun σ' H' as' e s r => ⟨τ, as', S1, s, r, e, h.mono e⟩
  | some (.ok (.ct τ), S1) => rw [hm] at h; exact fun σ' H' as' e s r => ⟨τ, as', S1, s, r, e, h.mono e⟩
  | some (.ok (.rt t), S1) => rw [hm] at h; exact fun v H' as' e s r => ⟨t, as', S1, s, r, e, h.mono e⟩
  | some (.er x, S1) => rw [hm] at h; exact h

def sSkip : SM := fun τ => ret (.nx τ)
def sSeq (m n : SM) : SM := fun τ => bind (m τ) fun r => match r with
  | .nx τ' => n τ'
  | .bk τ' => ret (.bk τ')
  | .ct τ' => ret (.ct τ')
  | .rt t => ret (.rt t)
theorem ss_nil : SsOk X C W [] sSkip := ⟨_, pss_nil, fun σ τ H as S D he hs h => h σ H as (Evo.refl _ _) hs he⟩
theorem ss_one {st : Stmt} {m : SM} (h : SOk X C W st m) : SsOk X C W [st] m := by
  obtain ⟨t, h1, k1⟩ := h
  exact ⟨_, pss_one h1, k1⟩
theorem ss_cons {st : Stmt} {rest : List Stmt} {m n : SM} (h : SOk X C W st m) (g : SsOk X C W rest n) : SsOk X C W (st :: rest) (sSeq m n) := by
  obtain ⟨t, h1, k1⟩ := h
  obtain ⟨u, h2, k2⟩ := g
  refine ⟨_, pss_cons h1 h2, fun σ τ H as S D he hs h => ?_⟩
  refine k1 σ τ H as S _ he hs ((wpss_bind h).imp (fun σ' H' ⟨τ', as', S', s, r, e, q⟩ => ?_) (fun v H' ⟨t', as', S', s, r, e, q⟩ => ?_) (fun σ' H' ⟨τ', as', S', s, r, e, q⟩ => ?_) (fun σ' H' ⟨τ', as', S', s, r, e, q⟩ => ?_))
  · exact k2 σ' τ' H' as' S' D r s q
  · exact q v H' as' (Evo.refl _ _) s r
  · exact q σ' H' as' (Evo.refl _ _) s r
  · exact q σ' H' as' (Evo.refl _ _) s r
def sBk : SM := fun τ => ret (.bk τ)
def sCt : SM := fun τ => ret (.ct τ)
theorem sm_pass {pos : Pos} : SOk X C W (.Pass pos) sSkip := ⟨_, ps_pass, fun σ τ H as S D he hs h => h σ H as (Evo.refl _ _) hs he⟩
theorem sm_break {pos : Pos} : SOk X C W (.Break pos) sBk := ⟨_, ps_break, fun σ τ H as S D he hs h => h σ H as (Evo.refl _ _) hs he⟩
theorem sm_cont {pos : Pos} : SOk X C W (.Continue pos) sCt := ⟨_, ps_continue, fun σ τ H as S D he hs h => h σ H as (Evo.refl _ _) hs he⟩
/-- code that the proof never comes to -/
def sNo : SM := fun _ => fail
theorem sm_no {st : Stmt} : SOk X C W st sNo := ⟨_, ps_never, fun σ τ H as S D he hs h => h⟩
theorem em_no {e : Expr} : EOk X C W e (fun _ => fail) := ⟨fun _ _ _ => False, ⟨fun _ _ _ _ _ _ h => h.elim⟩, fun σ τ H as S Q he hs h => h⟩
def sEx (m : EM) : SM := fun τ => bind (m τ) fun _ => ret (.nx τ)
theorem sm_expr {e : Expr} {m : EM} {pos : Pos} (h : EOk X C W e m) (hs : swapsWith e none pos.line X.env = pure false := by rfl) : SOk X C W (.Expr e pos) (sEx m) := by
  obtain ⟨t, h1, k1⟩ := h
  refine ⟨_, ps_expr h1 hs, fun σ τ H as S D he hs h => ?_⟩
  exact k1 σ τ H as S _ he hs ((wpsv_bind h).imp fun v H1 ⟨t, as1, S1, s1, r1, e1, q⟩ => q σ H1 as1 (Evo.refl _ _) s1 (he.mono e1))
def sRet (m : EM) : SM := fun τ => bind (m τ) fun t => ret (.rt t)
theorem sm_ret {e : Expr} {m : EM} {pos : Pos} (h : EOk X C W e m) : SOk X C W (.Return (some e) pos) (sRet m) := by
  obtain ⟨t, h1, k1⟩ := h
  refine ⟨_, ps_ret h1, fun σ τ H as S D he hs h => ?_⟩
  exact k1 σ τ H as S _ he hs ((wpsv_bind h).imp fun v H1 ⟨t, as1, S1, s1, r1, e1, q⟩ => q v H1 as1 (Evo.refl _ _) s1 r1)
theorem sm_retN {pos : Pos} : SOk X C W (.Return none pos) (sRet (eC .non)) := ⟨_, ps_retN, fun σ τ H as S D he hs h => h .non H as (Evo.refl _ _) hs rfl⟩
def sIf (c : Ev → M Bool) (a b : SM) : SM := fun τ => bind (c τ) fun x => if x then a τ else b τ
theorem sm_if {c : Expr} {a b : List Stmt} {mc : Ev → M Bool} {m n : SM} {pos : Pos} (hc : TOk X C W c mc) (h : SsOk X C W a m) (g : SsOk X C W b n) : SOk X C W (.If c a b pos) (sIf mc m n) := by
  obtain ⟨tc, h0, k0⟩ := hc
  obtain ⟨t, h1, k1⟩ := h
  obtain ⟨u, h2, k2⟩ := g
  refine ⟨_, ps_if h0 h1 h2, fun σ τ H as S D he hs h => ?_⟩
  refine k0 σ τ H as S _ he hs ((wpsb_bind h).imp fun b H1 ⟨as1, S1, s1, e1, q⟩ => ?_)
  cases b with
  | true => exact k1 σ τ H1 as1 S1 D (he.mono e1) s1 q
  | false => exact k2 σ τ H1 as1 S1 D (he.mono e1) s1 q

/-! ### targets, assignments -/
def gNm (i : Nat) : GM := fun t τ => ret (τ.set i (some t))
def gsNil : List T → Ev → M Ev := fun ts τ => match ts with
  | [] => ret τ
  | _ => fail
def gsCons (g : GM) (r : List T → Ev → M Ev) : List T → Ev → M Ev := fun ts τ => match ts with
  | t :: ts => bind (g t τ) fun τ' => r ts τ'
  | [] => fail
def gTp (n : Nat) (r : List T → Ev → M Ev) : GM := fun t τ => match t with
  | .tup ts => if ts.length = n then r ts τ else fail
  | .lst ts => if ts.length = n then r ts τ else fail
  | _ => fail
theorem PG.or {tg : Expr} {t u : TG} (h1 : PG X tg t) (h2 : PG X tg u) : PG X tg (fun v σ H Q => t v σ H Q ∨ u v σ H Q) := ⟨fun pins s σ H v u Q I r h => h.elim (fun h => h1.run pins s σ H v u Q I r h) fun h => h2.run pins s σ H v u Q I r h⟩
theorem gm_name {i : Nat} {x : Str} {pos : Pos} (hN : X.N.Nodup) (hi : X.N[i]? = some x := by rfl) (hx : Loc X.env.scope x := by first | exact Or.inl rfl | exact Or.inr rfl) (hf : X.fn x = true ∨ X.env.scope.names.lookup x = some .local := by first | exact .inl rfl | exact .inr rfl) : GOk X C W (.Name x pos) (gNm i) :=
  ⟨_, pg_name hN hi hx hf, fun a v σ τ H as S Q he hs r h => h _ H as (Evo.refl _ _) hs (he.set r)⟩
theorem gs_nil : GsOk X C W [] gsNil := by
  refine ⟨_, pgs_nil, fun a v σ τ H as S Q he hs r h => ?_⟩
  match a, r, h with
  | [], r, h => exact ⟨r, h σ H as (Evo.refl _ _) hs he⟩
theorem wpee_bind {m : M Ev} {f : Ev → M Ev} {Q : L2.St → Hp → Prop} (h : WpE K C W (bind m f S) as H Q) :
    WpE K C W (m S) as H (fun σ' H' => ∃ τ' as' S', StOk K C H' as' S' ∧ EnvOk K C H' as' τ' σ' ∧ Evo H as H' as' ∧ WpE K C W (f τ' S') as' H' Q) := by
  unfold bind at h
  match hm : m S with
  | none => rw [hm] at h; exact h
  | some (.ok t, S1) => rw [hm] at h; exact fun σ' H' as' e s r => ⟨t, as', S1, s, r, e, h.mono e⟩
  | some (.er x, S1) => rw [hm] at h; exact h
theorem gs_cons {e : Expr} {es : List Expr} {g : GM} {r : List T → Ev → M Ev} (h1 : GOk X C W e g) (h2 : GsOk X C W es r) (hs : (assignEach (e :: es) X.env).map (·.2) = assign e X.env :: (assignEach es X.env).map (·.2) := by rfl) : GsOk X C W (e :: es) (gsCons g r) := by
  obtain ⟨t, p1, k1⟩ := h1
  obtain ⟨u, p2, k2⟩ := h2
  refine ⟨_, pgs_cons p1 p2 hs, fun a v σ τ H as S Q he hs r h => ?_⟩
  match a, r, h with
  | a :: ts, ⟨v, ws, e1, r1, r2⟩, h =>
    refine ⟨v, ws, e1, k1 a v σ τ H as S _ he hs r1 ((wpee_bind h).imp fun σ' H' ⟨τ', as', S', s, er, e, q⟩ => ?_)⟩
    exact k2 ts ws σ' τ' H' as' S' Q er s (RepL.mono e _ _ r2) q
theorem gm_tup {es : List Expr} {k n : Nat} {pos : Pos} {r : List T → Ev → M Ev} (hc : X.calm = true) (h : GsOk X C W es r) (hn : (assignEach es X.env).length = n := by rfl) (hst : (assignEach es X.env).findIdx? (·.1) = none := by rfl) : GOk X C W (.Tuple es k pos) (gTp n r) := by
  obtain ⟨t, p1, k1⟩ := h
  refine ⟨_, PG.or (pg_tup hc p1 hn hst) (pg_unl hc p1 hn hst), fun a v σ τ H as S Q he hs r h => ?_⟩
  unfold gTp at h
  split at h
  · rename_i ts
    split at h
    · rename_i hl
      obtain ⟨p, vs, e, h1, r1⟩ := r
      exact .inl ⟨p, vs, e, h1.sq, by rw [r1.len]; exact hl, k1 ts vs σ τ H as S Q he hs r1 h⟩
    · exact h.elim
  · rename_i ts
    split at h
    · rename_i hl
      obtain ⟨p, vs, e, h1, r1⟩ := r
      exact .inr ⟨p, vs, e, SqL.of h1.1, by rw [r1.len]; exact hl, k1 ts vs σ τ H as S Q he hs r1 h⟩
    · exact h.elim
  · exact h.elim
def sAs (m : EM) (g : GM) : SM := fun τ => bind (m τ) fun t => bind (g t τ) fun τ' => ret (.nx τ')
theorem sm_asg {tg e : Expr} {m : EM} {g : GM} {pos : Pos} (h : EOk X C W e m) (hg : GOk X C W tg g) (hs : swapsWithSole [tg] e pos.line X.env = pure false := by rfl) (hw : swappedStores [tg] e X.env = pure none := by rfl)
    (h1 : (assignEach [tg] X.env).map (·.2) = [assign tg X.env] := by rfl) : SOk X C W (.Assign [tg] e pos) (sAs m g) := by
  obtain ⟨t, p1, k1⟩ := h
  obtain ⟨u, p2, k2⟩ := hg
  refine ⟨_, ps_asg p1 p2 hs hw h1, fun σ τ H as S D he hs h => ?_⟩
  refine k1 σ τ H as S _ he hs ((wpsv_bind h).imp fun v H1 ⟨a, as1, S1, s1, r1, e1, q⟩ => ?_)
  exact k2 a v σ τ H1 as1 S1 _ (he.mono e1) s1 r1 ((wpse_bind q).imp fun σ' H' ⟨τ', as', S', s, er, e, q⟩ => q σ' H' as' (Evo.refl _ _) s er)
/-- name = e -/
def sSet (i : Nat) (m : EM) : SM := fun τ => bind (m τ) fun t => ret (.nx (τ.set i (some t)))
theorem sm_set {i : Nat} {x : Str} {e : Expr} {m : EM} {pos pos' : Pos} (hN : X.N.Nodup) (h : EOk X C W e m) (hi : X.N[i]? = some x := by rfl) (hx : Loc X.env.scope x := by first | exact Or.inl rfl | exact Or.inr rfl) (hs : swapsWith e (some (.Name x pos')) pos.line X.env = pure false := by rfl)
    (hf : X.fn x = true ∨ X.env.scope.names.lookup x = some .local := by first | exact .inl rfl | exact .inr rfl) : SOk X C W (.Assign [.Name x pos'] e pos) (sSet i m) := by
  obtain ⟨t, p1, k1⟩ := h
  refine ⟨_, ps_set hN hi hx p1 hs hf, fun σ τ H as S D he hs h => ?_⟩
  exact k1 σ τ H as S _ he hs ((wpsv_bind h).imp fun v H1 ⟨a, as1, S1, s1, r1, e1, q⟩ => q _ H1 as1 (Evo.refl _ _) s1 ((he.mono e1).set r1))
/-- a, b = x, y of plain local names; three of them -/
def sPar2 (i j : Nat) (m : Ev → M (List T)) : SM := fun τ => bind (m τ) fun ts => match ts with
  | [a, b] => ret (.nx ((τ.set i (some a)).set j (some b)))
  | _ => fail
def sPar3 (i j l : Nat) (m : Ev → M (List T)) : SM := fun τ => bind (m τ) fun ts => match ts with
  | [a, b, c] => ret (.nx (((τ.set i (some a)).set j (some b)).set l (some c)))
  | _ => fail
theorem sm_par2 {i j : Nat} {x y : Str} {a b : Expr} {m : Ev → M (List T)} {px py pt pos : Pos} {kt k2 pt2} (hc : X.calm = true) (hN : X.N.Nodup) (h : AOk X C W [a, b] m) (hi : X.N[i]? = some x := by rfl) (hj : X.N[j]? = some y := by rfl) (hij : i ≠ j := by decide)
    (hx : X.env.scope.names.lookup x = some .local := by rfl) (hy : X.env.scope.names.lookup y = some .local := by rfl)
    (hw : swappedStores [.Tuple [.Name x px, .Name y py] kt pt] (.Tuple [a, b] k2 pt2) X.env = pure (some [x, y]) := by rfl)
    (hs : swapsWithSole [.Tuple [.Name x px, .Name y py] kt pt] (.Tuple [a, b] k2 pt2) pos.line X.env = pure false := by rfl) :
    SOk X C W (.Assign [.Tuple [.Name x px, .Name y py] kt pt] (.Tuple [a, b] k2 pt2) pos) (sPar2 i j m) := by
  obtain ⟨t, p1, k1⟩ := h
  refine ⟨_, ps_par hc hN hi hj hij hx hy p1 hw hs, fun σ τ H as S D he hs h => ?_⟩
  refine k1 σ τ H as S _ he hs ((wpsa_bind h).imp fun vs H1 ⟨ts, as1, S1, s1, r1, e1, q⟩ => ?_)
  cases ts with
  | nil => exact q.elim
  | cons a ts => cases ts with
    | nil => exact q.elim
    | cons b ts => cases ts with
      | cons c ts => exact q.elim
      | nil =>
        obtain ⟨v, _, q1, z1, w, _, q2, z2, q3⟩ := r1
        rw [q1, q2, show _ = [] from q3]
        exact ⟨v, w, rfl, q _ H1 as1 (Evo.refl _ _) s1 (((he.mono e1).set z1).set z2)⟩
theorem sm_par3 {i j l : Nat} {x y z : Str} {a b c : Expr} {m : Ev → M (List T)} {px py pz pt pos : Pos} {kt k2 pt2} (hc : X.calm = true) (hN : X.N.Nodup) (h : AOk X C W [a, b, c] m) (hi : X.N[i]? = some x := by rfl) (hj : X.N[j]? = some y := by rfl) (hl : X.N[l]? = some z := by rfl) (hij : i ≠ j := by decide) (hil : i ≠ l := by decide) (hjl : j ≠ l := by decide)
    (hx : X.env.scope.names.lookup x = some .local := by rfl) (hy : X.env.scope.names.lookup y = some .local := by rfl) (hz : X.env.scope.names.lookup z = some .local := by rfl)
    (hw : swappedStores [.Tuple [.Name x px, .Name y py, .Name z pz] kt pt] (.Tuple [a, b, c] k2 pt2) X.env = pure (some [x, y, z]) := by rfl)
    (hs : swapsWithSole [.Tuple [.Name x px, .Name y py, .Name z pz] kt pt] (.Tuple [a, b, c] k2 pt2) pos.line X.env = pure false := by rfl) :
    SOk X C W (.Assign [.Tuple [.Name x px, .Name y py, .Name z pz] kt pt] (.Tuple [a, b, c] k2 pt2) pos) (sPar3 i j l m) := by
  obtain ⟨t, p1, k1⟩ := h
  refine ⟨_, ps_par3 hc hN hi hj hl hij hil hjl hx hy hz p1 hw hs, fun σ τ H as S D he hs h => ?_⟩
  refine k1 σ τ H as S _ he hs ((wpsa_bind h).imp fun vs H1 ⟨ts, as1, S1, s1, r1, e1, q⟩ => ?_)
  cases ts with
  | nil => exact q.elim
  | cons a ts => cases ts with
    | nil => exact q.elim
    | cons b ts => cases ts with
      | nil => exact q.elim
      | cons c ts => cases ts with
        | cons d ts => exact q.elim
        | nil =>
          obtain ⟨u, _, q1, z1, v, _, q2, z2, w, _, q3, z3, q4⟩ := r1
          rw [q1, q2, q3, show _ = [] from q4]
          exact ⟨u, v, w, rfl, q _ H1 as1 (Evo.refl _ _) s1 ((((he.mono e1).set z1).set z2).set z3)⟩
/-- x op= e -/
def sAug (i : Nat) (g : T → T → M T) (m : EM) : SM := fun τ => match τ[i]? with
  | some (some a) => bind (m τ) fun b => bind (g a b) fun c => ret (.nx (τ.set i (some c)))
  | _ => fail
theorem sm_aug {i : Nat} {x : Str} {e : Expr} {m : EM} {op : Operator} {g : T → T → M T} {pos pos' : Pos} (hN : X.N.Nodup) (ho : OpM X C (inplaceOp op) g) (h : EOk X C W e m) (hi : X.N[i]? = some x := by rfl) (hx : Loc X.env.scope x := by first | exact Or.inl rfl | exact Or.inr rfl)
    (hf : X.fn x = true ∨ X.env.scope.names.lookup x = some .local := by first | exact .inl rfl | exact .inr rfl) : SOk X C W (.AugAssign (.Name x pos') op e pos) (sAug i g m) := by
  obtain ⟨r, hr, k⟩ := ho
  obtain ⟨t, p1, k1⟩ := h
  refine ⟨_, ps_aug hN hi hx p1 (ti := r) hr hf, fun σ τ H as S D he hs h => ?_⟩
  unfold sAug at h
  match hq : τ[i]? with
  | none => rw [hq] at h; exact h.elim
  | some none => rw [hq] at h; exact h.elim
  | some (some a) =>
    rw [hq] at h
    obtain ⟨v, h1, r0⟩ := he.2 i a hq
    refine ⟨v, h1, k1 σ τ H as S _ he hs ((wpsv_bind h).imp fun w H1 ⟨b, as1, S1, s1, r1, e1, q⟩ => ?_)⟩
    exact k W a b v w H1 as1 S1 _ s1 (Rep.mono e1 _ _ r0) r1 ((wpsv_bind q).imp fun z H2 ⟨c, as2, S2, s2, r2, e2, q2⟩ => q2 _ H2 as2 (Evo.refl _ _) s2 ((he.mono (e1.trans e2)).set r2))

/-! ### loops -/
def whileN : Nat → (Ev → M Bool) → SM → SM
  | 0, _, _ => fun _ => fail
  | n + 1, c, b => fun τ => bind (c τ) fun x => if x then bind (b τ) fun r => match r with
    | .nx τ' => whileN n c b τ'
    | .ct τ' => whileN n c b τ'
    | .bk τ' => ret (.nx τ')
    | .rt t => ret (.rt t) else ret (.nx τ)
theorem while_core {c : TT} {tb : TS} {mc : Ev → M Bool} {mb : SM} (k0 : ∀ σ τ H as S Q, EnvOk K C H as τ σ → StOk K C H as S → WpB K C W (mc τ S) as H Q → c σ H Q)
    (k1 : ∀ σ τ H as S D, EnvOk K C H as τ σ → StOk K C H as S → WpS K C W (mb τ S) as H D → tb D σ H) {n : Nat} {σ : L2.St} {τ : Ev} {D : Ends} (he : EnvOk K C H as τ σ) (hs : StOk K C H as S)
    (h : WpS K C W (whileN n mc mb τ S) as H D) : tWhile c tb D σ H := by
  refine ⟨fun m σ' H' => ∃ τ' as' S', EnvOk K C H' as' τ' σ' ∧ StOk K C H' as' S' ∧ WpS K C W (whileN m mc mb τ' S') as' H' D, ⟨n, τ, as, S, he, hs, h⟩, ?_⟩
  rintro m σ' H' ⟨τ', as', S', he, hs, h⟩
  cases m with
  | zero => exact h.elim
  | succ m =>
    refine k0 σ' τ' H' as' S' _ he hs ((wpsb_bind h).imp fun x H1 ⟨as1, S1, s1, e1, q⟩ => ?_)
    cases x with
    | false => exact q σ' H1 as1 (Evo.refl _ _) s1 (he.mono e1)
    | true =>
      refine ⟨fun σ2 H2 => ∃ τ2 as2 S2, EnvOk K C H2 as2 τ2 σ2 ∧ StOk K C H2 as2 S2 ∧ WpS K C W (whileN m mc mb τ2 S2) as2 H2 D, fun σ2 H2 x => ⟨m, Nat.lt_succ_self _, x⟩, ?_⟩
      refine k1 σ' τ' H1 as1 S1 _ (he.mono e1) s1 ((wpss_bind q).imp (fun σ2 H2 ⟨τ2, as2, S2, s, r, e, q⟩ => ?_) (fun v H2 ⟨t', as2, S2, s, r, e, q⟩ => ?_) (fun σ2 H2 ⟨τ2, as2, S2, s, r, e, q⟩ => ?_) (fun σ2 H2 ⟨τ2, as2, S2, s, r, e, q⟩ => ?_))
      · exact ⟨τ2, as2, S2, r, s, q⟩
      · exact q v H2 as2 (Evo.refl _ _) s r
      · exact q σ2 H2 as2 (Evo.refl _ _) s r
      · exact ⟨τ2, as2, S2, r, s, q⟩
theorem sm_while {c : Expr} {body : List Stmt} {mc : Ev → M Bool} {mb : SM} {pos : Pos} (n : Nat) (hp : PassesOwn (model X.prog X.w) X.A X.env X.xe) (hc : TOk X C W c mc) (hb : SsOk X C W body mb) : SOk X C W (.While c body [] pos) (whileN n mc mb) := by
  obtain ⟨tc, p0, k0⟩ := hc
  obtain ⟨tb, p1, k1⟩ := hb
  exact ⟨_, ps_while hp p0 p1, fun σ τ H as S D he hs h => while_core k0 k1 he hs h⟩
def forL (g : GM) (b : SM) : List T → SM
  | [] => fun τ => ret (.nx τ)
  | t :: ts => fun τ => bind (g t τ) fun τ1 => bind (b τ1) fun r => match r with
    | .nx τ' => forL g b ts τ'
    | .ct τ' => forL g b ts τ'
    | .bk τ' => ret (.nx τ')
    | .rt t => ret (.rt t)
def sFor (it : Ev → M (List T)) (g : GM) (b : SM) : SM := fun τ => bind (it τ) fun ts => forL g b ts τ
theorem Yld.mono {J : It} {ts : List T} (e : Evo H as H' as') (h : Yld K C J H as ts) : Yld K C J H' as' ts := fun H2 as2 e2 => h H2 as2 (e.trans e2)
theorem sm_for {tg iter : Expr} {body : List Stmt} {mi : Ev → M (List T)} {g : GM} {mb : SM} {pos : Pos} (hp : PassesOwn (model X.prog X.w) X.A X.env X.xe) (hc : X.calm = true) (hi : IOk X C W tg iter mi) (hg : GOk X C W tg g) (hb : SsOk X C W body mb)
    (hs : ∀ x, foldedSetIterable iter X.env x = pure x := by intro _; rfl) : SOk X C W (.For tg iter body [] pos) (sFor mi g mb) := by
  obtain ⟨wi, p0, k0⟩ := hi
  obtain ⟨tg', p1, k1⟩ := hg
  obtain ⟨tb, p2, k2⟩ := hb
  refine ⟨_, ps_for hp hc p0 p1 p2 hs, fun σ τ H as S D he hs h => ?_⟩
  refine k0 σ τ H as S _ he hs ((wpsi_bind h).imp fun J H1 ⟨ts, as1, S1, s1, y1, e1, q⟩ => ?_)
  refine ⟨fun i m σ' H' => m = ts.length - i ∧ i ≤ ts.length ∧ ∃ τ' as' S', EnvOk X.K C H' as' τ' σ' ∧ StOk X.K C H' as' S' ∧ Yld X.K C J H' as' ts ∧ WpS X.K C W (forL g mb (ts.drop i) τ' S') as' H' D, ⟨ts.length, by simp, Nat.zero_le _, τ, as1, S1, he.mono e1, s1, y1, q⟩, ?_⟩
  rintro i m σ' H' ⟨rfl, hi, τ', as', S', he', hs', y', q'⟩
  have yy := y' H' as' (Evo.refl _ _)
  by_cases hlt : i < ts.length
  · refine .inr ⟨(yy.2 i ts[i] (by simp [hlt])).1, fun σ2 H2 => ∃ τ2 as2 S2, EnvOk X.K C H2 as2 τ2 σ2 ∧ StOk X.K C H2 as2 S2 ∧ Yld X.K C J H2 as2 ts ∧ WpS X.K C W (forL g mb (ts.drop (i + 1)) τ2 S2) as2 H2 D,
      fun σ2 H2 x => ⟨ts.length - (i + 1), by omega, rfl, hlt, x⟩, fun x H3 yx => ?_⟩
    obtain ⟨ev, so, rp⟩ := (yy.2 i ts[i] (by simp [hlt])).2 x H3 yx
    rw [List.drop_eq_getElem_cons hlt] at q'
    have q2 := WpS.mono ev q'
    refine k1 _ x σ' τ' H3 as' S' _ (he'.mono ev) (so S' hs') rp ((wpse_bind q2).imp fun σ4 H4 ⟨τ4, as4, S4, s4, er4, e4, q4⟩ => ?_)
    refine k2 σ4 τ4 H4 as4 S4 _ er4 s4 ((wpss_bind q4).imp (fun σ2 H2 ⟨τ2, as2, S2, s, r, e, q⟩ => ?_) (fun v H2 ⟨t', as2, S2, s, r, e, q⟩ => ?_) (fun σ2 H2 ⟨τ2, as2, S2, s, r, e, q⟩ => ?_) (fun σ2 H2 ⟨τ2, as2, S2, s, r, e, q⟩ => ?_))
    · exact ⟨τ2, as2, S2, r, s, y'.mono (ev.trans (e4.trans e)), q⟩
    · exact q v H2 as2 (Evo.refl _ _) s r
    · exact q σ2 H2 as2 (Evo.refl _ _) s r
    · exact ⟨τ2, as2, S2, r, s, y'.mono (ev.trans (e4.trans e)), q⟩
  · have e : i = ts.length := by omega
    subst e
    rw [List.drop_length] at q'
    exact .inl ⟨yy.1, q' σ' H' as' (Evo.refl _ _) hs' he'⟩
/-! what is walked: a list, a tuple; a range -/
def iSeq (K : PySem.W.Frag) (tl : TE) : TI := fun σ H R => tl σ H fun x H1 => ∃ a, x = .ref a ∧ (((∃ xs, SqL K H1 a xs) ∧ R (Itl K a) H1) ∨ ((∃ xs, SqT K H1 a xs) ∧ R (Itt K a) H1))
theorem pi_seq {tg l : Expr} {tl : TE} (hl : PE X l tl) : PI X tg l (iSeq X.K tl) := by
  refine ⟨fun pins s σ H R I h => ?_⟩
  refine thn (hl.run pins s σ H _ I h) fun v s1 ⟨x, H1, I1, r1, q1⟩ => ?_
  obtain ⟨a, e, q⟩ := q1
  subst e
  have hx : PE X l (fun σ' H' Q => Q (.ref a) H1) → True := fun _ => True.intro
  cases r1
  rcases q with ⟨⟨xs, hq⟩, q⟩ | ⟨⟨xs, hq⟩, q⟩
  · obtain ⟨its, rv, p, hz⟩ := I1.list hq
    refine wpAny_pyIter_list p.isList ?_
    refine ⟨s1.heap.objs.size, [s1.heap.objs.size], _, _, H1, rfl, I1.kept (t' := s1.toks) fun b o e => Heap.get?_push_of_some _ e, turn_list a _, ⟨_, Heap.get?_push_size _ rfl, rfl, rfl⟩, fun b hb => ?_, q⟩
    have e : b = s1.heap.objs.size := by simpa using hb
    subst e
    exact I1.fpOk (Nat.le_refl _) (I1.hok.fresh (Nat.le_refl _))
  · obtain ⟨its, rv, p, hz⟩ := I1.tuple hq
    refine wpAny_pyIter_tuple (show s1.heap.IsTuple a its.toArray from p) ?_
    refine ⟨s1.heap.objs.size, [s1.heap.objs.size], _, _, H1, rfl, I1.kept (t' := s1.toks) fun b o e => Heap.get?_push_of_some _ e, turn_tuple a _, ⟨_, Heap.get?_push_size _ rfl, rfl, rfl⟩, fun b hb => ?_, q⟩
    have e : b = s1.heap.objs.size := by simpa using hb
    subst e
    exact I1.fpOk (Nat.le_refl _) (I1.hok.fresh (Nat.le_refl _))
def iSq (m : EM) : Ev → M (List T) := fun τ => bind (m τ) fun t => match t with
  | .tup ts => ret ts
  | .lst ts => ret ts
  | .scr ts => ret ts
  | _ => fail
theorem wpiv_bind {m : M T} {f : T → M (List T)} {Q : It → Hp → Prop} (h : WpI K C W (bind m f S) as H Q) :
    WpV K C W (m S) as H (fun v H' => ∃ t as' S', StOk K C H' as' S' ∧ Rep K C H' as' t v ∧ Evo H as H' as' ∧ WpI K C W (f t S') as' H' Q) := by
  unfold bind at h
  match hm : m S with
  | none => rw [hm] at h; exact h
  | some (.ok t, S1) =>
    rw [hm] at h
    refine fun v H' as' e s r => ⟨t, as', S1, s, r, e, ?_⟩
    revert h
    show WpI K C W (f t S1) as H Q → WpI K C W (f t S1) as' H' Q
    intro h
    match f t S1, h with
    | none, h => exact h
    | some (.ok b, S2), h => exact fun J H2 as2 e2 => h J H2 as2 (e.trans e2)
    | some (.er x, S2), h => exact WpX.mono e h
  | some (.er x, S1) => rw [hm] at h; exact h
theorem wpia_bind {m : M (List T)} {f : List T → M (List T)} {Q : It → Hp → Prop} (h : WpI K C W (bind m f S) as H Q) :
    WpA K C W (m S) as H (fun v H' => ∃ t as' S', StOk K C H' as' S' ∧ RepL K C H' as' t v ∧ Evo H as H' as' ∧ WpI K C W (f t S') as' H' Q) := by
  unfold bind at h
  match hm : m S with
  | none => rw [hm] at h; exact h
  | some (.ok t, S1) =>
    rw [hm] at h
    refine fun v H' as' e s r => ⟨t, as', S1, s, r, e, ?_⟩
    revert h
    show WpI K C W (f t S1) as H Q → WpI K C W (f t S1) as' H' Q
    intro h
    match f t S1, h with
    | none, h => exact h
    | some (.ok b, S2), h => exact fun J H2 as2 e2 => h J H2 as2 (e.trans e2)
    | some (.er x, S2), h => exact WpX.mono e h
  | some (.er x, S1) => rw [hm] at h; exact h
theorem yld_list {a : Addr} {vs : List V} {ts : List T} (hq : ∀ H2 as2, Evo H as H2 as2 → SqL K H2 a vs) (l : RepL K C H as ts vs) : Yld K C (Itl K a) H as ts := fun H2 as2 e2 => by
  have sq := hq H2 as2 e2
  have l2 := RepL.mono e2 _ _ l
  refine ⟨⟨vs, sq, Nat.le_of_eq l.len⟩, fun i t ht => ?_⟩
  obtain ⟨v, hv, rv⟩ := RepL.get l2 ht
  refine ⟨⟨vs, v, sq, hv⟩, fun x H3 y => ?_⟩
  obtain ⟨e, y⟩ := y
  subst e
  have := y vs sq
  rw [hv] at this
  cases this
  exact ⟨Evo.refl _ _, fun _ s => s, rv⟩
theorem yld_tup {a : Addr} {vs : List V} {ts : List T} (hq : ∀ H2 as2, Evo H as H2 as2 → SqT K H2 a vs) (l : RepL K C H as ts vs) : Yld K C (Itt K a) H as ts := fun H2 as2 e2 => by
  have sq := hq H2 as2 e2
  have l2 := RepL.mono e2 _ _ l
  refine ⟨⟨vs, sq, Nat.le_of_eq l.len⟩, fun i t ht => ?_⟩
  obtain ⟨v, hv, rv⟩ := RepL.get l2 ht
  refine ⟨⟨vs, v, sq, hv⟩, fun x H3 y => ?_⟩
  obtain ⟨e, y⟩ := y
  subst e
  have := y vs sq
  rw [hv] at this
  cases this
  exact ⟨Evo.refl _ _, fun _ s => s, rv⟩
theorem im_seq {tg e : Expr} {m : EM} (h : EOk X C W e m) : IOk X C W tg e (iSq m) := by
  obtain ⟨t, p1, k1⟩ := h
  refine ⟨_, pi_seq p1, fun σ τ H as S R he hs h => ?_⟩
  refine k1 σ τ H as S _ he hs ((wpiv_bind h).imp fun v H1 ⟨a, as1, S1, s1, r1, e1, q⟩ => ?_)
  cases a <;> first | exact False.elim q | skip
  · obtain ⟨p, vs, rfl, h1, l⟩ := r1
    exact ⟨p, rfl, .inr ⟨⟨vs, h1.sq⟩, q _ H1 as1 (Evo.refl _ _) s1 (yld_tup (fun H2 as2 e2 => (h1.mono e2).sq) l)⟩⟩
  · obtain ⟨p, vs, rfl, h1, l⟩ := r1
    exact ⟨p, rfl, .inl ⟨⟨vs, SqL.of h1.1⟩, q _ H1 as1 (Evo.refl _ _) s1 (yld_list (fun H2 as2 e2 => SqL.of (e2.keep _ _ h1).1) l)⟩⟩
  · obtain ⟨p, vs, rfl, h1, l⟩ := r1
    exact ⟨p, rfl, .inl ⟨⟨vs, h1.sq⟩, q _ H1 as1 (Evo.refl _ _) s1 (yld_list (fun H2 as2 e2 => (h1.mono e2).sq) l)⟩⟩
def rngT (lo : Int) (n : Nat) : List T := (List.range n).map fun (i : Nat) => T.int (lo + (i : Int))
theorem yld_range {lo : Int} {n : Nat} : Yld K C (Itr lo n) H as (rngT lo n) := fun H2 as2 e2 => by
  refine ⟨by show n ≤ _; unfold rngT; simp, fun i t ht => ?_⟩
  unfold rngT at ht
  rw [List.getElem?_map] at ht
  obtain ⟨j, h1, h2⟩ := Option.map_eq_some_iff.mp ht
  obtain ⟨hl, e⟩ := List.getElem?_eq_some_iff.mp h1
  simp at hl e
  subst e; subst h2
  refine ⟨hl, fun x H3 y => ?_⟩
  obtain ⟨e, y⟩ := y
  subst e; subst y
  exact ⟨Evo.refl _ _, fun _ s => s, rfl⟩
def in62 (j : Int) : Bool := decide (-(2 ^ 62) ≤ j) && decide (j < 2 ^ 62)
def iR1 (r : Ev → M (List T)) : Ev → M (List T) := fun τ => bind (r τ) fun ts => match ts with
  | [.int j] => if in62 j then ret (rngT 0 j.toNat) else fail
  | _ => fail
def iR2 (r : Ev → M (List T)) : Ev → M (List T) := fun τ => bind (r τ) fun ts => match ts with
  | [.int i, .int j] => if in62 i && in62 j then ret (rngT i (j - i).toNat) else fail
  | _ => fail
theorem im_range1 {tg a : Expr} {r : Ev → M (List T)} {p pos : Pos} (h : AOk X C W [a] r) (hm : X.mg "range" = none) (hg : Gl X "range" := by rfl) (hs : starEach [a] X.env = [(false, eval a X.env)] := by rfl) : IOk X C W tg (.Call (.Name "range" p) [a] [] pos) (iR1 r) := by
  obtain ⟨t, p1, k1⟩ := h
  refine ⟨_, pi_range1 hg hm p1 hs, fun σ τ H as S R he hs h => ?_⟩
  refine k1 σ τ H as S _ he hs ((wpia_bind h).imp fun vs H1 ⟨ts, as1, S1, s1, r1, e1, q⟩ => ?_)
  split at q
  · rename_i j
    obtain ⟨v, _, q1, z1, q2⟩ := r1
    obtain rfl := z1
    split at q
    · rename_i hb
      have hb' := Bool.and_eq_true_iff.mp hb
      exact ⟨j, by rw [q1, show _ = [] from q2], of_decide_eq_true hb'.1, of_decide_eq_true hb'.2, q _ H1 as1 (Evo.refl _ _) s1 yld_range⟩
    · exact q.elim
  · exact q.elim
theorem im_range2 {tg a b : Expr} {r : Ev → M (List T)} {p pos : Pos} (h : AOk X C W [a, b] r) (hm : X.mg "range" = none) (hg : Gl X "range" := by rfl) (hs : starEach [a, b] X.env = [(false, eval a X.env), (false, eval b X.env)] := by rfl) (hs2 : starEach [b] X.env = [(false, eval b X.env)] := by rfl) :
    IOk X C W tg (.Call (.Name "range" p) [a, b] [] pos) (iR2 r) := by
  obtain ⟨t, p1, k1⟩ := h
  refine ⟨_, pi_range2 hg hm p1 hs hs2, fun σ τ H as S R he hs h => ?_⟩
  refine k1 σ τ H as S _ he hs ((wpia_bind h).imp fun vs H1 ⟨ts, as1, S1, s1, r1, e1, q⟩ => ?_)
  split at q
  · rename_i i j
    obtain ⟨v, _, q1, z1, w, _, q2, z2, q3⟩ := r1
    obtain rfl := z1
    obtain rfl := z2
    split at q
    · rename_i hb
      have hb0 := Bool.and_eq_true_iff.mp hb
      have hb' := Bool.and_eq_true_iff.mp hb0.1
      have hb2 := Bool.and_eq_true_iff.mp hb0.2
      exact ⟨i, j, by rw [q1, q2, show _ = [] from q3], ⟨of_decide_eq_true hb'.1, of_decide_eq_true hb'.2, of_decide_eq_true hb2.1, of_decide_eq_true hb2.2⟩, q _ H1 as1 (Evo.refl _ _) s1 yld_range⟩
    · exact q.elim
  · exact q.elim

/-! ### cells: append, a store -/
def cellL (S : Sto) : T → Option (Nat × List T)
  | .hdl i => match S[i]? with
    | some (.lst xs) => some (i, xs)
    | _ => none
  | _ => none
def appT (a : T) (ts : List T) : M T := fun S => match cellL S a, ts with
  | some (i, xs), [t] => if decide (xs.length < big) && noH t then some (.ok .non, S.set i (.lst (xs ++ [t]))) else none
  | _, _ => none
def eApp (m : EM) (r : Ev → M (List T)) : EM := fun τ => bind (m τ) fun a S => match cellL S a with
  | some _ => bind (r τ) (appT a) S
  | none => none
theorem hdl_cell {i : Nat} {v : V} {xs : List T} (hs : StOk K C H as S) (r : Rep K C H as (.hdl i) v) (e : S[i]? = some (.lst xs)) : ∃ p vs, as[i]? = some p ∧ v = .ref p.1 ∧ p.2 = p.1 ∧ noHs xs = true ∧ H p.1 = some (.lst vs) ∧ RepL K C H as xs vs := by
  obtain ⟨p, q, rfl⟩ := r
  obtain ⟨h1, h2, vs, h3, h4⟩ := hs.cell i _ p e q
  exact ⟨p, vs, q, rfl, h1, h2, h3, h4⟩
theorem noHs_snoc {t : T} : ∀ {xs : List T}, noHs xs = true → noH t = true → noHs (xs ++ [t]) = true
  | [], _, h => by show (noH t && true) = true; rw [h]; rfl
  | x :: xs, h, k => by
    have h' := Bool.and_eq_true_iff.mp (show (noH x && noHs xs) = true from h)
    show (noH x && noHs (xs ++ [t])) = true
    rw [h'.1, noHs_snoc h'.2 k]; rfl
theorem noHs_set {t : T} : ∀ {xs : List T} (i : Nat), noHs xs = true → noH t = true → noHs (xs.set i t) = true
  | [], _, _, _ => rfl
  | x :: xs, 0, h, k => by
    have h' := Bool.and_eq_true_iff.mp (show (noH x && noHs xs) = true from h)
    show (noH t && noHs xs) = true
    rw [k, h'.2]; rfl
  | x :: xs, i + 1, h, k => by
    have h' := Bool.and_eq_true_iff.mp (show (noH x && noHs xs) = true from h)
    show (noH x && noHs (xs.set i t)) = true
    rw [h'.1, noHs_set i h'.2 k]; rfl
theorem cell_of {a : T} {v : V} {i : Nat} {xs : List T} (hs : StOk K C H as S) (r : Rep K C H as a v) (e : cellL S a = some (i, xs)) :
    a = .hdl i ∧ S[i]? = some (.lst xs) ∧ ∃ p vs, as[i]? = some p ∧ v = .ref p.1 ∧ p.2 = p.1 ∧ noHs xs = true ∧ H p.1 = some (.lst vs) ∧ RepL K C H as xs vs := by
  cases a <;> first | cases e | skip
  rename_i j
  unfold cellL at e
  dsimp only at e
  split at e
  · rename_i ys e0
    cases e
    exact ⟨rfl, e0, hdl_cell hs r e0⟩
  · cases e
/-- a cell's list is another one -/
theorem wp_cell {i : Nat} {p : Addr × Addr} {ys : List T} {ws : List V} {t : T} {v : V} {Q : VK} (hs : StOk K C H as S) (q : as[i]? = some p) (z : p.2 = p.1) (n : noHs ys = true) (r : RepL K C H as ys ws) (hv : ∀ H', Rep K C H' as t v)
    (h : WpV K C W (some (.ok t, S.set i (.lst ys))) as H Q) : Q v (upd H p.1 (.lst ws)) := h v _ as (Evo.write q) (hs.write q z n r) (hv _)
theorem em_app {o e : Expr} {m : EM} {r : Ev → M (List T)} {apos cpos : Pos} (ho : EOk X C W o m) (ha : AOk X C W [e] r)
    (hbase : attributeBase o ("append" : Str) X.env (eval o X.env) = eval o X.env := by rfl)
    (hfew : ((backTo cpos (starEach [e] X.env)).all (fun x => !x.1) && (backToKw cpos (keywordEach [] X.env)).all (fun x => x.1.isSome)
      && decide ([e].length + ([] : List Keyword).length + (if ([] : List Keyword).isEmpty then 0 else 1) < 30)) = true := by rfl)
    (hline : (apos.endLine == cpos.line) = true := by rfl) (hs : starEach [e] X.env = (false, eval e X.env) :: starEach [] X.env := by rfl) (hplain : (backTo cpos (starEach [] X.env)).any (·.1) = false := by rfl) :
    EOk X C W (.Call (.Attribute o "append" apos) [e] [] cpos) (eApp m r) := by
  obtain ⟨t, p1, k1⟩ := ho
  obtain ⟨u, p2, k2⟩ := ha
  refine ⟨_, pe_bm PySem.F.plainAttrs_list PySem.F.slot_list_append PySem.F.type_list_append mt_append p1 p2 hbase hfew hline hs hplain, fun σ τ H as S Q he hs h => ?_⟩
  refine k1 σ τ H as S _ he hs ((wpv_bind h).imp fun v H1 ⟨a, as1, S1, s1, r1, e1, q⟩ => ?_)
  match hc : cellL S1 a with
  | none => rw [hc] at q; exact q.elim
  | some (i, xs) =>
    rw [hc] at q
    obtain ⟨_, _, p, vs, _, e0, _, _, h3, _⟩ := cell_of s1 r1 hc
    refine ⟨by rw [e0]; exact .inl ⟨rfl, _, SqL.of h3⟩, k2 σ τ H1 as1 S1 _ (he.mono e1) s1 ((wpva_bind q).imp fun ws H2 ⟨ts, as2, S2, s2, r2, e2, q2⟩ => ?_)⟩
    unfold appT at q2
    match hc2 : cellL S2 a, ts, r2, q2 with
    | none, _, _, q2 => exact q2.elim
    | some (j, ys), [], _, q2 => exact q2.elim
    | some (j, ys), _ :: _ :: _, _, q2 => exact q2.elim
    | some (j, ys), [b], ⟨w, _, z1, z2, z3⟩, q2 =>
      dsimp only at q2
      split at q2
      · rename_i hb
        have hb' := Bool.and_eq_true_iff.mp hb
        obtain ⟨_, _, p', vs', g1, g2, g3, g4, g5, g6⟩ := cell_of s2 (Rep.mono e2 _ _ r1) hc2
        refine ⟨p'.1, vs', w, g2, by rw [z1, show _ = [] from z3], g5, by rw [g6.len]; exact big_lt (of_decide_eq_true hb'.1), ?_⟩
        exact wp_cell (t := .non) s2 g1 g3 (noHs_snoc g4 hb'.2) (RepL.snoc g6 z2) (fun _ => rfl) q2
      · exact q2.elim
/-- o[i] = v -/
def putT (o i v : T) : M T := fun S => match cellL S o, i with
  | some (j, xs), .int k => match ixN xs.length k with
    | some n => if noH v then some (.ok .non, S.set j (.lst (xs.set n v))) else none
    | none => none
  | _, _ => none
def gIx (mo mi : EM) : GM := fun t τ => bind (mo τ) fun o => bind (mi τ) fun i => bind (putT o i t) fun _ => ret τ
theorem wpev_bind {m : M T} {f : T → M Ev} {Q : L2.St → Hp → Prop} (h : WpE K C W (bind m f S) as H Q) :
    WpV K C W (m S) as H (fun v H' => ∃ t as' S', StOk K C H' as' S' ∧ Rep K C H' as' t v ∧ Evo H as H' as' ∧ WpE K C W (f t S') as' H' Q) := by
  unfold bind at h
  match hm : m S with
  | none => rw [hm] at h; exact h
  | some (.ok t, S1) => rw [hm] at h; exact fun σ' H' as' e s => fun r => ⟨t, as', S1, s, r, e, h.mono e⟩
  | some (.er x, S1) => rw [hm] at h; exact h
theorem gm_ix {o i : Expr} {mo mi : EM} {pos : Pos} (ho : EOk X C W o mo) (hi : EOk X C W i mi)
    (ha : ∀ v, assign (.Subscript o i pos) X.env v = (do
      let ov ← holding [v] (eval o X.env)
      let iv ← holding [v, ov] (eval i X.env)
      standAt pos
      holding [v, ov, iv] (setItem ov iv v)
      release [v, ov, iv] []) := by intro _; rfl) : GOk X C W (.Subscript o i pos) (gIx mo mi) := by
  obtain ⟨t, p1, k1⟩ := ho
  obtain ⟨u, p2, k2⟩ := hi
  refine ⟨_, pg_sub p1 p2 set_list ha, fun a v σ τ H as S Q he hs r h => ?_⟩
  refine k1 σ τ H as S _ he hs ((wpev_bind h).imp fun ov H1 ⟨b, as1, S1, s1, r1, e1, q1⟩ => ?_)
  refine k2 σ τ H1 as1 S1 _ (he.mono e1) s1 ((wpev_bind q1).imp fun iv H2 ⟨c, as2, S2, s2, r2, e2, q2⟩ => ?_)
  have q3 := wpev_bind q2
  unfold putT at q3
  match hc : cellL S2 b, c, r2, q3 with
  | none, _, _, q3 => exact q3.elim
  | some (j, xs), c, r2, q3 =>
    cases c <;> first | exact False.elim q3 | skip
    rename_i k
    obtain rfl := r2
    dsimp only at q3
    match hn : ixN xs.length k with
    | none => rw [hn] at q3; exact q3.elim
    | some n =>
      rw [hn] at q3
      dsimp only at q3
      split at q3
      · rename_i hb
        obtain ⟨_, _, p', vs', g1, g2, g3, g4, g5, g6⟩ := cell_of s2 (Rep.mono e2 _ _ r1) hc
        refine ⟨p'.1, vs', k, n, g2, rfl, g5, by rw [g6.len]; exact hn, ?_⟩
        have rv := Rep.mono (e1.trans e2) _ _ r
        obtain ⟨t', as3, S3, s3, _, e3, q4⟩ := wp_cell (t := .non) (v := .non) s2 g1 g3 (noHs_set n g4 hb) (RepL.put n g6 rv) (fun _ => rfl) q3
        exact q4 σ _ as3 (Evo.refl _ _) s3 (he.mono ((e1.trans e2).trans e3))
      · exact q3.elim
end

/-! ### a def of the text -/
mutual
/-- cells made since then are taken as they are -/
def frz (S : Sto) (n : Nat) : T → Option T
  | .hdl i => if i < n then some (.hdl i) else match S[i]? with
    | some (.lst ts) => some (.lst ts)
    | _ => none
  | .tup ts => (frzs S n ts).map .tup
  | .lst ts => (frzs S n ts).map .lst
  | .ins c ts => (frzs S n ts).map (.ins c)
  | .scr ts => (frzs S n ts).map .scr
  | .non => some .non
  | .bl b => some (.bl b)
  | .int i => some (.int i)
  | .str s => some (.str s)
  | .ty n => some (.ty n)
  | .cls c => some (.cls c)
def frzs (S : Sto) (n : Nat) : List T → Option (List T)
  | [] => some []
  | t :: ts => (frz S n t).bind fun u => (frzs S n ts).map fun us => u :: us
end
section
variable {K : PySem.W.Frag} {C : Nat → Addr} {W : XK} {H H' : Hp} {as as' : As} {S : Sto} {n : Nat}
theorem Live.less {a : Addr} (l : Live (as.take n) a) : Live as a := by
  obtain ⟨i, p, e, z⟩ := l
  refine ⟨i, p, ?_, z⟩
  have hl := (List.getElem?_eq_some_iff.mp e).1
  rw [List.length_take] at hl
  rw [List.getElem?_take_of_lt (by omega)] at e
  exact e
theorem Trk.less {a : Addr} {o : HO} (t : Trk H as a o) : Trk H (as.take n) a o := ⟨t.1, fun l => t.2 l.less⟩
theorem TrkT.less {a : Addr} {vs : List V} (t : TrkT K H as a vs) : TrkT K H (as.take n) a vs := by
  rcases t with t | t
  · exact .inl t.less
  · exact .inr t
theorem TrkL.less {a : Addr} {vs : List V} (t : TrkL K H as a vs) : TrkL K H (as.take n) a vs := by
  rcases t with t | ⟨o, t⟩ | t
  · exact .inl t.less
  · exact .inr (.inl ⟨o, t.less⟩)
  · exact .inr (.inr t)
theorem TrkS.less {a c dx : Addr} {vs : List (Option V)} (t : TrkS H as a c dx vs) : TrkS H (as.take n) a c dx vs := by
  rcases t with ⟨t, z⟩ | ⟨t, z⟩
  · exact .inl ⟨t.less, z⟩
  · exact .inr ⟨t.less, z.less⟩
mutual
theorem Rep.less : ∀ (t : T) (v : V), noH t = true → Rep K C H as t v → Rep K C H (as.take n) t v
  | .non, _, _, h => h
  | .bl _, _, _, h => h
  | .int _, _, _, h => h
  | .str _, _, _, h => h
  | .tup ts, _, z, ⟨a, vs, q, r, l⟩ => ⟨a, vs, q, r.less, RepL.less ts vs z l⟩
  | .lst ts, _, z, ⟨a, vs, q, r, l⟩ => ⟨a, vs, q, r.less, RepL.less ts vs z l⟩
  | .ins c fs, _, z, ⟨a, dx, vs, q, r, l⟩ => ⟨a, dx, vs, q, r.less, RepL.less fs vs z l⟩
  | .hdl i, _, z, _ => nomatch z
  | .scr ts, _, z, ⟨a, vs, q, r, l⟩ => ⟨a, vs, q, r.less, RepL.less ts vs z l⟩
  | .ty _, _, _, h => h
  | .cls _, _, _, h => h
theorem RepL.less : ∀ (ts : List T) (vs : List V), noHs ts = true → RepL K C H as ts vs → RepL K C H (as.take n) ts vs
  | [], _, _, h => h
  | t :: ts, _, z, ⟨v, ws, q, r, l⟩ => ⟨v, ws, q, Rep.less t v (Bool.and_eq_true_iff.mp z).1 r, RepL.less ts ws (Bool.and_eq_true_iff.mp z).2 l⟩
end
theorem apart_less (hs : StOk K C H as S) {i : Nat} {p : Addr × Addr} (q : as[i]? = some p) (h : n ≤ i) : ¬ Live (as.take n) p.1 := fun ⟨j, p', e, z⟩ => by
  have hl := (List.getElem?_eq_some_iff.mp e).1
  rw [List.length_take] at hl
  rw [List.getElem?_take_of_lt (by omega)] at e
  have x := hs.apart i j p p' q e (by omega)
  rcases z with z | z
  · exact x.1 z
  · exact x.2.1 z
mutual
theorem frz_ok (hs : StOk K C H as S) (hn : n ≤ as.length) : ∀ (t t' : T) (v : V), Rep K C H as t v → frz S n t = some t' → Rep K C H (as.take n) t' v
  | .non, _, _, h, e => by cases e; exact h
  | .bl _, _, _, h, e => by cases e; exact h
  | .int _, _, _, h, e => by cases e; exact h
  | .str _, _, _, h, e => by cases e; exact h
  | .ty _, _, _, h, e => by cases e; exact h
  | .cls _, _, _, h, e => by cases e; exact h
  | .tup ts, _, v, ⟨a, vs, q, r, l⟩, e => by
    obtain ⟨us, h1, h2⟩ := Option.map_eq_some_iff.mp (show (frzs S n ts).map T.tup = some _ from e)
    subst h2
    exact ⟨a, vs, q, r.less, frzs_ok hs hn ts us vs l h1⟩
  | .lst ts, _, v, ⟨a, vs, q, r, l⟩, e => by
    obtain ⟨us, h1, h2⟩ := Option.map_eq_some_iff.mp (show (frzs S n ts).map T.lst = some _ from e)
    subst h2
    exact ⟨a, vs, q, r.less, frzs_ok hs hn ts us vs l h1⟩
  | .scr ts, _, v, ⟨a, vs, q, r, l⟩, e => by
    obtain ⟨us, h1, h2⟩ := Option.map_eq_some_iff.mp (show (frzs S n ts).map T.scr = some _ from e)
    subst h2
    exact ⟨a, vs, q, r.less, frzs_ok hs hn ts us vs l h1⟩
  | .ins c ts, _, v, ⟨a, dx, vs, q, r, l⟩, e => by
    obtain ⟨us, h1, h2⟩ := Option.map_eq_some_iff.mp (show (frzs S n ts).map (T.ins c) = some _ from e)
    subst h2
    exact ⟨a, dx, vs, q, r.less, frzs_ok hs hn ts us vs l h1⟩
  | .hdl i, t', v, ⟨p, q, r⟩, e => by
    have e : (if i < n then some (T.hdl i) else match S[i]? with
      | some (.lst ts) => some (T.lst ts)
      | _ => none) = some t' := e
    by_cases hi : i < n
    · rw [if_pos hi] at e
      cases e
      exact ⟨p, by rw [List.getElem?_take_of_lt hi]; exact q, r⟩
    · rw [if_neg hi] at e
      obtain ⟨c, hc, ok⟩ := hs.at_ q
      rw [hc] at e
      cases c with
      | obj _ _ => cases e
      | lst ts =>
        cases e
        obtain ⟨h1, h2, vs, h3, h4⟩ := ok
        exact ⟨p.1, vs, r, ⟨h3, apart_less hs q (by omega)⟩, RepL.less _ _ h2 h4⟩
theorem frzs_ok (hs : StOk K C H as S) (hn : n ≤ as.length) : ∀ (ts us : List T) (vs : List V), RepL K C H as ts vs → frzs S n ts = some us → RepL K C H (as.take n) us vs
  | [], _, _, h, e => by cases e; exact h
  | t :: ts, _, _, ⟨v, ws, q, r, l⟩, e => by
    obtain ⟨u, h1, h2⟩ := Option.bind_eq_some_iff.mp (show ((frz S n t).bind fun u => (frzs S n ts).map fun us => u :: us) = some _ from e)
    obtain ⟨us, h3, h4⟩ := Option.map_eq_some_iff.mp h2
    subst h4
    exact ⟨v, ws, q, frz_ok hs hn t u v r h1, frzs_ok hs hn ts us ws l h3⟩
end
theorem Slt_less : CellOk K C H as p c → CellOk K C H (as.take n) p c := by
  intro h
  cases c with
  | lst ts => obtain ⟨a, b, vs, d, e⟩ := h; exact ⟨a, b, vs, d, RepL.less _ _ b e⟩
  | obj c fs => obtain ⟨a, vs, b, d, e⟩ := h; exact ⟨a, vs, b, d, fun j t x => let ⟨n, v, y, z⟩ := e j t x; ⟨n, v, y, Rep.less _ _ n z⟩⟩
theorem StOk.less (hs : StOk K C H as S) : StOk K C H (as.take n) (S.take n) := by
  have get : ∀ {α : Type} {l : List α} {i : Nat} {x : α}, (l.take n)[i]? = some x → l[i]? = some x := fun {α l i x} e => by
    have hl := (List.getElem?_eq_some_iff.mp e).1
    rw [List.length_take] at hl
    rw [List.getElem?_take_of_lt (by omega)] at e
    exact e
  exact ⟨by rw [List.length_take, List.length_take, hs.len], fun i c p a b => Slt_less (hs.cell i c p (get a) (get b)), fun i j p q a b => hs.apart i j p q (get a) (get b)⟩
theorem Evo.less (e : Evo H as H' as') : Evo H as H' (as'.take as.length) := by
  refine ⟨fun i hi => ?_, ?_, fun a o t => (e.keep a o t).less⟩
  · rw [List.getElem?_take_of_lt hi]
    exact e.pre i hi
  · rw [List.length_take]
    have := e.len
    omega
def fin (n : Nat) (t : T) (S : Sto) : Option (Rs T × Sto) := match frz S n t with
  | none => none
  | some u => some (.ok u, S.take n)
def ev0 (n : Nat) (ts : List T) : Ev := ts.map some ++ List.replicate (n - ts.length) none
/-- a def whose answer names none of its own cells -/
def fnM (n : Nat) (m : SM) : List T → M T := fun ts S => match m (ev0 n ts) S with
  | some (.ok (.rt t), S') => fin S.length t S'
  | some (.ok (.nx _), S') => fin S.length .non S'
  | _ => none
/-- a def whose answer may be a cell -/
def fnK (n : Nat) (m : SM) : List T → M T := fun ts S => match m (ev0 n ts) S with
  | some (.ok (.rt t), S') => some (.ok t, S')
  | some (.ok (.nx _), S') => some (.ok .non, S')
  | _ => none
theorem ev0_ok {N : List Str} {ts : List T} {vs : List V} (r : RepL K C H as ts vs) : EnvOk K C H as (ev0 N.length ts) (L2.start N vs) := by
  refine ⟨?_, fun i t h => ?_⟩
  · unfold ev0 L2.start
    rw [List.length_append, List.length_append, List.length_map, List.length_map, List.length_replicate, List.length_replicate, r.len]
  · unfold ev0 at h
    by_cases hi : i < ts.length
    · rw [List.getElem?_append_left (by simpa using hi), List.getElem?_map] at h
      obtain ⟨u, h1, h2⟩ := Option.map_eq_some_iff.mp h
      cases h2
      obtain ⟨v, h3, h4⟩ := RepL.get r h1
      refine ⟨v, ?_, h4⟩
      unfold L2.start
      rw [List.getElem?_append_left (by rw [List.length_map, r.len]; exact hi), List.getElem?_map, h3]
      rfl
    · rw [List.getElem?_append_right (by simpa using hi), List.getElem?_replicate] at h
      split at h <;> cases h
theorem fin_ok {t : T} {v : V} {Q : VK} {S0 : Sto} (hl : as.length = S0.length) (e : Evo H as H' as') (hs : StOk K C H' as' S) (r : Rep K C H' as' t v) (h : WpV K C W (fin S0.length t S) as H Q) : Q v H' := by
  unfold fin at h
  match hf : frz S S0.length t with
  | none => rw [hf] at h; exact h.elim
  | some u =>
    rw [hf] at h
    have hn : S0.length ≤ as'.length := by rw [← hl]; exact e.len
    have e' := e.less
    rw [hl] at e'
    exact h v H' _ e' hs.less (frz_ok hs hn t u v r hf)
end
section
variable {P : Program} {w : World} {K : PySem.W.Frag} {mg : Str → Option Value} {base : Heap} {C : Nat → Addr}
/-- THE RULE: a def keeps its mirror (nothing is raised) -/
theorem fn_ok {x qual : Str} {st : Stmt} {f : Addr} {fd : FuncData} {N ps : List Str} {k : Nat} {m : SM} (F : Fun K x qual st f fd) (S : FnScope N ps (defScope st))
    (hb : ∀ (cdv : Value) (A : Around) (outer : List Env) (s : Shared) (H : Hp) (E : XK), Room k (A.deeper (PyProof.Rows.envOfC qual (defScope st) s.heap.objs.size f cdv)) → SsOk (cxOf CX0 P w K mg base N qual (defScope st) f cdv A outer s H E).nox C E0 (defBody st) m) :
    FnOk P w K mg base CX0 (k + 1) f fd ps (spM K C ps.length (fnM N.length m)) := by
  refine F.ok S (fun vs H Q E h => h.1) (fun cdv A outer s H vs Q E hr h => ?_)
  obtain ⟨t, p1, k1⟩ := hb cdv A outer s H E hr
  obtain ⟨_, ts, as, S0, hs, r, h⟩ := h
  refine ⟨t, p1, k1 _ (ev0 N.length ts) H as S0 _ (ev0_ok r) hs ?_⟩
  unfold fnM at h
  split at h
  · rename_i t' S' e
    rw [e]
    exact fun v H' as' ev s' r' => fin_ok (W := E) hs.len ev s' r' h
  · rename_i τ' S' e
    rw [e]
    exact fun v H' as' ev s' r' => fin_ok (W := E) (t := .non) (v := .non) hs.len ev s' rfl h
  · exact h.elim
theorem fn_okK {x qual : Str} {st : Stmt} {f : Addr} {fd : FuncData} {N ps : List Str} {k : Nat} {m : SM} (F : Fun K x qual st f fd) (S : FnScope N ps (defScope st))
    (hb : ∀ (cdv : Value) (A : Around) (outer : List Env) (s : Shared) (H : Hp) (E : XK), Room k (A.deeper (PyProof.Rows.envOfC qual (defScope st) s.heap.objs.size f cdv)) → SsOk (cxOf CX0 P w K mg base N qual (defScope st) f cdv A outer s H E).nox C E0 (defBody st) m) :
    FnOk P w K mg base CX0 (k + 1) f fd ps (spM K C ps.length (fnK N.length m)) := by
  refine F.ok S (fun vs H Q E h => h.1) (fun cdv A outer s H vs Q E hr h => ?_)
  obtain ⟨t, p1, k1⟩ := hb cdv A outer s H E hr
  obtain ⟨_, ts, as, S0, hs, r, h⟩ := h
  refine ⟨t, p1, k1 _ (ev0 N.length ts) H as S0 _ (ev0_ok r) hs ?_⟩
  unfold fnK at h
  split at h
  · rename_i t' S' e
    rw [e]
    exact fun v H' as' ev s' r' => h v H' as' ev s' r'
  · rename_i τ' S' e
    rw [e]
    exact fun v H' as' ev s' r' => h .non H' as' ev s' rfl
  · exact h.elim
end
end Zm
namespace Zm
open PySem L2
/-! ### words for printed texts -/
/-- a def of the text, as the top has left it -/
structure TD (K : PySem.W.Frag) (mg : Str → Option Value) (x qual : Str) (st : Stmt) (ps : List Str) where
  f : Addr
  fd : FuncData
  F : Fun K x qual st f fd
  mg : mg x = some (.ref f)
  b0 : ∀ us : List Value, us.length = ps.length → bindArgs fd ⟨us, []⟩ = pure (ps.zip us)
theorem TD.b {K : PySem.W.Frag} {mg : Str → Option Value} {x qual : Str} {st : Stmt} {ps : List Str} (d : TD K mg x qual st ps) : Binds K d.fd ps [] := Binds.all d.b0
/-- a constant int of the top -/
structure GI (mg : Str → Option Value) (x : Str) (i : Int) : Prop where
  ex : ∃ u, mg x = some u ∧ ∃ t, u = .int i t
section
variable {X : Cx} {C : Nat → Addr} {W : XK}
theorem df {x qual : Str} {st : Stmt} {ps : List Str} {k n : Nat} {g : List T → M T} (d : TD X.K X.mg x qual st ps) (F : FnOk X.prog X.w X.K X.mg X.base CX0 k d.f d.fd ps (spM X.K C n g)) (hr : Room k X.A) : DefOk X C E0 x n g :=
  ⟨_, _, _, _, _, F, hr, d.mg, d.F.kp, d.b, pass0⟩
theorem em_gi {x : Str} {i : Int} {pos : Pos} (h : GI X.mg x i) (hg : Gl X x := by rfl) (hd : (x == ("__debug__" : Str)) = false := by decide) : EOk X C W (.Name x pos) (eC (.int i)) := by
  obtain ⟨u, hm, hu⟩ := h.ex
  exact em_globInt hm hu hg hd
/-! a < b < c -/
def eChn (g g' : T → T → M T) (a b c : EM) : EM := fun τ => bind (a τ) fun x => bind (b τ) fun y => bind (bind (g x y) isB) fun k => if k then bind (c τ) fun z => g' y z else ret (.bl false)
theorem chn_core {ma mb mc : EM} {g g' : T → T → M T} {ta tb tc : TE} {r r' : R2} (k1 : ∀ σ τ H as S Q, EnvOk X.K C H as τ σ → StOk X.K C H as S → WpV X.K C W (ma τ S) as H Q → ta σ H Q)
    (k2 : ∀ σ τ H as S Q, EnvOk X.K C H as τ σ → StOk X.K C H as S → WpV X.K C W (mb τ S) as H Q → tb σ H Q) (k3 : ∀ σ τ H as S Q, EnvOk X.K C H as τ σ → StOk X.K C H as S → WpV X.K C W (mc τ S) as H Q → tc σ H Q)
    (k : ∀ W a b x y H as S Q, StOk X.K C H as S → Rep X.K C H as a x → Rep X.K C H as b y → WpV X.K C W (g a b S) as H Q → r x y H Q)
    (k' : ∀ W a b x y H as S Q, StOk X.K C H as S → Rep X.K C H as a x → Rep X.K C H as b y → WpV X.K C W (g' a b S) as H Q → r' x y H Q) :
    ∀ σ τ H as S Q, EnvOk X.K C H as τ σ → StOk X.K C H as S → WpV X.K C W (eChn g g' ma mb mc τ S) as H Q → tChain r r' ta tb tc σ H Q := fun σ τ H as S Q he hs h => by
  refine k1 σ τ H as S _ he hs ((wpv_bind h).imp fun x H1 ⟨t1, as1, S1, s1, r1, e1, h1⟩ => ?_)
  refine k2 σ τ H1 as1 S1 _ (he.mono e1) s1 ((wpv_bind h1).imp fun y H2 ⟨t2, as2, S2, s2, r2, e2, h2⟩ => ?_)
  refine k W t1 t2 x y H2 as2 S2 _ s2 (Rep.mono e2 _ _ r1) r2 ((wpb_of (wpvb_bind h2)).imp fun z H3 ⟨c, e, as3, S3, s3, e3, h3⟩ => ⟨c, e, ?_⟩)
  cases c with
  | false => exact wpv_ret h3 s3 rfl
  | true => exact k3 σ τ H3 as3 S3 _ (he.mono ((e1.trans e2).trans e3)) s3 ((wpv_bind h3).imp fun w H4 ⟨t4, as4, S4, s4, r4, e4, h4⟩ => k' W t2 t4 y w H4 as4 S4 Q s4 (Rep.mono (e3.trans e4) _ _ r2) r4 h4)
theorem em_chn {op op' : CmpOp} {g g' : T → T → M T} {a b c : Expr} {ma mb mc : EM} {pos : Pos} (ho : OpM X C (compareOp op) g) (ho' : OpM X C (compareOp op') g') (ha : EOk X C W a ma) (hb : EOk X C W b mb) (hc : EOk X C W c mc)
    (hm : lastMarks [op, op'] [b, c] = false := by with_unfolding_all rfl) : EOk X C W (.Compare a [op, op'] [b, c] pos) (eChn g g' ma mb mc) := by
  obtain ⟨r, hr, k⟩ := ho
  obtain ⟨r', hr', k'⟩ := ho'
  obtain ⟨ta, p1, k1⟩ := ha
  obtain ⟨tb, p2, k2⟩ := hb
  obtain ⟨tc, p3, k3⟩ := hc
  exact ⟨_, pe_chain hr hr' p1 p2 p3 hm, chn_core k1 k2 k3 k k'⟩
theorem tm_chn {op op' : CmpOp} {g g' : T → T → M T} {a b c : Expr} {ma mb mc : EM} {pos : Pos} (ho : OpM X C (compareOp op) g) (ho' : OpM X C (compareOp op') g') (ha : EOk X C W a ma) (hb : EOk X C W b mb) (hc : EOk X C W c mc)
    (hm : lastMarks [op, op'] [b, c] = false := by with_unfolding_all rfl) : TOk X C W (.Compare a [op, op'] [b, c] pos) (tOf (eChn g g' ma mb mc)) := by
  obtain ⟨r, hr, k⟩ := ho
  obtain ⟨r', hr', k'⟩ := ho'
  obtain ⟨ta, p1, k1⟩ := ha
  obtain ⟨tb, p2, k2⟩ := hb
  obtain ⟨tc, p3, k3⟩ := hc
  exact ⟨_, pt_chain hr hr' p1 p2 p3 hm, fun σ τ H as S Q he hs h => chn_core k1 k2 k3 k k' σ τ H as S _ he hs (wpb_of h)⟩
end
def wn : Nat := 100000
section
variable {K : PySem.W.Frag} {mg : Str → Option Value} {h : Heap}
/-- a def as the head's facts tell it -/
def td_mk {x qual : Str} {st : Stmt} {ps : List Str} {f : Addr} {oc kV doc pm cd ct : Value} {od an : Option Addr} {sl : Array (Option Value)} (X : K.In h) (G : h.Ns mainGlobals mg) (a : PySem.W.nsIn K mainGlobals x = some (some (.ref f)))
    (l : K.lookup f = some ⟨oc, od, .func (PySem.W.fnOf x qual (defArgs st) (defBody st) (defScope st) .none kV doc pm an cd ct), sl⟩) (c : PySem.W.codeIn K cd qual = true) (k : PySem.W.keepIn K (.ref f) = true)
    (hb : ∀ (kV doc pm : Value) (an : Option Addr) (cdv ct : Value) (us : List Value), us.length = ps.length → bindArgs (PySem.W.fnOf x qual (defArgs st) (defBody st) (defScope st) .none kV doc pm an cdv ct) ⟨us, []⟩ = pure (ps.zip us)) : TD K mg x qual st ps :=
  ⟨f, _, fun_mk l c k, PySem.W.mg_of X G a, hb kV doc pm an cd ct⟩
theorem gi_mk {x : Str} {i : Int} {t : Tok} (X : K.In h) (G : h.Ns mainGlobals mg) (a : PySem.W.nsIn K mainGlobals x = some (some (.int i t))) : GI mg x i := ⟨_, PySem.W.mg_of X G a, t, rfl⟩
end
/-- a law's promise: its mirror, wherever its classes lie -/
def spLw (m : List T → M T) (K : PySem.W.Frag) : Sp := fun vs H Q E => ∀ C, spM K C 1 m vs H Q E
theorem walk_law {l : PySem.W.OpenLaw} {k : Nat} {q : Program} {loose : List Str} {XP : (Str → Option Value) → Heap → Prop} {YP : World → Heap → Prop} {d : DefRec} {K : Params → PySem.W.Frag} {x : Str} {m : List T → M T}
    (main : ∀ ns : List Int, ns.length ≤ 63 → ∃ S, m [T.scr (ns.map T.int)] [] = some (Rs.ok (T.bl true), S))
    (hn : l.most = some 63) (hdf : d.params.defaults = []) (hr : Room k PySem.callerA) (hY : ∀ (w : World) (h : Heap), YP w h → (K w.params).In h)
    (F : ∀ (w : World) (mg : Str → Option Value) (fa : Addr) (h : Heap), (K w.params).In h → h.Ns mainGlobals mg → mg d.name = some (.ref fa) →
      ∃ fd : FuncData, (∀ (s : Shared) (u : Value), BindsTo s fd ⟨[u], []⟩ [(x, u)]) ∧
        ∀ base : Heap, (K w.params).In base → base.Ns mainGlobals mg → ∃ C, FnOk l.prog w (K w.params) mg base CX0 k fa fd [x] (spM (K w.params) C 1 m)) :
    PySem.W.WalkO q loose XP YP l.row.toRowW d [] (fun f vs => PySem.call f vs) := by
  refine L2.walk_ofK (n := 63) (k := k) (x := x) (CX := CX0) (sp := spLw m) hn (by decide) hdf hr hY (fun w mg fa h X G hm => ?_) (fun K H a ns hl _ hS C => ?_) fun _ _ _ _ z => z
  · obtain ⟨fd, h1, h2⟩ := F w mg fa h X G hm
    refine ⟨fd, h1, fun base X' G' => ?_⟩
    obtain ⟨C, hF⟩ := h2 base X' G'
    exact hF.imp fun vs H Q E z => z C
  · obtain ⟨S, e⟩ := main ns hl
    refine ⟨rfl, [T.scr (ns.map T.int)], [], [], ⟨rfl, fun i c p z => by simp at z, fun i j p q z => by simp at z⟩, ⟨.ref a, [], rfl, ⟨a, ns.map V.int, rfl, TrkL.of hS, ?_⟩, rfl⟩, ?_⟩
    · have : ∀ ns : List Int, RepL K C H [] (ns.map T.int) (ns.map V.int) := fun ns => by
        induction ns with
        | nil => exact rfl
        | cons n r ih => exact ⟨V.int n, r.map V.int, rfl, rfl, ih⟩
      exact this ns
    · rw [e]
      exact fun v H' as' _ _ r => r
end Zm
set_option Elab.async false
set_option linter.all false
set_option maxRecDepth 100000
set_option maxHeartbeats 4000000
/-! ZGv: what a mirror gives: plain rules, for simp and by hand. -/
namespace Zm
open PySem L2
/-- an equation that simp shall not try by unfolding -/
theorem nr {α : Sort u} {a b : α} (h : a = b) : a = b := h
/-- the result is there, is no error, and Q holds of it -/
def Gv {α : Type} (r : Option (Rs α × Sto)) (Q : α → Sto → Prop) : Prop := match r with
  | some (.ok a, S) => Q a S
  | _ => False
section
variable {α β : Type} {S : Sto} {Q Q' : α → Sto → Prop}
theorem Gv_ret {a : α} : Gv (ret a S) Q = Q a S := nr rfl
theorem Gv_some {a : α} : Gv (some (.ok a, S)) Q = Q a S := nr rfl
theorem Gv_none : Gv (none : Option (Rs α × Sto)) Q = False := nr rfl
theorem Gv_fail : Gv ((fail : M α) S) Q = False := nr rfl
theorem Gv_bind {m : M β} {f : β → M α} : Gv (bind m f S) Q = Gv (m S) fun a S' => Gv (f a S') Q := by
  unfold bind Gv
  match m S with
  | none => rfl
  | some (.ok a, S') => rfl
  | some (.er x, S') => rfl
theorem Gv.imp {r : Option (Rs α × Sto)} (h : Gv r Q) (k : ∀ a S, Q a S → Q' a S) : Gv r Q' := by
  match r, h with
  | some (.ok a, S), h => exact k a S h
theorem Gv_chk {c : Prop} [Decidable c] {m : M α} : Gv ((if c then m else fail) S) Q = (c ∧ Gv (m S) Q) := by
  by_cases h : c
  · rw [if_pos h]; exact (propext ⟨fun x => ⟨h, x⟩, fun x => x.2⟩)
  · rw [if_neg h]; exact (propext ⟨fun x => x.elim, fun x => absurd x.1 h⟩)
theorem Gv_chk' {c : Prop} [Decidable c] {r : Option (Rs α × Sto)} : Gv (if c then r else none) Q = (c ∧ Gv r Q) := by
  by_cases h : c
  · rw [if_pos h]; exact (propext ⟨fun x => ⟨h, x⟩, fun x => x.2⟩)
  · rw [if_neg h]; exact (propext ⟨fun x => x.elim, fun x => absurd x.1 h⟩)
theorem Gv_ite {c : Prop} [Decidable c] {m n : M α} : Gv ((if c then m else n) S) Q = if c then Gv (m S) Q else Gv (n S) Q := by
  by_cases h : c
  · rw [if_pos h, if_pos h]
  · rw [if_neg h, if_neg h]
theorem Gv_eq {r : Option (Rs α × Sto)} {a : α} (h : r = some (.ok a, S)) : Gv r Q = Q a S := by rw [h]; rfl
theorem gv_of {r : Option (Rs α × Sto)} {a : α} (h : ∀ Q : α → Sto → Prop, Q a S → Gv r Q) : Gv r Q = Q a S := by
  have e := h (fun b S' => b = a ∧ S' = S) ⟨rfl, rfl⟩
  match r, e with
  | some (.ok b, S'), ⟨e1, e2⟩ => rw [e1, e2]; rfl
theorem Gv.ex {r : Option (Rs α × Sto)} (h : Gv r Q) : ∃ a S', r = some (.ok a, S') ∧ Q a S' := by
  match r, h with
  | some (.ok a, S), h => exact ⟨a, S, rfl, h⟩
end
section
variable {S : Sto} {τ : Ev} {Q : T → Sto → Prop} {B : Bool → Sto → Prop} {A : List T → Sto → Prop} {G : Ev → Sto → Prop} {R : SR → Sto → Prop} {t x y z : T} {ts xs : List T} {i j l n : Nat} {m a b c : EM} {r : Ev → M (List T)} {k k' : Ev → M Bool} {g g' : T → T → M T} {u : T → M T} {f : List T → M T} {v w : SM}
theorem ite_F {c A : Prop} [Decidable c] : (if c then A else False) = (c ∧ A) := by
  by_cases h : c
  · rw [if_pos h]; exact propext ⟨fun x => ⟨h, x⟩, fun x => x.2⟩
  · rw [if_neg h]; exact propext ⟨fun x => x.elim, fun x => absurd x.1 h⟩
/-! each combinator hands its answer to a named «what then» -/
def OpK1 (g : T → T → M T) (b : EM) (τ : Ev) (Q : T → Sto → Prop) : T → Sto → Prop := fun x S => Gv (b τ S) fun y S' => Gv (g x y S') Q
def OpK2 (g : T → T → M T) (x : T) (Q : T → Sto → Prop) : T → Sto → Prop := fun y S => Gv (g x y S) Q
def UnK (u : T → M T) (Q : T → Sto → Prop) : T → Sto → Prop := fun x S => Gv (u x S) Q
def BK (B : Bool → Sto → Prop) : T → Sto → Prop := fun x S => Gv (isB x S) B
def NotK (B : Bool → Sto → Prop) : Bool → Sto → Prop := fun x S => B (!x) S
def AndK (k : Ev → M Bool) (τ : Ev) (B : Bool → Sto → Prop) : Bool → Sto → Prop := fun x S => if x = true then Gv (k τ S) B else B false S
def OrK (k : Ev → M Bool) (τ : Ev) (B : Bool → Sto → Prop) : Bool → Sto → Prop := fun x S => if x = true then B true S else Gv (k τ S) B
def AndE (b : EM) (τ : Ev) (Q : T → Sto → Prop) : Bool → Sto → Prop := fun x S => if x = true then Gv (b τ S) Q else Q (.bl false) S
def OrE (b : EM) (τ : Ev) (Q : T → Sto → Prop) : Bool → Sto → Prop := fun x S => if x = true then Q (.bl true) S else Gv (b τ S) Q
def NotE (Q : T → Sto → Prop) : Bool → Sto → Prop := fun x S => Q (.bl (!x)) S
def IfE (a b : EM) (τ : Ev) (Q : T → Sto → Prop) : Bool → Sto → Prop := fun x S => if x = true then Gv (a τ S) Q else Gv (b τ S) Q
def ChK1 (g g' : T → T → M T) (b c : EM) (τ : Ev) (Q : T → Sto → Prop) : T → Sto → Prop := fun x S => Gv (b τ S) fun y S' => Gv (g x y S') (BK fun k S => if k = true then Gv (c τ S) (OpK2 g' y Q) else Q (.bl false) S)
def ChK2 (g g' : T → T → M T) (c : EM) (x : T) (τ : Ev) (Q : T → Sto → Prop) : T → Sto → Prop := fun y S' => Gv (g x y S') (BK fun k S => if k = true then Gv (c τ S) (OpK2 g' y Q) else Q (.bl false) S)
def ChK3 (g' : T → T → M T) (c : EM) (y : T) (τ : Ev) (Q : T → Sto → Prop) : Bool → Sto → Prop := fun k S => if k = true then Gv (c τ S) (OpK2 g' y Q) else Q (.bl false) S
def CoK1 (r : Ev → M (List T)) (τ : Ev) (A : List T → Sto → Prop) : T → Sto → Prop := fun x S => Gv (r τ S) fun xs S' => A (x :: xs) S'
def CoK2 (x : T) (A : List T → Sto → Prop) : List T → Sto → Prop := fun xs S => A (x :: xs) S
def TuK (Q : T → Sto → Prop) : List T → Sto → Prop := fun ts S => ts.length ≤ big ∧ Q (.tup ts) S
def LsK (Q : T → Sto → Prop) : List T → Sto → Prop := fun ts S => ts.length ≤ big ∧ Q (.lst ts) S
def CeK (Q : T → Sto → Prop) : List T → Sto → Prop := fun ts S => ts.length ≤ big ∧ noHs ts = true ∧ Q (.hdl S.length) (S ++ [.lst ts])
def CaK (f : List T → M T) (Q : T → Sto → Prop) : List T → Sto → Prop := fun ts S => Gv (f ts S) Q
def SqK (w : SM) (R : SR → Sto → Prop) : SR → Sto → Prop := fun r S => match r with
  | .nx τ => Gv (w τ S) R
  | .bk τ => R (.bk τ) S
  | .ct τ => R (.ct τ) S
  | .rt t => R (.rt t) S
def ExK (τ : Ev) (R : SR → Sto → Prop) : T → Sto → Prop := fun _ S => R (.nx τ) S
def RtK (R : SR → Sto → Prop) : T → Sto → Prop := fun t S => R (.rt t) S
def IfK (v w : SM) (τ : Ev) (R : SR → Sto → Prop) : Bool → Sto → Prop := fun x S => if x = true then Gv (v τ S) R else Gv (w τ S) R
def NxK (R : SR → Sto → Prop) : Ev → Sto → Prop := fun τ S => R (.nx τ) S
def AsK (g : GM) (τ : Ev) (R : SR → Sto → Prop) : T → Sto → Prop := fun t S => Gv (g t τ S) (NxK R)
/-- an environment with one more value, then -/
def St1 (τ : Ev) (i : Nat) (t : T) (h : Ev → Prop) : Prop := h (τ.set i (some t))
def SeK (i : Nat) (τ : Ev) (R : SR → Sto → Prop) : T → Sto → Prop := fun t S => St1 τ i t fun τ' => R (.nx τ') S
def P2K (i j : Nat) (τ : Ev) (R : SR → Sto → Prop) : List T → Sto → Prop := fun ts S => match ts with
  | [a, b] => St1 τ i a fun τ1 => St1 τ1 j b fun τ2 => R (.nx τ2) S
  | _ => False
def P3K (i j l : Nat) (τ : Ev) (R : SR → Sto → Prop) : List T → Sto → Prop := fun ts S => match ts with
  | [a, b, c] => St1 τ i a fun τ1 => St1 τ1 j b fun τ2 => St1 τ2 l c fun τ3 => R (.nx τ3) S
  | _ => False
def GsK (r : List T → Ev → M Ev) (ts : List T) (G : Ev → Sto → Prop) : Ev → Sto → Prop := fun τ S => Gv (r ts τ S) G
def FoK (g : GM) (b : SM) (τ : Ev) (R : SR → Sto → Prop) : List T → Sto → Prop := fun ts S => Gv (forL g b ts τ S) R
def SeqT (A : List T → Sto → Prop) : T → Sto → Prop := fun t S => match t with
  | .tup ts => A ts S
  | .lst ts => A ts S
  | .scr ts => A ts S
  | _ => False
def R1K (A : List T → Sto → Prop) : List T → Sto → Prop := fun ts S => match ts with
  | [.int j] => in62 j = true ∧ A (rngT 0 j.toNat) S
  | _ => False
def R2K (A : List T → Sto → Prop) : List T → Sto → Prop := fun ts S => match ts with
  | [.int i, .int j] => (in62 i && in62 j) = true ∧ A (rngT i (j - i).toNat) S
  | _ => False
def PuK1 (mi : EM) (t : T) (τ : Ev) (G : Ev → Sto → Prop) : T → Sto → Prop := fun o S => Gv (mi τ S) fun i S' => Gv (putT o i t S') fun _ S'' => G τ S''
def PuK2 (o t : T) (τ : Ev) (G : Ev → Sto → Prop) : T → Sto → Prop := fun i S' => Gv (putT o i t S') fun _ S'' => G τ S''
def PuK3 (τ : Ev) (G : Ev → Sto → Prop) : T → Sto → Prop := fun _ S => G τ S
def ApK (r : Ev → M (List T)) (τ : Ev) (Q : T → Sto → Prop) : T → Sto → Prop := fun a S => (∃ p, cellL S a = some p) ∧ Gv (r τ S) (CaK (appT a) Q)
theorem k_var0 : Gv (eVar 0 (some t :: τ) S) Q = Q t S := nr rfl
theorem k_varS {o : Option T} : Gv (eVar (i + 1) (o :: τ) S) Q = Gv (eVar i τ S) Q := nr rfl
theorem k_c : Gv (eC t τ S) Q = Q t S := nr rfl
theorem k_op : Gv (eOp g a b τ S) Q = Gv (a τ S) (OpK1 g b τ Q) := by
  show Gv (bind _ _ S) Q = _
  rw [Gv_bind]
  congr; funext x S'
  rw [Gv_bind]; rfl
theorem k_op1 : OpK1 g b τ Q x S = Gv (b τ S) (OpK2 g x Q) := nr rfl
theorem k_op2 : OpK2 g x Q y S = Gv (g x y S) Q := nr rfl
theorem k_un : Gv (eUn u a τ S) Q = Gv (a τ S) (UnK u Q) := Gv_bind
theorem k_un1 : UnK u Q x S = Gv (u x S) Q := nr rfl
theorem k_tOf : Gv (tOf m τ S) B = Gv (m τ S) (BK B) := Gv_bind
theorem k_b {e : Bool} : BK B (.bl e) S = B e S := nr rfl
theorem k_not : Gv (tNotM k τ S) B = Gv (k τ S) (NotK B) := Gv_bind
theorem k_not1 {e : Bool} : NotK B e S = B (!e) S := nr rfl
theorem k_and : Gv (tAndM k k' τ S) B = Gv (k τ S) (AndK k' τ B) := by
  show Gv (bind _ _ S) B = _
  rw [Gv_bind]
  congr; funext x S'
  rw [Gv_ite]; rfl
theorem k_and1 {e : Bool} : AndK k τ B e S = if e = true then Gv (k τ S) B else B false S := nr rfl
theorem k_or : Gv (tOrM k k' τ S) B = Gv (k τ S) (OrK k' τ B) := by
  show Gv (bind _ _ S) B = _
  rw [Gv_bind]
  congr; funext x S'
  rw [Gv_ite]; rfl
theorem k_or1 {e : Bool} : OrK k τ B e S = if e = true then B true S else Gv (k τ S) B := nr rfl
theorem k_eand : Gv (eAnd a b τ S) Q = Gv (a τ S) (BK (AndE b τ Q)) := by
  show Gv (bind _ _ S) Q = _
  rw [Gv_bind]
  show Gv (bind _ _ S) _ = _
  rw [Gv_bind]
  congr; funext x S'
  show Gv (isB x S') _ = Gv (isB x S') _
  congr; funext e S'
  rw [Gv_ite]; rfl
theorem k_eand1 {e : Bool} : AndE b τ Q e S = if e = true then Gv (b τ S) Q else Q (.bl false) S := nr rfl
theorem k_eor : Gv (eOr a b τ S) Q = Gv (a τ S) (BK (OrE b τ Q)) := by
  show Gv (bind _ _ S) Q = _
  rw [Gv_bind]
  show Gv (bind _ _ S) _ = _
  rw [Gv_bind]
  congr; funext x S'
  show Gv (isB x S') _ = Gv (isB x S') _
  congr; funext e S'
  rw [Gv_ite]; rfl
theorem k_eor1 {e : Bool} : OrE b τ Q e S = if e = true then Q (.bl true) S else Gv (b τ S) Q := nr rfl
theorem k_enot : Gv (eNot a τ S) Q = Gv (a τ S) (BK (NotE Q)) := by
  show Gv (bind _ _ S) Q = _
  rw [Gv_bind]
  show Gv (bind _ _ S) _ = _
  rw [Gv_bind]; rfl
theorem k_enot1 {e : Bool} : NotE Q e S = Q (.bl (!e)) S := nr rfl
theorem k_eif : Gv (eIf k a b τ S) Q = Gv (k τ S) (IfE a b τ Q) := by
  show Gv (bind _ _ S) Q = _
  rw [Gv_bind]
  congr; funext x S'
  rw [Gv_ite]; rfl
theorem k_eif1 {e : Bool} : IfE a b τ Q e S = if e = true then Gv (a τ S) Q else Gv (b τ S) Q := nr rfl
theorem k_chn : Gv (eChn g g' a b c τ S) Q = Gv (a τ S) (ChK1 g g' b c τ Q) := by
  show Gv (bind _ _ S) Q = _
  rw [Gv_bind]
  congr; funext x S'
  rw [Gv_bind]
  unfold ChK1
  congr; funext y S'
  rw [Gv_bind]
  show Gv (bind _ _ S') _ = _
  rw [Gv_bind]
  congr; funext z S'
  unfold BK
  congr; funext e S'
  rw [Gv_ite]
  by_cases h : e = true
  · rw [if_pos h, if_pos h, Gv_bind]; rfl
  · rw [if_neg h, if_neg h]; rfl
theorem k_chn1 : ChK1 g g' b c τ Q x S = Gv (b τ S) (ChK2 g g' c x τ Q) := nr rfl
theorem k_chn2 : ChK2 g g' c x τ Q y S = Gv (g x y S) (BK (ChK3 g' c y τ Q)) := nr rfl
theorem k_chn3 {e : Bool} : ChK3 g' c y τ Q e S = if e = true then Gv (c τ S) (OpK2 g' y Q) else Q (.bl false) S := nr rfl
theorem k_nil : Gv (aNil τ S) A = A [] S := nr rfl
theorem k_cons : Gv (aCons a r τ S) A = Gv (a τ S) (CoK1 r τ A) := by
  show Gv (bind _ _ S) A = _
  rw [Gv_bind]
  congr; funext x S'
  rw [Gv_bind]; rfl
theorem k_cons1 : CoK1 r τ A x S = Gv (r τ S) (CoK2 x A) := nr rfl
theorem k_cons2 : CoK2 x A xs S = A (x :: xs) S := nr rfl
theorem k_tup : Gv (eTup r τ S) Q = Gv (r τ S) (TuK Q) := by
  show Gv (bind _ _ S) Q = _
  rw [Gv_bind]
  congr; funext x S'
  rw [Gv_chk]; rfl
theorem k_lst : Gv (eLst r τ S) Q = Gv (r τ S) (LsK Q) := by
  show Gv (bind _ _ S) Q = _
  rw [Gv_bind]
  congr; funext x S'
  rw [Gv_chk]; rfl
theorem k_cel : Gv (eCel r τ S) Q = Gv (r τ S) (CeK Q) := by
  show Gv (bind _ _ S) Q = _
  rw [Gv_bind]
  congr; funext x S'
  rw [Gv_chk]
  show (_ ∧ Gv (newC x S') Q) = _
  unfold newC
  rw [Gv_chk']; rfl
theorem k_tup1 : TuK Q ts S = (ts.length ≤ big ∧ Q (.tup ts) S) := nr rfl
theorem k_lst1 : LsK Q ts S = (ts.length ≤ big ∧ Q (.lst ts) S) := nr rfl
theorem k_cel1 : CeK Q ts S = (ts.length ≤ big ∧ noHs ts = true ∧ Q (.hdl S.length) (S ++ [.lst ts])) := nr rfl
theorem k_call : Gv (eCall f r τ S) Q = Gv (r τ S) (CaK f Q) := Gv_bind
theorem k_call1 : CaK f Q ts S = Gv (f ts S) Q := nr rfl
theorem k_skip : Gv (sSkip τ S) R = R (.nx τ) S := nr rfl
theorem k_bk : Gv (sBk τ S) R = R (.bk τ) S := nr rfl
theorem k_ct : Gv (sCt τ S) R = R (.ct τ) S := nr rfl
theorem k_no : Gv (sNo τ S) R = False := nr rfl
theorem k_seq : Gv (sSeq v w τ S) R = Gv (v τ S) (SqK w R) := by
  show Gv (bind _ _ S) R = _
  rw [Gv_bind]
  congr; funext x S'
  cases x <;> rfl
theorem k_seq1 : SqK w R (.nx τ) S = Gv (w τ S) R := nr rfl
theorem k_seq2 : SqK w R (.bk τ) S = R (.bk τ) S := nr rfl
theorem k_seq3 : SqK w R (.ct τ) S = R (.ct τ) S := nr rfl
theorem k_seq4 : SqK w R (.rt t) S = R (.rt t) S := nr rfl
theorem k_ex : Gv (sEx m τ S) R = Gv (m τ S) (ExK τ R) := Gv_bind
theorem k_ex1 : ExK τ R t S = R (.nx τ) S := nr rfl
theorem k_ret : Gv (sRet m τ S) R = Gv (m τ S) (RtK R) := Gv_bind
theorem k_ret1 : RtK R t S = R (.rt t) S := nr rfl
theorem k_if : Gv (sIf k v w τ S) R = Gv (k τ S) (IfK v w τ R) := by
  show Gv (bind _ _ S) R = _
  rw [Gv_bind]
  congr; funext x S'
  rw [Gv_ite]; rfl
theorem k_if1 {e : Bool} : IfK v w τ R e S = if e = true then Gv (v τ S) R else Gv (w τ S) R := nr rfl
theorem k_as {h : GM} : Gv (sAs m h τ S) R = Gv (m τ S) (AsK h τ R) := by
  show Gv (bind _ _ S) R = _
  rw [Gv_bind]
  congr; funext x S'
  rw [Gv_bind]; rfl
theorem k_as1 {h : GM} : AsK h τ R t S = Gv (h t τ S) (NxK R) := nr rfl
theorem k_nx : NxK R τ S = R (.nx τ) S := nr rfl
theorem k_st0 {o : Option T} {h : Ev → Prop} : St1 (o :: τ) 0 t h = h (some t :: τ) := nr rfl
theorem k_stS {o : Option T} {h : Ev → Prop} : St1 (o :: τ) (i + 1) t h = St1 τ i t fun τ' => h (o :: τ') := nr rfl
theorem k_set : Gv (sSet i m τ S) R = Gv (m τ S) (SeK i τ R) := Gv_bind
theorem k_set1 : SeK i τ R t S = St1 τ i t fun τ' => R (.nx τ') S := nr rfl
theorem k_par2 : Gv (sPar2 i j r τ S) R = Gv (r τ S) (P2K i j τ R) := by
  show Gv (bind _ _ S) R = _
  rw [Gv_bind]
  congr; funext xs S'
  match xs with
  | [] => rfl
  | [_] => rfl
  | [_, _] => rfl
  | _ :: _ :: _ :: _ => rfl
theorem k_par21 : P2K i j τ R [x, y] S = St1 τ i x fun τ1 => St1 τ1 j y fun τ2 => R (.nx τ2) S := nr rfl
theorem k_par3 : Gv (sPar3 i j l r τ S) R = Gv (r τ S) (P3K i j l τ R) := by
  show Gv (bind _ _ S) R = _
  rw [Gv_bind]
  congr; funext xs S'
  match xs with
  | [] => rfl
  | [_] => rfl
  | [_, _] => rfl
  | [_, _, _] => rfl
  | _ :: _ :: _ :: _ :: _ => rfl
theorem k_par31 : P3K i j l τ R [x, y, z] S = St1 τ i x fun τ1 => St1 τ1 j y fun τ2 => St1 τ2 l z fun τ3 => R (.nx τ3) S := nr rfl
theorem k_nm : Gv (gNm i t τ S) G = St1 τ i t fun τ' => G τ' S := nr rfl
theorem k_gsnil : Gv (gsNil [] τ S) G = G τ S := nr rfl
theorem k_gscons {h : GM} {p : List T → Ev → M Ev} : Gv (gsCons h p (t :: ts) τ S) G = Gv (h t τ S) (GsK p ts G) := Gv_bind
theorem k_gscons1 {p : List T → Ev → M Ev} : GsK p ts G τ S = Gv (p ts τ S) G := nr rfl
theorem k_gix {mo mi : EM} : Gv (gIx mo mi t τ S) G = Gv (mo τ S) (PuK1 mi t τ G) := by
  show Gv (bind _ _ S) G = _
  rw [Gv_bind]
  congr; funext o S'
  rw [Gv_bind]
  unfold PuK1
  congr; funext o S'
  rw [Gv_bind]; rfl
theorem k_gix1 {mi : EM} : PuK1 mi t τ G x S = Gv (mi τ S) (PuK2 x t τ G) := nr rfl
theorem k_gix2 : PuK2 x t τ G y S = Gv (putT x y t S) (PuK3 τ G) := nr rfl
theorem k_gix3 : PuK3 τ G x S = G τ S := nr rfl
theorem k_for {h : GM} : Gv (sFor r h w τ S) R = Gv (r τ S) (FoK h w τ R) := Gv_bind
theorem k_for1 {h : GM} : FoK h w τ R ts S = Gv (forL h w ts τ S) R := nr rfl
theorem k_isq : Gv (iSq m τ S) A = Gv (m τ S) (SeqT A) := by
  show Gv (bind _ _ S) A = _
  rw [Gv_bind]
  congr; funext x S'
  cases x <;> rfl
theorem k_isqT : SeqT A (.tup ts) S = A ts S := nr rfl
theorem k_isqL : SeqT A (.lst ts) S = A ts S := nr rfl
theorem k_isqS : SeqT A (.scr ts) S = A ts S := nr rfl
theorem k_r1 : Gv (iR1 r τ S) A = Gv (r τ S) (R1K A) := by
  show Gv (bind _ _ S) A = _
  rw [Gv_bind]
  congr; funext xs S'
  match xs with
  | [.int j] => exact Gv_chk
  | [] => rfl
  | .int _ :: _ :: _ => rfl
  | .non :: _ :: _ => rfl
  | .bl _ :: _ :: _ => rfl
  | .str _ :: _ :: _ => rfl
  | .tup _ :: _ :: _ => rfl
  | .lst _ :: _ :: _ => rfl
  | .ins _ _ :: _ :: _ => rfl
  | .hdl _ :: _ :: _ => rfl
  | .scr _ :: _ :: _ => rfl
  | .ty _ :: _ :: _ => rfl
  | .cls _ :: _ :: _ => rfl
  | [.non] => rfl
  | [.bl _] => rfl
  | [.str _] => rfl
  | [.tup _] => rfl
  | [.lst _] => rfl
  | [.ins _ _] => rfl
  | [.hdl _] => rfl
  | [.scr _] => rfl
  | [.ty _] => rfl
  | [.cls _] => rfl
theorem k_r11 {e : Int} : R1K A [.int e] S = (in62 e = true ∧ A (rngT 0 e.toNat) S) := nr rfl
theorem k_r21 {e h : Int} : R2K A [.int e, .int h] S = ((in62 e && in62 h) = true ∧ A (rngT e (h - e).toNat) S) := nr rfl
theorem k_r2 (h : Gv (r τ S) (R2K A)) : Gv (iR2 r τ S) A := by
  show Gv (bind _ _ S) A
  rw [Gv_bind]
  refine h.imp fun xs S' q => ?_
  unfold R2K at q
  split at q
  · rw [Gv_chk]; exact q
  · exact q.elim
theorem k_app : Gv (eApp m r τ S) Q = Gv (m τ S) (ApK r τ Q) := by
  show Gv (bind _ _ S) Q = _
  rw [Gv_bind]
  congr; funext a S'
  unfold ApK
  match h : cellL S' a with
  | none => exact propext ⟨fun x => x.elim, fun x => by obtain ⟨⟨p, e⟩, _⟩ := x; cases e⟩
  | some p =>
    show Gv (bind (r τ) (appT a) S') Q = _
    rw [Gv_bind]
    exact propext ⟨fun x => ⟨⟨p, rfl⟩, x⟩, fun x => x.2⟩
theorem k_app1 {h : Nat} {ys : List T} (hS : S[h]? = some (.lst ys)) : ApK r τ Q (.hdl h) S = Gv (r τ S) (CaK (appT (.hdl h)) Q) := by
  refine propext ⟨fun x => x.2, fun x => ⟨⟨(h, ys), ?_⟩, x⟩⟩
  unfold cellL
  dsimp only
  rw [hS]
theorem k_ar0 : Gv (ar 0 f [] S) Q = Gv (f [] S) Q := nr rfl
theorem k_ar1 {p0 : T} : Gv (ar 1 f [p0] S) Q = Gv (f [p0] S) Q := nr rfl
theorem k_gT1 {p : List T → Ev → M Ev} {p0 : T} : Gv (gTp 1 p (.tup [p0]) τ S) G = Gv (p [p0] τ S) G := nr rfl
theorem k_gL1 {p : List T → Ev → M Ev} {p0 : T} : Gv (gTp 1 p (.lst [p0]) τ S) G = Gv (p [p0] τ S) G := nr rfl
theorem k_ar2 {p0 p1 : T} : Gv (ar 2 f [p0, p1] S) Q = Gv (f [p0, p1] S) Q := nr rfl
theorem k_gT2 {p : List T → Ev → M Ev} {p0 p1 : T} : Gv (gTp 2 p (.tup [p0, p1]) τ S) G = Gv (p [p0, p1] τ S) G := nr rfl
theorem k_gL2 {p : List T → Ev → M Ev} {p0 p1 : T} : Gv (gTp 2 p (.lst [p0, p1]) τ S) G = Gv (p [p0, p1] τ S) G := nr rfl
theorem k_ar3 {p0 p1 p2 : T} : Gv (ar 3 f [p0, p1, p2] S) Q = Gv (f [p0, p1, p2] S) Q := nr rfl
theorem k_gT3 {p : List T → Ev → M Ev} {p0 p1 p2 : T} : Gv (gTp 3 p (.tup [p0, p1, p2]) τ S) G = Gv (p [p0, p1, p2] τ S) G := nr rfl
theorem k_gL3 {p : List T → Ev → M Ev} {p0 p1 p2 : T} : Gv (gTp 3 p (.lst [p0, p1, p2]) τ S) G = Gv (p [p0, p1, p2] τ S) G := nr rfl
theorem k_ar4 {p0 p1 p2 p3 : T} : Gv (ar 4 f [p0, p1, p2, p3] S) Q = Gv (f [p0, p1, p2, p3] S) Q := nr rfl
theorem k_gT4 {p : List T → Ev → M Ev} {p0 p1 p2 p3 : T} : Gv (gTp 4 p (.tup [p0, p1, p2, p3]) τ S) G = Gv (p [p0, p1, p2, p3] τ S) G := nr rfl
theorem k_gL4 {p : List T → Ev → M Ev} {p0 p1 p2 p3 : T} : Gv (gTp 4 p (.lst [p0, p1, p2, p3]) τ S) G = Gv (p [p0, p1, p2, p3] τ S) G := nr rfl
theorem k_ar5 {p0 p1 p2 p3 p4 : T} : Gv (ar 5 f [p0, p1, p2, p3, p4] S) Q = Gv (f [p0, p1, p2, p3, p4] S) Q := nr rfl
theorem k_gT5 {p : List T → Ev → M Ev} {p0 p1 p2 p3 p4 : T} : Gv (gTp 5 p (.tup [p0, p1, p2, p3, p4]) τ S) G = Gv (p [p0, p1, p2, p3, p4] τ S) G := nr rfl
theorem k_gL5 {p : List T → Ev → M Ev} {p0 p1 p2 p3 p4 : T} : Gv (gTp 5 p (.lst [p0, p1, p2, p3, p4]) τ S) G = Gv (p [p0, p1, p2, p3, p4] τ S) G := nr rfl
theorem k_ar6 {p0 p1 p2 p3 p4 p5 : T} : Gv (ar 6 f [p0, p1, p2, p3, p4, p5] S) Q = Gv (f [p0, p1, p2, p3, p4, p5] S) Q := nr rfl
theorem k_gT6 {p : List T → Ev → M Ev} {p0 p1 p2 p3 p4 p5 : T} : Gv (gTp 6 p (.tup [p0, p1, p2, p3, p4, p5]) τ S) G = Gv (p [p0, p1, p2, p3, p4, p5] τ S) G := nr rfl
theorem k_gL6 {p : List T → Ev → M Ev} {p0 p1 p2 p3 p4 p5 : T} : Gv (gTp 6 p (.lst [p0, p1, p2, p3, p4, p5]) τ S) G = Gv (p [p0, p1, p2, p3, p4, p5] τ S) G := nr rfl
theorem k_ar7 {p0 p1 p2 p3 p4 p5 p6 : T} : Gv (ar 7 f [p0, p1, p2, p3, p4, p5, p6] S) Q = Gv (f [p0, p1, p2, p3, p4, p5, p6] S) Q := nr rfl
theorem k_gT7 {p : List T → Ev → M Ev} {p0 p1 p2 p3 p4 p5 p6 : T} : Gv (gTp 7 p (.tup [p0, p1, p2, p3, p4, p5, p6]) τ S) G = Gv (p [p0, p1, p2, p3, p4, p5, p6] τ S) G := nr rfl
theorem k_gL7 {p : List T → Ev → M Ev} {p0 p1 p2 p3 p4 p5 p6 : T} : Gv (gTp 7 p (.lst [p0, p1, p2, p3, p4, p5, p6]) τ S) G = Gv (p [p0, p1, p2, p3, p4, p5, p6] τ S) G := nr rfl
theorem k_add {i j : Int} : Gv (addM (.int i) (.int j) S) Q = Q (.int (i + j)) S := nr rfl
theorem k_sub {i j : Int} : Gv (subM (.int i) (.int j) S) Q = Q (.int (i - j)) S := nr rfl
theorem k_mul {i j : Int} : Gv (mulM (.int i) (.int j) S) Q = ((mulOk i j = true) ∧ Q (.int (i * j)) S) := Gv_chk
theorem k_fdiv {i j : Int} : Gv (fdivM (.int i) (.int j) S) Q = ((divOk j = true) ∧ Q (.int (i / j)) S) := Gv_chk
theorem k_mod {i j : Int} : Gv (modM (.int i) (.int j) S) Q = (0 < j ∧ Q (.int (i % j)) S) := by
  show Gv ((if _ then _ else fail) S) Q = _
  rw [Gv_chk, decide_eq_true_eq]; rfl
theorem k_pow {i j : Int} : Gv (powM (.int i) (.int j) S) Q = ((powOk i j = true) ∧ Q (.int (i ^ j.toNat)) S) := Gv_chk
theorem k_neg {i : Int} : Gv (negM (.int i) S) Q = Q (.int (-i)) S := nr rfl
theorem k_lt {i j : Int} : Gv (ltM (.int i) (.int j) S) Q = Q (.bl (decide (i < j))) S := nr rfl
theorem k_le {i j : Int} : Gv (leM (.int i) (.int j) S) Q = Q (.bl (decide (i ≤ j))) S := nr rfl
theorem k_gt {i j : Int} : Gv (gtM (.int i) (.int j) S) Q = Q (.bl (decide (j < i))) S := nr rfl
theorem k_ge {i j : Int} : Gv (geM (.int i) (.int j) S) Q = Q (.bl (decide (j ≤ i))) S := nr rfl
theorem k_eq {i j : Int} : Gv (eqM (.int i) (.int j) S) Q = Q (.bl (decide (i = j))) S := nr rfl
theorem k_ne {i j : Int} : Gv (neM (.int i) (.int j) S) Q = Q (.bl (!decide (i = j))) S := nr rfl
theorem k_eqs {i j : Str} : Gv (eqM (.str i) (.str j) S) Q = Q (.bl (i == j)) S := nr rfl
theorem k_nes {i j : Str} : Gv (neM (.str i) (.str j) S) Q = Q (.bl (!(i == j))) S := nr rfl
theorem k_abs {i : Int} : Gv (absM [.int i] S) Q = Q (.int (if i < 0 then -i else i)) S := nr rfl
theorem k_int {i : Int} : Gv (intM [.int i] S) Q = Q (.int i) S := nr rfl
theorem k_intb {e : Bool} : Gv (intM [.bl e] S) Q = Q (.int (if e then 1 else 0)) S := nr rfl
theorem k_boolb {e : Bool} : Gv (boolM [.bl e] S) Q = Q (.bl e) S := nr rfl
theorem k_max {i j : Int} : Gv (maxM [.int i, .int j] S) Q = Q (.int (if j > i then j else i)) S := nr rfl
theorem k_min {i j : Int} : Gv (minM [.int i, .int j] S) Q = Q (.int (if j < i then j else i)) S := nr rfl
theorem k_isi {i : Int} {b : BT} : Gv (isiM [.int i, .ty b] S) Q = Q (.bl (kitT .int b)) S := nr rfl
theorem k_lenS : Gv (lenM [.scr ts] S) Q = Q (.int (ts.length : Nat)) S := nr rfl
theorem k_lenL : Gv (lenM [.lst ts] S) Q = Q (.int (ts.length : Nat)) S := nr rfl
theorem k_lenT : Gv (lenM [.tup ts] S) Q = Q (.int (ts.length : Nat)) S := nr rfl
theorem k_is : Gv (isM t .non S) Q = Q (.bl (isNon t)) S := nr rfl
theorem k_isn : Gv (notM t .non S) Q = Q (.bl (!isNon t)) S := nr rfl
theorem kitII : kitT .int .int = true := rfl
theorem kitIB : kitT .int .bool = false := rfl
theorem kitBI : kitT .bool .int = true := rfl
theorem kitBB : kitT .bool .bool = true := rfl
theorem eqM_int {i j : Int} : eqM (.int i) (.int j) = ret (.bl (decide (i = j))) := rfl
theorem revM_hdl {c : Nat} (hS : S[c]? = some (.lst ts)) : Gv (revM (.hdl c) S) Q = Q (.lst ts.reverse) S := by
  show Gv (match itemsT S (.hdl c) with | some ts => ret (T.lst ts.reverse) S | none => none) Q = _
  unfold itemsT
  dsimp only
  rw [hS]
  rfl
theorem k_revL : Gv (revM (.lst ts) S) Q = Q (.lst ts.reverse) S := nr rfl
theorem lb_0 : (([] : List T).length ≤ big) = True := eq_true (by show 0 ≤ big; decide)
theorem lb_1 {x0 : T} : (([x0] : List T).length ≤ big) = True := eq_true (by show 1 ≤ big; decide)
theorem lb_2 {x0 x1 : T} : (([x0, x1] : List T).length ≤ big) = True := eq_true (by show 2 ≤ big; decide)
theorem lb_3 {x0 x1 x2 : T} : (([x0, x1, x2] : List T).length ≤ big) = True := eq_true (by show 3 ≤ big; decide)
theorem lb_4 {x0 x1 x2 x3 : T} : (([x0, x1, x2, x3] : List T).length ≤ big) = True := eq_true (by show 4 ≤ big; decide)
theorem lb_5 {x0 x1 x2 x3 x4 : T} : (([x0, x1, x2, x3, x4] : List T).length ≤ big) = True := eq_true (by show 5 ≤ big; decide)
theorem lb_6 {x0 x1 x2 x3 x4 x5 : T} : (([x0, x1, x2, x3, x4, x5] : List T).length ≤ big) = True := eq_true (by show 6 ≤ big; decide)
theorem lb_7 {x0 x1 x2 x3 x4 x5 x6 : T} : (([x0, x1, x2, x3, x4, x5, x6] : List T).length ≤ big) = True := eq_true (by show 7 ≤ big; decide)
theorem lb_8 {x0 x1 x2 x3 x4 x5 x6 x7 : T} : (([x0, x1, x2, x3, x4, x5, x6, x7] : List T).length ≤ big) = True := eq_true (by show 8 ≤ big; decide)
theorem lb_9 {x0 x1 x2 x3 x4 x5 x6 x7 x8 : T} : (([x0, x1, x2, x3, x4, x5, x6, x7, x8] : List T).length ≤ big) = True := eq_true (by show 9 ≤ big; decide)
theorem lb_10 {x0 x1 x2 x3 x4 x5 x6 x7 x8 x9 : T} : (([x0, x1, x2, x3, x4, x5, x6, x7, x8, x9] : List T).length ≤ big) = True := eq_true (by show 10 ≤ big; decide)
theorem lb_11 {x0 x1 x2 x3 x4 x5 x6 x7 x8 x9 x10 : T} : (([x0, x1, x2, x3, x4, x5, x6, x7, x8, x9, x10] : List T).length ≤ big) = True := eq_true (by show 11 ≤ big; decide)
theorem lb_12 {x0 x1 x2 x3 x4 x5 x6 x7 x8 x9 x10 x11 : T} : (([x0, x1, x2, x3, x4, x5, x6, x7, x8, x9, x10, x11] : List T).length ≤ big) = True := eq_true (by show 12 ≤ big; decide)
theorem get_app {x : Cell} : (S ++ [x])[S.length]? = some x := by rw [List.getElem?_append_right (Nat.le_refl _), Nat.sub_self]; rfl
theorem set_app {x y : Cell} : (S ++ [x]).set S.length y = S ++ [y] := by rw [List.set_append_right _ _ (Nat.le_refl _), Nat.sub_self]; rfl
theorem take_app {x : Cell} : (S ++ [x]).take S.length = S := by rw [List.take_append_of_le_length (Nat.le_refl _), List.take_length]
/-! items -/
theorem atI_ge {α : Type} {xs : List α} {i : Int} {k : Nat} (h : i = (k : Int)) : atI xs i = xs[k]? := by
  subst h
  unfold atI ixN
  rw [if_pos (Int.natCast_nonneg k)]
  by_cases hk : k < xs.length
  · rw [if_pos (by omega)]; rfl
  · rw [if_neg (by omega), List.getElem?_eq_none (by omega)]; rfl
def AtK (o : Option T) (Q : T → Sto → Prop) (S : Sto) : Prop := match o with
  | some t => Q t S
  | none => False
theorem k_ixL {i : Int} : Gv (ixM (.lst ts) (.int i) S) Q = AtK (atI ts i) Q S := by
  show Gv (match atI ts i with | some t => ret t S | none => none) Q = _
  match atI ts i with
  | none => rfl
  | some t => rfl
theorem k_ixT {i : Int} : Gv (ixM (.tup ts) (.int i) S) Q = AtK (atI ts i) Q S := by
  show Gv (match atI ts i with | some t => ret t S | none => none) Q = _
  match atI ts i with
  | none => rfl
  | some t => rfl
theorem k_ixS {i : Int} : Gv (ixM (.scr ts) (.int i) S) Q = AtK (atI ts i) Q S := by
  show Gv (match atI ts i with | some t => ret t S | none => none) Q = _
  match atI ts i with
  | none => rfl
  | some t => rfl
theorem k_ixH {c : Nat} {i : Int} (hS : S[c]? = some (.lst ts)) : Gv (ixM (.hdl c) (.int i) S) Q = AtK (atI ts i) Q S := by
  show Gv (match itemsT S (.hdl c) with | some ts => (match atI ts i with | some t => ret t S | none => none) | none => none) Q = _
  unfold itemsT
  dsimp only
  rw [hS]
  dsimp only
  match atI ts i with
  | none => rfl
  | some t => rfl
theorem k_at0 : AtK (atI (t :: ts) 0) Q S = Q t S := by rw [show atI (t :: ts) (0 : Int) = some t from atI_ge (k := 0) rfl]; rfl
theorem k_at1 : AtK (atI (x :: t :: ts) 1) Q S = Q t S := by rw [show atI (x :: t :: ts) (1 : Int) = some t from atI_ge (k := 1) rfl]; rfl
theorem k_at2 : AtK (atI (x :: y :: t :: ts) 2) Q S = Q t S := by rw [show atI (x :: y :: t :: ts) (2 : Int) = some t from atI_ge (k := 2) rfl]; rfl
theorem k_at3 : AtK (atI (x :: y :: z :: t :: ts) 3) Q S = Q t S := by rw [show atI (x :: y :: z :: t :: ts) (3 : Int) = some t from atI_ge (k := 3) rfl]; rfl
theorem k_at {i : Int} (h : atI ts i = some t) : AtK (atI ts i) Q S = Q t S := by rw [h]; rfl
theorem k_put {c n : Nat} {i : Int} (hS : S[c]? = some (.lst ts)) (h : ixN ts.length i = some n) (ht : noH t = true) : Gv (putT (.hdl c) (.int i) t S) Q = Q .non (S.set c (.lst (ts.set n t))) := by
  unfold putT cellL
  dsimp only
  rw [hS]
  dsimp only
  rw [h]
  dsimp only
  rw [if_pos ht]
  rfl
theorem k_appT {c : Nat} (hS : S[c]? = some (.lst ts)) (h : ts.length < big) (ht : noH t = true) : Gv (appT (.hdl c) [t] S) Q = Q .non (S.set c (.lst (ts ++ [t]))) := by
  unfold appT cellL
  dsimp only
  rw [hS]
  dsimp only
  rw [if_pos (by rw [decide_eq_true h, ht]; rfl)]
  rfl
theorem set_get {c : Nat} {x y : Cell} (h : S[c]? = some y) : (S.set c x)[c]? = some x := List.getElem?_set_self (List.getElem?_eq_some_iff.mp h).1
/-! defs -/
def Fin (n : Nat) (Q : T → Sto → Prop) : SR → Sto → Prop := fun r S => match r with
  | .rt t => ∃ u, frz S n t = some u ∧ Q u (S.take n)
  | .nx _ => Q .non (S.take n)
  | _ => False
def FinK (Q : T → Sto → Prop) : SR → Sto → Prop := fun r S => match r with
  | .rt t => Q t S
  | .nx _ => Q .non S
  | _ => False
theorem Gv_fin {n : Nat} {t : T} : Gv (fin n t S) Q = ∃ u, frz S n t = some u ∧ Q u (S.take n) := by
  unfold fin
  match h : frz S n t with
  | none => exact propext ⟨fun x => x.elim, fun ⟨u, x, _⟩ => by cases x⟩
  | some u => exact propext ⟨fun x => ⟨u, rfl, x⟩, fun ⟨u', x, y⟩ => by cases x; exact y⟩
/-- the environment at a def's entry, then -/
def En (n : Nat) (ts : List T) (h : Ev → Prop) : Prop := h (ev0 n ts)
theorem k_en0 {h : Ev → Prop} : En 0 [] h = h [] := nr rfl
theorem k_enN {n : Nat} {h : Ev → Prop} : En (n + 1) [] h = En n [] fun τ => h (none :: τ) := by
  unfold En ev0
  rfl
theorem k_enC {n : Nat} {h : Ev → Prop} : En (n + 1) (t :: ts) h = En n ts fun τ => h (some t :: τ) := by
  unfold En ev0
  rw [List.length_cons, Nat.add_sub_add_right]
  rfl
theorem Gv_fnM {n : Nat} {m : SM} {ts : List T} : Gv (fnM n m ts S) Q = Gv (m (ev0 n ts) S) (Fin S.length Q) := by
  unfold fnM
  match h : m (ev0 n ts) S with
  | none => rfl
  | some (.er _, _) => rfl
  | some (.ok (.bk _), _) => rfl
  | some (.ok (.ct _), _) => rfl
  | some (.ok (.rt t), S') => exact Gv_fin
  | some (.ok (.nx _), S') =>
    show Gv (fin S.length .non S') Q = Q .non (S'.take S.length)
    rw [Gv_fin]
    exact propext ⟨fun ⟨u, x, y⟩ => by cases x; exact y, fun x => ⟨_, rfl, x⟩⟩
theorem Gv_fnK {n : Nat} {m : SM} {ts : List T} : Gv (fnK n m ts S) Q = Gv (m (ev0 n ts) S) (FinK Q) := by
  unfold fnK
  match h : m (ev0 n ts) S with
  | none => rfl
  | some (.er _, _) => rfl
  | some (.ok (.bk _), _) => rfl
  | some (.ok (.ct _), _) => rfl
  | some (.ok (.rt t), S') => rfl
  | some (.ok (.nx _), S') => rfl
theorem k_fnM {n : Nat} {m : SM} : Gv (fnM n m ts S) Q = En n ts fun τ => Gv (m τ S) (Fin S.length Q) := Gv_fnM
theorem k_fnK {n : Nat} {m : SM} : Gv (fnK n m ts S) Q = En n ts fun τ => Gv (m τ S) (FinK Q) := Gv_fnK
theorem Fin_rt {n : Nat} {t : T} : Fin n Q (.rt t) S = ∃ u, frz S n t = some u ∧ Q u (S.take n) := nr rfl
theorem FinK_rt {t : T} : FinK Q (.rt t) S = Q t S := nr rfl
theorem Fin_nx {n : Nat} : Fin n Q (.nx τ) S = Q .non (S.take n) := nr rfl
theorem frz_int {n : Nat} {i : Int} : frz S n (.int i) = some (.int i) := nr rfl
theorem frz_bl {n : Nat} {i : Bool} : frz S n (.bl i) = some (.bl i) := nr rfl
theorem frz_non {n : Nat} : frz S n .non = some .non := nr rfl
theorem frz_str {n : Nat} {s : Str} : frz S n (.str s) = some (.str s) := nr rfl
theorem frz_tup {n : Nat} {ts : List T} : frz S n (.tup ts) = (frzs S n ts).map .tup := nr rfl
theorem frz_lst {n : Nat} {ts : List T} : frz S n (.lst ts) = (frzs S n ts).map .lst := nr rfl
theorem frzs_nil {n : Nat} : frzs S n [] = some [] := nr rfl
theorem frzs_cons {n : Nat} {t : T} {ts : List T} : frzs S n (t :: ts) = (frz S n t).bind fun u => (frzs S n ts).map fun us => u :: us := nr rfl
mutual
theorem frz_no {n : Nat} : ∀ t : T, noH t = true → frz S n t = some t
  | .non, _ => rfl
  | .bl _, _ => rfl
  | .int _, _ => rfl
  | .str _, _ => rfl
  | .ty _, _ => rfl
  | .cls _, _ => rfl
  | .hdl _, h => nomatch h
  | .tup ts, h => by show (frzs S n ts).map T.tup = _; rw [frzs_no ts h]; rfl
  | .lst ts, h => by show (frzs S n ts).map T.lst = _; rw [frzs_no ts h]; rfl
  | .scr ts, h => by show (frzs S n ts).map T.scr = _; rw [frzs_no ts h]; rfl
  | .ins c ts, h => by show (frzs S n ts).map (T.ins c) = _; rw [frzs_no ts h]; rfl
theorem frzs_no {n : Nat} : ∀ ts : List T, noHs ts = true → frzs S n ts = some ts
  | [], _ => rfl
  | t :: ts, h => by
    have h' := Bool.and_eq_true_iff.mp (show (noH t && noHs ts) = true from h)
    show ((frz S n t).bind fun u => (frzs S n ts).map fun us => u :: us) = _
    rw [frz_no t h'.1, frzs_no ts h'.2]; rfl
end
theorem Fin_no {n : Nat} {t : T} (h : noH t = true) : Fin n Q (.rt t) S = Q t (S.take n) := by
  rw [Fin_rt, frz_no t h]
  exact propext ⟨fun ⟨u, x, y⟩ => by cases x; exact y, fun x => ⟨_, rfl, x⟩⟩
theorem take_set {c : Nat} {x : Cell} : (S.set c x).take S.length = S.set c x := List.take_of_length_le (by simp)
theorem take_all : S.take S.length = S := List.take_length
/-! loops -/
theorem Gv_while (I : Ev → Sto → Prop) (μ : Ev → Sto → Nat) {c : Ev → M Bool} {b : SM} (n : Nat) (h0 : I τ S) (hn : μ τ S < n)
    (hs : ∀ τ S, I τ S → Gv (c τ S) fun x S1 => if x = true then Gv (b τ S1) (fun r S2 => match r with
      | .nx τ' => I τ' S2 ∧ μ τ' S2 < μ τ S
      | .ct τ' => I τ' S2 ∧ μ τ' S2 < μ τ S
      | .bk τ' => R (.nx τ') S2
      | .rt t => R (.rt t) S2) else R (.nx τ) S1) : Gv (whileN n c b τ S) R := by
  induction n generalizing τ S with
  | zero => omega
  | succ n ih =>
    show Gv (bind (c τ) _ S) R
    rw [Gv_bind]
    refine (hs τ S h0).imp fun x S1 h => ?_
    rw [Gv_ite]
    by_cases hx : x = true
    · rw [if_pos hx] at h ⊢
      rw [Gv_bind]
      refine h.imp fun r S2 q => ?_
      cases r with
      | nx τ' => exact ih q.1 (by omega)
      | ct τ' => exact ih q.1 (by omega)
      | bk τ' => exact q
      | rt t => exact q
    · rw [if_neg hx] at h ⊢
      exact h
theorem Gv_for {g : GM} {b : SM} {ts : List T} (I : Nat → Ev → Sto → Prop) (h0 : I 0 τ S)
    (hs : ∀ (i : Nat) t τ S, ts[i]? = some t → I i τ S → Gv (g t τ S) fun τ1 S1 => Gv (b τ1 S1) fun r S2 => match r with
      | .nx τ' => I (i + 1) τ' S2
      | .ct τ' => I (i + 1) τ' S2
      | .bk τ' => R (.nx τ') S2
      | .rt t => R (.rt t) S2) (hd : ∀ τ S, I ts.length τ S → R (.nx τ) S) : Gv (forL g b ts τ S) R := by
  induction ts generalizing τ S I with
  | nil => exact hd τ S h0
  | cons t ts ih =>
    show Gv (bind (g t τ) _ S) R
    rw [Gv_bind]
    refine (hs 0 t τ S rfl h0).imp fun τ1 S1 h => ?_
    rw [Gv_bind]
    refine h.imp fun r S2 q => ?_
    cases r with
    | nx τ' => exact ih (I := fun i => I (i + 1)) q (fun i u τ S e => hs (i + 1) u τ S (by simpa using e)) hd
    | ct τ' => exact ih (I := fun i => I (i + 1)) q (fun i u τ S e => hs (i + 1) u τ S (by simpa using e)) hd
    | bk τ' => exact q
    | rt t => exact q
/-- over a list, by what is left of it -/
theorem Gv_left {g : GM} {b : SM} {ts : List T} (I : List T → Ev → Sto → Prop) (h0 : I ts τ S)
    (hs : ∀ t ts τ S, I (t :: ts) τ S → Gv (g t τ S) fun τ1 S1 => Gv (b τ1 S1) fun r S2 => match r with
      | .nx τ' => I ts τ' S2
      | .ct τ' => I ts τ' S2
      | .bk τ' => R (.nx τ') S2
      | .rt t => R (.rt t) S2) (hd : ∀ τ S, I [] τ S → R (.nx τ) S) : Gv (forL g b ts τ S) R := by
  induction ts generalizing τ S with
  | nil => exact hd τ S h0
  | cons t ts ih =>
    show Gv (bind (g t τ) _ S) R
    rw [Gv_bind]
    refine (hs t ts τ S h0).imp fun τ1 S1 h => ?_
    rw [Gv_bind]
    refine h.imp fun r S2 q => ?_
    cases r with
    | nx τ' => exact ih q
    | ct τ' => exact ih q
    | bk τ' => exact q
    | rt t => exact q
theorem Gv_nil {g : GM} {b : SM} : Gv (forL g b [] τ S) R = R (.nx τ) S := nr rfl
theorem Gv_cons {g : GM} {b : SM} {t : T} {ts : List T} : Gv (forL g b (t :: ts) τ S) R = Gv (g t τ S) fun τ1 S1 => Gv (b τ1 S1) fun r S2 => match r with
    | .nx τ' => Gv (forL g b ts τ' S2) R
    | .ct τ' => Gv (forL g b ts τ' S2) R
    | .bk τ' => R (.nx τ') S2
    | .rt t => R (.rt t) S2 := by
  show Gv (bind (g t τ) _ S) R = _
  rw [Gv_bind]
  congr
  funext τ1 S1
  rw [Gv_bind]
  congr
  funext r S2
  cases r <;> rfl
theorem rng_get {lo : Int} {n i : Nat} {t : T} (h : (rngT lo n)[i]? = some t) : i < n ∧ t = .int (lo + (i : Int)) := by
  unfold rngT at h
  rw [List.getElem?_map] at h
  obtain ⟨j, h1, h2⟩ := Option.map_eq_some_iff.mp h
  obtain ⟨hl, e⟩ := List.getElem?_eq_some_iff.mp h1
  simp at hl e
  subst e
  exact ⟨hl, h2.symm⟩
theorem rng_len {lo : Int} {n : Nat} : (rngT lo n).length = n := by unfold rngT; simp
/-- over a range: the turn's int -/
theorem Gv_rng {g : GM} {b : SM} {lo : Int} {n : Nat} (I : Nat → Ev → Sto → Prop) (h0 : I 0 τ S)
    (hs : ∀ (i : Nat) τ S, i < n → I i τ S → Gv (g (.int (lo + (i : Int))) τ S) fun τ1 S1 => Gv (b τ1 S1) fun r S2 => match r with
      | .nx τ' => I (i + 1) τ' S2
      | .ct τ' => I (i + 1) τ' S2
      | .bk τ' => R (.nx τ') S2
      | .rt t => R (.rt t) S2) (hd : ∀ τ S, I n τ S → R (.nx τ) S) : Gv (forL g b (rngT lo n) τ S) R :=
  Gv_for I h0 (fun i t τ S e h => by obtain ⟨h1, h2⟩ := rng_get e; subst h2; exact hs i τ S h1 h) (by rw [rng_len]; exact hd)
/-! sizes -/
/-- fewer than 2 ^ k -/
def Bd (k : Nat) (x : Int) : Prop := x.natAbs < 2 ^ k
theorem Bd.mono {j k : Nat} {x : Int} (h : Bd j x) (l : j ≤ k) : Bd k x := Nat.lt_of_lt_of_le h (Nat.pow_le_pow_right (by decide) l)
theorem Bd.add {j k : Nat} {x y : Int} (h : Bd j x) (q : Bd k y) : Bd (max j k + 1) (x + y) := by
  have h1 := h.mono (Nat.le_max_left j k)
  have h2 := q.mono (Nat.le_max_right j k)
  unfold Bd at *
  have : (2 : Nat) ^ (max j k + 1) = 2 ^ max j k + 2 ^ max j k := by rw [Nat.pow_succ]; omega
  rw [this]
  have := Int.natAbs_add_le x y
  omega
theorem Bd.neg {k : Nat} {x : Int} (h : Bd k x) : Bd k (-x) := by unfold Bd at *; rw [Int.natAbs_neg]; exact h
theorem Bd.sub {j k : Nat} {x y : Int} (h : Bd j x) (q : Bd k y) : Bd (max j k + 1) (x - y) := by
  rw [Int.sub_eq_add_neg]; exact h.add q.neg
theorem Bd.mul {j k : Nat} {x y : Int} (h : Bd j x) (q : Bd k y) : Bd (j + k) (x * y) := wide_lt h q
theorem Bd.div {j : Nat} {x y : Int} (h : Bd j x) : Bd j (x / y) := Nat.lt_of_le_of_lt (Int.natAbs_ediv_le_natAbs x y) h
theorem Bd.mod {k : Nat} {x y : Int} (q : Bd k y) (hy : 0 < y) : Bd k (x % y) := by
  unfold Bd at *
  have h2 := Int.emod_nonneg x (by omega : y ≠ 0)
  have h3 := Int.emod_lt_of_pos x hy
  omega
theorem Bd.le {k : Nat} {x y : Int} (h0 : 0 ≤ x) (h : x ≤ y) (q : Bd k y) : Bd k x := wide_le h0 h q
theorem Bd.lit {k : Nat} {x : Int} (h : x.natAbs.log2 < k) : Bd k x := by
  unfold Bd
  by_cases h0 : x.natAbs = 0
  · rw [h0]; exact Nat.pow_pos (by decide)
  · exact (Nat.log2_lt h0).mp h
theorem Bd.num {n : Nat} : Bd (n.log2 + 1) (OfNat.ofNat n : Int) := by
  refine Bd.lit ?_
  show (((n : Nat) : Int)).natAbs.log2 < _
  rw [Int.natAbs_natCast]
  omega
theorem mul_ok {j k : Nat} {x y : Int} (h : Bd j x) (q : Bd k y) (l : j + k ≤ 1000000) : mulOk x y = true := by
  unfold mulOk
  have h1 : x.natAbs.log2 ≤ j := by
    by_cases h0 : x.natAbs = 0
    · rw [h0]; exact Nat.zero_le _
    · exact Nat.le_of_lt ((Nat.log2_lt h0).mpr h)
  have h2 : y.natAbs.log2 ≤ k := by
    by_cases h0 : y.natAbs = 0
    · rw [h0]; exact Nat.zero_le _
    · exact Nat.le_of_lt ((Nat.log2_lt h0).mpr q)
  by_cases e : j + k = 1000000
  · by_cases hj : j = 0
    · subst hj
      have : x.natAbs < 2 ^ 64 := Nat.lt_of_lt_of_le h (by decide)
      rw [decide_eq_true this]; rfl
    · have h3 : x.natAbs.log2 < j := by
        by_cases h0 : x.natAbs = 0
        · rw [h0]; show Nat.log2 0 < j; rw [show Nat.log2 0 = 0 from by decide]; omega
        · exact (Nat.log2_lt h0).mpr h
      rw [decide_eq_true (show x.natAbs.log2 + y.natAbs.log2 < 1000000 by omega), Bool.or_true]
  · rw [decide_eq_true (show x.natAbs.log2 + y.natAbs.log2 < 1000000 by omega), Bool.or_true]
theorem mul_okL {x y : Int} (h : x.natAbs < 2 ^ 64) : mulOk x y = true := by unfold mulOk; rw [decide_eq_true h]; rfl
theorem mul_okR {x y : Int} (h : y.natAbs < 2 ^ 64) : mulOk x y = true := by unfold mulOk; rw [decide_eq_true h, Bool.or_true]; rfl
theorem div_ok {k : Nat} {y : Int} (h : 0 < y) (q : Bd k y) (l : k ≤ 9000) : divOk y = true := by
  unfold divOk
  have h0 : y.natAbs ≠ 0 := by omega
  rw [decide_eq_true h, decide_eq_true (Nat.lt_of_lt_of_le ((Nat.log2_lt h0).mpr q) l)]; rfl
end
end Zm
set_option Elab.async false
set_option linter.all false
set_option maxRecDepth 100000
set_option maxHeartbeats 4000000
/-! ZEq: a plain tree equals itself. -/
namespace Zm
open PySem L2
def pls (p : T → Bool) : List T → Bool
  | [] => true
  | t :: ts => p t && pls p ts
/-- data, no deeper than n -/
def pl : Nat → T → Bool
  | _, .non => true
  | _, .bl _ => true
  | _, .int _ => true
  | _, .str s => PyData.strOk s
  | n + 1, .tup ts => pls (pl n) ts
  | n + 1, .lst ts => pls (pl n) ts
  | n + 1, .scr ts => pls (pl n) ts
  | _, _ => false
theorem pls_pd {n : Nat} (ih : ∀ t, pl n t = true → ∃ d, toPD t = some d ∧ d.canLay0 = true ∧ d.depth ≤ n) : ∀ ts, pls (pl n) ts = true → ∃ ds, toPDs ts = some ds ∧ PyData.canLayAll0 ds = true ∧ PyData.depthAll ds ≤ n
  | [], _ => ⟨[], by unfold toPDs; rfl, by unfold PyData.canLayAll0; rfl, by unfold PyData.depthAll; omega⟩
  | t :: ts, h => by
    have h' := Bool.and_eq_true_iff.mp (show (pl n t && pls (pl n) ts) = true from h)
    obtain ⟨d, e, c, l⟩ := ih t h'.1
    obtain ⟨ds, e', c', l'⟩ := pls_pd ih ts h'.2
    refine ⟨d :: ds, ?_, ?_, ?_⟩
    · unfold toPDs; rw [e, e']; rfl
    · unfold PyData.canLayAll0; rw [c, c']; rfl
    · unfold PyData.depthAll; exact Nat.max_le.mpr ⟨l, l'⟩
theorem pl_pd : ∀ (n : Nat) (t : T), pl n t = true → ∃ d, toPD t = some d ∧ d.canLay0 = true ∧ d.depth ≤ n := by
  intro n
  induction n with
  | zero =>
    intro t h
    cases t with
    | non => exact ⟨.none, by unfold toPD; rfl, by unfold PyData.canLay0; rfl, by unfold PyData.depth; omega⟩
    | bl b => exact ⟨.bool b, by unfold toPD; rfl, by unfold PyData.canLay0; rfl, by unfold PyData.depth; omega⟩
    | int b => exact ⟨.int b, by unfold toPD; rfl, by unfold PyData.canLay0; rfl, by unfold PyData.depth; omega⟩
    | str b => exact ⟨.str b, by unfold toPD; rfl, by unfold PyData.canLay0; unfold pl at h; exact h, by unfold PyData.depth; omega⟩
    | tup ts => simp [pl] at h
    | lst ts => simp [pl] at h
    | scr ts => simp [pl] at h
    | ins c fs => simp [pl] at h
    | hdl i => simp [pl] at h
    | ty i => simp [pl] at h
    | cls i => simp [pl] at h
  | succ n ih =>
    intro t h
    cases t with
    | non => exact ⟨.none, by unfold toPD; rfl, by unfold PyData.canLay0; rfl, by unfold PyData.depth; omega⟩
    | bl b => exact ⟨.bool b, by unfold toPD; rfl, by unfold PyData.canLay0; rfl, by unfold PyData.depth; omega⟩
    | int b => exact ⟨.int b, by unfold toPD; rfl, by unfold PyData.canLay0; rfl, by unfold PyData.depth; omega⟩
    | str b => exact ⟨.str b, by unfold toPD; rfl, by unfold PyData.canLay0; unfold pl at h; exact h, by unfold PyData.depth; omega⟩
    | tup ts =>
      obtain ⟨ds, e, c, l⟩ := pls_pd ih ts (by unfold pl at h; exact h)
      exact ⟨.tuple ds, by unfold toPD; rw [e]; rfl, by unfold PyData.canLay0; exact c, by unfold PyData.depth; omega⟩
    | lst ts =>
      obtain ⟨ds, e, c, l⟩ := pls_pd ih ts (by unfold pl at h; exact h)
      exact ⟨.list ds, by unfold toPD; rw [e]; rfl, by unfold PyData.canLay0; exact c, by unfold PyData.depth; omega⟩
    | scr ts =>
      obtain ⟨ds, e, c, l⟩ := pls_pd ih ts (by unfold pl at h; exact h)
      exact ⟨.list ds, by unfold toPD; rw [e]; rfl, by unfold PyData.canLay0; exact c, by unfold PyData.depth; omega⟩
    | ins c fs => simp [pl] at h
    | hdl i => simp [pl] at h
    | ty i => simp [pl] at h
    | cls i => simp [pl] at h
section
variable {S : Sto} {Q : T → Sto → Prop}
theorem eqD_self {t : T} (h : pl 64 t = true) : eqD t t S = ret (.bl true) S := by
  obtain ⟨d, e, c, l⟩ := pl_pd 64 t h
  have e' : toPDS S t = some d := by cases t <;> first | exact e | (simp [pl] at h)
  unfold eqD
  rw [e']
  dsimp only
  unfold SeqAt.shaped
  rw [c, decide_eq_true l, if_pos (by decide), SeqAt.eqv_refl d c]
theorem neD_self {t : T} (h : pl 64 t = true) : neD t t S = ret (.bl false) S := by
  obtain ⟨d, e, c, l⟩ := pl_pd 64 t h
  have e' : toPDS S t = some d := by cases t <;> first | exact e | (simp [pl] at h)
  unfold neD
  rw [e']
  dsimp only
  unfold SeqAt.shaped
  rw [c, decide_eq_true l, if_pos (by decide), SeqAt.eqv_refl d c]
  rfl
theorem k_same {t : T} (h : pl 64 t = true) : Gv (eqM t t S) Q = Q (.bl true) S := by
  unfold eqM orM
  cases t with
  | str s => show Gv (ret (.bl (s == s)) S) Q = _; rw [beq_self_eq_true]; rfl
  | _ => show Gv (eqD _ _ S) Q = _; rw [eqD_self h]; rfl
theorem k_diff {t : T} (h : pl 64 t = true) : Gv (neM t t S) Q = Q (.bl false) S := by
  unfold neM orM
  cases t with
  | str s => show Gv (ret (.bl (!(s == s))) S) Q = _; rw [beq_self_eq_true]; rfl
  | _ => show Gv (neD _ _ S) Q = _; rw [neD_self h]; rfl
end
end Zm
set_option linter.all false
/-! ASum: finite sums of ints; floors of a line and their totals; the exchange of both directions. Plain mathematics. -/
namespace Sm
def sm (f : Nat → Int) : Nat → Int
  | 0 => 0
  | n + 1 => sm f n + f n
theorem sm_succ (f : Nat → Int) (n : Nat) : sm f (n + 1) = sm f n + f n := rfl
theorem sm_congr {f g : Nat → Int} : ∀ {n : Nat}, (∀ i, i < n → f i = g i) → sm f n = sm g n
  | 0, _ => rfl
  | n + 1, h => by rw [sm_succ, sm_succ, sm_congr fun i hi => h i (by omega), h n (by omega)]
theorem sm_add (f g : Nat → Int) (n : Nat) : sm (fun i => f i + g i) n = sm f n + sm g n := by
  induction n with
  | zero => rfl
  | succ n ih => rw [sm_succ, sm_succ, sm_succ, ih]; omega
theorem sm_sub (f g : Nat → Int) (n : Nat) : sm (fun i => f i - g i) n = sm f n - sm g n := by
  induction n with
  | zero => rfl
  | succ n ih => rw [sm_succ, sm_succ, sm_succ, ih]; omega
theorem sm_mul (k : Int) (f : Nat → Int) (n : Nat) : sm (fun i => k * f i) n = k * sm f n := by
  induction n with
  | zero => show (0 : Int) = k * 0; rw [Int.mul_zero]
  | succ n ih => rw [sm_succ, sm_succ, ih, Int.mul_add]
theorem sm_const (k : Int) (n : Nat) : sm (fun _ => k) n = k * n := by
  induction n with
  | zero => show (0 : Int) = k * 0; rw [Int.mul_zero]
  | succ n ih => rw [sm_succ, ih, Int.natCast_succ, Int.mul_add, Int.mul_one]
theorem sm_zero (n : Nat) : sm (fun _ => 0) n = 0 := by rw [sm_const, Int.zero_mul]
theorem sm_split (f : Nat → Int) (n k : Nat) : sm f (n + k) = sm f n + sm (fun i => f (n + i)) k := by
  induction k with
  | zero => show sm f n = sm f n + 0; rw [Int.add_zero]
  | succ k ih => rw [← Nat.add_assoc, sm_succ, sm_succ, ih, Int.add_assoc]
theorem sm_head (f : Nat → Int) (n : Nat) : sm f (n + 1) = f 0 + sm (fun i => f (i + 1)) n := by
  have h := sm_split f 1 n
  rw [Nat.add_comm n 1, h]
  show (0 + f 0) + _ = _
  rw [Int.zero_add, sm_congr (g := fun i => f (i + 1)) fun i _ => by rw [Nat.add_comm]]
theorem sm_rev (f : Nat → Int) : ∀ n : Nat, sm (fun i => f (n - 1 - i)) n = sm f n
  | 0 => rfl
  | n + 1 => by
    rw [sm_head, sm_succ, ← sm_rev f n]
    have : sm (fun i => f (n + 1 - 1 - (i + 1))) n = sm (fun i => f (n - 1 - i)) n := sm_congr fun i hi => by
      rw [show n + 1 - 1 - (i + 1) = n - 1 - i by omega]
    rw [this, show n + 1 - 1 - 0 = n by omega]
    omega
theorem sm_id (n : Nat) : 2 * sm (fun i => (i : Int)) n = n * (n - 1) := by
  induction n with
  | zero => rfl
  | succ n ih =>
    rw [sm_succ, Int.mul_add, ih, Int.natCast_succ]
    have : ((n : Int) + 1) * ((n : Int) + 1 - 1) = n * (n - 1) + 2 * n := by
      rw [Int.add_sub_cancel, Int.add_mul, Int.mul_sub, Int.one_mul, Int.mul_one]; omega
    omega
theorem sm_sq (n : Nat) : 6 * sm (fun i => (i : Int) * i) n = n * (n - 1) * (2 * n - 1) := by
  induction n with
  | zero => rfl
  | succ n ih =>
    rw [sm_succ, Int.mul_add, ih, Int.natCast_succ]
    grind
theorem sm_abs {f : Nat → Int} {B : Nat} : ∀ {n : Nat}, (∀ i, i < n → (f i).natAbs ≤ B) → (sm f n).natAbs ≤ n * B
  | 0, _ => by simp [sm]
  | n + 1, h => by
    have h1 := sm_abs (n := n) fun i hi => h i (by omega)
    have h2 := h n (by omega)
    rw [sm_succ, Nat.add_mul, Nat.one_mul]
    have := Int.natAbs_add_le (sm f n) (f n)
    omega
theorem sm_nonneg {f : Nat → Int} : ∀ {n : Nat}, (∀ i, i < n → 0 ≤ f i) → 0 ≤ sm f n
  | 0, _ => Int.le_refl _
  | n + 1, h => by
    have h1 := sm_nonneg (n := n) fun i hi => h i (by omega)
    have h2 := h n (by omega)
    rw [sm_succ]; omega
/-! counting twice -/
theorem sm_ind (v : Nat → Int) {k B : Nat} (h : k ≤ B) : sm (fun j => if j < k then v j else 0) B = sm v k := by
  induction B with
  | zero => rw [show k = 0 by omega]; rfl
  | succ B ih =>
    rw [sm_succ]
    by_cases e : k = B + 1
    · subst e
      rw [if_pos (by omega), sm_succ]
      rw [sm_congr (g := v) fun i hi => if_pos (by omega)]
    · rw [ih (by omega), if_neg (by omega), Int.add_zero]
theorem sm_from (u : Nat → Int) {g n : Nat} (h : g ≤ n) : sm (fun i => if g ≤ i then u i else 0) n = sm u n - sm u g := by
  induction n with
  | zero => rw [show g = 0 by omega]; show (0 : Int) = 0 - 0; omega
  | succ n ih =>
    rw [sm_succ]
    by_cases e : g = n + 1
    · subst e
      rw [if_neg (by omega), sm_congr (g := fun _ => 0) fun i hi => if_neg (by omega), sm_zero]
      omega
    · rw [ih (by omega), if_pos (by omega), sm_succ]; omega
theorem sm_swap (w : Nat → Nat → Int) (n B : Nat) : sm (fun i => sm (fun j => w i j) B) n = sm (fun j => sm (fun i => w i j) n) B := by
  induction n with
  | zero => exact (sm_zero B).symm
  | succ n ih => rw [sm_succ, ih, ← sm_add]; rfl
/-- weights u in one direction, v in the other; f at most B; g tells from where f is above j -/
theorem sm_twice (u v : Nat → Int) (f g : Nat → Nat) (n B : Nat) (hB : ∀ i, i < n → f i ≤ B) (hg : ∀ j, j < B → g j ≤ n) (hfg : ∀ i j, i < n → j < B → (j < f i ↔ g j ≤ i)) :
    sm (fun i => u i * sm v (f i)) n = sm (fun j => v j * (sm u n - sm u (g j))) B := by
  have e1 : sm (fun i => u i * sm v (f i)) n = sm (fun i => sm (fun j => if j < f i then u i * v j else 0) B) n := sm_congr fun i hi => by
    rw [← sm_ind v (hB i hi), ← sm_mul]
    exact sm_congr fun j _ => by
      by_cases h : j < f i
      · rw [if_pos h, if_pos h]
      · rw [if_neg h, if_neg h, Int.mul_zero]
  rw [e1, sm_swap]
  exact sm_congr fun j hj => by
    rw [← sm_from u (hg j hj), ← sm_mul]
    exact sm_congr fun i hi => by
      by_cases h : j < f i
      · rw [if_pos h, if_pos ((hfg i j hi hj).mp h), Int.mul_comm]
      · rw [if_neg h, if_neg (fun z => h ((hfg i j hi hj).mpr z)), Int.mul_zero]
/-! floors of a line -/
def fl (a c m : Int) (i : Nat) : Int := (a * i + c) / m
def F1 (n : Nat) (a c m : Int) : Int := sm (fl a c m) n
def FM (n : Nat) (a c m : Int) : Int := sm (fun i => i * fl a c m i) n
def F2 (n : Nat) (a c m : Int) : Int := sm (fun i => fl a c m i * fl a c m i) n
theorem fl_lift {a c m : Int} (hm : 0 < m) (i : Nat) : fl a c m i = fl (a % m) (c % m) m i + (a / m) * i + c / m := by
  unfold fl
  have e : a * i + c = (a % m * i + c % m) + m * ((a / m) * i + c / m) := by
    have h1 := Int.mul_ediv_add_emod a m
    have h2 := Int.mul_ediv_add_emod c m
    have h3 : a * i = m * (a / m) * i + a % m * i := by rw [← Int.add_mul, h1]
    rw [h3, Int.mul_add, ← Int.mul_assoc]
    omega
  rw [e, Int.add_mul_ediv_left _ _ (by omega)]
  omega
theorem F1_lift (n : Nat) {a c m : Int} (hm : 0 < m) : F1 n a c m = F1 n (a % m) (c % m) m + (a / m) * sm (fun i => (i : Int)) n + c / m * n := by
  unfold F1
  rw [sm_congr fun i _ => fl_lift hm i, sm_add, sm_add, sm_mul, sm_const]
theorem FM_lift (n : Nat) {a c m : Int} (hm : 0 < m) : FM n a c m = FM n (a % m) (c % m) m + (a / m) * sm (fun i => (i : Int) * i) n + c / m * sm (fun i => (i : Int)) n := by
  unfold FM
  rw [sm_congr (g := fun i => (i : Int) * fl (a % m) (c % m) m i + (a / m) * ((i : Int) * i) + c / m * i) fun i _ => by
    rw [fl_lift hm i, Int.mul_add, Int.mul_add, Int.mul_left_comm (i : Int) (a / m), Int.mul_comm (i : Int) (c / m)], sm_add, sm_add, sm_mul, sm_mul]
theorem F2_lift (n : Nat) {a c m : Int} (hm : 0 < m) : F2 n a c m = F2 n (a % m) (c % m) m + (a / m) * (a / m) * sm (fun i => (i : Int) * i) n + c / m * (c / m) * n + 2 * (a / m) * (c / m) * sm (fun i => (i : Int)) n
    + 2 * (a / m) * FM n (a % m) (c % m) m + 2 * (c / m) * F1 n (a % m) (c % m) m := by
  unfold F2 FM F1
  have e : ∀ i : Nat, fl a c m i * fl a c m i = (((((fl (a % m) (c % m) m i * fl (a % m) (c % m) m i + (a / m) * (a / m) * ((i : Int) * i)) + c / m * (c / m)) + 2 * (a / m) * (c / m) * i) + 2 * (a / m) * ((i : Int) * fl (a % m) (c % m) m i)) + 2 * (c / m) * fl (a % m) (c % m) m i) := fun i => by
    rw [fl_lift hm i]; grind
  rw [sm_congr fun i _ => e i]
  simp only [sm_add, sm_mul, sm_const, Int.mul_assoc]
/-- the other direction: where the line is above j -/
def gl (a c m : Int) (j : Nat) : Int := fl m (m - c - 1) a j
theorem exch {a c m : Int} (ha : 0 < a) (hc : 0 ≤ c) (hm : 0 < m) (i j : Nat) : (j : Int) < fl a c m i ↔ gl a c m j < (i : Int) := by
  unfold gl fl
  rw [show ((j : Int) < (a * i + c) / m) ↔ ((j : Int) + 1 ≤ (a * i + c) / m) from Iff.rfl, Int.le_ediv_iff_mul_le hm, Int.ediv_lt_iff_lt_mul ha, Int.add_mul, Int.one_mul, Int.mul_comm m (j : Int), Int.mul_comm a (i : Int)]
  omega
theorem fl_mono {a c m : Int} (ha : 0 ≤ a) (hm : 0 < m) {i k : Nat} (h : i ≤ k) : fl a c m i ≤ fl a c m k := by
  unfold fl
  refine Int.ediv_le_ediv hm ?_
  have : a * (i : Int) ≤ a * (k : Int) := Int.mul_le_mul_of_nonneg_left (by omega) ha
  omega
theorem fl_nonneg {a c m : Int} (ha : 0 ≤ a) (hc : 0 ≤ c) (hm : 0 < m) (i : Nat) : 0 ≤ fl a c m i := by
  unfold fl
  refine Int.ediv_nonneg ?_ (by omega)
  have : 0 ≤ a * (i : Int) := Int.mul_nonneg ha (by omega)
  omega
/-- the three totals exchanged: last = n - 1, B the floor there -/
theorem exch_all {a c m : Int} (ha : 0 < a) (hc : 0 ≤ c) (hm : 0 < m) (hcm : c < m) (l B : Nat) (hB : (B : Int) = fl a c m l) :
    F1 (l + 1) a c m = l * B - F1 B m (m - c - 1) a ∧
    2 * FM (l + 1) a c m = B * l * (l + 1) - F2 B m (m - c - 1) a - F1 B m (m - c - 1) a ∧
    F2 (l + 1) a c m = l * B * B - 2 * FM B m (m - c - 1) a - F1 B m (m - c - 1) a := by
  have hf0 : ∀ i : Nat, 0 ≤ fl a c m i := fl_nonneg (by omega) hc hm
  have hg0 : ∀ j : Nat, 0 ≤ gl a c m j := fun j => fl_nonneg (by omega) (by omega) ha j
  have hfB : ∀ i, i < l + 1 → (fl a c m i).toNat ≤ B := fun i hi => by
    have := fl_mono (c := c) (by omega : 0 ≤ a) hm (show i ≤ l by omega)
    omega
  have hgl : ∀ j, j < B → gl a c m j + 1 ≤ l := fun j hj => by
    have := (exch ha hc hm l j).mp (by omega)
    omega
  have hgB : ∀ j, j < B → (gl a c m j).toNat + 1 ≤ l + 1 := fun j hj => by
    have := hgl j hj
    omega
  have hfg : ∀ i j, i < l + 1 → j < B → (j < (fl a c m i).toNat ↔ (gl a c m j).toNat + 1 ≤ i) := fun i j _ _ => by
    have h1 := exch ha hc hm i j
    have h2 := hf0 i
    have h3 := hg0 j
    omega
  have tw := fun u v => sm_twice u v (fun i => (fl a c m i).toNat) (fun j => (gl a c m j).toNat + 1) (l + 1) B hfB hgB hfg
  have tn : ∀ i, ((fl a c m i).toNat : Int) = fl a c m i := fun i => Int.toNat_of_nonneg (hf0 i)
  have gn : ∀ j, ((gl a c m j).toNat : Int) = gl a c m j := fun j => Int.toNat_of_nonneg (hg0 j)
  refine ⟨?_, ?_, ?_⟩
  · have h := tw (fun _ => 1) (fun _ => 1)
    have e1 : sm (fun i => 1 * sm (fun _ => 1) (fl a c m i).toNat) (l + 1) = F1 (l + 1) a c m := sm_congr fun i _ => by
      rw [sm_const, Int.one_mul, Int.one_mul, tn]
    have e2 : sm (fun j => 1 * (sm (fun _ => 1) (l + 1) - sm (fun _ => 1) ((gl a c m j).toNat + 1))) B = sm (fun j => (l : Int) - gl a c m j) B := sm_congr fun j _ => by
      rw [sm_const, sm_const, Int.one_mul, Int.natCast_succ, Int.natCast_succ, gn]; omega
    rw [e1, e2, sm_sub, sm_const] at h
    exact h
  · have h := tw (fun i => (i : Int)) (fun _ => 1)
    have e1 : sm (fun i => (i : Int) * sm (fun _ => 1) (fl a c m i).toNat) (l + 1) = FM (l + 1) a c m := sm_congr fun i _ => by
      rw [sm_const, Int.one_mul, tn]
    have e2 : 2 * sm (fun j => 1 * (sm (fun i => (i : Int)) (l + 1) - sm (fun i => (i : Int)) ((gl a c m j).toNat + 1))) B = sm (fun j => ((l : Int) * (l + 1) - gl a c m j * gl a c m j) - gl a c m j) B := by
      rw [← sm_mul]
      refine sm_congr fun j _ => ?_
      rw [Int.one_mul, Int.mul_sub, sm_id, sm_id, Int.natCast_succ, Int.natCast_succ, gn, Int.add_sub_cancel, Int.add_sub_cancel, Int.mul_comm _ (l : Int), Int.add_mul, Int.one_mul]
      omega
    rw [e1] at h
    rw [h, e2, sm_sub, sm_sub, sm_const, Int.mul_comm _ (B : Int), ← Int.mul_assoc]
    rfl
  · have h := tw (fun _ => 1) (fun j => 2 * (j : Int) + 1)
    have sq : ∀ k : Nat, sm (fun j => 2 * (j : Int) + 1) k = k * k := fun k => by
      rw [sm_add, sm_mul, sm_id, sm_const, Int.mul_sub, Int.mul_one]; omega
    have e1 : sm (fun i => 1 * sm (fun j => 2 * (j : Int) + 1) (fl a c m i).toNat) (l + 1) = F2 (l + 1) a c m := sm_congr fun i _ => by
      rw [sq, Int.one_mul, tn]
    have e2 : sm (fun j => (2 * (j : Int) + 1) * (sm (fun _ => 1) (l + 1) - sm (fun _ => 1) ((gl a c m j).toNat + 1))) B = sm (fun j => ((l : Int) * (2 * (j : Int) + 1) - 2 * ((j : Int) * gl a c m j)) - gl a c m j) B := sm_congr fun j _ => by
      rw [sm_const, sm_const, Int.one_mul, Int.one_mul, Int.natCast_succ, Int.natCast_succ, gn, show (l : Int) + 1 - (gl a c m j + 1) = l - gl a c m j by omega, Int.mul_sub, Int.mul_comm _ (l : Int), Int.add_mul, Int.one_mul, Int.mul_assoc]
      omega
    rw [e1, e2, sm_sub, sm_sub, sm_mul, sm_mul, sq, ← Int.mul_assoc] at h
    exact h
end Sm
namespace Sm
/-! Euclid's steps: a number that falls -/
def eu (a m : Int) : Nat := (max a m * m).toNat.log2 + if a < m then 1 else 0
theorem log_mono {a b : Nat} (h : a ≤ b) : a.log2 ≤ b.log2 := by
  by_cases h0 : a = 0
  · subst h0; exact Nat.zero_le _
  · exact (Nat.le_log2 (by omega)).mpr (Nat.le_trans (Nat.log2_self_le h0) h)
theorem log_two {a : Nat} (h : a ≠ 0) : (2 * a).log2 = a.log2 + 1 := Nat.log2_two_mul h
theorem eu_dec {a m : Int} (hm : 0 < m) (h : 0 < a % m) : eu m (a % m) < eu a m := by
  have hr := Int.emod_lt_of_pos a hm
  unfold eu
  rw [if_neg (by omega : ¬ m < a % m), show max m (a % m) = m by omega]
  have p0 : 0 < m * (a % m) := Int.mul_pos hm h
  by_cases c : a < m
  · rw [if_pos c, show max a m = m by omega]
    have : m * (a % m) ≤ m * m := Int.mul_le_mul_of_nonneg_left (by omega) (by omega)
    have := log_mono (show (m * (a % m)).toNat ≤ (m * m).toNat by omega)
    omega
  · rw [if_neg c, show max a m = a by omega]
    have h2 : 2 * (a % m) ≤ a := by
      have e := Int.mul_ediv_add_emod a m
      have q1 : 1 ≤ a / m := by
        rw [Int.le_ediv_iff_mul_le hm]; omega
      have : m * 1 ≤ m * (a / m) := Int.mul_le_mul_of_nonneg_left q1 (by omega)
      omega
    have h3 : m * (2 * (a % m)) ≤ m * a := Int.mul_le_mul_of_nonneg_left h2 (by omega)
    rw [Int.mul_left_comm, Int.mul_comm m a] at h3
    have := log_mono (show 2 * (m * (a % m)).toNat ≤ (a * m).toNat by omega)
    rw [log_two (by omega)] at this
    omega
theorem eu_le {a m : Int} {k : Nat} (ha : a.natAbs < 2 ^ k) (hm : m.natAbs < 2 ^ k) (h0 : 0 < m) : eu a m ≤ 2 * k + 1 := by
  unfold eu
  have h1 : (max a m * m).toNat < 2 ^ (2 * k) := by
    have e : (max a m).natAbs < 2 ^ k := by omega
    have : (max a m * m).natAbs < 2 ^ (2 * k) := by
      rw [Int.natAbs_mul, Nat.two_mul, Nat.pow_add]
      exact Nat.mul_lt_mul'' e hm
    omega
  have : (max a m * m).toNat.log2 ≤ 2 * k := by
    by_cases z : (max a m * m).toNat = 0
    · rw [z]; exact Nat.zero_le _
    · exact Nat.le_of_lt ((Nat.log2_lt z).mpr h1)
  split <;> omega
end Sm
set_option linter.all false
/-! MId: a line parted, grown and read from its end. Plain mathematics. -/
namespace Sm
theorem fl_shift (a c m : Int) (k i : Nat) : fl a (c + a * k) m i = fl a c m (k + i) := by
  unfold fl
  rw [Int.natCast_add, Int.mul_add]
  congr 1
  omega
theorem F1_part (a c m : Int) (k d : Nat) : F1 (k + d) a c m = F1 k a c m + F1 d a (c + a * k) m := by
  unfold F1
  rw [sm_split, sm_congr (f := fun i => fl a c m (k + i)) (g := fl a (c + a * k) m) fun i _ => (fl_shift a c m k i).symm]
theorem FM_part (a c m : Int) (k d : Nat) : FM (k + d) a c m = FM k a c m + FM d a (c + a * k) m + k * F1 d a (c + a * k) m := by
  unfold FM F1
  rw [sm_split, ← sm_mul, Int.add_assoc, ← sm_add]
  congr 1
  exact sm_congr fun i _ => by rw [fl_shift, Int.natCast_add, Int.add_mul]; omega
theorem F2_part (a c m : Int) (k d : Nat) : F2 (k + d) a c m = F2 k a c m + F2 d a (c + a * k) m := by
  unfold F2
  rw [sm_split]
  congr 1
  exact sm_congr fun i _ => by rw [fl_shift]
theorem fl_up {a c m : Int} (h : 0 < m) (i : Nat) : fl a (c + m) m i = fl a c m i + 1 := by
  unfold fl
  rw [← Int.add_assoc, Int.add_ediv_of_dvd_right (Int.dvd_refl m), Int.ediv_self (by omega)]
theorem fl_out {a c m : Int} (h : 0 < m) (i : Nat) : fl (a + m) c m i = fl a c m i + i := by
  unfold fl
  rw [show (a + m) * (i : Int) + c = (a * i + c) + m * i by rw [Int.add_mul]; omega, Int.add_mul_ediv_left _ _ (by omega)]
variable {n : Nat} {a c m : Int}
theorem F1_up (h : 0 < m) : F1 n a (c + m) m = F1 n a c m + n := by
  unfold F1
  rw [sm_congr fun i _ => fl_up h i, sm_add, sm_const, Int.one_mul]
theorem FM_up (h : 0 < m) : FM n a (c + m) m = FM n a c m + sm (fun i => (i : Int)) n := by
  unfold FM
  rw [← sm_add]
  exact sm_congr fun i _ => by rw [fl_up h, Int.mul_add, Int.mul_one]
theorem F2_up (h : 0 < m) : F2 n a (c + m) m = F2 n a c m + 2 * F1 n a c m + n := by
  unfold F2 F1
  have e : (n : Int) = sm (fun _ => 1) n := by rw [sm_const, Int.one_mul]
  rw [← sm_mul]
  conv => rhs; rw [e]
  rw [← sm_add, ← sm_add]
  exact sm_congr fun i _ => by rw [fl_up h]; grind
theorem F1_out (h : 0 < m) : F1 n (a + m) c m = F1 n a c m + sm (fun i => (i : Int)) n := by
  unfold F1
  rw [sm_congr fun i _ => fl_out h i, sm_add]
theorem FM_out (h : 0 < m) : FM n (a + m) c m = FM n a c m + sm (fun i => (i : Int) * i) n := by
  unfold FM
  rw [← sm_add]
  exact sm_congr fun i _ => by rw [fl_out h, Int.mul_add]
theorem F2_out (h : 0 < m) : F2 n (a + m) c m = F2 n a c m + 2 * FM n a c m + sm (fun i => (i : Int) * i) n := by
  unfold F2 FM
  rw [← sm_mul, ← sm_add, ← sm_add]
  exact sm_congr fun i _ => by rw [fl_out h]; grind
theorem F1_rev : F1 n (0 - a) (c + a * (n - 1)) m = F1 n a c m := by
  unfold F1
  rw [← sm_rev (fl a c m) n]
  refine sm_congr fun i hi => ?_
  unfold fl
  congr 1
  have : ((n - 1 - i : Nat) : Int) = n - 1 - i := by omega
  rw [this]
  grind
end Sm
set_option Elab.async false
set_option linter.all false
set_option maxRecDepth 100000
set_option maxHeartbeats 4000000
namespace Law
open PySem L2 Zm
/-- is any integer -/
def m_is_any_integer : List T → M T := fnM 1
    (sRet (eAnd (eCall isiM (aCons (eVar 0) (aCons (eC (.ty .int)) (aNil)))) (eNot (eCall isiM (aCons (eVar 0) (aCons (eC (.ty .bool)) (aNil)))))))
/-- is integer -/
def m_is_integer : List T → M T := fnM 1
    (sRet (eAnd (eCall (ar 1 m_is_any_integer) (aCons (eVar 0) (aNil))) (eChn ltM ltM (eUn negM (eC (.int 1000000000000000000000000000000000000000000000000000000000000))) (eVar 0) (eC (.int 1000000000000000000000000000000000000000000000000000000000000)))))
/-- require integer -/
def m_require_integer : List T → M T := fnM 1
    (sIf (tNotM (tOf (eCall (ar 1 m_is_integer) (aCons (eVar 0) (aNil)))))
    (sNo)
    (sSkip))
/-- require positive -/
def m_require_positive : List T → M T := fnM 1
    (sIf (tOrM (tNotM (tOf (eCall (ar 1 m_is_integer) (aCons (eVar 0) (aNil))))) (tOf (eOp ltM (eVar 0) (eC (.int 1)))))
    (sNo)
    (sSkip))
/-- require line -/
def m_require_line : List T → M T := fnM 4
    (sSeq (sIf (tOrM (tNotM (tOf (eCall (ar 1 m_is_integer) (aCons (eVar 0) (aNil))))) (tOf (eOp ltM (eVar 0) (eC (.int 0)))))
    (sNo)
    (sSkip))
    (sSeq (sEx (eCall (ar 1 m_require_integer) (aCons (eVar 1) (aNil))))
    (sSeq (sEx (eCall (ar 1 m_require_integer) (aCons (eVar 2) (aNil))))
    (sEx (eCall (ar 1 m_require_positive) (aCons (eVar 3) (aNil)))))))
/-- first sum -/
def m_first_sum : List T → M T := fnM 1
    (sRet (eOp fdivM (eOp mulM (eVar 0) (eOp subM (eVar 0) (eC (.int 1)))) (eC (.int 2))))
/-- second sum -/
def m_second_sum : List T → M T := fnM 1
    (sRet (eOp fdivM (eOp mulM (eOp mulM (eVar 0) (eOp subM (eVar 0) (eC (.int 1)))) (eOp subM (eOp mulM (eC (.int 2)) (eVar 0)) (eC (.int 1)))) (eC (.int 6))))
/-- lifted -/
def m_lifted : List T → M T := fnM 12
    (sSeq (sAs (eVar 3) (gTp 3 (gsCons (gNm 4) (gsCons (gNm 5) (gsCons (gNm 6) (gsNil))))))
    (sSeq (sPar2 7 8 (aCons (eCall (ar 1 m_first_sum) (aCons (eVar 0) (aNil))) (aCons (eCall (ar 1 m_second_sum) (aCons (eVar 0) (aNil))) (aNil))))
    (sSeq (sSet 9 (eOp addM (eOp addM (eVar 4) (eOp mulM (eVar 1) (eVar 7))) (eOp mulM (eVar 2) (eVar 0))))
    (sSeq (sSet 10 (eOp addM (eOp addM (eVar 5) (eOp mulM (eVar 1) (eVar 8))) (eOp mulM (eVar 2) (eVar 7))))
    (sSeq (sSet 11 (eOp addM (eOp addM (eOp addM (eVar 6) (eOp mulM (eOp mulM (eVar 1) (eVar 1)) (eVar 8))) (eOp mulM (eOp mulM (eVar 2) (eVar 2)) (eVar 0))) (eOp mulM (eOp mulM (eOp mulM (eC (.int 2)) (eVar 1)) (eVar 2)) (eVar 7))))
    (sRet (eTup (aCons (eVar 9) (aCons (eVar 10) (aCons (eOp addM (eOp addM (eVar 11) (eOp mulM (eOp mulM (eC (.int 2)) (eVar 1)) (eVar 5))) (eOp mulM (eOp mulM (eC (.int 2)) (eVar 2)) (eVar 4))) (aNil)))))))))))
/-- exchanged -/
def m_exchanged : List T → M T := fnM 8
    (sSeq (sAs (eVar 2) (gTp 3 (gsCons (gNm 3) (gsCons (gNm 4) (gsCons (gNm 5) (gsNil))))))
    (sSeq (sSet 6 (eOp subM (eOp mulM (eVar 0) (eVar 1)) (eVar 3)))
    (sSeq (sSet 7 (eOp fdivM (eOp subM (eOp subM (eOp mulM (eOp mulM (eVar 1) (eVar 0)) (eOp addM (eVar 0) (eC (.int 1)))) (eVar 5)) (eVar 3)) (eC (.int 2))))
    (sRet (eTup (aCons (eVar 6) (aCons (eVar 7) (aCons (eOp subM (eOp subM (eOp subM (eOp mulM (eOp mulM (eVar 0) (eVar 1)) (eOp addM (eVar 1) (eC (.int 1)))) (eOp mulM (eC (.int 2)) (eVar 4))) (eOp mulM (eC (.int 2)) (eVar 3))) (eVar 6)) (aNil)))))))))
/-- totals in -/
def m_totals_in : List T → M T := fnM 11
    (sSeq (sSet 4 (eCel (aNil)))
    (sSeq (whileN wn (tOf (eC (.bl true)))
    (sSeq (sEx (eApp (eVar 4) (aCons (eTup (aCons (eC (.str ("lift" : Str))) (aCons (eVar 0) (aCons (eOp fdivM (eVar 1) (eVar 3)) (aCons (eOp fdivM (eVar 2) (eVar 3)) (aNil)))))) (aNil))))
    (sSeq (sPar2 1 2 (aCons (eOp modM (eVar 1) (eVar 3)) (aCons (eOp modM (eVar 2) (eVar 3)) (aNil))))
    (sSeq (sSet 5 (eIf (tOf (eOp gtM (eVar 0) (eC (.int 0)))) (eOp fdivM (eOp addM (eOp mulM (eVar 1) (eOp subM (eVar 0) (eC (.int 1)))) (eVar 2)) (eVar 3)) (eC (.int 0))))
    (sSeq (sIf (tOf (eOp leM (eVar 5) (eC (.int 0))))
    (sBk)
    (sSkip))
    (sSeq (sEx (eApp (eVar 4) (aCons (eTup (aCons (eC (.str ("exchange" : Str))) (aCons (eOp subM (eVar 0) (eC (.int 1))) (aCons (eVar 5) (aCons (eC (.int 0)) (aNil)))))) (aNil))))
    (sAs (eTup (aCons (eVar 5) (aCons (eVar 3) (aCons (eOp subM (eOp subM (eVar 3) (eVar 2)) (eC (.int 1))) (aCons (eVar 1) (aNil)))))) (gTp 4 (gsCons (gNm 0) (gsCons (gNm 1) (gsCons (gNm 2) (gsCons (gNm 3) (gsNil)))))))))))))
    (sSeq (sSet 6 (eTup (aCons (eC (.int 0)) (aCons (eC (.int 0)) (aCons (eC (.int 0)) (aNil))))))
    (sSeq (sFor (iSq (eUn revM (eVar 4))) (gTp 4 (gsCons (gNm 7) (gsCons (gNm 8) (gsCons (gNm 9) (gsCons (gNm 10) (gsNil))))))
    (sIf (tOf (eOp eqM (eVar 7) (eC (.str ("lift" : Str)))))
    (sSet 6 (eCall (ar 4 m_lifted) (aCons (eVar 8) (aCons (eVar 9) (aCons (eVar 10) (aCons (eVar 6) (aNil)))))))
    (sSet 6 (eCall (ar 3 m_exchanged) (aCons (eVar 8) (aCons (eVar 9) (aCons (eVar 6) (aNil))))))))
    (sRet (eVar 6))))))
/-- line sum -/
def m_line_sum : List T → M T := fnM 4
    (sSeq (sEx (eCall (ar 4 m_require_line) (aCons (eVar 0) (aCons (eVar 1) (aCons (eVar 2) (aCons (eVar 3) (aNil)))))))
    (sRet (eOp ixM (eCall (ar 4 m_totals_in) (aCons (eVar 0) (aCons (eVar 1) (aCons (eVar 2) (aCons (eVar 3) (aNil)))))) (eC (.int 0)))))
/-- line moment -/
def m_line_moment : List T → M T := fnM 4
    (sSeq (sEx (eCall (ar 4 m_require_line) (aCons (eVar 0) (aCons (eVar 1) (aCons (eVar 2) (aCons (eVar 3) (aNil)))))))
    (sRet (eOp ixM (eCall (ar 4 m_totals_in) (aCons (eVar 0) (aCons (eVar 1) (aCons (eVar 2) (aCons (eVar 3) (aNil)))))) (eC (.int 1)))))
/-- line square -/
def m_line_square : List T → M T := fnM 4
    (sSeq (sEx (eCall (ar 4 m_require_line) (aCons (eVar 0) (aCons (eVar 1) (aCons (eVar 2) (aCons (eVar 3) (aNil)))))))
    (sRet (eOp ixM (eCall (ar 4 m_totals_in) (aCons (eVar 0) (aCons (eVar 1) (aCons (eVar 2) (aCons (eVar 3) (aNil)))))) (eC (.int 2)))))
/--  law bowl -/
def m_law_bowl : List T → M T := fnK 5
    (sSeq (sSet 2 (eIf (tOf (eOp ltM (eVar 1) (eCall lenM (aCons (eVar 0) (aNil))))) (eOp ixM (eVar 0) (eVar 1)) (eOp addM (eOp mulM (eC (.int 101)) (eVar 1)) (eC (.int 37)))))
    (sSeq (sSet 3 (eOp modM (eCall intM (aCons (eCall absM (aCons (eVar 2) (aNil))) (aNil))) (eOp powM (eOp powM (eC (.int 10)) (eC (.int 60))) (eC (.int 9)))))
    (sSeq (sSet 4 (eOp modM (eCall intM (aCons (eOp addM (eOp addM (eOp addM (eOp mulM (eVar 3) (eC (.int 5))) (eOp mulM (eC (.int 20011)) (eVar 1))) (eOp mulM (eC (.int 2)) (eCall intM (aCons (eOp ltM (eVar 2) (eC (.int 0))) (aNil))))) (eC (.int 60013))) (aNil))) (eOp addM (eOp powM (eC (.int 10)) (eC (.int 18))) (eC (.int 9)))))
    (sRet (eCel (aCons (eIf (tOf (eOp gtM (eVar 3) (eOp powM (eC (.int 10)) (eC (.int 18))))) (eOp subM (eVar 3) (eOp powM (eC (.int 10)) (eC (.int 18)))) (eC (.int 0))) (aCons (eVar 4) (aCons (eC (.int 0)) (aNil)))))))))
/--  law sip -/
def m_law_sip : List T → M T := fnM 6
    (sSeq (sIf (tOf (eOp gtM (eOp ixM (eVar 0) (eC (.int 0))) (eC (.int 0))))
    (sSeq (sSet 2 (eOp modM (eCall intM (aCons (eOp ixM (eVar 0) (eC (.int 0))) (aNil))) (eVar 1)))
    (sSeq (sAs (eOp fdivM (eOp ixM (eVar 0) (eC (.int 0))) (eVar 1)) (gIx (eVar 0) (eC (.int 0))))
    (sRet (eVar 2))))
    (sSkip))
    (sSeq (sAs (eOp addM (eOp ixM (eVar 0) (eC (.int 2))) (eC (.int 1))) (gIx (eVar 0) (eC (.int 2))))
    (sSeq (sSet 3 (eOp modM (eCall intM (aCons (eOp addM (eOp ixM (eVar 0) (eC (.int 1))) (eOp mulM (eC (.int 49979687)) (eOp ixM (eVar 0) (eC (.int 2))))) (aNil))) (eC (.int 1000000123))))
    (sSeq (sSet 4 (eOp modM (eCall intM (aCons (eOp addM (eOp addM (eOp mulM (eVar 3) (eVar 3)) (eOp fdivM (eOp ixM (eVar 0) (eC (.int 1))) (eC (.int 1000003)))) (eOp mulM (eC (.int 7079)) (eOp ixM (eVar 0) (eC (.int 2))))) (aNil))) (eC (.int 999999937))))
    (sSeq (sSet 5 (eOp modM (eCall intM (aCons (eOp addM (eOp mulM (eVar 4) (eVar 4)) (eVar 3)) (aNil))) (eC (.int 1000000181))))
    (sRet (eOp modM (eCall intM (aCons (eOp fdivM (eVar 5) (eC (.int 64))) (aNil))) (eVar 1))))))))
/--  law great -/
def m_law_great : List T → M T := fnM 4
    (sSeq (sSet 2 (eC (.int 0)))
    (sSeq (sFor (iR1 (aCons (eOp addM (eC (.int 1)) (eCall (ar 2 m_law_sip) (aCons (eVar 0) (aCons (eVar 1) (aNil))))) (aNil))) (gNm 3)
    (sSet 2 (eOp addM (eOp mulM (eVar 2) (eC (.int 1000000))) (eCall (ar 2 m_law_sip) (aCons (eVar 0) (aCons (eC (.int 1000000)) (aNil)))))))
    (sRet (eVar 2))))
/--  law wide line -/
def m_law_wide_line : List T → M T := fnM 4
    (sSeq (sIf (tOf (eOp eqM (eCall (ar 2 m_law_sip) (aCons (eVar 0) (aCons (eC (.int 2)) (aNil)))) (eC (.int 0))))
    (sSeq (sPar2 1 2 (aCons (eCall (ar 2 m_law_great) (aCons (eVar 0) (aCons (eC (.int 4)) (aNil)))) (aCons (eOp subM (eCall (ar 2 m_law_great) (aCons (eVar 0) (aCons (eC (.int 5)) (aNil)))) (eCall (ar 2 m_law_great) (aCons (eVar 0) (aCons (eC (.int 5)) (aNil))))) (aNil))))
    (sRet (eLst (aCons (eVar 1) (aCons (eVar 2) (aCons (eOp subM (eCall (ar 2 m_law_great) (aCons (eVar 0) (aCons (eC (.int 9)) (aNil)))) (eCall (ar 2 m_law_great) (aCons (eVar 0) (aCons (eC (.int 9)) (aNil))))) (aCons (eOp addM (eC (.int 1)) (eCall (ar 2 m_law_great) (aCons (eVar 0) (aCons (eC (.int 9)) (aNil))))) (aNil))))))))
    (sSkip))
    (sSeq (sPar2 1 3 (aCons (eCall (ar 2 m_law_great) (aCons (eVar 0) (aCons (eC (.int 3)) (aNil)))) (aCons (eOp addM (eC (.int 1)) (eCall (ar 2 m_law_great) (aCons (eVar 0) (aCons (eC (.int 3)) (aNil))))) (aNil))))
    (sRet (eLst (aCons (eVar 1) (aCons (eOp subM (eCall (ar 2 m_law_great) (aCons (eVar 0) (aCons (eC (.int 3)) (aNil)))) (eCall (ar 2 m_law_great) (aCons (eVar 0) (aCons (eC (.int 3)) (aNil))))) (aCons (eOp subM (eCall (ar 2 m_law_great) (aCons (eVar 0) (aCons (eC (.int 3)) (aNil)))) (eCall (ar 2 m_law_great) (aCons (eVar 0) (aCons (eC (.int 3)) (aNil))))) (aCons (eVar 3) (aNil)))))))))
/--  law area -/
def m_law_area : List T → M T := fnM 8
    (sSeq (sAs (eTup (aCons (eC (.int 0)) (aCons (eC (.int 1)) (aNil)))) (gTp 2 (gsCons (gNm 4) (gsCons (gNm 5) (gsNil)))))
    (sSeq (sFor (iR1 (aCons (eC (.int 400)) (aNil))) (gNm 6)
    (sSeq (sSet 4 (eOp addM (eVar 4) (eOp mulM (eVar 5) (eOp addM (eOp mulM (eOp fdivM (eVar 1) (eVar 3)) (eOp fdivM (eOp mulM (eVar 0) (eOp subM (eVar 0) (eC (.int 1)))) (eC (.int 2)))) (eOp mulM (eOp fdivM (eVar 2) (eVar 3)) (eVar 0))))))
    (sSeq (sPar2 1 2 (aCons (eOp modM (eCall intM (aCons (eVar 1) (aNil))) (eVar 3)) (aCons (eOp modM (eCall intM (aCons (eVar 2) (aNil))) (eVar 3)) (aNil))))
    (sSeq (sSet 7 (eOp fdivM (eOp addM (eOp mulM (eVar 1) (eVar 0)) (eVar 2)) (eVar 3)))
    (sSeq (sIf (tOrM (tOf (eOp eqM (eVar 1) (eC (.int 0)))) (tOf (eOp eqM (eVar 7) (eC (.int 0)))))
    (sRet (eVar 4))
    (sSkip))
    (sSeq (sSet 4 (eOp addM (eVar 4) (eOp mulM (eOp mulM (eVar 5) (eVar 0)) (eVar 7))))
    (sSeq (sPar3 0 2 5 (aCons (eVar 7) (aCons (eOp addM (eOp subM (eOp subM (eVar 3) (eVar 2)) (eC (.int 1))) (eVar 1)) (aCons (eOp subM (eC (.int 0)) (eVar 5)) (aNil)))))
    (sPar2 1 3 (aCons (eVar 3) (aCons (eVar 1) (aNil)))))))))))
    (sRet (eVar 4))))
/--  law one of -/
def m_law_one_of : List T → M T := fnM 2
    (sRet (eOp ixM (eVar 1) (eCall (ar 2 m_law_sip) (aCons (eVar 0) (aCons (eCall lenM (aCons (eVar 1) (aNil))) (aNil))))))
/--  law totals -/
def m_law_totals : List T → M T := fnM 4
    (sRet (eLst (aCons (eCall (ar 4 m_line_sum) (aCons (eVar 0) (aCons (eVar 1) (aCons (eVar 2) (aCons (eVar 3) (aNil)))))) (aCons (eCall (ar 4 m_line_moment) (aCons (eVar 0) (aCons (eVar 1) (aCons (eVar 2) (aCons (eVar 3) (aNil)))))) (aCons (eCall (ar 4 m_line_square) (aCons (eVar 0) (aCons (eVar 1) (aCons (eVar 2) (aCons (eVar 3) (aNil)))))) (aNil))))))
/--  law parted right -/
def m_law_parted_right : List T → M T := fnM 9
    (sSeq (sPar2 5 6 (aCons (eCall (ar 4 m_law_totals) (aCons (eVar 0) (aCons (eVar 1) (aCons (eVar 2) (aCons (eVar 3) (aNil)))))) (aCons (eCall (ar 4 m_law_totals) (aCons (eVar 4) (aCons (eVar 1) (aCons (eVar 2) (aCons (eVar 3) (aNil)))))) (aNil))))
    (sSeq (sSet 7 (eCall (ar 4 m_law_totals) (aCons (eOp subM (eVar 0) (eVar 4)) (aCons (eVar 1) (aCons (eOp addM (eVar 2) (eOp mulM (eVar 1) (eVar 4))) (aCons (eVar 3) (aNil)))))))
    (sSeq (sSet 8 (eLst (aCons (eOp addM (eOp ixM (eVar 6) (eC (.int 0))) (eOp ixM (eVar 7) (eC (.int 0)))) (aCons (eOp addM (eOp addM (eOp ixM (eVar 6) (eC (.int 1))) (eOp ixM (eVar 7) (eC (.int 1)))) (eOp mulM (eVar 4) (eOp ixM (eVar 7) (eC (.int 0))))) (aCons (eOp addM (eOp ixM (eVar 6) (eC (.int 2))) (eOp ixM (eVar 7) (eC (.int 2)))) (aNil))))))
    (sRet (eOp eqM (eVar 5) (eVar 8))))))
/--  law grown right -/
def m_law_grown_right : List T → M T := fnM 9
    (sSeq (sPar2 4 5 (aCons (eCall (ar 4 m_law_totals) (aCons (eVar 0) (aCons (eVar 1) (aCons (eVar 2) (aCons (eVar 3) (aNil)))))) (aCons (eOp fdivM (eOp mulM (eVar 0) (eOp subM (eVar 0) (eC (.int 1)))) (eC (.int 2))) (aNil))))
    (sSeq (sSet 6 (eOp fdivM (eOp mulM (eOp mulM (eOp subM (eVar 0) (eC (.int 1))) (eVar 0)) (eOp subM (eOp mulM (eC (.int 2)) (eVar 0)) (eC (.int 1)))) (eC (.int 6))))
    (sSeq (sSet 7 (eCall (ar 4 m_law_totals) (aCons (eVar 0) (aCons (eVar 1) (aCons (eOp addM (eVar 2) (eVar 3)) (aCons (eVar 3) (aNil)))))))
    (sSeq (sIf (tOf (eOp neM (eVar 7) (eLst (aCons (eOp addM (eOp ixM (eVar 4) (eC (.int 0))) (eVar 0)) (aCons (eOp addM (eOp ixM (eVar 4) (eC (.int 1))) (eVar 5)) (aCons (eOp addM (eOp addM (eOp ixM (eVar 4) (eC (.int 2))) (eOp mulM (eC (.int 2)) (eOp ixM (eVar 4) (eC (.int 0))))) (eVar 0)) (aNil)))))))
    (sRet (eC (.bl false)))
    (sSkip))
    (sSeq (sSet 8 (eCall (ar 4 m_law_totals) (aCons (eVar 0) (aCons (eOp addM (eVar 1) (eVar 3)) (aCons (eVar 2) (aCons (eVar 3) (aNil)))))))
    (sRet (eOp eqM (eVar 8) (eLst (aCons (eOp addM (eOp ixM (eVar 4) (eC (.int 0))) (eVar 5)) (aCons (eOp addM (eOp ixM (eVar 4) (eC (.int 1))) (eVar 6)) (aCons (eOp addM (eOp addM (eOp ixM (eVar 4) (eC (.int 2))) (eOp mulM (eC (.int 2)) (eOp ixM (eVar 4) (eC (.int 1))))) (eVar 6)) (aNil))))))))))))
/-- law -/
def m_law : List T → M T := fnM 9
    (sSeq (sFor (iR1 (aCons (eCall maxM (aCons (eC (.int 1)) (aCons (eCall minM (aCons (eC (.int 5)) (aCons (eCall lenM (aCons (eVar 0) (aNil))) (aNil)))) (aNil)))) (aNil))) (gNm 1)
    (sSeq (sSet 2 (eCall (ar 2 m_law_bowl) (aCons (eVar 0) (aCons (eVar 1) (aNil)))))
    (sFor (iR1 (aCons (eC (.int 6)) (aNil))) (gNm 3)
    (sSeq (sAs (eCall (ar 1 m_law_wide_line) (aCons (eVar 2) (aNil))) (gTp 4 (gsCons (gNm 4) (gsCons (gNm 5) (gsCons (gNm 6) (gsCons (gNm 7) (gsNil)))))))
    (sSeq (sIf (tOf (eOp neM (eCall (ar 4 m_line_sum) (aCons (eVar 4) (aCons (eVar 5) (aCons (eVar 6) (aCons (eVar 7) (aNil)))))) (eCall (ar 4 m_law_area) (aCons (eVar 4) (aCons (eVar 5) (aCons (eVar 6) (aCons (eVar 7) (aNil))))))))
    (sRet (eC (.bl false)))
    (sSkip))
    (sSeq (sSet 8 (eCall (ar 2 m_law_one_of) (aCons (eVar 2) (aCons (eLst (aCons (eC (.int 0)) (aCons (eVar 4) (aCons (eOp fdivM (eVar 4) (eC (.int 2))) (aCons (eCall (ar 2 m_law_sip) (aCons (eVar 2) (aCons (eOp addM (eVar 4) (eC (.int 1))) (aNil)))) (aNil)))))) (aNil)))))
    (sSeq (sIf (tOrM (tNotM (tOf (eCall (ar 5 m_law_parted_right) (aCons (eVar 4) (aCons (eVar 5) (aCons (eVar 6) (aCons (eVar 7) (aCons (eVar 8) (aNil))))))))) (tNotM (tOf (eCall (ar 4 m_law_grown_right) (aCons (eVar 4) (aCons (eVar 5) (aCons (eVar 6) (aCons (eVar 7) (aNil)))))))))
    (sRet (eC (.bl false)))
    (sSkip))
    (sIf (tOf (eOp neM (eCall (ar 4 m_line_sum) (aCons (eVar 4) (aCons (eOp subM (eC (.int 0)) (eVar 5)) (aCons (eOp addM (eVar 6) (eOp mulM (eVar 5) (eOp subM (eVar 4) (eC (.int 1))))) (aCons (eVar 7) (aNil)))))) (eCall (ar 4 m_line_sum) (aCons (eVar 4) (aCons (eVar 5) (aCons (eVar 6) (aCons (eVar 7) (aNil))))))))
    (sRet (eC (.bl false)))
    (sSkip)))))))))
    (sRet (eC (.bl true))))
end Law
set_option Elab.async false
set_option linter.all false
set_option maxRecDepth 100000
set_option maxHeartbeats 4000000
namespace Law
open PySem L2 Zm
def top (i : Nat) : Stmt := PySem.Challenge.pw_toothchain_k41_whole_lines_put_together.main.body.getD i (.Pass ⟨0, 0, 0, 0⟩)
abbrev s_is_any_integer : Stmt := top 4
abbrev s_is_integer : Stmt := top 5
abbrev s_require_integer : Stmt := top 6
abbrev s_require_positive : Stmt := top 7
abbrev s_require_line : Stmt := top 9
abbrev s_first_sum : Stmt := top 10
abbrev s_second_sum : Stmt := top 11
abbrev s_lifted : Stmt := top 12
abbrev s_exchanged : Stmt := top 13
abbrev s_totals_in : Stmt := top 14
abbrev s_line_sum : Stmt := top 15
abbrev s_line_moment : Stmt := top 16
abbrev s_line_square : Stmt := top 17
abbrev s_law_bowl : Stmt := top 19
abbrev s_law_sip : Stmt := top 20
abbrev s_law_great : Stmt := top 21
abbrev s_law_wide_line : Stmt := top 22
abbrev s_law_area : Stmt := top 23
abbrev s_law_one_of : Stmt := top 24
abbrev s_law_totals : Stmt := top 25
abbrev s_law_parted_right : Stmt := top 26
abbrev s_law_grown_right : Stmt := top 27
abbrev s_law : Stmt := top 28
structure Txt (K : PySem.W.Frag) (mg : Str → Option Value) where
  d_is_any_integer : TD K mg "is_any_integer" "is_any_integer" s_is_any_integer ["value"]
  d_is_integer : TD K mg "is_integer" "is_integer" s_is_integer ["value"]
  d_require_integer : TD K mg "require_integer" "require_integer" s_require_integer ["value"]
  d_require_positive : TD K mg "require_positive" "require_positive" s_require_positive ["value"]
  d_require_line : TD K mg "require_line" "require_line" s_require_line ["n", "a", "c", "m"]
  d_first_sum : TD K mg "first_sum" "first_sum" s_first_sum ["n"]
  d_second_sum : TD K mg "second_sum" "second_sum" s_second_sum ["n"]
  d_lifted : TD K mg "lifted" "lifted" s_lifted ["n", "slope", "start", "totals"]
  d_exchanged : TD K mg "exchanged" "exchanged" s_exchanged ["last", "most", "totals"]
  d_totals_in : TD K mg "totals_in" "totals_in" s_totals_in ["n", "a", "c", "m"]
  d_line_sum : TD K mg "line_sum" "line_sum" s_line_sum ["n", "a", "c", "m"]
  d_line_moment : TD K mg "line_moment" "line_moment" s_line_moment ["n", "a", "c", "m"]
  d_line_square : TD K mg "line_square" "line_square" s_line_square ["n", "a", "c", "m"]
  d_law_bowl : TD K mg "_law_bowl" "_law_bowl" s_law_bowl ["_law_script", "_law_at"]
  d_law_sip : TD K mg "_law_sip" "_law_sip" s_law_sip ["_law_bowl_here", "_law_size"]
  d_law_great : TD K mg "_law_great" "_law_great" s_law_great ["_law_bowl_here", "_law_most"]
  d_law_wide_line : TD K mg "_law_wide_line" "_law_wide_line" s_law_wide_line ["_law_bowl_here"]
  d_law_area : TD K mg "_law_area" "_law_area" s_law_area ["_law_n", "_law_a", "_law_c", "_law_m"]
  d_law_one_of : TD K mg "_law_one_of" "_law_one_of" s_law_one_of ["_law_bowl_here", "_law_items"]
  d_law_totals : TD K mg "_law_totals" "_law_totals" s_law_totals ["_law_n", "_law_a", "_law_c", "_law_m"]
  d_law_parted_right : TD K mg "_law_parted_right" "_law_parted_right" s_law_parted_right ["_law_n", "_law_a", "_law_c", "_law_m", "_law_place"]
  d_law_grown_right : TD K mg "_law_grown_right" "_law_grown_right" s_law_grown_right ["_law_n", "_law_a", "_law_c", "_law_m"]
  d_law : TD K mg "law" "law" s_law ["_law_script"]
  c_GREATEST : GI mg "GREATEST" 1000000000000000000000000000000000000000000000000000000000000
  z_abs : mg "abs" = none
  z_bool : mg "bool" = none
  z_int : mg "int" = none
  z_isinstance : mg "isinstance" = none
  z_len : mg "len" = none
  z_max : mg "max" = none
  z_min : mg "min" = none
  z_range : mg "range" = none
theorem bt_abs : bootBuiltins "abs" = some (.builtin "abs") := by decide +kernel
theorem bt_bool : bootBuiltins "bool" = some (.type "bool") := by decide +kernel
theorem bt_int : bootBuiltins "int" = some (.type "int") := by decide +kernel
theorem bt_isinstance : bootBuiltins "isinstance" = some (.builtin "isinstance") := by decide +kernel
theorem bt_len : bootBuiltins "len" = some (.builtin "len") := by decide +kernel
theorem bt_max : bootBuiltins "max" = some (.builtin "max") := by decide +kernel
theorem bt_min : bootBuiltins "min" = some (.builtin "min") := by decide +kernel
section
variable {P : Program} {w : World} {K : PySem.W.Frag} {mg : Str → Option Value} {base : Heap} {C : Nat → Addr}
theorem sc_is_any_integer : FnScope ["value"] ["value"] (defScope s_is_any_integer) := ⟨rfl, rfl, rfl, by decide +kernel, rfl, by decide +kernel, by decide +kernel⟩
theorem ok_is_any_integer (T : Txt K mg) : FnOk P w K mg base CX0 1 T.d_is_any_integer.f T.d_is_any_integer.fd ["value"] (spM K C 1 m_is_any_integer) :=
  fn_ok T.d_is_any_integer.F sc_is_any_integer fun cdv A outer s H E hr => ss_one (sm_ret (em_and (em_callB cm_isi (am_cons (em_var 0) (am_cons (em_ty T.z_int bt_int) (am_nil))) T.z_isinstance bt_isinstance) (em_one (em_not (em_callB cm_isi (am_cons (em_var 0) (am_cons (em_ty T.z_bool bt_bool) (am_nil))) T.z_isinstance bt_isinstance)))))
theorem sc_is_integer : FnScope ["value"] ["value"] (defScope s_is_integer) := ⟨rfl, rfl, rfl, by decide +kernel, rfl, by decide +kernel, by decide +kernel⟩
theorem ok_is_integer (T : Txt K mg) : FnOk P w K mg base CX0 2 T.d_is_integer.f T.d_is_integer.fd ["value"] (spM K C 1 m_is_integer) :=
  fn_ok T.d_is_integer.F sc_is_integer fun cdv A outer s H E hr => ss_one (sm_ret (em_and (em_call (df T.d_is_any_integer (ok_is_any_integer T) (hr.mono (by decide))) (am_cons (em_var 0) (am_nil))) (em_one (em_chn om_lt om_lt (em_un um_neg (em_gi T.c_GREATEST)) (em_var 0) (em_gi T.c_GREATEST)))))
theorem sc_require_integer : FnScope ["value"] ["value"] (defScope s_require_integer) := ⟨rfl, rfl, rfl, by decide +kernel, rfl, by decide +kernel, by decide +kernel⟩
theorem ok_require_integer (T : Txt K mg) : FnOk P w K mg base CX0 3 T.d_require_integer.f T.d_require_integer.fd ["value"] (spM K C 1 m_require_integer) :=
  fn_ok T.d_require_integer.F sc_require_integer fun cdv A outer s H E hr => ss_one (sm_if (tm_not (tm_val (em_call (df T.d_is_integer (ok_is_integer T) (hr.mono (by decide))) (am_cons (em_var 0) (am_nil)))))
    (ss_one (sm_no))
    (ss_nil))
theorem sc_require_positive : FnScope ["value"] ["value"] (defScope s_require_positive) := ⟨rfl, rfl, rfl, by decide +kernel, rfl, by decide +kernel, by decide +kernel⟩
theorem ok_require_positive (T : Txt K mg) : FnOk P w K mg base CX0 3 T.d_require_positive.f T.d_require_positive.fd ["value"] (spM K C 1 m_require_positive) :=
  fn_ok T.d_require_positive.F sc_require_positive fun cdv A outer s H E hr => ss_one (sm_if ((tw_or (tm_not (tm_val (em_call (df T.d_is_integer (ok_is_integer T) (hr.mono (by decide))) (am_cons (em_var 0) (am_nil))))) (tw_or1 (tm_cmp om_lt (em_var 0) (em_int) (nomark _)))).t)
    (ss_one (sm_no))
    (ss_nil))
theorem sc_require_line : FnScope ["n", "a", "c", "m"] ["n", "a", "c", "m"] (defScope s_require_line) := ⟨rfl, rfl, rfl, by decide +kernel, rfl, by decide +kernel, by decide +kernel⟩
theorem ok_require_line (T : Txt K mg) : FnOk P w K mg base CX0 4 T.d_require_line.f T.d_require_line.fd ["n", "a", "c", "m"] (spM K C 4 m_require_line) :=
  fn_ok T.d_require_line.F sc_require_line fun cdv A outer s H E hr => ss_cons (sm_if ((tw_or (tm_not (tm_val (em_call (df T.d_is_integer (ok_is_integer T) (hr.mono (by decide))) (am_cons (em_var 0) (am_nil))))) (tw_or1 (tm_cmp om_lt (em_var 0) (em_int) (nomark _)))).t)
    (ss_one (sm_no))
    (ss_nil))
    (ss_cons (sm_expr (em_call (df T.d_require_integer (ok_require_integer T) (hr.mono (by decide))) (am_cons (em_var 1) (am_nil))))
    (ss_cons (sm_expr (em_call (df T.d_require_integer (ok_require_integer T) (hr.mono (by decide))) (am_cons (em_var 2) (am_nil))))
    (ss_one (sm_expr (em_call (df T.d_require_positive (ok_require_positive T) (hr.mono (by decide))) (am_cons (em_var 3) (am_nil)))))))
theorem sc_first_sum : FnScope ["n"] ["n"] (defScope s_first_sum) := ⟨rfl, rfl, rfl, by decide +kernel, rfl, by decide +kernel, by decide +kernel⟩
theorem ok_first_sum (T : Txt K mg) : FnOk P w K mg base CX0 1 T.d_first_sum.f T.d_first_sum.fd ["n"] (spM K C 1 m_first_sum) :=
  fn_ok T.d_first_sum.F sc_first_sum fun cdv A outer s H E hr => ss_one (sm_ret (em_op om_fdiv (em_op om_mul (em_var 0) (em_op om_sub (em_var 0) (em_int))) (em_int)))
theorem sc_second_sum : FnScope ["n"] ["n"] (defScope s_second_sum) := ⟨rfl, rfl, rfl, by decide +kernel, rfl, by decide +kernel, by decide +kernel⟩
theorem ok_second_sum (T : Txt K mg) : FnOk P w K mg base CX0 1 T.d_second_sum.f T.d_second_sum.fd ["n"] (spM K C 1 m_second_sum) :=
  fn_ok T.d_second_sum.F sc_second_sum fun cdv A outer s H E hr => ss_one (sm_ret (em_op om_fdiv (em_op om_mul (em_op om_mul (em_var 0) (em_op om_sub (em_var 0) (em_int))) (em_op om_sub (em_op om_mul (em_int) (em_var 0)) (em_int))) (em_int)))
theorem sc_lifted : FnScope ["n", "slope", "start", "totals", "plain", "moment", "square", "ones", "twos", "raised", "weighted", "squared"] ["n", "slope", "start", "totals"] (defScope s_lifted) := ⟨rfl, rfl, rfl, by decide +kernel, rfl, by decide +kernel, by decide +kernel⟩
theorem ok_lifted (T : Txt K mg) : FnOk P w K mg base CX0 2 T.d_lifted.f T.d_lifted.fd ["n", "slope", "start", "totals"] (spM K C 4 m_lifted) :=
  fn_ok T.d_lifted.F sc_lifted fun cdv A outer s H E hr => ss_cons (sm_asg (em_var 3) (gm_tup rfl (gs_cons (gm_name (i := 4) sc_lifted.nd) (gs_cons (gm_name (i := 5) sc_lifted.nd) (gs_cons (gm_name (i := 6) sc_lifted.nd) (gs_nil))))))
    (ss_cons (sm_par2 (i := 7) (j := 8) rfl sc_lifted.nd (am_cons (em_call (df T.d_first_sum (ok_first_sum T) (hr.mono (by decide))) (am_cons (em_var 0) (am_nil))) (am_cons (em_call (df T.d_second_sum (ok_second_sum T) (hr.mono (by decide))) (am_cons (em_var 0) (am_nil))) (am_nil))))
    (ss_cons (sm_set (i := 9) sc_lifted.nd (em_op om_add (em_op om_add (em_var 4) (em_op om_mul (em_var 1) (em_var 7))) (em_op om_mul (em_var 2) (em_var 0))))
    (ss_cons (sm_set (i := 10) sc_lifted.nd (em_op om_add (em_op om_add (em_var 5) (em_op om_mul (em_var 1) (em_var 8))) (em_op om_mul (em_var 2) (em_var 7))))
    (ss_cons (sm_set (i := 11) sc_lifted.nd (em_op om_add (em_op om_add (em_op om_add (em_var 6) (em_op om_mul (em_op om_mul (em_var 1) (em_var 1)) (em_var 8))) (em_op om_mul (em_op om_mul (em_var 2) (em_var 2)) (em_var 0))) (em_op om_mul (em_op om_mul (em_op om_mul (em_int) (em_var 1)) (em_var 2)) (em_var 7))))
    (ss_one (sm_ret (em_tup (am_cons (em_var 9) (am_cons (em_var 10) (am_cons (em_op om_add (em_op om_add (em_var 11) (em_op om_mul (em_op om_mul (em_int) (em_var 1)) (em_var 5))) (em_op om_mul (em_op om_mul (em_int) (em_var 2)) (em_var 4))) (am_nil)))))))))))
theorem sc_exchanged : FnScope ["last", "most", "totals", "plain", "moment", "square", "found", "weighted"] ["last", "most", "totals"] (defScope s_exchanged) := ⟨rfl, rfl, rfl, by decide +kernel, rfl, by decide +kernel, by decide +kernel⟩
theorem ok_exchanged (T : Txt K mg) : FnOk P w K mg base CX0 1 T.d_exchanged.f T.d_exchanged.fd ["last", "most", "totals"] (spM K C 3 m_exchanged) :=
  fn_ok T.d_exchanged.F sc_exchanged fun cdv A outer s H E hr => ss_cons (sm_asg (em_var 2) (gm_tup rfl (gs_cons (gm_name (i := 3) sc_exchanged.nd) (gs_cons (gm_name (i := 4) sc_exchanged.nd) (gs_cons (gm_name (i := 5) sc_exchanged.nd) (gs_nil))))))
    (ss_cons (sm_set (i := 6) sc_exchanged.nd (em_op om_sub (em_op om_mul (em_var 0) (em_var 1)) (em_var 3)))
    (ss_cons (sm_set (i := 7) sc_exchanged.nd (em_op om_fdiv (em_op om_sub (em_op om_sub (em_op om_mul (em_op om_mul (em_var 1) (em_var 0)) (em_op om_add (em_var 0) (em_int))) (em_var 5)) (em_var 3)) (em_int)))
    (ss_one (sm_ret (em_tup (am_cons (em_var 6) (am_cons (em_var 7) (am_cons (em_op om_sub (em_op om_sub (em_op om_sub (em_op om_mul (em_op om_mul (em_var 0) (em_var 1)) (em_op om_add (em_var 1) (em_int))) (em_op om_mul (em_int) (em_var 4))) (em_op om_mul (em_int) (em_var 3))) (em_var 6)) (am_nil)))))))))
theorem sc_totals_in : FnScope ["n", "a", "c", "m", "pending", "most", "totals", "word", "first", "second", "third"] ["n", "a", "c", "m"] (defScope s_totals_in) := ⟨rfl, rfl, rfl, by decide +kernel, rfl, by decide +kernel, by decide +kernel⟩
theorem ok_totals_in (T : Txt K mg) : FnOk P w K mg base CX0 3 T.d_totals_in.f T.d_totals_in.fd ["n", "a", "c", "m"] (spM K C 4 m_totals_in) :=
  fn_ok T.d_totals_in.F sc_totals_in fun cdv A outer s H E hr => ss_cons (sm_set (i := 4) sc_totals_in.nd (em_cel (am_nil)))
    (ss_cons (sm_while wn PassesOwn.never (tm_val (em_bl))
    (ss_cons (sm_expr (em_app (em_var 4) (am_cons (em_tup (am_cons (em_str) (am_cons (em_var 0) (am_cons (em_op om_fdiv (em_var 1) (em_var 3)) (am_cons (em_op om_fdiv (em_var 2) (em_var 3)) (am_nil)))))) (am_nil))))
    (ss_cons (sm_par2 (i := 1) (j := 2) rfl sc_totals_in.nd (am_cons (em_op om_mod (em_var 1) (em_var 3)) (am_cons (em_op om_mod (em_var 2) (em_var 3)) (am_nil))))
    (ss_cons (sm_set (i := 5) sc_totals_in.nd (em_if (tm_cmp om_gt (em_var 0) (em_int) (nomark _)) (em_op om_fdiv (em_op om_add (em_op om_mul (em_var 1) (em_op om_sub (em_var 0) (em_int))) (em_var 2)) (em_var 3)) (em_int)))
    (ss_cons (sm_if (tm_cmp om_le (em_var 5) (em_int) (nomark _))
    (ss_one (sm_break))
    (ss_nil))
    (ss_cons (sm_expr (em_app (em_var 4) (am_cons (em_tup (am_cons (em_str) (am_cons (em_op om_sub (em_var 0) (em_int)) (am_cons (em_var 5) (am_cons (em_int) (am_nil)))))) (am_nil))))
    (ss_one (sm_asg (em_tup (am_cons (em_var 5) (am_cons (em_var 3) (am_cons (em_op om_sub (em_op om_sub (em_var 3) (em_var 2)) (em_int)) (am_cons (em_var 1) (am_nil)))))) (gm_tup rfl (gs_cons (gm_name (i := 0) sc_totals_in.nd) (gs_cons (gm_name (i := 1) sc_totals_in.nd) (gs_cons (gm_name (i := 2) sc_totals_in.nd) (gs_cons (gm_name (i := 3) sc_totals_in.nd) (gs_nil))))))))))))))
    (ss_cons (sm_set (i := 6) sc_totals_in.nd (em_tup (am_cons (em_int) (am_cons (em_int) (am_cons (em_int) (am_nil))))))
    (ss_cons (sm_for PassesOwn.never rfl (im_seq (em_rev (em_var 4))) (gm_tup rfl (gs_cons (gm_name (i := 7) sc_totals_in.nd) (gs_cons (gm_name (i := 8) sc_totals_in.nd) (gs_cons (gm_name (i := 9) sc_totals_in.nd) (gs_cons (gm_name (i := 10) sc_totals_in.nd) (gs_nil))))))
    (ss_one (sm_if (tm_cmp (om_eq hr.units) (em_var 7) (em_str) (nomark _))
    (ss_one (sm_set (i := 6) sc_totals_in.nd (em_call (df T.d_lifted (ok_lifted T) (hr.mono (by decide))) (am_cons (em_var 8) (am_cons (em_var 9) (am_cons (em_var 10) (am_cons (em_var 6) (am_nil))))))))
    (ss_one (sm_set (i := 6) sc_totals_in.nd (em_call (df T.d_exchanged (ok_exchanged T) (hr.mono (by decide))) (am_cons (em_var 8) (am_cons (em_var 9) (am_cons (em_var 6) (am_nil))))))))))
    (ss_one (sm_ret (em_var 6))))))
theorem sc_line_sum : FnScope ["n", "a", "c", "m"] ["n", "a", "c", "m"] (defScope s_line_sum) := ⟨rfl, rfl, rfl, by decide +kernel, rfl, by decide +kernel, by decide +kernel⟩
theorem ok_line_sum (T : Txt K mg) : FnOk P w K mg base CX0 5 T.d_line_sum.f T.d_line_sum.fd ["n", "a", "c", "m"] (spM K C 4 m_line_sum) :=
  fn_ok T.d_line_sum.F sc_line_sum fun cdv A outer s H E hr => ss_cons (sm_expr (em_call (df T.d_require_line (ok_require_line T) (hr.mono (by decide))) (am_cons (em_var 0) (am_cons (em_var 1) (am_cons (em_var 2) (am_cons (em_var 3) (am_nil)))))))
    (ss_one (sm_ret (em_ix (em_call (df T.d_totals_in (ok_totals_in T) (hr.mono (by decide))) (am_cons (em_var 0) (am_cons (em_var 1) (am_cons (em_var 2) (am_cons (em_var 3) (am_nil)))))) (em_int))))
theorem sc_line_moment : FnScope ["n", "a", "c", "m"] ["n", "a", "c", "m"] (defScope s_line_moment) := ⟨rfl, rfl, rfl, by decide +kernel, rfl, by decide +kernel, by decide +kernel⟩
theorem ok_line_moment (T : Txt K mg) : FnOk P w K mg base CX0 5 T.d_line_moment.f T.d_line_moment.fd ["n", "a", "c", "m"] (spM K C 4 m_line_moment) :=
  fn_ok T.d_line_moment.F sc_line_moment fun cdv A outer s H E hr => ss_cons (sm_expr (em_call (df T.d_require_line (ok_require_line T) (hr.mono (by decide))) (am_cons (em_var 0) (am_cons (em_var 1) (am_cons (em_var 2) (am_cons (em_var 3) (am_nil)))))))
    (ss_one (sm_ret (em_ix (em_call (df T.d_totals_in (ok_totals_in T) (hr.mono (by decide))) (am_cons (em_var 0) (am_cons (em_var 1) (am_cons (em_var 2) (am_cons (em_var 3) (am_nil)))))) (em_int))))
theorem sc_line_square : FnScope ["n", "a", "c", "m"] ["n", "a", "c", "m"] (defScope s_line_square) := ⟨rfl, rfl, rfl, by decide +kernel, rfl, by decide +kernel, by decide +kernel⟩
theorem ok_line_square (T : Txt K mg) : FnOk P w K mg base CX0 5 T.d_line_square.f T.d_line_square.fd ["n", "a", "c", "m"] (spM K C 4 m_line_square) :=
  fn_ok T.d_line_square.F sc_line_square fun cdv A outer s H E hr => ss_cons (sm_expr (em_call (df T.d_require_line (ok_require_line T) (hr.mono (by decide))) (am_cons (em_var 0) (am_cons (em_var 1) (am_cons (em_var 2) (am_cons (em_var 3) (am_nil)))))))
    (ss_one (sm_ret (em_ix (em_call (df T.d_totals_in (ok_totals_in T) (hr.mono (by decide))) (am_cons (em_var 0) (am_cons (em_var 1) (am_cons (em_var 2) (am_cons (em_var 3) (am_nil)))))) (em_int))))
theorem sc_law_bowl : FnScope ["_law_script", "_law_at", "_law_cell", "_law_great_here", "_law_seed"] ["_law_script", "_law_at"] (defScope s_law_bowl) := ⟨rfl, rfl, rfl, by decide +kernel, rfl, by decide +kernel, by decide +kernel⟩
theorem ok_law_bowl (T : Txt K mg) : FnOk P w K mg base CX0 1 T.d_law_bowl.f T.d_law_bowl.fd ["_law_script", "_law_at"] (spM K C 2 m_law_bowl) :=
  fn_okK T.d_law_bowl.F sc_law_bowl fun cdv A outer s H E hr => ss_cons (sm_set (i := 2) sc_law_bowl.nd (em_if (tm_cmp om_lt (em_var 1) (em_callB cm_len (am_cons (em_var 0) (am_nil)) T.z_len bt_len) (nomark _)) (em_ix (em_var 0) (em_var 1)) (em_op om_add (em_op om_mul (em_int) (em_var 1)) (em_int))))
    (ss_cons (sm_set (i := 3) sc_law_bowl.nd (em_op om_mod (em_callT cm_int (am_cons (em_callB cm_abs (am_cons (em_var 2) (am_nil)) T.z_abs bt_abs) (am_nil)) T.z_int bt_int) (em_op om_pow (em_op om_pow (em_int) (em_int)) (em_int))))
    (ss_cons (sm_set (i := 4) sc_law_bowl.nd (em_op om_mod (em_callT cm_int (am_cons (em_op om_add (em_op om_add (em_op om_add (em_op om_mul (em_var 3) (em_int)) (em_op om_mul (em_int) (em_var 1))) (em_op om_mul (em_int) (em_callT cm_int (am_cons (em_cmp om_lt (em_var 2) (em_int) (nomark _)) (am_nil)) T.z_int bt_int))) (em_int)) (am_nil)) T.z_int bt_int) (em_op om_add (em_op om_pow (em_int) (em_int)) (em_int))))
    (ss_one (sm_ret (em_cel (am_cons (em_if (tm_cmp om_gt (em_var 3) (em_op om_pow (em_int) (em_int)) (nomark _)) (em_op om_sub (em_var 3) (em_op om_pow (em_int) (em_int))) (em_int)) (am_cons (em_var 4) (am_cons (em_int) (am_nil)))))))))
theorem sc_law_sip : FnScope ["_law_bowl_here", "_law_size", "_law_found", "_law_one", "_law_two", "_law_three"] ["_law_bowl_here", "_law_size"] (defScope s_law_sip) := ⟨rfl, rfl, rfl, by decide +kernel, rfl, by decide +kernel, by decide +kernel⟩
theorem ok_law_sip (T : Txt K mg) : FnOk P w K mg base CX0 1 T.d_law_sip.f T.d_law_sip.fd ["_law_bowl_here", "_law_size"] (spM K C 2 m_law_sip) :=
  fn_ok T.d_law_sip.F sc_law_sip fun cdv A outer s H E hr => ss_cons (sm_if (tm_cmp om_gt (em_ix (em_var 0) (em_int)) (em_int) (nomark _))
    (ss_cons (sm_set (i := 2) sc_law_sip.nd (em_op om_mod (em_callT cm_int (am_cons (em_ix (em_var 0) (em_int)) (am_nil)) T.z_int bt_int) (em_var 1)))
    (ss_cons (sm_asg (em_op om_fdiv (em_ix (em_var 0) (em_int)) (em_var 1)) (gm_ix (em_var 0) (em_int)))
    (ss_one (sm_ret (em_var 2)))))
    (ss_nil))
    (ss_cons (sm_asg (em_op om_add (em_ix (em_var 0) (em_int)) (em_int)) (gm_ix (em_var 0) (em_int)))
    (ss_cons (sm_set (i := 3) sc_law_sip.nd (em_op om_mod (em_callT cm_int (am_cons (em_op om_add (em_ix (em_var 0) (em_int)) (em_op om_mul (em_int) (em_ix (em_var 0) (em_int)))) (am_nil)) T.z_int bt_int) (em_int)))
    (ss_cons (sm_set (i := 4) sc_law_sip.nd (em_op om_mod (em_callT cm_int (am_cons (em_op om_add (em_op om_add (em_op om_mul (em_var 3) (em_var 3)) (em_op om_fdiv (em_ix (em_var 0) (em_int)) (em_int))) (em_op om_mul (em_int) (em_ix (em_var 0) (em_int)))) (am_nil)) T.z_int bt_int) (em_int)))
    (ss_cons (sm_set (i := 5) sc_law_sip.nd (em_op om_mod (em_callT cm_int (am_cons (em_op om_add (em_op om_mul (em_var 4) (em_var 4)) (em_var 3)) (am_nil)) T.z_int bt_int) (em_int)))
    (ss_one (sm_ret (em_op om_mod (em_callT cm_int (am_cons (em_op om_fdiv (em_var 5) (em_int)) (am_nil)) T.z_int bt_int) (em_var 1))))))))
theorem sc_law_great : FnScope ["_law_bowl_here", "_law_most", "_law_found", "_law_turn"] ["_law_bowl_here", "_law_most"] (defScope s_law_great) := ⟨rfl, rfl, rfl, by decide +kernel, rfl, by decide +kernel, by decide +kernel⟩
theorem ok_law_great (T : Txt K mg) : FnOk P w K mg base CX0 2 T.d_law_great.f T.d_law_great.fd ["_law_bowl_here", "_law_most"] (spM K C 2 m_law_great) :=
  fn_ok T.d_law_great.F sc_law_great fun cdv A outer s H E hr => ss_cons (sm_set (i := 2) sc_law_great.nd (em_int))
    (ss_cons (sm_for PassesOwn.never rfl (im_range1 (am_cons (em_op om_add (em_int) (em_call (df T.d_law_sip (ok_law_sip T) (hr.mono (by decide))) (am_cons (em_var 0) (am_cons (em_var 1) (am_nil))))) (am_nil)) T.z_range) (gm_name (i := 3) sc_law_great.nd)
    (ss_one (sm_set (i := 2) sc_law_great.nd (em_op om_add (em_op om_mul (em_var 2) (em_int)) (em_call (df T.d_law_sip (ok_law_sip T) (hr.mono (by decide))) (am_cons (em_var 0) (am_cons (em_int) (am_nil))))))))
    (ss_one (sm_ret (em_var 2))))
theorem sc_law_wide_line : FnScope ["_law_bowl_here", "_law_n", "_law_a", "_law_m"] ["_law_bowl_here"] (defScope s_law_wide_line) := ⟨rfl, rfl, rfl, by decide +kernel, rfl, by decide +kernel, by decide +kernel⟩
theorem ok_law_wide_line (T : Txt K mg) : FnOk P w K mg base CX0 3 T.d_law_wide_line.f T.d_law_wide_line.fd ["_law_bowl_here"] (spM K C 1 m_law_wide_line) :=
  fn_ok T.d_law_wide_line.F sc_law_wide_line fun cdv A outer s H E hr => ss_cons (sm_if (tm_cmp (om_eq hr.units) (em_call (df T.d_law_sip (ok_law_sip T) (hr.mono (by decide))) (am_cons (em_var 0) (am_cons (em_int) (am_nil)))) (em_int) (nomark _))
    (ss_cons (sm_par2 (i := 1) (j := 2) rfl sc_law_wide_line.nd (am_cons (em_call (df T.d_law_great (ok_law_great T) (hr.mono (by decide))) (am_cons (em_var 0) (am_cons (em_int) (am_nil)))) (am_cons (em_op om_sub (em_call (df T.d_law_great (ok_law_great T) (hr.mono (by decide))) (am_cons (em_var 0) (am_cons (em_int) (am_nil)))) (em_call (df T.d_law_great (ok_law_great T) (hr.mono (by decide))) (am_cons (em_var 0) (am_cons (em_int) (am_nil))))) (am_nil))))
    (ss_one (sm_ret (em_lst (am_cons (em_var 1) (am_cons (em_var 2) (am_cons (em_op om_sub (em_call (df T.d_law_great (ok_law_great T) (hr.mono (by decide))) (am_cons (em_var 0) (am_cons (em_int) (am_nil)))) (em_call (df T.d_law_great (ok_law_great T) (hr.mono (by decide))) (am_cons (em_var 0) (am_cons (em_int) (am_nil))))) (am_cons (em_op om_add (em_int) (em_call (df T.d_law_great (ok_law_great T) (hr.mono (by decide))) (am_cons (em_var 0) (am_cons (em_int) (am_nil))))) (am_nil)))))))))
    (ss_nil))
    (ss_cons (sm_par2 (i := 1) (j := 3) rfl sc_law_wide_line.nd (am_cons (em_call (df T.d_law_great (ok_law_great T) (hr.mono (by decide))) (am_cons (em_var 0) (am_cons (em_int) (am_nil)))) (am_cons (em_op om_add (em_int) (em_call (df T.d_law_great (ok_law_great T) (hr.mono (by decide))) (am_cons (em_var 0) (am_cons (em_int) (am_nil))))) (am_nil))))
    (ss_one (sm_ret (em_lst (am_cons (em_var 1) (am_cons (em_op om_sub (em_call (df T.d_law_great (ok_law_great T) (hr.mono (by decide))) (am_cons (em_var 0) (am_cons (em_int) (am_nil)))) (em_call (df T.d_law_great (ok_law_great T) (hr.mono (by decide))) (am_cons (em_var 0) (am_cons (em_int) (am_nil))))) (am_cons (em_op om_sub (em_call (df T.d_law_great (ok_law_great T) (hr.mono (by decide))) (am_cons (em_var 0) (am_cons (em_int) (am_nil)))) (em_call (df T.d_law_great (ok_law_great T) (hr.mono (by decide))) (am_cons (em_var 0) (am_cons (em_int) (am_nil))))) (am_cons (em_var 3) (am_nil)))))))))
theorem sc_law_area : FnScope ["_law_n", "_law_a", "_law_c", "_law_m", "_law_found", "_law_sign", "_law_turn", "_law_high"] ["_law_n", "_law_a", "_law_c", "_law_m"] (defScope s_law_area) := ⟨rfl, rfl, rfl, by decide +kernel, rfl, by decide +kernel, by decide +kernel⟩
theorem ok_law_area (T : Txt K mg) : FnOk P w K mg base CX0 1 T.d_law_area.f T.d_law_area.fd ["_law_n", "_law_a", "_law_c", "_law_m"] (spM K C 4 m_law_area) :=
  fn_ok T.d_law_area.F sc_law_area fun cdv A outer s H E hr => ss_cons (sm_asg (em_tup (am_cons (em_int) (am_cons (em_int) (am_nil)))) (gm_tup rfl (gs_cons (gm_name (i := 4) sc_law_area.nd) (gs_cons (gm_name (i := 5) sc_law_area.nd) (gs_nil)))))
    (ss_cons (sm_for PassesOwn.never rfl (im_range1 (am_cons (em_int) (am_nil)) T.z_range) (gm_name (i := 6) sc_law_area.nd)
    (ss_cons (sm_set (i := 4) sc_law_area.nd (em_op om_add (em_var 4) (em_op om_mul (em_var 5) (em_op om_add (em_op om_mul (em_op om_fdiv (em_var 1) (em_var 3)) (em_op om_fdiv (em_op om_mul (em_var 0) (em_op om_sub (em_var 0) (em_int))) (em_int))) (em_op om_mul (em_op om_fdiv (em_var 2) (em_var 3)) (em_var 0))))))
    (ss_cons (sm_par2 (i := 1) (j := 2) rfl sc_law_area.nd (am_cons (em_op om_mod (em_callT cm_int (am_cons (em_var 1) (am_nil)) T.z_int bt_int) (em_var 3)) (am_cons (em_op om_mod (em_callT cm_int (am_cons (em_var 2) (am_nil)) T.z_int bt_int) (em_var 3)) (am_nil))))
    (ss_cons (sm_set (i := 7) sc_law_area.nd (em_op om_fdiv (em_op om_add (em_op om_mul (em_var 1) (em_var 0)) (em_var 2)) (em_var 3)))
    (ss_cons (sm_if ((tw_or (tm_cmp (om_eq hr.units) (em_var 1) (em_int) (nomark _)) (tw_or1 (tm_cmp (om_eq hr.units) (em_var 7) (em_int) (nomark _)))).t)
    (ss_one (sm_ret (em_var 4)))
    (ss_nil))
    (ss_cons (sm_set (i := 4) sc_law_area.nd (em_op om_add (em_var 4) (em_op om_mul (em_op om_mul (em_var 5) (em_var 0)) (em_var 7))))
    (ss_cons (sm_par3 (i := 0) (j := 2) (l := 5) rfl sc_law_area.nd (am_cons (em_var 7) (am_cons (em_op om_add (em_op om_sub (em_op om_sub (em_var 3) (em_var 2)) (em_int)) (em_var 1)) (am_cons (em_op om_sub (em_int) (em_var 5)) (am_nil)))))
    (ss_one (sm_par2 (i := 1) (j := 3) rfl sc_law_area.nd (am_cons (em_var 3) (am_cons (em_var 1) (am_nil))))))))))))
    (ss_one (sm_ret (em_var 4))))
theorem sc_law_one_of : FnScope ["_law_bowl_here", "_law_items"] ["_law_bowl_here", "_law_items"] (defScope s_law_one_of) := ⟨rfl, rfl, rfl, by decide +kernel, rfl, by decide +kernel, by decide +kernel⟩
theorem ok_law_one_of (T : Txt K mg) : FnOk P w K mg base CX0 2 T.d_law_one_of.f T.d_law_one_of.fd ["_law_bowl_here", "_law_items"] (spM K C 2 m_law_one_of) :=
  fn_ok T.d_law_one_of.F sc_law_one_of fun cdv A outer s H E hr => ss_one (sm_ret (em_ix (em_var 1) (em_call (df T.d_law_sip (ok_law_sip T) (hr.mono (by decide))) (am_cons (em_var 0) (am_cons (em_callB cm_len (am_cons (em_var 1) (am_nil)) T.z_len bt_len) (am_nil))))))
theorem sc_law_totals : FnScope ["_law_n", "_law_a", "_law_c", "_law_m"] ["_law_n", "_law_a", "_law_c", "_law_m"] (defScope s_law_totals) := ⟨rfl, rfl, rfl, by decide +kernel, rfl, by decide +kernel, by decide +kernel⟩
theorem ok_law_totals (T : Txt K mg) : FnOk P w K mg base CX0 6 T.d_law_totals.f T.d_law_totals.fd ["_law_n", "_law_a", "_law_c", "_law_m"] (spM K C 4 m_law_totals) :=
  fn_ok T.d_law_totals.F sc_law_totals fun cdv A outer s H E hr => ss_one (sm_ret (em_lst (am_cons (em_call (df T.d_line_sum (ok_line_sum T) (hr.mono (by decide))) (am_cons (em_var 0) (am_cons (em_var 1) (am_cons (em_var 2) (am_cons (em_var 3) (am_nil)))))) (am_cons (em_call (df T.d_line_moment (ok_line_moment T) (hr.mono (by decide))) (am_cons (em_var 0) (am_cons (em_var 1) (am_cons (em_var 2) (am_cons (em_var 3) (am_nil)))))) (am_cons (em_call (df T.d_line_square (ok_line_square T) (hr.mono (by decide))) (am_cons (em_var 0) (am_cons (em_var 1) (am_cons (em_var 2) (am_cons (em_var 3) (am_nil)))))) (am_nil))))))
theorem sc_law_parted_right : FnScope ["_law_n", "_law_a", "_law_c", "_law_m", "_law_place", "_law_whole", "_law_first", "_law_rest", "_law_due"] ["_law_n", "_law_a", "_law_c", "_law_m", "_law_place"] (defScope s_law_parted_right) := ⟨rfl, rfl, rfl, by decide +kernel, rfl, by decide +kernel, by decide +kernel⟩
theorem ok_law_parted_right (T : Txt K mg) : FnOk P w K mg base CX0 7 T.d_law_parted_right.f T.d_law_parted_right.fd ["_law_n", "_law_a", "_law_c", "_law_m", "_law_place"] (spM K C 5 m_law_parted_right) :=
  fn_ok T.d_law_parted_right.F sc_law_parted_right fun cdv A outer s H E hr => ss_cons (sm_par2 (i := 5) (j := 6) rfl sc_law_parted_right.nd (am_cons (em_call (df T.d_law_totals (ok_law_totals T) (hr.mono (by decide))) (am_cons (em_var 0) (am_cons (em_var 1) (am_cons (em_var 2) (am_cons (em_var 3) (am_nil)))))) (am_cons (em_call (df T.d_law_totals (ok_law_totals T) (hr.mono (by decide))) (am_cons (em_var 4) (am_cons (em_var 1) (am_cons (em_var 2) (am_cons (em_var 3) (am_nil)))))) (am_nil))))
    (ss_cons (sm_set (i := 7) sc_law_parted_right.nd (em_call (df T.d_law_totals (ok_law_totals T) (hr.mono (by decide))) (am_cons (em_op om_sub (em_var 0) (em_var 4)) (am_cons (em_var 1) (am_cons (em_op om_add (em_var 2) (em_op om_mul (em_var 1) (em_var 4))) (am_cons (em_var 3) (am_nil)))))))
    (ss_cons (sm_set (i := 8) sc_law_parted_right.nd (em_lst (am_cons (em_op om_add (em_ix (em_var 6) (em_int)) (em_ix (em_var 7) (em_int))) (am_cons (em_op om_add (em_op om_add (em_ix (em_var 6) (em_int)) (em_ix (em_var 7) (em_int))) (em_op om_mul (em_var 4) (em_ix (em_var 7) (em_int)))) (am_cons (em_op om_add (em_ix (em_var 6) (em_int)) (em_ix (em_var 7) (em_int))) (am_nil))))))
    (ss_one (sm_ret (em_cmp (om_eq hr.units) (em_var 5) (em_var 8) (nomark _))))))
theorem sc_law_grown_right : FnScope ["_law_n", "_law_a", "_law_c", "_law_m", "_law_whole", "_law_pairs", "_law_squares", "_law_more", "_law_steep"] ["_law_n", "_law_a", "_law_c", "_law_m"] (defScope s_law_grown_right) := ⟨rfl, rfl, rfl, by decide +kernel, rfl, by decide +kernel, by decide +kernel⟩
theorem ok_law_grown_right (T : Txt K mg) : FnOk P w K mg base CX0 7 T.d_law_grown_right.f T.d_law_grown_right.fd ["_law_n", "_law_a", "_law_c", "_law_m"] (spM K C 4 m_law_grown_right) :=
  fn_ok T.d_law_grown_right.F sc_law_grown_right fun cdv A outer s H E hr => ss_cons (sm_par2 (i := 4) (j := 5) rfl sc_law_grown_right.nd (am_cons (em_call (df T.d_law_totals (ok_law_totals T) (hr.mono (by decide))) (am_cons (em_var 0) (am_cons (em_var 1) (am_cons (em_var 2) (am_cons (em_var 3) (am_nil)))))) (am_cons (em_op om_fdiv (em_op om_mul (em_var 0) (em_op om_sub (em_var 0) (em_int))) (em_int)) (am_nil))))
    (ss_cons (sm_set (i := 6) sc_law_grown_right.nd (em_op om_fdiv (em_op om_mul (em_op om_mul (em_op om_sub (em_var 0) (em_int)) (em_var 0)) (em_op om_sub (em_op om_mul (em_int) (em_var 0)) (em_int))) (em_int)))
    (ss_cons (sm_set (i := 7) sc_law_grown_right.nd (em_call (df T.d_law_totals (ok_law_totals T) (hr.mono (by decide))) (am_cons (em_var 0) (am_cons (em_var 1) (am_cons (em_op om_add (em_var 2) (em_var 3)) (am_cons (em_var 3) (am_nil)))))))
    (ss_cons (sm_if (tm_cmp (om_ne hr.units) (em_var 7) (em_lst (am_cons (em_op om_add (em_ix (em_var 4) (em_int)) (em_var 0)) (am_cons (em_op om_add (em_ix (em_var 4) (em_int)) (em_var 5)) (am_cons (em_op om_add (em_op om_add (em_ix (em_var 4) (em_int)) (em_op om_mul (em_int) (em_ix (em_var 4) (em_int)))) (em_var 0)) (am_nil))))) (nomark _))
    (ss_one (sm_ret (em_bl)))
    (ss_nil))
    (ss_cons (sm_set (i := 8) sc_law_grown_right.nd (em_call (df T.d_law_totals (ok_law_totals T) (hr.mono (by decide))) (am_cons (em_var 0) (am_cons (em_op om_add (em_var 1) (em_var 3)) (am_cons (em_var 2) (am_cons (em_var 3) (am_nil)))))))
    (ss_one (sm_ret (em_cmp (om_eq hr.units) (em_var 8) (em_lst (am_cons (em_op om_add (em_ix (em_var 4) (em_int)) (em_var 5)) (am_cons (em_op om_add (em_ix (em_var 4) (em_int)) (em_var 6)) (am_cons (em_op om_add (em_op om_add (em_ix (em_var 4) (em_int)) (em_op om_mul (em_int) (em_ix (em_var 4) (em_int)))) (em_var 6)) (am_nil))))) (nomark _))))))))
theorem sc_law : FnScope ["_law_script", "_law_at", "_law_bowl_here", "_law_turn", "_law_n", "_law_a", "_law_c", "_law_m", "_law_place"] ["_law_script"] (defScope s_law) := ⟨rfl, rfl, rfl, by decide +kernel, rfl, by decide +kernel, by decide +kernel⟩
theorem ok_law (T : Txt K mg) : FnOk P w K mg base CX0 8 T.d_law.f T.d_law.fd ["_law_script"] (spM K C 1 m_law) :=
  fn_ok T.d_law.F sc_law fun cdv A outer s H E hr => ss_cons (sm_for PassesOwn.never rfl (im_range1 (am_cons (em_callB (cm_max rfl) (am_cons (em_int) (am_cons (em_callB (cm_min rfl) (am_cons (em_int) (am_cons (em_callB cm_len (am_cons (em_var 0) (am_nil)) T.z_len bt_len) (am_nil))) T.z_min bt_min) (am_nil))) T.z_max bt_max) (am_nil)) T.z_range) (gm_name (i := 1) sc_law.nd)
    (ss_cons (sm_set (i := 2) sc_law.nd (em_call (df T.d_law_bowl (ok_law_bowl T) (hr.mono (by decide))) (am_cons (em_var 0) (am_cons (em_var 1) (am_nil)))))
    (ss_one (sm_for PassesOwn.never rfl (im_range1 (am_cons (em_int) (am_nil)) T.z_range) (gm_name (i := 3) sc_law.nd)
    (ss_cons (sm_asg (em_call (df T.d_law_wide_line (ok_law_wide_line T) (hr.mono (by decide))) (am_cons (em_var 2) (am_nil))) (gm_tup rfl (gs_cons (gm_name (i := 4) sc_law.nd) (gs_cons (gm_name (i := 5) sc_law.nd) (gs_cons (gm_name (i := 6) sc_law.nd) (gs_cons (gm_name (i := 7) sc_law.nd) (gs_nil)))))))
    (ss_cons (sm_if (tm_cmp (om_ne hr.units) (em_call (df T.d_line_sum (ok_line_sum T) (hr.mono (by decide))) (am_cons (em_var 4) (am_cons (em_var 5) (am_cons (em_var 6) (am_cons (em_var 7) (am_nil)))))) (em_call (df T.d_law_area (ok_law_area T) (hr.mono (by decide))) (am_cons (em_var 4) (am_cons (em_var 5) (am_cons (em_var 6) (am_cons (em_var 7) (am_nil)))))) (nomark _))
    (ss_one (sm_ret (em_bl)))
    (ss_nil))
    (ss_cons (sm_set (i := 8) sc_law.nd (em_call (df T.d_law_one_of (ok_law_one_of T) (hr.mono (by decide))) (am_cons (em_var 2) (am_cons (em_lst (am_cons (em_int) (am_cons (em_var 4) (am_cons (em_op om_fdiv (em_var 4) (em_int)) (am_cons (em_call (df T.d_law_sip (ok_law_sip T) (hr.mono (by decide))) (am_cons (em_var 2) (am_cons (em_op om_add (em_var 4) (em_int)) (am_nil)))) (am_nil)))))) (am_nil)))))
    (ss_cons (sm_if ((tw_or (tm_not (tm_val (em_call (df T.d_law_parted_right (ok_law_parted_right T) (hr.mono (by decide))) (am_cons (em_var 4) (am_cons (em_var 5) (am_cons (em_var 6) (am_cons (em_var 7) (am_cons (em_var 8) (am_nil))))))))) (tw_or1 (tm_not (tm_val (em_call (df T.d_law_grown_right (ok_law_grown_right T) (hr.mono (by decide))) (am_cons (em_var 4) (am_cons (em_var 5) (am_cons (em_var 6) (am_cons (em_var 7) (am_nil)))))))))).t)
    (ss_one (sm_ret (em_bl)))
    (ss_nil))
    (ss_one (sm_if (tm_cmp (om_ne hr.units) (em_call (df T.d_line_sum (ok_line_sum T) (hr.mono (by decide))) (am_cons (em_var 4) (am_cons (em_op om_sub (em_int) (em_var 5)) (am_cons (em_op om_add (em_var 6) (em_op om_mul (em_var 5) (em_op om_sub (em_var 4) (em_int)))) (am_cons (em_var 7) (am_nil)))))) (em_call (df T.d_line_sum (ok_line_sum T) (hr.mono (by decide))) (am_cons (em_var 4) (am_cons (em_var 5) (am_cons (em_var 6) (am_cons (em_var 7) (am_nil)))))) (nomark _))
    (ss_one (sm_ret (em_bl)))
    (ss_nil)))))))))))
    (ss_one (sm_ret (em_bl)))
end
theorem fin_mk {w : World} {K : PySem.W.Frag} {mg : Str → Option Value} {fa : Addr} (T : Txt K mg) (hfa : mg "law" = some (.ref fa)) :
    ∃ fd : FuncData, (∀ (s : Shared) (u : Value), BindsTo s fd ⟨[u], []⟩ [("_law_script", u)]) ∧ ∀ base : Heap, K.In base → base.Ns mainGlobals mg → ∃ C, FnOk PySem.Challenge.pw_toothchain_k41_whole_lines_put_together w K mg base CX0 8 fa fd ["_law_script"] (spM K C 1 m_law) := by
  have e := hfa.symm.trans T.d_law.mg
  cases e
  exact ⟨T.d_law.fd, fun s u => .of_eq (T.d_law.b0 [u] rfl), fun base _ _ => ⟨fun _ => 0, ok_law T⟩⟩
end Law
set_option Elab.async false
set_option linter.all false
set_option maxRecDepth 100000
set_option maxHeartbeats 4000000
/-! MLine: what the mirrors of the lines' module give. -/
namespace Law
open PySem L2 Zm Sm
variable {S : Sto} {Q : T → Sto → Prop}
def InR (n : Int) : Prop := -1000000000000000000000000000000000000000000000000000000000000 < n ∧ n < 1000000000000000000000000000000000000000000000000000000000000
theorem gv_any {n : Int} : Gv (m_is_any_integer [.int n] S) Q = Q (.bl true) S := by
  unfold m_is_any_integer
  simp only [↓k_var0, ↓k_varS, ↓k_c, ↓k_op, ↓k_op1, ↓k_op2, ↓k_un, ↓k_un1, ↓k_tOf, ↓k_b, ↓k_not, ↓k_not1, ↓k_and, ↓k_and1, ↓k_or, ↓k_or1, ↓k_eand, ↓k_eand1, ↓k_eor, ↓k_eor1, ↓k_enot, ↓k_enot1, ↓k_eif, ↓k_eif1, ↓k_chn, ↓k_chn1, ↓k_chn2, ↓k_chn3, ↓k_nil, ↓k_cons, ↓k_cons1, ↓k_cons2, ↓k_tup, ↓k_lst, ↓k_cel, ↓k_tup1, ↓k_lst1, ↓k_cel1, ↓k_call, ↓k_call1, ↓k_skip, ↓k_bk, ↓k_ct, ↓k_no, ↓k_seq, ↓k_seq1, ↓k_seq2, ↓k_seq3, ↓k_seq4, ↓k_ex, ↓k_ex1, ↓k_ret, ↓k_ret1, ↓k_if, ↓k_if1, ↓k_as, ↓k_as1, ↓k_nx, ↓k_st0, ↓k_stS, ↓k_set, ↓k_set1, ↓k_par2, ↓k_par21, ↓k_par3, ↓k_par31, ↓k_nm, ↓k_gsnil, ↓k_gscons, ↓k_gscons1, ↓k_gix, ↓k_gix1, ↓k_gix2, ↓k_gix3, ↓k_for, ↓k_for1, ↓k_isq, ↓k_isqT, ↓k_isqL, ↓k_isqS, ↓k_r1, ↓k_r11, ↓k_r21, ↓k_app, ↓k_ar0, ↓k_ar1, ↓k_gT1, ↓k_gL1, ↓k_ar2, ↓k_gT2, ↓k_gL2, ↓k_ar3, ↓k_gT3, ↓k_gL3, ↓k_ar4, ↓k_gT4, ↓k_gL4, ↓k_ar5, ↓k_gT5, ↓k_gL5, ↓k_ar6, ↓k_gT6, ↓k_gL6, ↓k_ar7, ↓k_gT7, ↓k_gL7, ↓k_add, ↓k_sub, ↓k_mul, ↓k_fdiv, ↓k_mod, ↓k_pow, ↓k_neg, ↓k_lt, ↓k_le, ↓k_gt, ↓k_ge, ↓k_eq, ↓k_ne, ↓k_eqs, ↓k_nes, ↓k_abs, ↓k_int, ↓k_intb, ↓k_boolb, ↓k_max, ↓k_min, ↓k_isi, ↓k_lenS, ↓k_lenL, ↓k_lenT, ↓k_is, ↓k_isn, ↓k_revL, ↓k_ixL, ↓k_ixT, ↓k_ixS, ↓k_at0, ↓k_at1, ↓k_at2, ↓k_at3, ↓k_en0, ↓k_enN, ↓k_enC, ↓k_fnM, ↓k_fnK, lb_0, lb_1, lb_2, lb_3, lb_4, lb_5, lb_6, lb_7, lb_8, lb_9, lb_10, lb_11, lb_12, Gv_ret, Gv_some, Gv_none, Gv_fail, ite_F, kitII, kitIB, kitBI, kitBB, FinK_rt, Fin_nx, frz_int, frz_bl, frz_non, frz_str, frz_tup, frz_lst, frzs_nil, frzs_cons, Option.map_some, Option.bind_some, Fin_rt, noH, noHs, set_app, true_and, and_true, false_and, and_false, not_true_eq_false, not_false_eq_true, Option.some.injEq, exists_eq_left, exists_eq_left', take_all, take_set, ↓reduceIte, Bool.not_true, Bool.not_false, Bool.false_eq_true, if_true, if_false, Bool.and_true, Bool.true_and, Bool.and_false, Bool.false_and, decide_eq_true_eq, Bool.not_eq_true', decide_eq_false_iff_not]
theorem gv_isint {n : Int} (h : InR n) : Gv (m_is_integer [.int n] S) Q = Q (.bl true) S := by
  unfold m_is_integer
  simp only [↓k_var0, ↓k_varS, ↓k_c, ↓k_op, ↓k_op1, ↓k_op2, ↓k_un, ↓k_un1, ↓k_tOf, ↓k_b, ↓k_not, ↓k_not1, ↓k_and, ↓k_and1, ↓k_or, ↓k_or1, ↓k_eand, ↓k_eand1, ↓k_eor, ↓k_eor1, ↓k_enot, ↓k_enot1, ↓k_eif, ↓k_eif1, ↓k_chn, ↓k_chn1, ↓k_chn2, ↓k_chn3, ↓k_nil, ↓k_cons, ↓k_cons1, ↓k_cons2, ↓k_tup, ↓k_lst, ↓k_cel, ↓k_tup1, ↓k_lst1, ↓k_cel1, ↓k_call, ↓k_call1, ↓k_skip, ↓k_bk, ↓k_ct, ↓k_no, ↓k_seq, ↓k_seq1, ↓k_seq2, ↓k_seq3, ↓k_seq4, ↓k_ex, ↓k_ex1, ↓k_ret, ↓k_ret1, ↓k_if, ↓k_if1, ↓k_as, ↓k_as1, ↓k_nx, ↓k_st0, ↓k_stS, ↓k_set, ↓k_set1, ↓k_par2, ↓k_par21, ↓k_par3, ↓k_par31, ↓k_nm, ↓k_gsnil, ↓k_gscons, ↓k_gscons1, ↓k_gix, ↓k_gix1, ↓k_gix2, ↓k_gix3, ↓k_for, ↓k_for1, ↓k_isq, ↓k_isqT, ↓k_isqL, ↓k_isqS, ↓k_r1, ↓k_r11, ↓k_r21, ↓k_app, ↓k_ar0, ↓k_ar1, ↓k_gT1, ↓k_gL1, ↓k_ar2, ↓k_gT2, ↓k_gL2, ↓k_ar3, ↓k_gT3, ↓k_gL3, ↓k_ar4, ↓k_gT4, ↓k_gL4, ↓k_ar5, ↓k_gT5, ↓k_gL5, ↓k_ar6, ↓k_gT6, ↓k_gL6, ↓k_ar7, ↓k_gT7, ↓k_gL7, ↓k_add, ↓k_sub, ↓k_mul, ↓k_fdiv, ↓k_mod, ↓k_pow, ↓k_neg, ↓k_lt, ↓k_le, ↓k_gt, ↓k_ge, ↓k_eq, ↓k_ne, ↓k_eqs, ↓k_nes, ↓k_abs, ↓k_int, ↓k_intb, ↓k_boolb, ↓k_max, ↓k_min, ↓k_isi, ↓k_lenS, ↓k_lenL, ↓k_lenT, ↓k_is, ↓k_isn, ↓k_revL, ↓k_ixL, ↓k_ixT, ↓k_ixS, ↓k_at0, ↓k_at1, ↓k_at2, ↓k_at3, ↓k_en0, ↓k_enN, ↓k_enC, ↓k_fnM, ↓k_fnK, lb_0, lb_1, lb_2, lb_3, lb_4, lb_5, lb_6, lb_7, lb_8, lb_9, lb_10, lb_11, lb_12, Gv_ret, Gv_some, Gv_none, Gv_fail, ite_F, kitII, kitIB, kitBI, kitBB, FinK_rt, Fin_nx, frz_int, frz_bl, frz_non, frz_str, frz_tup, frz_lst, frzs_nil, frzs_cons, Option.map_some, Option.bind_some, Fin_rt, noH, noHs, set_app, true_and, and_true, false_and, and_false, not_true_eq_false, not_false_eq_true, Option.some.injEq, exists_eq_left, exists_eq_left', take_all, take_set, ↓reduceIte, Bool.not_true, Bool.not_false, Bool.false_eq_true, if_true, if_false, Bool.and_true, Bool.true_and, Bool.and_false, Bool.false_and, decide_eq_true_eq, Bool.not_eq_true', decide_eq_false_iff_not, gv_any, decide_eq_true h.1, decide_eq_true h.2]
theorem gv_reqint {n : Int} (h : InR n) : Gv (m_require_integer [.int n] S) Q = Q .non S := by
  unfold m_require_integer
  simp only [↓k_var0, ↓k_varS, ↓k_c, ↓k_op, ↓k_op1, ↓k_op2, ↓k_un, ↓k_un1, ↓k_tOf, ↓k_b, ↓k_not, ↓k_not1, ↓k_and, ↓k_and1, ↓k_or, ↓k_or1, ↓k_eand, ↓k_eand1, ↓k_eor, ↓k_eor1, ↓k_enot, ↓k_enot1, ↓k_eif, ↓k_eif1, ↓k_chn, ↓k_chn1, ↓k_chn2, ↓k_chn3, ↓k_nil, ↓k_cons, ↓k_cons1, ↓k_cons2, ↓k_tup, ↓k_lst, ↓k_cel, ↓k_tup1, ↓k_lst1, ↓k_cel1, ↓k_call, ↓k_call1, ↓k_skip, ↓k_bk, ↓k_ct, ↓k_no, ↓k_seq, ↓k_seq1, ↓k_seq2, ↓k_seq3, ↓k_seq4, ↓k_ex, ↓k_ex1, ↓k_ret, ↓k_ret1, ↓k_if, ↓k_if1, ↓k_as, ↓k_as1, ↓k_nx, ↓k_st0, ↓k_stS, ↓k_set, ↓k_set1, ↓k_par2, ↓k_par21, ↓k_par3, ↓k_par31, ↓k_nm, ↓k_gsnil, ↓k_gscons, ↓k_gscons1, ↓k_gix, ↓k_gix1, ↓k_gix2, ↓k_gix3, ↓k_for, ↓k_for1, ↓k_isq, ↓k_isqT, ↓k_isqL, ↓k_isqS, ↓k_r1, ↓k_r11, ↓k_r21, ↓k_app, ↓k_ar0, ↓k_ar1, ↓k_gT1, ↓k_gL1, ↓k_ar2, ↓k_gT2, ↓k_gL2, ↓k_ar3, ↓k_gT3, ↓k_gL3, ↓k_ar4, ↓k_gT4, ↓k_gL4, ↓k_ar5, ↓k_gT5, ↓k_gL5, ↓k_ar6, ↓k_gT6, ↓k_gL6, ↓k_ar7, ↓k_gT7, ↓k_gL7, ↓k_add, ↓k_sub, ↓k_mul, ↓k_fdiv, ↓k_mod, ↓k_pow, ↓k_neg, ↓k_lt, ↓k_le, ↓k_gt, ↓k_ge, ↓k_eq, ↓k_ne, ↓k_eqs, ↓k_nes, ↓k_abs, ↓k_int, ↓k_intb, ↓k_boolb, ↓k_max, ↓k_min, ↓k_isi, ↓k_lenS, ↓k_lenL, ↓k_lenT, ↓k_is, ↓k_isn, ↓k_revL, ↓k_ixL, ↓k_ixT, ↓k_ixS, ↓k_at0, ↓k_at1, ↓k_at2, ↓k_at3, ↓k_en0, ↓k_enN, ↓k_enC, ↓k_fnM, ↓k_fnK, lb_0, lb_1, lb_2, lb_3, lb_4, lb_5, lb_6, lb_7, lb_8, lb_9, lb_10, lb_11, lb_12, Gv_ret, Gv_some, Gv_none, Gv_fail, ite_F, kitII, kitIB, kitBI, kitBB, FinK_rt, Fin_nx, frz_int, frz_bl, frz_non, frz_str, frz_tup, frz_lst, frzs_nil, frzs_cons, Option.map_some, Option.bind_some, Fin_rt, noH, noHs, set_app, true_and, and_true, false_and, and_false, not_true_eq_false, not_false_eq_true, Option.some.injEq, exists_eq_left, exists_eq_left', take_all, take_set, ↓reduceIte, Bool.not_true, Bool.not_false, Bool.false_eq_true, if_true, if_false, Bool.and_true, Bool.true_and, Bool.and_false, Bool.false_and, decide_eq_true_eq, Bool.not_eq_true', decide_eq_false_iff_not, gv_isint h]
theorem gv_reqpos {n : Int} (h : InR n) (h1 : 1 ≤ n) : Gv (m_require_positive [.int n] S) Q = Q .non S := by
  unfold m_require_positive
  simp only [↓k_var0, ↓k_varS, ↓k_c, ↓k_op, ↓k_op1, ↓k_op2, ↓k_un, ↓k_un1, ↓k_tOf, ↓k_b, ↓k_not, ↓k_not1, ↓k_and, ↓k_and1, ↓k_or, ↓k_or1, ↓k_eand, ↓k_eand1, ↓k_eor, ↓k_eor1, ↓k_enot, ↓k_enot1, ↓k_eif, ↓k_eif1, ↓k_chn, ↓k_chn1, ↓k_chn2, ↓k_chn3, ↓k_nil, ↓k_cons, ↓k_cons1, ↓k_cons2, ↓k_tup, ↓k_lst, ↓k_cel, ↓k_tup1, ↓k_lst1, ↓k_cel1, ↓k_call, ↓k_call1, ↓k_skip, ↓k_bk, ↓k_ct, ↓k_no, ↓k_seq, ↓k_seq1, ↓k_seq2, ↓k_seq3, ↓k_seq4, ↓k_ex, ↓k_ex1, ↓k_ret, ↓k_ret1, ↓k_if, ↓k_if1, ↓k_as, ↓k_as1, ↓k_nx, ↓k_st0, ↓k_stS, ↓k_set, ↓k_set1, ↓k_par2, ↓k_par21, ↓k_par3, ↓k_par31, ↓k_nm, ↓k_gsnil, ↓k_gscons, ↓k_gscons1, ↓k_gix, ↓k_gix1, ↓k_gix2, ↓k_gix3, ↓k_for, ↓k_for1, ↓k_isq, ↓k_isqT, ↓k_isqL, ↓k_isqS, ↓k_r1, ↓k_r11, ↓k_r21, ↓k_app, ↓k_ar0, ↓k_ar1, ↓k_gT1, ↓k_gL1, ↓k_ar2, ↓k_gT2, ↓k_gL2, ↓k_ar3, ↓k_gT3, ↓k_gL3, ↓k_ar4, ↓k_gT4, ↓k_gL4, ↓k_ar5, ↓k_gT5, ↓k_gL5, ↓k_ar6, ↓k_gT6, ↓k_gL6, ↓k_ar7, ↓k_gT7, ↓k_gL7, ↓k_add, ↓k_sub, ↓k_mul, ↓k_fdiv, ↓k_mod, ↓k_pow, ↓k_neg, ↓k_lt, ↓k_le, ↓k_gt, ↓k_ge, ↓k_eq, ↓k_ne, ↓k_eqs, ↓k_nes, ↓k_abs, ↓k_int, ↓k_intb, ↓k_boolb, ↓k_max, ↓k_min, ↓k_isi, ↓k_lenS, ↓k_lenL, ↓k_lenT, ↓k_is, ↓k_isn, ↓k_revL, ↓k_ixL, ↓k_ixT, ↓k_ixS, ↓k_at0, ↓k_at1, ↓k_at2, ↓k_at3, ↓k_en0, ↓k_enN, ↓k_enC, ↓k_fnM, ↓k_fnK, lb_0, lb_1, lb_2, lb_3, lb_4, lb_5, lb_6, lb_7, lb_8, lb_9, lb_10, lb_11, lb_12, Gv_ret, Gv_some, Gv_none, Gv_fail, ite_F, kitII, kitIB, kitBI, kitBB, FinK_rt, Fin_nx, frz_int, frz_bl, frz_non, frz_str, frz_tup, frz_lst, frzs_nil, frzs_cons, Option.map_some, Option.bind_some, Fin_rt, noH, noHs, set_app, true_and, and_true, false_and, and_false, not_true_eq_false, not_false_eq_true, Option.some.injEq, exists_eq_left, exists_eq_left', take_all, take_set, ↓reduceIte, Bool.not_true, Bool.not_false, Bool.false_eq_true, if_true, if_false, Bool.and_true, Bool.true_and, Bool.and_false, Bool.false_and, decide_eq_true_eq, Bool.not_eq_true', decide_eq_false_iff_not, gv_isint h, decide_eq_false (show ¬ n < 1 by omega)]
theorem gv_reqline {n a c m : Int} (hn : InR n) (h0 : 0 ≤ n) (ha : InR a) (hc : InR c) (hm : InR m) (h1 : 1 ≤ m) : Gv (m_require_line [.int n, .int a, .int c, .int m] S) Q = Q .non S := by
  unfold m_require_line
  simp only [↓k_var0, ↓k_varS, ↓k_c, ↓k_op, ↓k_op1, ↓k_op2, ↓k_un, ↓k_un1, ↓k_tOf, ↓k_b, ↓k_not, ↓k_not1, ↓k_and, ↓k_and1, ↓k_or, ↓k_or1, ↓k_eand, ↓k_eand1, ↓k_eor, ↓k_eor1, ↓k_enot, ↓k_enot1, ↓k_eif, ↓k_eif1, ↓k_chn, ↓k_chn1, ↓k_chn2, ↓k_chn3, ↓k_nil, ↓k_cons, ↓k_cons1, ↓k_cons2, ↓k_tup, ↓k_lst, ↓k_cel, ↓k_tup1, ↓k_lst1, ↓k_cel1, ↓k_call, ↓k_call1, ↓k_skip, ↓k_bk, ↓k_ct, ↓k_no, ↓k_seq, ↓k_seq1, ↓k_seq2, ↓k_seq3, ↓k_seq4, ↓k_ex, ↓k_ex1, ↓k_ret, ↓k_ret1, ↓k_if, ↓k_if1, ↓k_as, ↓k_as1, ↓k_nx, ↓k_st0, ↓k_stS, ↓k_set, ↓k_set1, ↓k_par2, ↓k_par21, ↓k_par3, ↓k_par31, ↓k_nm, ↓k_gsnil, ↓k_gscons, ↓k_gscons1, ↓k_gix, ↓k_gix1, ↓k_gix2, ↓k_gix3, ↓k_for, ↓k_for1, ↓k_isq, ↓k_isqT, ↓k_isqL, ↓k_isqS, ↓k_r1, ↓k_r11, ↓k_r21, ↓k_app, ↓k_ar0, ↓k_ar1, ↓k_gT1, ↓k_gL1, ↓k_ar2, ↓k_gT2, ↓k_gL2, ↓k_ar3, ↓k_gT3, ↓k_gL3, ↓k_ar4, ↓k_gT4, ↓k_gL4, ↓k_ar5, ↓k_gT5, ↓k_gL5, ↓k_ar6, ↓k_gT6, ↓k_gL6, ↓k_ar7, ↓k_gT7, ↓k_gL7, ↓k_add, ↓k_sub, ↓k_mul, ↓k_fdiv, ↓k_mod, ↓k_pow, ↓k_neg, ↓k_lt, ↓k_le, ↓k_gt, ↓k_ge, ↓k_eq, ↓k_ne, ↓k_eqs, ↓k_nes, ↓k_abs, ↓k_int, ↓k_intb, ↓k_boolb, ↓k_max, ↓k_min, ↓k_isi, ↓k_lenS, ↓k_lenL, ↓k_lenT, ↓k_is, ↓k_isn, ↓k_revL, ↓k_ixL, ↓k_ixT, ↓k_ixS, ↓k_at0, ↓k_at1, ↓k_at2, ↓k_at3, ↓k_en0, ↓k_enN, ↓k_enC, ↓k_fnM, ↓k_fnK, lb_0, lb_1, lb_2, lb_3, lb_4, lb_5, lb_6, lb_7, lb_8, lb_9, lb_10, lb_11, lb_12, Gv_ret, Gv_some, Gv_none, Gv_fail, ite_F, kitII, kitIB, kitBI, kitBB, FinK_rt, Fin_nx, frz_int, frz_bl, frz_non, frz_str, frz_tup, frz_lst, frzs_nil, frzs_cons, Option.map_some, Option.bind_some, Fin_rt, noH, noHs, set_app, true_and, and_true, false_and, and_false, not_true_eq_false, not_false_eq_true, Option.some.injEq, exists_eq_left, exists_eq_left', take_all, take_set, ↓reduceIte, Bool.not_true, Bool.not_false, Bool.false_eq_true, if_true, if_false, Bool.and_true, Bool.true_and, Bool.and_false, Bool.false_and, decide_eq_true_eq, Bool.not_eq_true', decide_eq_false_iff_not, gv_isint hn, gv_reqint ha, gv_reqint hc, gv_reqpos hm h1, decide_eq_false (show ¬ n < 0 by omega)]
theorem d2 : divOk 2 = true := by decide
theorem d6 : divOk 6 = true := by decide
theorem m2 {x : Int} : mulOk 2 x = true := mul_okL (by decide)
theorem gv_first {n : Int} (h : Bd 200 n) : Gv (m_first_sum [.int n] S) Q = Q (.int (n * (n - 1) / 2)) S := by
  unfold m_first_sum
  simp only [↓k_var0, ↓k_varS, ↓k_c, ↓k_op, ↓k_op1, ↓k_op2, ↓k_un, ↓k_un1, ↓k_tOf, ↓k_b, ↓k_not, ↓k_not1, ↓k_and, ↓k_and1, ↓k_or, ↓k_or1, ↓k_eand, ↓k_eand1, ↓k_eor, ↓k_eor1, ↓k_enot, ↓k_enot1, ↓k_eif, ↓k_eif1, ↓k_chn, ↓k_chn1, ↓k_chn2, ↓k_chn3, ↓k_nil, ↓k_cons, ↓k_cons1, ↓k_cons2, ↓k_tup, ↓k_lst, ↓k_cel, ↓k_tup1, ↓k_lst1, ↓k_cel1, ↓k_call, ↓k_call1, ↓k_skip, ↓k_bk, ↓k_ct, ↓k_no, ↓k_seq, ↓k_seq1, ↓k_seq2, ↓k_seq3, ↓k_seq4, ↓k_ex, ↓k_ex1, ↓k_ret, ↓k_ret1, ↓k_if, ↓k_if1, ↓k_as, ↓k_as1, ↓k_nx, ↓k_st0, ↓k_stS, ↓k_set, ↓k_set1, ↓k_par2, ↓k_par21, ↓k_par3, ↓k_par31, ↓k_nm, ↓k_gsnil, ↓k_gscons, ↓k_gscons1, ↓k_gix, ↓k_gix1, ↓k_gix2, ↓k_gix3, ↓k_for, ↓k_for1, ↓k_isq, ↓k_isqT, ↓k_isqL, ↓k_isqS, ↓k_r1, ↓k_r11, ↓k_r21, ↓k_app, ↓k_ar0, ↓k_ar1, ↓k_gT1, ↓k_gL1, ↓k_ar2, ↓k_gT2, ↓k_gL2, ↓k_ar3, ↓k_gT3, ↓k_gL3, ↓k_ar4, ↓k_gT4, ↓k_gL4, ↓k_ar5, ↓k_gT5, ↓k_gL5, ↓k_ar6, ↓k_gT6, ↓k_gL6, ↓k_ar7, ↓k_gT7, ↓k_gL7, ↓k_add, ↓k_sub, ↓k_mul, ↓k_fdiv, ↓k_mod, ↓k_pow, ↓k_neg, ↓k_lt, ↓k_le, ↓k_gt, ↓k_ge, ↓k_eq, ↓k_ne, ↓k_eqs, ↓k_nes, ↓k_abs, ↓k_int, ↓k_intb, ↓k_boolb, ↓k_max, ↓k_min, ↓k_isi, ↓k_lenS, ↓k_lenL, ↓k_lenT, ↓k_is, ↓k_isn, ↓k_revL, ↓k_ixL, ↓k_ixT, ↓k_ixS, ↓k_at0, ↓k_at1, ↓k_at2, ↓k_at3, ↓k_en0, ↓k_enN, ↓k_enC, ↓k_fnM, ↓k_fnK, lb_0, lb_1, lb_2, lb_3, lb_4, lb_5, lb_6, lb_7, lb_8, lb_9, lb_10, lb_11, lb_12, Gv_ret, Gv_some, Gv_none, Gv_fail, ite_F, kitII, kitIB, kitBI, kitBB, FinK_rt, Fin_nx, frz_int, frz_bl, frz_non, frz_str, frz_tup, frz_lst, frzs_nil, frzs_cons, Option.map_some, Option.bind_some, Fin_rt, noH, noHs, set_app, true_and, and_true, false_and, and_false, not_true_eq_false, not_false_eq_true, Option.some.injEq, exists_eq_left, exists_eq_left', take_all, take_set, ↓reduceIte, Bool.not_true, Bool.not_false, Bool.false_eq_true, if_true, if_false, Bool.and_true, Bool.true_and, Bool.and_false, Bool.false_and, decide_eq_true_eq, Bool.not_eq_true', decide_eq_false_iff_not]
  refine propext ⟨fun h => ?_, fun h => ?_⟩; (· (repeat (replace h := And.right h)); with_reducible exact h); (· repeat' (first | with_reducible exact h | with_reducible refine And.intro ?_ ?_ | with_reducible assumption | (first | exact mul_okL (by decide) | exact mul_okR (by decide) | (with_reducible apply mul_ok; (case h => (repeat' (first | assumption | with_reducible apply Bd.mul | with_reducible apply Bd.add | with_reducible apply Bd.sub | with_reducible apply Bd.neg | with_reducible apply Bd.div | with_reducible exact Bd.num))); (case q => (repeat' (first | assumption | with_reducible apply Bd.mul | with_reducible apply Bd.add | with_reducible apply Bd.sub | with_reducible apply Bd.neg | with_reducible apply Bd.div | with_reducible exact Bd.num))); (case l => decide))) | exact Nat.le_of_ble_eq_true rfl | decide))
theorem gv_second {n : Int} (h : Bd 200 n) : Gv (m_second_sum [.int n] S) Q = Q (.int (n * (n - 1) * (2 * n - 1) / 6)) S := by
  unfold m_second_sum
  simp only [↓k_var0, ↓k_varS, ↓k_c, ↓k_op, ↓k_op1, ↓k_op2, ↓k_un, ↓k_un1, ↓k_tOf, ↓k_b, ↓k_not, ↓k_not1, ↓k_and, ↓k_and1, ↓k_or, ↓k_or1, ↓k_eand, ↓k_eand1, ↓k_eor, ↓k_eor1, ↓k_enot, ↓k_enot1, ↓k_eif, ↓k_eif1, ↓k_chn, ↓k_chn1, ↓k_chn2, ↓k_chn3, ↓k_nil, ↓k_cons, ↓k_cons1, ↓k_cons2, ↓k_tup, ↓k_lst, ↓k_cel, ↓k_tup1, ↓k_lst1, ↓k_cel1, ↓k_call, ↓k_call1, ↓k_skip, ↓k_bk, ↓k_ct, ↓k_no, ↓k_seq, ↓k_seq1, ↓k_seq2, ↓k_seq3, ↓k_seq4, ↓k_ex, ↓k_ex1, ↓k_ret, ↓k_ret1, ↓k_if, ↓k_if1, ↓k_as, ↓k_as1, ↓k_nx, ↓k_st0, ↓k_stS, ↓k_set, ↓k_set1, ↓k_par2, ↓k_par21, ↓k_par3, ↓k_par31, ↓k_nm, ↓k_gsnil, ↓k_gscons, ↓k_gscons1, ↓k_gix, ↓k_gix1, ↓k_gix2, ↓k_gix3, ↓k_for, ↓k_for1, ↓k_isq, ↓k_isqT, ↓k_isqL, ↓k_isqS, ↓k_r1, ↓k_r11, ↓k_r21, ↓k_app, ↓k_ar0, ↓k_ar1, ↓k_gT1, ↓k_gL1, ↓k_ar2, ↓k_gT2, ↓k_gL2, ↓k_ar3, ↓k_gT3, ↓k_gL3, ↓k_ar4, ↓k_gT4, ↓k_gL4, ↓k_ar5, ↓k_gT5, ↓k_gL5, ↓k_ar6, ↓k_gT6, ↓k_gL6, ↓k_ar7, ↓k_gT7, ↓k_gL7, ↓k_add, ↓k_sub, ↓k_mul, ↓k_fdiv, ↓k_mod, ↓k_pow, ↓k_neg, ↓k_lt, ↓k_le, ↓k_gt, ↓k_ge, ↓k_eq, ↓k_ne, ↓k_eqs, ↓k_nes, ↓k_abs, ↓k_int, ↓k_intb, ↓k_boolb, ↓k_max, ↓k_min, ↓k_isi, ↓k_lenS, ↓k_lenL, ↓k_lenT, ↓k_is, ↓k_isn, ↓k_revL, ↓k_ixL, ↓k_ixT, ↓k_ixS, ↓k_at0, ↓k_at1, ↓k_at2, ↓k_at3, ↓k_en0, ↓k_enN, ↓k_enC, ↓k_fnM, ↓k_fnK, lb_0, lb_1, lb_2, lb_3, lb_4, lb_5, lb_6, lb_7, lb_8, lb_9, lb_10, lb_11, lb_12, Gv_ret, Gv_some, Gv_none, Gv_fail, ite_F, kitII, kitIB, kitBI, kitBB, FinK_rt, Fin_nx, frz_int, frz_bl, frz_non, frz_str, frz_tup, frz_lst, frzs_nil, frzs_cons, Option.map_some, Option.bind_some, Fin_rt, noH, noHs, set_app, true_and, and_true, false_and, and_false, not_true_eq_false, not_false_eq_true, Option.some.injEq, exists_eq_left, exists_eq_left', take_all, take_set, ↓reduceIte, Bool.not_true, Bool.not_false, Bool.false_eq_true, if_true, if_false, Bool.and_true, Bool.true_and, Bool.and_false, Bool.false_and, decide_eq_true_eq, Bool.not_eq_true', decide_eq_false_iff_not]
  refine propext ⟨fun h => ?_, fun h => ?_⟩; (· (repeat (replace h := And.right h)); with_reducible exact h); (· repeat' (first | with_reducible exact h | with_reducible refine And.intro ?_ ?_ | with_reducible assumption | (first | exact mul_okL (by decide) | exact mul_okR (by decide) | (with_reducible apply mul_ok; (case h => (repeat' (first | assumption | with_reducible apply Bd.mul | with_reducible apply Bd.add | with_reducible apply Bd.sub | with_reducible apply Bd.neg | with_reducible apply Bd.div | with_reducible exact Bd.num))); (case q => (repeat' (first | assumption | with_reducible apply Bd.mul | with_reducible apply Bd.add | with_reducible apply Bd.sub | with_reducible apply Bd.neg | with_reducible apply Bd.div | with_reducible exact Bd.num))); (case l => decide))) | exact Nat.le_of_ble_eq_true rfl | decide))
def tT (p m q : Int) : T := .tup [.int p, .int m, .int q]
theorem half_id (n : Nat) : (n : Int) * (n - 1) / 2 = sm (fun i => (i : Int)) n := by
  rw [← sm_id]; omega
theorem half_sq (n : Nat) : (n : Int) * (n - 1) * (2 * n - 1) / 6 = sm (fun i => (i : Int) * i) n := by
  rw [← sm_sq]; omega
theorem gv_lifted {n s t p m q : Int} (hn : Bd 200 n) (hs : Bd 200 s) (ht : Bd 200 t) (hp : Bd 2000 p) (hm : Bd 2000 m) (hq : Bd 2000 q) :
    Gv (m_lifted [.int n, .int s, .int t, tT p m q] S) Q = Q (tT (p + s * (n * (n - 1) / 2) + t * n) (m + s * (n * (n - 1) * (2 * n - 1) / 6) + t * (n * (n - 1) / 2))
      (q + s * s * (n * (n - 1) * (2 * n - 1) / 6) + t * t * n + 2 * s * t * (n * (n - 1) / 2) + 2 * s * m + 2 * t * p)) S := by
  unfold m_lifted tT
  have h1 : Bd 500 (n * (n - 1) / 2) := by (with_reducible apply Bd.mono; (case h => (repeat' (first | assumption | with_reducible apply Bd.mul | with_reducible apply Bd.add | with_reducible apply Bd.sub | with_reducible apply Bd.neg | with_reducible apply Bd.div | with_reducible exact Bd.num))); (case l => decide))
  have h2 : Bd 900 (n * (n - 1) * (2 * n - 1) / 6) := by (with_reducible apply Bd.mono; (case h => (repeat' (first | assumption | with_reducible apply Bd.mul | with_reducible apply Bd.add | with_reducible apply Bd.sub | with_reducible apply Bd.neg | with_reducible apply Bd.div | with_reducible exact Bd.num))); (case l => decide))
  simp only [↓k_var0, ↓k_varS, ↓k_c, ↓k_op, ↓k_op1, ↓k_op2, ↓k_un, ↓k_un1, ↓k_tOf, ↓k_b, ↓k_not, ↓k_not1, ↓k_and, ↓k_and1, ↓k_or, ↓k_or1, ↓k_eand, ↓k_eand1, ↓k_eor, ↓k_eor1, ↓k_enot, ↓k_enot1, ↓k_eif, ↓k_eif1, ↓k_chn, ↓k_chn1, ↓k_chn2, ↓k_chn3, ↓k_nil, ↓k_cons, ↓k_cons1, ↓k_cons2, ↓k_tup, ↓k_lst, ↓k_cel, ↓k_tup1, ↓k_lst1, ↓k_cel1, ↓k_call, ↓k_call1, ↓k_skip, ↓k_bk, ↓k_ct, ↓k_no, ↓k_seq, ↓k_seq1, ↓k_seq2, ↓k_seq3, ↓k_seq4, ↓k_ex, ↓k_ex1, ↓k_ret, ↓k_ret1, ↓k_if, ↓k_if1, ↓k_as, ↓k_as1, ↓k_nx, ↓k_st0, ↓k_stS, ↓k_set, ↓k_set1, ↓k_par2, ↓k_par21, ↓k_par3, ↓k_par31, ↓k_nm, ↓k_gsnil, ↓k_gscons, ↓k_gscons1, ↓k_gix, ↓k_gix1, ↓k_gix2, ↓k_gix3, ↓k_for, ↓k_for1, ↓k_isq, ↓k_isqT, ↓k_isqL, ↓k_isqS, ↓k_r1, ↓k_r11, ↓k_r21, ↓k_app, ↓k_ar0, ↓k_ar1, ↓k_gT1, ↓k_gL1, ↓k_ar2, ↓k_gT2, ↓k_gL2, ↓k_ar3, ↓k_gT3, ↓k_gL3, ↓k_ar4, ↓k_gT4, ↓k_gL4, ↓k_ar5, ↓k_gT5, ↓k_gL5, ↓k_ar6, ↓k_gT6, ↓k_gL6, ↓k_ar7, ↓k_gT7, ↓k_gL7, ↓k_add, ↓k_sub, ↓k_mul, ↓k_fdiv, ↓k_mod, ↓k_pow, ↓k_neg, ↓k_lt, ↓k_le, ↓k_gt, ↓k_ge, ↓k_eq, ↓k_ne, ↓k_eqs, ↓k_nes, ↓k_abs, ↓k_int, ↓k_intb, ↓k_boolb, ↓k_max, ↓k_min, ↓k_isi, ↓k_lenS, ↓k_lenL, ↓k_lenT, ↓k_is, ↓k_isn, ↓k_revL, ↓k_ixL, ↓k_ixT, ↓k_ixS, ↓k_at0, ↓k_at1, ↓k_at2, ↓k_at3, ↓k_en0, ↓k_enN, ↓k_enC, ↓k_fnM, ↓k_fnK, lb_0, lb_1, lb_2, lb_3, lb_4, lb_5, lb_6, lb_7, lb_8, lb_9, lb_10, lb_11, lb_12, Gv_ret, Gv_some, Gv_none, Gv_fail, ite_F, kitII, kitIB, kitBI, kitBB, FinK_rt, Fin_nx, frz_int, frz_bl, frz_non, frz_str, frz_tup, frz_lst, frzs_nil, frzs_cons, Option.map_some, Option.bind_some, Fin_rt, noH, noHs, set_app, true_and, and_true, false_and, and_false, not_true_eq_false, not_false_eq_true, Option.some.injEq, exists_eq_left, exists_eq_left', take_all, take_set, ↓reduceIte, Bool.not_true, Bool.not_false, Bool.false_eq_true, if_true, if_false, Bool.and_true, Bool.true_and, Bool.and_false, Bool.false_and, decide_eq_true_eq, Bool.not_eq_true', decide_eq_false_iff_not, gv_first hn, gv_second hn]
  refine propext ⟨fun h => ?_, fun h => ?_⟩; (· (repeat (replace h := And.right h)); with_reducible exact h); (· repeat' (first | with_reducible exact h | with_reducible refine And.intro ?_ ?_ | with_reducible assumption | (first | exact mul_okL (by decide) | exact mul_okR (by decide) | (with_reducible apply mul_ok; (case h => (repeat' (first | assumption | with_reducible apply Bd.mul | with_reducible apply Bd.add | with_reducible apply Bd.sub | with_reducible apply Bd.neg | with_reducible apply Bd.div | with_reducible exact Bd.num))); (case q => (repeat' (first | assumption | with_reducible apply Bd.mul | with_reducible apply Bd.add | with_reducible apply Bd.sub | with_reducible apply Bd.neg | with_reducible apply Bd.div | with_reducible exact Bd.num))); (case l => decide))) | exact Nat.le_of_ble_eq_true rfl | decide))
theorem gv_exchanged {l b p m q : Int} (hl : Bd 200 l) (hb : Bd 200 b) (hp : Bd 2000 p) (hm : Bd 2000 m) (hq : Bd 2000 q) :
    Gv (m_exchanged [.int l, .int b, tT p m q] S) Q = Q (tT (l * b - p) ((b * l * (l + 1) - q - p) / 2) (l * b * (b + 1) - 2 * m - 2 * p - (l * b - p))) S := by
  unfold m_exchanged tT
  simp only [↓k_var0, ↓k_varS, ↓k_c, ↓k_op, ↓k_op1, ↓k_op2, ↓k_un, ↓k_un1, ↓k_tOf, ↓k_b, ↓k_not, ↓k_not1, ↓k_and, ↓k_and1, ↓k_or, ↓k_or1, ↓k_eand, ↓k_eand1, ↓k_eor, ↓k_eor1, ↓k_enot, ↓k_enot1, ↓k_eif, ↓k_eif1, ↓k_chn, ↓k_chn1, ↓k_chn2, ↓k_chn3, ↓k_nil, ↓k_cons, ↓k_cons1, ↓k_cons2, ↓k_tup, ↓k_lst, ↓k_cel, ↓k_tup1, ↓k_lst1, ↓k_cel1, ↓k_call, ↓k_call1, ↓k_skip, ↓k_bk, ↓k_ct, ↓k_no, ↓k_seq, ↓k_seq1, ↓k_seq2, ↓k_seq3, ↓k_seq4, ↓k_ex, ↓k_ex1, ↓k_ret, ↓k_ret1, ↓k_if, ↓k_if1, ↓k_as, ↓k_as1, ↓k_nx, ↓k_st0, ↓k_stS, ↓k_set, ↓k_set1, ↓k_par2, ↓k_par21, ↓k_par3, ↓k_par31, ↓k_nm, ↓k_gsnil, ↓k_gscons, ↓k_gscons1, ↓k_gix, ↓k_gix1, ↓k_gix2, ↓k_gix3, ↓k_for, ↓k_for1, ↓k_isq, ↓k_isqT, ↓k_isqL, ↓k_isqS, ↓k_r1, ↓k_r11, ↓k_r21, ↓k_app, ↓k_ar0, ↓k_ar1, ↓k_gT1, ↓k_gL1, ↓k_ar2, ↓k_gT2, ↓k_gL2, ↓k_ar3, ↓k_gT3, ↓k_gL3, ↓k_ar4, ↓k_gT4, ↓k_gL4, ↓k_ar5, ↓k_gT5, ↓k_gL5, ↓k_ar6, ↓k_gT6, ↓k_gL6, ↓k_ar7, ↓k_gT7, ↓k_gL7, ↓k_add, ↓k_sub, ↓k_mul, ↓k_fdiv, ↓k_mod, ↓k_pow, ↓k_neg, ↓k_lt, ↓k_le, ↓k_gt, ↓k_ge, ↓k_eq, ↓k_ne, ↓k_eqs, ↓k_nes, ↓k_abs, ↓k_int, ↓k_intb, ↓k_boolb, ↓k_max, ↓k_min, ↓k_isi, ↓k_lenS, ↓k_lenL, ↓k_lenT, ↓k_is, ↓k_isn, ↓k_revL, ↓k_ixL, ↓k_ixT, ↓k_ixS, ↓k_at0, ↓k_at1, ↓k_at2, ↓k_at3, ↓k_en0, ↓k_enN, ↓k_enC, ↓k_fnM, ↓k_fnK, lb_0, lb_1, lb_2, lb_3, lb_4, lb_5, lb_6, lb_7, lb_8, lb_9, lb_10, lb_11, lb_12, Gv_ret, Gv_some, Gv_none, Gv_fail, ite_F, kitII, kitIB, kitBI, kitBB, FinK_rt, Fin_nx, frz_int, frz_bl, frz_non, frz_str, frz_tup, frz_lst, frzs_nil, frzs_cons, Option.map_some, Option.bind_some, Fin_rt, noH, noHs, set_app, true_and, and_true, false_and, and_false, not_true_eq_false, not_false_eq_true, Option.some.injEq, exists_eq_left, exists_eq_left', take_all, take_set, ↓reduceIte, Bool.not_true, Bool.not_false, Bool.false_eq_true, if_true, if_false, Bool.and_true, Bool.true_and, Bool.and_false, Bool.false_and, decide_eq_true_eq, Bool.not_eq_true', decide_eq_false_iff_not]
  refine propext ⟨fun h => ?_, fun h => ?_⟩; (· (repeat (replace h := And.right h)); with_reducible exact h); (· repeat' (first | with_reducible exact h | with_reducible refine And.intro ?_ ?_ | with_reducible assumption | (first | exact mul_okL (by decide) | exact mul_okR (by decide) | (with_reducible apply mul_ok; (case h => (repeat' (first | assumption | with_reducible apply Bd.mul | with_reducible apply Bd.add | with_reducible apply Bd.sub | with_reducible apply Bd.neg | with_reducible apply Bd.div | with_reducible exact Bd.num))); (case q => (repeat' (first | assumption | with_reducible apply Bd.mul | with_reducible apply Bd.add | with_reducible apply Bd.sub | with_reducible apply Bd.neg | with_reducible apply Bd.div | with_reducible exact Bd.num))); (case l => decide))) | exact Nat.le_of_ble_eq_true rfl | decide))
/-! the totals of a line, as a tree -/
def tt (n : Nat) (a c m : Int) : T := tT (F1 n a c m) (FM n a c m) (F2 n a c m)
structure Ok (n : Nat) (a c m : Int) : Prop where
  bn : Bd 200 (n : Int)
  ba : Bd 200 a
  bc : Bd 200 c
  bm : Bd 200 m
  pm : 0 < m
theorem Bd_sm {f : Nat → Int} {n j k : Nat} (hn : Bd j (n : Int)) (h : ∀ i, i < n → Bd k (f i)) : Bd (j + k) (sm f n) := by
  have h1 : (sm f n).natAbs ≤ n * (2 ^ k - 1) := sm_abs fun i hi => by
    have := h i hi
    unfold Bd at this
    have hk : 0 < 2 ^ k := Nat.pow_pos (by decide)
    omega
  unfold Bd at *
  rw [Int.natAbs_natCast] at hn
  have h2 : n * (2 ^ k - 1) ≤ n * 2 ^ k := Nat.mul_le_mul_left _ (Nat.sub_le _ _)
  have h3 : n * 2 ^ k < 2 ^ j * 2 ^ k := Nat.mul_lt_mul_of_pos_right hn (Nat.pow_pos (by decide))
  rw [Nat.pow_add]
  exact Nat.lt_of_le_of_lt (Nat.le_trans h1 h2) h3
section
variable {n : Nat} {a c m : Int}
theorem Ok.fl (h : Ok n a c m) {i : Nat} (hi : i < n) : Bd 401 (Sm.fl a c m i) := by
  have hi' : Bd 200 (i : Int) := Bd.le (by omega) (by omega : (i : Int) ≤ n) h.bn
  have ha := h.ba
  have hc := h.bc
  unfold Sm.fl
  (with_reducible apply Bd.mono; (case h => (repeat' (first | assumption | with_reducible apply Bd.mul | with_reducible apply Bd.add | with_reducible apply Bd.sub | with_reducible apply Bd.neg | with_reducible apply Bd.div | with_reducible exact Bd.num))); (case l => decide))
theorem Ok.f1 (h : Ok n a c m) : Bd 2000 (F1 n a c m) := (Bd_sm h.bn fun i hi => h.fl hi).mono (by decide)
theorem Ok.fm (h : Ok n a c m) : Bd 2000 (FM n a c m) := (Bd_sm (k := 601) h.bn fun i hi => by
  have hi' : Bd 200 (i : Int) := Bd.le (by omega) (by omega : (i : Int) ≤ n) h.bn
  exact hi'.mul (h.fl hi)).mono (by decide)
theorem Ok.f2 (h : Ok n a c m) : Bd 2000 (F2 n a c m) := (Bd_sm (k := 802) h.bn fun i hi => (h.fl hi).mul (h.fl hi)).mono (by decide)
theorem Ok.red (h : Ok n a c m) : Ok n (a % m) (c % m) m := ⟨h.bn, Bd.mod h.bm h.pm, Bd.mod h.bm h.pm, h.bm, h.pm⟩
theorem gv_lift (h : Ok n a c m) : Gv (m_lifted [.int n, .int (a / m), .int (c / m), tt n (a % m) (c % m) m] S) Q = Q (tt n a c m) S := by
  have r := h.red
  unfold tt
  rw [gv_lifted h.bn (Bd.div h.ba) (Bd.div h.bc) r.f1 r.fm r.f2, half_id, half_sq, ← F1_lift (a := a) (c := c) n h.pm, ← FM_lift (a := a) (c := c) n h.pm, ← F2_lift (a := a) (c := c) n h.pm]
theorem gv_exch {l B : Nat} (h : Ok (l + 1) a c m) (ha : 0 < a) (hc : 0 ≤ c) (hcm : c < m) (hB : (B : Int) = Sm.fl a c m l) (k : Ok B m (m - c - 1) a) :
    Gv (m_exchanged [.int ((l + 1 : Nat) - 1), .int B, tt B m (m - c - 1) a] S) Q = Q (tt (l + 1) a c m) S := by
  obtain ⟨e1, e2, e3⟩ := exch_all ha hc h.pm hcm l B hB
  have hl : Bd 200 (((l + 1 : Nat) : Int) - 1) := Bd.le (by omega) (by omega : ((l + 1 : Nat) : Int) - 1 ≤ (l + 1 : Nat)) h.bn
  unfold tt
  rw [gv_exchanged hl k.bn k.f1 k.fm k.f2]
  have el : ((l + 1 : Nat) : Int) - 1 = l := by omega
  rw [el, ← e1, ← e2, show 2 * FM (l + 1) a c m / 2 = FM (l + 1) a c m by omega]
  congr 3
  rw [e3]
  have : (l : Int) * B * (B + 1) = l * B * B + l * B := by rw [Int.mul_add, Int.mul_one]
  omega
end
/-! the way down, as it is written -/
def oL (n a c m : Int) : T := .tup [.str "lift", .int n, .int (a / m), .int (c / m)]
def oX (n b : Int) : T := .tup [.str "exchange", .int (n - 1), .int b, .int 0]
/-- the floor at the last place, of the reduced line -/
def mst (n : Nat) (a c m : Int) : Int := (a % m * (n - 1) + c % m) / m
inductive Pre (n0 : Nat) (a0 c0 m0 : Int) : List T → Nat → Int → Int → Int → Prop
  | refl : Pre n0 a0 c0 m0 [] n0 a0 c0 m0
  | snoc {pre n a c m} : Pre n0 a0 c0 m0 pre n a c m → Ok n a c m → 0 < n → 0 < mst n a c m →
      Pre n0 a0 c0 m0 (pre ++ [oL n a c m, oX n (mst n a c m)]) (mst n a c m).toNat m (m - c % m - 1) (a % m)
theorem mst_fl {n : Nat} {a c m : Int} (h : 0 < n) : mst n a c m = Sm.fl (a % m) (c % m) m (n - 1) := by
  unfold mst Sm.fl
  rw [show ((n : Int) - 1) = ((n - 1 : Nat) : Int) by omega]
theorem next_ok {n : Nat} {a c m : Int} (h : Ok n a c m) (h0 : 0 < n) (hp : 0 < mst n a c m) : 0 < a % m ∧ mst n a c m < n ∧ Ok (mst n a c m).toNat m (m - c % m - 1) (a % m) := by
  have r1 := Int.emod_nonneg a (by have := h.pm; omega : m ≠ 0)
  have r2 := Int.emod_lt_of_pos a h.pm
  have r3 := Int.emod_nonneg c (by have := h.pm; omega : m ≠ 0)
  have r4 := Int.emod_lt_of_pos c h.pm
  have hpos : 0 < a % m := by
    by_cases z : a % m = 0
    · exfalso
      unfold mst at hp
      rw [z, Int.zero_mul, Int.zero_add, Int.ediv_eq_zero_of_lt r3 r4] at hp
      omega
    · omega
  have hlt : mst n a c m < n := by
    unfold mst
    refine Int.ediv_lt_of_lt_mul h.pm ?_
    have : a % m * ((n : Int) - 1) ≤ (m - 1) * ((n : Int) - 1) := Int.mul_le_mul_of_nonneg_right (by omega) (by omega)
    have e : (m - 1) * ((n : Int) - 1) = n * m - m - n + 1 := by grind
    omega
  have hm := h.bm
  refine ⟨hpos, hlt, ⟨?_, h.bm, ?_, Bd.mod h.bm h.pm, hpos⟩⟩
  · exact Bd.le (by omega) (by omega : ((mst n a c m).toNat : Int) ≤ n) h.bn
  · exact Bd.le (by omega) (by omega : m - c % m - 1 ≤ m) h.bm
theorem Pre.ok {n0 a0 c0 m0 pre n a c m} (h0 : Ok n0 a0 c0 m0) (h : Pre n0 a0 c0 m0 pre n a c m) : Ok n a c m := by
  cases h with
  | refl => exact h0
  | snoc p k z y => exact (next_ok k z y).2.2
theorem end_zero {n : Nat} {a c m : Int} (h : Ok n a c m) (hz : n = 0 ∨ mst n a c m ≤ 0) : tt n (a % m) (c % m) m = tT 0 0 0 := by
  have r1 := Int.emod_nonneg a (by have := h.pm; omega : m ≠ 0)
  have r3 := Int.emod_nonneg c (by have := h.pm; omega : m ≠ 0)
  have z : ∀ i, i < n → Sm.fl (a % m) (c % m) m i = 0 := fun i hi => by
    have h1 := fl_nonneg (c := c % m) r1 r3 h.pm i
    rcases hz with hz | hz
    · omega
    · rw [mst_fl (by omega)] at hz
      have h2 := fl_mono (c := c % m) r1 h.pm (show i ≤ n - 1 by omega)
      omega
  unfold tt F1 FM F2
  have z1 : sm (Sm.fl (a % m) (c % m) m) n = 0 := by rw [sm_congr z, sm_zero]
  have z2 : sm (fun i => (i : Int) * Sm.fl (a % m) (c % m) m i) n = 0 := by rw [sm_congr (g := fun _ => 0) fun i hi => by rw [z i hi, Int.mul_zero], sm_zero]
  have z3 : sm (fun i => Sm.fl (a % m) (c % m) m i * Sm.fl (a % m) (c % m) m i) n = 0 := by rw [sm_congr (g := fun _ => 0) fun i hi => by rw [z i hi, Int.mul_zero], sm_zero]
  rw [z1, z2, z3]
theorem Pre.inv {n0 : Nat} {a0 c0 m0 : Int} {pre n a c m} (h : Pre n0 a0 c0 m0 pre n a c m) : (pre = [] ∧ n = n0 ∧ a = a0 ∧ c = c0 ∧ m = m0) ∨
    ∃ pre' n' a' c' m', Pre n0 a0 c0 m0 pre' n' a' c' m' ∧ Ok n' a' c' m' ∧ 0 < n' ∧ 0 < mst n' a' c' m' ∧ pre = pre' ++ [oL n' a' c' m', oX n' (mst n' a' c' m')] ∧
      n = (mst n' a' c' m').toNat ∧ a = m' ∧ c = m' - c' % m' - 1 ∧ m = a' % m' := by
  cases h with
  | refl => exact .inl ⟨rfl, rfl, rfl, rfl, rfl⟩
  | snoc p k y z => exact .inr ⟨_, _, _, _, _, p, k, y, z, rfl, rfl, rfl, rfl, rfl⟩
theorem ex_ne : ((Str.ofString "exchange") == (Str.ofString "lift")) = false := by decide
theorem tt_noH {n : Nat} {a c m : Int} : noH (tt n a c m) = true := rfl
theorem gv_exch' {n : Nat} {a c m : Int} (k : Ok n a c m) (h0 : 0 < n) (hp : 0 < mst n a c m) :
    Gv (m_exchanged [.int (n - 1), .int (mst n a c m), tt (mst n a c m).toNat m (m - c % m - 1) (a % m)] S) Q = Q (tt n (a % m) (c % m) m) S := by
  obtain ⟨x1, x2, x3⟩ := next_ok k h0 hp
  have r3 := Int.emod_nonneg c (by have := k.pm; omega : m ≠ 0)
  have r4 := Int.emod_lt_of_pos c k.pm
  obtain ⟨l, rfl⟩ : ∃ l, n = l + 1 := ⟨n - 1, by omega⟩
  have e : (((mst (l + 1) a c m).toNat : Nat) : Int) = mst (l + 1) a c m := Int.toNat_of_nonneg (by omega)
  have g := gv_exch (S := S) (Q := Q) k.red x1 r3 r4 (B := (mst (l + 1) a c m).toNat) (by rw [e, mst_fl h0]; rfl) x3
  rw [e] at g
  exact g
theorem gv_totals {n0 : Nat} {a0 c0 m0 : Int} (h0 : Ok n0 a0 c0 m0) : Gv (m_totals_in [.int n0, .int a0, .int c0, .int m0] S) Q = Q (tt n0 a0 c0 m0) S := by
  refine gv_of fun Q h => ?_
  unfold m_totals_in
  simp only [↓k_var0, ↓k_varS, ↓k_c, ↓k_op, ↓k_op1, ↓k_op2, ↓k_un, ↓k_un1, ↓k_tOf, ↓k_b, ↓k_not, ↓k_not1, ↓k_and, ↓k_and1, ↓k_or, ↓k_or1, ↓k_eand, ↓k_eand1, ↓k_eor, ↓k_eor1, ↓k_enot, ↓k_enot1, ↓k_eif, ↓k_eif1, ↓k_chn, ↓k_chn1, ↓k_chn2, ↓k_chn3, ↓k_nil, ↓k_cons, ↓k_cons1, ↓k_cons2, ↓k_tup, ↓k_lst, ↓k_cel, ↓k_tup1, ↓k_lst1, ↓k_cel1, ↓k_call, ↓k_call1, ↓k_skip, ↓k_bk, ↓k_ct, ↓k_no, ↓k_seq, ↓k_seq1, ↓k_seq2, ↓k_seq3, ↓k_seq4, ↓k_ex, ↓k_ex1, ↓k_ret, ↓k_ret1, ↓k_if, ↓k_if1, ↓k_as, ↓k_as1, ↓k_nx, ↓k_st0, ↓k_stS, ↓k_set, ↓k_set1, ↓k_par2, ↓k_par21, ↓k_par3, ↓k_par31, ↓k_nm, ↓k_gsnil, ↓k_gscons, ↓k_gscons1, ↓k_gix, ↓k_gix1, ↓k_gix2, ↓k_gix3, ↓k_for, ↓k_for1, ↓k_isq, ↓k_isqT, ↓k_isqL, ↓k_isqS, ↓k_r1, ↓k_r11, ↓k_r21, ↓k_app, ↓k_ar0, ↓k_ar1, ↓k_gT1, ↓k_gL1, ↓k_ar2, ↓k_gT2, ↓k_gL2, ↓k_ar3, ↓k_gT3, ↓k_gL3, ↓k_ar4, ↓k_gT4, ↓k_gL4, ↓k_ar5, ↓k_gT5, ↓k_gL5, ↓k_ar6, ↓k_gT6, ↓k_gL6, ↓k_ar7, ↓k_gT7, ↓k_gL7, ↓k_add, ↓k_sub, ↓k_mul, ↓k_fdiv, ↓k_mod, ↓k_pow, ↓k_neg, ↓k_lt, ↓k_le, ↓k_gt, ↓k_ge, ↓k_eq, ↓k_ne, ↓k_eqs, ↓k_nes, ↓k_abs, ↓k_int, ↓k_intb, ↓k_boolb, ↓k_max, ↓k_min, ↓k_isi, ↓k_lenS, ↓k_lenL, ↓k_lenT, ↓k_is, ↓k_isn, ↓k_revL, ↓k_ixL, ↓k_ixT, ↓k_ixS, ↓k_at0, ↓k_at1, ↓k_at2, ↓k_at3, ↓k_en0, ↓k_enN, ↓k_enC, ↓k_fnM, ↓k_fnK, lb_0, lb_1, lb_2, lb_3, lb_4, lb_5, lb_6, lb_7, lb_8, lb_9, lb_10, lb_11, lb_12, Gv_ret, Gv_some, Gv_none, Gv_fail, ite_F, kitII, kitIB, kitBI, kitBB, FinK_rt, Fin_nx, frz_int, frz_bl, frz_non, frz_str, frz_tup, frz_lst, frzs_nil, frzs_cons, Option.map_some, Option.bind_some, Fin_rt, noH, noHs, set_app, true_and, and_true, false_and, and_false, not_true_eq_false, not_false_eq_true, Option.some.injEq, exists_eq_left, exists_eq_left', take_all, take_set, ↓reduceIte, Bool.not_true, Bool.not_false, Bool.false_eq_true, if_true, if_false, Bool.and_true, Bool.true_and, Bool.and_false, Bool.false_and, decide_eq_true_eq, Bool.not_eq_true', decide_eq_false_iff_not]
  refine Gv.imp (Gv_while (R := fun r S' => ∃ n a c m pre o5, r = .nx [some (.int (n : Nat)), some (.int (a % m)), some (.int (c % m)), some (.int m), some (.hdl S.length), o5, none, none, none, none, none] ∧ S' = S ++ [.lst (pre ++ [oL n a c m])] ∧
      Pre n0 a0 c0 m0 pre n a c m ∧ (n = 0 ∨ mst n a c m ≤ 0))
    (fun τ S' => ∃ n a c m pre o5, Pre n0 a0 c0 m0 pre n a c m ∧ τ = [some (.int (n : Nat)), some (.int a), some (.int c), some (.int m), some (.hdl S.length), o5, none, none, none, none, none] ∧ S' = S ++ [.lst pre] ∧ pre.length + 2 * eu a m ≤ 1000)
    (fun τ _ => match τ with
      | _ :: some (.int a) :: _ :: some (.int m) :: _ => eu a m
      | _ => 0) wn ?start ?less ?turn) ?after
  case start => exact ⟨n0, a0, c0, m0, [], none, .refl, rfl, rfl, by have := eu_le h0.ba h0.bm h0.pm; show 0 + _ ≤ _; omega⟩
  case less =>
    have := eu_le h0.ba h0.bm h0.pm
    show eu a0 m0 < 100000
    omega
  case turn =>
    rintro τ S' ⟨n, a, c, m, pre, o5, hp, rfl, rfl, hl⟩
    have k := hp.ok h0
    have pm := k.pm
    have dm : divOk m = true := div_ok k.pm k.bm (by decide)
    have ml : mulOk (a % m) ((n : Int) - 1) = true := by
      have k1 := k.red.ba
      have k2 := k.bn
      (first | exact mul_okL (by decide) | exact mul_okR (by decide) | (with_reducible apply mul_ok; (case h => (repeat' (first | assumption | with_reducible apply Bd.mul | with_reducible apply Bd.add | with_reducible apply Bd.sub | with_reducible apply Bd.neg | with_reducible apply Bd.div | with_reducible exact Bd.num))); (case q => (repeat' (first | assumption | with_reducible apply Bd.mul | with_reducible apply Bd.add | with_reducible apply Bd.sub | with_reducible apply Bd.neg | with_reducible apply Bd.div | with_reducible exact Bd.num))); (case l => decide)))
    have hb : (1001 : Nat) < big := by decide
    have hl1 : pre.length < big := by omega
    have hl2 : (pre ++ [T.tup [.str "lift", .int n, .int (a / m), .int (c / m)]]).length < big := by
      rw [List.length_append]; show pre.length + 1 < big; omega
    by_cases hn : 0 < (n : Int)
    · by_cases hz : mst n a c m ≤ 0
      · have hz' : (a % m * ((n : Int) - 1) + c % m) / m ≤ 0 := hz
        simp only [↓k_var0, ↓k_varS, ↓k_c, ↓k_op, ↓k_op1, ↓k_op2, ↓k_un, ↓k_un1, ↓k_tOf, ↓k_b, ↓k_not, ↓k_not1, ↓k_and, ↓k_and1, ↓k_or, ↓k_or1, ↓k_eand, ↓k_eand1, ↓k_eor, ↓k_eor1, ↓k_enot, ↓k_enot1, ↓k_eif, ↓k_eif1, ↓k_chn, ↓k_chn1, ↓k_chn2, ↓k_chn3, ↓k_nil, ↓k_cons, ↓k_cons1, ↓k_cons2, ↓k_tup, ↓k_lst, ↓k_cel, ↓k_tup1, ↓k_lst1, ↓k_cel1, ↓k_call, ↓k_call1, ↓k_skip, ↓k_bk, ↓k_ct, ↓k_no, ↓k_seq, ↓k_seq1, ↓k_seq2, ↓k_seq3, ↓k_seq4, ↓k_ex, ↓k_ex1, ↓k_ret, ↓k_ret1, ↓k_if, ↓k_if1, ↓k_as, ↓k_as1, ↓k_nx, ↓k_st0, ↓k_stS, ↓k_set, ↓k_set1, ↓k_par2, ↓k_par21, ↓k_par3, ↓k_par31, ↓k_nm, ↓k_gsnil, ↓k_gscons, ↓k_gscons1, ↓k_gix, ↓k_gix1, ↓k_gix2, ↓k_gix3, ↓k_for, ↓k_for1, ↓k_isq, ↓k_isqT, ↓k_isqL, ↓k_isqS, ↓k_r1, ↓k_r11, ↓k_r21, ↓k_app, ↓k_ar0, ↓k_ar1, ↓k_gT1, ↓k_gL1, ↓k_ar2, ↓k_gT2, ↓k_gL2, ↓k_ar3, ↓k_gT3, ↓k_gL3, ↓k_ar4, ↓k_gT4, ↓k_gL4, ↓k_ar5, ↓k_gT5, ↓k_gL5, ↓k_ar6, ↓k_gT6, ↓k_gL6, ↓k_ar7, ↓k_gT7, ↓k_gL7, ↓k_add, ↓k_sub, ↓k_mul, ↓k_fdiv, ↓k_mod, ↓k_pow, ↓k_neg, ↓k_lt, ↓k_le, ↓k_gt, ↓k_ge, ↓k_eq, ↓k_ne, ↓k_eqs, ↓k_nes, ↓k_abs, ↓k_int, ↓k_intb, ↓k_boolb, ↓k_max, ↓k_min, ↓k_isi, ↓k_lenS, ↓k_lenL, ↓k_lenT, ↓k_is, ↓k_isn, ↓k_revL, ↓k_ixL, ↓k_ixT, ↓k_ixS, ↓k_at0, ↓k_at1, ↓k_at2, ↓k_at3, ↓k_en0, ↓k_enN, ↓k_enC, ↓k_fnM, ↓k_fnK, lb_0, lb_1, lb_2, lb_3, lb_4, lb_5, lb_6, lb_7, lb_8, lb_9, lb_10, lb_11, lb_12, Gv_ret, Gv_some, Gv_none, Gv_fail, ite_F, kitII, kitIB, kitBI, kitBB, FinK_rt, Fin_nx, frz_int, frz_bl, frz_non, frz_str, frz_tup, frz_lst, frzs_nil, frzs_cons, Option.map_some, Option.bind_some, Fin_rt, noH, noHs, set_app, true_and, and_true, false_and, and_false, not_true_eq_false, not_false_eq_true, Option.some.injEq, exists_eq_left, exists_eq_left', take_all, take_set, ↓reduceIte, Bool.not_true, Bool.not_false, Bool.false_eq_true, if_true, if_false, Bool.and_true, Bool.true_and, Bool.and_false, Bool.false_and, decide_eq_true_eq, Bool.not_eq_true', decide_eq_false_iff_not, ↓k_app1 (get_app (S := S) (x := Cell.lst pre)), ↓k_appT (get_app (S := S) (x := Cell.lst pre)) hl1, dm, ml, pm, hn, hz']
        exact ⟨n, a, c, m, pre, _, rfl, rfl, hp, .inr hz⟩
      · have hz' : ¬ (a % m * ((n : Int) - 1) + c % m) / m ≤ 0 := hz
        obtain ⟨x1, x2, x3⟩ := next_ok k (by omega) (by omega)
        have ed := eu_dec k.pm x1
        simp only [↓k_var0, ↓k_varS, ↓k_c, ↓k_op, ↓k_op1, ↓k_op2, ↓k_un, ↓k_un1, ↓k_tOf, ↓k_b, ↓k_not, ↓k_not1, ↓k_and, ↓k_and1, ↓k_or, ↓k_or1, ↓k_eand, ↓k_eand1, ↓k_eor, ↓k_eor1, ↓k_enot, ↓k_enot1, ↓k_eif, ↓k_eif1, ↓k_chn, ↓k_chn1, ↓k_chn2, ↓k_chn3, ↓k_nil, ↓k_cons, ↓k_cons1, ↓k_cons2, ↓k_tup, ↓k_lst, ↓k_cel, ↓k_tup1, ↓k_lst1, ↓k_cel1, ↓k_call, ↓k_call1, ↓k_skip, ↓k_bk, ↓k_ct, ↓k_no, ↓k_seq, ↓k_seq1, ↓k_seq2, ↓k_seq3, ↓k_seq4, ↓k_ex, ↓k_ex1, ↓k_ret, ↓k_ret1, ↓k_if, ↓k_if1, ↓k_as, ↓k_as1, ↓k_nx, ↓k_st0, ↓k_stS, ↓k_set, ↓k_set1, ↓k_par2, ↓k_par21, ↓k_par3, ↓k_par31, ↓k_nm, ↓k_gsnil, ↓k_gscons, ↓k_gscons1, ↓k_gix, ↓k_gix1, ↓k_gix2, ↓k_gix3, ↓k_for, ↓k_for1, ↓k_isq, ↓k_isqT, ↓k_isqL, ↓k_isqS, ↓k_r1, ↓k_r11, ↓k_r21, ↓k_app, ↓k_ar0, ↓k_ar1, ↓k_gT1, ↓k_gL1, ↓k_ar2, ↓k_gT2, ↓k_gL2, ↓k_ar3, ↓k_gT3, ↓k_gL3, ↓k_ar4, ↓k_gT4, ↓k_gL4, ↓k_ar5, ↓k_gT5, ↓k_gL5, ↓k_ar6, ↓k_gT6, ↓k_gL6, ↓k_ar7, ↓k_gT7, ↓k_gL7, ↓k_add, ↓k_sub, ↓k_mul, ↓k_fdiv, ↓k_mod, ↓k_pow, ↓k_neg, ↓k_lt, ↓k_le, ↓k_gt, ↓k_ge, ↓k_eq, ↓k_ne, ↓k_eqs, ↓k_nes, ↓k_abs, ↓k_int, ↓k_intb, ↓k_boolb, ↓k_max, ↓k_min, ↓k_isi, ↓k_lenS, ↓k_lenL, ↓k_lenT, ↓k_is, ↓k_isn, ↓k_revL, ↓k_ixL, ↓k_ixT, ↓k_ixS, ↓k_at0, ↓k_at1, ↓k_at2, ↓k_at3, ↓k_en0, ↓k_enN, ↓k_enC, ↓k_fnM, ↓k_fnK, lb_0, lb_1, lb_2, lb_3, lb_4, lb_5, lb_6, lb_7, lb_8, lb_9, lb_10, lb_11, lb_12, Gv_ret, Gv_some, Gv_none, Gv_fail, ite_F, kitII, kitIB, kitBI, kitBB, FinK_rt, Fin_nx, frz_int, frz_bl, frz_non, frz_str, frz_tup, frz_lst, frzs_nil, frzs_cons, Option.map_some, Option.bind_some, Fin_rt, noH, noHs, set_app, true_and, and_true, false_and, and_false, not_true_eq_false, not_false_eq_true, Option.some.injEq, exists_eq_left, exists_eq_left', take_all, take_set, ↓reduceIte, Bool.not_true, Bool.not_false, Bool.false_eq_true, if_true, if_false, Bool.and_true, Bool.true_and, Bool.and_false, Bool.false_and, decide_eq_true_eq, Bool.not_eq_true', decide_eq_false_iff_not, ↓k_app1 (get_app (S := S) (x := Cell.lst pre)), ↓k_appT (get_app (S := S) (x := Cell.lst pre)) hl1, dm, ml, pm, hn, hz', 
          ↓k_app1 (get_app (S := S) (x := Cell.lst (pre ++ [T.tup [.str "lift", .int n, .int (a / m), .int (c / m)]]))),
          ↓k_appT (get_app (S := S) (x := Cell.lst (pre ++ [T.tup [.str "lift", .int n, .int (a / m), .int (c / m)]]))) hl2]
        refine ⟨⟨(mst n a c m).toNat, m, m - c % m - 1, a % m, _, some (.int (mst n a c m)), hp.snoc k (by omega) (by omega), ?_, ?_, ?_⟩, ?_⟩
        · rw [Int.toNat_of_nonneg (by omega)]; rfl
        · rw [List.append_assoc]; rfl
        · rw [List.length_append]
          show pre.length + 2 + 2 * eu m (a % m) ≤ 1000
          omega
        · exact ed
    · simp only [↓k_var0, ↓k_varS, ↓k_c, ↓k_op, ↓k_op1, ↓k_op2, ↓k_un, ↓k_un1, ↓k_tOf, ↓k_b, ↓k_not, ↓k_not1, ↓k_and, ↓k_and1, ↓k_or, ↓k_or1, ↓k_eand, ↓k_eand1, ↓k_eor, ↓k_eor1, ↓k_enot, ↓k_enot1, ↓k_eif, ↓k_eif1, ↓k_chn, ↓k_chn1, ↓k_chn2, ↓k_chn3, ↓k_nil, ↓k_cons, ↓k_cons1, ↓k_cons2, ↓k_tup, ↓k_lst, ↓k_cel, ↓k_tup1, ↓k_lst1, ↓k_cel1, ↓k_call, ↓k_call1, ↓k_skip, ↓k_bk, ↓k_ct, ↓k_no, ↓k_seq, ↓k_seq1, ↓k_seq2, ↓k_seq3, ↓k_seq4, ↓k_ex, ↓k_ex1, ↓k_ret, ↓k_ret1, ↓k_if, ↓k_if1, ↓k_as, ↓k_as1, ↓k_nx, ↓k_st0, ↓k_stS, ↓k_set, ↓k_set1, ↓k_par2, ↓k_par21, ↓k_par3, ↓k_par31, ↓k_nm, ↓k_gsnil, ↓k_gscons, ↓k_gscons1, ↓k_gix, ↓k_gix1, ↓k_gix2, ↓k_gix3, ↓k_for, ↓k_for1, ↓k_isq, ↓k_isqT, ↓k_isqL, ↓k_isqS, ↓k_r1, ↓k_r11, ↓k_r21, ↓k_app, ↓k_ar0, ↓k_ar1, ↓k_gT1, ↓k_gL1, ↓k_ar2, ↓k_gT2, ↓k_gL2, ↓k_ar3, ↓k_gT3, ↓k_gL3, ↓k_ar4, ↓k_gT4, ↓k_gL4, ↓k_ar5, ↓k_gT5, ↓k_gL5, ↓k_ar6, ↓k_gT6, ↓k_gL6, ↓k_ar7, ↓k_gT7, ↓k_gL7, ↓k_add, ↓k_sub, ↓k_mul, ↓k_fdiv, ↓k_mod, ↓k_pow, ↓k_neg, ↓k_lt, ↓k_le, ↓k_gt, ↓k_ge, ↓k_eq, ↓k_ne, ↓k_eqs, ↓k_nes, ↓k_abs, ↓k_int, ↓k_intb, ↓k_boolb, ↓k_max, ↓k_min, ↓k_isi, ↓k_lenS, ↓k_lenL, ↓k_lenT, ↓k_is, ↓k_isn, ↓k_revL, ↓k_ixL, ↓k_ixT, ↓k_ixS, ↓k_at0, ↓k_at1, ↓k_at2, ↓k_at3, ↓k_en0, ↓k_enN, ↓k_enC, ↓k_fnM, ↓k_fnK, lb_0, lb_1, lb_2, lb_3, lb_4, lb_5, lb_6, lb_7, lb_8, lb_9, lb_10, lb_11, lb_12, Gv_ret, Gv_some, Gv_none, Gv_fail, ite_F, kitII, kitIB, kitBI, kitBB, FinK_rt, Fin_nx, frz_int, frz_bl, frz_non, frz_str, frz_tup, frz_lst, frzs_nil, frzs_cons, Option.map_some, Option.bind_some, Fin_rt, noH, noHs, set_app, true_and, and_true, false_and, and_false, not_true_eq_false, not_false_eq_true, Option.some.injEq, exists_eq_left, exists_eq_left', take_all, take_set, ↓reduceIte, Bool.not_true, Bool.not_false, Bool.false_eq_true, if_true, if_false, Bool.and_true, Bool.true_and, Bool.and_false, Bool.false_and, decide_eq_true_eq, Bool.not_eq_true', decide_eq_false_iff_not, ↓k_app1 (get_app (S := S) (x := Cell.lst pre)), ↓k_appT (get_app (S := S) (x := Cell.lst pre)) hl1, dm, ml, pm, hn, Int.le_refl]
      exact ⟨n, a, c, m, pre, _, rfl, rfl, hp, .inl (by omega)⟩
  case after =>
    rintro r S' ⟨n, a, c, m, pre, o5, rfl, rfl, hp, hz⟩
    have k := hp.ok h0
    simp only [↓k_var0, ↓k_varS, ↓k_c, ↓k_op, ↓k_op1, ↓k_op2, ↓k_un, ↓k_un1, ↓k_tOf, ↓k_b, ↓k_not, ↓k_not1, ↓k_and, ↓k_and1, ↓k_or, ↓k_or1, ↓k_eand, ↓k_eand1, ↓k_eor, ↓k_eor1, ↓k_enot, ↓k_enot1, ↓k_eif, ↓k_eif1, ↓k_chn, ↓k_chn1, ↓k_chn2, ↓k_chn3, ↓k_nil, ↓k_cons, ↓k_cons1, ↓k_cons2, ↓k_tup, ↓k_lst, ↓k_cel, ↓k_tup1, ↓k_lst1, ↓k_cel1, ↓k_call, ↓k_call1, ↓k_skip, ↓k_bk, ↓k_ct, ↓k_no, ↓k_seq, ↓k_seq1, ↓k_seq2, ↓k_seq3, ↓k_seq4, ↓k_ex, ↓k_ex1, ↓k_ret, ↓k_ret1, ↓k_if, ↓k_if1, ↓k_as, ↓k_as1, ↓k_nx, ↓k_st0, ↓k_stS, ↓k_set, ↓k_set1, ↓k_par2, ↓k_par21, ↓k_par3, ↓k_par31, ↓k_nm, ↓k_gsnil, ↓k_gscons, ↓k_gscons1, ↓k_gix, ↓k_gix1, ↓k_gix2, ↓k_gix3, ↓k_for, ↓k_for1, ↓k_isq, ↓k_isqT, ↓k_isqL, ↓k_isqS, ↓k_r1, ↓k_r11, ↓k_r21, ↓k_app, ↓k_ar0, ↓k_ar1, ↓k_gT1, ↓k_gL1, ↓k_ar2, ↓k_gT2, ↓k_gL2, ↓k_ar3, ↓k_gT3, ↓k_gL3, ↓k_ar4, ↓k_gT4, ↓k_gL4, ↓k_ar5, ↓k_gT5, ↓k_gL5, ↓k_ar6, ↓k_gT6, ↓k_gL6, ↓k_ar7, ↓k_gT7, ↓k_gL7, ↓k_add, ↓k_sub, ↓k_mul, ↓k_fdiv, ↓k_mod, ↓k_pow, ↓k_neg, ↓k_lt, ↓k_le, ↓k_gt, ↓k_ge, ↓k_eq, ↓k_ne, ↓k_eqs, ↓k_nes, ↓k_abs, ↓k_int, ↓k_intb, ↓k_boolb, ↓k_max, ↓k_min, ↓k_isi, ↓k_lenS, ↓k_lenL, ↓k_lenT, ↓k_is, ↓k_isn, ↓k_revL, ↓k_ixL, ↓k_ixT, ↓k_ixS, ↓k_at0, ↓k_at1, ↓k_at2, ↓k_at3, ↓k_en0, ↓k_enN, ↓k_enC, ↓k_fnM, ↓k_fnK, lb_0, lb_1, lb_2, lb_3, lb_4, lb_5, lb_6, lb_7, lb_8, lb_9, lb_10, lb_11, lb_12, Gv_ret, Gv_some, Gv_none, Gv_fail, ite_F, kitII, kitIB, kitBI, kitBB, FinK_rt, Fin_nx, frz_int, frz_bl, frz_non, frz_str, frz_tup, frz_lst, frzs_nil, frzs_cons, Option.map_some, Option.bind_some, Fin_rt, noH, noHs, set_app, true_and, and_true, false_and, and_false, not_true_eq_false, not_false_eq_true, Option.some.injEq, exists_eq_left, exists_eq_left', take_all, take_set, ↓reduceIte, Bool.not_true, Bool.not_false, Bool.false_eq_true, if_true, if_false, Bool.and_true, Bool.true_and, Bool.and_false, Bool.false_and, decide_eq_true_eq, Bool.not_eq_true', decide_eq_false_iff_not, ↓revM_hdl (get_app (S := S) (x := Cell.lst (pre ++ [oL n a c m])))]
    refine Gv_left (fun ts τ S' => S' = S ++ [.lst (pre ++ [oL n a c m])] ∧ ∃ o0 o1 o2 o3 o4 o5 v o7 o8 o9 o10, τ = [o0, o1, o2, o3, o4, o5, some v, o7, o8, o9, o10] ∧ ∃ n a c m pre, Pre n0 a0 c0 m0 pre n a c m ∧
      (ts = oL n a c m :: pre.reverse ∧ v = tt n (a % m) (c % m) m ∨ ts = pre.reverse ∧ v = tt n a c m)) ?first ?each ?last
    case first =>
      refine ⟨rfl, _, _, _, _, _, _, _, _, _, _, _, rfl, n, a, c, m, pre, hp, .inl ⟨?_, ?_⟩⟩
      · rw [List.reverse_append]; rfl
      · rw [end_zero k hz]; rfl
    case last =>
      rintro τ S' ⟨rfl, o0, o1, o2, o3, o4, o5, v, o7, o8, o9, o10, rfl, n', a', c', m', pre', hp', ⟨q, q'⟩ | ⟨q, q'⟩⟩
      · cases q
      · subst q'
        have := List.reverse_eq_nil_iff.mp q.symm
        subst this
        obtain ⟨-, rfl, rfl, rfl, rfl⟩ | ⟨_, _, _, _, _, _, _, _, _, e, _⟩ := hp'.inv
        · simp only [↓k_var0, ↓k_varS, ↓k_c, ↓k_op, ↓k_op1, ↓k_op2, ↓k_un, ↓k_un1, ↓k_tOf, ↓k_b, ↓k_not, ↓k_not1, ↓k_and, ↓k_and1, ↓k_or, ↓k_or1, ↓k_eand, ↓k_eand1, ↓k_eor, ↓k_eor1, ↓k_enot, ↓k_enot1, ↓k_eif, ↓k_eif1, ↓k_chn, ↓k_chn1, ↓k_chn2, ↓k_chn3, ↓k_nil, ↓k_cons, ↓k_cons1, ↓k_cons2, ↓k_tup, ↓k_lst, ↓k_cel, ↓k_tup1, ↓k_lst1, ↓k_cel1, ↓k_call, ↓k_call1, ↓k_skip, ↓k_bk, ↓k_ct, ↓k_no, ↓k_seq, ↓k_seq1, ↓k_seq2, ↓k_seq3, ↓k_seq4, ↓k_ex, ↓k_ex1, ↓k_ret, ↓k_ret1, ↓k_if, ↓k_if1, ↓k_as, ↓k_as1, ↓k_nx, ↓k_st0, ↓k_stS, ↓k_set, ↓k_set1, ↓k_par2, ↓k_par21, ↓k_par3, ↓k_par31, ↓k_nm, ↓k_gsnil, ↓k_gscons, ↓k_gscons1, ↓k_gix, ↓k_gix1, ↓k_gix2, ↓k_gix3, ↓k_for, ↓k_for1, ↓k_isq, ↓k_isqT, ↓k_isqL, ↓k_isqS, ↓k_r1, ↓k_r11, ↓k_r21, ↓k_app, ↓k_ar0, ↓k_ar1, ↓k_gT1, ↓k_gL1, ↓k_ar2, ↓k_gT2, ↓k_gL2, ↓k_ar3, ↓k_gT3, ↓k_gL3, ↓k_ar4, ↓k_gT4, ↓k_gL4, ↓k_ar5, ↓k_gT5, ↓k_gL5, ↓k_ar6, ↓k_gT6, ↓k_gL6, ↓k_ar7, ↓k_gT7, ↓k_gL7, ↓k_add, ↓k_sub, ↓k_mul, ↓k_fdiv, ↓k_mod, ↓k_pow, ↓k_neg, ↓k_lt, ↓k_le, ↓k_gt, ↓k_ge, ↓k_eq, ↓k_ne, ↓k_eqs, ↓k_nes, ↓k_abs, ↓k_int, ↓k_intb, ↓k_boolb, ↓k_max, ↓k_min, ↓k_isi, ↓k_lenS, ↓k_lenL, ↓k_lenT, ↓k_is, ↓k_isn, ↓k_revL, ↓k_ixL, ↓k_ixT, ↓k_ixS, ↓k_at0, ↓k_at1, ↓k_at2, ↓k_at3, ↓k_en0, ↓k_enN, ↓k_enC, ↓k_fnM, ↓k_fnK, lb_0, lb_1, lb_2, lb_3, lb_4, lb_5, lb_6, lb_7, lb_8, lb_9, lb_10, lb_11, lb_12, Gv_ret, Gv_some, Gv_none, Gv_fail, ite_F, kitII, kitIB, kitBI, kitBB, FinK_rt, Fin_nx, frz_int, frz_bl, frz_non, frz_str, frz_tup, frz_lst, frzs_nil, frzs_cons, Option.map_some, Option.bind_some, Fin_rt, noH, noHs, set_app, true_and, and_true, false_and, and_false, not_true_eq_false, not_false_eq_true, Option.some.injEq, exists_eq_left, exists_eq_left', take_all, take_set, ↓reduceIte, Bool.not_true, Bool.not_false, Bool.false_eq_true, if_true, if_false, Bool.and_true, Bool.true_and, Bool.and_false, Bool.false_and, decide_eq_true_eq, Bool.not_eq_true', decide_eq_false_iff_not, frz_no _ tt_noH, take_app]
          exact h
        · simp at e
    case each =>
      rintro t ts τ S' ⟨rfl, o0, o1, o2, o3, o4, o5, v, o7, o8, o9, o10, rfl, n', a', c', m', pre', hp', ⟨q, q'⟩ | ⟨q, q'⟩⟩
      · cases q
        subst q'
        have k' := hp'.ok h0
        unfold oL
        simp only [↓k_var0, ↓k_varS, ↓k_c, ↓k_op, ↓k_op1, ↓k_op2, ↓k_un, ↓k_un1, ↓k_tOf, ↓k_b, ↓k_not, ↓k_not1, ↓k_and, ↓k_and1, ↓k_or, ↓k_or1, ↓k_eand, ↓k_eand1, ↓k_eor, ↓k_eor1, ↓k_enot, ↓k_enot1, ↓k_eif, ↓k_eif1, ↓k_chn, ↓k_chn1, ↓k_chn2, ↓k_chn3, ↓k_nil, ↓k_cons, ↓k_cons1, ↓k_cons2, ↓k_tup, ↓k_lst, ↓k_cel, ↓k_tup1, ↓k_lst1, ↓k_cel1, ↓k_call, ↓k_call1, ↓k_skip, ↓k_bk, ↓k_ct, ↓k_no, ↓k_seq, ↓k_seq1, ↓k_seq2, ↓k_seq3, ↓k_seq4, ↓k_ex, ↓k_ex1, ↓k_ret, ↓k_ret1, ↓k_if, ↓k_if1, ↓k_as, ↓k_as1, ↓k_nx, ↓k_st0, ↓k_stS, ↓k_set, ↓k_set1, ↓k_par2, ↓k_par21, ↓k_par3, ↓k_par31, ↓k_nm, ↓k_gsnil, ↓k_gscons, ↓k_gscons1, ↓k_gix, ↓k_gix1, ↓k_gix2, ↓k_gix3, ↓k_for, ↓k_for1, ↓k_isq, ↓k_isqT, ↓k_isqL, ↓k_isqS, ↓k_r1, ↓k_r11, ↓k_r21, ↓k_app, ↓k_ar0, ↓k_ar1, ↓k_gT1, ↓k_gL1, ↓k_ar2, ↓k_gT2, ↓k_gL2, ↓k_ar3, ↓k_gT3, ↓k_gL3, ↓k_ar4, ↓k_gT4, ↓k_gL4, ↓k_ar5, ↓k_gT5, ↓k_gL5, ↓k_ar6, ↓k_gT6, ↓k_gL6, ↓k_ar7, ↓k_gT7, ↓k_gL7, ↓k_add, ↓k_sub, ↓k_mul, ↓k_fdiv, ↓k_mod, ↓k_pow, ↓k_neg, ↓k_lt, ↓k_le, ↓k_gt, ↓k_ge, ↓k_eq, ↓k_ne, ↓k_eqs, ↓k_nes, ↓k_abs, ↓k_int, ↓k_intb, ↓k_boolb, ↓k_max, ↓k_min, ↓k_isi, ↓k_lenS, ↓k_lenL, ↓k_lenT, ↓k_is, ↓k_isn, ↓k_revL, ↓k_ixL, ↓k_ixT, ↓k_ixS, ↓k_at0, ↓k_at1, ↓k_at2, ↓k_at3, ↓k_en0, ↓k_enN, ↓k_enC, ↓k_fnM, ↓k_fnK, lb_0, lb_1, lb_2, lb_3, lb_4, lb_5, lb_6, lb_7, lb_8, lb_9, lb_10, lb_11, lb_12, Gv_ret, Gv_some, Gv_none, Gv_fail, ite_F, kitII, kitIB, kitBI, kitBB, FinK_rt, Fin_nx, frz_int, frz_bl, frz_non, frz_str, frz_tup, frz_lst, frzs_nil, frzs_cons, Option.map_some, Option.bind_some, Fin_rt, noH, noHs, set_app, true_and, and_true, false_and, and_false, not_true_eq_false, not_false_eq_true, Option.some.injEq, exists_eq_left, exists_eq_left', take_all, take_set, ↓reduceIte, Bool.not_true, Bool.not_false, Bool.false_eq_true, if_true, if_false, Bool.and_true, Bool.true_and, Bool.and_false, Bool.false_and, decide_eq_true_eq, Bool.not_eq_true', decide_eq_false_iff_not, gv_lift k', beq_self_eq_true]
        exact ⟨_, _, _, _, _, _, _, _, _, _, _, rfl, n', a', c', m', pre', hp', .inr ⟨rfl, rfl⟩⟩
      · subst q'
        obtain ⟨rfl, -⟩ | ⟨pre1, n1, a1, c1, m1, p1, k1, y1, z1, e, rfl, rfl, rfl, rfl⟩ := hp'.inv
        · cases q
        · subst e
          rw [List.reverse_append] at q
          cases q
          unfold oX
          simp only [↓k_var0, ↓k_varS, ↓k_c, ↓k_op, ↓k_op1, ↓k_op2, ↓k_un, ↓k_un1, ↓k_tOf, ↓k_b, ↓k_not, ↓k_not1, ↓k_and, ↓k_and1, ↓k_or, ↓k_or1, ↓k_eand, ↓k_eand1, ↓k_eor, ↓k_eor1, ↓k_enot, ↓k_enot1, ↓k_eif, ↓k_eif1, ↓k_chn, ↓k_chn1, ↓k_chn2, ↓k_chn3, ↓k_nil, ↓k_cons, ↓k_cons1, ↓k_cons2, ↓k_tup, ↓k_lst, ↓k_cel, ↓k_tup1, ↓k_lst1, ↓k_cel1, ↓k_call, ↓k_call1, ↓k_skip, ↓k_bk, ↓k_ct, ↓k_no, ↓k_seq, ↓k_seq1, ↓k_seq2, ↓k_seq3, ↓k_seq4, ↓k_ex, ↓k_ex1, ↓k_ret, ↓k_ret1, ↓k_if, ↓k_if1, ↓k_as, ↓k_as1, ↓k_nx, ↓k_st0, ↓k_stS, ↓k_set, ↓k_set1, ↓k_par2, ↓k_par21, ↓k_par3, ↓k_par31, ↓k_nm, ↓k_gsnil, ↓k_gscons, ↓k_gscons1, ↓k_gix, ↓k_gix1, ↓k_gix2, ↓k_gix3, ↓k_for, ↓k_for1, ↓k_isq, ↓k_isqT, ↓k_isqL, ↓k_isqS, ↓k_r1, ↓k_r11, ↓k_r21, ↓k_app, ↓k_ar0, ↓k_ar1, ↓k_gT1, ↓k_gL1, ↓k_ar2, ↓k_gT2, ↓k_gL2, ↓k_ar3, ↓k_gT3, ↓k_gL3, ↓k_ar4, ↓k_gT4, ↓k_gL4, ↓k_ar5, ↓k_gT5, ↓k_gL5, ↓k_ar6, ↓k_gT6, ↓k_gL6, ↓k_ar7, ↓k_gT7, ↓k_gL7, ↓k_add, ↓k_sub, ↓k_mul, ↓k_fdiv, ↓k_mod, ↓k_pow, ↓k_neg, ↓k_lt, ↓k_le, ↓k_gt, ↓k_ge, ↓k_eq, ↓k_ne, ↓k_eqs, ↓k_nes, ↓k_abs, ↓k_int, ↓k_intb, ↓k_boolb, ↓k_max, ↓k_min, ↓k_isi, ↓k_lenS, ↓k_lenL, ↓k_lenT, ↓k_is, ↓k_isn, ↓k_revL, ↓k_ixL, ↓k_ixT, ↓k_ixS, ↓k_at0, ↓k_at1, ↓k_at2, ↓k_at3, ↓k_en0, ↓k_enN, ↓k_enC, ↓k_fnM, ↓k_fnK, lb_0, lb_1, lb_2, lb_3, lb_4, lb_5, lb_6, lb_7, lb_8, lb_9, lb_10, lb_11, lb_12, Gv_ret, Gv_some, Gv_none, Gv_fail, ite_F, kitII, kitIB, kitBI, kitBB, FinK_rt, Fin_nx, frz_int, frz_bl, frz_non, frz_str, frz_tup, frz_lst, frzs_nil, frzs_cons, Option.map_some, Option.bind_some, Fin_rt, noH, noHs, set_app, true_and, and_true, false_and, and_false, not_true_eq_false, not_false_eq_true, Option.some.injEq, exists_eq_left, exists_eq_left', take_all, take_set, ↓reduceIte, Bool.not_true, Bool.not_false, Bool.false_eq_true, if_true, if_false, Bool.and_true, Bool.true_and, Bool.and_false, Bool.false_and, decide_eq_true_eq, Bool.not_eq_true', decide_eq_false_iff_not, gv_exch' k1 y1 z1, ex_ne]
          exact ⟨_, _, _, _, _, _, _, _, _, _, _, rfl, _, _, _, _, _, p1, .inl ⟨rfl, rfl⟩⟩
end Law
set_option Elab.async false
set_option linter.all false
set_option maxRecDepth 100000
set_option maxHeartbeats 4000000
/-! MBowl: the draws of the law's own text. -/
namespace Law
open PySem L2 Zm Sm
variable {S : Sto} {Q : T → Sto → Prop}
/-- cell c is a bowl -/
def Bowl (c : Nat) (n : Nat) (S : Sto) : Prop := S.length = n ∧ ∃ g s k : Int, S[c]? = some (.lst [.int g, .int s, .int k])
theorem ixN0 {n : Nat} : ixN (n + 1) 0 = some 0 := by unfold ixN; rw [if_pos (by decide), if_pos (by omega)]; rfl
theorem ixN2 {n : Nat} : ixN (n + 3) 2 = some 2 := by unfold ixN; rw [if_pos (by decide), if_pos (by omega)]; rfl
theorem take_eq {n : Nat} (h : S.length = n) : S.take n = S := by subst h; exact List.take_length
theorem mul_modL {x m y : Int} (h : 0 < m) (hm : m < 18446744073709551616) : mulOk (x % m) y = true := by
  have h1 := Int.emod_nonneg x (by omega : m ≠ 0)
  have h2 := Int.emod_lt_of_pos x h
  exact mul_okL (by show (x % m).natAbs < 18446744073709551616; omega)
theorem k_putI {c n : Nat} {i x : Int} {ts : List T} (hS : S[c]? = some (.lst ts)) (h : ixN ts.length i = some n) : Gv (putT (.hdl c) (.int i) (.int x) S) Q = Q .non (S.set c (.lst (ts.set n (.int x)))) := k_put hS h rfl
theorem gv_sip {c n : Nat} {z : Int} (h : Bowl c n S) (hz : 0 < z) (dz : divOk z = true) (q : ∀ r S', 0 ≤ r → r < z → Bowl c n S' → Q (.int r) S') :
    Gv (m_law_sip [.hdl c, .int z] S) Q := by
  obtain ⟨hn, g, s, k, e⟩ := h
  have set_l : ∀ (x : Cell), (S.set c x).length = n := fun x => by rw [List.length_set, hn]
  unfold m_law_sip
  by_cases hg : 0 < g
  · simp only [↓k_var0, ↓k_varS, ↓k_c, ↓k_op, ↓k_op1, ↓k_op2, ↓k_un, ↓k_un1, ↓k_tOf, ↓k_b, ↓k_not, ↓k_not1, ↓k_and, ↓k_and1, ↓k_or, ↓k_or1, ↓k_eand, ↓k_eand1, ↓k_eor, ↓k_eor1, ↓k_enot, ↓k_enot1, ↓k_eif, ↓k_eif1, ↓k_chn, ↓k_chn1, ↓k_chn2, ↓k_chn3, ↓k_nil, ↓k_cons, ↓k_cons1, ↓k_cons2, ↓k_tup, ↓k_lst, ↓k_cel, ↓k_tup1, ↓k_lst1, ↓k_cel1, ↓k_call, ↓k_call1, ↓k_skip, ↓k_bk, ↓k_ct, ↓k_no, ↓k_seq, ↓k_seq1, ↓k_seq2, ↓k_seq3, ↓k_seq4, ↓k_ex, ↓k_ex1, ↓k_ret, ↓k_ret1, ↓k_if, ↓k_if1, ↓k_as, ↓k_as1, ↓k_nx, ↓k_st0, ↓k_stS, ↓k_set, ↓k_set1, ↓k_par2, ↓k_par21, ↓k_par3, ↓k_par31, ↓k_nm, ↓k_gsnil, ↓k_gscons, ↓k_gscons1, ↓k_gix, ↓k_gix1, ↓k_gix2, ↓k_gix3, ↓k_for, ↓k_for1, ↓k_isq, ↓k_isqT, ↓k_isqL, ↓k_isqS, ↓k_r1, ↓k_r11, ↓k_r21, ↓k_app, ↓k_ar0, ↓k_ar1, ↓k_gT1, ↓k_gL1, ↓k_ar2, ↓k_gT2, ↓k_gL2, ↓k_ar3, ↓k_gT3, ↓k_gL3, ↓k_ar4, ↓k_gT4, ↓k_gL4, ↓k_ar5, ↓k_gT5, ↓k_gL5, ↓k_ar6, ↓k_gT6, ↓k_gL6, ↓k_ar7, ↓k_gT7, ↓k_gL7, ↓k_add, ↓k_sub, ↓k_mul, ↓k_fdiv, ↓k_mod, ↓k_pow, ↓k_neg, ↓k_lt, ↓k_le, ↓k_gt, ↓k_ge, ↓k_eq, ↓k_ne, ↓k_eqs, ↓k_nes, ↓k_abs, ↓k_int, ↓k_intb, ↓k_boolb, ↓k_max, ↓k_min, ↓k_isi, ↓k_lenS, ↓k_lenL, ↓k_lenT, ↓k_is, ↓k_isn, ↓k_revL, ↓k_ixL, ↓k_ixT, ↓k_ixS, ↓k_at0, ↓k_at1, ↓k_at2, ↓k_at3, ↓k_en0, ↓k_enN, ↓k_enC, ↓k_fnM, ↓k_fnK, lb_0, lb_1, lb_2, lb_3, lb_4, lb_5, lb_6, lb_7, lb_8, lb_9, lb_10, lb_11, lb_12, Gv_ret, Gv_some, Gv_none, Gv_fail, ite_F, kitII, kitIB, kitBI, kitBB, FinK_rt, Fin_nx, frz_int, frz_bl, frz_non, frz_str, frz_tup, frz_lst, frzs_nil, frzs_cons, Option.map_some, Option.bind_some, Fin_rt, noH, noHs, set_app, true_and, and_true, false_and, and_false, not_true_eq_false, not_false_eq_true, Option.some.injEq, exists_eq_left, exists_eq_left', take_all, take_set, ↓reduceIte, Bool.not_true, Bool.not_false, Bool.false_eq_true, if_true, if_false, Bool.and_true, Bool.true_and, Bool.and_false, Bool.false_and, decide_eq_true_eq, Bool.not_eq_true', decide_eq_false_iff_not, k_ixH e, hg, hz, dz, ↓k_putI e ixN0, List.set_cons_zero, take_eq (set_l _), hn]
    exact q _ _ (Int.emod_nonneg _ (by omega)) (Int.emod_lt_of_pos _ hz) ⟨set_l _, _, _, _, set_get e⟩
  · simp only [↓k_var0, ↓k_varS, ↓k_c, ↓k_op, ↓k_op1, ↓k_op2, ↓k_un, ↓k_un1, ↓k_tOf, ↓k_b, ↓k_not, ↓k_not1, ↓k_and, ↓k_and1, ↓k_or, ↓k_or1, ↓k_eand, ↓k_eand1, ↓k_eor, ↓k_eor1, ↓k_enot, ↓k_enot1, ↓k_eif, ↓k_eif1, ↓k_chn, ↓k_chn1, ↓k_chn2, ↓k_chn3, ↓k_nil, ↓k_cons, ↓k_cons1, ↓k_cons2, ↓k_tup, ↓k_lst, ↓k_cel, ↓k_tup1, ↓k_lst1, ↓k_cel1, ↓k_call, ↓k_call1, ↓k_skip, ↓k_bk, ↓k_ct, ↓k_no, ↓k_seq, ↓k_seq1, ↓k_seq2, ↓k_seq3, ↓k_seq4, ↓k_ex, ↓k_ex1, ↓k_ret, ↓k_ret1, ↓k_if, ↓k_if1, ↓k_as, ↓k_as1, ↓k_nx, ↓k_st0, ↓k_stS, ↓k_set, ↓k_set1, ↓k_par2, ↓k_par21, ↓k_par3, ↓k_par31, ↓k_nm, ↓k_gsnil, ↓k_gscons, ↓k_gscons1, ↓k_gix, ↓k_gix1, ↓k_gix2, ↓k_gix3, ↓k_for, ↓k_for1, ↓k_isq, ↓k_isqT, ↓k_isqL, ↓k_isqS, ↓k_r1, ↓k_r11, ↓k_r21, ↓k_app, ↓k_ar0, ↓k_ar1, ↓k_gT1, ↓k_gL1, ↓k_ar2, ↓k_gT2, ↓k_gL2, ↓k_ar3, ↓k_gT3, ↓k_gL3, ↓k_ar4, ↓k_gT4, ↓k_gL4, ↓k_ar5, ↓k_gT5, ↓k_gL5, ↓k_ar6, ↓k_gT6, ↓k_gL6, ↓k_ar7, ↓k_gT7, ↓k_gL7, ↓k_add, ↓k_sub, ↓k_mul, ↓k_fdiv, ↓k_mod, ↓k_pow, ↓k_neg, ↓k_lt, ↓k_le, ↓k_gt, ↓k_ge, ↓k_eq, ↓k_ne, ↓k_eqs, ↓k_nes, ↓k_abs, ↓k_int, ↓k_intb, ↓k_boolb, ↓k_max, ↓k_min, ↓k_isi, ↓k_lenS, ↓k_lenL, ↓k_lenT, ↓k_is, ↓k_isn, ↓k_revL, ↓k_ixL, ↓k_ixT, ↓k_ixS, ↓k_at0, ↓k_at1, ↓k_at2, ↓k_at3, ↓k_en0, ↓k_enN, ↓k_enC, ↓k_fnM, ↓k_fnK, lb_0, lb_1, lb_2, lb_3, lb_4, lb_5, lb_6, lb_7, lb_8, lb_9, lb_10, lb_11, lb_12, Gv_ret, Gv_some, Gv_none, Gv_fail, ite_F, kitII, kitIB, kitBI, kitBB, FinK_rt, Fin_nx, frz_int, frz_bl, frz_non, frz_str, frz_tup, frz_lst, frzs_nil, frzs_cons, Option.map_some, Option.bind_some, Fin_rt, noH, noHs, set_app, true_and, and_true, false_and, and_false, not_true_eq_false, not_false_eq_true, Option.some.injEq, exists_eq_left, exists_eq_left', take_all, take_set, ↓reduceIte, Bool.not_true, Bool.not_false, Bool.false_eq_true, if_true, if_false, Bool.and_true, Bool.true_and, Bool.and_false, Bool.false_and, decide_eq_true_eq, Bool.not_eq_true', decide_eq_false_iff_not, k_ixH e, k_ixH (set_get e), hg, hz, dz, ↓k_putI e ixN2, List.set_cons_zero, List.set_cons_succ, take_eq (set_l _), hn]
    exact ⟨mul_okL (by decide), by decide, mul_modL (by decide) (by decide), by decide, mul_okL (by decide), by decide, mul_modL (by decide) (by decide), by decide, by decide,
      q _ _ (Int.emod_nonneg _ (by omega)) (Int.emod_lt_of_pos _ hz) ⟨set_l _, _, _, _, set_get e⟩⟩
theorem pow_pos' {x : Int} (h : 1 ≤ x) (a : Nat) : 1 ≤ x ^ a := by
  induction a with
  | zero => rw [Int.pow_zero]; exact Int.le_refl 1
  | succ a ih =>
    rw [Int.pow_succ]
    have := Int.mul_le_mul ih h (by decide) (by omega)
    omega
theorem pow_le {x : Int} (h : 1 ≤ x) {a b : Nat} (e : a ≤ b) : x ^ a ≤ x ^ b := by
  obtain ⟨d, rfl⟩ := Nat.exists_eq_add_of_le e
  rw [Int.pow_add]
  have := Int.mul_le_mul_of_nonneg_left (pow_pos' h d) (show 0 ≤ x ^ a by have := pow_pos' h a; omega)
  omega
theorem in62_ok {j : Int} (h : -1000000000000000000 < j) (k : j < 1000000000000000000) : in62 j = true := by
  unfold in62
  simp
  omega
theorem take_len {a b : Sto} (h : b.length = a.length) : b.take a.length = b := by rw [← h]; exact List.take_length
/-- the numbers that so many draws can give -/
theorem gv_great {c n : Nat} {z : Int} (h : Bowl c n S) (hz : 0 < z) (h9 : z < 1000) (q : ∀ r S', 0 ≤ r → r < 1000000 ^ z.toNat → Bowl c n S' → Q (.int r) S') :
    Gv (m_law_great [.hdl c, .int z] S) Q := by
  unfold m_law_great
  have dz : divOk z = true := div_ok (k := 10) hz (by show z.natAbs < 1024; omega) (by decide)
  simp only [↓k_var0, ↓k_varS, ↓k_c, ↓k_op, ↓k_op1, ↓k_op2, ↓k_un, ↓k_un1, ↓k_tOf, ↓k_b, ↓k_not, ↓k_not1, ↓k_and, ↓k_and1, ↓k_or, ↓k_or1, ↓k_eand, ↓k_eand1, ↓k_eor, ↓k_eor1, ↓k_enot, ↓k_enot1, ↓k_eif, ↓k_eif1, ↓k_chn, ↓k_chn1, ↓k_chn2, ↓k_chn3, ↓k_nil, ↓k_cons, ↓k_cons1, ↓k_cons2, ↓k_tup, ↓k_lst, ↓k_cel, ↓k_tup1, ↓k_lst1, ↓k_cel1, ↓k_call, ↓k_call1, ↓k_skip, ↓k_bk, ↓k_ct, ↓k_no, ↓k_seq, ↓k_seq1, ↓k_seq2, ↓k_seq3, ↓k_seq4, ↓k_ex, ↓k_ex1, ↓k_ret, ↓k_ret1, ↓k_if, ↓k_if1, ↓k_as, ↓k_as1, ↓k_nx, ↓k_st0, ↓k_stS, ↓k_set, ↓k_set1, ↓k_par2, ↓k_par21, ↓k_par3, ↓k_par31, ↓k_nm, ↓k_gsnil, ↓k_gscons, ↓k_gscons1, ↓k_gix, ↓k_gix1, ↓k_gix2, ↓k_gix3, ↓k_for, ↓k_for1, ↓k_isq, ↓k_isqT, ↓k_isqL, ↓k_isqS, ↓k_r1, ↓k_r11, ↓k_r21, ↓k_app, ↓k_ar0, ↓k_ar1, ↓k_gT1, ↓k_gL1, ↓k_ar2, ↓k_gT2, ↓k_gL2, ↓k_ar3, ↓k_gT3, ↓k_gL3, ↓k_ar4, ↓k_gT4, ↓k_gL4, ↓k_ar5, ↓k_gT5, ↓k_gL5, ↓k_ar6, ↓k_gT6, ↓k_gL6, ↓k_ar7, ↓k_gT7, ↓k_gL7, ↓k_add, ↓k_sub, ↓k_mul, ↓k_fdiv, ↓k_mod, ↓k_pow, ↓k_neg, ↓k_lt, ↓k_le, ↓k_gt, ↓k_ge, ↓k_eq, ↓k_ne, ↓k_eqs, ↓k_nes, ↓k_abs, ↓k_int, ↓k_intb, ↓k_boolb, ↓k_max, ↓k_min, ↓k_isi, ↓k_lenS, ↓k_lenL, ↓k_lenT, ↓k_is, ↓k_isn, ↓k_revL, ↓k_ixL, ↓k_ixT, ↓k_ixS, ↓k_at0, ↓k_at1, ↓k_at2, ↓k_at3, ↓k_en0, ↓k_enN, ↓k_enC, ↓k_fnM, ↓k_fnK, lb_0, lb_1, lb_2, lb_3, lb_4, lb_5, lb_6, lb_7, lb_8, lb_9, lb_10, lb_11, lb_12, Gv_ret, Gv_some, Gv_none, Gv_fail, ite_F, kitII, kitIB, kitBI, kitBB, FinK_rt, Fin_nx, frz_int, frz_bl, frz_non, frz_str, frz_tup, frz_lst, frzs_nil, frzs_cons, Option.map_some, Option.bind_some, Fin_rt, noH, noHs, set_app, true_and, and_true, false_and, and_false, not_true_eq_false, not_false_eq_true, Option.some.injEq, exists_eq_left, exists_eq_left', take_all, take_set, ↓reduceIte, Bool.not_true, Bool.not_false, Bool.false_eq_true, if_true, if_false, Bool.and_true, Bool.true_and, Bool.and_false, Bool.false_and, decide_eq_true_eq, Bool.not_eq_true', decide_eq_false_iff_not]
  refine gv_sip h hz dz fun r S1 h0 h1 hb => ?_
  simp only [↓k_var0, ↓k_varS, ↓k_c, ↓k_op, ↓k_op1, ↓k_op2, ↓k_un, ↓k_un1, ↓k_tOf, ↓k_b, ↓k_not, ↓k_not1, ↓k_and, ↓k_and1, ↓k_or, ↓k_or1, ↓k_eand, ↓k_eand1, ↓k_eor, ↓k_eor1, ↓k_enot, ↓k_enot1, ↓k_eif, ↓k_eif1, ↓k_chn, ↓k_chn1, ↓k_chn2, ↓k_chn3, ↓k_nil, ↓k_cons, ↓k_cons1, ↓k_cons2, ↓k_tup, ↓k_lst, ↓k_cel, ↓k_tup1, ↓k_lst1, ↓k_cel1, ↓k_call, ↓k_call1, ↓k_skip, ↓k_bk, ↓k_ct, ↓k_no, ↓k_seq, ↓k_seq1, ↓k_seq2, ↓k_seq3, ↓k_seq4, ↓k_ex, ↓k_ex1, ↓k_ret, ↓k_ret1, ↓k_if, ↓k_if1, ↓k_as, ↓k_as1, ↓k_nx, ↓k_st0, ↓k_stS, ↓k_set, ↓k_set1, ↓k_par2, ↓k_par21, ↓k_par3, ↓k_par31, ↓k_nm, ↓k_gsnil, ↓k_gscons, ↓k_gscons1, ↓k_gix, ↓k_gix1, ↓k_gix2, ↓k_gix3, ↓k_for, ↓k_for1, ↓k_isq, ↓k_isqT, ↓k_isqL, ↓k_isqS, ↓k_r1, ↓k_r11, ↓k_r21, ↓k_app, ↓k_ar0, ↓k_ar1, ↓k_gT1, ↓k_gL1, ↓k_ar2, ↓k_gT2, ↓k_gL2, ↓k_ar3, ↓k_gT3, ↓k_gL3, ↓k_ar4, ↓k_gT4, ↓k_gL4, ↓k_ar5, ↓k_gT5, ↓k_gL5, ↓k_ar6, ↓k_gT6, ↓k_gL6, ↓k_ar7, ↓k_gT7, ↓k_gL7, ↓k_add, ↓k_sub, ↓k_mul, ↓k_fdiv, ↓k_mod, ↓k_pow, ↓k_neg, ↓k_lt, ↓k_le, ↓k_gt, ↓k_ge, ↓k_eq, ↓k_ne, ↓k_eqs, ↓k_nes, ↓k_abs, ↓k_int, ↓k_intb, ↓k_boolb, ↓k_max, ↓k_min, ↓k_isi, ↓k_lenS, ↓k_lenL, ↓k_lenT, ↓k_is, ↓k_isn, ↓k_revL, ↓k_ixL, ↓k_ixT, ↓k_ixS, ↓k_at0, ↓k_at1, ↓k_at2, ↓k_at3, ↓k_en0, ↓k_enN, ↓k_enC, ↓k_fnM, ↓k_fnK, lb_0, lb_1, lb_2, lb_3, lb_4, lb_5, lb_6, lb_7, lb_8, lb_9, lb_10, lb_11, lb_12, Gv_ret, Gv_some, Gv_none, Gv_fail, ite_F, kitII, kitIB, kitBI, kitBB, FinK_rt, Fin_nx, frz_int, frz_bl, frz_non, frz_str, frz_tup, frz_lst, frzs_nil, frzs_cons, Option.map_some, Option.bind_some, Fin_rt, noH, noHs, set_app, true_and, and_true, false_and, and_false, not_true_eq_false, not_false_eq_true, Option.some.injEq, exists_eq_left, exists_eq_left', take_all, take_set, ↓reduceIte, Bool.not_true, Bool.not_false, Bool.false_eq_true, if_true, if_false, Bool.and_true, Bool.true_and, Bool.and_false, Bool.false_and, decide_eq_true_eq, Bool.not_eq_true', decide_eq_false_iff_not]
  refine ⟨?_, ?_⟩
  · exact in62_ok (by omega) (by omega)
  have e : (1 + r).toNat ≤ z.toNat := by omega
  refine Gv_rng (fun i τ S' => Bowl c n S' ∧ ∃ x o3, τ = [some (.hdl c), some (.int z), some (.int x), o3] ∧ 0 ≤ x ∧ x < 1000000 ^ i) ⟨hb, 0, none, rfl, Int.le_refl _, by decide⟩ ?turn ?done
  case turn =>
    rintro i τ S' hi ⟨hb, x, o3, rfl, x0, x1⟩
    simp only [↓k_var0, ↓k_varS, ↓k_c, ↓k_op, ↓k_op1, ↓k_op2, ↓k_un, ↓k_un1, ↓k_tOf, ↓k_b, ↓k_not, ↓k_not1, ↓k_and, ↓k_and1, ↓k_or, ↓k_or1, ↓k_eand, ↓k_eand1, ↓k_eor, ↓k_eor1, ↓k_enot, ↓k_enot1, ↓k_eif, ↓k_eif1, ↓k_chn, ↓k_chn1, ↓k_chn2, ↓k_chn3, ↓k_nil, ↓k_cons, ↓k_cons1, ↓k_cons2, ↓k_tup, ↓k_lst, ↓k_cel, ↓k_tup1, ↓k_lst1, ↓k_cel1, ↓k_call, ↓k_call1, ↓k_skip, ↓k_bk, ↓k_ct, ↓k_no, ↓k_seq, ↓k_seq1, ↓k_seq2, ↓k_seq3, ↓k_seq4, ↓k_ex, ↓k_ex1, ↓k_ret, ↓k_ret1, ↓k_if, ↓k_if1, ↓k_as, ↓k_as1, ↓k_nx, ↓k_st0, ↓k_stS, ↓k_set, ↓k_set1, ↓k_par2, ↓k_par21, ↓k_par3, ↓k_par31, ↓k_nm, ↓k_gsnil, ↓k_gscons, ↓k_gscons1, ↓k_gix, ↓k_gix1, ↓k_gix2, ↓k_gix3, ↓k_for, ↓k_for1, ↓k_isq, ↓k_isqT, ↓k_isqL, ↓k_isqS, ↓k_r1, ↓k_r11, ↓k_r21, ↓k_app, ↓k_ar0, ↓k_ar1, ↓k_gT1, ↓k_gL1, ↓k_ar2, ↓k_gT2, ↓k_gL2, ↓k_ar3, ↓k_gT3, ↓k_gL3, ↓k_ar4, ↓k_gT4, ↓k_gL4, ↓k_ar5, ↓k_gT5, ↓k_gL5, ↓k_ar6, ↓k_gT6, ↓k_gL6, ↓k_ar7, ↓k_gT7, ↓k_gL7, ↓k_add, ↓k_sub, ↓k_mul, ↓k_fdiv, ↓k_mod, ↓k_pow, ↓k_neg, ↓k_lt, ↓k_le, ↓k_gt, ↓k_ge, ↓k_eq, ↓k_ne, ↓k_eqs, ↓k_nes, ↓k_abs, ↓k_int, ↓k_intb, ↓k_boolb, ↓k_max, ↓k_min, ↓k_isi, ↓k_lenS, ↓k_lenL, ↓k_lenT, ↓k_is, ↓k_isn, ↓k_revL, ↓k_ixL, ↓k_ixT, ↓k_ixS, ↓k_at0, ↓k_at1, ↓k_at2, ↓k_at3, ↓k_en0, ↓k_enN, ↓k_enC, ↓k_fnM, ↓k_fnK, lb_0, lb_1, lb_2, lb_3, lb_4, lb_5, lb_6, lb_7, lb_8, lb_9, lb_10, lb_11, lb_12, Gv_ret, Gv_some, Gv_none, Gv_fail, ite_F, kitII, kitIB, kitBI, kitBB, FinK_rt, Fin_nx, frz_int, frz_bl, frz_non, frz_str, frz_tup, frz_lst, frzs_nil, frzs_cons, Option.map_some, Option.bind_some, Fin_rt, noH, noHs, set_app, true_and, and_true, false_and, and_false, not_true_eq_false, not_false_eq_true, Option.some.injEq, exists_eq_left, exists_eq_left', take_all, take_set, ↓reduceIte, Bool.not_true, Bool.not_false, Bool.false_eq_true, if_true, if_false, Bool.and_true, Bool.true_and, Bool.and_false, Bool.false_and, decide_eq_true_eq, Bool.not_eq_true', decide_eq_false_iff_not, mul_okR (x := x) (y := 1000000) (by decide)]
    refine gv_sip hb (by decide) (by decide) fun r S2 h0 h1 hb => ?_
    simp only [↓k_var0, ↓k_varS, ↓k_c, ↓k_op, ↓k_op1, ↓k_op2, ↓k_un, ↓k_un1, ↓k_tOf, ↓k_b, ↓k_not, ↓k_not1, ↓k_and, ↓k_and1, ↓k_or, ↓k_or1, ↓k_eand, ↓k_eand1, ↓k_eor, ↓k_eor1, ↓k_enot, ↓k_enot1, ↓k_eif, ↓k_eif1, ↓k_chn, ↓k_chn1, ↓k_chn2, ↓k_chn3, ↓k_nil, ↓k_cons, ↓k_cons1, ↓k_cons2, ↓k_tup, ↓k_lst, ↓k_cel, ↓k_tup1, ↓k_lst1, ↓k_cel1, ↓k_call, ↓k_call1, ↓k_skip, ↓k_bk, ↓k_ct, ↓k_no, ↓k_seq, ↓k_seq1, ↓k_seq2, ↓k_seq3, ↓k_seq4, ↓k_ex, ↓k_ex1, ↓k_ret, ↓k_ret1, ↓k_if, ↓k_if1, ↓k_as, ↓k_as1, ↓k_nx, ↓k_st0, ↓k_stS, ↓k_set, ↓k_set1, ↓k_par2, ↓k_par21, ↓k_par3, ↓k_par31, ↓k_nm, ↓k_gsnil, ↓k_gscons, ↓k_gscons1, ↓k_gix, ↓k_gix1, ↓k_gix2, ↓k_gix3, ↓k_for, ↓k_for1, ↓k_isq, ↓k_isqT, ↓k_isqL, ↓k_isqS, ↓k_r1, ↓k_r11, ↓k_r21, ↓k_app, ↓k_ar0, ↓k_ar1, ↓k_gT1, ↓k_gL1, ↓k_ar2, ↓k_gT2, ↓k_gL2, ↓k_ar3, ↓k_gT3, ↓k_gL3, ↓k_ar4, ↓k_gT4, ↓k_gL4, ↓k_ar5, ↓k_gT5, ↓k_gL5, ↓k_ar6, ↓k_gT6, ↓k_gL6, ↓k_ar7, ↓k_gT7, ↓k_gL7, ↓k_add, ↓k_sub, ↓k_mul, ↓k_fdiv, ↓k_mod, ↓k_pow, ↓k_neg, ↓k_lt, ↓k_le, ↓k_gt, ↓k_ge, ↓k_eq, ↓k_ne, ↓k_eqs, ↓k_nes, ↓k_abs, ↓k_int, ↓k_intb, ↓k_boolb, ↓k_max, ↓k_min, ↓k_isi, ↓k_lenS, ↓k_lenL, ↓k_lenT, ↓k_is, ↓k_isn, ↓k_revL, ↓k_ixL, ↓k_ixT, ↓k_ixS, ↓k_at0, ↓k_at1, ↓k_at2, ↓k_at3, ↓k_en0, ↓k_enN, ↓k_enC, ↓k_fnM, ↓k_fnK, lb_0, lb_1, lb_2, lb_3, lb_4, lb_5, lb_6, lb_7, lb_8, lb_9, lb_10, lb_11, lb_12, Gv_ret, Gv_some, Gv_none, Gv_fail, ite_F, kitII, kitIB, kitBI, kitBB, FinK_rt, Fin_nx, frz_int, frz_bl, frz_non, frz_str, frz_tup, frz_lst, frzs_nil, frzs_cons, Option.map_some, Option.bind_some, Fin_rt, noH, noHs, set_app, true_and, and_true, false_and, and_false, not_true_eq_false, not_false_eq_true, Option.some.injEq, exists_eq_left, exists_eq_left', take_all, take_set, ↓reduceIte, Bool.not_true, Bool.not_false, Bool.false_eq_true, if_true, if_false, Bool.and_true, Bool.true_and, Bool.and_false, Bool.false_and, decide_eq_true_eq, Bool.not_eq_true', decide_eq_false_iff_not]
    refine ⟨hb, _, _, rfl, by omega, ?_⟩
    rw [Int.pow_succ]
    omega
  case done =>
    rintro τ S' ⟨hb, x, o3, rfl, x0, x1⟩
    simp only [↓k_var0, ↓k_varS, ↓k_c, ↓k_op, ↓k_op1, ↓k_op2, ↓k_un, ↓k_un1, ↓k_tOf, ↓k_b, ↓k_not, ↓k_not1, ↓k_and, ↓k_and1, ↓k_or, ↓k_or1, ↓k_eand, ↓k_eand1, ↓k_eor, ↓k_eor1, ↓k_enot, ↓k_enot1, ↓k_eif, ↓k_eif1, ↓k_chn, ↓k_chn1, ↓k_chn2, ↓k_chn3, ↓k_nil, ↓k_cons, ↓k_cons1, ↓k_cons2, ↓k_tup, ↓k_lst, ↓k_cel, ↓k_tup1, ↓k_lst1, ↓k_cel1, ↓k_call, ↓k_call1, ↓k_skip, ↓k_bk, ↓k_ct, ↓k_no, ↓k_seq, ↓k_seq1, ↓k_seq2, ↓k_seq3, ↓k_seq4, ↓k_ex, ↓k_ex1, ↓k_ret, ↓k_ret1, ↓k_if, ↓k_if1, ↓k_as, ↓k_as1, ↓k_nx, ↓k_st0, ↓k_stS, ↓k_set, ↓k_set1, ↓k_par2, ↓k_par21, ↓k_par3, ↓k_par31, ↓k_nm, ↓k_gsnil, ↓k_gscons, ↓k_gscons1, ↓k_gix, ↓k_gix1, ↓k_gix2, ↓k_gix3, ↓k_for, ↓k_for1, ↓k_isq, ↓k_isqT, ↓k_isqL, ↓k_isqS, ↓k_r1, ↓k_r11, ↓k_r21, ↓k_app, ↓k_ar0, ↓k_ar1, ↓k_gT1, ↓k_gL1, ↓k_ar2, ↓k_gT2, ↓k_gL2, ↓k_ar3, ↓k_gT3, ↓k_gL3, ↓k_ar4, ↓k_gT4, ↓k_gL4, ↓k_ar5, ↓k_gT5, ↓k_gL5, ↓k_ar6, ↓k_gT6, ↓k_gL6, ↓k_ar7, ↓k_gT7, ↓k_gL7, ↓k_add, ↓k_sub, ↓k_mul, ↓k_fdiv, ↓k_mod, ↓k_pow, ↓k_neg, ↓k_lt, ↓k_le, ↓k_gt, ↓k_ge, ↓k_eq, ↓k_ne, ↓k_eqs, ↓k_nes, ↓k_abs, ↓k_int, ↓k_intb, ↓k_boolb, ↓k_max, ↓k_min, ↓k_isi, ↓k_lenS, ↓k_lenL, ↓k_lenT, ↓k_is, ↓k_isn, ↓k_revL, ↓k_ixL, ↓k_ixT, ↓k_ixS, ↓k_at0, ↓k_at1, ↓k_at2, ↓k_at3, ↓k_en0, ↓k_enN, ↓k_enC, ↓k_fnM, ↓k_fnK, lb_0, lb_1, lb_2, lb_3, lb_4, lb_5, lb_6, lb_7, lb_8, lb_9, lb_10, lb_11, lb_12, Gv_ret, Gv_some, Gv_none, Gv_fail, ite_F, kitII, kitIB, kitBI, kitBB, FinK_rt, Fin_nx, frz_int, frz_bl, frz_non, frz_str, frz_tup, frz_lst, frzs_nil, frzs_cons, Option.map_some, Option.bind_some, Fin_rt, noH, noHs, set_app, true_and, and_true, false_and, and_false, not_true_eq_false, not_false_eq_true, Option.some.injEq, exists_eq_left, exists_eq_left', take_all, take_set, ↓reduceIte, Bool.not_true, Bool.not_false, Bool.false_eq_true, if_true, if_false, Bool.and_true, Bool.true_and, Bool.and_false, Bool.false_and, decide_eq_true_eq, Bool.not_eq_true', decide_eq_false_iff_not, take_len (hb.1.trans h.1.symm)]
    refine q _ _ x0 (Int.lt_of_lt_of_le x1 ?_) hb
    exact pow_le (by decide) e
/-- the bowl of a cell -/
theorem gv_bowl {ns : List Int} {i : Int} (h0 : 0 ≤ i) (hi : i < 5) (q : ∀ S', Bowl S.length (S.length + 1) S' → Q (.hdl S.length) S') :
    Gv (m_law_bowl [.scr (ns.map T.int), .int i] S) Q := by
  unfold m_law_bowl
  have fin : ∀ x y z : Int, Q (.hdl S.length) (S ++ [.lst [.int x, .int y, .int z]]) := fun x y z => q _ ⟨by simp, x, y, z, get_app⟩
  simp only [↓k_var0, ↓k_varS, ↓k_c, ↓k_op, ↓k_op1, ↓k_op2, ↓k_un, ↓k_un1, ↓k_tOf, ↓k_b, ↓k_not, ↓k_not1, ↓k_and, ↓k_and1, ↓k_or, ↓k_or1, ↓k_eand, ↓k_eand1, ↓k_eor, ↓k_eor1, ↓k_enot, ↓k_enot1, ↓k_eif, ↓k_eif1, ↓k_chn, ↓k_chn1, ↓k_chn2, ↓k_chn3, ↓k_nil, ↓k_cons, ↓k_cons1, ↓k_cons2, ↓k_tup, ↓k_lst, ↓k_cel, ↓k_tup1, ↓k_lst1, ↓k_cel1, ↓k_call, ↓k_call1, ↓k_skip, ↓k_bk, ↓k_ct, ↓k_no, ↓k_seq, ↓k_seq1, ↓k_seq2, ↓k_seq3, ↓k_seq4, ↓k_ex, ↓k_ex1, ↓k_ret, ↓k_ret1, ↓k_if, ↓k_if1, ↓k_as, ↓k_as1, ↓k_nx, ↓k_st0, ↓k_stS, ↓k_set, ↓k_set1, ↓k_par2, ↓k_par21, ↓k_par3, ↓k_par31, ↓k_nm, ↓k_gsnil, ↓k_gscons, ↓k_gscons1, ↓k_gix, ↓k_gix1, ↓k_gix2, ↓k_gix3, ↓k_for, ↓k_for1, ↓k_isq, ↓k_isqT, ↓k_isqL, ↓k_isqS, ↓k_r1, ↓k_r11, ↓k_r21, ↓k_app, ↓k_ar0, ↓k_ar1, ↓k_gT1, ↓k_gL1, ↓k_ar2, ↓k_gT2, ↓k_gL2, ↓k_ar3, ↓k_gT3, ↓k_gL3, ↓k_ar4, ↓k_gT4, ↓k_gL4, ↓k_ar5, ↓k_gT5, ↓k_gL5, ↓k_ar6, ↓k_gT6, ↓k_gL6, ↓k_ar7, ↓k_gT7, ↓k_gL7, ↓k_add, ↓k_sub, ↓k_mul, ↓k_fdiv, ↓k_mod, ↓k_pow, ↓k_neg, ↓k_lt, ↓k_le, ↓k_gt, ↓k_ge, ↓k_eq, ↓k_ne, ↓k_eqs, ↓k_nes, ↓k_abs, ↓k_int, ↓k_intb, ↓k_boolb, ↓k_max, ↓k_min, ↓k_isi, ↓k_lenS, ↓k_lenL, ↓k_lenT, ↓k_is, ↓k_isn, ↓k_revL, ↓k_ixL, ↓k_ixT, ↓k_ixS, ↓k_at0, ↓k_at1, ↓k_at2, ↓k_at3, ↓k_en0, ↓k_enN, ↓k_enC, ↓k_fnM, ↓k_fnK, lb_0, lb_1, lb_2, lb_3, lb_4, lb_5, lb_6, lb_7, lb_8, lb_9, lb_10, lb_11, lb_12, Gv_ret, Gv_some, Gv_none, Gv_fail, ite_F, kitII, kitIB, kitBI, kitBB, FinK_rt, Fin_nx, frz_int, frz_bl, frz_non, frz_str, frz_tup, frz_lst, frzs_nil, frzs_cons, Option.map_some, Option.bind_some, Fin_rt, noH, noHs, set_app, true_and, and_true, false_and, and_false, not_true_eq_false, not_false_eq_true, Option.some.injEq, exists_eq_left, exists_eq_left', take_all, take_set, ↓reduceIte, Bool.not_true, Bool.not_false, Bool.false_eq_true, if_true, if_false, Bool.and_true, Bool.true_and, Bool.and_false, Bool.false_and, decide_eq_true_eq, Bool.not_eq_true', decide_eq_false_iff_not]
  by_cases hl : i < ((ns.map T.int).length : Int)
  · obtain ⟨v, hv⟩ : ∃ v : Int, atI (ns.map T.int) i = some (.int v) := by
      rw [atI_ge (k := i.toNat) (by omega), List.getElem?_map]
      rw [List.length_map] at hl
      exact ⟨_, by rw [List.getElem?_eq_getElem (show i.toNat < ns.length by omega)]; rfl⟩
    simp only [↓k_var0, ↓k_varS, ↓k_c, ↓k_op, ↓k_op1, ↓k_op2, ↓k_un, ↓k_un1, ↓k_tOf, ↓k_b, ↓k_not, ↓k_not1, ↓k_and, ↓k_and1, ↓k_or, ↓k_or1, ↓k_eand, ↓k_eand1, ↓k_eor, ↓k_eor1, ↓k_enot, ↓k_enot1, ↓k_eif, ↓k_eif1, ↓k_chn, ↓k_chn1, ↓k_chn2, ↓k_chn3, ↓k_nil, ↓k_cons, ↓k_cons1, ↓k_cons2, ↓k_tup, ↓k_lst, ↓k_cel, ↓k_tup1, ↓k_lst1, ↓k_cel1, ↓k_call, ↓k_call1, ↓k_skip, ↓k_bk, ↓k_ct, ↓k_no, ↓k_seq, ↓k_seq1, ↓k_seq2, ↓k_seq3, ↓k_seq4, ↓k_ex, ↓k_ex1, ↓k_ret, ↓k_ret1, ↓k_if, ↓k_if1, ↓k_as, ↓k_as1, ↓k_nx, ↓k_st0, ↓k_stS, ↓k_set, ↓k_set1, ↓k_par2, ↓k_par21, ↓k_par3, ↓k_par31, ↓k_nm, ↓k_gsnil, ↓k_gscons, ↓k_gscons1, ↓k_gix, ↓k_gix1, ↓k_gix2, ↓k_gix3, ↓k_for, ↓k_for1, ↓k_isq, ↓k_isqT, ↓k_isqL, ↓k_isqS, ↓k_r1, ↓k_r11, ↓k_r21, ↓k_app, ↓k_ar0, ↓k_ar1, ↓k_gT1, ↓k_gL1, ↓k_ar2, ↓k_gT2, ↓k_gL2, ↓k_ar3, ↓k_gT3, ↓k_gL3, ↓k_ar4, ↓k_gT4, ↓k_gL4, ↓k_ar5, ↓k_gT5, ↓k_gL5, ↓k_ar6, ↓k_gT6, ↓k_gL6, ↓k_ar7, ↓k_gT7, ↓k_gL7, ↓k_add, ↓k_sub, ↓k_mul, ↓k_fdiv, ↓k_mod, ↓k_pow, ↓k_neg, ↓k_lt, ↓k_le, ↓k_gt, ↓k_ge, ↓k_eq, ↓k_ne, ↓k_eqs, ↓k_nes, ↓k_abs, ↓k_int, ↓k_intb, ↓k_boolb, ↓k_max, ↓k_min, ↓k_isi, ↓k_lenS, ↓k_lenL, ↓k_lenT, ↓k_is, ↓k_isn, ↓k_revL, ↓k_ixL, ↓k_ixT, ↓k_ixS, ↓k_at0, ↓k_at1, ↓k_at2, ↓k_at3, ↓k_en0, ↓k_enN, ↓k_enC, ↓k_fnM, ↓k_fnK, lb_0, lb_1, lb_2, lb_3, lb_4, lb_5, lb_6, lb_7, lb_8, lb_9, lb_10, lb_11, lb_12, Gv_ret, Gv_some, Gv_none, Gv_fail, ite_F, kitII, kitIB, kitBI, kitBB, FinK_rt, Fin_nx, frz_int, frz_bl, frz_non, frz_str, frz_tup, frz_lst, frzs_nil, frzs_cons, Option.map_some, Option.bind_some, Fin_rt, noH, noHs, set_app, true_and, and_true, false_and, and_false, not_true_eq_false, not_false_eq_true, Option.some.injEq, exists_eq_left, exists_eq_left', take_all, take_set, ↓reduceIte, Bool.not_true, Bool.not_false, Bool.false_eq_true, if_true, if_false, Bool.and_true, Bool.true_and, Bool.and_false, Bool.false_and, decide_eq_true_eq, Bool.not_eq_true', decide_eq_false_iff_not, hl, k_at hv]
    (repeat' (first | assumption | exact mul_okL (by decide) | exact mul_okR (by decide) | decide | split | refine And.intro ?_ ?_ | apply fin))
  · simp only [↓k_var0, ↓k_varS, ↓k_c, ↓k_op, ↓k_op1, ↓k_op2, ↓k_un, ↓k_un1, ↓k_tOf, ↓k_b, ↓k_not, ↓k_not1, ↓k_and, ↓k_and1, ↓k_or, ↓k_or1, ↓k_eand, ↓k_eand1, ↓k_eor, ↓k_eor1, ↓k_enot, ↓k_enot1, ↓k_eif, ↓k_eif1, ↓k_chn, ↓k_chn1, ↓k_chn2, ↓k_chn3, ↓k_nil, ↓k_cons, ↓k_cons1, ↓k_cons2, ↓k_tup, ↓k_lst, ↓k_cel, ↓k_tup1, ↓k_lst1, ↓k_cel1, ↓k_call, ↓k_call1, ↓k_skip, ↓k_bk, ↓k_ct, ↓k_no, ↓k_seq, ↓k_seq1, ↓k_seq2, ↓k_seq3, ↓k_seq4, ↓k_ex, ↓k_ex1, ↓k_ret, ↓k_ret1, ↓k_if, ↓k_if1, ↓k_as, ↓k_as1, ↓k_nx, ↓k_st0, ↓k_stS, ↓k_set, ↓k_set1, ↓k_par2, ↓k_par21, ↓k_par3, ↓k_par31, ↓k_nm, ↓k_gsnil, ↓k_gscons, ↓k_gscons1, ↓k_gix, ↓k_gix1, ↓k_gix2, ↓k_gix3, ↓k_for, ↓k_for1, ↓k_isq, ↓k_isqT, ↓k_isqL, ↓k_isqS, ↓k_r1, ↓k_r11, ↓k_r21, ↓k_app, ↓k_ar0, ↓k_ar1, ↓k_gT1, ↓k_gL1, ↓k_ar2, ↓k_gT2, ↓k_gL2, ↓k_ar3, ↓k_gT3, ↓k_gL3, ↓k_ar4, ↓k_gT4, ↓k_gL4, ↓k_ar5, ↓k_gT5, ↓k_gL5, ↓k_ar6, ↓k_gT6, ↓k_gL6, ↓k_ar7, ↓k_gT7, ↓k_gL7, ↓k_add, ↓k_sub, ↓k_mul, ↓k_fdiv, ↓k_mod, ↓k_pow, ↓k_neg, ↓k_lt, ↓k_le, ↓k_gt, ↓k_ge, ↓k_eq, ↓k_ne, ↓k_eqs, ↓k_nes, ↓k_abs, ↓k_int, ↓k_intb, ↓k_boolb, ↓k_max, ↓k_min, ↓k_isi, ↓k_lenS, ↓k_lenL, ↓k_lenT, ↓k_is, ↓k_isn, ↓k_revL, ↓k_ixL, ↓k_ixT, ↓k_ixS, ↓k_at0, ↓k_at1, ↓k_at2, ↓k_at3, ↓k_en0, ↓k_enN, ↓k_enC, ↓k_fnM, ↓k_fnK, lb_0, lb_1, lb_2, lb_3, lb_4, lb_5, lb_6, lb_7, lb_8, lb_9, lb_10, lb_11, lb_12, Gv_ret, Gv_some, Gv_none, Gv_fail, ite_F, kitII, kitIB, kitBI, kitBB, FinK_rt, Fin_nx, frz_int, frz_bl, frz_non, frz_str, frz_tup, frz_lst, frzs_nil, frzs_cons, Option.map_some, Option.bind_some, Fin_rt, noH, noHs, set_app, true_and, and_true, false_and, and_false, not_true_eq_false, not_false_eq_true, Option.some.injEq, exists_eq_left, exists_eq_left', take_all, take_set, ↓reduceIte, Bool.not_true, Bool.not_false, Bool.false_eq_true, if_true, if_false, Bool.and_true, Bool.true_and, Bool.and_false, Bool.false_and, decide_eq_true_eq, Bool.not_eq_true', decide_eq_false_iff_not, hl]
    (repeat' (first | assumption | exact mul_okL (by decide) | exact mul_okR (by decide) | decide | split | refine And.intro ?_ ?_ | apply fin))
end Law
set_option Elab.async false
set_option linter.all false
set_option maxRecDepth 100000
set_option maxHeartbeats 4000000
/-! MLaw41: the law's own helpers and the law. -/
namespace Law
open PySem L2 Zm Sm
variable {S : Sto} {Q : T → Sto → Prop}
structure Rg (n : Nat) (a c m : Int) : Prop where
  hn : InR n
  ha : InR a
  hc : InR c
  hm : InR m
  p : 1 ≤ m
theorem InR.bd {x : Int} (h : InR x) : Bd 200 x := by
  unfold InR at h
  show x.natAbs < 2 ^ 200
  have : (2 : Nat) ^ 200 = 1606938044258990275541962092341162602522202993782792835301376 := by decide
  omega
section
variable {n : Nat} {a c m : Int}
theorem Rg.ok (r : Rg n a c m) : Ok n a c m := ⟨r.hn.bd, r.ha.bd, r.hc.bd, r.hm.bd, by have := r.p; omega⟩
theorem gv_line_sum (r : Rg n a c m) : Gv (m_line_sum [.int n, .int a, .int c, .int m] S) Q = Q (.int (F1 n a c m)) S := by
  unfold m_line_sum
  simp only [↓k_var0, ↓k_varS, ↓k_c, ↓k_op, ↓k_op1, ↓k_op2, ↓k_un, ↓k_un1, ↓k_tOf, ↓k_b, ↓k_not, ↓k_not1, ↓k_and, ↓k_and1, ↓k_or, ↓k_or1, ↓k_eand, ↓k_eand1, ↓k_eor, ↓k_eor1, ↓k_enot, ↓k_enot1, ↓k_eif, ↓k_eif1, ↓k_chn, ↓k_chn1, ↓k_chn2, ↓k_chn3, ↓k_nil, ↓k_cons, ↓k_cons1, ↓k_cons2, ↓k_tup, ↓k_lst, ↓k_cel, ↓k_tup1, ↓k_lst1, ↓k_cel1, ↓k_call, ↓k_call1, ↓k_skip, ↓k_bk, ↓k_ct, ↓k_no, ↓k_seq, ↓k_seq1, ↓k_seq2, ↓k_seq3, ↓k_seq4, ↓k_ex, ↓k_ex1, ↓k_ret, ↓k_ret1, ↓k_if, ↓k_if1, ↓k_as, ↓k_as1, ↓k_nx, ↓k_st0, ↓k_stS, ↓k_set, ↓k_set1, ↓k_par2, ↓k_par21, ↓k_par3, ↓k_par31, ↓k_nm, ↓k_gsnil, ↓k_gscons, ↓k_gscons1, ↓k_gix, ↓k_gix1, ↓k_gix2, ↓k_gix3, ↓k_for, ↓k_for1, ↓k_isq, ↓k_isqT, ↓k_isqL, ↓k_isqS, ↓k_r1, ↓k_r11, ↓k_r21, ↓k_app, ↓k_ar0, ↓k_ar1, ↓k_gT1, ↓k_gL1, ↓k_ar2, ↓k_gT2, ↓k_gL2, ↓k_ar3, ↓k_gT3, ↓k_gL3, ↓k_ar4, ↓k_gT4, ↓k_gL4, ↓k_ar5, ↓k_gT5, ↓k_gL5, ↓k_ar6, ↓k_gT6, ↓k_gL6, ↓k_ar7, ↓k_gT7, ↓k_gL7, ↓k_add, ↓k_sub, ↓k_mul, ↓k_fdiv, ↓k_mod, ↓k_pow, ↓k_neg, ↓k_lt, ↓k_le, ↓k_gt, ↓k_ge, ↓k_eq, ↓k_ne, ↓k_eqs, ↓k_nes, ↓k_abs, ↓k_int, ↓k_intb, ↓k_boolb, ↓k_max, ↓k_min, ↓k_isi, ↓k_lenS, ↓k_lenL, ↓k_lenT, ↓k_is, ↓k_isn, ↓k_revL, ↓k_ixL, ↓k_ixT, ↓k_ixS, ↓k_at0, ↓k_at1, ↓k_at2, ↓k_at3, ↓k_en0, ↓k_enN, ↓k_enC, ↓k_fnM, ↓k_fnK, lb_0, lb_1, lb_2, lb_3, lb_4, lb_5, lb_6, lb_7, lb_8, lb_9, lb_10, lb_11, lb_12, Gv_ret, Gv_some, Gv_none, Gv_fail, ite_F, kitII, kitIB, kitBI, kitBB, FinK_rt, Fin_nx, frz_int, frz_bl, frz_non, frz_str, frz_tup, frz_lst, frzs_nil, frzs_cons, Option.map_some, Option.bind_some, Fin_rt, noH, noHs, set_app, true_and, and_true, false_and, and_false, not_true_eq_false, not_false_eq_true, Option.some.injEq, exists_eq_left, exists_eq_left', take_all, take_set, ↓reduceIte, Bool.not_true, Bool.not_false, Bool.false_eq_true, if_true, if_false, Bool.and_true, Bool.true_and, Bool.and_false, Bool.false_and, decide_eq_true_eq, Bool.not_eq_true', decide_eq_false_iff_not, ↓gv_reqline r.hn (Int.natCast_nonneg n) r.ha r.hc r.hm r.p, ↓gv_totals r.ok, tt, tT]
theorem gv_line_moment (r : Rg n a c m) : Gv (m_line_moment [.int n, .int a, .int c, .int m] S) Q = Q (.int (FM n a c m)) S := by
  unfold m_line_moment
  simp only [↓k_var0, ↓k_varS, ↓k_c, ↓k_op, ↓k_op1, ↓k_op2, ↓k_un, ↓k_un1, ↓k_tOf, ↓k_b, ↓k_not, ↓k_not1, ↓k_and, ↓k_and1, ↓k_or, ↓k_or1, ↓k_eand, ↓k_eand1, ↓k_eor, ↓k_eor1, ↓k_enot, ↓k_enot1, ↓k_eif, ↓k_eif1, ↓k_chn, ↓k_chn1, ↓k_chn2, ↓k_chn3, ↓k_nil, ↓k_cons, ↓k_cons1, ↓k_cons2, ↓k_tup, ↓k_lst, ↓k_cel, ↓k_tup1, ↓k_lst1, ↓k_cel1, ↓k_call, ↓k_call1, ↓k_skip, ↓k_bk, ↓k_ct, ↓k_no, ↓k_seq, ↓k_seq1, ↓k_seq2, ↓k_seq3, ↓k_seq4, ↓k_ex, ↓k_ex1, ↓k_ret, ↓k_ret1, ↓k_if, ↓k_if1, ↓k_as, ↓k_as1, ↓k_nx, ↓k_st0, ↓k_stS, ↓k_set, ↓k_set1, ↓k_par2, ↓k_par21, ↓k_par3, ↓k_par31, ↓k_nm, ↓k_gsnil, ↓k_gscons, ↓k_gscons1, ↓k_gix, ↓k_gix1, ↓k_gix2, ↓k_gix3, ↓k_for, ↓k_for1, ↓k_isq, ↓k_isqT, ↓k_isqL, ↓k_isqS, ↓k_r1, ↓k_r11, ↓k_r21, ↓k_app, ↓k_ar0, ↓k_ar1, ↓k_gT1, ↓k_gL1, ↓k_ar2, ↓k_gT2, ↓k_gL2, ↓k_ar3, ↓k_gT3, ↓k_gL3, ↓k_ar4, ↓k_gT4, ↓k_gL4, ↓k_ar5, ↓k_gT5, ↓k_gL5, ↓k_ar6, ↓k_gT6, ↓k_gL6, ↓k_ar7, ↓k_gT7, ↓k_gL7, ↓k_add, ↓k_sub, ↓k_mul, ↓k_fdiv, ↓k_mod, ↓k_pow, ↓k_neg, ↓k_lt, ↓k_le, ↓k_gt, ↓k_ge, ↓k_eq, ↓k_ne, ↓k_eqs, ↓k_nes, ↓k_abs, ↓k_int, ↓k_intb, ↓k_boolb, ↓k_max, ↓k_min, ↓k_isi, ↓k_lenS, ↓k_lenL, ↓k_lenT, ↓k_is, ↓k_isn, ↓k_revL, ↓k_ixL, ↓k_ixT, ↓k_ixS, ↓k_at0, ↓k_at1, ↓k_at2, ↓k_at3, ↓k_en0, ↓k_enN, ↓k_enC, ↓k_fnM, ↓k_fnK, lb_0, lb_1, lb_2, lb_3, lb_4, lb_5, lb_6, lb_7, lb_8, lb_9, lb_10, lb_11, lb_12, Gv_ret, Gv_some, Gv_none, Gv_fail, ite_F, kitII, kitIB, kitBI, kitBB, FinK_rt, Fin_nx, frz_int, frz_bl, frz_non, frz_str, frz_tup, frz_lst, frzs_nil, frzs_cons, Option.map_some, Option.bind_some, Fin_rt, noH, noHs, set_app, true_and, and_true, false_and, and_false, not_true_eq_false, not_false_eq_true, Option.some.injEq, exists_eq_left, exists_eq_left', take_all, take_set, ↓reduceIte, Bool.not_true, Bool.not_false, Bool.false_eq_true, if_true, if_false, Bool.and_true, Bool.true_and, Bool.and_false, Bool.false_and, decide_eq_true_eq, Bool.not_eq_true', decide_eq_false_iff_not, ↓gv_reqline r.hn (Int.natCast_nonneg n) r.ha r.hc r.hm r.p, ↓gv_totals r.ok, tt, tT]
theorem gv_line_square (r : Rg n a c m) : Gv (m_line_square [.int n, .int a, .int c, .int m] S) Q = Q (.int (F2 n a c m)) S := by
  unfold m_line_square
  simp only [↓k_var0, ↓k_varS, ↓k_c, ↓k_op, ↓k_op1, ↓k_op2, ↓k_un, ↓k_un1, ↓k_tOf, ↓k_b, ↓k_not, ↓k_not1, ↓k_and, ↓k_and1, ↓k_or, ↓k_or1, ↓k_eand, ↓k_eand1, ↓k_eor, ↓k_eor1, ↓k_enot, ↓k_enot1, ↓k_eif, ↓k_eif1, ↓k_chn, ↓k_chn1, ↓k_chn2, ↓k_chn3, ↓k_nil, ↓k_cons, ↓k_cons1, ↓k_cons2, ↓k_tup, ↓k_lst, ↓k_cel, ↓k_tup1, ↓k_lst1, ↓k_cel1, ↓k_call, ↓k_call1, ↓k_skip, ↓k_bk, ↓k_ct, ↓k_no, ↓k_seq, ↓k_seq1, ↓k_seq2, ↓k_seq3, ↓k_seq4, ↓k_ex, ↓k_ex1, ↓k_ret, ↓k_ret1, ↓k_if, ↓k_if1, ↓k_as, ↓k_as1, ↓k_nx, ↓k_st0, ↓k_stS, ↓k_set, ↓k_set1, ↓k_par2, ↓k_par21, ↓k_par3, ↓k_par31, ↓k_nm, ↓k_gsnil, ↓k_gscons, ↓k_gscons1, ↓k_gix, ↓k_gix1, ↓k_gix2, ↓k_gix3, ↓k_for, ↓k_for1, ↓k_isq, ↓k_isqT, ↓k_isqL, ↓k_isqS, ↓k_r1, ↓k_r11, ↓k_r21, ↓k_app, ↓k_ar0, ↓k_ar1, ↓k_gT1, ↓k_gL1, ↓k_ar2, ↓k_gT2, ↓k_gL2, ↓k_ar3, ↓k_gT3, ↓k_gL3, ↓k_ar4, ↓k_gT4, ↓k_gL4, ↓k_ar5, ↓k_gT5, ↓k_gL5, ↓k_ar6, ↓k_gT6, ↓k_gL6, ↓k_ar7, ↓k_gT7, ↓k_gL7, ↓k_add, ↓k_sub, ↓k_mul, ↓k_fdiv, ↓k_mod, ↓k_pow, ↓k_neg, ↓k_lt, ↓k_le, ↓k_gt, ↓k_ge, ↓k_eq, ↓k_ne, ↓k_eqs, ↓k_nes, ↓k_abs, ↓k_int, ↓k_intb, ↓k_boolb, ↓k_max, ↓k_min, ↓k_isi, ↓k_lenS, ↓k_lenL, ↓k_lenT, ↓k_is, ↓k_isn, ↓k_revL, ↓k_ixL, ↓k_ixT, ↓k_ixS, ↓k_at0, ↓k_at1, ↓k_at2, ↓k_at3, ↓k_en0, ↓k_enN, ↓k_enC, ↓k_fnM, ↓k_fnK, lb_0, lb_1, lb_2, lb_3, lb_4, lb_5, lb_6, lb_7, lb_8, lb_9, lb_10, lb_11, lb_12, Gv_ret, Gv_some, Gv_none, Gv_fail, ite_F, kitII, kitIB, kitBI, kitBB, FinK_rt, Fin_nx, frz_int, frz_bl, frz_non, frz_str, frz_tup, frz_lst, frzs_nil, frzs_cons, Option.map_some, Option.bind_some, Fin_rt, noH, noHs, set_app, true_and, and_true, false_and, and_false, not_true_eq_false, not_false_eq_true, Option.some.injEq, exists_eq_left, exists_eq_left', take_all, take_set, ↓reduceIte, Bool.not_true, Bool.not_false, Bool.false_eq_true, if_true, if_false, Bool.and_true, Bool.true_and, Bool.and_false, Bool.false_and, decide_eq_true_eq, Bool.not_eq_true', decide_eq_false_iff_not, ↓gv_reqline r.hn (Int.natCast_nonneg n) r.ha r.hc r.hm r.p, ↓gv_totals r.ok, tt, tT]
theorem gv_law_totals (r : Rg n a c m) : Gv (m_law_totals [.int n, .int a, .int c, .int m] S) Q = Q (.lst [.int (F1 n a c m), .int (FM n a c m), .int (F2 n a c m)]) S := by
  unfold m_law_totals
  simp only [↓k_var0, ↓k_varS, ↓k_c, ↓k_op, ↓k_op1, ↓k_op2, ↓k_un, ↓k_un1, ↓k_tOf, ↓k_b, ↓k_not, ↓k_not1, ↓k_and, ↓k_and1, ↓k_or, ↓k_or1, ↓k_eand, ↓k_eand1, ↓k_eor, ↓k_eor1, ↓k_enot, ↓k_enot1, ↓k_eif, ↓k_eif1, ↓k_chn, ↓k_chn1, ↓k_chn2, ↓k_chn3, ↓k_nil, ↓k_cons, ↓k_cons1, ↓k_cons2, ↓k_tup, ↓k_lst, ↓k_cel, ↓k_tup1, ↓k_lst1, ↓k_cel1, ↓k_call, ↓k_call1, ↓k_skip, ↓k_bk, ↓k_ct, ↓k_no, ↓k_seq, ↓k_seq1, ↓k_seq2, ↓k_seq3, ↓k_seq4, ↓k_ex, ↓k_ex1, ↓k_ret, ↓k_ret1, ↓k_if, ↓k_if1, ↓k_as, ↓k_as1, ↓k_nx, ↓k_st0, ↓k_stS, ↓k_set, ↓k_set1, ↓k_par2, ↓k_par21, ↓k_par3, ↓k_par31, ↓k_nm, ↓k_gsnil, ↓k_gscons, ↓k_gscons1, ↓k_gix, ↓k_gix1, ↓k_gix2, ↓k_gix3, ↓k_for, ↓k_for1, ↓k_isq, ↓k_isqT, ↓k_isqL, ↓k_isqS, ↓k_r1, ↓k_r11, ↓k_r21, ↓k_app, ↓k_ar0, ↓k_ar1, ↓k_gT1, ↓k_gL1, ↓k_ar2, ↓k_gT2, ↓k_gL2, ↓k_ar3, ↓k_gT3, ↓k_gL3, ↓k_ar4, ↓k_gT4, ↓k_gL4, ↓k_ar5, ↓k_gT5, ↓k_gL5, ↓k_ar6, ↓k_gT6, ↓k_gL6, ↓k_ar7, ↓k_gT7, ↓k_gL7, ↓k_add, ↓k_sub, ↓k_mul, ↓k_fdiv, ↓k_mod, ↓k_pow, ↓k_neg, ↓k_lt, ↓k_le, ↓k_gt, ↓k_ge, ↓k_eq, ↓k_ne, ↓k_eqs, ↓k_nes, ↓k_abs, ↓k_int, ↓k_intb, ↓k_boolb, ↓k_max, ↓k_min, ↓k_isi, ↓k_lenS, ↓k_lenL, ↓k_lenT, ↓k_is, ↓k_isn, ↓k_revL, ↓k_ixL, ↓k_ixT, ↓k_ixS, ↓k_at0, ↓k_at1, ↓k_at2, ↓k_at3, ↓k_en0, ↓k_enN, ↓k_enC, ↓k_fnM, ↓k_fnK, lb_0, lb_1, lb_2, lb_3, lb_4, lb_5, lb_6, lb_7, lb_8, lb_9, lb_10, lb_11, lb_12, Gv_ret, Gv_some, Gv_none, Gv_fail, ite_F, kitII, kitIB, kitBI, kitBB, FinK_rt, Fin_nx, frz_int, frz_bl, frz_non, frz_str, frz_tup, frz_lst, frzs_nil, frzs_cons, Option.map_some, Option.bind_some, Fin_rt, noH, noHs, set_app, true_and, and_true, false_and, and_false, not_true_eq_false, not_false_eq_true, Option.some.injEq, exists_eq_left, exists_eq_left', take_all, take_set, ↓reduceIte, Bool.not_true, Bool.not_false, Bool.false_eq_true, if_true, if_false, Bool.and_true, Bool.true_and, Bool.and_false, Bool.false_and, decide_eq_true_eq, Bool.not_eq_true', decide_eq_false_iff_not, ↓gv_line_sum r, ↓gv_line_moment r, ↓gv_line_square r]
/-! the law's own exchange -/
/-- what a turn of the area adds and leaves -/
theorem area_step (h0 : 0 < a) (h1 : a < m) (c0 : 0 ≤ c) (c1 : c < m) : 
    F1 n a c m = n * ((a * n + c) / m) - F1 ((a * n + c) / m).toNat m (m - c - 1 + a) a := by
  have hm : 0 < m := by omega
  have hB : 0 ≤ Sm.fl a c m n := fl_nonneg (by omega) c0 hm n
  have e := (exch_all h0 c0 hm c1 n (Sm.fl a c m n).toNat (Int.toNat_of_nonneg hB)).1
  have e2 : F1 (n + 1) a c m = F1 n a c m + Sm.fl a c m n := rfl
  have e3 : F1 (Sm.fl a c m n).toNat m (m - c - 1 + a) a = F1 (Sm.fl a c m n).toNat m (m - c - 1) a + Sm.fl a c m n := by
    unfold F1
    rw [sm_congr (g := fun i => Sm.fl m (m - c - 1) a i + 1) fun i _ => ?_, sm_add, sm_const, Int.one_mul, Int.toNat_of_nonneg hB]
    unfold Sm.fl
    rw [← Int.add_assoc, Int.add_ediv_of_dvd_right (Int.dvd_refl a), Int.ediv_self (by omega)]
  rw [Int.toNat_of_nonneg hB] at e
  show F1 n a c m = n * Sm.fl a c m n - F1 (Sm.fl a c m n).toNat m (m - c - 1 + a) a
  omega
theorem area_zero (h0 : 0 ≤ a) (hm : 0 < m) (c0 : 0 ≤ c) (c1 : c < m) (h : a = 0 ∨ (a * n + c) / m = 0) : F1 n a c m = 0 := by
  have z : ∀ i, i < n → Sm.fl a c m i = 0 := fun i hi => by
    rcases h with h | h
    · subst h
      unfold Sm.fl
      rw [Int.zero_mul, Int.zero_add, Int.ediv_eq_zero_of_lt c0 c1]
    · have h1 := fl_nonneg (c := c) h0 c0 hm i
      have h2 := fl_mono (c := c) h0 hm (show i ≤ n by omega)
      have h3 : Sm.fl a c m n = 0 := h
      omega
  unfold F1
  rw [sm_congr z, sm_zero]
/-- one turn's number, as it is written -/
theorem area_lift (hm : 0 < m) : F1 n a c m = F1 n (a % m) (c % m) m + (a / m * (n * (n - 1) / 2) + c / m * n) := by
  rw [F1_lift n hm, half_id]; omega
theorem gv_area (hn : Bd 200 (n : Int)) (ha : Bd 190 a) (hc : Bd 190 c) (hm : Bd 190 m) (p : 0 < m) : Gv (m_law_area [.int n, .int a, .int c, .int m] S) Q = Q (.int (F1 n a c m)) S := by
  refine gv_of fun Q h => ?_
  unfold m_law_area
  simp only [↓k_var0, ↓k_varS, ↓k_c, ↓k_op, ↓k_op1, ↓k_op2, ↓k_un, ↓k_un1, ↓k_tOf, ↓k_b, ↓k_not, ↓k_not1, ↓k_and, ↓k_and1, ↓k_or, ↓k_or1, ↓k_eand, ↓k_eand1, ↓k_eor, ↓k_eor1, ↓k_enot, ↓k_enot1, ↓k_eif, ↓k_eif1, ↓k_chn, ↓k_chn1, ↓k_chn2, ↓k_chn3, ↓k_nil, ↓k_cons, ↓k_cons1, ↓k_cons2, ↓k_tup, ↓k_lst, ↓k_cel, ↓k_tup1, ↓k_lst1, ↓k_cel1, ↓k_call, ↓k_call1, ↓k_skip, ↓k_bk, ↓k_ct, ↓k_no, ↓k_seq, ↓k_seq1, ↓k_seq2, ↓k_seq3, ↓k_seq4, ↓k_ex, ↓k_ex1, ↓k_ret, ↓k_ret1, ↓k_if, ↓k_if1, ↓k_as, ↓k_as1, ↓k_nx, ↓k_st0, ↓k_stS, ↓k_set, ↓k_set1, ↓k_par2, ↓k_par21, ↓k_par3, ↓k_par31, ↓k_nm, ↓k_gsnil, ↓k_gscons, ↓k_gscons1, ↓k_gix, ↓k_gix1, ↓k_gix2, ↓k_gix3, ↓k_for, ↓k_for1, ↓k_isq, ↓k_isqT, ↓k_isqL, ↓k_isqS, ↓k_r1, ↓k_r11, ↓k_r21, ↓k_app, ↓k_ar0, ↓k_ar1, ↓k_gT1, ↓k_gL1, ↓k_ar2, ↓k_gT2, ↓k_gL2, ↓k_ar3, ↓k_gT3, ↓k_gL3, ↓k_ar4, ↓k_gT4, ↓k_gL4, ↓k_ar5, ↓k_gT5, ↓k_gL5, ↓k_ar6, ↓k_gT6, ↓k_gL6, ↓k_ar7, ↓k_gT7, ↓k_gL7, ↓k_add, ↓k_sub, ↓k_mul, ↓k_fdiv, ↓k_mod, ↓k_pow, ↓k_neg, ↓k_lt, ↓k_le, ↓k_gt, ↓k_ge, ↓k_eq, ↓k_ne, ↓k_eqs, ↓k_nes, ↓k_abs, ↓k_int, ↓k_intb, ↓k_boolb, ↓k_max, ↓k_min, ↓k_isi, ↓k_lenS, ↓k_lenL, ↓k_lenT, ↓k_is, ↓k_isn, ↓k_revL, ↓k_ixL, ↓k_ixT, ↓k_ixS, ↓k_at0, ↓k_at1, ↓k_at2, ↓k_at3, ↓k_en0, ↓k_enN, ↓k_enC, ↓k_fnM, ↓k_fnK, lb_0, lb_1, lb_2, lb_3, lb_4, lb_5, lb_6, lb_7, lb_8, lb_9, lb_10, lb_11, lb_12, Gv_ret, Gv_some, Gv_none, Gv_fail, ite_F, kitII, kitIB, kitBI, kitBB, FinK_rt, Fin_nx, frz_int, frz_bl, frz_non, frz_str, frz_tup, frz_lst, frzs_nil, frzs_cons, Option.map_some, Option.bind_some, Fin_rt, noH, noHs, set_app, true_and, and_true, false_and, and_false, not_true_eq_false, not_false_eq_true, Option.some.injEq, exists_eq_left, exists_eq_left', take_all, take_set, ↓reduceIte, Bool.not_true, Bool.not_false, Bool.false_eq_true, if_true, if_false, Bool.and_true, Bool.true_and, Bool.and_false, Bool.false_and, decide_eq_true_eq, Bool.not_eq_true', decide_eq_false_iff_not]
  refine ⟨by decide, ?_⟩
  refine Gv_rng (fun i τ S' => S' = S ∧ i ≤ 400 ∧ ∃ (n' : Nat) (a' c' m' t s : Int) (o6 o7 : Option T), τ = [some (.int n'), some (.int a'), some (.int c'), some (.int m'), some (.int t), some (.int s), o6, o7] ∧
    Bd 200 (n' : Int) ∧ Bd 190 a' ∧ Bd 195 c' ∧ Bd 190 m' ∧ 0 < m' ∧ (s = 1 ∨ s = -1) ∧ F1 n a c m = t + s * F1 n' a' c' m' ∧ eu a' m' + i ≤ 382) ?first ?turn ?last
  case first =>
    refine ⟨rfl, by omega, n, a, c, m, 0, 1, none, none, rfl, hn, ha, hc.mono (by decide), hm, p, .inl rfl, by omega, ?_⟩
    have := eu_le ha hm p
    omega
  case last =>
    rintro τ S' ⟨rfl, -, n', a', c', m', t, s, o6, o7, rfl, -, -, -, -, -, -, -, hb⟩
    have e : (400 : Int).toNat = 400 := rfl
    omega
  case turn =>
    rintro i τ S' hi ⟨rfl, -, n', a', c', m', t, s, o6, o7, rfl, kn, ka, kc, km, kp, ks, kf, hb⟩
    have dm : divOk m' = true := div_ok kp km (by decide)
    have k2 : Bd 500 ((n' : Int) * (n' - 1) / 2) := by (with_reducible apply Bd.mono; (case h => (repeat' (first | assumption | with_reducible apply Bd.mul | with_reducible apply Bd.add | with_reducible apply Bd.sub | with_reducible apply Bd.neg | with_reducible apply Bd.div | with_reducible exact Bd.num))); (case l => decide))
    have r1 := Int.emod_nonneg a' (by omega : m' ≠ 0)
    have r2 := Int.emod_lt_of_pos a' kp
    have r3 := Int.emod_nonneg c' (by omega : m' ≠ 0)
    have r4 := Int.emod_lt_of_pos c' kp
    have ra : Bd 190 (a' % m') := Bd.mod km kp
    have rc : Bd 190 (c' % m') := Bd.mod km kp
    have bs : ∀ x, mulOk s x = true := fun x => mul_okL (by rcases ks with rfl | rfl <;> decide)
    have hs : Bd 1 s := by rcases ks with rfl | rfl <;> exact (by decide : (1 : Nat) < 2 ^ 1)
    have kl := area_lift (n := n') (a := a') (c := c') kp
    have done : ∀ z, F1 n' (a' % m') (c' % m') m' = 0 → z = t + s * (a' / m' * (↑n' * (↑n' - 1) / 2) + c' / m' * ↑n') → Q (.int z) S' := fun z hz e => by
      have : z = F1 n a c m := by rw [e, kf, kl, hz, Int.zero_add]
      rw [this]; exact h
    simp only [↓k_var0, ↓k_varS, ↓k_c, ↓k_op, ↓k_op1, ↓k_op2, ↓k_un, ↓k_un1, ↓k_tOf, ↓k_b, ↓k_not, ↓k_not1, ↓k_and, ↓k_and1, ↓k_or, ↓k_or1, ↓k_eand, ↓k_eand1, ↓k_eor, ↓k_eor1, ↓k_enot, ↓k_enot1, ↓k_eif, ↓k_eif1, ↓k_chn, ↓k_chn1, ↓k_chn2, ↓k_chn3, ↓k_nil, ↓k_cons, ↓k_cons1, ↓k_cons2, ↓k_tup, ↓k_lst, ↓k_cel, ↓k_tup1, ↓k_lst1, ↓k_cel1, ↓k_call, ↓k_call1, ↓k_skip, ↓k_bk, ↓k_ct, ↓k_no, ↓k_seq, ↓k_seq1, ↓k_seq2, ↓k_seq3, ↓k_seq4, ↓k_ex, ↓k_ex1, ↓k_ret, ↓k_ret1, ↓k_if, ↓k_if1, ↓k_as, ↓k_as1, ↓k_nx, ↓k_st0, ↓k_stS, ↓k_set, ↓k_set1, ↓k_par2, ↓k_par21, ↓k_par3, ↓k_par31, ↓k_nm, ↓k_gsnil, ↓k_gscons, ↓k_gscons1, ↓k_gix, ↓k_gix1, ↓k_gix2, ↓k_gix3, ↓k_for, ↓k_for1, ↓k_isq, ↓k_isqT, ↓k_isqL, ↓k_isqS, ↓k_r1, ↓k_r11, ↓k_r21, ↓k_app, ↓k_ar0, ↓k_ar1, ↓k_gT1, ↓k_gL1, ↓k_ar2, ↓k_gT2, ↓k_gL2, ↓k_ar3, ↓k_gT3, ↓k_gL3, ↓k_ar4, ↓k_gT4, ↓k_gL4, ↓k_ar5, ↓k_gT5, ↓k_gL5, ↓k_ar6, ↓k_gT6, ↓k_gL6, ↓k_ar7, ↓k_gT7, ↓k_gL7, ↓k_add, ↓k_sub, ↓k_mul, ↓k_fdiv, ↓k_mod, ↓k_pow, ↓k_neg, ↓k_lt, ↓k_le, ↓k_gt, ↓k_ge, ↓k_eq, ↓k_ne, ↓k_eqs, ↓k_nes, ↓k_abs, ↓k_int, ↓k_intb, ↓k_boolb, ↓k_max, ↓k_min, ↓k_isi, ↓k_lenS, ↓k_lenL, ↓k_lenT, ↓k_is, ↓k_isn, ↓k_revL, ↓k_ixL, ↓k_ixT, ↓k_ixS, ↓k_at0, ↓k_at1, ↓k_at2, ↓k_at3, ↓k_en0, ↓k_enN, ↓k_enC, ↓k_fnM, ↓k_fnK, lb_0, lb_1, lb_2, lb_3, lb_4, lb_5, lb_6, lb_7, lb_8, lb_9, lb_10, lb_11, lb_12, Gv_ret, Gv_some, Gv_none, Gv_fail, ite_F, kitII, kitIB, kitBI, kitBB, FinK_rt, Fin_nx, frz_int, frz_bl, frz_non, frz_str, frz_tup, frz_lst, frzs_nil, frzs_cons, Option.map_some, Option.bind_some, Fin_rt, noH, noHs, set_app, true_and, and_true, false_and, and_false, not_true_eq_false, not_false_eq_true, Option.some.injEq, exists_eq_left, exists_eq_left', take_all, take_set, ↓reduceIte, Bool.not_true, Bool.not_false, Bool.false_eq_true, if_true, if_false, Bool.and_true, Bool.true_and, Bool.and_false, Bool.false_and, decide_eq_true_eq, Bool.not_eq_true', decide_eq_false_iff_not, dm, kp, bs]
    refine ⟨by (first | exact mul_okL (by decide) | exact mul_okR (by decide) | (with_reducible apply mul_ok; (case h => (repeat' (first | assumption | with_reducible apply Bd.mul | with_reducible apply Bd.add | with_reducible apply Bd.sub | with_reducible apply Bd.neg | with_reducible apply Bd.div | with_reducible exact Bd.num))); (case q => (repeat' (first | assumption | with_reducible apply Bd.mul | with_reducible apply Bd.add | with_reducible apply Bd.sub | with_reducible apply Bd.neg | with_reducible apply Bd.div | with_reducible exact Bd.num))); (case l => decide))), by decide, by (first | exact mul_okL (by decide) | exact mul_okR (by decide) | (with_reducible apply mul_ok; (case h => (repeat' (first | assumption | with_reducible apply Bd.mul | with_reducible apply Bd.add | with_reducible apply Bd.sub | with_reducible apply Bd.neg | with_reducible apply Bd.div | with_reducible exact Bd.num))); (case q => (repeat' (first | assumption | with_reducible apply Bd.mul | with_reducible apply Bd.add | with_reducible apply Bd.sub | with_reducible apply Bd.neg | with_reducible apply Bd.div | with_reducible exact Bd.num))); (case l => decide))), by (first | exact mul_okL (by decide) | exact mul_okR (by decide) | (with_reducible apply mul_ok; (case h => (repeat' (first | assumption | with_reducible apply Bd.mul | with_reducible apply Bd.add | with_reducible apply Bd.sub | with_reducible apply Bd.neg | with_reducible apply Bd.div | with_reducible exact Bd.num))); (case q => (repeat' (first | assumption | with_reducible apply Bd.mul | with_reducible apply Bd.add | with_reducible apply Bd.sub | with_reducible apply Bd.neg | with_reducible apply Bd.div | with_reducible exact Bd.num))); (case l => decide))), by (first | exact mul_okL (by decide) | exact mul_okR (by decide) | (with_reducible apply mul_ok; (case h => (repeat' (first | assumption | with_reducible apply Bd.mul | with_reducible apply Bd.add | with_reducible apply Bd.sub | with_reducible apply Bd.neg | with_reducible apply Bd.div | with_reducible exact Bd.num))); (case q => (repeat' (first | assumption | with_reducible apply Bd.mul | with_reducible apply Bd.add | with_reducible apply Bd.sub | with_reducible apply Bd.neg | with_reducible apply Bd.div | with_reducible exact Bd.num))); (case l => decide))), ?_⟩
    by_cases z1 : a' % m' = 0
    · rw [if_pos z1]
      exact done _ (area_zero r1 kp r3 r4 (.inl z1)) rfl
    rw [if_neg z1]
    by_cases z2 : (a' % m' * ↑n' + c' % m') / m' = 0
    · rw [if_pos z2]
      exact done _ (area_zero r1 kp r3 r4 (.inr z2)) rfl
    rw [if_neg z2]
    have st := area_step (n := n') (a := a' % m') (c := c' % m') (m := m') (by omega) r2 r3 r4
    have t0 : 0 ≤ (a' % m' * ↑n' + c' % m') / m' := fl_nonneg r1 r3 kp n'
    have t1 : (a' % m' * ↑n' + c' % m') / m' ≤ n' := by
      have : (a' % m' * ↑n' + c' % m') / m' < n' + 1 := by
        refine Int.ediv_lt_of_lt_mul kp ?_
        have : a' % m' * (n' : Int) ≤ (m' - 1) * n' := Int.mul_le_mul_of_nonneg_right (by omega) (by omega)
        have e : (m' - 1) * (n' : Int) = n' * m' - n' := by grind
        have e2 : ((n' : Int) + 1) * m' = n' * m' + m' := by grind
        omega
      omega
    have ed := eu_dec kp (show 0 < a' % m' by omega)
    generalize ht : (a' % m' * ↑n' + c' % m') / m' = top at *
    have bt : Bd 200 top := Bd.le t0 t1 kn
    refine ⟨by (first | exact mul_okL (by decide) | exact mul_okR (by decide) | (with_reducible apply mul_ok; (case h => (repeat' (first | assumption | with_reducible apply Bd.mul | with_reducible apply Bd.add | with_reducible apply Bd.sub | with_reducible apply Bd.neg | with_reducible apply Bd.div | with_reducible exact Bd.num))); (case q => (repeat' (first | assumption | with_reducible apply Bd.mul | with_reducible apply Bd.add | with_reducible apply Bd.sub | with_reducible apply Bd.neg | with_reducible apply Bd.div | with_reducible exact Bd.num))); (case l => decide))), by omega, top.toNat, m', m' - c' % m' - 1 + a' % m', a' % m', t + s * (a' / m' * (↑n' * (↑n' - 1) / 2) + c' / m' * ↑n') + s * ↑n' * top, 0 - s, some (.int (0 + i)), some (.int top), ?_, ?_, km, by (with_reducible apply Bd.mono; (case h => (repeat' (first | assumption | with_reducible apply Bd.mul | with_reducible apply Bd.add | with_reducible apply Bd.sub | with_reducible apply Bd.neg | with_reducible apply Bd.div | with_reducible exact Bd.num))); (case l => decide)), ra, by omega, by omega, ?_, by omega⟩
    · rw [Int.toNat_of_nonneg t0]
    · rw [Int.toNat_of_nonneg t0]; exact bt
    · rw [kf, kl, st]; grind
/-- the lines that are drawn -/
structure Ln (n : Nat) (a c m : Int) : Prop where
  hn : (n : Int) < 1000000000000000000000000
  a1 : -1000000000000000000000000000000 < a
  a2 : a < 1000000000000000000000000000000
  c1 : -1000000000000000000000000000000000000000000000000000000 < c
  c2 : c < 1000000000000000000000000000000000000000000000000000000
  m1 : 1 ≤ m
  m2 : m ≤ 1000000000000000000000000000000000000000000000000000000
theorem Ln.mul (l : Ln n a c m) {k : Int} (h0 : 0 ≤ k) (h1 : k ≤ n) : -1000000000000000000000000000000000000000000000000000000 < a * k ∧ a * k < 1000000000000000000000000000000000000000000000000000000 := by
  have hn := l.hn
  have a1 := l.a1
  have a2 := l.a2
  have h : (a * k).natAbs ≤ 999999999999999999999999999999 * 999999999999999999999999 := by
    rw [Int.natAbs_mul]
    exact Nat.mul_le_mul (by omega) (by omega)
  omega
theorem Ln.rg (l : Ln n a c m) {k : Nat} {a' c' : Int} (h1 : k ≤ n) (ha : -3000000000000000000000000000000000000000000000000000000 < a') (ha' : a' < 3000000000000000000000000000000000000000000000000000000) 
    (hc : -3000000000000000000000000000000000000000000000000000000 < c') (hc' : c' < 3000000000000000000000000000000000000000000000000000000) : Rg k a' c' m := by
  have hn := l.hn
  have m1 := l.m1
  have m2 := l.m2
  refine ⟨⟨?_, ?_⟩, ⟨?_, ?_⟩, ⟨?_, ?_⟩, ⟨?_, ?_⟩, m1⟩ <;> omega
theorem Ln.r0 (l : Ln n a c m) : Rg n a c m := l.rg (Nat.le_refl n) (by have := l.a1; omega) (by have := l.a2; omega) (by have := l.c1; omega) (by have := l.c2; omega)
end
theorem gv_wide {c b : Nat} (h : Bowl c b S) (q : ∀ n a d m S', Ln n a d m → Bowl c b S' → Q (.lst [.int n, .int a, .int d, .int m]) S') : Gv (m_law_wide_line [.hdl c] S) Q := by
  have p3 : (1000000 : Int) ^ (3 : Int).toNat = 1000000000000000000 := by decide
  have p4 : (1000000 : Int) ^ (4 : Int).toNat = 1000000000000000000000000 := by decide
  have p5 : (1000000 : Int) ^ (5 : Int).toNat = 1000000000000000000000000000000 := by decide
  have p9 : (1000000 : Int) ^ (9 : Int).toNat = 1000000000000000000000000000000000000000000000000000000 := by decide
  unfold m_law_wide_line
  simp only [↓k_var0, ↓k_varS, ↓k_c, ↓k_op, ↓k_op1, ↓k_op2, ↓k_un, ↓k_un1, ↓k_tOf, ↓k_b, ↓k_not, ↓k_not1, ↓k_and, ↓k_and1, ↓k_or, ↓k_or1, ↓k_eand, ↓k_eand1, ↓k_eor, ↓k_eor1, ↓k_enot, ↓k_enot1, ↓k_eif, ↓k_eif1, ↓k_chn, ↓k_chn1, ↓k_chn2, ↓k_chn3, ↓k_nil, ↓k_cons, ↓k_cons1, ↓k_cons2, ↓k_tup, ↓k_lst, ↓k_cel, ↓k_tup1, ↓k_lst1, ↓k_cel1, ↓k_call, ↓k_call1, ↓k_skip, ↓k_bk, ↓k_ct, ↓k_no, ↓k_seq, ↓k_seq1, ↓k_seq2, ↓k_seq3, ↓k_seq4, ↓k_ex, ↓k_ex1, ↓k_ret, ↓k_ret1, ↓k_if, ↓k_if1, ↓k_as, ↓k_as1, ↓k_nx, ↓k_st0, ↓k_stS, ↓k_set, ↓k_set1, ↓k_par2, ↓k_par21, ↓k_par3, ↓k_par31, ↓k_nm, ↓k_gsnil, ↓k_gscons, ↓k_gscons1, ↓k_gix, ↓k_gix1, ↓k_gix2, ↓k_gix3, ↓k_for, ↓k_for1, ↓k_isq, ↓k_isqT, ↓k_isqL, ↓k_isqS, ↓k_r1, ↓k_r11, ↓k_r21, ↓k_app, ↓k_ar0, ↓k_ar1, ↓k_gT1, ↓k_gL1, ↓k_ar2, ↓k_gT2, ↓k_gL2, ↓k_ar3, ↓k_gT3, ↓k_gL3, ↓k_ar4, ↓k_gT4, ↓k_gL4, ↓k_ar5, ↓k_gT5, ↓k_gL5, ↓k_ar6, ↓k_gT6, ↓k_gL6, ↓k_ar7, ↓k_gT7, ↓k_gL7, ↓k_add, ↓k_sub, ↓k_mul, ↓k_fdiv, ↓k_mod, ↓k_pow, ↓k_neg, ↓k_lt, ↓k_le, ↓k_gt, ↓k_ge, ↓k_eq, ↓k_ne, ↓k_eqs, ↓k_nes, ↓k_abs, ↓k_int, ↓k_intb, ↓k_boolb, ↓k_max, ↓k_min, ↓k_isi, ↓k_lenS, ↓k_lenL, ↓k_lenT, ↓k_is, ↓k_isn, ↓k_revL, ↓k_ixL, ↓k_ixT, ↓k_ixS, ↓k_at0, ↓k_at1, ↓k_at2, ↓k_at3, ↓k_en0, ↓k_enN, ↓k_enC, ↓k_fnM, ↓k_fnK, lb_0, lb_1, lb_2, lb_3, lb_4, lb_5, lb_6, lb_7, lb_8, lb_9, lb_10, lb_11, lb_12, Gv_ret, Gv_some, Gv_none, Gv_fail, ite_F, kitII, kitIB, kitBI, kitBB, FinK_rt, Fin_nx, frz_int, frz_bl, frz_non, frz_str, frz_tup, frz_lst, frzs_nil, frzs_cons, Option.map_some, Option.bind_some, Fin_rt, noH, noHs, set_app, true_and, and_true, false_and, and_false, not_true_eq_false, not_false_eq_true, Option.some.injEq, exists_eq_left, exists_eq_left', take_all, take_set, ↓reduceIte, Bool.not_true, Bool.not_false, Bool.false_eq_true, if_true, if_false, Bool.and_true, Bool.true_and, Bool.and_false, Bool.false_and, decide_eq_true_eq, Bool.not_eq_true', decide_eq_false_iff_not]
  refine gv_sip h (by decide) (by decide) fun r S1 _ _ h1 => ?_
  simp only [↓k_var0, ↓k_varS, ↓k_c, ↓k_op, ↓k_op1, ↓k_op2, ↓k_un, ↓k_un1, ↓k_tOf, ↓k_b, ↓k_not, ↓k_not1, ↓k_and, ↓k_and1, ↓k_or, ↓k_or1, ↓k_eand, ↓k_eand1, ↓k_eor, ↓k_eor1, ↓k_enot, ↓k_enot1, ↓k_eif, ↓k_eif1, ↓k_chn, ↓k_chn1, ↓k_chn2, ↓k_chn3, ↓k_nil, ↓k_cons, ↓k_cons1, ↓k_cons2, ↓k_tup, ↓k_lst, ↓k_cel, ↓k_tup1, ↓k_lst1, ↓k_cel1, ↓k_call, ↓k_call1, ↓k_skip, ↓k_bk, ↓k_ct, ↓k_no, ↓k_seq, ↓k_seq1, ↓k_seq2, ↓k_seq3, ↓k_seq4, ↓k_ex, ↓k_ex1, ↓k_ret, ↓k_ret1, ↓k_if, ↓k_if1, ↓k_as, ↓k_as1, ↓k_nx, ↓k_st0, ↓k_stS, ↓k_set, ↓k_set1, ↓k_par2, ↓k_par21, ↓k_par3, ↓k_par31, ↓k_nm, ↓k_gsnil, ↓k_gscons, ↓k_gscons1, ↓k_gix, ↓k_gix1, ↓k_gix2, ↓k_gix3, ↓k_for, ↓k_for1, ↓k_isq, ↓k_isqT, ↓k_isqL, ↓k_isqS, ↓k_r1, ↓k_r11, ↓k_r21, ↓k_app, ↓k_ar0, ↓k_ar1, ↓k_gT1, ↓k_gL1, ↓k_ar2, ↓k_gT2, ↓k_gL2, ↓k_ar3, ↓k_gT3, ↓k_gL3, ↓k_ar4, ↓k_gT4, ↓k_gL4, ↓k_ar5, ↓k_gT5, ↓k_gL5, ↓k_ar6, ↓k_gT6, ↓k_gL6, ↓k_ar7, ↓k_gT7, ↓k_gL7, ↓k_add, ↓k_sub, ↓k_mul, ↓k_fdiv, ↓k_mod, ↓k_pow, ↓k_neg, ↓k_lt, ↓k_le, ↓k_gt, ↓k_ge, ↓k_eq, ↓k_ne, ↓k_eqs, ↓k_nes, ↓k_abs, ↓k_int, ↓k_intb, ↓k_boolb, ↓k_max, ↓k_min, ↓k_isi, ↓k_lenS, ↓k_lenL, ↓k_lenT, ↓k_is, ↓k_isn, ↓k_revL, ↓k_ixL, ↓k_ixT, ↓k_ixS, ↓k_at0, ↓k_at1, ↓k_at2, ↓k_at3, ↓k_en0, ↓k_enN, ↓k_enC, ↓k_fnM, ↓k_fnK, lb_0, lb_1, lb_2, lb_3, lb_4, lb_5, lb_6, lb_7, lb_8, lb_9, lb_10, lb_11, lb_12, Gv_ret, Gv_some, Gv_none, Gv_fail, ite_F, kitII, kitIB, kitBI, kitBB, FinK_rt, Fin_nx, frz_int, frz_bl, frz_non, frz_str, frz_tup, frz_lst, frzs_nil, frzs_cons, Option.map_some, Option.bind_some, Fin_rt, noH, noHs, set_app, true_and, and_true, false_and, and_false, not_true_eq_false, not_false_eq_true, Option.some.injEq, exists_eq_left, exists_eq_left', take_all, take_set, ↓reduceIte, Bool.not_true, Bool.not_false, Bool.false_eq_true, if_true, if_false, Bool.and_true, Bool.true_and, Bool.and_false, Bool.false_and, decide_eq_true_eq, Bool.not_eq_true', decide_eq_false_iff_not]
  by_cases hr : r = 0
  · rw [if_pos hr]
    refine gv_great h1 (by decide) (by decide) fun n S2 n0 n1 h2 => ?_
    simp only [↓k_var0, ↓k_varS, ↓k_c, ↓k_op, ↓k_op1, ↓k_op2, ↓k_un, ↓k_un1, ↓k_tOf, ↓k_b, ↓k_not, ↓k_not1, ↓k_and, ↓k_and1, ↓k_or, ↓k_or1, ↓k_eand, ↓k_eand1, ↓k_eor, ↓k_eor1, ↓k_enot, ↓k_enot1, ↓k_eif, ↓k_eif1, ↓k_chn, ↓k_chn1, ↓k_chn2, ↓k_chn3, ↓k_nil, ↓k_cons, ↓k_cons1, ↓k_cons2, ↓k_tup, ↓k_lst, ↓k_cel, ↓k_tup1, ↓k_lst1, ↓k_cel1, ↓k_call, ↓k_call1, ↓k_skip, ↓k_bk, ↓k_ct, ↓k_no, ↓k_seq, ↓k_seq1, ↓k_seq2, ↓k_seq3, ↓k_seq4, ↓k_ex, ↓k_ex1, ↓k_ret, ↓k_ret1, ↓k_if, ↓k_if1, ↓k_as, ↓k_as1, ↓k_nx, ↓k_st0, ↓k_stS, ↓k_set, ↓k_set1, ↓k_par2, ↓k_par21, ↓k_par3, ↓k_par31, ↓k_nm, ↓k_gsnil, ↓k_gscons, ↓k_gscons1, ↓k_gix, ↓k_gix1, ↓k_gix2, ↓k_gix3, ↓k_for, ↓k_for1, ↓k_isq, ↓k_isqT, ↓k_isqL, ↓k_isqS, ↓k_r1, ↓k_r11, ↓k_r21, ↓k_app, ↓k_ar0, ↓k_ar1, ↓k_gT1, ↓k_gL1, ↓k_ar2, ↓k_gT2, ↓k_gL2, ↓k_ar3, ↓k_gT3, ↓k_gL3, ↓k_ar4, ↓k_gT4, ↓k_gL4, ↓k_ar5, ↓k_gT5, ↓k_gL5, ↓k_ar6, ↓k_gT6, ↓k_gL6, ↓k_ar7, ↓k_gT7, ↓k_gL7, ↓k_add, ↓k_sub, ↓k_mul, ↓k_fdiv, ↓k_mod, ↓k_pow, ↓k_neg, ↓k_lt, ↓k_le, ↓k_gt, ↓k_ge, ↓k_eq, ↓k_ne, ↓k_eqs, ↓k_nes, ↓k_abs, ↓k_int, ↓k_intb, ↓k_boolb, ↓k_max, ↓k_min, ↓k_isi, ↓k_lenS, ↓k_lenL, ↓k_lenT, ↓k_is, ↓k_isn, ↓k_revL, ↓k_ixL, ↓k_ixT, ↓k_ixS, ↓k_at0, ↓k_at1, ↓k_at2, ↓k_at3, ↓k_en0, ↓k_enN, ↓k_enC, ↓k_fnM, ↓k_fnK, lb_0, lb_1, lb_2, lb_3, lb_4, lb_5, lb_6, lb_7, lb_8, lb_9, lb_10, lb_11, lb_12, Gv_ret, Gv_some, Gv_none, Gv_fail, ite_F, kitII, kitIB, kitBI, kitBB, FinK_rt, Fin_nx, frz_int, frz_bl, frz_non, frz_str, frz_tup, frz_lst, frzs_nil, frzs_cons, Option.map_some, Option.bind_some, Fin_rt, noH, noHs, set_app, true_and, and_true, false_and, and_false, not_true_eq_false, not_false_eq_true, Option.some.injEq, exists_eq_left, exists_eq_left', take_all, take_set, ↓reduceIte, Bool.not_true, Bool.not_false, Bool.false_eq_true, if_true, if_false, Bool.and_true, Bool.true_and, Bool.and_false, Bool.false_and, decide_eq_true_eq, Bool.not_eq_true', decide_eq_false_iff_not]
    refine gv_great h2 (by decide) (by decide) fun x1 S3 x10 x11 h3 => ?_
    simp only [↓k_var0, ↓k_varS, ↓k_c, ↓k_op, ↓k_op1, ↓k_op2, ↓k_un, ↓k_un1, ↓k_tOf, ↓k_b, ↓k_not, ↓k_not1, ↓k_and, ↓k_and1, ↓k_or, ↓k_or1, ↓k_eand, ↓k_eand1, ↓k_eor, ↓k_eor1, ↓k_enot, ↓k_enot1, ↓k_eif, ↓k_eif1, ↓k_chn, ↓k_chn1, ↓k_chn2, ↓k_chn3, ↓k_nil, ↓k_cons, ↓k_cons1, ↓k_cons2, ↓k_tup, ↓k_lst, ↓k_cel, ↓k_tup1, ↓k_lst1, ↓k_cel1, ↓k_call, ↓k_call1, ↓k_skip, ↓k_bk, ↓k_ct, ↓k_no, ↓k_seq, ↓k_seq1, ↓k_seq2, ↓k_seq3, ↓k_seq4, ↓k_ex, ↓k_ex1, ↓k_ret, ↓k_ret1, ↓k_if, ↓k_if1, ↓k_as, ↓k_as1, ↓k_nx, ↓k_st0, ↓k_stS, ↓k_set, ↓k_set1, ↓k_par2, ↓k_par21, ↓k_par3, ↓k_par31, ↓k_nm, ↓k_gsnil, ↓k_gscons, ↓k_gscons1, ↓k_gix, ↓k_gix1, ↓k_gix2, ↓k_gix3, ↓k_for, ↓k_for1, ↓k_isq, ↓k_isqT, ↓k_isqL, ↓k_isqS, ↓k_r1, ↓k_r11, ↓k_r21, ↓k_app, ↓k_ar0, ↓k_ar1, ↓k_gT1, ↓k_gL1, ↓k_ar2, ↓k_gT2, ↓k_gL2, ↓k_ar3, ↓k_gT3, ↓k_gL3, ↓k_ar4, ↓k_gT4, ↓k_gL4, ↓k_ar5, ↓k_gT5, ↓k_gL5, ↓k_ar6, ↓k_gT6, ↓k_gL6, ↓k_ar7, ↓k_gT7, ↓k_gL7, ↓k_add, ↓k_sub, ↓k_mul, ↓k_fdiv, ↓k_mod, ↓k_pow, ↓k_neg, ↓k_lt, ↓k_le, ↓k_gt, ↓k_ge, ↓k_eq, ↓k_ne, ↓k_eqs, ↓k_nes, ↓k_abs, ↓k_int, ↓k_intb, ↓k_boolb, ↓k_max, ↓k_min, ↓k_isi, ↓k_lenS, ↓k_lenL, ↓k_lenT, ↓k_is, ↓k_isn, ↓k_revL, ↓k_ixL, ↓k_ixT, ↓k_ixS, ↓k_at0, ↓k_at1, ↓k_at2, ↓k_at3, ↓k_en0, ↓k_enN, ↓k_enC, ↓k_fnM, ↓k_fnK, lb_0, lb_1, lb_2, lb_3, lb_4, lb_5, lb_6, lb_7, lb_8, lb_9, lb_10, lb_11, lb_12, Gv_ret, Gv_some, Gv_none, Gv_fail, ite_F, kitII, kitIB, kitBI, kitBB, FinK_rt, Fin_nx, frz_int, frz_bl, frz_non, frz_str, frz_tup, frz_lst, frzs_nil, frzs_cons, Option.map_some, Option.bind_some, Fin_rt, noH, noHs, set_app, true_and, and_true, false_and, and_false, not_true_eq_false, not_false_eq_true, Option.some.injEq, exists_eq_left, exists_eq_left', take_all, take_set, ↓reduceIte, Bool.not_true, Bool.not_false, Bool.false_eq_true, if_true, if_false, Bool.and_true, Bool.true_and, Bool.and_false, Bool.false_and, decide_eq_true_eq, Bool.not_eq_true', decide_eq_false_iff_not]
    refine gv_great h3 (by decide) (by decide) fun x2 S4 x20 x21 h4 => ?_
    simp only [↓k_var0, ↓k_varS, ↓k_c, ↓k_op, ↓k_op1, ↓k_op2, ↓k_un, ↓k_un1, ↓k_tOf, ↓k_b, ↓k_not, ↓k_not1, ↓k_and, ↓k_and1, ↓k_or, ↓k_or1, ↓k_eand, ↓k_eand1, ↓k_eor, ↓k_eor1, ↓k_enot, ↓k_enot1, ↓k_eif, ↓k_eif1, ↓k_chn, ↓k_chn1, ↓k_chn2, ↓k_chn3, ↓k_nil, ↓k_cons, ↓k_cons1, ↓k_cons2, ↓k_tup, ↓k_lst, ↓k_cel, ↓k_tup1, ↓k_lst1, ↓k_cel1, ↓k_call, ↓k_call1, ↓k_skip, ↓k_bk, ↓k_ct, ↓k_no, ↓k_seq, ↓k_seq1, ↓k_seq2, ↓k_seq3, ↓k_seq4, ↓k_ex, ↓k_ex1, ↓k_ret, ↓k_ret1, ↓k_if, ↓k_if1, ↓k_as, ↓k_as1, ↓k_nx, ↓k_st0, ↓k_stS, ↓k_set, ↓k_set1, ↓k_par2, ↓k_par21, ↓k_par3, ↓k_par31, ↓k_nm, ↓k_gsnil, ↓k_gscons, ↓k_gscons1, ↓k_gix, ↓k_gix1, ↓k_gix2, ↓k_gix3, ↓k_for, ↓k_for1, ↓k_isq, ↓k_isqT, ↓k_isqL, ↓k_isqS, ↓k_r1, ↓k_r11, ↓k_r21, ↓k_app, ↓k_ar0, ↓k_ar1, ↓k_gT1, ↓k_gL1, ↓k_ar2, ↓k_gT2, ↓k_gL2, ↓k_ar3, ↓k_gT3, ↓k_gL3, ↓k_ar4, ↓k_gT4, ↓k_gL4, ↓k_ar5, ↓k_gT5, ↓k_gL5, ↓k_ar6, ↓k_gT6, ↓k_gL6, ↓k_ar7, ↓k_gT7, ↓k_gL7, ↓k_add, ↓k_sub, ↓k_mul, ↓k_fdiv, ↓k_mod, ↓k_pow, ↓k_neg, ↓k_lt, ↓k_le, ↓k_gt, ↓k_ge, ↓k_eq, ↓k_ne, ↓k_eqs, ↓k_nes, ↓k_abs, ↓k_int, ↓k_intb, ↓k_boolb, ↓k_max, ↓k_min, ↓k_isi, ↓k_lenS, ↓k_lenL, ↓k_lenT, ↓k_is, ↓k_isn, ↓k_revL, ↓k_ixL, ↓k_ixT, ↓k_ixS, ↓k_at0, ↓k_at1, ↓k_at2, ↓k_at3, ↓k_en0, ↓k_enN, ↓k_enC, ↓k_fnM, ↓k_fnK, lb_0, lb_1, lb_2, lb_3, lb_4, lb_5, lb_6, lb_7, lb_8, lb_9, lb_10, lb_11, lb_12, Gv_ret, Gv_some, Gv_none, Gv_fail, ite_F, kitII, kitIB, kitBI, kitBB, FinK_rt, Fin_nx, frz_int, frz_bl, frz_non, frz_str, frz_tup, frz_lst, frzs_nil, frzs_cons, Option.map_some, Option.bind_some, Fin_rt, noH, noHs, set_app, true_and, and_true, false_and, and_false, not_true_eq_false, not_false_eq_true, Option.some.injEq, exists_eq_left, exists_eq_left', take_all, take_set, ↓reduceIte, Bool.not_true, Bool.not_false, Bool.false_eq_true, if_true, if_false, Bool.and_true, Bool.true_and, Bool.and_false, Bool.false_and, decide_eq_true_eq, Bool.not_eq_true', decide_eq_false_iff_not]
    refine gv_great h4 (by decide) (by decide) fun x3 S5 x30 x31 h5 => ?_
    simp only [↓k_var0, ↓k_varS, ↓k_c, ↓k_op, ↓k_op1, ↓k_op2, ↓k_un, ↓k_un1, ↓k_tOf, ↓k_b, ↓k_not, ↓k_not1, ↓k_and, ↓k_and1, ↓k_or, ↓k_or1, ↓k_eand, ↓k_eand1, ↓k_eor, ↓k_eor1, ↓k_enot, ↓k_enot1, ↓k_eif, ↓k_eif1, ↓k_chn, ↓k_chn1, ↓k_chn2, ↓k_chn3, ↓k_nil, ↓k_cons, ↓k_cons1, ↓k_cons2, ↓k_tup, ↓k_lst, ↓k_cel, ↓k_tup1, ↓k_lst1, ↓k_cel1, ↓k_call, ↓k_call1, ↓k_skip, ↓k_bk, ↓k_ct, ↓k_no, ↓k_seq, ↓k_seq1, ↓k_seq2, ↓k_seq3, ↓k_seq4, ↓k_ex, ↓k_ex1, ↓k_ret, ↓k_ret1, ↓k_if, ↓k_if1, ↓k_as, ↓k_as1, ↓k_nx, ↓k_st0, ↓k_stS, ↓k_set, ↓k_set1, ↓k_par2, ↓k_par21, ↓k_par3, ↓k_par31, ↓k_nm, ↓k_gsnil, ↓k_gscons, ↓k_gscons1, ↓k_gix, ↓k_gix1, ↓k_gix2, ↓k_gix3, ↓k_for, ↓k_for1, ↓k_isq, ↓k_isqT, ↓k_isqL, ↓k_isqS, ↓k_r1, ↓k_r11, ↓k_r21, ↓k_app, ↓k_ar0, ↓k_ar1, ↓k_gT1, ↓k_gL1, ↓k_ar2, ↓k_gT2, ↓k_gL2, ↓k_ar3, ↓k_gT3, ↓k_gL3, ↓k_ar4, ↓k_gT4, ↓k_gL4, ↓k_ar5, ↓k_gT5, ↓k_gL5, ↓k_ar6, ↓k_gT6, ↓k_gL6, ↓k_ar7, ↓k_gT7, ↓k_gL7, ↓k_add, ↓k_sub, ↓k_mul, ↓k_fdiv, ↓k_mod, ↓k_pow, ↓k_neg, ↓k_lt, ↓k_le, ↓k_gt, ↓k_ge, ↓k_eq, ↓k_ne, ↓k_eqs, ↓k_nes, ↓k_abs, ↓k_int, ↓k_intb, ↓k_boolb, ↓k_max, ↓k_min, ↓k_isi, ↓k_lenS, ↓k_lenL, ↓k_lenT, ↓k_is, ↓k_isn, ↓k_revL, ↓k_ixL, ↓k_ixT, ↓k_ixS, ↓k_at0, ↓k_at1, ↓k_at2, ↓k_at3, ↓k_en0, ↓k_enN, ↓k_enC, ↓k_fnM, ↓k_fnK, lb_0, lb_1, lb_2, lb_3, lb_4, lb_5, lb_6, lb_7, lb_8, lb_9, lb_10, lb_11, lb_12, Gv_ret, Gv_some, Gv_none, Gv_fail, ite_F, kitII, kitIB, kitBI, kitBB, FinK_rt, Fin_nx, frz_int, frz_bl, frz_non, frz_str, frz_tup, frz_lst, frzs_nil, frzs_cons, Option.map_some, Option.bind_some, Fin_rt, noH, noHs, set_app, true_and, and_true, false_and, and_false, not_true_eq_false, not_false_eq_true, Option.some.injEq, exists_eq_left, exists_eq_left', take_all, take_set, ↓reduceIte, Bool.not_true, Bool.not_false, Bool.false_eq_true, if_true, if_false, Bool.and_true, Bool.true_and, Bool.and_false, Bool.false_and, decide_eq_true_eq, Bool.not_eq_true', decide_eq_false_iff_not]
    refine gv_great h5 (by decide) (by decide) fun x4 S6 x40 x41 h6 => ?_
    simp only [↓k_var0, ↓k_varS, ↓k_c, ↓k_op, ↓k_op1, ↓k_op2, ↓k_un, ↓k_un1, ↓k_tOf, ↓k_b, ↓k_not, ↓k_not1, ↓k_and, ↓k_and1, ↓k_or, ↓k_or1, ↓k_eand, ↓k_eand1, ↓k_eor, ↓k_eor1, ↓k_enot, ↓k_enot1, ↓k_eif, ↓k_eif1, ↓k_chn, ↓k_chn1, ↓k_chn2, ↓k_chn3, ↓k_nil, ↓k_cons, ↓k_cons1, ↓k_cons2, ↓k_tup, ↓k_lst, ↓k_cel, ↓k_tup1, ↓k_lst1, ↓k_cel1, ↓k_call, ↓k_call1, ↓k_skip, ↓k_bk, ↓k_ct, ↓k_no, ↓k_seq, ↓k_seq1, ↓k_seq2, ↓k_seq3, ↓k_seq4, ↓k_ex, ↓k_ex1, ↓k_ret, ↓k_ret1, ↓k_if, ↓k_if1, ↓k_as, ↓k_as1, ↓k_nx, ↓k_st0, ↓k_stS, ↓k_set, ↓k_set1, ↓k_par2, ↓k_par21, ↓k_par3, ↓k_par31, ↓k_nm, ↓k_gsnil, ↓k_gscons, ↓k_gscons1, ↓k_gix, ↓k_gix1, ↓k_gix2, ↓k_gix3, ↓k_for, ↓k_for1, ↓k_isq, ↓k_isqT, ↓k_isqL, ↓k_isqS, ↓k_r1, ↓k_r11, ↓k_r21, ↓k_app, ↓k_ar0, ↓k_ar1, ↓k_gT1, ↓k_gL1, ↓k_ar2, ↓k_gT2, ↓k_gL2, ↓k_ar3, ↓k_gT3, ↓k_gL3, ↓k_ar4, ↓k_gT4, ↓k_gL4, ↓k_ar5, ↓k_gT5, ↓k_gL5, ↓k_ar6, ↓k_gT6, ↓k_gL6, ↓k_ar7, ↓k_gT7, ↓k_gL7, ↓k_add, ↓k_sub, ↓k_mul, ↓k_fdiv, ↓k_mod, ↓k_pow, ↓k_neg, ↓k_lt, ↓k_le, ↓k_gt, ↓k_ge, ↓k_eq, ↓k_ne, ↓k_eqs, ↓k_nes, ↓k_abs, ↓k_int, ↓k_intb, ↓k_boolb, ↓k_max, ↓k_min, ↓k_isi, ↓k_lenS, ↓k_lenL, ↓k_lenT, ↓k_is, ↓k_isn, ↓k_revL, ↓k_ixL, ↓k_ixT, ↓k_ixS, ↓k_at0, ↓k_at1, ↓k_at2, ↓k_at3, ↓k_en0, ↓k_enN, ↓k_enC, ↓k_fnM, ↓k_fnK, lb_0, lb_1, lb_2, lb_3, lb_4, lb_5, lb_6, lb_7, lb_8, lb_9, lb_10, lb_11, lb_12, Gv_ret, Gv_some, Gv_none, Gv_fail, ite_F, kitII, kitIB, kitBI, kitBB, FinK_rt, Fin_nx, frz_int, frz_bl, frz_non, frz_str, frz_tup, frz_lst, frzs_nil, frzs_cons, Option.map_some, Option.bind_some, Fin_rt, noH, noHs, set_app, true_and, and_true, false_and, and_false, not_true_eq_false, not_false_eq_true, Option.some.injEq, exists_eq_left, exists_eq_left', take_all, take_set, ↓reduceIte, Bool.not_true, Bool.not_false, Bool.false_eq_true, if_true, if_false, Bool.and_true, Bool.true_and, Bool.and_false, Bool.false_and, decide_eq_true_eq, Bool.not_eq_true', decide_eq_false_iff_not]
    refine gv_great h6 (by decide) (by decide) fun x5 S7 x50 x51 h7 => ?_
    simp only [↓k_var0, ↓k_varS, ↓k_c, ↓k_op, ↓k_op1, ↓k_op2, ↓k_un, ↓k_un1, ↓k_tOf, ↓k_b, ↓k_not, ↓k_not1, ↓k_and, ↓k_and1, ↓k_or, ↓k_or1, ↓k_eand, ↓k_eand1, ↓k_eor, ↓k_eor1, ↓k_enot, ↓k_enot1, ↓k_eif, ↓k_eif1, ↓k_chn, ↓k_chn1, ↓k_chn2, ↓k_chn3, ↓k_nil, ↓k_cons, ↓k_cons1, ↓k_cons2, ↓k_tup, ↓k_lst, ↓k_cel, ↓k_tup1, ↓k_lst1, ↓k_cel1, ↓k_call, ↓k_call1, ↓k_skip, ↓k_bk, ↓k_ct, ↓k_no, ↓k_seq, ↓k_seq1, ↓k_seq2, ↓k_seq3, ↓k_seq4, ↓k_ex, ↓k_ex1, ↓k_ret, ↓k_ret1, ↓k_if, ↓k_if1, ↓k_as, ↓k_as1, ↓k_nx, ↓k_st0, ↓k_stS, ↓k_set, ↓k_set1, ↓k_par2, ↓k_par21, ↓k_par3, ↓k_par31, ↓k_nm, ↓k_gsnil, ↓k_gscons, ↓k_gscons1, ↓k_gix, ↓k_gix1, ↓k_gix2, ↓k_gix3, ↓k_for, ↓k_for1, ↓k_isq, ↓k_isqT, ↓k_isqL, ↓k_isqS, ↓k_r1, ↓k_r11, ↓k_r21, ↓k_app, ↓k_ar0, ↓k_ar1, ↓k_gT1, ↓k_gL1, ↓k_ar2, ↓k_gT2, ↓k_gL2, ↓k_ar3, ↓k_gT3, ↓k_gL3, ↓k_ar4, ↓k_gT4, ↓k_gL4, ↓k_ar5, ↓k_gT5, ↓k_gL5, ↓k_ar6, ↓k_gT6, ↓k_gL6, ↓k_ar7, ↓k_gT7, ↓k_gL7, ↓k_add, ↓k_sub, ↓k_mul, ↓k_fdiv, ↓k_mod, ↓k_pow, ↓k_neg, ↓k_lt, ↓k_le, ↓k_gt, ↓k_ge, ↓k_eq, ↓k_ne, ↓k_eqs, ↓k_nes, ↓k_abs, ↓k_int, ↓k_intb, ↓k_boolb, ↓k_max, ↓k_min, ↓k_isi, ↓k_lenS, ↓k_lenL, ↓k_lenT, ↓k_is, ↓k_isn, ↓k_revL, ↓k_ixL, ↓k_ixT, ↓k_ixS, ↓k_at0, ↓k_at1, ↓k_at2, ↓k_at3, ↓k_en0, ↓k_enN, ↓k_enC, ↓k_fnM, ↓k_fnK, lb_0, lb_1, lb_2, lb_3, lb_4, lb_5, lb_6, lb_7, lb_8, lb_9, lb_10, lb_11, lb_12, Gv_ret, Gv_some, Gv_none, Gv_fail, ite_F, kitII, kitIB, kitBI, kitBB, FinK_rt, Fin_nx, frz_int, frz_bl, frz_non, frz_str, frz_tup, frz_lst, frzs_nil, frzs_cons, Option.map_some, Option.bind_some, Fin_rt, noH, noHs, set_app, true_and, and_true, false_and, and_false, not_true_eq_false, not_false_eq_true, Option.some.injEq, exists_eq_left, exists_eq_left', take_all, take_set, ↓reduceIte, Bool.not_true, Bool.not_false, Bool.false_eq_true, if_true, if_false, Bool.and_true, Bool.true_and, Bool.and_false, Bool.false_and, decide_eq_true_eq, Bool.not_eq_true', decide_eq_false_iff_not, take_len (h7.1.trans h.1.symm)]
    rw [p4] at n1
    rw [p5] at x11 x21
    rw [p9] at x31 x41 x51
    have e : (n.toNat : Int) = n := Int.toNat_of_nonneg n0
    rw [← e]
    exact q _ _ _ _ _ ⟨by omega, by omega, by omega, by omega, by omega, by omega, by omega⟩ h7
  · rw [if_neg hr]
    refine gv_great h1 (by decide) (by decide) fun n S2 n0 n1 h2 => ?_
    simp only [↓k_var0, ↓k_varS, ↓k_c, ↓k_op, ↓k_op1, ↓k_op2, ↓k_un, ↓k_un1, ↓k_tOf, ↓k_b, ↓k_not, ↓k_not1, ↓k_and, ↓k_and1, ↓k_or, ↓k_or1, ↓k_eand, ↓k_eand1, ↓k_eor, ↓k_eor1, ↓k_enot, ↓k_enot1, ↓k_eif, ↓k_eif1, ↓k_chn, ↓k_chn1, ↓k_chn2, ↓k_chn3, ↓k_nil, ↓k_cons, ↓k_cons1, ↓k_cons2, ↓k_tup, ↓k_lst, ↓k_cel, ↓k_tup1, ↓k_lst1, ↓k_cel1, ↓k_call, ↓k_call1, ↓k_skip, ↓k_bk, ↓k_ct, ↓k_no, ↓k_seq, ↓k_seq1, ↓k_seq2, ↓k_seq3, ↓k_seq4, ↓k_ex, ↓k_ex1, ↓k_ret, ↓k_ret1, ↓k_if, ↓k_if1, ↓k_as, ↓k_as1, ↓k_nx, ↓k_st0, ↓k_stS, ↓k_set, ↓k_set1, ↓k_par2, ↓k_par21, ↓k_par3, ↓k_par31, ↓k_nm, ↓k_gsnil, ↓k_gscons, ↓k_gscons1, ↓k_gix, ↓k_gix1, ↓k_gix2, ↓k_gix3, ↓k_for, ↓k_for1, ↓k_isq, ↓k_isqT, ↓k_isqL, ↓k_isqS, ↓k_r1, ↓k_r11, ↓k_r21, ↓k_app, ↓k_ar0, ↓k_ar1, ↓k_gT1, ↓k_gL1, ↓k_ar2, ↓k_gT2, ↓k_gL2, ↓k_ar3, ↓k_gT3, ↓k_gL3, ↓k_ar4, ↓k_gT4, ↓k_gL4, ↓k_ar5, ↓k_gT5, ↓k_gL5, ↓k_ar6, ↓k_gT6, ↓k_gL6, ↓k_ar7, ↓k_gT7, ↓k_gL7, ↓k_add, ↓k_sub, ↓k_mul, ↓k_fdiv, ↓k_mod, ↓k_pow, ↓k_neg, ↓k_lt, ↓k_le, ↓k_gt, ↓k_ge, ↓k_eq, ↓k_ne, ↓k_eqs, ↓k_nes, ↓k_abs, ↓k_int, ↓k_intb, ↓k_boolb, ↓k_max, ↓k_min, ↓k_isi, ↓k_lenS, ↓k_lenL, ↓k_lenT, ↓k_is, ↓k_isn, ↓k_revL, ↓k_ixL, ↓k_ixT, ↓k_ixS, ↓k_at0, ↓k_at1, ↓k_at2, ↓k_at3, ↓k_en0, ↓k_enN, ↓k_enC, ↓k_fnM, ↓k_fnK, lb_0, lb_1, lb_2, lb_3, lb_4, lb_5, lb_6, lb_7, lb_8, lb_9, lb_10, lb_11, lb_12, Gv_ret, Gv_some, Gv_none, Gv_fail, ite_F, kitII, kitIB, kitBI, kitBB, FinK_rt, Fin_nx, frz_int, frz_bl, frz_non, frz_str, frz_tup, frz_lst, frzs_nil, frzs_cons, Option.map_some, Option.bind_some, Fin_rt, noH, noHs, set_app, true_and, and_true, false_and, and_false, not_true_eq_false, not_false_eq_true, Option.some.injEq, exists_eq_left, exists_eq_left', take_all, take_set, ↓reduceIte, Bool.not_true, Bool.not_false, Bool.false_eq_true, if_true, if_false, Bool.and_true, Bool.true_and, Bool.and_false, Bool.false_and, decide_eq_true_eq, Bool.not_eq_true', decide_eq_false_iff_not]
    refine gv_great h2 (by decide) (by decide) fun x5 S3 x50 x51 h3 => ?_
    simp only [↓k_var0, ↓k_varS, ↓k_c, ↓k_op, ↓k_op1, ↓k_op2, ↓k_un, ↓k_un1, ↓k_tOf, ↓k_b, ↓k_not, ↓k_not1, ↓k_and, ↓k_and1, ↓k_or, ↓k_or1, ↓k_eand, ↓k_eand1, ↓k_eor, ↓k_eor1, ↓k_enot, ↓k_enot1, ↓k_eif, ↓k_eif1, ↓k_chn, ↓k_chn1, ↓k_chn2, ↓k_chn3, ↓k_nil, ↓k_cons, ↓k_cons1, ↓k_cons2, ↓k_tup, ↓k_lst, ↓k_cel, ↓k_tup1, ↓k_lst1, ↓k_cel1, ↓k_call, ↓k_call1, ↓k_skip, ↓k_bk, ↓k_ct, ↓k_no, ↓k_seq, ↓k_seq1, ↓k_seq2, ↓k_seq3, ↓k_seq4, ↓k_ex, ↓k_ex1, ↓k_ret, ↓k_ret1, ↓k_if, ↓k_if1, ↓k_as, ↓k_as1, ↓k_nx, ↓k_st0, ↓k_stS, ↓k_set, ↓k_set1, ↓k_par2, ↓k_par21, ↓k_par3, ↓k_par31, ↓k_nm, ↓k_gsnil, ↓k_gscons, ↓k_gscons1, ↓k_gix, ↓k_gix1, ↓k_gix2, ↓k_gix3, ↓k_for, ↓k_for1, ↓k_isq, ↓k_isqT, ↓k_isqL, ↓k_isqS, ↓k_r1, ↓k_r11, ↓k_r21, ↓k_app, ↓k_ar0, ↓k_ar1, ↓k_gT1, ↓k_gL1, ↓k_ar2, ↓k_gT2, ↓k_gL2, ↓k_ar3, ↓k_gT3, ↓k_gL3, ↓k_ar4, ↓k_gT4, ↓k_gL4, ↓k_ar5, ↓k_gT5, ↓k_gL5, ↓k_ar6, ↓k_gT6, ↓k_gL6, ↓k_ar7, ↓k_gT7, ↓k_gL7, ↓k_add, ↓k_sub, ↓k_mul, ↓k_fdiv, ↓k_mod, ↓k_pow, ↓k_neg, ↓k_lt, ↓k_le, ↓k_gt, ↓k_ge, ↓k_eq, ↓k_ne, ↓k_eqs, ↓k_nes, ↓k_abs, ↓k_int, ↓k_intb, ↓k_boolb, ↓k_max, ↓k_min, ↓k_isi, ↓k_lenS, ↓k_lenL, ↓k_lenT, ↓k_is, ↓k_isn, ↓k_revL, ↓k_ixL, ↓k_ixT, ↓k_ixS, ↓k_at0, ↓k_at1, ↓k_at2, ↓k_at3, ↓k_en0, ↓k_enN, ↓k_enC, ↓k_fnM, ↓k_fnK, lb_0, lb_1, lb_2, lb_3, lb_4, lb_5, lb_6, lb_7, lb_8, lb_9, lb_10, lb_11, lb_12, Gv_ret, Gv_some, Gv_none, Gv_fail, ite_F, kitII, kitIB, kitBI, kitBB, FinK_rt, Fin_nx, frz_int, frz_bl, frz_non, frz_str, frz_tup, frz_lst, frzs_nil, frzs_cons, Option.map_some, Option.bind_some, Fin_rt, noH, noHs, set_app, true_and, and_true, false_and, and_false, not_true_eq_false, not_false_eq_true, Option.some.injEq, exists_eq_left, exists_eq_left', take_all, take_set, ↓reduceIte, Bool.not_true, Bool.not_false, Bool.false_eq_true, if_true, if_false, Bool.and_true, Bool.true_and, Bool.and_false, Bool.false_and, decide_eq_true_eq, Bool.not_eq_true', decide_eq_false_iff_not]
    refine gv_great h3 (by decide) (by decide) fun x1 S4 x10 x11 h4 => ?_
    simp only [↓k_var0, ↓k_varS, ↓k_c, ↓k_op, ↓k_op1, ↓k_op2, ↓k_un, ↓k_un1, ↓k_tOf, ↓k_b, ↓k_not, ↓k_not1, ↓k_and, ↓k_and1, ↓k_or, ↓k_or1, ↓k_eand, ↓k_eand1, ↓k_eor, ↓k_eor1, ↓k_enot, ↓k_enot1, ↓k_eif, ↓k_eif1, ↓k_chn, ↓k_chn1, ↓k_chn2, ↓k_chn3, ↓k_nil, ↓k_cons, ↓k_cons1, ↓k_cons2, ↓k_tup, ↓k_lst, ↓k_cel, ↓k_tup1, ↓k_lst1, ↓k_cel1, ↓k_call, ↓k_call1, ↓k_skip, ↓k_bk, ↓k_ct, ↓k_no, ↓k_seq, ↓k_seq1, ↓k_seq2, ↓k_seq3, ↓k_seq4, ↓k_ex, ↓k_ex1, ↓k_ret, ↓k_ret1, ↓k_if, ↓k_if1, ↓k_as, ↓k_as1, ↓k_nx, ↓k_st0, ↓k_stS, ↓k_set, ↓k_set1, ↓k_par2, ↓k_par21, ↓k_par3, ↓k_par31, ↓k_nm, ↓k_gsnil, ↓k_gscons, ↓k_gscons1, ↓k_gix, ↓k_gix1, ↓k_gix2, ↓k_gix3, ↓k_for, ↓k_for1, ↓k_isq, ↓k_isqT, ↓k_isqL, ↓k_isqS, ↓k_r1, ↓k_r11, ↓k_r21, ↓k_app, ↓k_ar0, ↓k_ar1, ↓k_gT1, ↓k_gL1, ↓k_ar2, ↓k_gT2, ↓k_gL2, ↓k_ar3, ↓k_gT3, ↓k_gL3, ↓k_ar4, ↓k_gT4, ↓k_gL4, ↓k_ar5, ↓k_gT5, ↓k_gL5, ↓k_ar6, ↓k_gT6, ↓k_gL6, ↓k_ar7, ↓k_gT7, ↓k_gL7, ↓k_add, ↓k_sub, ↓k_mul, ↓k_fdiv, ↓k_mod, ↓k_pow, ↓k_neg, ↓k_lt, ↓k_le, ↓k_gt, ↓k_ge, ↓k_eq, ↓k_ne, ↓k_eqs, ↓k_nes, ↓k_abs, ↓k_int, ↓k_intb, ↓k_boolb, ↓k_max, ↓k_min, ↓k_isi, ↓k_lenS, ↓k_lenL, ↓k_lenT, ↓k_is, ↓k_isn, ↓k_revL, ↓k_ixL, ↓k_ixT, ↓k_ixS, ↓k_at0, ↓k_at1, ↓k_at2, ↓k_at3, ↓k_en0, ↓k_enN, ↓k_enC, ↓k_fnM, ↓k_fnK, lb_0, lb_1, lb_2, lb_3, lb_4, lb_5, lb_6, lb_7, lb_8, lb_9, lb_10, lb_11, lb_12, Gv_ret, Gv_some, Gv_none, Gv_fail, ite_F, kitII, kitIB, kitBI, kitBB, FinK_rt, Fin_nx, frz_int, frz_bl, frz_non, frz_str, frz_tup, frz_lst, frzs_nil, frzs_cons, Option.map_some, Option.bind_some, Fin_rt, noH, noHs, set_app, true_and, and_true, false_and, and_false, not_true_eq_false, not_false_eq_true, Option.some.injEq, exists_eq_left, exists_eq_left', take_all, take_set, ↓reduceIte, Bool.not_true, Bool.not_false, Bool.false_eq_true, if_true, if_false, Bool.and_true, Bool.true_and, Bool.and_false, Bool.false_and, decide_eq_true_eq, Bool.not_eq_true', decide_eq_false_iff_not]
    refine gv_great h4 (by decide) (by decide) fun x2 S5 x20 x21 h5 => ?_
    simp only [↓k_var0, ↓k_varS, ↓k_c, ↓k_op, ↓k_op1, ↓k_op2, ↓k_un, ↓k_un1, ↓k_tOf, ↓k_b, ↓k_not, ↓k_not1, ↓k_and, ↓k_and1, ↓k_or, ↓k_or1, ↓k_eand, ↓k_eand1, ↓k_eor, ↓k_eor1, ↓k_enot, ↓k_enot1, ↓k_eif, ↓k_eif1, ↓k_chn, ↓k_chn1, ↓k_chn2, ↓k_chn3, ↓k_nil, ↓k_cons, ↓k_cons1, ↓k_cons2, ↓k_tup, ↓k_lst, ↓k_cel, ↓k_tup1, ↓k_lst1, ↓k_cel1, ↓k_call, ↓k_call1, ↓k_skip, ↓k_bk, ↓k_ct, ↓k_no, ↓k_seq, ↓k_seq1, ↓k_seq2, ↓k_seq3, ↓k_seq4, ↓k_ex, ↓k_ex1, ↓k_ret, ↓k_ret1, ↓k_if, ↓k_if1, ↓k_as, ↓k_as1, ↓k_nx, ↓k_st0, ↓k_stS, ↓k_set, ↓k_set1, ↓k_par2, ↓k_par21, ↓k_par3, ↓k_par31, ↓k_nm, ↓k_gsnil, ↓k_gscons, ↓k_gscons1, ↓k_gix, ↓k_gix1, ↓k_gix2, ↓k_gix3, ↓k_for, ↓k_for1, ↓k_isq, ↓k_isqT, ↓k_isqL, ↓k_isqS, ↓k_r1, ↓k_r11, ↓k_r21, ↓k_app, ↓k_ar0, ↓k_ar1, ↓k_gT1, ↓k_gL1, ↓k_ar2, ↓k_gT2, ↓k_gL2, ↓k_ar3, ↓k_gT3, ↓k_gL3, ↓k_ar4, ↓k_gT4, ↓k_gL4, ↓k_ar5, ↓k_gT5, ↓k_gL5, ↓k_ar6, ↓k_gT6, ↓k_gL6, ↓k_ar7, ↓k_gT7, ↓k_gL7, ↓k_add, ↓k_sub, ↓k_mul, ↓k_fdiv, ↓k_mod, ↓k_pow, ↓k_neg, ↓k_lt, ↓k_le, ↓k_gt, ↓k_ge, ↓k_eq, ↓k_ne, ↓k_eqs, ↓k_nes, ↓k_abs, ↓k_int, ↓k_intb, ↓k_boolb, ↓k_max, ↓k_min, ↓k_isi, ↓k_lenS, ↓k_lenL, ↓k_lenT, ↓k_is, ↓k_isn, ↓k_revL, ↓k_ixL, ↓k_ixT, ↓k_ixS, ↓k_at0, ↓k_at1, ↓k_at2, ↓k_at3, ↓k_en0, ↓k_enN, ↓k_enC, ↓k_fnM, ↓k_fnK, lb_0, lb_1, lb_2, lb_3, lb_4, lb_5, lb_6, lb_7, lb_8, lb_9, lb_10, lb_11, lb_12, Gv_ret, Gv_some, Gv_none, Gv_fail, ite_F, kitII, kitIB, kitBI, kitBB, FinK_rt, Fin_nx, frz_int, frz_bl, frz_non, frz_str, frz_tup, frz_lst, frzs_nil, frzs_cons, Option.map_some, Option.bind_some, Fin_rt, noH, noHs, set_app, true_and, and_true, false_and, and_false, not_true_eq_false, not_false_eq_true, Option.some.injEq, exists_eq_left, exists_eq_left', take_all, take_set, ↓reduceIte, Bool.not_true, Bool.not_false, Bool.false_eq_true, if_true, if_false, Bool.and_true, Bool.true_and, Bool.and_false, Bool.false_and, decide_eq_true_eq, Bool.not_eq_true', decide_eq_false_iff_not]
    refine gv_great h5 (by decide) (by decide) fun x3 S6 x30 x31 h6 => ?_
    simp only [↓k_var0, ↓k_varS, ↓k_c, ↓k_op, ↓k_op1, ↓k_op2, ↓k_un, ↓k_un1, ↓k_tOf, ↓k_b, ↓k_not, ↓k_not1, ↓k_and, ↓k_and1, ↓k_or, ↓k_or1, ↓k_eand, ↓k_eand1, ↓k_eor, ↓k_eor1, ↓k_enot, ↓k_enot1, ↓k_eif, ↓k_eif1, ↓k_chn, ↓k_chn1, ↓k_chn2, ↓k_chn3, ↓k_nil, ↓k_cons, ↓k_cons1, ↓k_cons2, ↓k_tup, ↓k_lst, ↓k_cel, ↓k_tup1, ↓k_lst1, ↓k_cel1, ↓k_call, ↓k_call1, ↓k_skip, ↓k_bk, ↓k_ct, ↓k_no, ↓k_seq, ↓k_seq1, ↓k_seq2, ↓k_seq3, ↓k_seq4, ↓k_ex, ↓k_ex1, ↓k_ret, ↓k_ret1, ↓k_if, ↓k_if1, ↓k_as, ↓k_as1, ↓k_nx, ↓k_st0, ↓k_stS, ↓k_set, ↓k_set1, ↓k_par2, ↓k_par21, ↓k_par3, ↓k_par31, ↓k_nm, ↓k_gsnil, ↓k_gscons, ↓k_gscons1, ↓k_gix, ↓k_gix1, ↓k_gix2, ↓k_gix3, ↓k_for, ↓k_for1, ↓k_isq, ↓k_isqT, ↓k_isqL, ↓k_isqS, ↓k_r1, ↓k_r11, ↓k_r21, ↓k_app, ↓k_ar0, ↓k_ar1, ↓k_gT1, ↓k_gL1, ↓k_ar2, ↓k_gT2, ↓k_gL2, ↓k_ar3, ↓k_gT3, ↓k_gL3, ↓k_ar4, ↓k_gT4, ↓k_gL4, ↓k_ar5, ↓k_gT5, ↓k_gL5, ↓k_ar6, ↓k_gT6, ↓k_gL6, ↓k_ar7, ↓k_gT7, ↓k_gL7, ↓k_add, ↓k_sub, ↓k_mul, ↓k_fdiv, ↓k_mod, ↓k_pow, ↓k_neg, ↓k_lt, ↓k_le, ↓k_gt, ↓k_ge, ↓k_eq, ↓k_ne, ↓k_eqs, ↓k_nes, ↓k_abs, ↓k_int, ↓k_intb, ↓k_boolb, ↓k_max, ↓k_min, ↓k_isi, ↓k_lenS, ↓k_lenL, ↓k_lenT, ↓k_is, ↓k_isn, ↓k_revL, ↓k_ixL, ↓k_ixT, ↓k_ixS, ↓k_at0, ↓k_at1, ↓k_at2, ↓k_at3, ↓k_en0, ↓k_enN, ↓k_enC, ↓k_fnM, ↓k_fnK, lb_0, lb_1, lb_2, lb_3, lb_4, lb_5, lb_6, lb_7, lb_8, lb_9, lb_10, lb_11, lb_12, Gv_ret, Gv_some, Gv_none, Gv_fail, ite_F, kitII, kitIB, kitBI, kitBB, FinK_rt, Fin_nx, frz_int, frz_bl, frz_non, frz_str, frz_tup, frz_lst, frzs_nil, frzs_cons, Option.map_some, Option.bind_some, Fin_rt, noH, noHs, set_app, true_and, and_true, false_and, and_false, not_true_eq_false, not_false_eq_true, Option.some.injEq, exists_eq_left, exists_eq_left', take_all, take_set, ↓reduceIte, Bool.not_true, Bool.not_false, Bool.false_eq_true, if_true, if_false, Bool.and_true, Bool.true_and, Bool.and_false, Bool.false_and, decide_eq_true_eq, Bool.not_eq_true', decide_eq_false_iff_not]
    refine gv_great h6 (by decide) (by decide) fun x4 S7 x40 x41 h7 => ?_
    simp only [↓k_var0, ↓k_varS, ↓k_c, ↓k_op, ↓k_op1, ↓k_op2, ↓k_un, ↓k_un1, ↓k_tOf, ↓k_b, ↓k_not, ↓k_not1, ↓k_and, ↓k_and1, ↓k_or, ↓k_or1, ↓k_eand, ↓k_eand1, ↓k_eor, ↓k_eor1, ↓k_enot, ↓k_enot1, ↓k_eif, ↓k_eif1, ↓k_chn, ↓k_chn1, ↓k_chn2, ↓k_chn3, ↓k_nil, ↓k_cons, ↓k_cons1, ↓k_cons2, ↓k_tup, ↓k_lst, ↓k_cel, ↓k_tup1, ↓k_lst1, ↓k_cel1, ↓k_call, ↓k_call1, ↓k_skip, ↓k_bk, ↓k_ct, ↓k_no, ↓k_seq, ↓k_seq1, ↓k_seq2, ↓k_seq3, ↓k_seq4, ↓k_ex, ↓k_ex1, ↓k_ret, ↓k_ret1, ↓k_if, ↓k_if1, ↓k_as, ↓k_as1, ↓k_nx, ↓k_st0, ↓k_stS, ↓k_set, ↓k_set1, ↓k_par2, ↓k_par21, ↓k_par3, ↓k_par31, ↓k_nm, ↓k_gsnil, ↓k_gscons, ↓k_gscons1, ↓k_gix, ↓k_gix1, ↓k_gix2, ↓k_gix3, ↓k_for, ↓k_for1, ↓k_isq, ↓k_isqT, ↓k_isqL, ↓k_isqS, ↓k_r1, ↓k_r11, ↓k_r21, ↓k_app, ↓k_ar0, ↓k_ar1, ↓k_gT1, ↓k_gL1, ↓k_ar2, ↓k_gT2, ↓k_gL2, ↓k_ar3, ↓k_gT3, ↓k_gL3, ↓k_ar4, ↓k_gT4, ↓k_gL4, ↓k_ar5, ↓k_gT5, ↓k_gL5, ↓k_ar6, ↓k_gT6, ↓k_gL6, ↓k_ar7, ↓k_gT7, ↓k_gL7, ↓k_add, ↓k_sub, ↓k_mul, ↓k_fdiv, ↓k_mod, ↓k_pow, ↓k_neg, ↓k_lt, ↓k_le, ↓k_gt, ↓k_ge, ↓k_eq, ↓k_ne, ↓k_eqs, ↓k_nes, ↓k_abs, ↓k_int, ↓k_intb, ↓k_boolb, ↓k_max, ↓k_min, ↓k_isi, ↓k_lenS, ↓k_lenL, ↓k_lenT, ↓k_is, ↓k_isn, ↓k_revL, ↓k_ixL, ↓k_ixT, ↓k_ixS, ↓k_at0, ↓k_at1, ↓k_at2, ↓k_at3, ↓k_en0, ↓k_enN, ↓k_enC, ↓k_fnM, ↓k_fnK, lb_0, lb_1, lb_2, lb_3, lb_4, lb_5, lb_6, lb_7, lb_8, lb_9, lb_10, lb_11, lb_12, Gv_ret, Gv_some, Gv_none, Gv_fail, ite_F, kitII, kitIB, kitBI, kitBB, FinK_rt, Fin_nx, frz_int, frz_bl, frz_non, frz_str, frz_tup, frz_lst, frzs_nil, frzs_cons, Option.map_some, Option.bind_some, Fin_rt, noH, noHs, set_app, true_and, and_true, false_and, and_false, not_true_eq_false, not_false_eq_true, Option.some.injEq, exists_eq_left, exists_eq_left', take_all, take_set, ↓reduceIte, Bool.not_true, Bool.not_false, Bool.false_eq_true, if_true, if_false, Bool.and_true, Bool.true_and, Bool.and_false, Bool.false_and, decide_eq_true_eq, Bool.not_eq_true', decide_eq_false_iff_not, take_len (h7.1.trans h.1.symm)]
    rw [p3] at n1 x11 x21 x31 x41 x51
    have e : (n.toNat : Int) = n := Int.toNat_of_nonneg n0
    rw [← e]
    exact q _ _ _ _ _ ⟨by omega, by omega, by omega, by omega, by omega, by omega, by omega⟩ h7
section
variable {n : Nat} {a c m : Int}
theorem gv_parted (l : Ln n a c m) {k : Nat} (hk : k ≤ n) : Gv (m_law_parted_right [.int n, .int a, .int c, .int m, .int k] S) Q = Q (.bl true) S := by
  have hm := l.mul (k := k) (by omega) (by omega)
  have c1 := l.c1
  have c2 := l.c2
  have a1 := l.a1
  have a2 := l.a2
  have rk : Rg k a c m := l.rg hk (by omega) (by omega) (by omega) (by omega)
  have rd : Rg (n - k) a (c + a * k) m := l.rg (by omega) (by omega) (by omega) (by omega) (by omega)
  have ed : ((n - k : Nat) : Int) = n - k := by omega
  have g2 : ∀ {S Q}, Gv (m_law_totals [.int (n - k), .int a, .int (c + a * k), .int m] S) Q = _ := fun {S Q} => ed ▸ gv_law_totals (S := S) (Q := Q) rd
  have e : n = k + (n - k) := by omega
  have e1 := F1_part a c m k (n - k)
  have e2 := FM_part a c m k (n - k)
  have e3 := F2_part a c m k (n - k)
  rw [← e] at e1 e2 e3
  have b1 := rd.ok.f1
  have bk : Bd 200 (k : Int) := rk.hn.bd
  have ba : Bd 200 a := rk.ha.bd
  refine gv_of fun Q h => ?_
  unfold m_law_parted_right
  simp only [↓k_var0, ↓k_varS, ↓k_c, ↓k_op, ↓k_op1, ↓k_op2, ↓k_un, ↓k_un1, ↓k_tOf, ↓k_b, ↓k_not, ↓k_not1, ↓k_and, ↓k_and1, ↓k_or, ↓k_or1, ↓k_eand, ↓k_eand1, ↓k_eor, ↓k_eor1, ↓k_enot, ↓k_enot1, ↓k_eif, ↓k_eif1, ↓k_chn, ↓k_chn1, ↓k_chn2, ↓k_chn3, ↓k_nil, ↓k_cons, ↓k_cons1, ↓k_cons2, ↓k_tup, ↓k_lst, ↓k_cel, ↓k_tup1, ↓k_lst1, ↓k_cel1, ↓k_call, ↓k_call1, ↓k_skip, ↓k_bk, ↓k_ct, ↓k_no, ↓k_seq, ↓k_seq1, ↓k_seq2, ↓k_seq3, ↓k_seq4, ↓k_ex, ↓k_ex1, ↓k_ret, ↓k_ret1, ↓k_if, ↓k_if1, ↓k_as, ↓k_as1, ↓k_nx, ↓k_st0, ↓k_stS, ↓k_set, ↓k_set1, ↓k_par2, ↓k_par21, ↓k_par3, ↓k_par31, ↓k_nm, ↓k_gsnil, ↓k_gscons, ↓k_gscons1, ↓k_gix, ↓k_gix1, ↓k_gix2, ↓k_gix3, ↓k_for, ↓k_for1, ↓k_isq, ↓k_isqT, ↓k_isqL, ↓k_isqS, ↓k_r1, ↓k_r11, ↓k_r21, ↓k_app, ↓k_ar0, ↓k_ar1, ↓k_gT1, ↓k_gL1, ↓k_ar2, ↓k_gT2, ↓k_gL2, ↓k_ar3, ↓k_gT3, ↓k_gL3, ↓k_ar4, ↓k_gT4, ↓k_gL4, ↓k_ar5, ↓k_gT5, ↓k_gL5, ↓k_ar6, ↓k_gT6, ↓k_gL6, ↓k_ar7, ↓k_gT7, ↓k_gL7, ↓k_add, ↓k_sub, ↓k_mul, ↓k_fdiv, ↓k_mod, ↓k_pow, ↓k_neg, ↓k_lt, ↓k_le, ↓k_gt, ↓k_ge, ↓k_eq, ↓k_ne, ↓k_eqs, ↓k_nes, ↓k_abs, ↓k_int, ↓k_intb, ↓k_boolb, ↓k_max, ↓k_min, ↓k_isi, ↓k_lenS, ↓k_lenL, ↓k_lenT, ↓k_is, ↓k_isn, ↓k_revL, ↓k_ixL, ↓k_ixT, ↓k_ixS, ↓k_at0, ↓k_at1, ↓k_at2, ↓k_at3, ↓k_en0, ↓k_enN, ↓k_enC, ↓k_fnM, ↓k_fnK, lb_0, lb_1, lb_2, lb_3, lb_4, lb_5, lb_6, lb_7, lb_8, lb_9, lb_10, lb_11, lb_12, Gv_ret, Gv_some, Gv_none, Gv_fail, ite_F, kitII, kitIB, kitBI, kitBB, FinK_rt, Fin_nx, frz_int, frz_bl, frz_non, frz_str, frz_tup, frz_lst, frzs_nil, frzs_cons, Option.map_some, Option.bind_some, Fin_rt, noH, noHs, set_app, true_and, and_true, false_and, and_false, not_true_eq_false, not_false_eq_true, Option.some.injEq, exists_eq_left, exists_eq_left', take_all, take_set, ↓reduceIte, Bool.not_true, Bool.not_false, Bool.false_eq_true, if_true, if_false, Bool.and_true, Bool.true_and, Bool.and_false, Bool.false_and, decide_eq_true_eq, Bool.not_eq_true', decide_eq_false_iff_not, ↓gv_law_totals l.r0, ↓gv_law_totals rk, ↓g2]
  refine ⟨by (first | exact mul_okL (by decide) | exact mul_okR (by decide) | (with_reducible apply mul_ok; (case h => (repeat' (first | assumption | with_reducible apply Bd.mul | with_reducible apply Bd.add | with_reducible apply Bd.sub | with_reducible apply Bd.neg | with_reducible apply Bd.div | with_reducible exact Bd.num))); (case q => (repeat' (first | assumption | with_reducible apply Bd.mul | with_reducible apply Bd.add | with_reducible apply Bd.sub | with_reducible apply Bd.neg | with_reducible apply Bd.div | with_reducible exact Bd.num))); (case l => decide))), by (first | exact mul_okL (by decide) | exact mul_okR (by decide) | (with_reducible apply mul_ok; (case h => (repeat' (first | assumption | with_reducible apply Bd.mul | with_reducible apply Bd.add | with_reducible apply Bd.sub | with_reducible apply Bd.neg | with_reducible apply Bd.div | with_reducible exact Bd.num))); (case q => (repeat' (first | assumption | with_reducible apply Bd.mul | with_reducible apply Bd.add | with_reducible apply Bd.sub | with_reducible apply Bd.neg | with_reducible apply Bd.div | with_reducible exact Bd.num))); (case l => decide))), ?_⟩
  rw [← e1, ← e2, ← e3, k_same rfl]
  simp only [↓k_var0, ↓k_varS, ↓k_c, ↓k_op, ↓k_op1, ↓k_op2, ↓k_un, ↓k_un1, ↓k_tOf, ↓k_b, ↓k_not, ↓k_not1, ↓k_and, ↓k_and1, ↓k_or, ↓k_or1, ↓k_eand, ↓k_eand1, ↓k_eor, ↓k_eor1, ↓k_enot, ↓k_enot1, ↓k_eif, ↓k_eif1, ↓k_chn, ↓k_chn1, ↓k_chn2, ↓k_chn3, ↓k_nil, ↓k_cons, ↓k_cons1, ↓k_cons2, ↓k_tup, ↓k_lst, ↓k_cel, ↓k_tup1, ↓k_lst1, ↓k_cel1, ↓k_call, ↓k_call1, ↓k_skip, ↓k_bk, ↓k_ct, ↓k_no, ↓k_seq, ↓k_seq1, ↓k_seq2, ↓k_seq3, ↓k_seq4, ↓k_ex, ↓k_ex1, ↓k_ret, ↓k_ret1, ↓k_if, ↓k_if1, ↓k_as, ↓k_as1, ↓k_nx, ↓k_st0, ↓k_stS, ↓k_set, ↓k_set1, ↓k_par2, ↓k_par21, ↓k_par3, ↓k_par31, ↓k_nm, ↓k_gsnil, ↓k_gscons, ↓k_gscons1, ↓k_gix, ↓k_gix1, ↓k_gix2, ↓k_gix3, ↓k_for, ↓k_for1, ↓k_isq, ↓k_isqT, ↓k_isqL, ↓k_isqS, ↓k_r1, ↓k_r11, ↓k_r21, ↓k_app, ↓k_ar0, ↓k_ar1, ↓k_gT1, ↓k_gL1, ↓k_ar2, ↓k_gT2, ↓k_gL2, ↓k_ar3, ↓k_gT3, ↓k_gL3, ↓k_ar4, ↓k_gT4, ↓k_gL4, ↓k_ar5, ↓k_gT5, ↓k_gL5, ↓k_ar6, ↓k_gT6, ↓k_gL6, ↓k_ar7, ↓k_gT7, ↓k_gL7, ↓k_add, ↓k_sub, ↓k_mul, ↓k_fdiv, ↓k_mod, ↓k_pow, ↓k_neg, ↓k_lt, ↓k_le, ↓k_gt, ↓k_ge, ↓k_eq, ↓k_ne, ↓k_eqs, ↓k_nes, ↓k_abs, ↓k_int, ↓k_intb, ↓k_boolb, ↓k_max, ↓k_min, ↓k_isi, ↓k_lenS, ↓k_lenL, ↓k_lenT, ↓k_is, ↓k_isn, ↓k_revL, ↓k_ixL, ↓k_ixT, ↓k_ixS, ↓k_at0, ↓k_at1, ↓k_at2, ↓k_at3, ↓k_en0, ↓k_enN, ↓k_enC, ↓k_fnM, ↓k_fnK, lb_0, lb_1, lb_2, lb_3, lb_4, lb_5, lb_6, lb_7, lb_8, lb_9, lb_10, lb_11, lb_12, Gv_ret, Gv_some, Gv_none, Gv_fail, ite_F, kitII, kitIB, kitBI, kitBB, FinK_rt, Fin_nx, frz_int, frz_bl, frz_non, frz_str, frz_tup, frz_lst, frzs_nil, frzs_cons, Option.map_some, Option.bind_some, Fin_rt, noH, noHs, set_app, true_and, and_true, false_and, and_false, not_true_eq_false, not_false_eq_true, Option.some.injEq, exists_eq_left, exists_eq_left', take_all, take_set, ↓reduceIte, Bool.not_true, Bool.not_false, Bool.false_eq_true, if_true, if_false, Bool.and_true, Bool.true_and, Bool.and_false, Bool.false_and, decide_eq_true_eq, Bool.not_eq_true', decide_eq_false_iff_not]
  exact h
theorem gv_grown (l : Ln n a c m) : Gv (m_law_grown_right [.int n, .int a, .int c, .int m] S) Q = Q (.bl true) S := by
  have c1 := l.c1
  have c2 := l.c2
  have a1 := l.a1
  have a2 := l.a2
  have m1 := l.m1
  have m2 := l.m2
  have hm : 0 < m := by omega
  have r1 : Rg n a (c + m) m := l.rg (Nat.le_refl n) (by omega) (by omega) (by omega) (by omega)
  have r2 : Rg n (a + m) c m := l.rg (Nat.le_refl n) (by omega) (by omega) (by omega) (by omega)
  have bn : Bd 200 (n : Int) := r1.hn.bd
  have sq : ((n : Int) - 1) * n * (2 * n - 1) / 6 = sm (fun i => (i : Int) * i) n := by rw [Int.mul_comm ((n : Int) - 1) n, half_sq]
  refine gv_of fun Q h => ?_
  unfold m_law_grown_right
  simp only [↓k_var0, ↓k_varS, ↓k_c, ↓k_op, ↓k_op1, ↓k_op2, ↓k_un, ↓k_un1, ↓k_tOf, ↓k_b, ↓k_not, ↓k_not1, ↓k_and, ↓k_and1, ↓k_or, ↓k_or1, ↓k_eand, ↓k_eand1, ↓k_eor, ↓k_eor1, ↓k_enot, ↓k_enot1, ↓k_eif, ↓k_eif1, ↓k_chn, ↓k_chn1, ↓k_chn2, ↓k_chn3, ↓k_nil, ↓k_cons, ↓k_cons1, ↓k_cons2, ↓k_tup, ↓k_lst, ↓k_cel, ↓k_tup1, ↓k_lst1, ↓k_cel1, ↓k_call, ↓k_call1, ↓k_skip, ↓k_bk, ↓k_ct, ↓k_no, ↓k_seq, ↓k_seq1, ↓k_seq2, ↓k_seq3, ↓k_seq4, ↓k_ex, ↓k_ex1, ↓k_ret, ↓k_ret1, ↓k_if, ↓k_if1, ↓k_as, ↓k_as1, ↓k_nx, ↓k_st0, ↓k_stS, ↓k_set, ↓k_set1, ↓k_par2, ↓k_par21, ↓k_par3, ↓k_par31, ↓k_nm, ↓k_gsnil, ↓k_gscons, ↓k_gscons1, ↓k_gix, ↓k_gix1, ↓k_gix2, ↓k_gix3, ↓k_for, ↓k_for1, ↓k_isq, ↓k_isqT, ↓k_isqL, ↓k_isqS, ↓k_r1, ↓k_r11, ↓k_r21, ↓k_app, ↓k_ar0, ↓k_ar1, ↓k_gT1, ↓k_gL1, ↓k_ar2, ↓k_gT2, ↓k_gL2, ↓k_ar3, ↓k_gT3, ↓k_gL3, ↓k_ar4, ↓k_gT4, ↓k_gL4, ↓k_ar5, ↓k_gT5, ↓k_gL5, ↓k_ar6, ↓k_gT6, ↓k_gL6, ↓k_ar7, ↓k_gT7, ↓k_gL7, ↓k_add, ↓k_sub, ↓k_mul, ↓k_fdiv, ↓k_mod, ↓k_pow, ↓k_neg, ↓k_lt, ↓k_le, ↓k_gt, ↓k_ge, ↓k_eq, ↓k_ne, ↓k_eqs, ↓k_nes, ↓k_abs, ↓k_int, ↓k_intb, ↓k_boolb, ↓k_max, ↓k_min, ↓k_isi, ↓k_lenS, ↓k_lenL, ↓k_lenT, ↓k_is, ↓k_isn, ↓k_revL, ↓k_ixL, ↓k_ixT, ↓k_ixS, ↓k_at0, ↓k_at1, ↓k_at2, ↓k_at3, ↓k_en0, ↓k_enN, ↓k_enC, ↓k_fnM, ↓k_fnK, lb_0, lb_1, lb_2, lb_3, lb_4, lb_5, lb_6, lb_7, lb_8, lb_9, lb_10, lb_11, lb_12, Gv_ret, Gv_some, Gv_none, Gv_fail, ite_F, kitII, kitIB, kitBI, kitBB, FinK_rt, Fin_nx, frz_int, frz_bl, frz_non, frz_str, frz_tup, frz_lst, frzs_nil, frzs_cons, Option.map_some, Option.bind_some, Fin_rt, noH, noHs, set_app, true_and, and_true, false_and, and_false, not_true_eq_false, not_false_eq_true, Option.some.injEq, exists_eq_left, exists_eq_left', take_all, take_set, ↓reduceIte, Bool.not_true, Bool.not_false, Bool.false_eq_true, if_true, if_false, Bool.and_true, Bool.true_and, Bool.and_false, Bool.false_and, decide_eq_true_eq, Bool.not_eq_true', decide_eq_false_iff_not, ↓gv_law_totals l.r0, ↓gv_law_totals r1, ↓gv_law_totals r2, half_id, sq]
  refine ⟨by (first | exact mul_okL (by decide) | exact mul_okR (by decide) | (with_reducible apply mul_ok; (case h => (repeat' (first | assumption | with_reducible apply Bd.mul | with_reducible apply Bd.add | with_reducible apply Bd.sub | with_reducible apply Bd.neg | with_reducible apply Bd.div | with_reducible exact Bd.num))); (case q => (repeat' (first | assumption | with_reducible apply Bd.mul | with_reducible apply Bd.add | with_reducible apply Bd.sub | with_reducible apply Bd.neg | with_reducible apply Bd.div | with_reducible exact Bd.num))); (case l => decide))), by decide, by (first | exact mul_okL (by decide) | exact mul_okR (by decide) | (with_reducible apply mul_ok; (case h => (repeat' (first | assumption | with_reducible apply Bd.mul | with_reducible apply Bd.add | with_reducible apply Bd.sub | with_reducible apply Bd.neg | with_reducible apply Bd.div | with_reducible exact Bd.num))); (case q => (repeat' (first | assumption | with_reducible apply Bd.mul | with_reducible apply Bd.add | with_reducible apply Bd.sub | with_reducible apply Bd.neg | with_reducible apply Bd.div | with_reducible exact Bd.num))); (case l => decide))), by (first | exact mul_okL (by decide) | exact mul_okR (by decide) | (with_reducible apply mul_ok; (case h => (repeat' (first | assumption | with_reducible apply Bd.mul | with_reducible apply Bd.add | with_reducible apply Bd.sub | with_reducible apply Bd.neg | with_reducible apply Bd.div | with_reducible exact Bd.num))); (case q => (repeat' (first | assumption | with_reducible apply Bd.mul | with_reducible apply Bd.add | with_reducible apply Bd.sub | with_reducible apply Bd.neg | with_reducible apply Bd.div | with_reducible exact Bd.num))); (case l => decide))), by (first | exact mul_okL (by decide) | exact mul_okR (by decide) | (with_reducible apply mul_ok; (case h => (repeat' (first | assumption | with_reducible apply Bd.mul | with_reducible apply Bd.add | with_reducible apply Bd.sub | with_reducible apply Bd.neg | with_reducible apply Bd.div | with_reducible exact Bd.num))); (case q => (repeat' (first | assumption | with_reducible apply Bd.mul | with_reducible apply Bd.add | with_reducible apply Bd.sub | with_reducible apply Bd.neg | with_reducible apply Bd.div | with_reducible exact Bd.num))); (case l => decide))), by decide, by (first | exact mul_okL (by decide) | exact mul_okR (by decide) | (with_reducible apply mul_ok; (case h => (repeat' (first | assumption | with_reducible apply Bd.mul | with_reducible apply Bd.add | with_reducible apply Bd.sub | with_reducible apply Bd.neg | with_reducible apply Bd.div | with_reducible exact Bd.num))); (case q => (repeat' (first | assumption | with_reducible apply Bd.mul | with_reducible apply Bd.add | with_reducible apply Bd.sub | with_reducible apply Bd.neg | with_reducible apply Bd.div | with_reducible exact Bd.num))); (case l => decide))), ?_⟩
  rw [F1_up hm, FM_up hm, F2_up hm, k_diff rfl]
  simp only [↓k_var0, ↓k_varS, ↓k_c, ↓k_op, ↓k_op1, ↓k_op2, ↓k_un, ↓k_un1, ↓k_tOf, ↓k_b, ↓k_not, ↓k_not1, ↓k_and, ↓k_and1, ↓k_or, ↓k_or1, ↓k_eand, ↓k_eand1, ↓k_eor, ↓k_eor1, ↓k_enot, ↓k_enot1, ↓k_eif, ↓k_eif1, ↓k_chn, ↓k_chn1, ↓k_chn2, ↓k_chn3, ↓k_nil, ↓k_cons, ↓k_cons1, ↓k_cons2, ↓k_tup, ↓k_lst, ↓k_cel, ↓k_tup1, ↓k_lst1, ↓k_cel1, ↓k_call, ↓k_call1, ↓k_skip, ↓k_bk, ↓k_ct, ↓k_no, ↓k_seq, ↓k_seq1, ↓k_seq2, ↓k_seq3, ↓k_seq4, ↓k_ex, ↓k_ex1, ↓k_ret, ↓k_ret1, ↓k_if, ↓k_if1, ↓k_as, ↓k_as1, ↓k_nx, ↓k_st0, ↓k_stS, ↓k_set, ↓k_set1, ↓k_par2, ↓k_par21, ↓k_par3, ↓k_par31, ↓k_nm, ↓k_gsnil, ↓k_gscons, ↓k_gscons1, ↓k_gix, ↓k_gix1, ↓k_gix2, ↓k_gix3, ↓k_for, ↓k_for1, ↓k_isq, ↓k_isqT, ↓k_isqL, ↓k_isqS, ↓k_r1, ↓k_r11, ↓k_r21, ↓k_app, ↓k_ar0, ↓k_ar1, ↓k_gT1, ↓k_gL1, ↓k_ar2, ↓k_gT2, ↓k_gL2, ↓k_ar3, ↓k_gT3, ↓k_gL3, ↓k_ar4, ↓k_gT4, ↓k_gL4, ↓k_ar5, ↓k_gT5, ↓k_gL5, ↓k_ar6, ↓k_gT6, ↓k_gL6, ↓k_ar7, ↓k_gT7, ↓k_gL7, ↓k_add, ↓k_sub, ↓k_mul, ↓k_fdiv, ↓k_mod, ↓k_pow, ↓k_neg, ↓k_lt, ↓k_le, ↓k_gt, ↓k_ge, ↓k_eq, ↓k_ne, ↓k_eqs, ↓k_nes, ↓k_abs, ↓k_int, ↓k_intb, ↓k_boolb, ↓k_max, ↓k_min, ↓k_isi, ↓k_lenS, ↓k_lenL, ↓k_lenT, ↓k_is, ↓k_isn, ↓k_revL, ↓k_ixL, ↓k_ixT, ↓k_ixS, ↓k_at0, ↓k_at1, ↓k_at2, ↓k_at3, ↓k_en0, ↓k_enN, ↓k_enC, ↓k_fnM, ↓k_fnK, lb_0, lb_1, lb_2, lb_3, lb_4, lb_5, lb_6, lb_7, lb_8, lb_9, lb_10, lb_11, lb_12, Gv_ret, Gv_some, Gv_none, Gv_fail, ite_F, kitII, kitIB, kitBI, kitBB, FinK_rt, Fin_nx, frz_int, frz_bl, frz_non, frz_str, frz_tup, frz_lst, frzs_nil, frzs_cons, Option.map_some, Option.bind_some, Fin_rt, noH, noHs, set_app, true_and, and_true, false_and, and_false, not_true_eq_false, not_false_eq_true, Option.some.injEq, exists_eq_left, exists_eq_left', take_all, take_set, ↓reduceIte, Bool.not_true, Bool.not_false, Bool.false_eq_true, if_true, if_false, Bool.and_true, Bool.true_and, Bool.and_false, Bool.false_and, decide_eq_true_eq, Bool.not_eq_true', decide_eq_false_iff_not, ↓gv_law_totals l.r0, ↓gv_law_totals r1, ↓gv_law_totals r2, half_id, sq]
  refine ⟨by (first | exact mul_okL (by decide) | exact mul_okR (by decide) | (with_reducible apply mul_ok; (case h => (repeat' (first | assumption | with_reducible apply Bd.mul | with_reducible apply Bd.add | with_reducible apply Bd.sub | with_reducible apply Bd.neg | with_reducible apply Bd.div | with_reducible exact Bd.num))); (case q => (repeat' (first | assumption | with_reducible apply Bd.mul | with_reducible apply Bd.add | with_reducible apply Bd.sub | with_reducible apply Bd.neg | with_reducible apply Bd.div | with_reducible exact Bd.num))); (case l => decide))), ?_⟩
  rw [F1_out hm, FM_out hm, F2_out hm, k_same rfl]
  simp only [↓k_var0, ↓k_varS, ↓k_c, ↓k_op, ↓k_op1, ↓k_op2, ↓k_un, ↓k_un1, ↓k_tOf, ↓k_b, ↓k_not, ↓k_not1, ↓k_and, ↓k_and1, ↓k_or, ↓k_or1, ↓k_eand, ↓k_eand1, ↓k_eor, ↓k_eor1, ↓k_enot, ↓k_enot1, ↓k_eif, ↓k_eif1, ↓k_chn, ↓k_chn1, ↓k_chn2, ↓k_chn3, ↓k_nil, ↓k_cons, ↓k_cons1, ↓k_cons2, ↓k_tup, ↓k_lst, ↓k_cel, ↓k_tup1, ↓k_lst1, ↓k_cel1, ↓k_call, ↓k_call1, ↓k_skip, ↓k_bk, ↓k_ct, ↓k_no, ↓k_seq, ↓k_seq1, ↓k_seq2, ↓k_seq3, ↓k_seq4, ↓k_ex, ↓k_ex1, ↓k_ret, ↓k_ret1, ↓k_if, ↓k_if1, ↓k_as, ↓k_as1, ↓k_nx, ↓k_st0, ↓k_stS, ↓k_set, ↓k_set1, ↓k_par2, ↓k_par21, ↓k_par3, ↓k_par31, ↓k_nm, ↓k_gsnil, ↓k_gscons, ↓k_gscons1, ↓k_gix, ↓k_gix1, ↓k_gix2, ↓k_gix3, ↓k_for, ↓k_for1, ↓k_isq, ↓k_isqT, ↓k_isqL, ↓k_isqS, ↓k_r1, ↓k_r11, ↓k_r21, ↓k_app, ↓k_ar0, ↓k_ar1, ↓k_gT1, ↓k_gL1, ↓k_ar2, ↓k_gT2, ↓k_gL2, ↓k_ar3, ↓k_gT3, ↓k_gL3, ↓k_ar4, ↓k_gT4, ↓k_gL4, ↓k_ar5, ↓k_gT5, ↓k_gL5, ↓k_ar6, ↓k_gT6, ↓k_gL6, ↓k_ar7, ↓k_gT7, ↓k_gL7, ↓k_add, ↓k_sub, ↓k_mul, ↓k_fdiv, ↓k_mod, ↓k_pow, ↓k_neg, ↓k_lt, ↓k_le, ↓k_gt, ↓k_ge, ↓k_eq, ↓k_ne, ↓k_eqs, ↓k_nes, ↓k_abs, ↓k_int, ↓k_intb, ↓k_boolb, ↓k_max, ↓k_min, ↓k_isi, ↓k_lenS, ↓k_lenL, ↓k_lenT, ↓k_is, ↓k_isn, ↓k_revL, ↓k_ixL, ↓k_ixT, ↓k_ixS, ↓k_at0, ↓k_at1, ↓k_at2, ↓k_at3, ↓k_en0, ↓k_enN, ↓k_enC, ↓k_fnM, ↓k_fnK, lb_0, lb_1, lb_2, lb_3, lb_4, lb_5, lb_6, lb_7, lb_8, lb_9, lb_10, lb_11, lb_12, Gv_ret, Gv_some, Gv_none, Gv_fail, ite_F, kitII, kitIB, kitBI, kitBB, FinK_rt, Fin_nx, frz_int, frz_bl, frz_non, frz_str, frz_tup, frz_lst, frzs_nil, frzs_cons, Option.map_some, Option.bind_some, Fin_rt, noH, noHs, set_app, true_and, and_true, false_and, and_false, not_true_eq_false, not_false_eq_true, Option.some.injEq, exists_eq_left, exists_eq_left', take_all, take_set, ↓reduceIte, Bool.not_true, Bool.not_false, Bool.false_eq_true, if_true, if_false, Bool.and_true, Bool.true_and, Bool.and_false, Bool.false_and, decide_eq_true_eq, Bool.not_eq_true', decide_eq_false_iff_not]
  exact h
end
theorem gv_one4 {c b : Nat} {x0 x1 x2 x3 : Int} (h : Bowl c b S) (q : ∀ x S', (x = x0 ∨ x = x1 ∨ x = x2 ∨ x = x3) → Bowl c b S' → Q (.int x) S') :
    Gv (m_law_one_of [.hdl c, .lst [.int x0, .int x1, .int x2, .int x3]] S) Q := by
  unfold m_law_one_of
  simp only [↓k_var0, ↓k_varS, ↓k_c, ↓k_op, ↓k_op1, ↓k_op2, ↓k_un, ↓k_un1, ↓k_tOf, ↓k_b, ↓k_not, ↓k_not1, ↓k_and, ↓k_and1, ↓k_or, ↓k_or1, ↓k_eand, ↓k_eand1, ↓k_eor, ↓k_eor1, ↓k_enot, ↓k_enot1, ↓k_eif, ↓k_eif1, ↓k_chn, ↓k_chn1, ↓k_chn2, ↓k_chn3, ↓k_nil, ↓k_cons, ↓k_cons1, ↓k_cons2, ↓k_tup, ↓k_lst, ↓k_cel, ↓k_tup1, ↓k_lst1, ↓k_cel1, ↓k_call, ↓k_call1, ↓k_skip, ↓k_bk, ↓k_ct, ↓k_no, ↓k_seq, ↓k_seq1, ↓k_seq2, ↓k_seq3, ↓k_seq4, ↓k_ex, ↓k_ex1, ↓k_ret, ↓k_ret1, ↓k_if, ↓k_if1, ↓k_as, ↓k_as1, ↓k_nx, ↓k_st0, ↓k_stS, ↓k_set, ↓k_set1, ↓k_par2, ↓k_par21, ↓k_par3, ↓k_par31, ↓k_nm, ↓k_gsnil, ↓k_gscons, ↓k_gscons1, ↓k_gix, ↓k_gix1, ↓k_gix2, ↓k_gix3, ↓k_for, ↓k_for1, ↓k_isq, ↓k_isqT, ↓k_isqL, ↓k_isqS, ↓k_r1, ↓k_r11, ↓k_r21, ↓k_app, ↓k_ar0, ↓k_ar1, ↓k_gT1, ↓k_gL1, ↓k_ar2, ↓k_gT2, ↓k_gL2, ↓k_ar3, ↓k_gT3, ↓k_gL3, ↓k_ar4, ↓k_gT4, ↓k_gL4, ↓k_ar5, ↓k_gT5, ↓k_gL5, ↓k_ar6, ↓k_gT6, ↓k_gL6, ↓k_ar7, ↓k_gT7, ↓k_gL7, ↓k_add, ↓k_sub, ↓k_mul, ↓k_fdiv, ↓k_mod, ↓k_pow, ↓k_neg, ↓k_lt, ↓k_le, ↓k_gt, ↓k_ge, ↓k_eq, ↓k_ne, ↓k_eqs, ↓k_nes, ↓k_abs, ↓k_int, ↓k_intb, ↓k_boolb, ↓k_max, ↓k_min, ↓k_isi, ↓k_lenS, ↓k_lenL, ↓k_lenT, ↓k_is, ↓k_isn, ↓k_revL, ↓k_ixL, ↓k_ixT, ↓k_ixS, ↓k_at0, ↓k_at1, ↓k_at2, ↓k_at3, ↓k_en0, ↓k_enN, ↓k_enC, ↓k_fnM, ↓k_fnK, lb_0, lb_1, lb_2, lb_3, lb_4, lb_5, lb_6, lb_7, lb_8, lb_9, lb_10, lb_11, lb_12, Gv_ret, Gv_some, Gv_none, Gv_fail, ite_F, kitII, kitIB, kitBI, kitBB, FinK_rt, Fin_nx, frz_int, frz_bl, frz_non, frz_str, frz_tup, frz_lst, frzs_nil, frzs_cons, Option.map_some, Option.bind_some, Fin_rt, noH, noHs, set_app, true_and, and_true, false_and, and_false, not_true_eq_false, not_false_eq_true, Option.some.injEq, exists_eq_left, exists_eq_left', take_all, take_set, ↓reduceIte, Bool.not_true, Bool.not_false, Bool.false_eq_true, if_true, if_false, Bool.and_true, Bool.true_and, Bool.and_false, Bool.false_and, decide_eq_true_eq, Bool.not_eq_true', decide_eq_false_iff_not]
  refine gv_sip h (by show (0 : Int) < (4 : Nat); decide) (by show divOk ((4 : Nat) : Int) = true; decide) fun r S1 r0 r1 h1 => ?_
  have r2 : r < 4 := r1
  have e : r = 0 ∨ r = 1 ∨ r = 2 ∨ r = 3 := by omega
  rcases e with rfl | rfl | rfl | rfl <;> simp only [↓k_var0, ↓k_varS, ↓k_c, ↓k_op, ↓k_op1, ↓k_op2, ↓k_un, ↓k_un1, ↓k_tOf, ↓k_b, ↓k_not, ↓k_not1, ↓k_and, ↓k_and1, ↓k_or, ↓k_or1, ↓k_eand, ↓k_eand1, ↓k_eor, ↓k_eor1, ↓k_enot, ↓k_enot1, ↓k_eif, ↓k_eif1, ↓k_chn, ↓k_chn1, ↓k_chn2, ↓k_chn3, ↓k_nil, ↓k_cons, ↓k_cons1, ↓k_cons2, ↓k_tup, ↓k_lst, ↓k_cel, ↓k_tup1, ↓k_lst1, ↓k_cel1, ↓k_call, ↓k_call1, ↓k_skip, ↓k_bk, ↓k_ct, ↓k_no, ↓k_seq, ↓k_seq1, ↓k_seq2, ↓k_seq3, ↓k_seq4, ↓k_ex, ↓k_ex1, ↓k_ret, ↓k_ret1, ↓k_if, ↓k_if1, ↓k_as, ↓k_as1, ↓k_nx, ↓k_st0, ↓k_stS, ↓k_set, ↓k_set1, ↓k_par2, ↓k_par21, ↓k_par3, ↓k_par31, ↓k_nm, ↓k_gsnil, ↓k_gscons, ↓k_gscons1, ↓k_gix, ↓k_gix1, ↓k_gix2, ↓k_gix3, ↓k_for, ↓k_for1, ↓k_isq, ↓k_isqT, ↓k_isqL, ↓k_isqS, ↓k_r1, ↓k_r11, ↓k_r21, ↓k_app, ↓k_ar0, ↓k_ar1, ↓k_gT1, ↓k_gL1, ↓k_ar2, ↓k_gT2, ↓k_gL2, ↓k_ar3, ↓k_gT3, ↓k_gL3, ↓k_ar4, ↓k_gT4, ↓k_gL4, ↓k_ar5, ↓k_gT5, ↓k_gL5, ↓k_ar6, ↓k_gT6, ↓k_gL6, ↓k_ar7, ↓k_gT7, ↓k_gL7, ↓k_add, ↓k_sub, ↓k_mul, ↓k_fdiv, ↓k_mod, ↓k_pow, ↓k_neg, ↓k_lt, ↓k_le, ↓k_gt, ↓k_ge, ↓k_eq, ↓k_ne, ↓k_eqs, ↓k_nes, ↓k_abs, ↓k_int, ↓k_intb, ↓k_boolb, ↓k_max, ↓k_min, ↓k_isi, ↓k_lenS, ↓k_lenL, ↓k_lenT, ↓k_is, ↓k_isn, ↓k_revL, ↓k_ixL, ↓k_ixT, ↓k_ixS, ↓k_at0, ↓k_at1, ↓k_at2, ↓k_at3, ↓k_en0, ↓k_enN, ↓k_enC, ↓k_fnM, ↓k_fnK, lb_0, lb_1, lb_2, lb_3, lb_4, lb_5, lb_6, lb_7, lb_8, lb_9, lb_10, lb_11, lb_12, Gv_ret, Gv_some, Gv_none, Gv_fail, ite_F, kitII, kitIB, kitBI, kitBB, FinK_rt, Fin_nx, frz_int, frz_bl, frz_non, frz_str, frz_tup, frz_lst, frzs_nil, frzs_cons, Option.map_some, Option.bind_some, Fin_rt, noH, noHs, set_app, true_and, and_true, false_and, and_false, not_true_eq_false, not_false_eq_true, Option.some.injEq, exists_eq_left, exists_eq_left', take_all, take_set, ↓reduceIte, Bool.not_true, Bool.not_false, Bool.false_eq_true, if_true, if_false, Bool.and_true, Bool.true_and, Bool.and_false, Bool.false_and, decide_eq_true_eq, Bool.not_eq_true', decide_eq_false_iff_not, take_len (h1.1.trans h.1.symm)] <;> exact q _ _ (by simp) h1
theorem gv_oneN {c b n : Nat} {x0 x1 x2 x3 : Int} (h : Bowl c b S) (h0 : 0 ≤ x0 ∧ x0 ≤ n) (h1 : 0 ≤ x1 ∧ x1 ≤ n) (h2 : 0 ≤ x2 ∧ x2 ≤ n) (h3 : 0 ≤ x3 ∧ x3 ≤ n)
    (q : ∀ (k : Nat) S', k ≤ n → Bowl c b S' → Q (.int k) S') : Gv (m_law_one_of [.hdl c, .lst [.int x0, .int x1, .int x2, .int x3]] S) Q :=
  gv_one4 h fun x S' hx hb => by
    have hx2 : 0 ≤ x ∧ x ≤ n := by rcases hx with rfl | rfl | rfl | rfl <;> omega
    have := q x.toNat S' (by omega) hb
    rw [Int.toNat_of_nonneg hx2.1] at this
    exact this
section
variable {n : Nat} {a c m : Int}
/-- every test is passed -/
theorem main (ns : List Int) (h : ns.length ≤ 63) : ∃ S, m_law [.scr (ns.map T.int)] [] = some (Rs.ok (.bl true), S) := by
  have g : Gv (m_law [.scr (ns.map T.int)] []) fun r _ => r = .bl true := by
    unfold m_law
    simp only [↓k_var0, ↓k_varS, ↓k_c, ↓k_op, ↓k_op1, ↓k_op2, ↓k_un, ↓k_un1, ↓k_tOf, ↓k_b, ↓k_not, ↓k_not1, ↓k_and, ↓k_and1, ↓k_or, ↓k_or1, ↓k_eand, ↓k_eand1, ↓k_eor, ↓k_eor1, ↓k_enot, ↓k_enot1, ↓k_eif, ↓k_eif1, ↓k_chn, ↓k_chn1, ↓k_chn2, ↓k_chn3, ↓k_nil, ↓k_cons, ↓k_cons1, ↓k_cons2, ↓k_tup, ↓k_lst, ↓k_cel, ↓k_tup1, ↓k_lst1, ↓k_cel1, ↓k_call, ↓k_call1, ↓k_skip, ↓k_bk, ↓k_ct, ↓k_no, ↓k_seq, ↓k_seq1, ↓k_seq2, ↓k_seq3, ↓k_seq4, ↓k_ex, ↓k_ex1, ↓k_ret, ↓k_ret1, ↓k_if, ↓k_if1, ↓k_as, ↓k_as1, ↓k_nx, ↓k_st0, ↓k_stS, ↓k_set, ↓k_set1, ↓k_par2, ↓k_par21, ↓k_par3, ↓k_par31, ↓k_nm, ↓k_gsnil, ↓k_gscons, ↓k_gscons1, ↓k_gix, ↓k_gix1, ↓k_gix2, ↓k_gix3, ↓k_for, ↓k_for1, ↓k_isq, ↓k_isqT, ↓k_isqL, ↓k_isqS, ↓k_r1, ↓k_r11, ↓k_r21, ↓k_app, ↓k_ar0, ↓k_ar1, ↓k_gT1, ↓k_gL1, ↓k_ar2, ↓k_gT2, ↓k_gL2, ↓k_ar3, ↓k_gT3, ↓k_gL3, ↓k_ar4, ↓k_gT4, ↓k_gL4, ↓k_ar5, ↓k_gT5, ↓k_gL5, ↓k_ar6, ↓k_gT6, ↓k_gL6, ↓k_ar7, ↓k_gT7, ↓k_gL7, ↓k_add, ↓k_sub, ↓k_mul, ↓k_fdiv, ↓k_mod, ↓k_pow, ↓k_neg, ↓k_lt, ↓k_le, ↓k_gt, ↓k_ge, ↓k_eq, ↓k_ne, ↓k_eqs, ↓k_nes, ↓k_abs, ↓k_int, ↓k_intb, ↓k_boolb, ↓k_max, ↓k_min, ↓k_isi, ↓k_lenS, ↓k_lenL, ↓k_lenT, ↓k_is, ↓k_isn, ↓k_revL, ↓k_ixL, ↓k_ixT, ↓k_ixS, ↓k_at0, ↓k_at1, ↓k_at2, ↓k_at3, ↓k_en0, ↓k_enN, ↓k_enC, ↓k_fnM, ↓k_fnK, lb_0, lb_1, lb_2, lb_3, lb_4, lb_5, lb_6, lb_7, lb_8, lb_9, lb_10, lb_11, lb_12, Gv_ret, Gv_some, Gv_none, Gv_fail, ite_F, kitII, kitIB, kitBI, kitBB, FinK_rt, Fin_nx, frz_int, frz_bl, frz_non, frz_str, frz_tup, frz_lst, frzs_nil, frzs_cons, Option.map_some, Option.bind_some, Fin_rt, noH, noHs, set_app, true_and, and_true, false_and, and_false, not_true_eq_false, not_false_eq_true, Option.some.injEq, exists_eq_left, exists_eq_left', take_all, take_set, ↓reduceIte, Bool.not_true, Bool.not_false, Bool.false_eq_true, if_true, if_false, Bool.and_true, Bool.true_and, Bool.and_false, Bool.false_and, decide_eq_true_eq, Bool.not_eq_true', decide_eq_false_iff_not]
    refine ⟨in62_ok (by omega) (by omega), ?_⟩
    refine Gv_rng (fun i τ S' => ∃ o1 o2 o3 o4 o5 o6 o7 o8, τ = [some (.scr (ns.map T.int)), o1, o2, o3, o4, o5, o6, o7, o8]) ⟨_, _, _, _, _, _, _, _, rfl⟩ ?turn ?last
    case last =>
      rintro τ S' ⟨o1, o2, o3, o4, o5, o6, o7, o8, rfl⟩
      simp only [↓k_var0, ↓k_varS, ↓k_c, ↓k_op, ↓k_op1, ↓k_op2, ↓k_un, ↓k_un1, ↓k_tOf, ↓k_b, ↓k_not, ↓k_not1, ↓k_and, ↓k_and1, ↓k_or, ↓k_or1, ↓k_eand, ↓k_eand1, ↓k_eor, ↓k_eor1, ↓k_enot, ↓k_enot1, ↓k_eif, ↓k_eif1, ↓k_chn, ↓k_chn1, ↓k_chn2, ↓k_chn3, ↓k_nil, ↓k_cons, ↓k_cons1, ↓k_cons2, ↓k_tup, ↓k_lst, ↓k_cel, ↓k_tup1, ↓k_lst1, ↓k_cel1, ↓k_call, ↓k_call1, ↓k_skip, ↓k_bk, ↓k_ct, ↓k_no, ↓k_seq, ↓k_seq1, ↓k_seq2, ↓k_seq3, ↓k_seq4, ↓k_ex, ↓k_ex1, ↓k_ret, ↓k_ret1, ↓k_if, ↓k_if1, ↓k_as, ↓k_as1, ↓k_nx, ↓k_st0, ↓k_stS, ↓k_set, ↓k_set1, ↓k_par2, ↓k_par21, ↓k_par3, ↓k_par31, ↓k_nm, ↓k_gsnil, ↓k_gscons, ↓k_gscons1, ↓k_gix, ↓k_gix1, ↓k_gix2, ↓k_gix3, ↓k_for, ↓k_for1, ↓k_isq, ↓k_isqT, ↓k_isqL, ↓k_isqS, ↓k_r1, ↓k_r11, ↓k_r21, ↓k_app, ↓k_ar0, ↓k_ar1, ↓k_gT1, ↓k_gL1, ↓k_ar2, ↓k_gT2, ↓k_gL2, ↓k_ar3, ↓k_gT3, ↓k_gL3, ↓k_ar4, ↓k_gT4, ↓k_gL4, ↓k_ar5, ↓k_gT5, ↓k_gL5, ↓k_ar6, ↓k_gT6, ↓k_gL6, ↓k_ar7, ↓k_gT7, ↓k_gL7, ↓k_add, ↓k_sub, ↓k_mul, ↓k_fdiv, ↓k_mod, ↓k_pow, ↓k_neg, ↓k_lt, ↓k_le, ↓k_gt, ↓k_ge, ↓k_eq, ↓k_ne, ↓k_eqs, ↓k_nes, ↓k_abs, ↓k_int, ↓k_intb, ↓k_boolb, ↓k_max, ↓k_min, ↓k_isi, ↓k_lenS, ↓k_lenL, ↓k_lenT, ↓k_is, ↓k_isn, ↓k_revL, ↓k_ixL, ↓k_ixT, ↓k_ixS, ↓k_at0, ↓k_at1, ↓k_at2, ↓k_at3, ↓k_en0, ↓k_enN, ↓k_enC, ↓k_fnM, ↓k_fnK, lb_0, lb_1, lb_2, lb_3, lb_4, lb_5, lb_6, lb_7, lb_8, lb_9, lb_10, lb_11, lb_12, Gv_ret, Gv_some, Gv_none, Gv_fail, ite_F, kitII, kitIB, kitBI, kitBB, FinK_rt, Fin_nx, frz_int, frz_bl, frz_non, frz_str, frz_tup, frz_lst, frzs_nil, frzs_cons, Option.map_some, Option.bind_some, Fin_rt, noH, noHs, set_app, true_and, and_true, false_and, and_false, not_true_eq_false, not_false_eq_true, Option.some.injEq, exists_eq_left, exists_eq_left', take_all, take_set, ↓reduceIte, Bool.not_true, Bool.not_false, Bool.false_eq_true, if_true, if_false, Bool.and_true, Bool.true_and, Bool.and_false, Bool.false_and, decide_eq_true_eq, Bool.not_eq_true', decide_eq_false_iff_not]
    case turn =>
      rintro i τ S' hi ⟨o1, o2, o3, o4, o5, o6, o7, o8, rfl⟩
      simp only [↓k_var0, ↓k_varS, ↓k_c, ↓k_op, ↓k_op1, ↓k_op2, ↓k_un, ↓k_un1, ↓k_tOf, ↓k_b, ↓k_not, ↓k_not1, ↓k_and, ↓k_and1, ↓k_or, ↓k_or1, ↓k_eand, ↓k_eand1, ↓k_eor, ↓k_eor1, ↓k_enot, ↓k_enot1, ↓k_eif, ↓k_eif1, ↓k_chn, ↓k_chn1, ↓k_chn2, ↓k_chn3, ↓k_nil, ↓k_cons, ↓k_cons1, ↓k_cons2, ↓k_tup, ↓k_lst, ↓k_cel, ↓k_tup1, ↓k_lst1, ↓k_cel1, ↓k_call, ↓k_call1, ↓k_skip, ↓k_bk, ↓k_ct, ↓k_no, ↓k_seq, ↓k_seq1, ↓k_seq2, ↓k_seq3, ↓k_seq4, ↓k_ex, ↓k_ex1, ↓k_ret, ↓k_ret1, ↓k_if, ↓k_if1, ↓k_as, ↓k_as1, ↓k_nx, ↓k_st0, ↓k_stS, ↓k_set, ↓k_set1, ↓k_par2, ↓k_par21, ↓k_par3, ↓k_par31, ↓k_nm, ↓k_gsnil, ↓k_gscons, ↓k_gscons1, ↓k_gix, ↓k_gix1, ↓k_gix2, ↓k_gix3, ↓k_for, ↓k_for1, ↓k_isq, ↓k_isqT, ↓k_isqL, ↓k_isqS, ↓k_r1, ↓k_r11, ↓k_r21, ↓k_app, ↓k_ar0, ↓k_ar1, ↓k_gT1, ↓k_gL1, ↓k_ar2, ↓k_gT2, ↓k_gL2, ↓k_ar3, ↓k_gT3, ↓k_gL3, ↓k_ar4, ↓k_gT4, ↓k_gL4, ↓k_ar5, ↓k_gT5, ↓k_gL5, ↓k_ar6, ↓k_gT6, ↓k_gL6, ↓k_ar7, ↓k_gT7, ↓k_gL7, ↓k_add, ↓k_sub, ↓k_mul, ↓k_fdiv, ↓k_mod, ↓k_pow, ↓k_neg, ↓k_lt, ↓k_le, ↓k_gt, ↓k_ge, ↓k_eq, ↓k_ne, ↓k_eqs, ↓k_nes, ↓k_abs, ↓k_int, ↓k_intb, ↓k_boolb, ↓k_max, ↓k_min, ↓k_isi, ↓k_lenS, ↓k_lenL, ↓k_lenT, ↓k_is, ↓k_isn, ↓k_revL, ↓k_ixL, ↓k_ixT, ↓k_ixS, ↓k_at0, ↓k_at1, ↓k_at2, ↓k_at3, ↓k_en0, ↓k_enN, ↓k_enC, ↓k_fnM, ↓k_fnK, lb_0, lb_1, lb_2, lb_3, lb_4, lb_5, lb_6, lb_7, lb_8, lb_9, lb_10, lb_11, lb_12, Gv_ret, Gv_some, Gv_none, Gv_fail, ite_F, kitII, kitIB, kitBI, kitBB, FinK_rt, Fin_nx, frz_int, frz_bl, frz_non, frz_str, frz_tup, frz_lst, frzs_nil, frzs_cons, Option.map_some, Option.bind_some, Fin_rt, noH, noHs, set_app, true_and, and_true, false_and, and_false, not_true_eq_false, not_false_eq_true, Option.some.injEq, exists_eq_left, exists_eq_left', take_all, take_set, ↓reduceIte, Bool.not_true, Bool.not_false, Bool.false_eq_true, if_true, if_false, Bool.and_true, Bool.true_and, Bool.and_false, Bool.false_and, decide_eq_true_eq, Bool.not_eq_true', decide_eq_false_iff_not]
      refine gv_bowl (by omega) (by omega) fun S1 hb => ?_
      simp only [↓k_var0, ↓k_varS, ↓k_c, ↓k_op, ↓k_op1, ↓k_op2, ↓k_un, ↓k_un1, ↓k_tOf, ↓k_b, ↓k_not, ↓k_not1, ↓k_and, ↓k_and1, ↓k_or, ↓k_or1, ↓k_eand, ↓k_eand1, ↓k_eor, ↓k_eor1, ↓k_enot, ↓k_enot1, ↓k_eif, ↓k_eif1, ↓k_chn, ↓k_chn1, ↓k_chn2, ↓k_chn3, ↓k_nil, ↓k_cons, ↓k_cons1, ↓k_cons2, ↓k_tup, ↓k_lst, ↓k_cel, ↓k_tup1, ↓k_lst1, ↓k_cel1, ↓k_call, ↓k_call1, ↓k_skip, ↓k_bk, ↓k_ct, ↓k_no, ↓k_seq, ↓k_seq1, ↓k_seq2, ↓k_seq3, ↓k_seq4, ↓k_ex, ↓k_ex1, ↓k_ret, ↓k_ret1, ↓k_if, ↓k_if1, ↓k_as, ↓k_as1, ↓k_nx, ↓k_st0, ↓k_stS, ↓k_set, ↓k_set1, ↓k_par2, ↓k_par21, ↓k_par3, ↓k_par31, ↓k_nm, ↓k_gsnil, ↓k_gscons, ↓k_gscons1, ↓k_gix, ↓k_gix1, ↓k_gix2, ↓k_gix3, ↓k_for, ↓k_for1, ↓k_isq, ↓k_isqT, ↓k_isqL, ↓k_isqS, ↓k_r1, ↓k_r11, ↓k_r21, ↓k_app, ↓k_ar0, ↓k_ar1, ↓k_gT1, ↓k_gL1, ↓k_ar2, ↓k_gT2, ↓k_gL2, ↓k_ar3, ↓k_gT3, ↓k_gL3, ↓k_ar4, ↓k_gT4, ↓k_gL4, ↓k_ar5, ↓k_gT5, ↓k_gL5, ↓k_ar6, ↓k_gT6, ↓k_gL6, ↓k_ar7, ↓k_gT7, ↓k_gL7, ↓k_add, ↓k_sub, ↓k_mul, ↓k_fdiv, ↓k_mod, ↓k_pow, ↓k_neg, ↓k_lt, ↓k_le, ↓k_gt, ↓k_ge, ↓k_eq, ↓k_ne, ↓k_eqs, ↓k_nes, ↓k_abs, ↓k_int, ↓k_intb, ↓k_boolb, ↓k_max, ↓k_min, ↓k_isi, ↓k_lenS, ↓k_lenL, ↓k_lenT, ↓k_is, ↓k_isn, ↓k_revL, ↓k_ixL, ↓k_ixT, ↓k_ixS, ↓k_at0, ↓k_at1, ↓k_at2, ↓k_at3, ↓k_en0, ↓k_enN, ↓k_enC, ↓k_fnM, ↓k_fnK, lb_0, lb_1, lb_2, lb_3, lb_4, lb_5, lb_6, lb_7, lb_8, lb_9, lb_10, lb_11, lb_12, Gv_ret, Gv_some, Gv_none, Gv_fail, ite_F, kitII, kitIB, kitBI, kitBB, FinK_rt, Fin_nx, frz_int, frz_bl, frz_non, frz_str, frz_tup, frz_lst, frzs_nil, frzs_cons, Option.map_some, Option.bind_some, Fin_rt, noH, noHs, set_app, true_and, and_true, false_and, and_false, not_true_eq_false, not_false_eq_true, Option.some.injEq, exists_eq_left, exists_eq_left', take_all, take_set, ↓reduceIte, Bool.not_true, Bool.not_false, Bool.false_eq_true, if_true, if_false, Bool.and_true, Bool.true_and, Bool.and_false, Bool.false_and, decide_eq_true_eq, Bool.not_eq_true', decide_eq_false_iff_not]
      refine ⟨by decide, ?_⟩
      refine Gv_rng (fun i τ S2 => Bowl S'.length (S'.length + 1) S2 ∧ ∃ o1 o3 o4 o5 o6 o7 o8, τ = [some (.scr (ns.map T.int)), o1, some (.hdl S'.length), o3, o4, o5, o6, o7, o8]) ⟨hb, _, _, _, _, _, _, _, rfl⟩ ?turn2 ?last2
      case last2 =>
        rintro τ S2 ⟨-, o1, o3, o4, o5, o6, o7, o8, rfl⟩
        exact ⟨_, _, _, _, _, _, _, _, rfl⟩
      case turn2 =>
        rintro j τ S2 hj ⟨hb, o1, o3, o4, o5, o6, o7, o8, rfl⟩
        simp only [↓k_var0, ↓k_varS, ↓k_c, ↓k_op, ↓k_op1, ↓k_op2, ↓k_un, ↓k_un1, ↓k_tOf, ↓k_b, ↓k_not, ↓k_not1, ↓k_and, ↓k_and1, ↓k_or, ↓k_or1, ↓k_eand, ↓k_eand1, ↓k_eor, ↓k_eor1, ↓k_enot, ↓k_enot1, ↓k_eif, ↓k_eif1, ↓k_chn, ↓k_chn1, ↓k_chn2, ↓k_chn3, ↓k_nil, ↓k_cons, ↓k_cons1, ↓k_cons2, ↓k_tup, ↓k_lst, ↓k_cel, ↓k_tup1, ↓k_lst1, ↓k_cel1, ↓k_call, ↓k_call1, ↓k_skip, ↓k_bk, ↓k_ct, ↓k_no, ↓k_seq, ↓k_seq1, ↓k_seq2, ↓k_seq3, ↓k_seq4, ↓k_ex, ↓k_ex1, ↓k_ret, ↓k_ret1, ↓k_if, ↓k_if1, ↓k_as, ↓k_as1, ↓k_nx, ↓k_st0, ↓k_stS, ↓k_set, ↓k_set1, ↓k_par2, ↓k_par21, ↓k_par3, ↓k_par31, ↓k_nm, ↓k_gsnil, ↓k_gscons, ↓k_gscons1, ↓k_gix, ↓k_gix1, ↓k_gix2, ↓k_gix3, ↓k_for, ↓k_for1, ↓k_isq, ↓k_isqT, ↓k_isqL, ↓k_isqS, ↓k_r1, ↓k_r11, ↓k_r21, ↓k_app, ↓k_ar0, ↓k_ar1, ↓k_gT1, ↓k_gL1, ↓k_ar2, ↓k_gT2, ↓k_gL2, ↓k_ar3, ↓k_gT3, ↓k_gL3, ↓k_ar4, ↓k_gT4, ↓k_gL4, ↓k_ar5, ↓k_gT5, ↓k_gL5, ↓k_ar6, ↓k_gT6, ↓k_gL6, ↓k_ar7, ↓k_gT7, ↓k_gL7, ↓k_add, ↓k_sub, ↓k_mul, ↓k_fdiv, ↓k_mod, ↓k_pow, ↓k_neg, ↓k_lt, ↓k_le, ↓k_gt, ↓k_ge, ↓k_eq, ↓k_ne, ↓k_eqs, ↓k_nes, ↓k_abs, ↓k_int, ↓k_intb, ↓k_boolb, ↓k_max, ↓k_min, ↓k_isi, ↓k_lenS, ↓k_lenL, ↓k_lenT, ↓k_is, ↓k_isn, ↓k_revL, ↓k_ixL, ↓k_ixT, ↓k_ixS, ↓k_at0, ↓k_at1, ↓k_at2, ↓k_at3, ↓k_en0, ↓k_enN, ↓k_enC, ↓k_fnM, ↓k_fnK, lb_0, lb_1, lb_2, lb_3, lb_4, lb_5, lb_6, lb_7, lb_8, lb_9, lb_10, lb_11, lb_12, Gv_ret, Gv_some, Gv_none, Gv_fail, ite_F, kitII, kitIB, kitBI, kitBB, FinK_rt, Fin_nx, frz_int, frz_bl, frz_non, frz_str, frz_tup, frz_lst, frzs_nil, frzs_cons, Option.map_some, Option.bind_some, Fin_rt, noH, noHs, set_app, true_and, and_true, false_and, and_false, not_true_eq_false, not_false_eq_true, Option.some.injEq, exists_eq_left, exists_eq_left', take_all, take_set, ↓reduceIte, Bool.not_true, Bool.not_false, Bool.false_eq_true, if_true, if_false, Bool.and_true, Bool.true_and, Bool.and_false, Bool.false_and, decide_eq_true_eq, Bool.not_eq_true', decide_eq_false_iff_not]
        refine gv_wide hb fun n a d m S3 l h3 => ?_
        have c1 := l.c1
        have c2 := l.c2
        have a1 := l.a1
        have a2 := l.a2
        have m1 := l.m1
        have m2 := l.m2
        have bd : ∀ x : Int, -1000000000000000000000000000000000000000000000000000000 ≤ x → x ≤ 1000000000000000000000000000000000000000000000000000000 → Bd 190 x := fun x x1 x2 => by
          show x.natAbs < 2 ^ 190
          have : (2 : Nat) ^ 190 = 1569275433846670190958947355801916604025588861116008628224 := by decide
          omega
        simp only [↓k_var0, ↓k_varS, ↓k_c, ↓k_op, ↓k_op1, ↓k_op2, ↓k_un, ↓k_un1, ↓k_tOf, ↓k_b, ↓k_not, ↓k_not1, ↓k_and, ↓k_and1, ↓k_or, ↓k_or1, ↓k_eand, ↓k_eand1, ↓k_eor, ↓k_eor1, ↓k_enot, ↓k_enot1, ↓k_eif, ↓k_eif1, ↓k_chn, ↓k_chn1, ↓k_chn2, ↓k_chn3, ↓k_nil, ↓k_cons, ↓k_cons1, ↓k_cons2, ↓k_tup, ↓k_lst, ↓k_cel, ↓k_tup1, ↓k_lst1, ↓k_cel1, ↓k_call, ↓k_call1, ↓k_skip, ↓k_bk, ↓k_ct, ↓k_no, ↓k_seq, ↓k_seq1, ↓k_seq2, ↓k_seq3, ↓k_seq4, ↓k_ex, ↓k_ex1, ↓k_ret, ↓k_ret1, ↓k_if, ↓k_if1, ↓k_as, ↓k_as1, ↓k_nx, ↓k_st0, ↓k_stS, ↓k_set, ↓k_set1, ↓k_par2, ↓k_par21, ↓k_par3, ↓k_par31, ↓k_nm, ↓k_gsnil, ↓k_gscons, ↓k_gscons1, ↓k_gix, ↓k_gix1, ↓k_gix2, ↓k_gix3, ↓k_for, ↓k_for1, ↓k_isq, ↓k_isqT, ↓k_isqL, ↓k_isqS, ↓k_r1, ↓k_r11, ↓k_r21, ↓k_app, ↓k_ar0, ↓k_ar1, ↓k_gT1, ↓k_gL1, ↓k_ar2, ↓k_gT2, ↓k_gL2, ↓k_ar3, ↓k_gT3, ↓k_gL3, ↓k_ar4, ↓k_gT4, ↓k_gL4, ↓k_ar5, ↓k_gT5, ↓k_gL5, ↓k_ar6, ↓k_gT6, ↓k_gL6, ↓k_ar7, ↓k_gT7, ↓k_gL7, ↓k_add, ↓k_sub, ↓k_mul, ↓k_fdiv, ↓k_mod, ↓k_pow, ↓k_neg, ↓k_lt, ↓k_le, ↓k_gt, ↓k_ge, ↓k_eq, ↓k_ne, ↓k_eqs, ↓k_nes, ↓k_abs, ↓k_int, ↓k_intb, ↓k_boolb, ↓k_max, ↓k_min, ↓k_isi, ↓k_lenS, ↓k_lenL, ↓k_lenT, ↓k_is, ↓k_isn, ↓k_revL, ↓k_ixL, ↓k_ixT, ↓k_ixS, ↓k_at0, ↓k_at1, ↓k_at2, ↓k_at3, ↓k_en0, ↓k_enN, ↓k_enC, ↓k_fnM, ↓k_fnK, lb_0, lb_1, lb_2, lb_3, lb_4, lb_5, lb_6, lb_7, lb_8, lb_9, lb_10, lb_11, lb_12, Gv_ret, Gv_some, Gv_none, Gv_fail, ite_F, kitII, kitIB, kitBI, kitBB, FinK_rt, Fin_nx, frz_int, frz_bl, frz_non, frz_str, frz_tup, frz_lst, frzs_nil, frzs_cons, Option.map_some, Option.bind_some, Fin_rt, noH, noHs, set_app, true_and, and_true, false_and, and_false, not_true_eq_false, not_false_eq_true, Option.some.injEq, exists_eq_left, exists_eq_left', take_all, take_set, ↓reduceIte, Bool.not_true, Bool.not_false, Bool.false_eq_true, if_true, if_false, Bool.and_true, Bool.true_and, Bool.and_false, Bool.false_and, decide_eq_true_eq, Bool.not_eq_true', decide_eq_false_iff_not, ↓gv_line_sum l.r0, ↓gv_area l.r0.hn.bd (bd a (by omega) (by omega)) (bd d (by omega) (by omega)) (bd m (by omega) (by omega)) (show 0 < m by omega), decide_true]
        refine ⟨by decide, ?_⟩
        have hn := l.hn
        have b1 : Bd 200 ((n : Int) + 1) := by
          have := l.r0.hn.bd
          show ((n : Int) + 1).natAbs < 2 ^ 200
          have : (2 : Nat) ^ 200 = 1606938044258990275541962092341162602522202993782792835301376 := by decide
          omega
        refine gv_sip h3 (by omega) (div_ok (by omega) b1 (by decide)) fun r S4 r0 r1 h4 => ?_
        simp only [↓k_var0, ↓k_varS, ↓k_c, ↓k_op, ↓k_op1, ↓k_op2, ↓k_un, ↓k_un1, ↓k_tOf, ↓k_b, ↓k_not, ↓k_not1, ↓k_and, ↓k_and1, ↓k_or, ↓k_or1, ↓k_eand, ↓k_eand1, ↓k_eor, ↓k_eor1, ↓k_enot, ↓k_enot1, ↓k_eif, ↓k_eif1, ↓k_chn, ↓k_chn1, ↓k_chn2, ↓k_chn3, ↓k_nil, ↓k_cons, ↓k_cons1, ↓k_cons2, ↓k_tup, ↓k_lst, ↓k_cel, ↓k_tup1, ↓k_lst1, ↓k_cel1, ↓k_call, ↓k_call1, ↓k_skip, ↓k_bk, ↓k_ct, ↓k_no, ↓k_seq, ↓k_seq1, ↓k_seq2, ↓k_seq3, ↓k_seq4, ↓k_ex, ↓k_ex1, ↓k_ret, ↓k_ret1, ↓k_if, ↓k_if1, ↓k_as, ↓k_as1, ↓k_nx, ↓k_st0, ↓k_stS, ↓k_set, ↓k_set1, ↓k_par2, ↓k_par21, ↓k_par3, ↓k_par31, ↓k_nm, ↓k_gsnil, ↓k_gscons, ↓k_gscons1, ↓k_gix, ↓k_gix1, ↓k_gix2, ↓k_gix3, ↓k_for, ↓k_for1, ↓k_isq, ↓k_isqT, ↓k_isqL, ↓k_isqS, ↓k_r1, ↓k_r11, ↓k_r21, ↓k_app, ↓k_ar0, ↓k_ar1, ↓k_gT1, ↓k_gL1, ↓k_ar2, ↓k_gT2, ↓k_gL2, ↓k_ar3, ↓k_gT3, ↓k_gL3, ↓k_ar4, ↓k_gT4, ↓k_gL4, ↓k_ar5, ↓k_gT5, ↓k_gL5, ↓k_ar6, ↓k_gT6, ↓k_gL6, ↓k_ar7, ↓k_gT7, ↓k_gL7, ↓k_add, ↓k_sub, ↓k_mul, ↓k_fdiv, ↓k_mod, ↓k_pow, ↓k_neg, ↓k_lt, ↓k_le, ↓k_gt, ↓k_ge, ↓k_eq, ↓k_ne, ↓k_eqs, ↓k_nes, ↓k_abs, ↓k_int, ↓k_intb, ↓k_boolb, ↓k_max, ↓k_min, ↓k_isi, ↓k_lenS, ↓k_lenL, ↓k_lenT, ↓k_is, ↓k_isn, ↓k_revL, ↓k_ixL, ↓k_ixT, ↓k_ixS, ↓k_at0, ↓k_at1, ↓k_at2, ↓k_at3, ↓k_en0, ↓k_enN, ↓k_enC, ↓k_fnM, ↓k_fnK, lb_0, lb_1, lb_2, lb_3, lb_4, lb_5, lb_6, lb_7, lb_8, lb_9, lb_10, lb_11, lb_12, Gv_ret, Gv_some, Gv_none, Gv_fail, ite_F, kitII, kitIB, kitBI, kitBB, FinK_rt, Fin_nx, frz_int, frz_bl, frz_non, frz_str, frz_tup, frz_lst, frzs_nil, frzs_cons, Option.map_some, Option.bind_some, Fin_rt, noH, noHs, set_app, true_and, and_true, false_and, and_false, not_true_eq_false, not_false_eq_true, Option.some.injEq, exists_eq_left, exists_eq_left', take_all, take_set, ↓reduceIte, Bool.not_true, Bool.not_false, Bool.false_eq_true, if_true, if_false, Bool.and_true, Bool.true_and, Bool.and_false, Bool.false_and, decide_eq_true_eq, Bool.not_eq_true', decide_eq_false_iff_not]
        refine gv_oneN h4 (n := n) (by omega) (by omega) (by omega) (by omega) fun k S5 hk h5 => ?_
        have hm := l.mul (k := n - 1)
        have hm2 : -2000000000000000000000000000000000000000000000000000000 < a * ((n : Int) - 1) ∧ a * ((n : Int) - 1) < 2000000000000000000000000000000000000000000000000000000 := by
          by_cases z : n = 0
          · rw [z]; show _ < a * (-1) ∧ a * (-1) < _; omega
          · have := hm (by omega) (by omega); omega
        have rr : Rg n (0 - a) (d + a * ((n : Int) - 1)) m := l.rg (Nat.le_refl n) (by omega) (by omega) (by omega) (by omega)
        have ba : Bd 190 a := bd a (by omega) (by omega)
        have bn : Bd 200 (n : Int) := l.r0.hn.bd
        simp only [↓k_var0, ↓k_varS, ↓k_c, ↓k_op, ↓k_op1, ↓k_op2, ↓k_un, ↓k_un1, ↓k_tOf, ↓k_b, ↓k_not, ↓k_not1, ↓k_and, ↓k_and1, ↓k_or, ↓k_or1, ↓k_eand, ↓k_eand1, ↓k_eor, ↓k_eor1, ↓k_enot, ↓k_enot1, ↓k_eif, ↓k_eif1, ↓k_chn, ↓k_chn1, ↓k_chn2, ↓k_chn3, ↓k_nil, ↓k_cons, ↓k_cons1, ↓k_cons2, ↓k_tup, ↓k_lst, ↓k_cel, ↓k_tup1, ↓k_lst1, ↓k_cel1, ↓k_call, ↓k_call1, ↓k_skip, ↓k_bk, ↓k_ct, ↓k_no, ↓k_seq, ↓k_seq1, ↓k_seq2, ↓k_seq3, ↓k_seq4, ↓k_ex, ↓k_ex1, ↓k_ret, ↓k_ret1, ↓k_if, ↓k_if1, ↓k_as, ↓k_as1, ↓k_nx, ↓k_st0, ↓k_stS, ↓k_set, ↓k_set1, ↓k_par2, ↓k_par21, ↓k_par3, ↓k_par31, ↓k_nm, ↓k_gsnil, ↓k_gscons, ↓k_gscons1, ↓k_gix, ↓k_gix1, ↓k_gix2, ↓k_gix3, ↓k_for, ↓k_for1, ↓k_isq, ↓k_isqT, ↓k_isqL, ↓k_isqS, ↓k_r1, ↓k_r11, ↓k_r21, ↓k_app, ↓k_ar0, ↓k_ar1, ↓k_gT1, ↓k_gL1, ↓k_ar2, ↓k_gT2, ↓k_gL2, ↓k_ar3, ↓k_gT3, ↓k_gL3, ↓k_ar4, ↓k_gT4, ↓k_gL4, ↓k_ar5, ↓k_gT5, ↓k_gL5, ↓k_ar6, ↓k_gT6, ↓k_gL6, ↓k_ar7, ↓k_gT7, ↓k_gL7, ↓k_add, ↓k_sub, ↓k_mul, ↓k_fdiv, ↓k_mod, ↓k_pow, ↓k_neg, ↓k_lt, ↓k_le, ↓k_gt, ↓k_ge, ↓k_eq, ↓k_ne, ↓k_eqs, ↓k_nes, ↓k_abs, ↓k_int, ↓k_intb, ↓k_boolb, ↓k_max, ↓k_min, ↓k_isi, ↓k_lenS, ↓k_lenL, ↓k_lenT, ↓k_is, ↓k_isn, ↓k_revL, ↓k_ixL, ↓k_ixT, ↓k_ixS, ↓k_at0, ↓k_at1, ↓k_at2, ↓k_at3, ↓k_en0, ↓k_enN, ↓k_enC, ↓k_fnM, ↓k_fnK, lb_0, lb_1, lb_2, lb_3, lb_4, lb_5, lb_6, lb_7, lb_8, lb_9, lb_10, lb_11, lb_12, Gv_ret, Gv_some, Gv_none, Gv_fail, ite_F, kitII, kitIB, kitBI, kitBB, FinK_rt, Fin_nx, frz_int, frz_bl, frz_non, frz_str, frz_tup, frz_lst, frzs_nil, frzs_cons, Option.map_some, Option.bind_some, Fin_rt, noH, noHs, set_app, true_and, and_true, false_and, and_false, not_true_eq_false, not_false_eq_true, Option.some.injEq, exists_eq_left, exists_eq_left', take_all, take_set, ↓reduceIte, Bool.not_true, Bool.not_false, Bool.false_eq_true, if_true, if_false, Bool.and_true, Bool.true_and, Bool.and_false, Bool.false_and, decide_eq_true_eq, Bool.not_eq_true', decide_eq_false_iff_not, ↓gv_parted l hk, ↓gv_grown l, ↓gv_line_sum rr, ↓gv_line_sum l.r0, F1_rev, decide_true]
        exact ⟨by (first | exact mul_okL (by decide) | exact mul_okR (by decide) | (with_reducible apply mul_ok; (case h => (repeat' (first | assumption | with_reducible apply Bd.mul | with_reducible apply Bd.add | with_reducible apply Bd.sub | with_reducible apply Bd.neg | with_reducible apply Bd.div | with_reducible exact Bd.num))); (case q => (repeat' (first | assumption | with_reducible apply Bd.mul | with_reducible apply Bd.add | with_reducible apply Bd.sub | with_reducible apply Bd.neg | with_reducible apply Bd.div | with_reducible exact Bd.num))); (case l => decide))), h5, _, _, _, _, _, _, _, rfl⟩
  obtain ⟨r, S, e, rfl⟩ := g.ex
  exact ⟨S, e⟩
end
end Law
set_option Elab.async false
open PySem PySem.W PyProof.Rows
set_option maxRecDepth 100000 in
set_option maxHeartbeats 0 in
theorem PySem.Challenge.cw_toothchain_k41_whole_lines_put_together_holds : PySem.Challenge.rw_toothchain_k41_whole_lines_put_together.Holds := by
  w_on; o_law; k_head; (case hw => w_witness2)
  k_fill
  refine Zm.walk_law (l := PySem.Challenge.rw_toothchain_k41_whole_lines_put_together) (k := 8) (x := "_law_script") (m := Law.m_law) Law.main rfl rfl ⟨rfl, by decide, by decide⟩ (fun w h Y => PySem.W.kIn_of Y) ?F
  case F =>
    intro w mg fa h KX G hmg
    refine' Law.fin_mk { d_is_any_integer := Zm.td_mk KX G ?a0 ?l0 ?c0 ?k0 (fun _ _ _ _ _ _ us hl => match us, hl with | [_], _ => rfl), d_is_integer := Zm.td_mk KX G ?a1 ?l1 ?c1 ?k1 (fun _ _ _ _ _ _ us hl => match us, hl with | [_], _ => rfl), d_require_integer := Zm.td_mk KX G ?a2 ?l2 ?c2 ?k2 (fun _ _ _ _ _ _ us hl => match us, hl with | [_], _ => rfl), d_require_positive := Zm.td_mk KX G ?a3 ?l3 ?c3 ?k3 (fun _ _ _ _ _ _ us hl => match us, hl with | [_], _ => rfl), d_require_line := Zm.td_mk KX G ?a4 ?l4 ?c4 ?k4 (fun _ _ _ _ _ _ us hl => match us, hl with | [_, _, _, _], _ => rfl), d_first_sum := Zm.td_mk KX G ?a5 ?l5 ?c5 ?k5 (fun _ _ _ _ _ _ us hl => match us, hl with | [_], _ => rfl), d_second_sum := Zm.td_mk KX G ?a6 ?l6 ?c6 ?k6 (fun _ _ _ _ _ _ us hl => match us, hl with | [_], _ => rfl), d_lifted := Zm.td_mk KX G ?a7 ?l7 ?c7 ?k7 (fun _ _ _ _ _ _ us hl => match us, hl with | [_, _, _, _], _ => rfl), d_exchanged := Zm.td_mk KX G ?a8 ?l8 ?c8 ?k8 (fun _ _ _ _ _ _ us hl => match us, hl with | [_, _, _], _ => rfl), d_totals_in := Zm.td_mk KX G ?a9 ?l9 ?c9 ?k9 (fun _ _ _ _ _ _ us hl => match us, hl with | [_, _, _, _], _ => rfl), d_line_sum := Zm.td_mk KX G ?a10 ?l10 ?c10 ?k10 (fun _ _ _ _ _ _ us hl => match us, hl with | [_, _, _, _], _ => rfl), d_line_moment := Zm.td_mk KX G ?a11 ?l11 ?c11 ?k11 (fun _ _ _ _ _ _ us hl => match us, hl with | [_, _, _, _], _ => rfl), d_line_square := Zm.td_mk KX G ?a12 ?l12 ?c12 ?k12 (fun _ _ _ _ _ _ us hl => match us, hl with | [_, _, _, _], _ => rfl), d_law_bowl := Zm.td_mk KX G ?a13 ?l13 ?c13 ?k13 (fun _ _ _ _ _ _ us hl => match us, hl with | [_, _], _ => rfl), d_law_sip := Zm.td_mk KX G ?a14 ?l14 ?c14 ?k14 (fun _ _ _ _ _ _ us hl => match us, hl with | [_, _], _ => rfl), d_law_great := Zm.td_mk KX G ?a15 ?l15 ?c15 ?k15 (fun _ _ _ _ _ _ us hl => match us, hl with | [_, _], _ => rfl), d_law_wide_line := Zm.td_mk KX G ?a16 ?l16 ?c16 ?k16 (fun _ _ _ _ _ _ us hl => match us, hl with | [_], _ => rfl), d_law_area := Zm.td_mk KX G ?a17 ?l17 ?c17 ?k17 (fun _ _ _ _ _ _ us hl => match us, hl with | [_, _, _, _], _ => rfl), d_law_one_of := Zm.td_mk KX G ?a18 ?l18 ?c18 ?k18 (fun _ _ _ _ _ _ us hl => match us, hl with | [_, _], _ => rfl), d_law_totals := Zm.td_mk KX G ?a19 ?l19 ?c19 ?k19 (fun _ _ _ _ _ _ us hl => match us, hl with | [_, _, _, _], _ => rfl), d_law_parted_right := Zm.td_mk KX G ?a20 ?l20 ?c20 ?k20 (fun _ _ _ _ _ _ us hl => match us, hl with | [_, _, _, _, _], _ => rfl), d_law_grown_right := Zm.td_mk KX G ?a21 ?l21 ?c21 ?k21 (fun _ _ _ _ _ _ us hl => match us, hl with | [_, _, _, _], _ => rfl), d_law := Zm.td_mk KX G ?a22 ?l22 ?c22 ?k22 (fun _ _ _ _ _ _ us hl => match us, hl with | [_], _ => rfl), c_GREATEST := Zm.gi_mk KX G ?g_GREATEST, z_abs := PySem.W.mg_none_of KX G ?z_abs, z_bool := PySem.W.mg_none_of KX G ?z_bool, z_int := PySem.W.mg_none_of KX G ?z_int, z_isinstance := PySem.W.mg_none_of KX G ?z_isinstance, z_len := PySem.W.mg_none_of KX G ?z_len, z_max := PySem.W.mg_none_of KX G ?z_max, z_min := PySem.W.mg_none_of KX G ?z_min, z_range := PySem.W.mg_none_of KX G ?z_range } hmg
    (case a0 => k_is)
    (case l0 => k_is)
    (case c0 => k_is)
    (case k0 => k_is)
    (case a1 => k_is)
    (case l1 => k_is)
    (case c1 => k_is)
    (case k1 => k_is)
    (case a2 => k_is)
    (case l2 => k_is)
    (case c2 => k_is)
    (case k2 => k_is)
    (case a3 => k_is)
    (case l3 => k_is)
    (case c3 => k_is)
    (case k3 => k_is)
    (case a4 => k_is)
    (case l4 => k_is)
    (case c4 => k_is)
    (case k4 => k_is)
    (case a5 => k_is)
    (case l5 => k_is)
    (case c5 => k_is)
    (case k5 => k_is)
    (case a6 => k_is)
    (case l6 => k_is)
    (case c6 => k_is)
    (case k6 => k_is)
    (case a7 => k_is)
    (case l7 => k_is)
    (case c7 => k_is)
    (case k7 => k_is)
    (case a8 => k_is)
    (case l8 => k_is)
    (case c8 => k_is)
    (case k8 => k_is)
    (case a9 => k_is)
    (case l9 => k_is)
    (case c9 => k_is)
    (case k9 => k_is)
    (case a10 => k_is)
    (case l10 => k_is)
    (case c10 => k_is)
    (case k10 => k_is)
    (case a11 => k_is)
    (case l11 => k_is)
    (case c11 => k_is)
    (case k11 => k_is)
    (case a12 => k_is)
    (case l12 => k_is)
    (case c12 => k_is)
    (case k12 => k_is)
    (case a13 => k_is)
    (case l13 => k_is)
    (case c13 => k_is)
    (case k13 => k_is)
    (case a14 => k_is)
    (case l14 => k_is)
    (case c14 => k_is)
    (case k14 => k_is)
    (case a15 => k_is)
    (case l15 => k_is)
    (case c15 => k_is)
    (case k15 => k_is)
    (case a16 => k_is)
    (case l16 => k_is)
    (case c16 => k_is)
    (case k16 => k_is)
    (case a17 => k_is)
    (case l17 => k_is)
    (case c17 => k_is)
    (case k17 => k_is)
    (case a18 => k_is)
    (case l18 => k_is)
    (case c18 => k_is)
    (case k18 => k_is)
    (case a19 => k_is)
    (case l19 => k_is)
    (case c19 => k_is)
    (case k19 => k_is)
    (case a20 => k_is)
    (case l20 => k_is)
    (case c20 => k_is)
    (case k20 => k_is)
    (case a21 => k_is)
    (case l21 => k_is)
    (case c21 => k_is)
    (case k21 => k_is)
    (case a22 => k_is)
    (case l22 => k_is)
    (case c22 => k_is)
    (case k22 => k_is)
    (case g_GREATEST => k_is)
    (case z_abs => k_is)
    (case z_bool => k_is)
    (case z_int => k_is)
    (case z_isinstance => k_is)
    (case z_len => k_is)
    (case z_max => k_is)
    (case z_min => k_is)
    (case z_range => k_is)
