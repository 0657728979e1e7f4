import PyProof.Rows.All
import Wide.All
import OpenK.AllK
import Wide.FinOn
import HandS.ForMost
import HandS.ForExc
import HandS.Walk
import HandS.Wide
import HandS.Flow
import HandS.IsInst
import HandS.Deep
import HandS.TupAny
import HandS.Style
import KE.KUnpackStar
import HandS.Zip
import HandS.More
import HandS.Defaults
import PySem.Challenge.RW_growjoin_k01_kinds
set_option Elab.async false
set_option linter.all false
set_option maxRecDepth 100000
set_option maxHeartbeats 4000000
/-! DL: a layer over HandS in which data that never change are plain trees (PyData); objects that change stand in a small store. -/
namespace DL
open PySem PySem.Spec PyProof.Rows L2

/-- what a slot, a list's place, a field holds: data, or the address of an object of the store -/
inductive Sl where
  | dat (d : PyData)
  | adr (a : Addr)
  | scr (ns : List Int)
/-- an object of the store -/
inductive OO where
  | lst (xs : List Sl)
  | dic (kvs : List (Key × Sl))
  | ins (C : Addr) (fs : List (Str × Sl))
abbrev Om := Addr → Option OO
abbrev DEnv := List (Option Sl)
def put (w : Om) (a : Addr) (o : OO) : Om := fun b => if b = a then some o else w b
def del (w : Om) (a : Addr) : Om := fun b => if b = a then none else w b
theorem put_same {w : Om} {a : Addr} {o : OO} : put w a o a = some o := by unfold put; rw [if_pos rfl]
theorem put_ne {w : Om} {a b : Addr} {o : OO} (h : b ≠ a) : put w a o b = w b := by unfold put; rw [if_neg h]
theorem put_put {w : Om} {a : Addr} {o u : OO} : put (put w a o) a u = put w a u := by funext b; unfold put; split <;> rfl
theorem del_same {w : Om} {a : Addr} : del w a a = none := by unfold del; rw [if_pos rfl]
theorem del_ne {w : Om} {a b : Addr} (h : b ≠ a) : del w a b = w b := by unfold del; rw [if_neg h]
theorem del_put {w : Om} {a : Addr} {o : OO} (h : w a = none) : del (put w a o) a = w := by
  funext b
  by_cases e : b = a
  · subst e; rw [del_same, h]
  · rw [del_ne e, put_ne e]
theorem put_get {w : Om} {a : Addr} {o : OO} (h : w a = some o) : put w a o = w := by
  funext b
  by_cases e : b = a
  · subst e; rw [put_same, h]
  · rw [put_ne e]
theorem put_comm {w : Om} {a b : Addr} {o u : OO} (h : a ≠ b) : put (put w a o) b u = put (put w b u) a o := by
  funext c
  by_cases e : c = b
  · subst e; rw [put_same, put_ne (Ne.symm h), put_same]
  · rw [put_ne e]
    by_cases e2 : c = a
    · subst e2; rw [put_same, put_same]
    · rw [put_ne e2, put_ne e2, put_ne e]
/-- a part of a store -/
def Sub (w u : Om) : Prop := ∀ a o, w a = some o → u a = some o
theorem Sub.refl (w : Om) : Sub w w := fun _ _ h => h
theorem Sub.trans {w u v : Om} (a : Sub w u) (b : Sub u v) : Sub w v := fun c o h => b c o (a c o h)
theorem Sub.new {w : Om} {a : Addr} {o : OO} (h : w a = none) : Sub w (put w a o) := fun b u e => by
  have : b ≠ a := fun z => by subst z; rw [h] at e; cases e
  rw [put_ne this]; exact e
theorem Sub.put {w u : Om} {a : Addr} {o : OO} (s : Sub w u) : Sub (put w a o) (put u a o) := fun b v e => by
  by_cases z : b = a
  · subst z; rw [put_same] at e ⊢; exact e
  · rw [put_ne z] at e ⊢; exact s b v e
theorem Sub.del (w : Om) (a : Addr) : Sub (del w a) w := fun b o e => by
  by_cases z : b = a
  · subst z; rw [del_same] at e; cases e
  · rw [del_ne z] at e; exact e

/-! ### data in a heap -/
mutual
inductive Dr (K : PySem.W.Frag) (D : Hp) : V → PyData → Prop
  | non : Dr K D .non .none
  | bl (b : Bool) : Dr K D (.bl b) (.bool b)
  | int (i : Int) : Dr K D (.int i) (.int i)
  | str (x : Str) : Dr K D (.str x) (.str x)
  | lst {a : Addr} {xs : List V} {ds : List PyData} : D a = some (.lst xs) → DrA K D xs ds → Dr K D (.ref a) (.list ds)
  | tup {a : Addr} {xs : List V} {ds : List PyData} : SqT K D a xs → DrA K D xs ds → Dr K D (.ref a) (.tuple ds)
  | dct {a : Addr} : D a = some (.dK []) → Dr K D (.ref a) (.dict [])
inductive DrA (K : PySem.W.Frag) (D : Hp) : List V → List PyData → Prop
  | nil : DrA K D [] []
  | cons {v : V} {vs : List V} {d : PyData} {ds : List PyData} : Dr K D v d → DrA K D vs ds → DrA K D (v :: vs) (d :: ds)
end
theorem sqT_mono {K : PySem.W.Frag} {D D' : Hp} {a : Addr} {xs : List V} (e : Same D D') (h : SqT K D a xs) : SqT K D' a xs := by
  rcases h with (h | ⟨o, h⟩) | h
  · exact .inl (.inl (e _ _ h))
  · exact .inl (.inr ⟨o, e _ _ h⟩)
  · exact .inr h
mutual
theorem Dr.mono {K : PySem.W.Frag} {D D' : Hp} (e : Same D D') : ∀ {v : V} {d : PyData}, Dr K D v d → Dr K D' v d
  | _, _, .non => .non
  | _, _, .bl b => .bl b
  | _, _, .int i => .int i
  | _, _, .str x => .str x
  | _, _, .lst h hs => .lst (e _ _ h) (DrA.mono e hs)
  | _, _, .tup h hs => .tup (sqT_mono e h) (DrA.mono e hs)
  | _, _, .dct h => .dct (e _ _ h)
theorem DrA.mono {K : PySem.W.Frag} {D D' : Hp} (e : Same D D') : ∀ {vs : List V} {ds : List PyData}, DrA K D vs ds → DrA K D' vs ds
  | _, _, .nil => .nil
  | _, _, .cons h hs => .cons (Dr.mono e h) (DrA.mono e hs)
end
theorem DrA.length {K : PySem.W.Frag} {D : Hp} : ∀ {vs : List V} {ds : List PyData}, DrA K D vs ds → vs.length = ds.length
  | _, _, .nil => rfl
  | _, _, .cons _ hs => by rw [List.length_cons, List.length_cons, DrA.length hs]
theorem DrA.get {K : PySem.W.Frag} {D : Hp} : ∀ {vs : List V} {ds : List PyData} {i : Nat} {d : PyData}, DrA K D vs ds → ds[i]? = some d → ∃ v, vs[i]? = some v ∧ Dr K D v d
  | _, _, _, _, .nil, e => by simp at e
  | _, _, 0, _, .cons h _, e => by simp at e; subst e; exact ⟨_, rfl, h⟩
  | _, _, i + 1, d, .cons _ hs, e => by
    obtain ⟨v, h1, h2⟩ := DrA.get (i := i) (d := d) hs (by simpa using e)
    exact ⟨v, by simpa using h1, h2⟩
theorem DrA.append {K : PySem.W.Frag} {D : Hp} : ∀ {vs us : List V} {ds es : List PyData}, DrA K D vs ds → DrA K D us es → DrA K D (vs ++ us) (ds ++ es)
  | _, _, _, _, .nil, s => s
  | _, _, _, _, .cons r t, s => .cons r (DrA.append t s)
theorem DrA.take {K : PySem.W.Frag} {D : Hp} : ∀ {vs : List V} {ds : List PyData} (n : Nat), DrA K D vs ds → DrA K D (vs.take n) (ds.take n)
  | _, _, 0, _ => .nil
  | _, _, _ + 1, .nil => .nil
  | _, _, n + 1, .cons r t => .cons r (DrA.take n t)
theorem DrA.drop {K : PySem.W.Frag} {D : Hp} : ∀ {vs : List V} {ds : List PyData} (n : Nat), DrA K D vs ds → DrA K D (vs.drop n) (ds.drop n)
  | _, _, 0, r => r
  | _, _, _ + 1, .nil => .nil
  | _, _, n + 1, .cons _ t => DrA.drop n t
theorem DrA.snoc {K : PySem.W.Frag} {D : Hp} {v : V} {d : PyData} {vs : List V} {ds : List PyData} (h : DrA K D vs ds) (r : Dr K D v d) : DrA K D (vs ++ [v]) (ds ++ [d]) := h.append (.cons r .nil)
theorem DrA.reverse {K : PySem.W.Frag} {D : Hp} : ∀ {vs : List V} {ds : List PyData}, DrA K D vs ds → DrA K D vs.reverse ds.reverse
  | _, _, .nil => .nil
  | _, _, .cons r t => by rw [List.reverse_cons, List.reverse_cons]; exact (DrA.reverse t).snoc r

/-- a value and what a slot says of it -/
def Vr (K : PySem.W.Frag) (D : Hp) (v : V) : Sl → Prop
  | .dat d => Dr K D v d
  | .adr a => v = .ref a
  | .scr ns => ∃ a, v = .ref a ∧ SqL K D a (ns.map V.int)
theorem Vr.mono {K : PySem.W.Frag} {D D' : Hp} {v : V} {s : Sl} (e : Same D D') (h : Vr K D v s) : Vr K D' v s := by
  cases s with
  | dat d => exact Dr.mono e h
  | adr a => exact h
  | scr ns => obtain ⟨a, h1, h2⟩ := h; exact ⟨a, h1, Same.seq e h2⟩
abbrev SlA (K : PySem.W.Frag) (D : Hp) : List V → List Sl → Prop := Paired (Vr K D)
theorem SlA.mono {K : PySem.W.Frag} {D D' : Hp} {vs : List V} {ss : List Sl} (e : Same D D') (h : SlA K D vs ss) : SlA K D' vs ss := Paired.mapP h fun _ _ r => r.mono e
theorem SlA.get {K : PySem.W.Frag} {D : Hp} : ∀ {vs : List V} {ss : List Sl} {i : Nat} {s : Sl}, SlA K D vs ss → ss[i]? = some s → ∃ v, vs[i]? = some v ∧ Vr K D v s
  | _, _, _, _, .nil, e => by simp at e
  | _, _, 0, _, .cons h _, e => by simp at e; subst e; exact ⟨_, rfl, h⟩
  | _, _, i + 1, s, .cons _ hs, e => by
    obtain ⟨v, h1, h2⟩ := SlA.get (i := i) (s := s) hs (by simpa using e)
    exact ⟨v, by simpa using h1, h2⟩
theorem SlA.append {K : PySem.W.Frag} {D : Hp} : ∀ {vs us : List V} {ds es : List Sl}, SlA K D vs ds → SlA K D us es → SlA K D (vs ++ us) (ds ++ es)
  | _, _, _, _, .nil, s => s
  | _, _, _, _, .cons r t, s => .cons r (SlA.append t s)
theorem SlA.set {K : PySem.W.Frag} {D : Hp} {v : V} {s : Sl} (r : Vr K D v s) : ∀ {vs : List V} {ss : List Sl} (i : Nat), SlA K D vs ss → SlA K D (vs.set i v) (ss.set i s)
  | _, _, _, .nil => .nil
  | _, _, 0, .cons _ t => .cons r t
  | _, _, i + 1, .cons q t => .cons q (SlA.set r i t)
theorem SlA.take {K : PySem.W.Frag} {D : Hp} : ∀ {vs : List V} {ds : List Sl} (n : Nat), SlA K D vs ds → SlA K D (vs.take n) (ds.take n)
  | _, _, 0, _ => .nil
  | _, _, _ + 1, .nil => .nil
  | _, _, n + 1, .cons r t => .cons r (SlA.take n t)
theorem SlA.drop {K : PySem.W.Frag} {D : Hp} : ∀ {vs : List V} {ds : List Sl} (n : Nat), SlA K D vs ds → SlA K D (vs.drop n) (ds.drop n)
  | _, _, 0, r => r
  | _, _, _ + 1, .nil => .nil
  | _, _, n + 1, .cons _ t => SlA.drop n t
theorem SlA.snoc {K : PySem.W.Frag} {D : Hp} {v : V} {d : Sl} {vs : List V} {ds : List Sl} (h : SlA K D vs ds) (r : Vr K D v d) : SlA K D (vs ++ [v]) (ds ++ [d]) := SlA.append h (.cons r .nil)
theorem SlA.reverse {K : PySem.W.Frag} {D : Hp} : ∀ {vs : List V} {ds : List Sl}, SlA K D vs ds → SlA K D vs.reverse ds.reverse
  | _, _, .nil => .nil
  | _, _, .cons r t => by rw [List.reverse_cons, List.reverse_cons]; exact (SlA.reverse t).snoc r
theorem DrA.sl {K : PySem.W.Frag} {D : Hp} : ∀ {vs : List V} {ds : List PyData}, DrA K D vs ds → SlA K D vs (ds.map .dat)
  | _, _, .nil => .nil
  | _, _, .cons h hs => .cons h (DrA.sl hs)
theorem SlA.dat {K : PySem.W.Frag} {D : Hp} : ∀ {ds : List PyData} {vs : List V}, SlA K D vs (ds.map .dat) → DrA K D vs ds
  | [], _, .nil => .nil
  | _ :: _, _, .cons h hs => .cons h (SlA.dat hs)

/-- an object of the store as it stands in the heap -/
def OwnOk (K : PySem.W.Frag) (D H : Hp) (a : Addr) : OO → Prop
  | .lst xs => ∃ vs, H a = some (.lst vs) ∧ SlA K D vs xs
  | .dic kvs => ∃ ks, H a = some (.dK ks) ∧ Paired (fun (p : Key × V) (q : Key × Sl) => p.1 = q.1 ∧ Vr K D p.2 q.2) ks kvs
  | .ins C fs => ∃ dx gs, H a = some (.ins C dx gs) ∧ Paired (fun (p : Str × V) (q : Str × Sl) => p.1 = q.1 ∧ Vr K D p.2 q.2) gs fs
theorem OwnOk.mono {K : PySem.W.Frag} {D D' H H' : Hp} {a : Addr} {o : OO} (e : Same D D') (h : ∀ u, H a = some u → H' a = some u) (x : OwnOk K D H a o) : OwnOk K D' H' a o := by
  cases o with
  | lst xs => obtain ⟨vs, h1, h2⟩ := x; exact ⟨vs, h _ h1, SlA.mono e h2⟩
  | dic kvs => obtain ⟨ks, h1, h2⟩ := x; exact ⟨ks, h _ h1, Paired.mapP h2 fun _ _ r => ⟨r.1, r.2.mono e⟩⟩
  | ins C fs => obtain ⟨dx, gs, h1, h2⟩ := x; exact ⟨dx, gs, h _ h1, Paired.mapP h2 fun _ _ r => ⟨r.1, r.2.mono e⟩⟩
theorem OwnOk.there {K : PySem.W.Frag} {D H : Hp} {a : Addr} {o : OO} (x : OwnOk K D H a o) : H a ≠ none := by
  cases o with
  | lst xs => obtain ⟨vs, h1, h2⟩ := x; rw [h1]; intro z; cases z
  | dic kvs => obtain ⟨ks, h1, h2⟩ := x; rw [h1]; intro z; cases z
  | ins C fs => obtain ⟨dx, gs, h1, h2⟩ := x; rw [h1]; intro z; cases z

/-- the store and the data as they stand in the heap -/
structure StOk (K : PySem.W.Frag) (w : Om) (D H : Hp) : Prop where
  dh : Same D H
  own : ∀ a o, w a = some o → OwnOk K D H a o
  sep : ∀ a o, w a = some o → D a = none
/-- .. with the slots -/
structure Rp (K : PySem.W.Frag) (σ : L2.St) (ρ : DEnv) (w : Om) (D H : Hp) : Prop where
  st : StOk K w D H
  len : ρ.length = σ.length
  slot : ∀ (i : Nat) (s : Sl), ρ[i]? = some (some s) → ∃ v, σ[i]? = some (some v) ∧ Vr K D v s
/-- what a step leaves -/
structure Gr (w : Om) (D H : Hp) (w' : Om) (D' H' : Hp) : Prop where
  dd : Same D D'
  fr : ∀ a o, H a = some o → w a = none → H' a = some o
  nw : ∀ a, H a ≠ none → w a = none → w' a = none
  nd : ∀ a, H a ≠ none → w a = none → D a = none → D' a = none
  dm : ∀ a, H a ≠ none → H' a ≠ none
theorem Gr.refl (w : Om) (D H : Hp) : Gr w D H w D H := ⟨Same.refl D, fun _ _ h _ => h, fun _ _ h => h, fun _ _ _ h => h, fun _ h => h⟩
theorem Gr.trans {w w1 w2 : Om} {D D1 D2 H H1 H2 : Hp} (a : Gr w D H w1 D1 H1) (b : Gr w1 D1 H1 w2 D2 H2) : Gr w D H w2 D2 H2 where
  dd := a.dd.trans b.dd
  fr := fun x o h n => b.fr x o (a.fr x o h n) (a.nw x (by rw [h]; intro z; cases z) n)
  nw := fun x h n => b.nw x (a.dm x h) (a.nw x h n)
  nd := fun x h n d => b.nd x (a.dm x h) (a.nw x h n) (a.nd x h n d)
  dm := fun x h => b.dm x (a.dm x h)
theorem StOk.there {K : PySem.W.Frag} {w : Om} {D H : Hp} {a : Addr} {o : OO} (s : StOk K w D H) (h : w a = some o) : H a ≠ none := (s.own a o h).there
theorem StOk.freeW {K : PySem.W.Frag} {w : Om} {D H : Hp} {a : Addr} (s : StOk K w D H) (h : H a = none) : w a = none := by
  cases e : w a with
  | none => rfl
  | some o => exact absurd h (s.there e)
theorem StOk.freeD {K : PySem.W.Frag} {w : Om} {D H : Hp} {a : Addr} (s : StOk K w D H) (h : H a = none) : D a = none := by
  cases e : D a with
  | none => rfl
  | some o => rw [s.dh a o e] at h; cases h
theorem StOk.sub {K : PySem.W.Frag} {w u : Om} {D H : Hp} (s : StOk K w D H) (h : Sub u w) : StOk K u D H := ⟨s.dh, fun a o e => s.own a o (h a o e), fun a o e => s.sep a o (h a o e)⟩
theorem Rp.next {K : PySem.W.Frag} {σ : L2.St} {ρ : DEnv} {w w' : Om} {D D' H H' : Hp} (r : Rp K σ ρ w D H) (e : Same D D') (s : StOk K w' D' H') : Rp K σ ρ w' D' H' :=
  ⟨s, r.len, fun i s h => by obtain ⟨v, h1, h2⟩ := r.slot i s h; exact ⟨v, h1, h2.mono e⟩⟩
theorem Rp.set {K : PySem.W.Frag} {σ : L2.St} {ρ : DEnv} {w : Om} {D H : Hp} {v : V} {s : Sl} (r : Rp K σ ρ w D H) (i : Nat) (h : Vr K D v s) : Rp K (σ.set i (some v)) (ρ.set i (some s)) w D H := by
  refine ⟨r.st, by rw [List.length_set, List.length_set]; exact r.len, fun j t e => ?_⟩
  by_cases z : j = i
  · subst z
    by_cases hl : j < ρ.length
    · rw [List.getElem?_set_self hl] at e
      cases e
      exact ⟨v, List.getElem?_set_self (by rw [← r.len]; exact hl), h⟩
    · rw [List.getElem?_eq_none (by rw [List.length_set]; omega)] at e
      cases e
  · rw [List.getElem?_set_ne (Ne.symm z)] at e ⊢
    exact r.slot j t e
/-- a new piece of data -/
theorem StOk.newD {K : PySem.W.Frag} {w : Om} {D H : Hp} {p : Addr} {o : HO} (s : StOk K w D H) (hp : H p = none) : StOk K w (upd D p o) (upd H p o) where
  dh := fun a u e => by
    by_cases z : a = p
    · subst z; rw [upd_same] at e ⊢; exact e
    · rw [upd_ne z] at e ⊢; exact s.dh a u e
  own := fun a u e => (s.own a u e).mono (fun b v q => by rw [upd_ne (ne_of_none q (s.freeD hp))]; exact q) fun v q => by rw [upd_ne (ne_of_none q hp)]; exact q
  sep := fun a u e => by
    have : a ≠ p := fun z => s.there e (by rw [z]; exact hp)
    rw [upd_ne this]; exact s.sep a u e
theorem Gr.newD {K : PySem.W.Frag} {w : Om} {D H : Hp} {p : Addr} {o : HO} (s : StOk K w D H) (hp : H p = none) : Gr w D H w (upd D p o) (upd H p o) where
  dd := fun b v q => by rw [upd_ne (ne_of_none q (s.freeD hp))]; exact q
  fr := fun a u e _ => by rw [upd_ne (ne_of_none e hp)]; exact e
  nw := fun _ _ h => h
  nd := fun a h _ d => by
    have : a ≠ p := fun z => h (by rw [z]; exact hp)
    rw [upd_ne this]; exact d
  dm := fun a h => by
    have : a ≠ p := fun z => h (by rw [z]; exact hp)
    rw [upd_ne this]; exact h
/-- a new object of the store -/
theorem StOk.newW {K : PySem.W.Frag} {w : Om} {D H : Hp} {p : Addr} {o : HO} {u : OO} (s : StOk K w D H) (hp : H p = none) (ok : OwnOk K D (upd H p o) p u) : StOk K (put w p u) D (upd H p o) where
  dh := fun a u e => by rw [upd_ne (ne_of_none (s.dh a u e) hp)]; exact s.dh a u e
  own := fun a v e => by
    by_cases z : a = p
    · subst z; rw [put_same] at e; cases e; exact ok
    · rw [put_ne z] at e
      exact (s.own a v e).mono (Same.refl D) fun x q => by rw [upd_ne z]; exact q
  sep := fun a v e => by
    by_cases z : a = p
    · subst z; exact s.freeD hp
    · rw [put_ne z] at e; exact s.sep a v e
theorem Gr.newW {K : PySem.W.Frag} {w : Om} {D H : Hp} {p : Addr} {o : HO} {u : OO} (s : StOk K w D H) (hp : H p = none) : Gr w D H (put w p u) D (upd H p o) where
  dd := Same.refl D
  fr := fun a u e _ => by rw [upd_ne (ne_of_none e hp)]; exact e
  nw := fun a h n => by
    have : a ≠ p := fun z => h (by rw [z]; exact hp)
    rw [put_ne this]; exact n
  nd := fun _ _ _ d => d
  dm := fun a h => by
    have : a ≠ p := fun z => h (by rw [z]; exact hp)
    rw [upd_ne this]; exact h
/-- an object of the store is changed -/
theorem StOk.write {K : PySem.W.Frag} {w : Om} {D H : Hp} {p : Addr} {o : HO} {u u' : OO} (s : StOk K w D H) (hw : w p = some u) (ok : OwnOk K D (upd H p o) p u') : StOk K (put w p u') D (upd H p o) where
  dh := fun a v e => by
    have : a ≠ p := fun z => by subst z; rw [s.sep a u hw] at e; cases e
    rw [upd_ne this]; exact s.dh a v e
  own := fun a v e => by
    by_cases z : a = p
    · subst z; rw [put_same] at e; cases e; exact ok
    · rw [put_ne z] at e
      exact (s.own a v e).mono (Same.refl D) fun x q => by rw [upd_ne z]; exact q
  sep := fun a v e => by
    by_cases z : a = p
    · subst z; exact s.sep a u hw
    · rw [put_ne z] at e; exact s.sep a v e
theorem Gr.write {w : Om} {D H : Hp} {p : Addr} {o : HO} {u u' : OO} (hw : w p = some u) : Gr w D H (put w p u') D (upd H p o) where
  dd := Same.refl D
  fr := fun a v e n => by
    have : a ≠ p := fun z => by subst z; rw [hw] at n; cases n
    rw [upd_ne this]; exact e
  nw := fun a h n => by
    have : a ≠ p := fun z => by subst z; rw [hw] at n; cases n
    rw [put_ne this]; exact n
  nd := fun _ _ _ d => d
  dm := fun a h => by
    by_cases z : a = p
    · subst z; rw [upd_same]; intro q; cases q
    · rw [upd_ne z]; exact h
/-- a list of the store becomes data -/
theorem StOk.freeze {K : PySem.W.Frag} {w : Om} {D H : Hp} {p : Addr} {o : HO} {u : OO} (s : StOk K w D H) (hw : w p = some u) (hp : H p = some o) : StOk K (del w p) (upd D p o) H where
  dh := fun a v e => by
    by_cases z : a = p
    · subst z; rw [upd_same] at e; cases e; exact hp
    · rw [upd_ne z] at e; exact s.dh a v e
  own := fun a v e => by
    by_cases z : a = p
    · subst z; rw [del_same] at e; cases e
    · rw [del_ne z] at e
      refine (s.own a v e).mono (fun b x q => ?_) fun x q => q
      have : b ≠ p := fun z => by subst z; rw [s.sep b u hw] at q; cases q
      rw [upd_ne this]; exact q
  sep := fun a v e => by
    by_cases z : a = p
    · subst z; rw [del_same] at e; cases e
    · rw [del_ne z] at e; rw [upd_ne z]; exact s.sep a v e
theorem Gr.freeze {K : PySem.W.Frag} {w : Om} {D H : Hp} {p : Addr} {o : HO} {u : OO} (s : StOk K w D H) (hw : w p = some u) : Gr w D H (del w p) (upd D p o) H where
  dd := fun b x q => by
    have : b ≠ p := fun z => by subst z; rw [s.sep b u hw] at q; cases q
    rw [upd_ne this]; exact q
  fr := fun _ _ e _ => e
  nw := fun a _ n => by
    by_cases z : a = p
    · subst z; exact del_same
    · rw [del_ne z]; exact n
  nd := fun a _ n d => by
    have : a ≠ p := fun z => by subst z; rw [hw] at n; cases n
    rw [upd_ne this]; exact d
  dm := fun _ h => h
theorem Gr.sub {w w' u : Om} {D H D' H' : Hp} (g : Gr w D H w' D' H') (h : Sub u w') : Gr w D H u D' H' :=
  ⟨g.dd, g.fr, fun a x n => (by
    have := g.nw a x n
    cases e : u a with
    | none => rfl
    | some o => rw [h a o e] at this; cases this), g.nd, g.dm⟩
end DL

set_option Elab.async false
set_option linter.all false
set_option maxRecDepth 100000
set_option maxHeartbeats 4000000
namespace DL
open PySem PySem.Spec PyProof.Rows L2

abbrev DQ := Sl → Om → Prop
abbrev DTE := DEnv → Om → DQ → Prop
abbrev DTT := DEnv → Om → (Bool → Om → Prop) → Prop
abbrev DTA := DEnv → Om → (List Sl → Om → Prop) → Prop
abbrev DTO := DEnv → Om → (Option Int → Om → Prop) → Prop
/-- what is wanted of an exception: the slots, its class, its fields (none: no dict of its own), the store -/
abbrev DX := DEnv → Addr → Option (List (Str × Sl)) → Om → Prop
def XR (K : PySem.W.Frag) (D H : Hp) (d : Option Addr) : Option (List (Str × Sl)) → Prop
  | none => d = none
  | some fs => ∃ a gs, d = some a ∧ H a = some (.xd gs) ∧ Paired (fun (p : Str × V) (q : Str × Sl) => p.1 = q.1 ∧ Vr K D p.2 q.2) gs fs
def XOk (K : PySem.W.Frag) (W : WX) (Z : DX) (w : Om) (D H : Hp) : Prop :=
  ∀ σ' ρ' C x w' D' H' d, Z ρ' C x w' → Gr w D H w' D' H' → Rp K σ' ρ' w' D' H' → XR K D' H' d x → W (.ref C) d σ' H'
theorem XOk.next {K : PySem.W.Frag} {W : WX} {Z : DX} {w w1 : Om} {D D1 H H1 : Hp} (x : XOk K W Z w D H) (g : Gr w D H w1 D1 H1) : XOk K W Z w1 D1 H1 :=
  fun σ' ρ' C e w' D' H' d z g' r q => x σ' ρ' C e w' D' H' d z (g.trans g') r q
/-- the end of an expression -/
def Fin (K : PySem.W.Frag) (w : Om) (D H : Hp) (R : DQ) (Q : VK) : Prop := ∀ s w' z D' H', R s w' → Gr w D H w' D' H' → StOk K w' D' H' → Vr K D' z s → Q z H'
section
variable {K : PySem.W.Frag} {w w1 : Om} {D D1 H H1 : Hp} {R : DQ} {Q : VK}
theorem Fin.v {s : Sl} {z : V} (f : Fin K w D H R Q) (st : StOk K w D H) (h : R s w) (r : Vr K D z s) : Q z H := f s w z D H h (Gr.refl _ _ _) st r
theorem Fin.d {d : PyData} {z : V} (f : Fin K w D H R Q) (st : StOk K w D H) (h : R (.dat d) w) (r : Dr K D z d) : Q z H := f (.dat d) w z D H h (Gr.refl _ _ _) st r
theorem Fin.nl {xs : List Sl} {vs : List V} (f : Fin K w D H R Q) (st : StOk K w D H) (h : ∀ p, w p = none → R (.adr p) (put w p (.lst xs))) (r : SlA K D vs xs) : ∀ p, H p = none → Q (.ref p) (upd H p (.lst vs)) := fun p hp =>
  f (.adr p) (put w p (.lst xs)) (.ref p) D (upd H p (.lst vs)) (h p (st.freeW hp)) (Gr.newW st hp) (st.newW hp ⟨vs, upd_same, r⟩) rfl
theorem Fin.nt {ds : List PyData} {vs : List V} (f : Fin K w D H R Q) (st : StOk K w D H) (h : R (.dat (.tuple ds)) w) (r : DrA K D vs ds) : ∀ p, H p = none → Q (.ref p) (upd H p (.tup vs)) := fun p hp =>
  f (.dat (.tuple ds)) w (.ref p) (upd D p (.tup vs)) (upd H p (.tup vs)) h (Gr.newD st hp) (st.newD hp) (.tup (SqT.of upd_same) (r.mono (Gr.newD (o := .tup vs) st hp).dd))
theorem Fin.next (f : Fin K w D H R Q) (g : Gr w D H w1 D1 H1) : Fin K w1 D1 H1 R Q := fun s w' z D' H' h g' st r => f s w' z D' H' h (g.trans g') st r
end

/-! ### the judgements, as readings over heaps -/
def up (K : PySem.W.Frag) (W : WX) (Z : DX) (t : DTE) : TE := fun σ H Q => ∃ ρ w D R, Rp K σ ρ w D H ∧ XOk K W Z w D H ∧ t ρ w R ∧ Fin K w D H R Q
def upT (K : PySem.W.Frag) (W : WX) (Z : DX) (t : DTT) : TT := fun σ H Q => ∃ ρ w D R, Rp K σ ρ w D H ∧ XOk K W Z w D H ∧ t ρ w R ∧ ∀ b w' D' H', R b w' → Gr w D H w' D' H' → StOk K w' D' H' → Q b H'
def upA (K : PySem.W.Frag) (W : WX) (Z : DX) (t : DTA) : TA := fun σ H Q => ∃ ρ w D R, Rp K σ ρ w D H ∧ XOk K W Z w D H ∧ t ρ w R ∧ ∀ ss w' vs D' H', R ss w' → Gr w D H w' D' H' → StOk K w' D' H' → SlA K D' vs ss → Q vs H'
def upO (K : PySem.W.Frag) (W : WX) (Z : DX) (t : DTO) : TO := fun σ H Q => ∃ ρ w D R, Rp K σ ρ w D H ∧ XOk K W Z w D H ∧ t ρ w R ∧ ∀ o w' D' H', R o w' → Gr w D H w' D' H' → StOk K w' D' H' → Q o H'
abbrev DE (X : Cx) (W : WX) (Z : DX) (e : Expr) (t : DTE) : Prop := PE X e (up X.K W Z t)
abbrev DT (X : Cx) (W : WX) (Z : DX) (e : Expr) (t : DTT) : Prop := PT X e (upT X.K W Z t)
abbrev DW (X : Cx) (W : WX) (Z : DX) (e : Expr) (t : DTT) : Prop := PW X e (upT X.K W Z t)
abbrev DA (X : Cx) (W : WX) (Z : DX) (es : List Expr) (t : DTA) : Prop := PA X es (upA X.K W Z t)
abbrev DO (X : Cx) (W : WX) (Z : DX) (e : Option Expr) (t : DTO) : Prop := PO X e (upO X.K W Z t)
theorem pe_weak {X : Cx} {e : Expr} {t t' : TE} (h : PE X e t) (i : ∀ σ H Q, t' σ H Q → t σ H Q) : PE X e t' := ⟨fun pins s σ H Q I q => h.run pins s σ H Q I (i σ H Q q)⟩
theorem pt_weak {X : Cx} {e : Expr} {t t' : TT} (h : PT X e t) (i : ∀ σ H Q, t' σ H Q → t σ H Q) : PT X e t' := ⟨fun pins s σ H Q I q => h.run pins s σ H Q I (i σ H Q q)⟩
theorem pw_weak {X : Cx} {e : Expr} {t t' : TT} (h : PW X e t) (i : ∀ σ H Q, t' σ H Q → t σ H Q) : PW X e t' := ⟨fun whole pins s σ H Q I q => h.run whole pins s σ H Q I (i σ H Q q)⟩
theorem pa_weak {X : Cx} {e : List Expr} {t t' : TA} (h : PA X e t) (i : ∀ σ H Q, t' σ H Q → t σ H Q) : PA X e t' := ⟨fun p pins s σ H Q I q => h.run p pins s σ H Q I (i σ H Q q)⟩
theorem po_weak {X : Cx} {e : Option Expr} {t t' : TO} (h : PO X e t) (i : ∀ σ H Q, t' σ H Q → t σ H Q) : PO X e t' := ⟨fun pins s σ H Q I q => h.run pins s σ H Q I (i σ H Q q)⟩

section
variable {X : Cx} {W : WX} {Z : DX}
/-! ### names, constants -/
def dVar (i : Nat) : DTE := fun ρ w R => ∃ s, ρ[i]? = some (some s) ∧ R s w
def dC (d : PyData) : DTE := fun _ w R => R (.dat d) w
def dS (s : Sl) : DTE := fun _ w R => R s w
theorem dv (i : Nat) {x : Str} {pos : Pos} (hN : X.N[i]? = some x := by rfl) (hv : Vis X.env.scope x := by first | exact Or.inl rfl | exact Or.inr (Or.inl rfl) | exact Or.inr (Or.inr rfl)) (hd : (x == ("__debug__" : Str)) = false := by decide)
    (hcd : (x == ("__classdict__" : Str)) = false := by decide) : DE X W Z (.Name x pos) (dVar i) :=
  pe_weak (pe_var (i := i) hN hv hd hcd) fun σ H Q ⟨ρ, w, D, R, rp, _, ⟨s, hs, h⟩, f⟩ => by
    obtain ⟨v, h1, h2⟩ := rp.slot i s hs
    exact ⟨v, h1, f.v rp.st h h2⟩
theorem de_c {e : Expr} {v : V} {d : PyData} (h : PE X e (tC v)) (r : ∀ D, Dr X.K D v d) : DE X W Z e (dC d) :=
  pe_weak h fun σ H Q ⟨ρ, w, D, R, rp, _, h, f⟩ => f.d rp.st h (r D)
theorem de_s {e : Expr} {v : V} {s : Sl} (h : PE X e (tC v)) (r : ∀ D, Vr X.K D v s) : DE X W Z e (dS s) :=
  pe_weak h fun σ H Q ⟨ρ, w, D, R, rp, _, h, f⟩ => f.v rp.st h (r D)
theorem de_int {i j pos} : DE X W Z (.Constant (.int i) j pos) (dC (.int i)) := de_c pe_int fun _ => .int i
theorem de_bl {b j pos} : DE X W Z (.Constant (.bool b) j pos) (dC (.bool b)) := de_c pe_bl fun _ => .bl b
theorem de_non {j pos} : DE X W Z (.Constant .none j pos) (dC .none) := de_c pe_non fun _ => .non
theorem de_str {x j pos} : DE X W Z (.Constant (.str x) j pos) (dC (.str x)) := de_c pe_str fun _ => .str x
/-- a name of the module: a constant, or what stands in the written part -/
theorem de_glob {x : Str} {v : V} {u : Value} {d : PyData} {pos : Pos} (hg : Gl X x) (hm : X.mg x = some u) (r : RelV v u) (rd : ∀ D, Dr X.K D v d) (hd : (x == ("__debug__" : Str)) = false := by decide) : DE X W Z (.Name x pos) (dC d) := de_c (pe_glob hg hm r hd) rd
theorem de_globA {x : Str} {a : Addr} {pos : Pos} (hg : Gl X x) (hm : X.mg x = some (.ref a)) (hd : (x == ("__debug__" : Str)) = false := by decide) : DE X W Z (.Name x pos) (dS (.adr a)) := de_s (pe_glob (v := .ref a) hg hm rfl hd) fun _ => rfl

/-! ### what comes of an operation: a value, or a new list -/
inductive Ou where
  | v (s : Sl)
  | nl (xs : List Sl)
def ret : Ou → Om → DQ → Prop
  | .v s, w, R => R s w
  | .nl xs, w, R => xs.length ≤ sizeLine ∧ ∀ p, w p = none → R (.adr p) (put w p (.lst xs))
abbrev G2 := Om → Sl → Sl → Option Ou
def dOp (g : G2) (ta tb : DTE) : DTE := fun ρ w R => ta ρ w fun x w1 => tb ρ w1 fun y w2 => ∃ o, g w2 x y = some o ∧ ret o w2 R
def OpV (K : PySem.W.Frag) (r : R2) (g : G2) : Prop := ∀ x y v u w D H o R Q, StOk K w D H → Vr K D v x → Vr K D u y → g w x y = some o → ret o w R → Fin K w D H R Q → r v u H Q
variable {a b c : Expr} {ta tb tc : DTE} {pos : Pos}
theorem up_op {r : R2} {g : G2} (hv : OpV X.K r g) (σ : L2.St) (H : Hp) (Q : VK) (h : up X.K W Z (dOp g ta tb) σ H Q) : tOp r (up X.K W Z ta) (up X.K W Z tb) σ H Q := by
  obtain ⟨ρ, w, D, R, rp, xo, h, f⟩ := h
  refine ⟨ρ, w, D, _, rp, xo, h, fun x w1 v D1 H1 h1 g1 s1 rx => ?_⟩
  refine ⟨ρ, w1, D1, _, rp.next g1.dd s1, xo.next g1, h1, fun y w2 u D2 H2 h2 g2 s2 ry => ?_⟩
  obtain ⟨o, e, ho⟩ := h2
  exact hv x y v u w2 D2 H2 o R Q s2 (rx.mono g2.dd) ry e ho (f.next (g1.trans g2))
theorem de_op {op : Operator} {r : R2} {g : G2} (ho : OpR X (binaryOp op) r) (hv : OpV X.K r g) (ha : DE X W Z a ta) (hb : DE X W Z b tb) : DE X W Z (.BinOp a op b pos) (dOp g ta tb) :=
  pe_weak (pe_op ho ha hb) fun σ H Q h => up_op hv σ H Q h
theorem de_cmp {op : CmpOp} {r : R2} {g : G2} (ho : OpR X (compareOp op) r) (hv : OpV X.K r g) (ha : DE X W Z a ta) (hb : DE X W Z b tb) (hm : behindInMarks op b = false) : DE X W Z (.Compare a [op] [b] pos) (dOp g ta tb) :=
  pe_weak (pe_cmpR ho ha hb hm) fun σ H Q h => up_op hv σ H Q h
/-- a test by a value that is True or False -/
def dTst (t : DTE) : DTT := fun ρ w R => t ρ w fun s w' => ∃ k, s = .dat (.bool k) ∧ R k w'
theorem dr_bool {K : PySem.W.Frag} {D : Hp} {z : V} {k : Bool} (h : Dr K D z (.bool k)) : z = .bl k := by cases h; rfl
theorem dr_int {K : PySem.W.Frag} {D : Hp} {z : V} {k : Int} (h : Dr K D z (.int k)) : z = .int k := by cases h; rfl
theorem dr_str {K : PySem.W.Frag} {D : Hp} {z : V} {k : Str} (h : Dr K D z (.str k)) : z = .str k := by cases h; rfl
theorem dr_none {K : PySem.W.Frag} {D : Hp} {z : V} (h : Dr K D z .none) : z = .non := by cases h; rfl
theorem fin_tst {K : PySem.W.Frag} {w : Om} {D H : Hp} {R Q : Bool → Om → Prop} {P : Bool → Hp → Prop} (f : ∀ b w' D' H', R b w' → Gr w D H w' D' H' → StOk K w' D' H' → P b H') :
    Fin K w D H (fun s w' => ∃ k, s = .dat (.bool k) ∧ R k w') (fun x H' => ∃ k, x = .bl k ∧ P k H') := fun s w' z D' H' h g st r => by
  obtain ⟨k, rfl, h⟩ := h
  exact ⟨k, dr_bool r, f k w' D' H' h g st⟩
theorem dt_cmp {op : CmpOp} {r : R2} {g : G2} (ho : OpR X (compareOp op) r) (hv : OpV X.K r g) (ha : DE X W Z a ta) (hb : DE X W Z b tb) (hm : behindInMarks op b = false) : DT X W Z (.Compare a [op] [b] pos) (dTst (dOp g ta tb)) :=
  pt_weak (pt_cmpR ho ha hb hm) fun σ H Q ⟨ρ, w, D, R, rp, xo, h, f⟩ => up_op hv σ H _ ⟨ρ, w, D, _, rp, xo, h, fin_tst (Q := fun _ _ => True) f⟩
theorem dt_val {e : Expr} {t : DTE} (h : DE X W Z e t) (he : ∀ whole, isTrue e X.env whole = (do let v ← whole; standAt e.pos; holding [v] (truthy v)) := by intro _; rfl) : DT X W Z e (dTst t) :=
  pt_weak (pt_val h he) fun σ H Q ⟨ρ, w, D, R, rp, xo, h, f⟩ => ⟨ρ, w, D, _, rp, xo, h, fin_tst (Q := fun _ _ => True) f⟩
/-! ### and, or, not -/
def dAnd (t u : DTT) : DTT := fun ρ w R => t ρ w fun k w1 => if k = true then u ρ w1 R else R false w1
def dOr (t u : DTT) : DTT := fun ρ w R => t ρ w fun k w1 => if k = true then R true w1 else u ρ w1 R
def dNot (t : DTT) : DTT := fun ρ w R => t ρ w fun k w1 => R (!k) w1
variable {t u : DTT} {rest : List Expr}
theorem up_and (σ : L2.St) (H : Hp) (Q : Bool → Hp → Prop) (h : upT X.K W Z (dAnd t u) σ H Q) : tAnd (upT X.K W Z t) (upT X.K W Z u) σ H Q := by
  obtain ⟨ρ, w, D, R, rp, xo, h, f⟩ := h
  refine ⟨ρ, w, D, _, rp, xo, h, fun k w1 D1 H1 h1 g1 s1 => ?_⟩
  cases k with
  | true =>
    rw [if_pos rfl] at h1 ⊢
    exact ⟨ρ, w1, D1, R, rp.next g1.dd s1, xo.next g1, h1, fun b w' D' H' q g s => f b w' D' H' q (g1.trans g) s⟩
  | false =>
    rw [if_neg Bool.false_ne_true] at h1 ⊢
    exact f false w1 D1 H1 h1 g1 s1
theorem up_or (σ : L2.St) (H : Hp) (Q : Bool → Hp → Prop) (h : upT X.K W Z (dOr t u) σ H Q) : tOr (upT X.K W Z t) (upT X.K W Z u) σ H Q := by
  obtain ⟨ρ, w, D, R, rp, xo, h, f⟩ := h
  refine ⟨ρ, w, D, _, rp, xo, h, fun k w1 D1 H1 h1 g1 s1 => ?_⟩
  cases k with
  | true =>
    rw [if_pos rfl] at h1 ⊢
    exact f true w1 D1 H1 h1 g1 s1
  | false =>
    rw [if_neg Bool.false_ne_true] at h1 ⊢
    exact ⟨ρ, w1, D1, R, rp.next g1.dd s1, xo.next g1, h1, fun b w' D' H' q g s => f b w' D' H' q (g1.trans g) s⟩
theorem dw_and1 (ha : DT X W Z a t) : DW X W Z (.BoolOp .And [a] pos) t := pw_and1 ha
theorem dw_or1 (ha : DT X W Z a t) : DW X W Z (.BoolOp .Or [a] pos) t := pw_or1 ha
theorem dw_and (ha : DT X W Z a t) (hb : DW X W Z (.BoolOp .And (b :: rest) pos) u) : DW X W Z (.BoolOp .And (a :: b :: rest) pos) (dAnd t u) := pw_weak (pw_and ha hb) up_and
theorem dw_or (ha : DT X W Z a t) (hb : DW X W Z (.BoolOp .Or (b :: rest) pos) u) : DW X W Z (.BoolOp .Or (a :: b :: rest) pos) (dOr t u) := pw_weak (pw_or ha hb) up_or
theorem dt_w {e : Expr} (h : DW X W Z e t) : DT X W Z e t := PW.pt h
theorem dt_not (ha : DT X W Z a t) : DT X W Z (.UnaryOp .Not a pos) (dNot t) :=
  pt_weak (pt_not ha) fun σ H Q ⟨ρ, w, D, R, rp, xo, h, f⟩ => ⟨ρ, w, D, _, rp, xo, h, fun k w1 D1 H1 h1 g1 s1 => f _ w1 D1 H1 h1 g1 s1⟩
/-- the same as values (all but the last True or False) -/
def dAndV (ta tb : DTE) : DTE := fun ρ w R => ta ρ w fun s w1 => ∃ k, s = .dat (.bool k) ∧ if k = true then tb ρ w1 R else R (.dat (.bool false)) w1
def dOrV (ta tb : DTE) : DTE := fun ρ w R => ta ρ w fun s w1 => ∃ k, s = .dat (.bool k) ∧ if k = true then R (.dat (.bool true)) w1 else tb ρ w1 R
def dNotV (ta : DTE) : DTE := fun ρ w R => ta ρ w fun s w1 => ∃ k, s = .dat (.bool k) ∧ R (.dat (.bool !k)) w1
theorem de_one {op} (h : DE X W Z a ta) : DE X W Z (.BoolOp op [a] pos) ta := pe_one h
theorem de_and (ha : DE X W Z a ta) (hb : DE X W Z (.BoolOp .And (b :: rest) pos) tb) : DE X W Z (.BoolOp .And (a :: b :: rest) pos) (dAndV ta tb) :=
  pe_weak (pe_and ha hb) fun σ H Q ⟨ρ, w, D, R, rp, xo, h, f⟩ => ⟨ρ, w, D, _, rp, xo, h, fun s w1 z D1 H1 h1 g1 s1 r1 => by
    obtain ⟨k, rfl, h1⟩ := h1
    refine ⟨k, dr_bool r1, ?_⟩
    cases k with
    | true => rw [if_pos rfl] at h1 ⊢; exact ⟨ρ, w1, D1, R, rp.next g1.dd s1, xo.next g1, h1, f.next g1⟩
    | false => rw [if_neg Bool.false_ne_true] at h1 ⊢; exact (f.next g1).d s1 h1 (.bl false)⟩
theorem de_or (ha : DE X W Z a ta) (hb : DE X W Z (.BoolOp .Or (b :: rest) pos) tb) : DE X W Z (.BoolOp .Or (a :: b :: rest) pos) (dOrV ta tb) :=
  pe_weak (pe_or ha hb) fun σ H Q ⟨ρ, w, D, R, rp, xo, h, f⟩ => ⟨ρ, w, D, _, rp, xo, h, fun s w1 z D1 H1 h1 g1 s1 r1 => by
    obtain ⟨k, rfl, h1⟩ := h1
    refine ⟨k, dr_bool r1, ?_⟩
    cases k with
    | true => rw [if_pos rfl] at h1 ⊢; exact (f.next g1).d s1 h1 (.bl true)
    | false => rw [if_neg Bool.false_ne_true] at h1 ⊢; exact ⟨ρ, w1, D1, R, rp.next g1.dd s1, xo.next g1, h1, f.next g1⟩⟩
theorem de_not (ha : DE X W Z a ta) : DE X W Z (.UnaryOp .Not a pos) (dNotV ta) :=
  pe_weak (pe_not ha) fun σ H Q ⟨ρ, w, D, R, rp, xo, h, f⟩ => ⟨ρ, w, D, _, rp, xo, h, fun s w1 z D1 H1 h1 g1 s1 r1 => by
    obtain ⟨k, rfl, h1⟩ := h1
    exact ⟨k, dr_bool r1, (f.next g1).d s1 h1 (.bl _)⟩⟩
def dIf (t : DTT) (ta tb : DTE) : DTE := fun ρ w R => t ρ w fun k w1 => if k = true then ta ρ w1 R else tb ρ w1 R
theorem de_if (hc : DT X W Z c t) (ha : DE X W Z a ta) (hb : DE X W Z b tb) : DE X W Z (.IfExp c a b pos) (dIf t ta tb) :=
  pe_weak (pe_ifExp hc ha hb) fun σ H Q ⟨ρ, w, D, R, rp, xo, h, f⟩ => ⟨ρ, w, D, _, rp, xo, h, fun k w1 D1 H1 h1 g1 s1 => by
    cases k with
    | true => rw [if_pos rfl] at h1 ⊢; exact ⟨ρ, w1, D1, R, rp.next g1.dd s1, xo.next g1, h1, f.next g1⟩
    | false => rw [if_neg Bool.false_ne_true] at h1 ⊢; exact ⟨ρ, w1, D1, R, rp.next g1.dd s1, xo.next g1, h1, f.next g1⟩⟩
/-! ### arguments, displays -/
def dNil : DTA := fun _ w R => R [] w
def dCons (ta : DTE) (tr : DTA) : DTA := fun ρ w R => ta ρ w fun x w1 => tr ρ w1 fun xs w2 => R (x :: xs) w2
variable {es : List Expr} {tr : DTA}
theorem da_nil : DA X W Z [] dNil := pa_weak pa_nil fun σ H Q ⟨ρ, w, D, R, rp, xo, h, f⟩ => f [] w [] D H h (Gr.refl _ _ _) rp.st .nil
theorem da_cons (ha : DE X W Z a ta) (hr : DA X W Z es tr) (hs : starEach (a :: es) X.env = (false, eval a X.env) :: starEach es X.env := by rfl) : DA X W Z (a :: es) (dCons ta tr) :=
  pa_weak (pa_cons ha hr hs) fun σ H Q ⟨ρ, w, D, R, rp, xo, h, f⟩ => ⟨ρ, w, D, _, rp, xo, h, fun x w1 v D1 H1 h1 g1 s1 rx =>
    ⟨ρ, w1, D1, _, rp.next g1.dd s1, xo.next g1, h1, fun xs w2 vs D2 H2 h2 g2 s2 rs => f _ w2 _ D2 H2 h2 (g1.trans g2) s2 (.cons (rx.mono g2.dd) rs)⟩⟩
/-- a list of the store that is data through and through becomes data -/
def frz : Sl → Om → (PyData → Om → Prop) → Prop
  | .dat d, w, k => k d w
  | .adr a, w, k => ∃ ds : List PyData, w a = some (.lst (ds.map .dat)) ∧ k (.list ds) (del w a)
  | .scr _, _, _ => False
theorem frz_ok {K : PySem.W.Frag} {w : Om} {D H : Hp} {s : Sl} {z : V} {k : PyData → Om → Prop} (st : StOk K w D H) (r : Vr K D z s) (h : frz s w k) : ∃ d w' D', k d w' ∧ Gr w D H w' D' H ∧ StOk K w' D' H ∧ Dr K D' z d := by
  cases s with
  | dat d => exact ⟨d, w, D, h, Gr.refl _ _ _, st, r⟩
  | scr ns => exact h.elim
  | adr a =>
    obtain ⟨ds, hw, hk⟩ := h
    obtain ⟨vs, hH, hv⟩ := st.own a _ hw
    have r' : z = .ref a := r
    subst r'
    exact ⟨.list ds, del w a, upd D a (.lst vs), hk, Gr.freeze st hw, st.freeze hw hH, .lst upd_same ((SlA.dat hv).mono (Gr.freeze (o := .lst vs) (H := H) st hw).dd)⟩
/-- arguments that become data, from the left -/
def dDats (ta : DTE) (tr : DEnv → Om → (List PyData → Om → Prop) → Prop) : DEnv → Om → (List PyData → Om → Prop) → Prop := fun ρ w R => ta ρ w fun x w1 => frz x w1 fun d w1' => tr ρ w1' fun ds w2 => R (d :: ds) w2
def dNilD : DEnv → Om → (List PyData → Om → Prop) → Prop := fun _ w R => R [] w
def upD (K : PySem.W.Frag) (W : WX) (Z : DX) (t : DEnv → Om → (List PyData → Om → Prop) → Prop) : TA := fun σ H Q => ∃ ρ w D R, Rp K σ ρ w D H ∧ XOk K W Z w D H ∧ t ρ w R ∧ ∀ ds w' vs D' H', R ds w' → Gr w D H w' D' H' → StOk K w' D' H' → DrA K D' vs ds → Q vs H'
abbrev DD (X : Cx) (W : WX) (Z : DX) (es : List Expr) (t : DEnv → Om → (List PyData → Om → Prop) → Prop) : Prop := PA X es (upD X.K W Z t)
variable {td : DEnv → Om → (List PyData → Om → Prop) → Prop}
theorem dd_nil : DD X W Z [] dNilD := pa_weak pa_nil fun σ H Q ⟨ρ, w, D, R, rp, xo, h, f⟩ => f [] w [] D H h (Gr.refl _ _ _) rp.st .nil
theorem dd_cons (ha : DE X W Z a ta) (hr : DD X W Z es td) (hs : starEach (a :: es) X.env = (false, eval a X.env) :: starEach es X.env := by rfl) : DD X W Z (a :: es) (dDats ta td) :=
  pa_weak (pa_cons ha hr hs) fun σ H Q ⟨ρ, w, D, R, rp, xo, h, f⟩ => ⟨ρ, w, D, _, rp, xo, h, fun x w1 v D1 H1 h1 g1 s1 rx => by
    obtain ⟨d, w1', D1', hk, g1', s1', rd⟩ := frz_ok s1 rx h1
    have g := g1.trans g1'
    exact ⟨ρ, w1', D1', _, rp.next g.dd s1', xo.next g, hk, fun ds w2 vs D2 H2 h2 g2 s2 rs => f _ w2 _ D2 H2 h2 (g.trans g2) s2 (.cons (rd.mono g2.dd) rs)⟩⟩
def dTup (t : DEnv → Om → (List PyData → Om → Prop) → Prop) : DTE := fun ρ w R => t ρ w fun ds w1 => ds.length ≤ sizeLine ∧ R (.dat (.tuple ds)) w1
theorem de_tup {x1} (h : DD X W Z es td) : DE X W Z (.Tuple es x1 pos) (dTup td) :=
  pe_weak (pe_tup h) fun σ H Q ⟨ρ, w, D, R, rp, xo, h, f⟩ => ⟨ρ, w, D, _, rp, xo, h, fun ds w1 vs D1 H1 h1 g1 s1 rs => ⟨by rw [rs.length]; exact h1.1, (f.next g1).nt s1 h1.2 rs⟩⟩
def dLst (t : DTA) : DTE := fun ρ w R => t ρ w fun xs w1 => xs.length ≤ sizeLine ∧ ∀ p, w1 p = none → R (.adr p) (put w1 p (.lst xs))
theorem de_lst (h : DA X W Z es tr) : DE X W Z (.List es pos) (dLst tr) :=
  pe_weak (pe_lst h) fun σ H Q ⟨ρ, w, D, R, rp, xo, h, f⟩ => ⟨ρ, w, D, _, rp, xo, h, fun xs w1 vs D1 H1 h1 g1 s1 rs => ⟨by rw [Paired.length rs]; exact h1.1, (f.next g1).nl s1 h1.2 rs⟩⟩
end
end DL

set_option Elab.async false
set_option linter.all false
set_option maxRecDepth 100000
set_option maxHeartbeats 4000000
namespace DL
open PySem PySem.Spec PyProof.Rows L2
section
variable {X : Cx} {W : WX} {Z : DX} {K : PySem.W.Frag}
variable {a b c : Expr} {ta tb tc : DTE} {pos : Pos} {es : List Expr} {tr : DTA} {td : DEnv → Om → (List PyData → Om → Prop) → Prop}
/-- a list display whose items become data -/
def dLstD (t : DEnv → Om → (List PyData → Om → Prop) → Prop) : DTE := fun ρ w R => t ρ w fun ds w1 => ds.length ≤ sizeLine ∧ ∀ p, w1 p = none → R (.adr p) (put w1 p (.lst (ds.map .dat)))
theorem de_lstD (h : DD X W Z es td) : DE X W Z (.List es pos) (dLstD td) :=
  pe_weak (pe_lst h) fun σ H Q ⟨ρ, w, D, R, rp, xo, h, f⟩ => ⟨ρ, w, D, _, rp, xo, h, fun ds w1 vs D1 H1 h1 g1 s1 rs => ⟨by rw [rs.length]; exact h1.1, (f.next g1).nl s1 h1.2 rs.sl⟩⟩
/-! ### sequences -/
def sq (w : Om) : Sl → Option (List Sl)
  | .dat (.list ds) => some (ds.map .dat)
  | .dat (.tuple ds) => some (ds.map .dat)
  | .scr ns => some (ns.map fun i => .dat (.int i))
  | .adr a => match w a with | some (.lst xs) => some xs | _ => none
  | _ => none
/-- .. a list -/
def sqL (w : Om) : Sl → Option (List Sl)
  | .dat (.list ds) => some (ds.map .dat)
  | .adr a => match w a with | some (.lst xs) => some xs | _ => none
  | _ => none
theorem sqL_adr {w : Om} {a : Addr} {xs : List Sl} (h : w a = some (.lst xs)) : sqL w (.adr a) = some xs := by
  show (match w a with | some (.lst xs) => some xs | _ => none) = some xs
  rw [h]
theorem sq_adr {w : Om} {a : Addr} {xs : List Sl} (h : w a = some (.lst xs)) : sq w (.adr a) = some xs := by
  show (match w a with | some (.lst xs) => some xs | _ => none) = some xs
  rw [h]
theorem adr_inv {w : Om} {a : Addr} {xs : List Sl} (h : (match w a with | some (.lst xs) => some xs | _ => none) = some xs) : w a = some (.lst xs) := by
  cases e : w a with
  | none => rw [e] at h; cases h
  | some o =>
    rw [e] at h
    cases o with
    | lst ys => cases h; rfl
    | dic _ => cases h
    | ins _ _ => cases h
theorem ints_sl {D : Hp} : ∀ (ns : List Int), SlA K D (ns.map V.int) (ns.map fun i => .dat (.int i))
  | [] => .nil
  | n :: r => .cons (Dr.int n) (ints_sl r)
theorem sqL_ok {w : Om} {D H : Hp} {s : Sl} {z : V} {xs : List Sl} (st : StOk K w D H) (r : Vr K D z s) (h : sqL w s = some xs) : ∃ p vs, z = .ref p ∧ H p = some (.lst vs) ∧ SlA K D vs xs := by
  cases s with
  | scr ns => cases h
  | adr p =>
    have hw := adr_inv h
    obtain ⟨vs, hH, hv⟩ := st.own p _ hw
    exact ⟨p, vs, r, hH, hv⟩
  | dat d =>
    cases d with
    | list ds =>
      cases h
      cases r with
      | lst hD hs => exact ⟨_, _, rfl, st.dh _ _ hD, hs.sl⟩
    | none => cases h
    | bool _ => cases h
    | int _ => cases h
    | str _ => cases h
    | tuple _ => cases h
    | dict _ => cases h
theorem sq_ok {w : Om} {D H : Hp} {s : Sl} {z : V} {xs : List Sl} (st : StOk K w D H) (r : Vr K D z s) (h : sq w s = some xs) : ∃ p vs, z = .ref p ∧ (SqL K H p vs ∨ SqT K H p vs) ∧ SlA K D vs xs := by
  cases s with
  | scr ns =>
    cases h
    obtain ⟨p, rfl, q⟩ := r
    exact ⟨p, _, rfl, .inl (Same.seq st.dh q), ints_sl ns⟩
  | adr p =>
    have hw := adr_inv h
    obtain ⟨vs, hH, hv⟩ := st.own p _ hw
    exact ⟨p, vs, r, .inl (SqL.of hH), hv⟩
  | dat d =>
    cases d with
    | list ds =>
      cases h
      cases r with
      | lst hD hs => exact ⟨_, _, rfl, .inl (SqL.of (st.dh _ _ hD)), hs.sl⟩
    | tuple ds =>
      cases h
      cases r with
      | tup hD hs => exact ⟨_, _, rfl, .inr (sqT_mono st.dh hD), hs.sl⟩
    | none => cases h
    | bool _ => cases h
    | int _ => cases h
    | str _ => cases h
    | dict _ => cases h
theorem tup_ok {w : Om} {D H : Hp} {z : V} {ds : List PyData} (st : StOk K w D H) (r : Dr K D z (.tuple ds)) : ∃ p vs, z = .ref p ∧ SqT K H p vs ∧ DrA K D vs ds := by
  cases r with
  | tup hD hs => exact ⟨_, _, rfl, sqT_mono st.dh hD, hs⟩
theorem atI_map {α β : Type} (f : α → β) (xs : List α) (i : Int) : atI (xs.map f) i = (atI xs i).map f := by
  unfold atI
  rw [List.length_map]
  cases ixN xs.length i with
  | none => rfl
  | some j => simp
theorem atI_sl {D : Hp} {vs : List V} {xs : List Sl} {i : Int} {s : Sl} (h : SlA K D vs xs) (e : atI xs i = some s) : ∃ v, atI vs i = some v ∧ Vr K D v s := by
  unfold atI at e ⊢
  rw [Paired.length h]
  cases q : ixN xs.length i with
  | none => rw [q] at e; cases e
  | some j =>
    rw [q] at e
    obtain ⟨v, h1, h2⟩ := SlA.get h (i := j) (s := s) e
    exact ⟨v, h1, h2⟩
/-! ### subscripts -/
def ixS : G2 := fun w x y => match y with
  | .dat (.int i) => match x with
    | .dat (.str z) => if z.length ≤ sizeLine then (atI z.cps.toList i).map fun c => .v (.dat (.str ⟨#[c]⟩)) else none
    | x => (sq w x).bind fun xs => (atI xs i).map .v
  | _ => none
theorem ixS_str {w : Om} {z : Str} {i : Int} {c : Nat} (h : z.length ≤ sizeLine) (e : atI z.cps.toList i = some c) : ixS w (.dat (.str z)) (.dat (.int i)) = some (.v (.dat (.str ⟨#[c]⟩))) := by
  show (if z.length ≤ sizeLine then (atI z.cps.toList i).map fun c => Ou.v (.dat (.str ⟨#[c]⟩)) else none) = _
  rw [if_pos h, e]; rfl
theorem ixS_tup {w : Om} {ds : List PyData} {i : Int} {d : PyData} (e : atI ds i = some d) : ixS w (.dat (.tuple ds)) (.dat (.int i)) = some (.v (.dat d)) := by
  show ((some (ds.map Sl.dat)).bind fun xs => (atI xs i).map Ou.v) = _
  show (atI (ds.map Sl.dat) i).map Ou.v = _
  rw [atI_map, e]; rfl
theorem ixS_list {w : Om} {ds : List PyData} {i : Int} {d : PyData} (e : atI ds i = some d) : ixS w (.dat (.list ds)) (.dat (.int i)) = some (.v (.dat d)) := by
  show (atI (ds.map Sl.dat) i).map Ou.v = _
  rw [atI_map, e]; rfl
theorem ixS_adr {w : Om} {a : Addr} {xs : List Sl} {i : Int} {s : Sl} (h : w a = some (.lst xs)) (e : atI xs i = some s) : ixS w (.adr a) (.dat (.int i)) = some (.v s) := by
  show ((sq w (.adr a)).bind fun xs => (atI xs i).map Ou.v) = _
  rw [sq_adr h]
  show (atI xs i).map Ou.v = _
  rw [e]; rfl
theorem ixS_scr {w : Om} {ns : List Int} {i : Int} {n : Int} (e : atI ns i = some n) : ixS w (.scr ns) (.dat (.int i)) = some (.v (.dat (.int n))) := by
  show (atI (ns.map fun i => Sl.dat (.int i)) i).map Ou.v = _
  rw [atI_map, e]; rfl
theorem ov_ix : OpV K (rIx K) ixS := fun x y v u w D H o R Q st rx ry e ho f => by
  unfold ixS at e
  cases y with
  | adr _ => cases e
  | scr _ => cases e
  | dat dy =>
    cases dy with
    | int i =>
      cases (show u = .int i from dr_int ry)
      have seqc : ((sq w x).bind fun xs => (atI xs i).map Ou.v) = some o → rIx K v (.int i) H Q := fun e => by
        cases q : sq w x with
        | none => rw [q] at e; cases e
        | some xs =>
          rw [q] at e
          cases q2 : atI xs i with
          | none => have e' : (atI xs i).map Ou.v = some o := e; rw [q2] at e'; cases e'
          | some s =>
            have e' : (atI xs i).map Ou.v = some o := e
            rw [q2] at e'
            cases e'
            obtain ⟨p, vs, rfl, hq, hv⟩ := sq_ok st rx q
            obtain ⟨z, h1, h2⟩ := atI_sl hv q2
            rcases hq with hq | hq
            · exact .inl ⟨p, vs, i, z, rfl, rfl, hq, h1, f.v st ho h2⟩
            · exact .inr (.inl ⟨p, vs, i, z, rfl, rfl, hq, h1, f.v st ho h2⟩)
      cases x with
      | adr p => exact seqc e
      | scr ns => exact seqc e
      | dat dx =>
        cases dx with
        | str z =>
          have e' : (if z.length ≤ sizeLine then (atI z.cps.toList i).map fun c => Ou.v (.dat (.str ⟨#[c]⟩)) else none) = some o := e
          by_cases hz : z.length ≤ sizeLine
          · rw [if_pos hz] at e'
            cases q : atI z.cps.toList i with
            | none => rw [q] at e'; cases e'
            | some c =>
              rw [q] at e'
              cases e'
              cases (show v = .str z from dr_str rx)
              exact .inr (.inr ⟨z, i, c, rfl, rfl, hz, q, f.d st ho (.str _)⟩)
          · rw [if_neg hz] at e'; cases e'
        | none => exact seqc e
        | bool _ => exact seqc e
        | int _ => exact seqc e
        | list _ => exact seqc e
        | tuple _ => exact seqc e
        | dict _ => exact seqc e
    | none => cases e
    | bool _ => cases e
    | str _ => cases e
    | list _ => cases e
    | tuple _ => cases e
    | dict _ => cases e
theorem de_ix (ha : DE X W Z a ta) (hb : DE X W Z b tb) (hs : PlainIx b) : DE X W Z (.Subscript a b pos) (dOp ixS ta tb) := pe_weak (pe_ix ix_seq ha hb hs) fun σ H Q h => up_op ov_ix σ H Q h
/-! ### slices -/
def cut {α : Type} (xs : List α) (lo hi : Option Int) : List α := (xs.drop (HT.sIx xs.length 0 lo)).take (HT.sIx xs.length xs.length hi - HT.sIx xs.length 0 lo)
theorem cut_map {α β : Type} (f : α → β) (xs : List α) (lo hi : Option Int) : cut (xs.map f) lo hi = (cut xs lo hi).map f := by
  unfold cut
  rw [List.length_map, List.map_take, List.map_drop]
theorem cut_length {α : Type} (xs : List α) (lo hi : Option Int) : (cut xs lo hi).length ≤ xs.length := by
  unfold cut
  rw [List.length_take, List.length_drop]
  omega
def dNoPart : DTO := fun _ w R => R none w
def dPart (t : DTE) : DTO := fun ρ w R => t ρ w fun s w1 => ∃ i, s = .dat (.int i) ∧ R (some i) w1
theorem do_none : DO X W Z none dNoPart := po_weak po_none fun σ H Q ⟨ρ, w, D, R, rp, xo, h, f⟩ => f none w D H h (Gr.refl _ _ _) rp.st
theorem do_some (h : DE X W Z a ta) : DO X W Z (some a) (dPart ta) := po_weak (po_some h) fun σ H Q ⟨ρ, w, D, R, rp, xo, h, f⟩ => ⟨ρ, w, D, _, rp, xo, h, fun s w1 z D1 H1 h1 g1 s1 r1 => by
  obtain ⟨i, rfl, h1⟩ := h1
  exact ⟨i, dr_int r1, f (some i) w1 D1 H1 h1 g1 s1⟩⟩
def slS (w : Om) (x : Sl) (lo hi : Option Int) : Option Ou := match x with
  | .dat (.str z) => if z.length ≤ sizeLine then some (.v (.dat (.str (cutS z lo hi)))) else none
  | .dat (.tuple ds) => some (.v (.dat (.tuple (cut ds lo hi))))
  | x => (sqL w x).map fun xs => .nl (cut xs lo hi)
def dSl (te : DTE) (tl th : DTO) : DTE := fun ρ w R => te ρ w fun x w1 => tl ρ w1 fun l w2 => th ρ w2 fun h w3 => ∃ o, slS w3 x l h = some o ∧ ret o w3 R
def rSlAll (K : PySem.W.Frag) : V → Option Int → Option Int → Hp → VK → Prop := fun x lo hi H Q => rSlL K x lo hi H Q ∨ rSlA K x lo hi H Q ∨ rSlS x lo hi H Q
theorem sl_all : L2.SlR X (rSlAll X.K) := L2.SlR.or sl_list (L2.SlR.or sl_tupA sl_str)
theorem DrA.cut {D : Hp} {vs : List V} {ds : List PyData} (h : DrA K D vs ds) (lo hi : Option Int) : DrA K D (cutV vs lo hi) (cut ds lo hi) := by
  unfold cutV DL.cut
  rw [h.length]
  exact (h.drop _).take _
theorem SlA.cut {D : Hp} {vs : List V} {ds : List Sl} (h : SlA K D vs ds) (lo hi : Option Int) : SlA K D (cutV vs lo hi) (cut ds lo hi) := by
  unfold cutV DL.cut
  rw [Paired.length h]
  exact SlA.take _ (SlA.drop _ h)
theorem cut_whole {α : Type} {xs : List α} {lo hi : Option Int} (h : HT.sIx xs.length 0 lo = 0 ∧ HT.sIx xs.length xs.length hi = xs.length) : cut xs lo hi = xs := by
  unfold cut
  rw [h.1, h.2, List.drop_zero, Nat.sub_zero, List.take_length]
theorem sl_v {x : Sl} {v : V} {w : Om} {D H : Hp} {lo hi : Option Int} {o : Ou} {R : DQ} {Q : VK} (st : StOk K w D H) (rx : Vr K D v x) (e : slS w x lo hi = some o) (ho : ret o w R) (f : Fin K w D H R Q) : rSlAll K v lo hi H Q := by
  have lc : ((sqL w x).map fun xs => Ou.nl (cut xs lo hi)) = some o → rSlAll K v lo hi H Q := fun e => by
    cases q : sqL w x with
    | none => rw [q] at e; cases e
    | some xs =>
      rw [q] at e
      cases e
      obtain ⟨p, vs, rfl, hq, hv⟩ := sqL_ok st rx q
      exact .inl ⟨p, vs, rfl, SqL.of hq, f.nl st ho.2 (SlA.cut hv lo hi)⟩
  unfold slS at e
  cases x with
  | adr p => exact lc e
  | scr ns => exact lc e
  | dat dx =>
    cases dx with
    | str z =>
      have e' : (if z.length ≤ sizeLine then some (Ou.v (.dat (.str (cutS z lo hi)))) else none) = some o := e
      by_cases hz : z.length ≤ sizeLine
      · rw [if_pos hz] at e'
        cases e'
        cases (show v = .str z from dr_str rx)
        exact .inr (.inr ⟨z, rfl, hz, f.d st ho (.str _)⟩)
      · rw [if_neg hz] at e'; cases e'
    | tuple ds =>
      cases e
      obtain ⟨p, vs, rfl, hq, hv⟩ := tup_ok st rx
      refine .inr (.inl ⟨p, vs, rfl, hq, fun hw => ?_, fun hw => f.nt st ho (hv.cut lo hi)⟩)
      rw [hv.length] at hw
      have ho' : R (.dat (.tuple (cut ds lo hi))) w := ho
      rw [cut_whole hw] at ho'
      exact f.d st ho' rx
    | none => exact lc e
    | bool _ => exact lc e
    | int _ => exact lc e
    | list _ => exact lc e
    | dict _ => exact lc e
variable {lo hi : Option Expr} {tl th : DTO} {p2 : Pos}
theorem de_slice (he : DE X W Z a ta) (hl : DO X W Z lo tl) (hu : DO X W Z hi th) : DE X W Z (.Subscript a (.Slice lo hi none p2) pos) (dSl ta tl th) :=
  pe_weak (pe_slice sl_all he hl hu) fun σ H Q ⟨ρ, w, D, R, rp, xo, h, f⟩ => ⟨ρ, w, D, _, rp, xo, h, fun x w1 v D1 H1 h1 g1 s1 rx =>
    ⟨ρ, w1, D1, _, rp.next g1.dd s1, xo.next g1, h1, fun l w2 D2 H2 h2 g2 s2 =>
      ⟨ρ, w2, D2, _, rp.next (g1.trans g2).dd s2, xo.next (g1.trans g2), h2, fun u w3 D3 H3 h3 g3 s3 => by
        obtain ⟨o, e, ho⟩ := h3
        exact sl_v s3 (rx.mono (g2.trans g3).dd) e ho (f.next ((g1.trans g2).trans g3))⟩⟩⟩
/-- xs[::-1] of a list -/
def dRev (te : DTE) : DTE := fun ρ w R => te ρ w fun x w1 => ∃ xs, sqL w1 x = some xs ∧ xs.length ≤ sizeLine ∧ ∀ p, w1 p = none → R (.adr p) (put w1 p (.lst xs.reverse))
theorem de_rev {k : Nat} {p1 p2 p3 : Pos} (he : DE X W Z a ta) : DE X W Z (.Subscript a (.Slice none none (some (.UnaryOp .USub (.Constant (.int 1) k p1) p2)) p3) pos) (dRev ta) :=
  pe_weak (pe_revL he) fun σ H Q ⟨ρ, w, D, R, rp, xo, h, f⟩ => ⟨ρ, w, D, _, rp, xo, h, fun x w1 v D1 H1 h1 g1 s1 rx => by
    obtain ⟨xs, e, hz, h1⟩ := h1
    obtain ⟨p, vs, rfl, hq, hv⟩ := sqL_ok s1 rx e
    exact ⟨p, vs, rfl, SqL.of hq, (f.next g1).nl s1 h1 (SlA.reverse hv)⟩⟩
/-! ### arithmetic -/
def liftI (C : Int → Int → Bool) (g : Int → Int → PyData) : G2 := fun _ x y => match x, y with
  | .dat (.int i), .dat (.int j) => if C i j = true then some (.v (.dat (g i j))) else none
  | _, _ => none
theorem liftI_ok {C : Int → Int → Bool} {g : Int → Int → PyData} {w : Om} {i j : Int} (h : C i j = true) : liftI C g w (.dat (.int i)) (.dat (.int j)) = some (.v (.dat (g i j))) := by
  show (if C i j = true then some (Ou.v (.dat (g i j))) else none) = _
  rw [if_pos h]
theorem liftI_inv {C : Int → Int → Bool} {g : Int → Int → PyData} {w : Om} {x y : Sl} {o : Ou} (e : liftI C g w x y = some o) : ∃ i j, x = .dat (.int i) ∧ y = .dat (.int j) ∧ C i j = true ∧ o = .v (.dat (g i j)) := by
  unfold liftI at e
  split at e
  · rename_i i j
    by_cases h : C i j = true
    · rw [if_pos h] at e; cases e; exact ⟨i, j, rfl, rfl, h, rfl⟩
    · rw [if_neg h] at e; cases e
  · cases e
theorem ov_I {C : Int → Int → Prop} {C' : Int → Int → Bool} {g : Int → Int → V} {g' : Int → Int → PyData} (hC : ∀ i j, C' i j = true → C i j) (hg : ∀ i j D, Dr K D (g i j) (g' i j)) : OpV K (rI C g) (liftI C' g') := fun x y v u w D H o R Q st rx ry e ho f => by
  obtain ⟨i, j, rfl, rfl, hc, rfl⟩ := liftI_inv e
  exact ⟨i, j, dr_int rx, dr_int ry, hC i j hc, f.d st ho (hg i j D)⟩
theorem ov_I0 {g : Int → Int → V} {g' : Int → Int → PyData} (hg : ∀ i j D, Dr K D (g i j) (g' i j)) : OpV K (rI0 g) (liftI (fun _ _ => true) g') := fun x y v u w D H o R Q st rx ry e ho f => by
  obtain ⟨i, j, rfl, rfl, hc, rfl⟩ := liftI_inv e
  exact ⟨i, j, dr_int rx, dr_int ry, f.d st ho (hg i j D)⟩
abbrev gSub : G2 := liftI (fun _ _ => true) fun i j => .int (i - j)
def cMul (i j : Int) : Bool := decide (i.natAbs.log2 + j.natAbs.log2 < 1000000)
abbrev gMul : G2 := liftI cMul fun i j => .int (i * j)
def cDiv (_ j : Int) : Bool := decide (0 < j ∧ j.natAbs.log2 < 9000)
abbrev gDiv : G2 := liftI cDiv fun i j => .int (i / j)
abbrev gMod : G2 := liftI (fun _ j => decide (0 < j)) fun i j => .int (i % j)
def cPow (i j : Int) : Bool := decide (0 ≤ j ∧ (Builtin.Int.intBits i : Int) * j ≤ 2 ^ 27)
abbrev gPow : G2 := liftI cPow fun i j => .int (i ^ j.toNat)
theorem op_powW : OpR X (binaryOp .Pow) (rI (fun i j => 0 ≤ j ∧ (Builtin.Int.intBits i : Int) * j ≤ 2 ^ 27) fun i j => .int (i ^ j.toNat)) := opI fun _ _ _ _ _ _ _ hc q => pow_int hc.1 hc.2 q
theorem de_sub (ha : DE X W Z a ta) (hb : DE X W Z b tb) : DE X W Z (.BinOp a .Sub b pos) (dOp gSub ta tb) := de_op op_sub (ov_I0 fun i j _ => .int _) ha hb
theorem de_mul (ha : DE X W Z a ta) (hb : DE X W Z b tb) : DE X W Z (.BinOp a .Mult b pos) (dOp gMul ta tb) := de_op op_mulW (ov_I (C := CMulW) (C' := cMul) (fun i j h => show i.natAbs.log2 + j.natAbs.log2 < 1000000 from of_decide_eq_true h) fun i j _ => .int _) ha hb
theorem de_div (ha : DE X W Z a ta) (hb : DE X W Z b tb) : DE X W Z (.BinOp a .FloorDiv b pos) (dOp gDiv ta tb) := de_op op_fdivW (ov_I (C := CDivW) (C' := cDiv) (fun i j h => show 0 < j ∧ j.natAbs.log2 < 9000 from of_decide_eq_true h) fun i j _ => .int _) ha hb
theorem de_mod (ha : DE X W Z a ta) (hb : DE X W Z b tb) : DE X W Z (.BinOp a .Mod b pos) (dOp gMod ta tb) := de_op op_mod (ov_I (fun _ _ h => of_decide_eq_true h) fun i j _ => .int _) ha hb
theorem de_pow (ha : DE X W Z a ta) (hb : DE X W Z b tb) : DE X W Z (.BinOp a .Pow b pos) (dOp gPow ta tb) := de_op op_powW (ov_I (fun _ _ h => of_decide_eq_true h) fun i j _ => .int _) ha hb
def dNeg (te : DTE) : DTE := fun ρ w R => te ρ w fun x w1 => ∃ i, x = .dat (.int i) ∧ R (.dat (.int (-i))) w1
theorem de_neg (ha : DE X W Z a ta) : DE X W Z (.UnaryOp .USub a pos) (dNeg ta) :=
  pe_weak (pe_un un_neg ha) fun σ H Q ⟨ρ, w, D, R, rp, xo, h, f⟩ => ⟨ρ, w, D, _, rp, xo, h, fun x w1 v D1 H1 h1 g1 s1 rx => by
    obtain ⟨i, rfl, h1⟩ := h1
    exact ⟨i, dr_int rx, (f.next g1).d s1 h1 (.int _)⟩⟩
/-- + of ints, texts, lists, tuples -/
def addS : G2 := fun w x y => match x, y with
  | .dat (.int i), .dat (.int j) => some (.v (.dat (.int (i + j))))
  | .dat (.str i), .dat (.str j) => if i.length + j.length ≤ sizeLine then some (.v (.dat (.str (i ++ j)))) else none
  | .dat (.tuple i), .dat (.tuple j) => if i.length + j.length ≤ sizeLine then some (.v (.dat (.tuple (i ++ j)))) else none
  | x, y => (sqL w x).bind fun xs => (sqL w y).bind fun ys => some (.nl (xs ++ ys))
def rAddAll (K : PySem.W.Frag) : R2 := fun x y H Q => (rI0 (fun i j => V.int (i + j)) x y H Q) ∨ (∃ i j, x = .str i ∧ y = .str j ∧ i.length + j.length ≤ sizeLine ∧ Q (.str (i ++ j)) H) ∨ rCat x y H Q ∨ rCatA K x y H Q
theorem op_addAll : OpR X (binaryOp .Add) (rAddAll X.K) := OpR.or op_add (OpR.or op_add_str (OpR.or op_cat op_catA))
theorem sum_length {D : Hp} {vs us : List V} {xs ys : List Sl} (h1 : SlA K D vs xs) (h2 : SlA K D us ys) : vs.length + us.length = (xs ++ ys).length := by rw [List.length_append, Paired.length h1, Paired.length h2]
theorem ov_add : OpV K (rAddAll K) addS := fun x y v u w D H o R Q st rx ry e ho f => by
  have lc : ((sqL w x).bind fun xs => (sqL w y).bind fun ys => some (Ou.nl (xs ++ ys))) = some o → rAddAll K v u H Q := fun e => by
    cases q1 : sqL w x with
    | none => rw [q1] at e; cases e
    | some xs =>
      rw [q1] at e
      cases q2 : sqL w y with
      | none => have e' : ((sqL w y).bind fun ys => some (Ou.nl (xs ++ ys))) = some o := e; rw [q2] at e'; cases e'
      | some ys =>
        have e' : ((sqL w y).bind fun ys => some (Ou.nl (xs ++ ys))) = some o := e
        rw [q2] at e'
        cases e'
        obtain ⟨p, vs, rfl, hp, hv⟩ := sqL_ok st rx q1
        obtain ⟨q, us, rfl, hq, hu⟩ := sqL_ok st ry q2
        have hz := ho.1
        exact .inr (.inr (.inl ⟨p, q, vs, us, rfl, rfl, hp, hq, by rw [sum_length hv hu]; exact hz, f.nl st ho.2 (SlA.append hv hu)⟩))
  unfold addS at e
  split at e
  · cases e
    exact .inl ⟨_, _, dr_int rx, dr_int ry, f.d st ho (.int _)⟩
  · rename_i i j
    by_cases hz : i.length + j.length ≤ sizeLine
    · rw [if_pos hz] at e
      cases e
      exact .inr (.inl ⟨_, _, dr_str rx, dr_str ry, hz, f.d st ho (.str _)⟩)
    · rw [if_neg hz] at e; cases e
  · rename_i i j
    by_cases hz : i.length + j.length ≤ sizeLine
    · rw [if_pos hz] at e
      cases e
      obtain ⟨p, vs, rfl, hp, hv⟩ := tup_ok st rx
      obtain ⟨q, us, rfl, hq, hu⟩ := tup_ok st ry
      have ho' : R (.dat (.tuple (i ++ j))) w := ho
      refine .inr (.inr (.inr ⟨p, q, vs, us, rfl, rfl, hp, hq, by rw [hv.length, hu.length]; exact hz, fun hx => ?_, fun _ hy => ?_, fun _ _ => f.nt st ho' (hv.append hu)⟩))
      · subst hx
        cases hv
        exact f.d st ho' ry
      · subst hy
        cases hu
        rw [List.append_nil] at ho'
        exact f.d st ho' rx
    · rw [if_neg hz] at e; cases e
  · exact lc e
theorem de_add (ha : DE X W Z a ta) (hb : DE X W Z b tb) : DE X W Z (.BinOp a .Add b pos) (dOp addS ta tb) := de_op op_addAll ov_add ha hb
/-! ### comparisons -/
def datOf : Sl → Option PyData
  | .dat d => some d
  | _ => none
def rs (w : Om) : Sl → Option PyData
  | .dat d => some d
  | .adr a => match w a with
    | some (.lst xs) => (xs.mapM datOf).map .list
    | _ => none
  | .scr _ => none
def plainEq : PyData → PyData → Option Bool
  | .int i, .int j => some (i == j)
  | .str i, .str j => some (i == j)
  | .bool i, .bool j => some (i == j)
  | d, e => if (SeqAt.shaped d && SeqAt.shaped e) = true then some (PyData.eqv d e) else none
def eqS (n : Bool) : G2 := fun w x y => (rs w x).bind fun d => (rs w y).bind fun e => (plainEq d e).map fun k => .v (.dat (.bool (k != n)))
def rEqAll (K : PySem.W.Frag) : R2 := fun x y H Q => rEq x y H Q ∨ rEqD K x y H Q
def rNeAll (K : PySem.W.Frag) : R2 := fun x y H Q => rNe x y H Q ∨ rNeD K x y H Q
theorem op_eqAll (hu : X.A.units + 64 < cLine) : OpR X (compareOp .Eq) (rEqAll X.K) := OpR.or op_eq (op_eqD hu)
theorem op_neAll (hu : X.A.units + 64 < cLine) : OpR X (compareOp .NotEq) (rNeAll X.K) := OpR.or op_ne (op_neD hu)
theorem canLay_all {d : PyData} {ds : List PyData} (h : PyData.canLayAll0 ds = true) (m : d ∈ ds) : d.canLay0 = true := by
  induction ds with
  | nil => cases m
  | cons e r ih =>
    unfold PyData.canLayAll0 at h
    rw [Bool.and_eq_true] at h
    rcases List.mem_cons.mp m with rfl | m
    · exact h.1
    · exact ih h.2 m
mutual
theorem Dr.dp {D H : Hp} (e : Same D H) : ∀ {v : V} {d : PyData}, Dr K D v d → d.canLay0 = true → Dp K H v d
  | _, _, .non, _ => .non
  | _, _, .bl b, _ => .bl b
  | _, _, .int i, _ => .int i
  | _, _, .str x, _ => .str x
  | _, _, .lst h hs, c => .lst (SqL.of (e _ _ h)) (DrA.dp e hs (by unfold PyData.canLay0 at c; exact c))
  | _, _, .tup h hs, c => .tup (sqT_mono e h) (DrA.dp e hs (by unfold PyData.canLay0 at c; exact c))
  | _, _, .dct h, c => by unfold PyData.canLay0 at c; cases c
theorem DrA.dp {D H : Hp} (e : Same D H) : ∀ {vs : List V} {ds : List PyData}, DrA K D vs ds → PyData.canLayAll0 ds = true → DpAll K H vs ds
  | _, _, .nil, _ => .nil
  | _, _, .cons h hs, c => by
    unfold PyData.canLayAll0 at c
    rw [Bool.and_eq_true] at c
    exact .cons (Dr.dp e h c.1) (DrA.dp e hs c.2)
end
theorem mapM_dat : ∀ {xs : List Sl} {ds : List PyData}, xs.mapM datOf = some ds → xs = ds.map .dat := by
  intro xs
  induction xs with
  | nil => intro ds h; simp at h; subst h; rfl
  | cons x r ih =>
    intro ds h
    rw [List.mapM_cons] at h
    cases x with
    | adr _ => cases h
    | scr _ => cases h
    | dat d =>
      cases q : r.mapM datOf with
      | none => simp [q] at h
      | some es =>
        simp [q, datOf] at h
        subst h
        rw [ih q]
        rfl
theorem mapM_dat' (ds : List PyData) : (ds.map Sl.dat).mapM datOf = some ds := by
  induction ds with
  | nil => rfl
  | cons d r ih => rw [List.map_cons, List.mapM_cons, ih]; rfl
theorem rs_adr {w : Om} {a : Addr} {ds : List PyData} (h : w a = some (.lst (ds.map .dat))) : rs w (.adr a) = some (.list ds) := by
  show (match w a with | some (.lst xs) => (xs.mapM datOf).map PyData.list | _ => none) = _
  rw [h]
  show Option.map PyData.list _ = _
  rw [mapM_dat']; rfl
/-- the data of a slot as it stands in the heap now -/
theorem rs_ok {w : Om} {D H : Hp} {s : Sl} {z : V} {d : PyData} (st : StOk K w D H) (r : Vr K D z s) (h : rs w s = some d) : ∃ D', Same D' H ∧ Dr K D' z d := by
  cases s with
  | dat e => cases h; exact ⟨D, st.dh, r⟩
  | scr _ => cases h
  | adr a =>
    have h' : (match w a with | some (.lst xs) => (xs.mapM datOf).map PyData.list | _ => none) = some d := h
    have h := h'
    cases e : w a with
    | none => rw [e] at h; cases h
    | some o =>
      rw [e] at h
      cases o with
      | dic _ => cases h
      | ins _ _ => cases h
      | lst xs =>
        have h2 : (xs.mapM datOf).map PyData.list = some d := h
        cases q : xs.mapM datOf with
        | none => rw [q] at h2; cases h2
        | some ds =>
          rw [q] at h2
          cases h2
          have ex := mapM_dat q
          subst ex
          obtain ⟨vs, hH, hv⟩ := st.own a _ e
          have r' : z = .ref a := r
          subst r'
          exact ⟨upd D a (.lst vs), (st.freeze e hH).dh, .lst upd_same ((SlA.dat hv).mono (Gr.freeze (o := .lst vs) (H := H) st e).dd)⟩
theorem eq_bool {α : Type} [BEq α] [LawfulBEq α] [DecidableEq α] (a b : α) : (a == b) = decide (a = b) := by
  by_cases h : a = b
  · subst h; simp
  · rw [decide_eq_false h]; exact beq_eq_false_iff_ne.mpr h
theorem plainEq_ok {D D' H : Hp} {v u : V} {d e : PyData} {k : Bool} (s : Same D H) (s' : Same D' H) (r : Dr K D v d) (r' : Dr K D' u e) (h : plainEq d e = some k) :
    (scal v u = true ∧ decide (v = u) = k) ∨ (∃ d e, Dp K H v d ∧ Dp K H u e ∧ SeqAt.shaped d = true ∧ SeqAt.shaped e = true ∧ PyData.eqv d e = k) := by
  unfold plainEq at h
  split at h
  · cases h; cases r; cases r'; exact .inl ⟨rfl, by rw [dec_int]⟩
  · cases h; cases r; cases r'; exact .inl ⟨rfl, by rw [dec_str]⟩
  · cases h; cases r; cases r'; exact .inl ⟨rfl, by rw [dec_bl]⟩
  · by_cases c : (SeqAt.shaped d && SeqAt.shaped e) = true
    · rw [if_pos c] at h
      cases h
      rw [Bool.and_eq_true] at c
      exact .inr ⟨d, e, r.dp s (SeqAt.canLay_of_shaped c.1), r'.dp s' (SeqAt.canLay_of_shaped c.2), c.1, c.2, rfl⟩
    · rw [if_neg c] at h; cases h
theorem eqS_inv {n : Bool} {w : Om} {x y : Sl} {o : Ou} (e : eqS n w x y = some o) : ∃ d e k, rs w x = some d ∧ rs w y = some e ∧ plainEq d e = some k ∧ o = .v (.dat (.bool (k != n))) := by
  unfold eqS at e
  cases q1 : rs w x with
  | none => rw [q1] at e; cases e
  | some d =>
    rw [q1] at e
    have e1 : ((rs w y).bind fun e => (plainEq d e).map fun k => Ou.v (.dat (.bool (k != n)))) = some o := e
    cases q2 : rs w y with
    | none => rw [q2] at e1; cases e1
    | some d' =>
      rw [q2] at e1
      have e2 : ((plainEq d d').map fun k => Ou.v (.dat (.bool (k != n)))) = some o := e1
      cases q3 : plainEq d d' with
      | none => rw [q3] at e2; cases e2
      | some k =>
        rw [q3] at e2
        cases e2
        exact ⟨d, d', k, rfl, rfl, q3, rfl⟩
theorem eqS_ok {n : Bool} {w : Om} {x y : Sl} {d e : PyData} {k : Bool} (h1 : rs w x = some d) (h2 : rs w y = some e) (h3 : plainEq d e = some k) : eqS n w x y = some (.v (.dat (.bool (k != n)))) := by
  unfold eqS
  rw [h1]
  show ((rs w y).bind fun e => (plainEq d e).map fun k => Ou.v (.dat (.bool (k != n)))) = _
  rw [h2]
  show ((plainEq d e).map fun k => Ou.v (.dat (.bool (k != n)))) = _
  rw [h3]; rfl
theorem ov_eq : OpV K (rEqAll K) (eqS false) := fun x y v u w D H o R Q st rx ry e ho f => by
  obtain ⟨d, e, k, q1, q2, q3, rfl⟩ := eqS_inv e
  obtain ⟨D1, s1, r1⟩ := rs_ok st rx q1
  obtain ⟨D2, s2, r2⟩ := rs_ok st ry q2
  have ho' : R (.dat (.bool (k != false))) w := ho
  rw [Bool.bne_false] at ho'
  rcases plainEq_ok s1 s2 r1 r2 q3 with ⟨h1, h2⟩ | ⟨d, e, h1, h2, h3, h4, h5⟩
  · refine .inl ⟨h1, ?_⟩; rw [h2]; exact f.d st ho' (.bl k)
  · refine .inr ⟨d, e, h1, h2, h3, h4, ?_⟩; rw [h5]; exact f.d st ho' (.bl k)
theorem ov_ne : OpV K (rNeAll K) (eqS true) := fun x y v u w D H o R Q st rx ry e ho f => by
  obtain ⟨d, e, k, q1, q2, q3, rfl⟩ := eqS_inv e
  obtain ⟨D1, s1, r1⟩ := rs_ok st rx q1
  obtain ⟨D2, s2, r2⟩ := rs_ok st ry q2
  have ho' : R (.dat (.bool (k != true))) w := ho
  rw [Bool.bne_true] at ho'
  rcases plainEq_ok s1 s2 r1 r2 q3 with ⟨h1, h2⟩ | ⟨d, e, h1, h2, h3, h4, h5⟩
  · refine .inl ⟨h1, ?_⟩; rw [h2]; exact f.d st ho' (.bl _)
  · refine .inr ⟨d, e, h1, h2, h3, h4, ?_⟩; rw [h5]; exact f.d st ho' (.bl _)
theorem de_eq (hu : X.A.units + 64 < cLine) (ha : DE X W Z a ta) (hb : DE X W Z b tb) : DE X W Z (.Compare a [.Eq] [b] pos) (dOp (eqS false) ta tb) := de_cmp (op_eqAll hu) ov_eq ha hb (nomark _)
theorem de_ne (hu : X.A.units + 64 < cLine) (ha : DE X W Z a ta) (hb : DE X W Z b tb) : DE X W Z (.Compare a [.NotEq] [b] pos) (dOp (eqS true) ta tb) := de_cmp (op_neAll hu) ov_ne ha hb (nomark _)
theorem dt_eq (hu : X.A.units + 64 < cLine) (ha : DE X W Z a ta) (hb : DE X W Z b tb) : DT X W Z (.Compare a [.Eq] [b] pos) (dTst (dOp (eqS false) ta tb)) := dt_cmp (op_eqAll hu) ov_eq ha hb (nomark _)
theorem dt_ne (hu : X.A.units + 64 < cLine) (ha : DE X W Z a ta) (hb : DE X W Z b tb) : DT X W Z (.Compare a [.NotEq] [b] pos) (dTst (dOp (eqS true) ta tb)) := dt_cmp (op_neAll hu) ov_ne ha hb (nomark _)
end
end DL

set_option Elab.async false
set_option linter.all false
set_option maxRecDepth 100000
set_option maxHeartbeats 4000000
namespace DL
open PySem PySem.Spec PyProof.Rows L2
/-! ### statements -/
structure DEnds where
  nx : DEnv → Om → Prop
  rt : DQ
  bk : DEnv → Om → Prop := fun _ _ => False
  ct : DEnv → Om → Prop := fun _ _ => False
abbrev DTS := DEnds → DEnv → Om → Prop
def NxOk (K : PySem.W.Frag) (w : Om) (D H : Hp) (f : DEnv → Om → Prop) (q : L2.St → Hp → Prop) : Prop := ∀ ρ' w' σ' D' H', f ρ' w' → Gr w D H w' D' H' → Rp K σ' ρ' w' D' H' → q σ' H'
theorem NxOk.next {K : PySem.W.Frag} {w w1 : Om} {D D1 H H1 : Hp} {f : DEnv → Om → Prop} {q : L2.St → Hp → Prop} (n : NxOk K w D H f q) (g : Gr w D H w1 D1 H1) : NxOk K w1 D1 H1 f q := fun ρ' w' σ' D' H' h g' r => n ρ' w' σ' D' H' h (g.trans g') r
structure EndsOk (K : PySem.W.Frag) (w : Om) (D H : Hp) (F : DEnds) (E : Ends) : Prop where
  nx : NxOk K w D H F.nx E.nx
  rt : Fin K w D H F.rt E.rt
  bk : NxOk K w D H F.bk E.bk
  ct : NxOk K w D H F.ct E.ct
theorem EndsOk.next {K : PySem.W.Frag} {w w1 : Om} {D D1 H H1 : Hp} {F : DEnds} {E : Ends} (e : EndsOk K w D H F E) (g : Gr w D H w1 D1 H1) : EndsOk K w1 D1 H1 F E := ⟨e.nx.next g, e.rt.next g, e.bk.next g, e.ct.next g⟩
def ups (K : PySem.W.Frag) (W : WX) (Z : DX) (t : DTS) : TS := fun E σ H => ∃ ρ w D F, Rp K σ ρ w D H ∧ XOk K W Z w D H ∧ t F ρ w ∧ EndsOk K w D H F E
abbrev DS (X : Cx) (W : WX) (Z : DX) (st : Stmt) (t : DTS) : Prop := PS X st (ups X.K W Z t)
abbrev DB (X : Cx) (W : WX) (Z : DX) (sts : List Stmt) (t : DTS) : Prop := PSs X sts (ups X.K W Z t)
theorem ps_weak {X : Cx} {st : Stmt} {t t' : TS} (h : PS X st t) (i : ∀ E σ H, t' E σ H → t E σ H) : PS X st t' := ⟨fun pins s σ H D I q => h.run pins s σ H D I (i D σ H q)⟩
theorem pss_weak {X : Cx} {st : List Stmt} {t t' : TS} (h : PSs X st t) (i : ∀ E σ H, t' E σ H → t E σ H) : PSs X st t' := ⟨fun pins s σ H D I q => h.run pins s σ H D I (i D σ H q)⟩
theorem pg_weak {X : Cx} {e : Expr} {t t' : TG} (h : PG X e t) (i : ∀ v σ H Q, t' v σ H Q → t v σ H Q) : PG X e t' := ⟨fun pins s σ H v u Q I r q => h.run pins s σ H v u Q I r (i v σ H Q q)⟩
theorem pgs_weak {X : Cx} {e : List Expr} {t t' : TGs} (h : PGs X e t) (i : ∀ v σ H Q, t' v σ H Q → t v σ H Q) : PGs X e t' := ⟨fun pins s σ H v u Q I r q => h.run pins s σ H v u Q I r (i v σ H Q q)⟩
theorem pg_or {X : Cx} {e : Expr} {t t' : TG} (h : PG X e t) (h' : PG X e t') : PG X e (fun v σ H Q => t v σ H Q ∨ t' v σ H Q) := ⟨fun pins s σ H v u Q I r q => q.elim (fun q => h.run pins s σ H v u Q I r q) (fun q => h'.run pins s σ H v u Q I r q)⟩

section
variable {X : Cx} {W : WX} {Z : DX} {K : PySem.W.Frag} {a b c e : Expr} {ta tb te : DTE} {pos : Pos} {st : Stmt} {sts : List Stmt} {t u : DTS}
def dNext : DTS := fun F ρ w => F.nx ρ w
def dSeq (t u : DTS) : DTS := fun F ρ w => t { F with nx := u F } ρ w
theorem ds_nil : DB X W Z [] dNext := pss_weak pss_nil fun E σ H ⟨ρ, w, D, F, rp, xo, h, eo⟩ => eo.nx ρ w σ D H h (Gr.refl _ _ _) rp
theorem ds_one (h1 : DS X W Z st t) : DB X W Z [st] t := pss_one h1
theorem ds_cons (h1 : DS X W Z st t) (h2 : DB X W Z sts u) : DB X W Z (st :: sts) (dSeq t u) :=
  pss_weak (pss_cons h1 h2) fun E σ H ⟨ρ, w, D, F, rp, xo, h, eo⟩ => ⟨ρ, w, D, { F with nx := u F }, rp, xo, h, fun ρ' w' σ' D' H' hu g r => ⟨ρ', w', D', F, r, xo.next g, hu, eo.next g⟩, eo.rt, eo.bk, eo.ct⟩
theorem ds_pass : DS X W Z (.Pass pos) dNext := ps_weak ps_pass fun E σ H ⟨ρ, w, D, F, rp, xo, h, eo⟩ => eo.nx ρ w σ D H h (Gr.refl _ _ _) rp
def dBreak : DTS := fun F ρ w => F.bk ρ w
def dCont : DTS := fun F ρ w => F.ct ρ w
theorem ds_break : DS X W Z (.Break pos) dBreak := ps_weak ps_break fun E σ H ⟨ρ, w, D, F, rp, xo, h, eo⟩ => eo.bk ρ w σ D H h (Gr.refl _ _ _) rp
theorem ds_cont : DS X W Z (.Continue pos) dCont := ps_weak ps_continue fun E σ H ⟨ρ, w, D, F, rp, xo, h, eo⟩ => eo.ct ρ w σ D H h (Gr.refl _ _ _) rp
def dDrop (te : DTE) : DTS := fun F ρ w => te ρ w fun _ w1 => F.nx ρ w1
theorem ds_expr (he : DE X W Z e te) (hs : swapsWith e none pos.line X.env = pure false := by rfl) : DS X W Z (.Expr e pos) (dDrop te) :=
  ps_weak (ps_expr he hs) fun E σ H ⟨ρ, w, D, F, rp, xo, h, eo⟩ => ⟨ρ, w, D, _, rp, xo, h, fun s w1 v D1 H1 h1 g1 s1 _ => eo.nx ρ w1 σ D1 H1 h1 g1 (rp.next g1.dd s1)⟩
def dRet (te : DTE) : DTS := fun F ρ w => te ρ w F.rt
def dRetN : DTS := fun F _ w => F.rt (.dat .none) w
theorem ds_ret (he : DE X W Z e te) : DS X W Z (.Return (some e) pos) (dRet te) := ps_weak (ps_ret he) fun E σ H ⟨ρ, w, D, F, rp, xo, h, eo⟩ => ⟨ρ, w, D, _, rp, xo, h, eo.rt⟩
theorem ds_retN : DS X W Z (.Return none pos) dRetN := ps_weak ps_retN fun E σ H ⟨ρ, w, D, F, rp, xo, h, eo⟩ => eo.rt.d rp.st h .non
def dIfS (c : DTT) (t u : DTS) : DTS := fun F ρ w => c ρ w fun k w1 => if k = true then t F ρ w1 else u F ρ w1
theorem ds_if {sa sb : List Stmt} {tc : DTT} (hc : DT X W Z c tc) (ha : DB X W Z sa t) (hb : DB X W Z sb u) : DS X W Z (.If c sa sb pos) (dIfS tc t u) :=
  ps_weak (ps_if hc ha hb) fun E σ H ⟨ρ, w, D, F, rp, xo, h, eo⟩ => ⟨ρ, w, D, _, rp, xo, h, fun k w1 D1 H1 h1 g1 s1 => by
    cases k with
    | true => rw [if_pos rfl] at h1 ⊢; exact ⟨ρ, w1, D1, F, rp.next g1.dd s1, xo.next g1, h1, eo.next g1⟩
    | false => rw [if_neg Bool.false_ne_true] at h1 ⊢; exact ⟨ρ, w1, D1, F, rp.next g1.dd s1, xo.next g1, h1, eo.next g1⟩⟩
/-! ### targets -/
abbrev DTG := Sl → DEnv → Om → (DEnv → Om → Prop) → Prop
abbrev DTGs := List Sl → DEnv → Om → (DEnv → Om → Prop) → Prop
def upG (K : PySem.W.Frag) (W : WX) (Z : DX) (g : DTG) : TG := fun v σ H Q => ∃ s ρ w D R, Rp K σ ρ w D H ∧ XOk K W Z w D H ∧ Vr K D v s ∧ g s ρ w R ∧ NxOk K w D H R Q
def upGs (K : PySem.W.Frag) (W : WX) (Z : DX) (g : DTGs) : TGs := fun vs σ H Q => ∃ ss ρ w D R, Rp K σ ρ w D H ∧ XOk K W Z w D H ∧ SlA K D vs ss ∧ g ss ρ w R ∧ NxOk K w D H R Q
abbrev DG (X : Cx) (W : WX) (Z : DX) (e : Expr) (g : DTG) : Prop := PG X e (upG X.K W Z g)
abbrev DGs (X : Cx) (W : WX) (Z : DX) (es : List Expr) (g : DTGs) : Prop := PGs X es (upGs X.K W Z g)
def dName (i : Nat) : DTG := fun s ρ w R => R (ρ.set i (some s)) w
theorem dg_name {i : Nat} {x : Str} (hN : X.N.Nodup) (hi : X.N[i]? = some x) (hx : Loc X.env.scope x) (hf : X.fn x = true ∨ X.env.scope.names.lookup x = some .local := by first | exact .inl rfl | exact .inr rfl | assumption) : DG X W Z (.Name x pos) (dName i) :=
  pg_weak (pg_name hN hi hx hf) fun v σ H Q ⟨s, ρ, w, D, R, rp, xo, r, h, n⟩ => n _ w _ D H h (Gr.refl _ _ _) (rp.set i r)
def dGNil : DTGs := fun ss ρ w R => ss = [] ∧ R ρ w
def dGCons (t : DTG) (u : DTGs) : DTGs := fun ss ρ w R => ∃ s r, ss = s :: r ∧ t s ρ w fun ρ' w' => u r ρ' w' R
theorem dgs_nil : DGs X W Z [] dGNil := pgs_weak pgs_nil fun vs σ H Q ⟨ss, ρ, w, D, R, rp, xo, r, ⟨h0, h⟩, n⟩ => by
  subst h0
  cases r
  exact ⟨rfl, n ρ w σ D H h (Gr.refl _ _ _) rp⟩
variable {es : List Expr} {tg : DTG} {tgs : DTGs}
theorem dgs_cons (h1 : DG X W Z e tg) (h2 : DGs X W Z es tgs) (hs : (assignEach (e :: es) X.env).map (·.2) = assign e X.env :: (assignEach es X.env).map (·.2) := by rfl) : DGs X W Z (e :: es) (dGCons tg tgs) :=
  pgs_weak (pgs_cons h1 h2 hs) fun vs σ H Q ⟨ss, ρ, w, D, R, rp, xo, r, h, n⟩ => by
    obtain ⟨s, sr, rfl, h⟩ := h
    cases r with
    | cons r0 rr =>
      exact ⟨_, _, rfl, s, ρ, w, D, _, rp, xo, r0, h, fun ρ1 w1 σ1 D1 H1 h1 g1 r1 => ⟨sr, ρ1, w1, D1, R, r1, xo.next g1, SlA.mono g1.dd rr, h1, n.next g1⟩⟩
/-- (a, b, ..) = a list or a tuple of that length -/
def dGTup (n : Nat) (t : DTGs) : DTG := fun s ρ w R => ∃ xs, sq w s = some xs ∧ xs.length = n ∧ t xs ρ w R
theorem dg_tup {k n : Nat} (hc : X.calm = true) (h : DGs X W Z es tgs) (hn : (assignEach es X.env).length = n := by rfl) (hst : (assignEach es X.env).findIdx? (·.1) = none := by rfl) : DG X W Z (.Tuple es k pos) (dGTup n tgs) :=
  pg_weak (pg_or (pg_lst hc h hn hst) (pg_tup hc h hn hst)) fun v σ H Q ⟨s, ρ, w, D, R, rp, xo, r, ⟨xs, e, hl, h⟩, n⟩ => by
    obtain ⟨p, vs, rfl, hq, hv⟩ := sq_ok rp.st r e
    have hlen : vs.length = _ := (Paired.length hv).trans hl
    rcases hq with hq | hq
    · exact .inl ⟨p, vs, rfl, hq, hlen, xs, ρ, w, D, R, rp, xo, hv, h, n⟩
    · exact .inr ⟨p, vs, rfl, hq, hlen, xs, ρ, w, D, R, rp, xo, hv, h, n⟩
def dAsg (te : DTE) (g : DTG) : DTS := fun F ρ w => te ρ w fun s w1 => g s ρ w1 F.nx
theorem ds_asg {tgt : Expr} (he : DE X W Z e te) (hg : DG X W Z tgt tg) (hs : swapsWithSole [tgt] e pos.line X.env = pure false := by rfl) (hw : swappedStores [tgt] e X.env = pure none := by rfl) (h1 : (assignEach [tgt] X.env).map (·.2) = [assign tgt X.env] := by rfl) : DS X W Z (.Assign [tgt] e pos) (dAsg te tg) :=
  ps_weak (ps_asg he hg hs hw h1) fun E σ H ⟨ρ, w, D, F, rp, xo, h, eo⟩ => ⟨ρ, w, D, _, rp, xo, h, fun s w1 v D1 H1 h1 g1 s1 r1 => ⟨s, ρ, w1, D1, F.nx, rp.next g1.dd s1, xo.next g1, r1, h1, eo.nx.next g1⟩⟩
theorem ds_set {i : Nat} {x : Str} {pos' : Pos} (hN : X.N.Nodup) (hi : X.N[i]? = some x) (hx : Loc X.env.scope x) (he : DE X W Z e te) (hs : swapsWith e (some (.Name x pos')) pos.line X.env = pure false := by rfl) (hf : X.fn x = true ∨ X.env.scope.names.lookup x = some .local := by first | exact .inl rfl | exact .inr rfl | assumption) :
    DS X W Z (.Assign [.Name x pos'] e pos) (dAsg te (dName i)) :=
  ps_weak (ps_set hN hi hx he hs hf) fun E σ H ⟨ρ, w, D, F, rp, xo, h, eo⟩ => ⟨ρ, w, D, _, rp, xo, h, fun s w1 v D1 H1 h1 g1 s1 r1 => eo.nx _ w1 _ D1 H1 h1 g1 ((rp.next g1.dd s1).set i r1)⟩
/-- o[i] = e, of a list of the store -/
def dSetL (to ti : DTE) : DTG := fun s ρ w R => to ρ w fun o w1 => ti ρ w1 fun i w2 => ∃ p xs k j, o = .adr p ∧ i = .dat (.int k) ∧ w2 p = some (.lst xs) ∧ ixN xs.length k = some j ∧ R ρ (put w2 p (.lst (xs.set j s)))
theorem dg_sub (ho : DE X W Z a ta) (hi : DE X W Z b tb)
    (hh : ∀ v, assign (.Subscript a b pos) X.env v = (do
      let ov ← holding [v] (eval a X.env)
      let iv ← holding [v, ov] (eval b X.env)
      standAt pos
      holding [v, ov, iv] (setItem ov iv v)
      release [v, ov, iv] []) := by intro _; rfl) : DG X W Z (.Subscript a b pos) (dSetL ta tb) :=
  pg_weak (pg_sub ho hi set_list hh) fun v σ H Q ⟨s, ρ, w, D, R, rp, xo, r, h, n⟩ => ⟨ρ, w, D, _, rp, xo, h, fun o w1 z1 D1 H1 h1 g1 s1 r1 => ⟨ρ, w1, D1, _, rp.next g1.dd s1, xo.next g1, h1, fun i w2 z2 D2 H2 h2 g2 s2 r2 => by
    obtain ⟨p, xs, k, j, rfl, rfl, hw, hj, hR⟩ := h2
    obtain ⟨vs, hH, hv⟩ := s2.own p _ hw
    have r1' : z1 = .ref p := r1
    have rv := r.mono (g1.trans g2).dd
    refine ⟨p, vs, k, j, r1', dr_int r2, hH, by rw [Paired.length hv]; exact hj, ?_⟩
    have g3 : Gr w2 D2 H2 (put w2 p (.lst (xs.set j s))) D2 (upd H2 p (.lst (vs.set j v))) := Gr.write hw
    have s3 := s2.write (o := .lst (vs.set j v)) (u' := .lst (xs.set j s)) hw ⟨_, upd_same, SlA.set rv j hv⟩
    have g := (g1.trans g2).trans g3
    exact n ρ _ σ D2 _ hR g (rp.next g.dd s3)⟩⟩
/-! ### a, *b, c = a tuple or a list -/
theorem ite_no {M : Model} {A : Around} {E : Value → Shared → Prop} {s : Shared} {α : Type} {Q : α → Shared → Prop} {p : Prop} [Decidable p] {x y : Sem α} (h : ¬ p) (hy : wpAny M A y Q E s) : wpAny M A (if p then x else y) Q E s := by
  rw [if_neg h]
  exact hy
theorem star_items {prog : Program} {w : World} {A : Around} {E : Value → Shared → Prop} {s : Shared} {l : Addr} {items : Array Value} {n i : Nat} {Q : List Value → Shared → Prop}
    (hl : IsTup s.heap l items ∨ s.heap.IsList l items) (hh : A.handled = none) (hi : i < n) (hn : n ≤ items.size + 1) (hz : items.size ≤ 16384)
    (h : ∀ (h' : Heap) (tk : Nat), (∀ b o, s.heap.get? b = some o → h'.get? b = some o) →
      Q (items.toList.take i ++ [.ref h'.objs.size] ++ (items.toList.drop i).drop (items.size + 1 - n)) { s with heap := h'.push { cls := .type "list", data := .seq ((items.toList.drop i).take (items.size + 1 - n)).toArray }, toks := tk }) :
    wpAny (model prog w) A (unpackItems (.ref l) n (some i)) Q E s := by
  have fl : (items.toList.take i).length = i := by
    rw [List.length_take, Array.length_toList]
    omega
  have rl : (items.toList.drop i).length = items.size - i := by
    rw [List.length_drop, Array.length_toList]
  have ml : (items.toList.drop i).length - (n - 1 - i) = items.size + 1 - n := by
    rw [rl]
    omega
  -- behind the walk
  have tail : ∀ (h2 : Heap) (tk : Nat), (∀ b o, b ≠ s.heap.objs.size → s.heap.get? b = some o → h2.get? b = some o) →
      wpAny (model prog w) A (newList ((items.toList.drop i).take ((items.toList.drop i).length - (n - 1 - i))) >>= fun d =>
        pure (items.toList.take i ++ [d] ++ (items.toList.drop i).drop ((items.toList.drop i).length - (n - 1 - i)))) Q E { s with heap := h2, toks := tk } := by
    intro h2 tk hk
    rw [ml]
    refine wpAny_bind (wpAny_newList (wpAny_pure ?_) ?_)
    · exact h h2 tk fun b o e => hk b o (Nat.ne_of_lt (Heap.lt_size e)) e
    · rw [List.length_take, rl, sizeLine_eq]
      omega
  unfold unpackItems
  refine wpAny_bind ?_
  unfold notIterableAtAll
  rcases hl with hl | hl
  · have ne : l ≠ s.heap.objs.size := by
      obtain ⟨o, ho, _⟩ := hl
      exact Nat.ne_of_lt (Heap.lt_size ho)
    refine wpAny_bind (wpAny_specialOf hl.typeIs slot_tuple_iter.lookup (wpAny_pure ?_))
    simp only [Bool.false_eq_true, if_false]
    refine wpAny_bind (wpAny_holding (iter_tuple hl (wpAny_bind (wpAny_holding ?_))))
    refine draw_tuple ne i 0 _ _ ⟨_, Heap.get?_push_size _ rfl, rfl, rfl⟩ (hl.push _) (by omega) fun h1 it1 k1 => ?_
    have hl1 : IsTup h1 l items := (hl.push _).extBut k1.extBut ne
    rw [Nat.zero_add] at it1
    obtain ⟨oi, hoi, _⟩ := id it1
    obtain ⟨ol, hol, _⟩ := id hl1
    rw [List.drop_zero, if_neg (show ¬ ((items.toList.take i).length < i) by omega)]
    refine wpAny_bind (wpAny_holding ?_)
    refine PySem.W.kun_collect (s := { s with heap := h1 }) (T := "tuple_iterator") (.inr (.inr (.inr rfl))) (Walks.tuple (A := A.in1) hh s.heap.objs.size l ne items) (fun j u z => z.1.typeIs) (k := i) (by omega) ⟨it1, hl1⟩ (Heap.lt_size hoi) (Heap.lt_size hol) (fun h2 tk hk => ?_) (by rw [sizeLine_eq]; omega)
    refine ite_no (by rw [rl]; omega) ?_
    exact tail h2 tk fun b o hb q => hk b o hb (k1.extBut b o hb (Heap.get?_push_of_some _ q))
  · have ne : l ≠ s.heap.objs.size := by
      obtain ⟨o, ho, _⟩ := hl
      exact Nat.ne_of_lt (Heap.lt_size ho)
    refine wpAny_bind (wpAny_specialOf hl.typeIs slot_list_iter.lookup (wpAny_pure ?_))
    simp only [Bool.false_eq_true, if_false]
    refine wpAny_bind (wpAny_holding (wpAny_pyIter_list hl (wpAny_bind (wpAny_holding ?_))))
    refine PySem.W.kun_draw ne i 0 _ _ ⟨_, Heap.get?_push_size _ rfl, rfl, rfl⟩ (hl.push _) (by omega) fun h1 it1 k1 => ?_
    have hl1 : h1.IsList l items := (hl.push _).extBut k1.extBut ne
    rw [Nat.zero_add] at it1
    obtain ⟨oi, hoi, _⟩ := id it1
    obtain ⟨ol, hol, _⟩ := id hl1
    rw [List.drop_zero, if_neg (show ¬ ((items.toList.take i).length < i) by omega)]
    refine wpAny_bind (wpAny_holding ?_)
    refine PySem.W.kun_collect (s := { s with heap := h1 }) (T := "list_iterator") (.inr (.inr (.inl rfl))) (Walks.list (A := A.in1) hh s.heap.objs.size l ne items) (fun j u z => z.1.typeIs) (k := i) (by omega) ⟨it1, hl1⟩ (Heap.lt_size hoi) (Heap.lt_size hol) (fun h2 tk hk => ?_) (by rw [sizeLine_eq]; omega)
    refine ite_no (by rw [rl]; omega) ?_
    exact tail h2 tk fun b o hb q => hk b o hb (k1.extBut b o hb (Heap.get?_push_of_some _ q))
def gStar (K : PySem.W.Frag) (n i : Nat) (t : TGs) : TG := fun v σ H Q => ∃ a xs, v = .ref a ∧ (SqL K H a xs ∨ SqT K H a xs) ∧ i < n ∧ n ≤ xs.length + 1 ∧ xs.length ≤ 16384 ∧
  ∀ p, H p = none → t (xs.take i ++ [.ref p] ++ (xs.drop i).drop (xs.length + 1 - n)) σ (upd H p (.lst ((xs.drop i).take (xs.length + 1 - n)))) Q
theorem pg_star {es : List Expr} {k n i : Nat} {t : TGs} (hc : X.calm = true) (h : PGs X es t) (hn : (assignEach es X.env).length = n := by rfl) (hst : (assignEach es X.env).findIdx? (·.1) = some i := by rfl) : PG X (.Tuple es k pos) (gStar X.K n i t) := by
  refine ⟨fun pins s σ H v u Q I r hw => ?_⟩
  obtain ⟨a, xs, rfl, hq, hi, hl, hz, hw⟩ := hw
  cases r
  have ex : ∃ its : List Value, Vals xs its ∧ (IsTup s.heap a its.toArray ∨ s.heap.IsList a its.toArray) := by
    rcases hq with hq | hq
    · obtain ⟨its, rv, pl, _⟩ := I.list hq
      exact ⟨its, rv, .inr pl.isList⟩
    · obtain ⟨its, rv, pl, _⟩ := I.tuple hq
      exact ⟨its, rv, .inl pl⟩
  obtain ⟨its, rv, hp⟩ := ex
  have le := rv.length
  rw [PyProof.Rows.assign_Tuple]
  refine wpAny_bind (wpAny_standAt ?_)
  unfold unpack
  rw [hn, hst]
  refine wpAny_bind (wpAny_holding (star_items hp (I.ok.hd hc) hi (by simp; omega) (by simp; omega) fun h' tk hk => ?_))
  have I1 : Inv X pins σ H { s with heap := h', toks := tk } := I.kept (t' := tk) hk
  have I2 := I1.lnew (t' := tk) (its := (its.drop i).take (its.length + 1 - n)) ((rv.drop i).take (its.length + 1 - n)) (by rw [List.length_take, List.length_drop, sizeLine_eq]; omega)
  have q := hw _ I1.fresh
  rw [le] at q
  have q2 := h.run pins _ σ _ _ ((its.take i) ++ [.ref h'.objs.size] ++ (its.drop i).drop (its.length + 1 - n)) Q I2 (Vals.append (Vals.append (rv.take i) (.cons (show L2.RelV (.ref _) (.ref _) from rfl) .nil)) ((rv.drop i).drop _)) q
  simpa using q2
def dGStar (n i : Nat) (t : DTGs) : DTG := fun s ρ w R => ∃ xs, sq w s = some xs ∧ i < n ∧ n ≤ xs.length + 1 ∧ xs.length ≤ 16384 ∧
  ∀ p, w p = none → t (xs.take i ++ [.adr p] ++ (xs.drop i).drop (xs.length + 1 - n)) ρ (put w p (.lst ((xs.drop i).take (xs.length + 1 - n)))) R
theorem dg_star {k n i : Nat} (hc : X.calm = true) (h : DGs X W Z es tgs) (hn : (assignEach es X.env).length = n := by rfl) (hst : (assignEach es X.env).findIdx? (·.1) = some i := by rfl) : DG X W Z (.Tuple es k pos) (dGStar n i tgs) :=
  pg_weak (pg_star hc h hn hst) fun v σ H Q ⟨s, ρ, w, D, R, rp, xo, r, ⟨xs, e, hi, hl, hz, h⟩, nx⟩ => by
    obtain ⟨p, vs, rfl, hq, hv⟩ := sq_ok rp.st r e
    have le : vs.length = xs.length := Paired.length hv
    refine ⟨p, vs, rfl, hq, hi, by rw [le]; exact hl, by rw [le]; exact hz, fun a ha => ?_⟩
    have hm : SlA X.K D ((vs.drop i).take (xs.length + 1 - n)) ((xs.drop i).take (xs.length + 1 - n)) := SlA.take _ (SlA.drop i hv)
    have s2 := rp.st.newW (o := .lst ((vs.drop i).take (xs.length + 1 - n))) (u := .lst ((xs.drop i).take (xs.length + 1 - n))) ha ⟨_, upd_same, hm⟩
    have g2 : Gr w D H (put w a (.lst ((xs.drop i).take (xs.length + 1 - n)))) D (upd H a (.lst ((vs.drop i).take (xs.length + 1 - n)))) := Gr.newW rp.st ha
    rw [le]
    exact ⟨_, ρ, _, D, R, rp.next g2.dd s2, xo.next g2, SlA.append (SlA.append (SlA.take i hv) (.cons (show Vr X.K D (.ref a) (.adr a) from rfl) .nil)) (SlA.drop _ (SlA.drop i hv)), h a (rp.st.freeW ha), nx.next g2⟩
end
end DL

set_option Elab.async false
set_option linter.all false
set_option maxRecDepth 100000
set_option maxHeartbeats 4000000
namespace DL
open PySem PySem.Spec PyProof.Rows L2
section
variable {X : Cx} {W : WX} {Z : DX} {K : PySem.W.Frag} {a b c e : Expr} {ta tb te : DTE} {pos : Pos} {st : Stmt} {sts : List Stmt} {t u : DTS} {es : List Expr} {tr : DTA} {tg : DTG} {tgs : DTGs}
/-! ### ghost steps -/
def dFz (te : DTE) : DTE := fun ρ w R => te ρ w fun s w1 => frz s w1 fun d w2 => R (.dat d) w2
theorem de_fz (h : DE X W Z e te) : DE X W Z e (dFz te) := pe_weak h fun σ H Q ⟨ρ, w, D, R, rp, xo, h, f⟩ => ⟨ρ, w, D, _, rp, xo, h, fun s w1 z D1 H1 h1 g1 s1 r1 => by
  obtain ⟨d, w', D', hk, g', s', rd⟩ := frz_ok s1 r1 h1
  exact ((f.next g1).next g').d s' hk rd⟩
/-- what stands neither in the store nor among the data may change -/
theorem StOk.junk {w : Om} {D H : Hp} {p : Addr} {o : HO} (s : StOk K w D H) (hw : w p = none) (hd : D p = none) : StOk K w D (upd H p o) where
  dh := fun a u q => by rw [upd_ne (fun z => by rw [z, hd] at q; cases q)]; exact s.dh a u q
  own := fun a u q => (s.own a u q).mono (Same.refl D) fun x r => by rw [upd_ne (fun z => by rw [z, hw] at q; cases q)]; exact r
  sep := s.sep
theorem Gr.junk {w w' : Om} {D H D' H' : Hp} {p : Addr} {o : HO} (g : Gr w D H w' D' H') (hp : H p = none) : Gr w D H w' D' (upd H' p o) where
  dd := g.dd
  fr := fun a u q n => by rw [upd_ne (ne_of_none q hp)]; exact g.fr a u q n
  nw := g.nw
  nd := g.nd
  dm := fun a q => by
    by_cases z : a = p
    · subst z; rw [upd_same]; intro y; cases y
    · rw [upd_ne z]; exact g.dm a q
/-! ### calls of built-ins by values -/
abbrev GN := Om → List Sl → Option Ou
def dCB (g : GN) (ta : DTA) : DTE := fun ρ w R => ta ρ w fun ss w1 => ∃ o, g w1 ss = some o ∧ ret o w1 R
def CV (K : PySem.W.Frag) (r : List V → Hp → VK → Prop) (g : GN) : Prop := ∀ ss vs w D H o R Q, StOk K w D H → SlA K D vs ss → g w ss = some o → ret o w R → Fin K w D H R Q → r vs H Q
theorem up_cb {r : List V → Hp → VK → Prop} {g : GN} (hv : CV X.K r g) (σ : L2.St) (H : Hp) (Q : VK) (h : up X.K W Z (dCB g tr) σ H Q) : tCB r (upA X.K W Z tr) σ H Q := by
  obtain ⟨ρ, w, D, R, rp, xo, h, f⟩ := h
  refine ⟨ρ, w, D, _, rp, xo, h, fun ss w1 vs D1 H1 h1 g1 s1 rs => ?_⟩
  obtain ⟨o, e, ho⟩ := h1
  exact hv ss vs w1 D1 H1 o R Q s1 rs e ho (f.next g1)
variable {x : Str} {p : Pos} {idn T : String}
theorem de_callB {r : List V → Hp → VK → Prop} {g : GN} (hc : CallR X (.builtin idn) r) (hv : CV X.K r g) (hg : Gl X x) (hm : X.mg x = none) (hb : bootBuiltins x = some (.builtin idn)) (ha : DA X W Z (e :: es) tr) (hn : x ≠ "__name__" := by decide) (hdb : (x == ("__debug__" : Str)) = false := by decide)
    (hs : starEach (e :: es) X.env = (false, eval e X.env) :: starEach es X.env := by rfl) (hpl : (backTo pos (starEach es X.env)).any (·.1) = false := by rfl) : DE X W Z (.Call (.Name x p) (e :: es) [] pos) (dCB g tr) :=
  pe_weak (pe_callB hc hg hm hb ha hn hdb hs hpl) fun σ H Q h => up_cb hv σ H Q h
theorem de_callTy {r : List V → Hp → VK → Prop} {g : GN} (hc : CallR X (.type T) r) (hv : CV X.K r g) (hg : Gl X x) (hm : X.mg x = none) (hb : bootBuiltins x = some (.type T)) (ha : DA X W Z (e :: es) tr) (hn : x ≠ "__name__" := by decide) (hdb : (x == ("__debug__" : Str)) = false := by decide)
    (hs : starEach (e :: es) X.env = (false, eval e X.env) :: starEach es X.env := by rfl) (hpl : (backTo pos (starEach es X.env)).any (·.1) = false := by rfl) : DE X W Z (.Call (.Name x p) (e :: es) [] pos) (dCB g tr) :=
  pe_weak (pe_callTy hc hg hm hb ha hn hdb hs hpl) fun σ H Q h => up_cb hv σ H Q h
theorem sla1 {D : Hp} {vs : List V} {s : Sl} (h : SlA K D vs [s]) : ∃ v, vs = [v] ∧ Vr K D v s := by
  cases h with
  | cons r t => cases t; exact ⟨_, rfl, r⟩
theorem sla2 {D : Hp} {vs : List V} {s s' : Sl} (h : SlA K D vs [s, s']) : ∃ v v', vs = [v, v'] ∧ Vr K D v s ∧ Vr K D v' s' := by
  cases h with
  | cons r t =>
    obtain ⟨v, rfl, r'⟩ := sla1 t
    exact ⟨_, v, rfl, r, r'⟩
/-- len -/
def lenS : GN := fun w ss => match ss with
  | [.dat (.str z)] => if z.length ≤ sizeLine then some (.v (.dat (.int z.length))) else none
  | [s] => (sq w s).map fun xs => .v (.dat (.int xs.length))
  | _ => none
def rLenA (K : PySem.W.Frag) : List V → Hp → VK → Prop := fun xs H Q => (∃ p ys, xs = [.ref p] ∧ (SqL K H p ys ∨ SqT K H p ys) ∧ Q (.int ys.length) H) ∨ (∃ z, xs = [.str z] ∧ z.length ≤ sizeLine ∧ Q (.int z.length) H)
theorem lenS_sq {w : Om} {s : Sl} {xs : List Sl} (h : sq w s = some xs) : lenS w [s] = some (.v (.dat (.int xs.length))) := by
  have k : ((sq w s).map fun xs => Ou.v (.dat (.int xs.length))) = some (.v (.dat (.int xs.length))) := by rw [h]; rfl
  cases s with
  | adr a => exact k
  | scr ns => exact k
  | dat d => cases d <;> first | exact k | cases h
theorem lenS_str {w : Om} {z : Str} (h : z.length ≤ sizeLine) : lenS w [.dat (.str z)] = some (.v (.dat (.int z.length))) := by
  show (if z.length ≤ sizeLine then some (Ou.v (.dat (.int z.length))) else none) = _
  rw [if_pos h]
theorem cv_len : CV K (rLenA K) lenS := fun ss vs w D H o R Q st rv e ho f => by
  have sc : ∀ s, ss = [s] → ((sq w s).map fun xs => Ou.v (.dat (.int xs.length))) = some o → rLenA K vs H Q := fun s es e2 => by
    clear e
    subst es
    obtain ⟨v, rfl, r⟩ := sla1 rv
    cases q : sq w s with
    | none => rw [q] at e2; cases e2
    | some xs =>
      rw [q] at e2
      cases e2
      obtain ⟨p, us, rfl, hq, hv⟩ := sq_ok st r q
      refine .inl ⟨p, us, rfl, hq, ?_⟩
      rw [Paired.length hv]
      exact f.d st ho (.int _)
  unfold lenS at e
  split at e
  · rename_i z
    by_cases hz : z.length ≤ sizeLine
    · rw [if_pos hz] at e
      cases e
      obtain ⟨v, rfl, r⟩ := sla1 rv
      cases (show v = .str z from dr_str r)
      exact .inr ⟨z, rfl, hz, f.d st ho (.int _)⟩
    · rw [if_neg hz] at e; cases e
  · exact sc _ rfl e
  · cases e
theorem de_len (hg : Gl X "len") (hm : X.mg "len" = none) (ha : DA X W Z [a] tr) (hs : starEach [a] X.env = (false, eval a X.env) :: starEach [] X.env := by rfl) (hpl : (backTo pos (starEach [] X.env)).any (·.1) = false := by rfl) :
    DE X W Z (.Call (.Name "len" p) [a] [] pos) (dCB lenS tr) := de_callB (CallR.or call_len_seq call_len_str) cv_len hg hm PySem.boot_len ha (by decide) (by decide) hs hpl
/-- max, min of two whole numbers -/
def maxS : GN := fun _ ss => match ss with
  | [.dat (.int i), .dat (.int j)] => some (.v (.dat (.int (if j > i then j else i))))
  | _ => none
def minS : GN := fun _ ss => match ss with
  | [.dat (.int i), .dat (.int j)] => some (.v (.dat (.int (if j < i then j else i))))
  | _ => none
theorem cv_max : CV K (fun xs H Q => ∃ i j, xs = [.int i, .int j] ∧ Q (.int (if j > i then j else i)) H) maxS := fun ss vs w D H o R Q st rv e ho f => by
  unfold maxS at e
  split at e
  · cases e
    obtain ⟨v, v', rfl, r, r'⟩ := sla2 rv
    cases dr_int r; cases dr_int r'
    exact ⟨_, _, rfl, f.d st ho (.int _)⟩
  · cases e
theorem cv_min : CV K (fun xs H Q => ∃ i j, xs = [.int i, .int j] ∧ Q (.int (if j < i then j else i)) H) minS := fun ss vs w D H o R Q st rv e ho f => by
  unfold minS at e
  split at e
  · cases e
    obtain ⟨v, v', rfl, r, r'⟩ := sla2 rv
    cases dr_int r; cases dr_int r'
    exact ⟨_, _, rfl, f.d st ho (.int _)⟩
  · cases e
theorem de_max (hc : X.calm = true) (hg : Gl X "max") (hm : X.mg "max" = none) (ha : DA X W Z [a, b] tr) (hs : starEach [a, b] X.env = (false, eval a X.env) :: starEach [b] X.env := by rfl) (hpl : (backTo pos (starEach [b] X.env)).any (·.1) = false := by rfl) :
    DE X W Z (.Call (.Name "max" p) [a, b] [] pos) (dCB maxS tr) := de_callB (call_max2 hc) cv_max hg hm (by decide +kernel) ha (by decide) (by decide) hs hpl
theorem de_min (hc : X.calm = true) (hg : Gl X "min") (hm : X.mg "min" = none) (ha : DA X W Z [a, b] tr) (hs : starEach [a, b] X.env = (false, eval a X.env) :: starEach [b] X.env := by rfl) (hpl : (backTo pos (starEach [b] X.env)).any (·.1) = false := by rfl) :
    DE X W Z (.Call (.Name "min" p) [a, b] [] pos) (dCB minS tr) := de_callB (call_min2 hc) cv_min hg hm (by decide +kernel) ha (by decide) (by decide) hs hpl
/-- all, any of a list of truths -/
def blOf : Sl → Option Bool
  | .dat (.bool b) => some b
  | _ => none
def allS : GN := fun w ss => match ss with
  | [s] => (sqL w s).bind fun xs => (xs.mapM blOf).map fun bs => .v (.dat (.bool (bs.all id)))
  | _ => none
def anyS : GN := fun w ss => match ss with
  | [s] => (sqL w s).bind fun xs => (xs.mapM blOf).map fun bs => .v (.dat (.bool (bs.any id)))
  | _ => none
theorem mapM_bl : ∀ {xs : List Sl} {bs : List Bool}, xs.mapM blOf = some bs → xs = bs.map fun b => .dat (.bool b) := by
  intro xs
  induction xs with
  | nil => intro ds h; simp at h; subst h; rfl
  | cons x r ih =>
    intro ds h
    rw [List.mapM_cons] at h
    cases q0 : blOf x with
    | none => simp [q0] at h
    | some b =>
      cases q : r.mapM blOf with
      | none => simp [q0, q] at h
      | some es =>
        simp [q0, q] at h
        subst h
        rw [ih q]
        have : x = .dat (.bool b) := by
          cases x with
          | adr _ => cases q0
          | scr _ => cases q0
          | dat d => cases d <;> cases q0; rfl
        rw [this]; rfl
theorem mapM_bl' : ∀ (bs : List Bool), (bs.map fun b => Sl.dat (.bool b)).mapM blOf = some bs
  | [] => rfl
  | b :: r => by rw [List.map_cons, List.mapM_cons, mapM_bl' r]; rfl
theorem bls_sl {D : Hp} : ∀ {bs : List Bool} {vs : List V}, SlA K D vs (bs.map fun b => .dat (.bool b)) → vs = bs.map V.bl
  | [], _, .nil => rfl
  | b :: r, _, .cons h t => by rw [bls_sl t, dr_bool h]; rfl
theorem allS_ok {w : Om} {s : Sl} {bs : List Bool} (h : sqL w s = some (bs.map fun b => .dat (.bool b))) : allS w [s] = some (.v (.dat (.bool (bs.all id)))) := by
  show ((sqL w s).bind fun xs => (xs.mapM blOf).map fun bs => Ou.v (.dat (.bool (bs.all id)))) = _
  rw [h]
  show ((bs.map fun b => Sl.dat (.bool b)).mapM blOf).map (fun bs => Ou.v (.dat (.bool (bs.all id)))) = _
  rw [mapM_bl']; rfl
theorem anyS_ok {w : Om} {s : Sl} {bs : List Bool} (h : sqL w s = some (bs.map fun b => .dat (.bool b))) : anyS w [s] = some (.v (.dat (.bool (bs.any id)))) := by
  show ((sqL w s).bind fun xs => (xs.mapM blOf).map fun bs => Ou.v (.dat (.bool (bs.any id)))) = _
  rw [h]
  show ((bs.map fun b => Sl.dat (.bool b)).mapM blOf).map (fun bs => Ou.v (.dat (.bool (bs.any id)))) = _
  rw [mapM_bl']; rfl
theorem bools_inv {w : Om} {s : Sl} {o : Ou} {f : List Bool → Ou} (e : ((sqL w s).bind fun xs => (xs.mapM blOf).map f) = some o) : ∃ bs : List Bool, sqL w s = some (bs.map fun b => .dat (.bool b)) ∧ o = f bs := by
  cases q : sqL w s with
  | none => rw [q] at e; cases e
  | some xs =>
    rw [q] at e
    have e1 : (xs.mapM blOf).map f = some o := e
    cases q2 : xs.mapM blOf with
    | none => rw [q2] at e1; cases e1
    | some bs =>
      rw [q2] at e1
      cases e1
      exact ⟨bs, by rw [mapM_bl q2], rfl⟩
theorem cv_all : CV K (rAll K) allS := fun ss vs w D H o R Q st rv e ho f => by
  unfold allS at e
  split at e
  · obtain ⟨bs, q, rfl⟩ := bools_inv e
    obtain ⟨v, rfl, r⟩ := sla1 rv
    obtain ⟨p, us, rfl, hq, hv⟩ := sqL_ok st r q
    rw [bls_sl hv] at hq
    exact ⟨p, bs, rfl, SqL.of hq, f.d st ho (.bl _)⟩
  · cases e
theorem cv_any : CV K (rAny K) anyS := fun ss vs w D H o R Q st rv e ho f => by
  unfold anyS at e
  split at e
  · obtain ⟨bs, q, rfl⟩ := bools_inv e
    obtain ⟨v, rfl, r⟩ := sla1 rv
    obtain ⟨p, us, rfl, hq, hv⟩ := sqL_ok st r q
    rw [bls_sl hv] at hq
    exact ⟨p, bs, rfl, SqL.of hq, f.d st ho (.bl _)⟩
  · cases e
theorem de_all (hc : X.calm = true) (hg : Gl X "all") (hm : X.mg "all" = none) (ha : DA X W Z [a] tr) (hs : starEach [a] X.env = (false, eval a X.env) :: starEach [] X.env := by rfl) (hpl : (backTo pos (starEach [] X.env)).any (·.1) = false := by rfl) :
    DE X W Z (.Call (.Name "all" p) [a] [] pos) (dCB allS tr) := de_callB (cr_all hc) cv_all hg hm (by decide +kernel) ha (by decide) (by decide) hs hpl
theorem de_any (hc : X.calm = true) (hg : Gl X "any") (hm : X.mg "any" = none) (ha : DA X W Z [a] tr) (hs : starEach [a] X.env = (false, eval a X.env) :: starEach [] X.env := by rfl) (hpl : (backTo pos (starEach [] X.env)).any (·.1) = false := by rfl) :
    DE X W Z (.Call (.Name "any" p) [a] [] pos) (dCB anyS tr) := de_callB (cr_any hc) cv_any hg hm (by decide +kernel) ha (by decide) (by decide) hs hpl
/-- list(x), tuple(x) -/
def listS : GN := fun w ss => match ss with
  | [s] => (sq w s).map .nl
  | _ => none
def tupS : GN := fun w ss => match ss with
  | [.dat (.tuple ds)] => some (.v (.dat (.tuple ds)))
  | [s] => (sqL w s).bind fun xs => (xs.mapM datOf).map fun ds => .v (.dat (.tuple ds))
  | _ => none
theorem listS_ok {w : Om} {s : Sl} {xs : List Sl} (h : sq w s = some xs) : listS w [s] = some (.nl xs) := by
  show (sq w s).map Ou.nl = _
  rw [h]; rfl
theorem tupS_ok {w : Om} {s : Sl} {ds : List PyData} (h : sqL w s = some (ds.map .dat)) : tupS w [s] = some (.v (.dat (.tuple ds))) := by
  have k : ((sqL w s).bind fun xs => (xs.mapM datOf).map fun ds => Ou.v (.dat (.tuple ds))) = some (.v (.dat (.tuple ds))) := by
    rw [h]
    show ((ds.map Sl.dat).mapM datOf).map (fun ds => Ou.v (.dat (.tuple ds))) = _
    rw [mapM_dat']; rfl
  cases s with
  | adr a => exact k
  | scr ns => cases h
  | dat d => cases d <;> first | exact k | cases h
theorem cv_list : CV K (fun xs H Q => ∃ p ys, xs = [.ref p] ∧ (SqL K H p ys ∨ SqT K H p ys) ∧ ∀ l, H l = none → Q (.ref l) (upd H l (.lst ys))) listS := fun ss vs w D H o R Q st rv e ho f => by
  unfold listS at e
  split at e
  · rename_i s
    obtain ⟨v, rfl, r⟩ := sla1 rv
    cases q : sq w s with
    | none => rw [q] at e; cases e
    | some xs =>
      rw [q] at e
      cases e
      obtain ⟨p, us, rfl, hq, hv⟩ := sq_ok st r q
      exact ⟨p, us, rfl, hq, f.nl st ho.2 hv⟩
  · cases e
theorem cv_tup : CV K (fun xs H Q => ∃ p ys, xs = [.ref p] ∧ ((SqL K H p ys ∧ ∀ l, H l = none → Q (.ref l) (upd H l (.tup ys))) ∨ (SqT K H p ys ∧ Q (.ref p) H))) tupS := fun ss vs w D H o R Q st rv e ho f => by
  unfold tupS at e
  split at e
  · cases e
    obtain ⟨v, rfl, r⟩ := sla1 rv
    obtain ⟨p, us, rfl, hq, hv⟩ := tup_ok st r
    exact ⟨p, us, rfl, .inr ⟨hq, f.d st ho r⟩⟩
  · rename_i s _
    obtain ⟨v, rfl, r⟩ := sla1 rv
    cases q : sqL w s with
    | none => rw [q] at e; cases e
    | some xs =>
      rw [q] at e
      have e1 : (xs.mapM datOf).map (fun ds => Ou.v (.dat (.tuple ds))) = some o := e
      cases q2 : xs.mapM datOf with
      | none => rw [q2] at e1; cases e1
      | some ds =>
        rw [q2] at e1
        cases e1
        have ex := mapM_dat q2
        subst ex
        obtain ⟨p, us, rfl, hq, hv⟩ := sqL_ok st r q
        exact ⟨p, us, rfl, .inl ⟨SqL.of hq, f.nt st ho (SlA.dat hv)⟩⟩
  · cases e
theorem de_list (hg : Gl X "list") (hm : X.mg "list" = none) (ha : DA X W Z [a] tr) (hs : starEach [a] X.env = (false, eval a X.env) :: starEach [] X.env := by rfl) (hpl : (backTo pos (starEach [] X.env)).any (·.1) = false := by rfl) :
    DE X W Z (.Call (.Name "list" p) [a] [] pos) (dCB listS tr) := de_callTy call_list_of cv_list hg hm (by decide +kernel) ha (by decide) (by decide) hs hpl
theorem de_tuple (hg : Gl X "tuple") (hm : X.mg "tuple" = none) (ha : DA X W Z [a] tr) (hs : starEach [a] X.env = (false, eval a X.env) :: starEach [] X.env := by rfl) (hpl : (backTo pos (starEach [] X.env)).any (·.1) = false := by rfl) :
    DE X W Z (.Call (.Name "tuple" p) [a] [] pos) (dCB tupS tr) := de_callTy call_tuple_of cv_tup hg hm (by decide +kernel) ha (by decide) (by decide) hs hpl
/-- str(n) -/
def strS : GN := fun _ ss => match ss with
  | [.dat (.int i)] => if i.natAbs.log2 < 1920 then some (.v (.dat (.str (toString i)))) else none
  | _ => none
theorem strS_ok {w : Om} {i : Int} (h : i.natAbs.log2 < 1920) : strS w [.dat (.int i)] = some (.v (.dat (.str (toString i)))) := by
  show (if i.natAbs.log2 < 1920 then some (Ou.v (.dat (.str (toString i)))) else none) = _
  rw [if_pos h]
theorem cv_str : CV K (fun xs H Q => ∃ i, xs = [.int i] ∧ i.natAbs.log2 < 1920 ∧ Q (.str (toString i)) H) strS := fun ss vs w D H o R Q st rv e ho f => by
  unfold strS at e
  split at e
  · rename_i i
    by_cases hz : i.natAbs.log2 < 1920
    · rw [if_pos hz] at e
      cases e
      obtain ⟨v, rfl, r⟩ := sla1 rv
      cases dr_int r
      exact ⟨i, rfl, hz, f.d st ho (.str _)⟩
    · rw [if_neg hz] at e; cases e
  · cases e
theorem de_strI (hg : Gl X "str") (hm : X.mg "str" = none) (ha : DA X W Z [a] tr) (hs : starEach [a] X.env = (false, eval a X.env) :: starEach [] X.env := by rfl) (hpl : (backTo pos (starEach [] X.env)).any (·.1) = false := by rfl) :
    DE X W Z (.Call (.Name "str" p) [a] [] pos) (dCB strS tr) := de_callTy call_str_int cv_str hg hm (by decide +kernel) ha (by decide) (by decide) hs hpl
/-! ### isinstance -/
inductive Ty6 where
  | str | int | bool | tuple | list | dict
  deriving DecidableEq
def Ty6.name : Ty6 → String
  | .str => "str" | .int => "int" | .bool => "bool" | .tuple => "tuple" | .list => "list" | .dict => "dict"
def isD : Ty6 → PyData → Bool
  | .str, .str _ => true
  | .int, .int _ => true
  | .int, .bool _ => true
  | .bool, .bool _ => true
  | .tuple, .tuple _ => true
  | .list, .list _ => true
  | .dict, .dict _ => true
  | _, _ => false
def isS (T : Ty6) (w : Om) : Sl → Option Bool
  | .dat d => some (isD T d)
  | .scr _ => none
  | .adr a => match w a with
    | some (.lst _) => some (T == .list)
    | some (.dic _) => some (T == .dict)
    | _ => none
def tyN : PyData → String
  | .none => "NoneType" | .bool _ => "bool" | .int _ => "int" | .str _ => "str" | .list _ => "list" | .tuple _ => "tuple" | .dict _ => "dict"
theorem kit_all : ∀ T : Ty6, kitB "NoneType" T.name = some false ∧ kitB "bool" T.name = some (T == .bool || T == .int) ∧ kitB "int" T.name = some (T == .int) ∧ kitB "str" T.name = some (T == .str) ∧ kitB "list" T.name = some (T == .list) ∧ kitB "tuple" T.name = some (T == .tuple) ∧ kitB "dict" T.name = some (T == .dict)
  | .str => by decide +kernel
  | .int => by decide +kernel
  | .bool => by decide +kernel
  | .tuple => by decide +kernel
  | .list => by decide +kernel
  | .dict => by decide +kernel
theorem kit_is (T : Ty6) (d : PyData) : kitB (tyN d) T.name = some (isD T d) := by
  obtain ⟨h1, h2, h3, h4, h5, h6, h7⟩ := kit_all T
  cases d with
  | none => exact h1.trans (by cases T <;> rfl)
  | bool _ => exact h2.trans (by cases T <;> rfl)
  | int _ => exact h3.trans (by cases T <;> rfl)
  | str _ => exact h4.trans (by cases T <;> rfl)
  | list _ => exact h5.trans (by cases T <;> rfl)
  | tuple _ => exact h6.trans (by cases T <;> rfl)
  | dict _ => exact h7.trans (by cases T <;> rfl)
theorem tyx_of {w : Om} {D H : Hp} {v : V} {d : PyData} (st : StOk K w D H) (r : Dr K D v d) : TyX K H v (.type (tyN d)) := by
  cases r with
  | non => exact .base .non
  | bl b => exact .base (.bl b)
  | int i => exact .base (.int i)
  | str x => exact .base (.str x)
  | lst h _ => exact .base (.lst (st.dh _ _ h))
  | tup h _ =>
    rcases h with (h | ⟨o, h⟩) | ⟨o, its, n, h1, h2, _⟩
    · exact .base (.tup (st.dh _ _ h))
    · exact .fTuple (st.dh _ _ h)
    · exact .kTuple h1 h2
  | dct h => exact .base (.dK (st.dh _ _ h))
def tyS (w : Om) : Sl → String
  | .dat d => tyN d
  | .scr _ => "list"
  | .adr a => match w a with
    | some (.lst _) => "list"
    | _ => "dict"
theorem isS_ok {w : Om} {D H : Hp} {v : V} {s : Sl} {T : Ty6} {k : Bool} (st : StOk K w D H) (r : Vr K D v s) (h : isS T w s = some k) : TyX K H v (.type (tyS w s)) ∧ kitB (tyS w s) T.name = some k := by
  cases s with
  | dat d => cases h; exact ⟨tyx_of st r, kit_is T d⟩
  | scr _ => cases h
  | adr a =>
    have h' : (match w a with | some (.lst _) => some (T == .list) | some (.dic _) => some (T == .dict) | _ => none) = some k := h
    have r' : v = .ref a := r
    subst r'
    obtain ⟨h1, h2, h3, h4, h5, h6, h7⟩ := kit_all T
    show TyX K H _ (.type (match w a with | some (.lst _) => "list" | _ => "dict")) ∧ kitB (match w a with | some (.lst _) => "list" | _ => "dict") T.name = some k
    cases q : w a with
    | none => rw [q] at h'; cases h'
    | some o =>
      rw [q] at h'
      cases o with
      | ins _ _ => cases h'
      | lst xs =>
        cases h'
        obtain ⟨vs, hH, _⟩ := st.own a _ q
        exact ⟨.base (.lst hH), h5⟩
      | dic kvs =>
        cases h'
        obtain ⟨vs, hH, _⟩ := st.own a _ q
        exact ⟨.base (.dK hH), h7⟩
def dIsi (T : Ty6) (te : DTE) : DTE := fun ρ w R => te ρ w fun s w1 => ∃ k, isS T w1 s = some k ∧ R (.dat (.bool k)) w1
theorem de_isi (T : Ty6) {tn : Str} {p1 p2 : Pos} (he : DE X W Z e te) (hg : Gl X "isinstance") (hm : X.mg "isinstance" = none) (hgT : Gl X tn) (hmT : X.mg tn = none) (hT : bootBuiltins tn = some (.type T.name)) (hn : tn ≠ "__name__" := by decide) (hd : (tn == ("__debug__" : Str)) = false := by decide)
    (hs : starEach [e, .Name tn p2] X.env = (false, eval e X.env) :: starEach [.Name tn p2] X.env := by rfl) (hpl : (backTo pos (starEach [.Name tn p2] X.env)).any (·.1) = false := by rfl) :
    DE X W Z (.Call (.Name "isinstance" p1) [e, .Name tn p2] [] pos) (dIsi T te) :=
  pe_weak (pe_callB call_isi hg hm (by decide +kernel) (pa_cons he (pa_cons (pe_bltn (v := .ty T.name) hgT hmT hT rfl hn hd) pa_nil) hs) (by decide) (by decide) hs hpl) fun σ H Q ⟨ρ, w, D, R, rp, xo, h, f⟩ => ⟨ρ, w, D, _, rp, xo, h, fun s w1 v D1 H1 h1 g1 s1 r1 => by
    obtain ⟨k, hk, h1⟩ := h1
    obtain ⟨ty, kb⟩ := isS_ok s1 r1 hk
    exact ⟨v, .ty T.name, .type (tyS w1 s), .type T.name, k, rfl, .ty _, ty, kit_ty kb, (f.next g1).d s1 h1 (.bl k)⟩⟩
/-- isinstance(e, (T, U)) -/
def dIsi2 (T U : Ty6) (te : DTE) : DTE := fun ρ w R => te ρ w fun s w1 => ∃ k k', isS T w1 s = some k ∧ isS U w1 s = some k' ∧ R (.dat (.bool (k || k'))) w1
theorem de_isi2 (T U : Ty6) {tn un : Str} {p1 p2 p3 p4 : Pos} {kk : Nat} (he : DE X W Z e te) (hg : Gl X "isinstance") (hm : X.mg "isinstance" = none) (hgT : Gl X tn) (hmT : X.mg tn = none) (hT : bootBuiltins tn = some (.type T.name)) (hgU : Gl X un) (hmU : X.mg un = none) (hU : bootBuiltins un = some (.type U.name))
    (hn : tn ≠ "__name__" := by decide) (hd : (tn == ("__debug__" : Str)) = false := by decide) (hn' : un ≠ "__name__" := by decide) (hd' : (un == ("__debug__" : Str)) = false := by decide)
    (hs : starEach [e, .Tuple [.Name tn p2, .Name un p3] kk p4] X.env = (false, eval e X.env) :: starEach [.Tuple [.Name tn p2, .Name un p3] kk p4] X.env := by rfl) (hpl : (backTo pos (starEach [.Tuple [.Name tn p2, .Name un p3] kk p4] X.env)).any (·.1) = false := by rfl) :
    DE X W Z (.Call (.Name "isinstance" p1) [e, .Tuple [.Name tn p2, .Name un p3] kk p4] [] pos) (dIsi2 T U te) :=
  pe_weak (pe_callB call_isiT hg hm (by decide +kernel) (pa_cons he (pa_cons (pe_tup (pa_cons (pe_bltn (v := .ty T.name) hgT hmT hT rfl hn hd) (pa_cons (pe_bltn (v := .ty U.name) hgU hmU hU rfl hn' hd') pa_nil))) pa_nil) hs) (by decide) (by decide) hs hpl)
    fun σ H Q ⟨ρ, w, D, R, rp, xo, h, f⟩ => ⟨ρ, w, D, _, rp, xo, h, fun s w1 v D1 H1 h1 g1 s1 r1 => ⟨by show 2 ≤ sizeLine; decide, fun q hq => by
      obtain ⟨k, k', hk, hk', h1⟩ := h1
      have s2 : StOk X.K w1 D1 (upd H1 q (.tup [.ty T.name, .ty U.name])) := s1.junk (s1.freeW hq) (s1.freeD hq)
      have g2 : Gr w1 D1 H1 w1 D1 (upd H1 q (.tup [.ty T.name, .ty U.name])) := (Gr.refl w1 D1 H1).junk hq
      obtain ⟨ty, kb⟩ := isS_ok s2 r1 hk
      obtain ⟨_, kb'⟩ := isS_ok s2 r1 hk'
      exact ⟨v, q, [.ty T.name, .ty U.name], .type (tyS w1 s), [.type T.name, .type U.name], k || k', rfl, upd_same, .cons (.ty _) (.cons (.ty _) .nil), ty, kitAny_cons (kit_ty kb) (fun hf => by
        rw [hf, Bool.false_or]
        exact kitAny_cons (kit_ty kb') (fun h0 => by rw [h0]; exact kitAny_nil) (fun ht => ht)) (fun ht => by rw [ht, Bool.true_or]), ((f.next g1).next g2).d s2 h1 (.bl _)⟩⟩⟩
end
end DL

set_option Elab.async false
set_option linter.all false
set_option maxRecDepth 100000
set_option maxHeartbeats 4000000
namespace DL
open PySem PySem.Spec PyProof.Rows L2
/-! ### defs by contracts: c ss w R tells what is asked of the arguments ss and the store w so that the def hands back an r, leaving w', of which R r w' holds -/
abbrev Ct := List Sl → Om → DQ → Prop
def spN (K : PySem.W.Frag) (c : Ct) : Sp := fun vs H Q _ => ∃ ss w D R, SlA K D vs ss ∧ StOk K w D H ∧ c ss w R ∧ Fin K w D H R Q
/-- .. one that may raise: Y tells what is wanted of the exception -/
abbrev CtX := List Sl → Om → DQ → (Addr → Option (List (Str × Sl)) → Om → Prop) → Prop
def spX (K : PySem.W.Frag) (c : CtX) : Sp := fun vs H Q E => ∃ ss w D R Y, SlA K D vs ss ∧ StOk K w D H ∧ c ss w R Y ∧ Fin K w D H R Q ∧ ∀ C x w' D' H' d, Y C x w' → Gr w D H w' D' H' → StOk K w' D' H' → XR K D' H' d x → E (.ref C) d H'
def startD (N : List Str) (ss : List Sl) : DEnv := ss.map some ++ List.replicate (N.length - ss.length) none
theorem rp_start {K : PySem.W.Frag} {N : List Str} {vs : List V} {ss : List Sl} {w : Om} {D H : Hp} (h : SlA K D vs ss) (st : StOk K w D H) : Rp K (L2.start N vs) (startD N ss) w D H := by
  have hl := Paired.length h
  refine ⟨st, by simp [startD, L2.start, hl], fun i s e => ?_⟩
  unfold startD at e
  unfold L2.start
  by_cases hi : i < ss.length
  · rw [List.getElem?_append_left (by simpa using hi), List.getElem?_map] at e
    rw [List.getElem?_append_left (by simpa [hl] using hi), List.getElem?_map]
    cases q : ss[i]? with
    | none => rw [q] at e; cases e
    | some s' =>
      rw [q] at e
      cases e
      obtain ⟨v, h1, h2⟩ := SlA.get h q
      exact ⟨v, by rw [h1]; rfl, h2⟩
  · rw [List.getElem?_append_right (by simpa using hi)] at e
    rw [List.getElem?_replicate] at e
    split at e <;> cases e
/-- the ends of a def's body: the store may be left smaller -/
def endsN (R : DQ) : DEnds := { nx := fun _ w => ∃ u, Sub u w ∧ R (.dat .none) u, rt := fun s w => ∃ u, Sub u w ∧ R s u }
theorem endsN_ok {K : PySem.W.Frag} {w : Om} {D H : Hp} {R : DQ} {Q : VK} (f : Fin K w D H R Q) : EndsOk K w D H (endsN R) { nx := fun _ H' => Q .non H', rt := Q } where
  nx := fun ρ' w' σ' D' H' ⟨u, su, h⟩ g r => f (.dat .none) u .non D' H' h (g.sub su) (r.st.sub su) .non
  rt := fun s w' z D' H' ⟨u, su, h⟩ g st r => f s u z D' H' h (g.sub su) (st.sub su) r
  bk := fun _ _ _ _ _ h => h.elim
  ct := fun _ _ _ _ _ h => h.elim
section
variable {P : Program} {wd : World} {K : PySem.W.Frag} {mg : Str → Option Value} {base : Heap}
abbrev WT : WX := fun _ _ _ _ => True
abbrev ZT : DX := fun _ _ _ _ => True
theorem xok_T {w : Om} {D H : Hp} : XOk K WT ZT w D H := fun _ _ _ _ _ _ _ _ _ _ _ _ => trivial
/-- THE RULE for a def that raises nothing -/
theorem Fun.okD {x qual : Str} {st : Stmt} {f : Addr} {fd : FuncData} {N ps : List Str} {k : Nat} {c : Ct} {tb : DTS} (F : L2.Fun K x qual st f fd) (S : FnScope N ps (defScope st)) (len : ∀ ss w R, c ss w R → ss.length = ps.length)
    (hb : ∀ (cdv : Value) (A : Around) (outer : List Env) (s : Shared) (H : Hp) (E : XK), Room k (A.deeper (envOfC qual (defScope st) s.heap.objs.size f cdv)) → DB (cxOf CX0 P wd K mg base N qual (defScope st) f cdv A outer s H E).nox WT ZT (defBody st) tb)
    (rd : ∀ ss w R, c ss w R → tb (endsN R) (startD N ss) w) : FnOk P wd K mg base CX0 (k + 1) f fd ps (spN K c) := by
  refine L2.Fun.ok F S (fun vs H Q E h => ?_) (fun cdv A outer s H vs Q E hr h => ?_)
  · obtain ⟨ss, w, D, R, hs, _, hc, _⟩ := h
    rw [Paired.length hs]
    exact len ss w R hc
  · obtain ⟨ss, w, D, R, hs, so, hc, fi⟩ := h
    exact ⟨_, hb cdv A outer s H E hr, startD N ss, w, D, endsN R, rp_start hs so, xok_T, rd ss w R hc, endsN_ok fi⟩
end
section
variable {X : Cx} {W : WX} {Z : DX} {e : Expr} {es : List Expr} {tr : DTA} {pos p : Pos}
/-- a call of a def that raises nothing -/
def dCall (c : Ct) (dss : List Sl) (ta : DTA) : DTE := fun ρ w R => ta ρ w fun ss w1 => c (ss ++ dss) w1 R
variable {k : Nat} {f : Addr} {fd : FuncData} {ps : List Str} {c : Ct} {x : Str} {ds : List Value} {dvs : List V} {dss : List Sl}
theorem de_call (F : FnOk X.prog X.w X.K X.mg X.base CX0 k f fd ps (spN X.K c)) (hr : Room k X.A) (hg : Gl X x) (hm : X.mg x = some (.ref f)) (hk : PySem.W.keepIn X.K (.ref f) = true) (hb : Binds X.K fd ps ds) (hd : Vals dvs ds) (hds : ∀ D, SlA X.K D dvs dss) (ha : DA X W Z (e :: es) tr)
    (hdb : (x == ("__debug__" : Str)) = false := by decide) (hs : starEach (e :: es) X.env = (false, eval e X.env) :: starEach es X.env := by rfl) (hpl : (backTo pos (starEach es X.env)).any (·.1) = false := by rfl) :
    DE X W Z (.Call (.Name x p) (e :: es) [] pos) (dCall c dss tr) :=
  pe_weak (pe_call F hr hg hm hk hb hd pass0 ha hdb hs hpl) fun σ H Q ⟨ρ, w, D, R, rp, xo, h, fi⟩ => ⟨ρ, w, D, _, rp, xo, h, fun ss w1 vs D1 H1 h1 g1 s1 rs =>
    ⟨ss ++ dss, w1, D1, R, SlA.append rs (hds D1), s1, h1, fi.next g1⟩⟩
end
/-! ### what is walked -/
abbrev DTI := DEnv → Om → (List Sl → (Om → Prop) → Om → Prop) → Prop
/-- J yields xs, one by one, as long as ok holds of the store -/
structure DWalk (K : PySem.W.Frag) (J : It) (xs : List Sl) (ok : Om → Prop) (D0 : Hp) : Prop where
  goes : ∀ i w D H, i < xs.length → StOk K w D H → Same D0 D → ok w → J.go i H
  stops : ∀ w D H, StOk K w D H → Same D0 D → ok w → J.stop xs.length H
  yields : ∀ i w D H x H', i < xs.length → StOk K w D H → Same D0 D → ok w → J.yld i H x H' → ∃ D' s, Gr w D H w D' H' ∧ StOk K w D' H' ∧ xs[i]? = some s ∧ Vr K D' x s
def upI (K : PySem.W.Frag) (W : WX) (Z : DX) (t : DTI) : TI := fun σ H R => ∃ ρ w D R', Rp K σ ρ w D H ∧ XOk K W Z w D H ∧ t ρ w R' ∧ ∀ xs ok w' D' H' J, R' xs ok w' → Gr w D H w' D' H' → StOk K w' D' H' → DWalk K J xs ok D' → R J H'
abbrev DI (X : Cx) (W : WX) (Z : DX) (tg iter : Expr) (t : DTI) : Prop := PI X tg iter (upI X.K W Z t)
theorem pi_weak {X : Cx} {tg e : Expr} {t t' : TI} (h : PI X tg e t) (i : ∀ σ H R, t' σ H R → t σ H R) : PI X tg e t' := ⟨fun pins s σ H R I q => h.run pins s σ H R I (i σ H R q)⟩
section
variable {X : Cx} {W : WX} {Z : DX} {K : PySem.W.Frag} {e tge : Expr} {te : DTE} {ta : DTA} {pos p : Pos}
/-- over a walk whose items are there already -/
theorem dwalk_at {J : It} {vs : List V} {xs : List Sl} {ok : Om → Prop} {D0 : Hp} {G : Hp → Prop} (wk : Walk J vs.length G (YAt vs)) (hv : SlA K D0 vs xs) (hG : ∀ w D H, StOk K w D H → Same D0 D → ok w → G H) : DWalk K J xs ok D0 := by
  have hl : vs.length = xs.length := Paired.length hv
  refine ⟨fun i w D H hi st sd o => wk.goes i H (by omega) (hG w D H st sd o), fun w D H st sd o => by rw [← hl]; exact wk.stops H (hG w D H st sd o), fun i w D H x H' hi st sd o y => ?_⟩
  obtain ⟨rfl, hx⟩ := wk.yields i H x H' (by omega) (hG w D H st sd o) y
  obtain ⟨s, hs⟩ : ∃ s, xs[i]? = some s := ⟨xs[i], List.getElem?_eq_getElem hi⟩
  obtain ⟨v, h1, h2⟩ := SlA.get hv hs
  rw [hx] at h1
  cases h1
  exact ⟨D, s, Gr.refl _ _ _, st, hs, h2.mono sd⟩
/-- a list or a tuple: one of the store must stand still -/
def okOf (w : Om) : Sl → List Sl → Om → Prop
  | .adr a, xs => fun w' => w' a = some (.lst xs)
  | _, _ => fun _ => True
def dSeqI (te : DTE) : DTI := fun ρ w R => te ρ w fun s w1 => ∃ xs, sq w1 s = some xs ∧ R xs (okOf w1 s xs) w1
theorem pi_or {tg e : Expr} {t t' : TI} (h : PI X tg e t) (h' : PI X tg e t') : PI X tg e (fun σ H R => t σ H R ∨ t' σ H R) := ⟨fun pins s σ H R I q => q.elim (fun q => h.run pins s σ H R I q) (fun q => h'.run pins s σ H R I q)⟩
def iSeq (K : PySem.W.Frag) (te : TE) : TI := fun σ H R => te σ H fun x H1 => ∃ a, x = .ref a ∧ (((∃ xs, SqL K H1 a xs) ∧ R (Itl K a) H1) ∨ ((∃ xs, SqT K H1 a xs) ∧ R (Itt K a) H1))
theorem pi_seq {te : TE} (he : PE X e te) : PI X tge e (iSeq X.K te) := by
  refine ⟨fun pins s σ H R I h => ?_⟩
  refine thn (he.run pins s σ H _ I h) fun u s1 ⟨x, H1, I1, rx, a, ex, q⟩ => ?_
  subst ex
  cases rx
  rcases q with ⟨⟨xs, hx⟩, q⟩ | ⟨⟨xs, hx⟩, q⟩
  · obtain ⟨its, _, pl, _⟩ := I1.list hx
    exact wpAny_pyIter_list pl.isList (pi_one (tk := s1.toks) I1 _ (turn_list a _) ⟨_, Heap.get?_push_size _ rfl, rfl, rfl⟩ q)
  · obtain ⟨its, _, pl, _⟩ := I1.tuple hx
    exact wpAny_pyIter_tuple (show s1.heap.IsTuple a its.toArray from pl) (pi_one (tk := s1.toks) I1 _ (turn_tuple a _) ⟨_, Heap.get?_push_size _ rfl, rfl, rfl⟩ q)
theorem seq_walk {w : Om} {D H : Hp} {s : Sl} {z : V} {xs : List Sl} (st : StOk K w D H) (r : Vr K D z s) (h : sq w s = some xs) :
    ∃ a, z = .ref a ∧ (((∃ vs, SqL K H a vs) ∧ DWalk K (Itl K a) xs (okOf w s xs) D) ∨ ((∃ vs, SqT K H a vs) ∧ DWalk K (Itt K a) xs (okOf w s xs) D)) := by
  cases s with
  | scr ns =>
    cases h
    obtain ⟨a, rfl, q⟩ := r
    exact ⟨a, rfl, .inl ⟨⟨_, Same.seq st.dh q⟩, dwalk_at walk_list (ints_sl ns) fun w' D' H' st' sd _ => Same.seq (sd.trans st'.dh) q⟩⟩
  | adr a =>
    have hw := adr_inv h
    obtain ⟨vs, hH, hv⟩ := st.own a _ hw
    have r' : z = .ref a := r
    subst r'
    refine ⟨a, rfl, .inl ⟨⟨vs, SqL.of hH⟩, ?_⟩⟩
    -- the list's own values may be other ones that say the same
    refine ⟨fun i w' D' H' hi st' sd o => ?_, fun w' D' H' st' sd o => ?_, fun i w' D' H' x H2 hi st' sd o y => ?_⟩
    · obtain ⟨us, hU, hu⟩ := st'.own a _ o
      exact walk_list.goes i H' (by rw [Paired.length hu]; exact hi) (SqL.of (xs := us) hU)
    · obtain ⟨us, hU, hu⟩ := st'.own a _ o
      have := (walk_list (K := K) (a := a) (xs := us)).stops H' (SqL.of hU)
      rw [Paired.length hu] at this
      exact this
    · obtain ⟨us, hU, hu⟩ := st'.own a _ o
      obtain ⟨rfl, hx⟩ := (walk_list (K := K) (a := a) (xs := us)).yields i H' x H2 (by rw [Paired.length hu]; exact hi) (SqL.of hU) y
      obtain ⟨s, hs⟩ : ∃ s, xs[i]? = some s := ⟨xs[i], List.getElem?_eq_getElem hi⟩
      obtain ⟨v, h1, h2⟩ := SlA.get hu hs
      rw [hx] at h1
      cases h1
      exact ⟨D', s, Gr.refl _ _ _, st', hs, h2⟩
  | dat d =>
    cases d with
    | list ds =>
      cases h
      cases r with
      | lst hD hs => exact ⟨_, rfl, .inl ⟨⟨_, SqL.of (st.dh _ _ hD)⟩, dwalk_at walk_list hs.sl fun w' D' H' st' sd _ => SqL.of (st'.dh _ _ (sd _ _ hD))⟩⟩
    | tuple ds =>
      cases h
      cases r with
      | tup hD hs => exact ⟨_, rfl, .inr ⟨⟨_, sqT_mono st.dh hD⟩, dwalk_at walk_tup hs.sl fun w' D' H' st' sd _ => sqT_mono (sd.trans st'.dh) hD⟩⟩
    | none => cases h
    | bool _ => cases h
    | int _ => cases h
    | str _ => cases h
    | dict _ => cases h
theorem di_seq (he : DE X W Z e te) : DI X W Z tge e (dSeqI te) :=
  pi_weak (pi_seq he) fun σ H R ⟨ρ, w, D, R', rp, xo, h, f⟩ => ⟨ρ, w, D, _, rp, xo, h, fun s w1 z D1 H1 h1 g1 s1 r1 => by
    obtain ⟨xs, e, h1⟩ := h1
    obtain ⟨a, rfl, q⟩ := seq_walk s1 r1 e
    rcases q with ⟨q1, q2⟩ | ⟨q1, q2⟩
    · exact ⟨a, rfl, .inl ⟨q1, f xs _ w1 D1 H1 _ h1 g1 s1 q2⟩⟩
    · exact ⟨a, rfl, .inr ⟨q1, f xs _ w1 D1 H1 _ h1 g1 s1 q2⟩⟩⟩
/-- a text, sign by sign -/
def signs (z : Str) : List Sl := z.cps.toList.map fun c => .dat (.str ⟨#[c]⟩)
def dStrI (te : DTE) : DTI := fun ρ w R => te ρ w fun s w1 => ∃ z, s = .dat (.str z) ∧ R (signs z) (fun _ => True) w1
theorem di_str (he : DE X W Z e te) : DI X W Z tge e (dStrI te) :=
  pi_weak (pi_str he) fun σ H R ⟨ρ, w, D, R', rp, xo, h, f⟩ => ⟨ρ, w, D, _, rp, xo, h, fun s w1 v D1 H1 h1 g1 s1 r1 => by
    obtain ⟨z, rfl, h1⟩ := h1
    refine ⟨z, dr_str r1, f _ _ w1 D1 H1 _ h1 g1 s1 ?_⟩
    have hl : (signs z).length = z.cps.size := by simp [signs]
    refine ⟨fun i w' D' H' hi _ _ _ => walk_str.goes i H' (by omega) trivial, fun w' D' H' _ _ _ => by rw [hl]; exact walk_str.stops H' trivial, fun i w' D' H' x H2 hi st' sd o y => ?_⟩
    obtain ⟨rfl, c, hc, rfl⟩ := (walk_str (z := z)).yields i H' x H2 (by omega) trivial y
    exact ⟨D', .dat (.str ⟨#[c]⟩), Gr.refl _ _ _, st', by unfold signs; rw [List.getElem?_map, Array.getElem?_toList, hc]; rfl, .str _⟩⟩
/-- range(n), range(a, b) -/
def irange (lo : Int) (n : Nat) : List Sl := (List.range n).map fun i => .dat (.int (lo + (i : Nat)))
theorem dwalk_range {lo : Int} {n : Nat} {D : Hp} : DWalk K (Itr lo n) (irange lo n) (fun _ => True) D := by
  have hl : (irange lo n).length = n := by simp [irange]
  refine ⟨fun i w' D' H' hi _ _ _ => walk_range.goes i H' (by omega) trivial, fun w' D' H' _ _ _ => by rw [hl]; exact walk_range.stops H' trivial, fun i w' D' H' x H2 hi st' sd o y => ?_⟩
  obtain ⟨rfl, rfl⟩ := (walk_range (lo := lo) (n := n)).yields i H' x H2 (by omega) trivial y
  exact ⟨D', .dat (.int (lo + (i : Nat))), Gr.refl _ _ _, st', by unfold irange; rw [List.getElem?_map, List.getElem?_range (by omega)]; rfl, .int _⟩
def dRng1 (ta : DTA) : DTI := fun ρ w R => ta ρ w fun ss w1 => ∃ j : Int, ss = [.dat (.int j)] ∧ -(2 ^ 62) ≤ j ∧ j < 2 ^ 62 ∧ R (irange 0 j.toNat) (fun _ => True) w1
theorem di_range1 {a : Expr} (hg : Gl X "range") (hm : X.mg "range" = none) (ha : DA X W Z [a] ta) (hs : starEach [a] X.env = [(false, eval a X.env)] := by rfl) : DI X W Z tge (.Call (.Name "range" p) [a] [] pos) (dRng1 ta) :=
  pi_weak (pi_range1 hg hm ha hs) fun σ H R ⟨ρ, w, D, R', rp, xo, h, f⟩ => ⟨ρ, w, D, _, rp, xo, h, fun ss w1 vs D1 H1 h1 g1 s1 rs => by
    obtain ⟨j, rfl, h2, h3, h1⟩ := h1
    obtain ⟨v, rfl, r⟩ := sla1 rs
    cases dr_int r
    exact ⟨j, rfl, h2, h3, f _ _ w1 D1 H1 _ h1 g1 s1 dwalk_range⟩⟩
def dRng2 (ta : DTA) : DTI := fun ρ w R => ta ρ w fun ss w1 => ∃ i j : Int, ss = [.dat (.int i), .dat (.int j)] ∧ (-(2 ^ 62) ≤ i ∧ i < 2 ^ 62 ∧ -(2 ^ 62) ≤ j ∧ j < 2 ^ 62) ∧ R (irange i (j - i).toNat) (fun _ => True) w1
theorem di_range2 {a b : Expr} (hg : Gl X "range") (hm : X.mg "range" = none) (ha : DA X W Z [a, b] ta) (hs : starEach [a, b] X.env = [(false, eval a X.env), (false, eval b X.env)] := by rfl) (hs2 : starEach [b] X.env = [(false, eval b X.env)] := by rfl) : DI X W Z tge (.Call (.Name "range" p) [a, b] [] pos) (dRng2 ta) :=
  pi_weak (pi_range2 hg hm ha hs hs2) fun σ H R ⟨ρ, w, D, R', rp, xo, h, f⟩ => ⟨ρ, w, D, _, rp, xo, h, fun ss w1 vs D1 H1 h1 g1 s1 rs => by
    obtain ⟨i, j, rfl, h2, h1⟩ := h1
    obtain ⟨v, v', rfl, r, r'⟩ := sla2 rs
    cases dr_int r; cases dr_int r'
    exact ⟨i, j, rfl, h2, f _ _ w1 D1 H1 _ h1 g1 s1 dwalk_range⟩⟩
/-! ### for -/
def dLoop (ok : Om → Prop) (g : DTG) (tb : DTS) (F : DEnds) : List Sl → DEnv → Om → Prop
  | [] => fun ρ w => ok w ∧ F.nx ρ w
  | x :: xs => fun ρ w => ok w ∧ g x ρ w fun ρ' w' => tb { F with nx := dLoop ok g tb F xs, ct := dLoop ok g tb F xs, bk := F.nx } ρ' w'
def dFor (wi : DTI) (g : DTG) (tb : DTS) : DTS := fun F ρ w => wi ρ w fun xs ok w1 => dLoop ok g tb F xs ρ w1
theorem ds_for {tg iter : Expr} {body : List Stmt} {wi : DTI} {g : DTG} {tb : DTS} (hp : PassesOwn (model X.prog X.w) X.A X.env X.xe) (hc : X.calm = true) (hi : DI X W Z tg iter wi) (hg : DG X W Z tg g) (hb : DB X W Z body tb)
    (hs : ∀ x, foldedSetIterable iter X.env x = pure x := by intro _; rfl) : DS X W Z (.For tg iter body [] pos) (dFor wi g tb) :=
  ps_weak (ps_for hp hc hi hg hb hs) fun E σ H ⟨ρ, w, D, F, rp, xo, h, eo⟩ => ⟨ρ, w, D, _, rp, xo, h, fun xs ok w1 D1 H1 J h1 g1 s1 wk => by
    refine ⟨fun i m σ' H' => m = xs.length - i ∧ i ≤ xs.length ∧ ∃ ρ' w' D', Rp X.K σ' ρ' w' D' H' ∧ Gr w D H w' D' H' ∧ Same D1 D' ∧ dLoop ok g tb F (xs.drop i) ρ' w', ⟨xs.length, by simp, Nat.zero_le _, ρ, w1, D1, rp.next g1.dd s1, g1, Same.refl _, by rw [List.drop_zero]; exact h1⟩, ?_⟩
    rintro i m σ' H' ⟨rfl, hi, ρ', w', D', rp', g', sd, hl⟩
    by_cases hlt : i < xs.length
    · rw [List.drop_eq_getElem_cons hlt] at hl
      obtain ⟨ho, hl⟩ := hl
      refine .inr ⟨wk.goes i w' D' H' hlt rp'.st sd ho, fun σ2 H2 => ∃ ρ2 w2 D2, Rp X.K σ2 ρ2 w2 D2 H2 ∧ Gr w D H w2 D2 H2 ∧ Same D1 D2 ∧ dLoop ok g tb F (xs.drop (i + 1)) ρ2 w2, fun σ2 H2 ⟨ρ2, w2, D2, r2, g2, sd2, h2⟩ => ⟨xs.length - (i + 1), by omega, rfl, hlt, ρ2, w2, D2, r2, g2, sd2, h2⟩, fun x H2 y => ?_⟩
      obtain ⟨D2, s, g2, st2, hs, r2⟩ := wk.yields i w' D' H' x H2 hlt rp'.st sd ho y
      have es : s = xs[i] := by
        rw [List.getElem?_eq_getElem hlt] at hs
        exact (Option.some.inj hs).symm
      subst es
      refine ⟨xs[i], ρ', w', D2, _, rp'.next g2.dd st2, xo.next (g'.trans g2), r2, hl, fun ρ3 w3 σ3 D3 H3 h3 g3 r3 => ?_⟩
      have gg := (g'.trans g2).trans g3
      have sdd := (sd.trans g2.dd).trans g3.dd
      refine ⟨ρ3, w3, D3, _, r3, xo.next gg, h3, ?_, (eo.next gg).rt, (eo.next gg).nx, ?_⟩
      · exact fun ρ4 w4 σ4 D4 H4 h4 g4 r4 => ⟨ρ4, w4, D4, r4, gg.trans g4, sdd.trans g4.dd, h4⟩
      · exact fun ρ4 w4 σ4 D4 H4 h4 g4 r4 => ⟨ρ4, w4, D4, r4, gg.trans g4, sdd.trans g4.dd, h4⟩
    · have e : i = xs.length := by omega
      subst e
      rw [List.drop_length] at hl
      exact .inl ⟨wk.stops w' D' H' rp'.st sd hl.1, eo.nx ρ' w' σ' D' H' hl.2 g' rp'⟩⟩
/-- a loop by its invariant -/
theorem loop_inv {ok : Om → Prop} {g : DTG} {tb : DTS} {F : DEnds} {xs : List Sl} {ρ : DEnv} {w : Om} (I : List Sl → DEnv → Om → Prop) (h0 : I xs ρ w) (hok : ∀ r ρ w, I r ρ w → ok w)
    (hs : ∀ x r ρ w, I (x :: r) ρ w → (∀ ρ' w', I r ρ' w' → dLoop ok g tb F r ρ' w') → g x ρ w fun ρ' w' => tb { F with nx := dLoop ok g tb F r, ct := dLoop ok g tb F r, bk := F.nx } ρ' w') (hd : ∀ ρ w, I [] ρ w → F.nx ρ w) : dLoop ok g tb F xs ρ w := by
  induction xs generalizing ρ w with
  | nil => exact ⟨hok _ _ _ h0, hd ρ w h0⟩
  | cons x r ih => exact ⟨hok _ _ _ h0, hs x r ρ w h0 fun ρ' w' h => ih h⟩
/-! ### while -/
def dWhile (c : DTT) (tb : DTS) : DTS := fun F ρ w => ∃ I : Nat → DEnv → Om → Prop, (∃ m, I m ρ w) ∧ ∀ m ρ w, I m ρ w →
  c ρ w fun b w1 => if b = true then tb { F with nx := fun ρ' w' => ∃ m', m' < m ∧ I m' ρ' w', ct := fun ρ' w' => ∃ m', m' < m ∧ I m' ρ' w', bk := F.nx } ρ w1 else F.nx ρ w1
theorem ds_while {c : Expr} {body : List Stmt} {tc : DTT} {tb : DTS} (hp : PassesOwn (model X.prog X.w) X.A X.env X.xe) (hc : DT X W Z c tc) (hb : DB X W Z body tb) : DS X W Z (.While c body [] pos) (dWhile tc tb) :=
  ps_weak (ps_while hp hc hb) fun E σ H ⟨ρ, w, D, F, rp, xo, ⟨I, ⟨m0, h0⟩, h⟩, eo⟩ => by
    refine ⟨fun m σ' H' => ∃ ρ' w' D', Rp X.K σ' ρ' w' D' H' ∧ Gr w D H w' D' H' ∧ I m ρ' w', ⟨m0, ρ, w, D, rp, Gr.refl _ _ _, h0⟩, ?_⟩
    rintro m σ' H' ⟨ρ', w', D', rp', g', hI⟩
    refine ⟨ρ', w', D', _, rp', xo.next g', h m ρ' w' hI, fun b w2 D2 H2 h2 g2 s2 => ?_⟩
    have gg := g'.trans g2
    have rp2 := rp'.next g2.dd s2
    cases b with
    | false =>
      rw [if_neg Bool.false_ne_true] at h2
      exact iteF (eo.nx ρ' w2 σ' D2 H2 h2 gg rp2)
    | true =>
      rw [if_pos rfl] at h2
      refine iteT ?_
      refine ⟨fun σ3 H3 => ∃ m', m' < m ∧ ∃ ρ3 w3 D3, Rp X.K σ3 ρ3 w3 D3 H3 ∧ Gr w D H w3 D3 H3 ∧ I m' ρ3 w3, fun σ3 H3 q => q, ρ', w2, D2, _, rp2, xo.next gg, h2, ?_, (eo.next gg).rt, (eo.next gg).nx, ?_⟩
      · exact fun ρ4 w4 σ4 D4 H4 ⟨m', hm, h4⟩ g4 r4 => ⟨m', hm, ρ4, w4, D4, r4, gg.trans g4, h4⟩
      · exact fun ρ4 w4 σ4 D4 H4 ⟨m', hm, h4⟩ g4 r4 => ⟨m', hm, ρ4, w4, D4, r4, gg.trans g4, h4⟩
end
end DL

set_option Elab.async false
set_option linter.all false
set_option maxRecDepth 100000
set_option maxHeartbeats 4000000
namespace DL
open PySem PySem.Spec PyProof.Rows L2
/-! ### targets of a comprehension: they touch the block's own slots alone -/
def wipeD (ρ : DEnv) : List Nat → DEnv
  | [] => ρ
  | v :: vs => (wipeD ρ vs).set v none
theorem wipeD_length (ρ : DEnv) : ∀ vs : List Nat, (wipeD ρ vs).length = ρ.length
  | [] => rfl
  | v :: vs => by unfold wipeD; rw [List.length_set, wipeD_length ρ vs]
theorem wipe_at {σ : L2.St} {i : Nat} : ∀ {vs : List Nat}, i ∈ vs → (wipe σ vs)[i]? = if i < σ.length then some none else none
  | v :: vs, h => by
    unfold wipe
    by_cases e : v = i
    · subst e
      by_cases hl : v < σ.length
      · rw [List.getElem?_set_self (by rw [wipe_length]; exact hl), if_pos hl]
      · rw [List.getElem?_eq_none (by rw [List.length_set, wipe_length]; omega), if_neg hl]
    · rw [List.getElem?_set_ne e]
      exact wipe_at ((List.mem_cons.mp h).resolve_left fun z => e z.symm)
theorem wipe_set {σ : L2.St} {i : Nat} {x : Option V} {vs : List Nat} (h : i ∈ vs) : wipe (σ.set i x) vs = wipe σ vs := by
  apply List.ext_getElem?
  intro j
  by_cases hj : j ∈ vs
  · rw [wipe_at hj, wipe_at hj, List.length_set]
  · rw [wipe_out hj, wipe_out hj, List.getElem?_set_ne (fun e => hj (by rw [← e]; exact h))]
theorem wipe_wipe {σ : L2.St} {vs : List Nat} : wipe (wipe σ vs) vs = wipe σ vs := by
  apply List.ext_getElem?
  intro j
  by_cases hj : j ∈ vs
  · rw [wipe_at hj, wipe_at hj, wipe_length]
  · rw [wipe_out hj, wipe_out hj]
theorem Rp.wipe {K : PySem.W.Frag} {σ : L2.St} {ρ : DEnv} {w : Om} {D H : Hp} (r : Rp K σ ρ w D H) : ∀ vs : List Nat, Rp K (L2.wipe σ vs) (wipeD ρ vs) w D H
  | [] => r
  | v :: vs => by
    have ih := Rp.wipe r vs
    refine ⟨ih.st, by unfold wipeD L2.wipe; rw [List.length_set, List.length_set]; exact ih.len, fun i s e => ?_⟩
    unfold wipeD at e
    unfold L2.wipe
    by_cases z : v = i
    · subst z
      by_cases hl : v < (wipeD ρ vs).length
      · rw [List.getElem?_set_self hl] at e; cases e
      · rw [List.getElem?_eq_none (by rw [List.length_set]; omega)] at e; cases e
    · rw [List.getElem?_set_ne z] at e ⊢
      exact ih.slot i s e
def NxV (K : PySem.W.Frag) (vs : List Nat) (σ : L2.St) (w : Om) (D H : Hp) (f : DEnv → Om → Prop) (q : L2.St → Hp → Prop) : Prop := ∀ ρ' w' σ' D' H', f ρ' w' → Gr w D H w' D' H' → Rp K σ' ρ' w' D' H' → wipe σ' vs = wipe σ vs → q σ' H'
def upV (K : PySem.W.Frag) (W : WX) (Z : DX) (vs : List Nat) (g : DTG) : TG := fun v σ H Q => ∃ s ρ w D R, Rp K σ ρ w D H ∧ XOk K W Z w D H ∧ Vr K D v s ∧ g s ρ w R ∧ NxV K vs σ w D H R Q
def upVs (K : PySem.W.Frag) (W : WX) (Z : DX) (vs : List Nat) (g : DTGs) : TGs := fun us σ H Q => ∃ ss ρ w D R, Rp K σ ρ w D H ∧ XOk K W Z w D H ∧ SlA K D us ss ∧ g ss ρ w R ∧ NxV K vs σ w D H R Q
abbrev DV (X : Cx) (W : WX) (Z : DX) (vs : List Nat) (e : Expr) (g : DTG) : Prop := PG X e (upV X.K W Z vs g)
abbrev DVs (X : Cx) (W : WX) (Z : DX) (vs : List Nat) (es : List Expr) (g : DTGs) : Prop := PGs X es (upVs X.K W Z vs g)
section
variable {X : Cx} {W : WX} {Z : DX} {K : PySem.W.Frag} {vs : List Nat} {a e tge : Expr} {te : DTE} {pos : Pos} {es : List Expr} {tg : DTG} {tgs : DTGs}
theorem dvt_name {i : Nat} {x : Str} (hv : i ∈ vs) (hN : X.N.Nodup) (hi : X.N[i]? = some x) (hx : Loc X.env.scope x) (hf : X.fn x = true ∨ X.env.scope.names.lookup x = some .local := by first | exact .inl rfl | exact .inr rfl | assumption) : DV X W Z vs (.Name x pos) (dName i) :=
  pg_weak (pg_name hN hi hx hf) fun v σ H Q ⟨s, ρ, w, D, R, rp, xo, r, h, n⟩ => n _ w _ D H h (Gr.refl _ _ _) (rp.set i r) (wipe_set hv)
theorem dvs_nil : DVs X W Z vs [] dGNil := pgs_weak pgs_nil fun us σ H Q ⟨ss, ρ, w, D, R, rp, xo, r, ⟨h0, h⟩, n⟩ => by
  subst h0
  cases r
  exact ⟨rfl, n ρ w σ D H h (Gr.refl _ _ _) rp rfl⟩
theorem dvs_cons (h1 : DV X W Z vs e tg) (h2 : DVs X W Z vs es tgs) (hs : (assignEach (e :: es) X.env).map (·.2) = assign e X.env :: (assignEach es X.env).map (·.2) := by rfl) : DVs X W Z vs (e :: es) (dGCons tg tgs) :=
  pgs_weak (pgs_cons h1 h2 hs) fun us σ H Q ⟨ss, ρ, w, D, R, rp, xo, r, h, n⟩ => by
    obtain ⟨s, sr, rfl, h⟩ := h
    cases r with
    | cons r0 rr =>
      exact ⟨_, _, rfl, s, ρ, w, D, _, rp, xo, r0, h, fun ρ1 w1 σ1 D1 H1 h1 g1 r1 ew => ⟨sr, ρ1, w1, D1, R, r1, xo.next g1, SlA.mono g1.dd rr, h1, fun ρ2 w2 σ2 D2 H2 h2 g2 r2 ew2 => n ρ2 w2 σ2 D2 H2 h2 (g1.trans g2) r2 (ew2.trans ew)⟩⟩
theorem dvt_tup {k n : Nat} (hc : X.calm = true) (h : DVs X W Z vs es tgs) (hn : (assignEach es X.env).length = n := by rfl) (hst : (assignEach es X.env).findIdx? (·.1) = none := by rfl) : DV X W Z vs (.Tuple es k pos) (dGTup n tgs) :=
  pg_weak (pg_or (pg_lst hc h hn hst) (pg_tup hc h hn hst)) fun v σ H Q ⟨s, ρ, w, D, R, rp, xo, r, ⟨xs, e, hl, h⟩, n⟩ => by
    obtain ⟨p, us, rfl, hq, hv⟩ := sq_ok rp.st r e
    have hlen : us.length = _ := (Paired.length hv).trans hl
    rcases hq with hq | hq
    · exact .inl ⟨p, us, rfl, hq, hlen, xs, ρ, w, D, R, rp, xo, hv, h, n⟩
    · exact .inr ⟨p, us, rfl, hq, hlen, xs, ρ, w, D, R, rp, xo, hv, h, n⟩
/-- the star's own target within a list of targets -/
theorem dgs_starred {p : Pos} (h : DGs X W Z (a :: es) tgs) (e : (assignEach (.Starred a p :: es) X.env).map (·.2) = (assignEach (a :: es) X.env).map (·.2) := by rfl) : DGs X W Z (.Starred a p :: es) tgs :=
  ⟨fun pins s σ H us vs Q I r q => by rw [e]; exact h.run pins s σ H us vs Q I r q⟩
/-! ### list comprehensions -/
def dYes : DTT := fun _ w R => R true w
abbrev DTs (X : Cx) (W : WX) (Z : DX) (ifs : List Expr) (t : DTT) : Prop := PTs X ifs (upT X.K W Z t)
theorem pts_weak {ifs : List Expr} {t t' : TT} (h : PTs X ifs t) (i : ∀ σ H Q, t' σ H Q → t σ H Q) : PTs X ifs t' := ⟨fun pins s σ H Q I q => h.run pins s σ H Q I (i σ H Q q)⟩
theorem dts_nil : DTs X W Z [] dYes := pts_weak pts_nil fun σ H Q ⟨ρ, w, D, R, rp, xo, h, f⟩ => f true w D H h (Gr.refl _ _ _) rp.st
theorem dts_one {c : Expr} {t : DTT} (h : DT X W Z c t) : DTs X W Z [c] t := pts_one h
def dLcL (ok : Om → Prop) (g : DTG) (tt : DTT) (te : DTE) (ρ : DEnv) (k : List Sl → Om → Prop) : List Sl → List Sl → Om → Prop
  | [] => fun acc w => ok w ∧ k acc w
  | x :: xs => fun acc w => ok w ∧ g x ρ w fun ρ2 w2 => tt ρ2 w2 fun b w3 => if b = true then te ρ2 w3 fun y w4 => acc.length < sizeLine ∧ dLcL ok g tt te ρ k xs (acc ++ [y]) w4 else dLcL ok g tt te ρ k xs acc w3
def dLc (wi : DTI) (g : DTG) (tt : DTT) (te : DTE) (vs : List Nat) : DTE := fun ρ w R => wi ρ w fun xs ok w1 => dLcL ok g tt te (wipeD ρ vs) (fun acc w2 => ∀ p, w2 p = none → R (.adr p) (put w2 p (.lst acc))) xs [] w1
theorem up_lc {wi : DTI} {g : DTG} {tt : DTT} {te : DTE} (σ : L2.St) (H : Hp) (Q : VK) (h : up K W Z (dLc wi g tt te vs) σ H Q) : tLc (upI K W Z wi) (upV K W Z vs g) (upT K W Z tt) (up K W Z te) vs σ H Q := by
  obtain ⟨ρ, w, D, R, rp, xo, h, f⟩ := h
  refine ⟨ρ, w, D, _, rp, xo, h, fun xs ok w1 D1 H1 J h1 g1 s1 wk L hL => ?_⟩
  have wL : w1 L = none := s1.freeW hL
  have dL : D1 L = none := s1.freeD hL
  have HL : H L = none := by
    cases e : H L with
    | none => rfl
    | some o => exact absurd hL (g1.dm L (by rw [e]; intro z; cases z))
  refine ⟨fun i m H' => m = xs.length - i ∧ i ≤ xs.length ∧ ∃ w' D' acc vacc, StOk K w' D' H' ∧ Gr w D H w' D' H' ∧ Same D1 D' ∧ w' L = none ∧ D' L = none ∧ H' L = some (.lst vacc) ∧ SlA K D' vacc acc ∧ dLcL ok g tt te (wipeD ρ vs) (fun acc w2 => ∀ p, w2 p = none → R (.adr p) (put w2 p (.lst acc))) (xs.drop i) acc w',
    ⟨xs.length, by simp, Nat.zero_le _, w1, D1, [], [], s1.junk wL dL, g1.junk HL, Same.refl _, wL, dL, upd_same, .nil, by rw [List.drop_zero]; exact h1⟩, ?_⟩
  rintro i m H' ⟨rfl, hi, w', D', acc, vacc, st', g', sd, nw, nd, hl, hv, hq⟩
  by_cases hlt : i < xs.length
  · rw [List.drop_eq_getElem_cons hlt] at hq
    obtain ⟨ho, hq⟩ := hq
    refine .inr ⟨wk.goes i w' D' H' hlt st' sd ho, fun H2 => ∃ w2 D2 acc vacc, StOk K w2 D2 H2 ∧ Gr w D H w2 D2 H2 ∧ Same D1 D2 ∧ w2 L = none ∧ D2 L = none ∧ H2 L = some (.lst vacc) ∧ SlA K D2 vacc acc ∧ dLcL ok g tt te (wipeD ρ vs) (fun acc w2 => ∀ p, w2 p = none → R (.adr p) (put w2 p (.lst acc))) (xs.drop (i + 1)) acc w2,
      fun H2 q => ⟨xs.length - (i + 1), by omega, rfl, hlt, q⟩, fun x H2 y => ?_⟩
    obtain ⟨D2, s, g2, st2, hs, r2⟩ := wk.yields i w' D' H' x H2 hlt st' sd ho y
    have es : s = xs[i] := by
      rw [List.getElem?_eq_getElem hlt] at hs
      exact (Option.some.inj hs).symm
    subst es
    have nn : ∀ {wx : Om} {Dx Hx : Hp}, Gr w' D' H' wx Dx Hx → wx L = none ∧ Dx L = none ∧ Hx L = some (.lst vacc) := fun gx =>
      have hne : H' L ≠ none := by rw [hl]; intro z; cases z
      ⟨gx.nw L hne nw, gx.nd L hne nw nd, gx.fr L _ hl nw⟩
    have rpw : Rp K (L2.wipe σ vs) (wipeD ρ vs) w' D2 H2 := (rp.wipe vs).next (g'.dd.trans g2.dd) st2
    refine ⟨xs[i], wipeD ρ vs, w', D2, _, rpw, xo.next (g'.trans g2), r2, hq, fun ρ3 w3 σ3 D3 H3 h3 g3 r3 ew => ⟨ew.trans wipe_wipe, ?_⟩⟩
    have g23 := g2.trans g3
    refine ⟨ρ3, w3, D3, _, r3, xo.next (g'.trans g23), h3, fun b w4 D4 H4 h4 g4 s4 => ?_⟩
    have g24 := g23.trans g4
    cases b with
    | false =>
      rw [if_neg Bool.false_ne_true] at h4
      obtain ⟨n1, n2, n3⟩ := nn g24
      exact iteF ⟨w4, D4, acc, vacc, s4, g'.trans g24, sd.trans g24.dd, n1, n2, n3, SlA.mono g24.dd hv, h4⟩
    | true =>
      rw [if_pos rfl] at h4
      refine iteT ⟨ρ3, w4, D4, _, r3.next g4.dd s4, xo.next (g'.trans g24), h4, fun y w5 z D5 H5 h5 g5 s5 r5 => ?_⟩
      have g25 := g24.trans g5
      obtain ⟨n1, n2, n3⟩ := nn g25
      have hlen : vacc.length = acc.length := Paired.length hv
      exact ⟨vacc, n3, by rw [hlen]; exact h5.1, w5, D5, acc ++ [y], vacc ++ [z], s5.junk n1 n2, (g'.trans g25).junk HL, sd.trans g25.dd, n1, n2, upd_same, SlA.snoc (SlA.mono g25.dd hv) r5, h5.2⟩
  · have e : i = xs.length := by omega
    subst e
    rw [List.drop_length] at hq
    refine .inl ⟨wk.stops w' D' H' st' sd hq.1, ?_⟩
    have st2 : StOk K (put w' L (.lst acc)) D' H' := by
      refine ⟨st'.dh, fun a o q => ?_, fun a o q => ?_⟩
      · by_cases z : a = L
        · subst z; rw [put_same] at q; cases q; exact ⟨vacc, hl, hv⟩
        · rw [put_ne z] at q; exact st'.own a o q
      · by_cases z : a = L
        · subst z; exact nd
        · rw [put_ne z] at q; exact st'.sep a o q
    have g2 : Gr w D H (put w' L (.lst acc)) D' H' := ⟨g'.dd, g'.fr, fun a q n => by
      have : a ≠ L := fun z => q (by rw [z]; exact HL)
      rw [put_ne this]; exact g'.nw a q n, g'.nd, g'.dm⟩
    exact f (.adr L) _ (.ref L) D' H' (hq.2 L nw) g2 st2 rfl
theorem de_lc {elt tg iter : Expr} {ifs : List Expr} {scope : Scope} {own : List (Str × Nat)} {wi : DTI} {g : DTG} {tt : DTT} {te : DTE} (hc : X.calm = true) (hN : X.N.Nodup) (hi : DI X W Z tg iter wi) (ok : BlkOk X.N X.env.scope scope own)
    (hg : ∀ (s : Shared) (H : Hp) (C : Addr) (cl : List (Str × Addr)) (fp : List Addr), DV (X.blk s H scope (compEnvC scope cl C X.env) fp) W Z (own.map (·.2)) tg g) (ht : ∀ (s : Shared) (H : Hp) (C : Addr) (cl : List (Str × Addr)) (fp : List Addr), DTs (X.blk s H scope (compEnvC scope cl C X.env) fp) W Z ifs tt)
    (he : ∀ (s : Shared) (H : Hp) (C : Addr) (cl : List (Str × Addr)) (fp : List Addr), DE (X.blk s H scope (compEnvC scope cl C X.env) fp) W Z elt te) (hs : ∀ x, foldedSetIterable iter X.env x = pure x := by intro _; rfl) :
    DE X W Z (.ListComp elt [⟨tg, iter, ifs, 0⟩] scope pos) (dLc wi g tt te (own.map (·.2))) := pe_weak (pe_lc hc hN hi ok hg ht he hs) fun σ H Q h => up_lc σ H Q h
theorem ds_setLc {i : Nat} {y : Str} {py spos : Pos} {elt tg iter : Expr} {ifs : List Expr} {scope : Scope} {own : List (Str × Nat)} {wi : DTI} {g : DTG} {tt : DTT} {te : DTE} (hc : X.calm = true) (hN : X.N.Nodup) (hy : X.N[i]? = some y) (hyl : X.env.scope.names.lookup y = some .local)
    (hsw : swapsWith (.ListComp elt [⟨tg, iter, ifs, 0⟩] scope pos) (some (.Name y py)) spos.line X.env = pure true) (hi : DI X W Z tg iter wi) (ok : BlkOk X.N X.env.scope scope own)
    (hg : ∀ (s : Shared) (H : Hp) (C : Addr) (cl : List (Str × Addr)) (fp : List Addr), DV (X.blk s H scope (compEnvC scope cl C X.env) fp) W Z (own.map (·.2)) tg g) (ht : ∀ (s : Shared) (H : Hp) (C : Addr) (cl : List (Str × Addr)) (fp : List Addr), DTs (X.blk s H scope (compEnvC scope cl C X.env) fp) W Z ifs tt)
    (he : ∀ (s : Shared) (H : Hp) (C : Addr) (cl : List (Str × Addr)) (fp : List Addr), DE (X.blk s H scope (compEnvC scope cl C X.env) fp) W Z elt te) (hs : ∀ x, foldedSetIterable iter X.env x = pure x := by intro _; rfl) :
    DS X W Z (.Assign [.Name y py] (.ListComp elt [⟨tg, iter, ifs, 0⟩] scope pos) spos) (dAsg (dLc wi g tt te (own.map (·.2))) (dName i)) :=
  ps_weak (ps_setLc hc hN hy hyl hsw hi ok hg ht he hs) fun E σ H ⟨ρ, w, D, F, rp, xo, h, eo⟩ => up_lc σ H _ ⟨ρ, w, D, _, rp, xo, h, fun s w1 v D1 H1 h1 g1 s1 r1 => eo.nx _ w1 _ D1 H1 h1 g1 ((rp.next g1.dd s1).set i r1)⟩
end
end DL

set_option Elab.async false
set_option linter.all false
set_option maxRecDepth 100000
set_option maxHeartbeats 4000000
namespace DL
open PySem PySem.Spec PyProof.Rows L2
section
variable {X : Cx} {W : WX} {Z : DX} {K : PySem.W.Frag} {a b c e : Expr} {ta tb te : DTE} {pos : Pos} {es : List Expr} {tr : DTA}
/-! ### order: whole numbers, texts -/
def ordS (ci : Int → Int → Bool) (cs : List Nat → List Nat → Bool) : G2 := fun _ x y => match x, y with
  | .dat (.int i), .dat (.int j) => some (.v (.dat (.bool (ci i j))))
  | .dat (.str i), .dat (.str j) => some (.v (.dat (.bool (cs i.cps.toList j.cps.toList))))
  | _, _ => none
abbrev ltS : G2 := ordS (fun i j => decide (i < j)) fun i j => decide (i < j)
abbrev leS : G2 := ordS (fun i j => decide (i ≤ j)) fun i j => !decide (j < i)
abbrev gtS : G2 := ordS (fun i j => decide (j < i)) fun i j => decide (j < i)
abbrev geS : G2 := ordS (fun i j => decide (j ≤ i)) fun i j => !decide (i < j)
def rOrd (ci : Int → Int → Bool) (cs : List Nat → List Nat → Bool) : R2 := fun x y H Q => (rI0 (fun i j => V.bl (ci i j)) x y H Q) ∨ (∃ i j, x = .str i ∧ y = .str j ∧ Q (.bl (cs i.cps.toList j.cps.toList)) H)
theorem ov_ord {ci : Int → Int → Bool} {cs : List Nat → List Nat → Bool} : OpV K (rOrd ci cs) (ordS ci cs) := fun x y v u w D H o R Q st rx ry e ho f => by
  unfold ordS at e
  split at e
  · cases e
    exact .inl ⟨_, _, dr_int rx, dr_int ry, f.d st ho (.bl _)⟩
  · cases e
    exact .inr ⟨_, _, dr_str rx, dr_str ry, f.d st ho (.bl _)⟩
  · cases e
theorem op_ltO : OpR X (compareOp .Lt) (rOrd (fun i j => decide (i < j)) fun i j => decide (i < j)) := OpR.or op_lt op_lt_str
theorem op_leO : OpR X (compareOp .LtE) (rOrd (fun i j => decide (i ≤ j)) fun i j => !decide (j < i)) := OpR.or op_le op_le_str
theorem op_gtO : OpR X (compareOp .Gt) (rOrd (fun i j => decide (j < i)) fun i j => decide (j < i)) := OpR.or op_gt op_gt_str
theorem op_geO : OpR X (compareOp .GtE) (rOrd (fun i j => decide (j ≤ i)) fun i j => !decide (i < j)) := OpR.or op_ge op_ge_str
theorem de_lt (ha : DE X W Z a ta) (hb : DE X W Z b tb) : DE X W Z (.Compare a [.Lt] [b] pos) (dOp ltS ta tb) := de_cmp op_ltO ov_ord ha hb (nomark _)
theorem de_le (ha : DE X W Z a ta) (hb : DE X W Z b tb) : DE X W Z (.Compare a [.LtE] [b] pos) (dOp leS ta tb) := de_cmp op_leO ov_ord ha hb (nomark _)
theorem de_gt (ha : DE X W Z a ta) (hb : DE X W Z b tb) : DE X W Z (.Compare a [.Gt] [b] pos) (dOp gtS ta tb) := de_cmp op_gtO ov_ord ha hb (nomark _)
theorem de_ge (ha : DE X W Z a ta) (hb : DE X W Z b tb) : DE X W Z (.Compare a [.GtE] [b] pos) (dOp geS ta tb) := de_cmp op_geO ov_ord ha hb (nomark _)
theorem dt_lt (ha : DE X W Z a ta) (hb : DE X W Z b tb) : DT X W Z (.Compare a [.Lt] [b] pos) (dTst (dOp ltS ta tb)) := dt_cmp op_ltO ov_ord ha hb (nomark _)
theorem dt_le (ha : DE X W Z a ta) (hb : DE X W Z b tb) : DT X W Z (.Compare a [.LtE] [b] pos) (dTst (dOp leS ta tb)) := dt_cmp op_leO ov_ord ha hb (nomark _)
theorem dt_gt (ha : DE X W Z a ta) (hb : DE X W Z b tb) : DT X W Z (.Compare a [.Gt] [b] pos) (dTst (dOp gtS ta tb)) := dt_cmp op_gtO ov_ord ha hb (nomark _)
theorem dt_ge (ha : DE X W Z a ta) (hb : DE X W Z b tb) : DT X W Z (.Compare a [.GtE] [b] pos) (dTst (dOp geS ta tb)) := dt_cmp op_geO ov_ord ha hb (nomark _)
/-! ### in, not in: a flat thing in a list or tuple of flat ones; a sign in a text -/
def flatD : PyData → Bool
  | .none => true
  | .bool _ => true
  | .int _ => true
  | .str _ => true
  | _ => false
def inD (n : Bool) (d : PyData) (ds : List PyData) : Bool := if n then !(ds.any fun y => PyData.eqv y d) else ds.any fun y => PyData.eqv y d
def inS (n : Bool) : G2 := fun w x y => match x, y with
  | .dat (.str z), .dat (.str t) => match z.cps.toList with
    | [c] => some (.v (.dat (.bool (if n then !decide (c ∈ t.cps.toList) else decide (c ∈ t.cps.toList)))))
    | _ => none
  | .dat d, y => (sq w y).bind fun xs => (xs.mapM datOf).bind fun ds => if flatD d && ds.all flatD then some (.v (.dat (.bool (inD n d ds)))) else none
  | _, _ => none
def rInAll (K : PySem.W.Frag) (n : Bool) : R2 := fun x y H Q => rIn K n x y H Q ∨ (∃ (c : Nat) (z : Str), x = .str ⟨#[c]⟩ ∧ y = .str z ∧ Q (.bl (if n then !decide (c ∈ z.cps.toList) else decide (c ∈ z.cps.toList))) H)
theorem op_inAll : OpR X (compareOp .In) (rInAll X.K false) := OpR.or op_in_seq (fun pins s σ H x y v u Q I rx ry h => op_in_sign pins s σ H x y v u Q I rx ry h)
theorem op_notInAll : OpR X (compareOp .NotIn) (rInAll X.K true) := OpR.or op_notIn_seq (fun pins s σ H x y v u Q I rx ry h => op_notIn_sign pins s σ H x y v u Q I rx ry h)
theorem flat_of {D : Hp} {v : V} {d : PyData} (r : Dr K D v d) (h : flatD d = true) : flatV v = true := by
  cases r <;> first | rfl | cases h
theorem eqV_of {D : Hp} {v u : V} {d e : PyData} (r : Dr K D v d) (s : Dr K D u e) (h : flatD d = true) (h' : flatD e = true) : eqV v u = PyData.eqv d e := by
  cases r <;> first | (cases h; done) | (cases s <;> first | (cases h'; done) | (unfold PyData.eqv; rfl) | rfl)
theorem inV_of {D : Hp} {v : V} {d : PyData} (r : Dr K D v d) (h : flatD d = true) : ∀ {vs : List V} {ds : List PyData}, DrA K D vs ds → ds.all flatD = true → vs.all flatV = true ∧ inV v vs = ds.any fun y => PyData.eqv y d
  | _, _, .nil, _ => ⟨rfl, rfl⟩
  | _, _, .cons q t, ha => by
    rw [List.all_cons, Bool.and_eq_true] at ha
    obtain ⟨h1, h2⟩ := inV_of r h t ha.2
    refine ⟨by rw [List.all_cons, flat_of q ha.1, h1]; rfl, ?_⟩
    unfold inV at h2 ⊢
    rw [List.any_cons, List.any_cons, h2, eqV_of q r ha.1 h]
theorem str_one {z : Str} {c : Nat} (h : z.cps.toList = [c]) : z = ⟨#[c]⟩ := by
  obtain ⟨cps⟩ := z
  have : cps = #[c] := by
    apply Array.toList_inj.mp
    rw [h]
  rw [this]
theorem ov_in {n : Bool} : OpV K (rInAll K n) (inS n) := fun x y v u w D H o R Q st rx ry e ho f => by
  have sc : ∀ d, x = .dat d → ((sq w y).bind fun xs => (xs.mapM datOf).bind fun ds => if flatD d && ds.all flatD then some (Ou.v (.dat (.bool (inD n d ds)))) else none) = some o → rInAll K n v u H Q := fun d ex e2 => by
    clear e
    subst ex
    cases q : sq w y with
    | none => rw [q] at e2; cases e2
    | some xs =>
      rw [q] at e2
      have e3 : ((xs.mapM datOf).bind fun ds => if flatD d && ds.all flatD then some (Ou.v (.dat (.bool (inD n d ds)))) else none) = some o := e2
      cases q2 : xs.mapM datOf with
      | none => rw [q2] at e3; cases e3
      | some ds =>
        rw [q2] at e3
        have e4 : (if flatD d && ds.all flatD then some (Ou.v (.dat (.bool (inD n d ds)))) else none) = some o := e3
        by_cases hf : (flatD d && ds.all flatD) = true
        · rw [if_pos hf] at e4
          cases e4
          rw [Bool.and_eq_true] at hf
          have ex := mapM_dat q2
          subst ex
          obtain ⟨p, us, rfl, hq, hv⟩ := sq_ok st ry q
          obtain ⟨h1, h2⟩ := inV_of rx hf.1 (SlA.dat hv) hf.2
          refine .inl ⟨p, us, rfl, hq, flat_of rx hf.1, h1, ?_⟩
          rw [h2]
          exact f.d st ho (.bl _)
        · rw [if_neg hf] at e4; cases e4
  unfold inS at e
  split at e
  · rename_i z t
    split at e
    · rename_i cc hz
      cases e
      cases dr_str rx; cases dr_str ry
      exact .inr ⟨_, t, by rw [str_one hz], rfl, f.d st ho (.bl _)⟩
    · cases e
  · exact sc _ rfl e
  · cases e
theorem de_in (ha : DE X W Z a ta) (hb : DE X W Z b tb) (hm : behindInMarks .In b = false := by rfl) : DE X W Z (.Compare a [.In] [b] pos) (dOp (inS false) ta tb) := de_cmp op_inAll ov_in ha hb hm
theorem de_notIn (ha : DE X W Z a ta) (hb : DE X W Z b tb) (hm : behindInMarks .NotIn b = false := by rfl) : DE X W Z (.Compare a [.NotIn] [b] pos) (dOp (inS true) ta tb) := de_cmp op_notInAll ov_in ha hb hm
theorem dt_in (ha : DE X W Z a ta) (hb : DE X W Z b tb) (hm : behindInMarks .In b = false := by rfl) : DT X W Z (.Compare a [.In] [b] pos) (dTst (dOp (inS false) ta tb)) := dt_cmp op_inAll ov_in ha hb hm
theorem dt_notIn (ha : DE X W Z a ta) (hb : DE X W Z b tb) (hm : behindInMarks .NotIn b = false := by rfl) : DT X W Z (.Compare a [.NotIn] [b] pos) (dTst (dOp (inS true) ta tb)) := dt_cmp op_notInAll ov_in ha hb hm
/-! ### is, is not: None, truths -/
def isNone : Sl → Bool
  | .dat .none => true
  | _ => false
def isS' (n : Bool) : G2 := fun _ x y => match y with
  | .dat .none => some (.v (.dat (.bool (isNone x != n))))
  | .dat (.bool k) => match x with
    | .dat (.bool j) => some (.v (.dat (.bool (decide (j = k) != n))))
    | _ => none
  | _ => none
theorem isNone_of {D : Hp} {v : V} {s : Sl} (r : Vr K D v s) : decide (v = .non) = isNone s := by
  cases s with
  | adr a => have r' : v = .ref a := r; subst r'; rfl
  | scr ns => obtain ⟨a, rfl, _⟩ := r; rfl
  | dat d => cases r <;> rfl
def rIsA : R2 := fun x y H Q => (y = .non ∧ Q (.bl (decide (x = .non))) H) ∨ rIsB x y H Q
def rNotA : R2 := fun x y H Q => (y = .non ∧ Q (.bl (!decide (x = .non))) H) ∨ rNotB x y H Q
theorem op_isA : OpR X (compareOp .Is) rIsA := OpR.or op_isN op_isBl
theorem op_notA : OpR X (compareOp .IsNot) rNotA := OpR.or op_notN op_notBl
theorem ov_is : OpV K rIsA (isS' false) := fun x y v u w D H o R Q st rx ry e ho f => by
  unfold isS' at e
  split at e
  · cases e
    refine .inl ⟨dr_none ry, ?_⟩
    rw [isNone_of rx]
    have h : R (.dat (.bool (isNone x != false))) w := ho
    rw [Bool.bne_false] at h
    exact f.d st h (.bl _)
  · rename_i k
    split at e
    · rename_i j
      cases e
      cases dr_bool rx; cases dr_bool ry
      refine .inr ⟨j, k, rfl, rfl, ?_⟩
      have h : R (.dat (.bool (decide (j = k) != false))) w := ho
      rw [Bool.bne_false] at h
      exact f.d st h (.bl _)
    · cases e
  · cases e
theorem ov_isNot : OpV K rNotA (isS' true) := fun x y v u w D H o R Q st rx ry e ho f => by
  unfold isS' at e
  split at e
  · cases e
    refine .inl ⟨dr_none ry, ?_⟩
    rw [isNone_of rx]
    have h : R (.dat (.bool (isNone x != true))) w := ho
    rw [Bool.bne_true] at h
    exact f.d st h (.bl _)
  · rename_i k
    split at e
    · rename_i j
      cases e
      cases dr_bool rx; cases dr_bool ry
      refine .inr ⟨j, k, rfl, rfl, ?_⟩
      have h : R (.dat (.bool (decide (j = k) != true))) w := ho
      rw [Bool.bne_true] at h
      exact f.d st h (.bl _)
    · cases e
  · cases e
theorem de_is (ha : DE X W Z a ta) (hb : DE X W Z b tb) : DE X W Z (.Compare a [.Is] [b] pos) (dOp (isS' false) ta tb) := de_cmp op_isA ov_is ha hb (nomark _)
theorem de_isNot (ha : DE X W Z a ta) (hb : DE X W Z b tb) : DE X W Z (.Compare a [.IsNot] [b] pos) (dOp (isS' true) ta tb) := de_cmp op_notA ov_isNot ha hb (nomark _)
theorem dt_is (ha : DE X W Z a ta) (hb : DE X W Z b tb) : DT X W Z (.Compare a [.Is] [b] pos) (dTst (dOp (isS' false) ta tb)) := dt_cmp op_isA ov_is ha hb (nomark _)
theorem dt_isNot (ha : DE X W Z a ta) (hb : DE X W Z b tb) : DT X W Z (.Compare a [.IsNot] [b] pos) (dTst (dOp (isS' true) ta tb)) := dt_cmp op_notA ov_isNot ha hb (nomark _)
/-! ### {}: data -/
def dDic0 : DTE := fun _ w R => R (.dat (.dict [])) w
theorem de_dic0 : DE X W Z (.Dict [] [] pos) dDic0 := pe_weak pe_dnewK fun σ H Q ⟨ρ, w, D, R, rp, xo, h, f⟩ p hp => f (.dat (.dict [])) w (.ref p) (upd D p (.dK [])) (upd H p (.dK [])) h (Gr.newD rp.st hp) (rp.st.newD hp) (.dct upd_same)
/-! ### texts: upper -/
def dUpper (te : DTE) : DTE := fun ρ w R => te ρ w fun s w1 => ∃ z, s = .dat (.str z) ∧ z.length ≤ 5592405 ∧ R (.dat (.str (Txt.upper z))) w1
theorem de_upper {apos : Pos} (he : DE X W Z e te) (hbase : attributeBase e "upper" X.env (eval e X.env) = eval e X.env := by rfl) (hline : (apos.endLine == pos.line) = true := by rfl) : DE X W Z (.Call (.Attribute e "upper" apos) [] [] pos) (dUpper te) :=
  pe_weak (pe_upper he hbase hline) fun σ H Q ⟨ρ, w, D, R, rp, xo, h, f⟩ => ⟨ρ, w, D, _, rp, xo, h, fun s w1 v D1 H1 h1 g1 s1 r1 => by
    obtain ⟨z, rfl, hz, h1⟩ := h1
    cases dr_str r1
    exact ⟨⟨z, rfl⟩, z, rfl, rfl, hz, (f.next g1).d s1 h1 (.str _)⟩⟩
/-! ### a dict of the written part, with texts for keys -/
structure KDic (K : PySem.W.Frag) (wd : World) (d : Addr) (kvs : List (Str × Sl)) : Prop where
  ex : ∃ (es : Array DictEntry) (n : Nat), K.lookup d = some ⟨.type "dict", none, .dict es n, #[]⟩ ∧ PySem.W.KeysLit wd.params es.toList ∧
    Paired (fun (p : Str × Sl) (e : DictEntry) => (∃ t, e.key = .str p.1 t) ∧ ∃ v, RelV v e.val ∧ ∀ D, Vr K D v p.2) kvs es.toList
  low : (d == sysModules) = false
theorem kdic_find {d : Addr} {kvs : List (Str × Sl)} : ∀ {l : List DictEntry}, Paired (fun (p : Str × Sl) (e : DictEntry) => (∃ t, e.key = .str p.1 t) ∧ ∃ v, RelV v e.val ∧ ∀ D, Vr K D v p.2) kvs l → ∀ z : Str,
    match kvs.lookup z with
    | some s => ∃ u v, (l.find? fun e => Value.isStrOf z e.key).map (·.val) = some u ∧ RelV v u ∧ ∀ D, Vr K D v s
    | none => (l.find? fun e => Value.isStrOf z e.key).map (·.val) = none := by
  intro l h
  induction h with
  | nil => intro z; rfl
  | @cons p e ps es q t ih =>
    intro z
    obtain ⟨k, s⟩ := p
    obtain ⟨⟨tk, hk⟩, v, rv, hv⟩ := q
    by_cases hz : z = k
    · subst hz
      have e1 : List.lookup z ((z, s) :: ps) = some s := by simp [List.lookup]
      rw [e1]
      refine ⟨e.val, v, ?_, rv, hv⟩
      have e2 : Value.isStrOf z e.key = true := by rw [hk]; simp [Value.isStrOf]
      rw [List.find?_cons_of_pos (by simpa using e2)]
      rfl
    · have e0 : (z == k) = false := beq_eq_false_iff_ne.mpr hz
      have e1 : List.lookup z ((k, s) :: ps) = List.lookup z ps := by simp [List.lookup, e0]
      rw [e1]
      have e2 : ¬ Value.isStrOf z e.key = true := by
        rw [hk]
        simp [Value.isStrOf]
        intro q
        first | exact hz q | exact hz q.symm
      rw [List.find?_cons_of_neg (by simpa using e2)]
      exact ih z
/-- d.get(k) of a written dict -/
def dKGet (kvs : List (Str × Sl)) (te : DTE) : DTE := fun ρ w R => te ρ w fun s w1 => ∃ z, s = .dat (.str z) ∧ R ((kvs.lookup z).getD (.dat .none)) w1
theorem de_kget {d : Addr} {kvs : List (Str × Sl)} {x : Str} {p apos : Pos} (D : KDic X.K X.w d kvs) (hg : Gl X x) (hm : X.mg x = some (.ref d)) (he : DE X W Z e te) (m : M1 X (.Name x p) "get" apos e pos) (hd : (x == ("__debug__" : Str)) = false := by decide) :
    DE X W Z (.Call (.Attribute (.Name x p) "get" apos) [e] [] pos) (dKGet kvs te) := by
  obtain ⟨⟨ar, n, hl, hk, hp⟩, low⟩ := D
  refine ⟨fun pins s σ H Q I h => ?_⟩
  obtain ⟨ρ, w, D, R, rp, xo, h, f⟩ := h
  have mp := PySem.W.mapOf_K (prog := X.prog) (w := X.w) I.kIn hl hk
  refine wpAny_Call_method m.base m.few m.line PySem.F.plainAttrs_dict PySem.F.slot_dict_get PySem.F.type_dict_get (ld_glob I hg hm ?_ hd)
  refine ⟨mp.typeIs, fun b q => ⟨_, I.kIn _ _ (by cases q; exact hl), rfl⟩, ?_⟩
  rw [m.trees]
  refine Calls.callWith_builtin rfl (Calls.evalArgs_plain (Calls.spliced_cons (thn (he.run pins s σ H (fun v H1 => ∃ z, v = .str z ∧ ∀ u, (∀ D1, Vr X.K D1 u ((kvs.lookup z).getD (.dat .none))) → Q u H1) I ⟨ρ, w, D, _, rp, xo, h, fun s w1 v D1 H1 h1 g1 s1 r1 => ?_⟩) fun iv s2 ⟨y, H2, I2, ry, z, ey, q2⟩ => Calls.spliced_nil ?_)))
  · obtain ⟨z, rfl, h1⟩ := h1
    exact ⟨z, dr_str r1, fun u hu => (f.next g1).v s1 h1 (hu D1)⟩
  · subst ey
    obtain ⟨t, rfl⟩ := ry
    have mp2 := PySem.W.mapOf_K (prog := X.prog) (w := X.w) I2.kIn hl hk
    refine call_meetsIn PySem.F.slot_dict_get mp2.typeIs PySem.F.entry_dict_get (PySem.F.args_dict_get_2 _ _) (meets_dict_get (strKind X.prog X.w) d (strKind_is X.prog X.w z t) low) ⟨_, mp2, ?_⟩
    have kf := kdic_find (K := X.K) (d := d) hp z
    have ff : findBy Value.isStrOf ar z = (ar.toList.find? fun e => Value.isStrOf z e.key).map (·.val) := by
      unfold findBy
      rw [← List.find?_toArray, Array.toArray_toList]
    rw [ff]
    cases q : kvs.lookup z with
    | none =>
      rw [q] at kf
      rw [kf]
      exact ⟨.non, H2, I2.tok _, rfl, q2 .non (by rw [q]; exact fun _ => .non)⟩
    | some s =>
      rw [q] at kf
      obtain ⟨u, v, h1, h2, h3⟩ := kf
      rw [h1]
      exact ⟨v, H2, I2.tok _, h2, q2 v (by rw [q]; exact h3)⟩
/-- d[k] of a written dict -/
def dKIx (kvs : List (Str × Sl)) (te : DTE) : DTE := fun ρ w R => te ρ w fun s w1 => ∃ z r, s = .dat (.str z) ∧ kvs.lookup z = some r ∧ R r w1
theorem de_kix {d : Addr} {kvs : List (Str × Sl)} {x : Str} {p : Pos} (D : KDic X.K X.w d kvs) (hg : Gl X x) (hm : X.mg x = some (.ref d)) (he : DE X W Z e te) (hs : PlainIx e) (hd : (x == ("__debug__" : Str)) = false := by decide) :
    DE X W Z (.Subscript (.Name x p) e pos) (dKIx kvs te) := by
  obtain ⟨⟨ar, n, hl, hk, hp⟩, low⟩ := D
  refine pe_weak (pe_ix ix_kdict (pe_glob (v := .ref d) hg hm rfl hd) he hs) fun σ H Q ⟨ρ, w, D, R, rp, xo, h, f⟩ => ?_
  refine ⟨ρ, w, D, _, rp, xo, h, fun s w1 v D1 H1 h1 g1 s1 r1 => ?_⟩
  obtain ⟨z, r, rfl, hz, h1⟩ := h1
  cases dr_str r1
  have kf := kdic_find (K := X.K) (d := d) hp z
  rw [hz] at kf
  obtain ⟨u, v, k1, k2, k3⟩ := kf
  refine ⟨d, z, v, rfl, rfl, ⟨ar, n, u, hl, hk, ?_, k2⟩, (f.next g1).v s1 h1 (k3 D1)⟩
  unfold PySem.W.nsIn
  rw [hl]
  have qf : (fun d : DictEntry => Value.isStrOf z d.key) = fun d => d.key.isStr z := funext fun d => (PySem.W.isStr_of z d.key).symm
  rw [qf] at k1
  show (match ar.toList.find? (fun d => d.key.isStr z) with | some e => some (some e.val) | none => if ar.toList.any (·.refKey) then none else some none) = _
  cases q : ar.toList.find? (fun d => d.key.isStr z) with
  | none => rw [q] at k1; cases k1
  | some en =>
    rw [q] at k1
    have : en.val = u := Option.some.inj k1
    show some (some en.val) = some (some u)
    rw [this]
end
end DL

set_option Elab.async false
set_option linter.all false
set_option maxRecDepth 100000
set_option maxHeartbeats 4000000
namespace DL
open PySem PySem.Spec PyProof.Rows L2
section
variable {X : Cx} {W : WX} {Z : DX} {K : PySem.W.Frag} {a b c e : Expr} {ta tb te : DTE} {pos : Pos}
/-! ### == and != beside an empty list or tuple: whatever the other one holds -/
def rEqE (K : PySem.W.Frag) (n : Bool) : R2 := fun x y H Q => ∃ a b xs, x = .ref a ∧ y = .ref b ∧ ((SqL K H a xs ∧ SqL K H b []) ∨ (SqT K H a xs ∧ SqT K H b [])) ∧ Q (.bl (xs.isEmpty != n)) H
theorem size0 {xs : List V} {its : List Value} (r : Vals xs its) : (its.toArray.size == 0) = xs.isEmpty := by cases r <;> simp
theorem op_eqE (hu : X.A.units + 64 < cLine) : OpR X (compareOp .Eq) (rEqE X.K false) := by
  intro pins s σ H x y v u Q I rx ry h
  obtain ⟨a, b, xs, rfl, rfl, hq, q⟩ := h
  cases rx
  cases ry
  have hu' : X.A.units < cLine := by omega
  rw [Bool.bne_false] at q
  rcases hq with ⟨ha, hb⟩ | ⟨ha, hb⟩
  · obtain ⟨its, rv, pl, _⟩ := I.list ha
    obtain ⟨its2, rv2, pl2, _⟩ := I.list hb
    cases rv2
    by_cases hs : its.toArray.size = 0
    · refine SeqAt.eq_listAt (e := fun _ => true) pl.isList pl2.isList (by simpa using hs) hu' (fun j h1 _ => absurd h1 (by omega)) ?_
      refine ⟨.bl xs.isEmpty, H, I, ?_, q⟩
      rw [← size0 rv, hs]; rfl
    · refine SeqAt.eq_list_lengthsAt pl.isList pl2.isList (by simpa using hs) hu' ⟨.bl xs.isEmpty, H, I, ?_, q⟩
      rw [← size0 rv, beq_eq_false_iff_ne.mpr hs]; rfl
  · obtain ⟨its, rv, pl, _⟩ := I.tuple ha
    obtain ⟨its2, rv2, pl2, _⟩ := I.tuple hb
    cases rv2
    refine SeqAt.eq_tupleAt (e := fun _ => true) (show s.heap.IsTuple a its.toArray from pl) (show s.heap.IsTuple b #[] from pl2) hu' (fun j _ h2 => absurd h2 (by simp)) ⟨.bl xs.isEmpty, H, I, ?_, q⟩
    rw [← size0 rv]
    show Value.bool _ = Value.bool _
    simp
theorem op_neE (hu : X.A.units + 64 < cLine) : OpR X (compareOp .NotEq) (rEqE X.K true) := by
  intro pins s σ H x y v u Q I rx ry h
  obtain ⟨a, b, xs, rfl, rfl, hq, q⟩ := h
  cases rx
  cases ry
  have hu' : X.A.units < cLine := by omega
  rw [Bool.bne_true] at q
  rcases hq with ⟨ha, hb⟩ | ⟨ha, hb⟩
  · obtain ⟨its, rv, pl, _⟩ := I.list ha
    obtain ⟨its2, rv2, pl2, _⟩ := I.list hb
    cases rv2
    by_cases hs : its.toArray.size = 0
    · refine SeqAt.RcNeAt.lists (e := fun _ => true) pl.isList pl2.isList (by simpa using hs) hu' (fun j h1 _ => absurd h1 (by omega)) _ _ _ _ ⟨.bl (!xs.isEmpty), H, I, ?_, q⟩
      rw [← size0 rv, hs]; rfl
    · refine SeqAt.RcNeAt.lists_lengths pl.isList pl2.isList (by simpa using hs) hu' _ _ _ _ ⟨.bl (!xs.isEmpty), H, I, ?_, q⟩
      rw [← size0 rv, beq_eq_false_iff_ne.mpr hs]; rfl
  · obtain ⟨its, rv, pl, _⟩ := I.tuple ha
    obtain ⟨its2, rv2, pl2, _⟩ := I.tuple hb
    cases rv2
    refine SeqAt.RcNeAt.tuples (e := fun _ => true) (show s.heap.IsTuple a its.toArray from pl) (show s.heap.IsTuple b #[] from pl2) hu' (fun j _ h2 => absurd h2 (by simp)) _ _ _ _ ⟨.bl (!xs.isEmpty), H, I, ?_, q⟩
    rw [← size0 rv]
    show Value.bool _ = Value.bool _
    simp
def eqE (n : Bool) : G2 := fun w x y => match x, y with
  | .dat (.tuple ds), .dat (.tuple []) => some (.v (.dat (.bool (ds.isEmpty != n))))
  | x, y => (sqL w x).bind fun xs => (sqL w y).bind fun ys => if ys.isEmpty = true then some (.v (.dat (.bool (xs.isEmpty != n)))) else none
theorem eqE_l {n : Bool} {w : Om} {x y : Sl} {xs : List Sl} (h : sqL w x = some xs) (h' : sqL w y = some []) : eqE n w x y = some (.v (.dat (.bool (xs.isEmpty != n)))) := by
  have k : ((sqL w x).bind fun xs => (sqL w y).bind fun ys => if ys.isEmpty = true then some (Ou.v (.dat (.bool (xs.isEmpty != n)))) else none) = some (.v (.dat (.bool (xs.isEmpty != n)))) := by
    rw [h]
    show ((sqL w y).bind fun ys => if ys.isEmpty = true then some (Ou.v (.dat (.bool (xs.isEmpty != n)))) else none) = _
    rw [h']; rfl
  unfold eqE
  split
  · cases h
  · exact k
theorem ov_eqE {n : Bool} : OpV K (rEqE K n) (eqE n) := fun x y v u w D H o R Q st rx ry e ho f => by
  unfold eqE at e
  split at e
  · cases e
    obtain ⟨p, vs, rfl, hq, hv⟩ := tup_ok st rx
    obtain ⟨p2, vs2, rfl, hq2, hv2⟩ := tup_ok st ry
    cases hv2
    refine ⟨p, p2, vs, rfl, rfl, .inr ⟨hq, hq2⟩, ?_⟩
    rename_i ds
    have : vs.isEmpty = ds.isEmpty := by cases hv <;> rfl
    rw [this]
    exact f.d st ho (.bl _)
  · cases q1 : sqL w x with
    | none => rw [q1] at e; cases e
    | some xs =>
      rw [q1] at e
      have e2 : ((sqL w y).bind fun ys => if ys.isEmpty = true then some (Ou.v (.dat (.bool (xs.isEmpty != n)))) else none) = some o := e
      cases q2 : sqL w y with
      | none => rw [q2] at e2; cases e2
      | some ys =>
        rw [q2] at e2
        have e3 : (if ys.isEmpty = true then some (Ou.v (.dat (.bool (xs.isEmpty != n)))) else none) = some o := e2
        cases ys with
        | cons _ _ => cases e3
        | nil =>
          cases e3
          obtain ⟨p, vs, rfl, hq, hv⟩ := sqL_ok st rx q1
          obtain ⟨p2, vs2, rfl, hq2, hv2⟩ := sqL_ok st ry q2
          cases hv2
          refine ⟨p, p2, vs, rfl, rfl, .inl ⟨SqL.of hq, SqL.of hq2⟩, ?_⟩
          have : vs.isEmpty = xs.isEmpty := by cases hv <;> rfl
          rw [this]
          exact f.d st ho (.bl _)
theorem de_eqE (hu : X.A.units + 64 < cLine) (ha : DE X W Z a ta) (hb : DE X W Z b tb) : DE X W Z (.Compare a [.Eq] [b] pos) (dOp (eqE false) ta tb) := de_cmp (op_eqE hu) ov_eqE ha hb (nomark _)
theorem de_neE (hu : X.A.units + 64 < cLine) (ha : DE X W Z a ta) (hb : DE X W Z b tb) : DE X W Z (.Compare a [.NotEq] [b] pos) (dOp (eqE true) ta tb) := de_cmp (op_neE hu) ov_eqE ha hb (nomark _)
theorem dt_eqE (hu : X.A.units + 64 < cLine) (ha : DE X W Z a ta) (hb : DE X W Z b tb) : DT X W Z (.Compare a [.Eq] [b] pos) (dTst (dOp (eqE false) ta tb)) := dt_cmp (op_eqE hu) ov_eqE ha hb (nomark _)
theorem dt_neE (hu : X.A.units + 64 < cLine) (ha : DE X W Z a ta) (hb : DE X W Z b tb) : DT X W Z (.Compare a [.NotEq] [b] pos) (dTst (dOp (eqE true) ta tb)) := dt_cmp (op_neE hu) ov_eqE ha hb (nomark _)
end
/-! ### the two ways of a test -/
theorem iteB {k : Bool} {A B : Prop} (h1 : k = true → A) (h2 : k = false → B) : if k = true then A else B := by
  cases k with
  | true => exact iteT (h1 rfl)
  | false => exact iteF (h2 rfl)
theorem iteD {p : Prop} [Decidable p] {A B : Prop} (h1 : p → A) (h2 : ¬ p → B) : if decide p = true then A else B := iteB (fun h => h1 (of_decide_eq_true h)) (fun h => h2 (of_decide_eq_false h))
theorem iteNo {p : Prop} [Decidable p] {A B : Prop} (h : ¬ p) (hb : B) : if decide p = true then A else B := by rw [decide_eq_false h]; exact iteF hb
theorem iteYes {p : Prop} [Decidable p] {A B : Prop} (h : p) (ha : A) : if decide p = true then A else B := by rw [decide_eq_true h]; exact iteT ha
/-! ### defs with defaults; a promise that is never asked; the law's end -/
section
variable {P : Program} {wd : World} {K : PySem.W.Frag} {mg : Str → Option Value} {base : Heap}
theorem FunD.okD {x qual : Str} {params : Arguments} {body : List Stmt} {scope : Scope} {dvs : List V} {kws : List (Str × V)} {f : Addr} {fd : FuncData} {N ps : List Str} {k : Nat} {c : Ct} {tb : DTS} (F : L2.FunD K x qual params body scope dvs kws f fd) (S : FnScope N ps scope) (len : ∀ ss w R, c ss w R → ss.length = ps.length)
    (hb : ∀ (cdv : Value) (A : Around) (outer : List Env) (s : Shared) (H : Hp) (E : XK), Room k (A.deeper (envOfC qual scope s.heap.objs.size f cdv)) → DB (cxOf CX0 P wd K mg base N qual scope f cdv A outer s H E).nox WT ZT body tb)
    (rd : ∀ ss w R, c ss w R → tb (endsN R) (startD N ss) w) : FnOk P wd K mg base CX0 (k + 1) f fd ps (spN K c) := by
  refine L2.FunD.ok F S (fun vs H Q E h => ?_) (fun cdv A outer s H vs Q E hr h => ?_)
  · obtain ⟨ss, w, D, R, hs, _, hc, _⟩ := h
    rw [Paired.length hs]
    exact len ss w R hc
  · obtain ⟨ss, w, D, R, hs, so, hc, fi⟩ := h
    exact ⟨_, (hb cdv A outer s H E hr).nox, startD N ss, w, D, endsN R, rp_start hs so, xok_T, rd ss w R hc, endsN_ok fi⟩
def cNo : Ct := fun _ _ _ => False
theorem fnok_no {CX : CXT} {k : Nat} {f : Addr} {fd : FuncData} {ps : List Str} : FnOk P wd K mg base CX k f fd ps (spN K cNo) :=
  ⟨fun vs H Q E ⟨ss, w, D, R, _, _, h, _⟩ => h.elim, fun A outer s H args us vs Q E hr e0 hb r ⟨ss, w, D, R, _, _, h, _⟩ => h.elim⟩
/-- a contract by depth: below 0 nothing is promised -/
def prev (c : Nat → Ct) : Nat → Ct
  | 0 => cNo
  | n + 1 => c n
theorem rec_ok {CX : CXT} {b : Nat} {f : Addr} {fd : FuncData} {ps : List Str} (c : Nat → Ct) (step : ∀ n, FnOk P wd K mg base CX (b + n) f fd ps (spN K (prev c n)) → FnOk P wd K mg base CX (b + n + 1) f fd ps (spN K (c n))) :
    ∀ n, FnOk P wd K mg base CX (b + n + 1) f fd ps (spN K (c n))
  | 0 => step 0 fnok_no
  | n + 1 => step (n + 1) (rec_ok c step n)
def cLaw : Ct := fun ss w R => ∃ ns : List Int, ss = [.scr ns] ∧ ns.length ≤ 63 ∧ ∀ w', R (.dat (.bool true)) w'
theorem law_end {H : Hp} {a : Addr} {ns : List Int} (hl : ns.length ≤ 63) (hS : SqL K H a (ns.map V.int)) : spN K cLaw [.ref a] H (fun v _ => v = .bl true) fun _ _ _ => False :=
  ⟨[.scr ns], fun _ => none, H, fun s _ => s = .dat (.bool true), .cons ⟨a, rfl, hS⟩ .nil, ⟨Same.refl H, (fun _ _ h => nomatch h), (fun _ _ h => nomatch h)⟩, ⟨ns, rfl, hl, fun _ => rfl⟩, fun s w' z D' H' h g st r => by
    subst h
    exact dr_bool r⟩
end
theorem walk {l : PySem.W.OpenLaw} {k : Nat} {q : Program} {loose : List Str} {XP : (Str → Option Value) → Heap → Prop} {YP : World → Heap → Prop} {d : DefRec} {K : Params → PySem.W.Frag} (hr : Room k callerA) (hn : l.most = some 63) (hdf : d.params.defaults = [])
    (hY : ∀ (w : World) (h : Heap), YP w h → (K w.params).In h)
    (F : ∀ (w : World) (mg : Str → Option Value) (fa : Addr) (h : Heap), (K w.params).In h → h.Ns mainGlobals mg → mg d.name = some (.ref fa) →
      ∃ fd : FuncData, (∀ (s : Shared) (u : Value), BindsTo s fd ⟨[u], []⟩ [("script", u)]) ∧ ∀ base : Heap, (K w.params).In base → base.Ns mainGlobals mg → FnOk l.prog w (K w.params) mg base CX0 k fa fd ["script"] (spN (K w.params) cLaw)) :
    PySem.W.WalkO q loose XP YP l.row.toRowW d [] (fun f vs => PySem.call f vs) :=
  L2.walk_of (n := 63) (k := k) (x := "script") (CX := fun _ => CX0) (sp := fun w => spN (K w.params) cLaw) hn (by decide) hdf hr hY F (fun _ _ a ns hl _ hS => law_end hl hS) fun _ _ _ _ _ z => z
end DL

set_option Elab.async false
set_option linter.all false
set_option maxRecDepth 100000
set_option maxHeartbeats 4000000
/-! the law's bag of digits: a list of three whole numbers -/
namespace G
open PySem PySem.Spec PyProof.Rows L2 DL
def bagO (x y z : Int) : OO := .lst [.dat (.int x), .dat (.int y), .dat (.int z)]
/-- w' is w with a good bag at b, its counter at most n -/
def Bg (b : Addr) (n : Nat) (w w' : Om) : Prop := ∃ x y z, w' = put w b (bagO x y z) ∧ 0 ≤ y ∧ y < 2 ^ 200 ∧ 0 ≤ z ∧ z ≤ n
theorem Bg.mono {b : Addr} {n m : Nat} {w w' : Om} (h : Bg b n w w') (hn : n ≤ m) : Bg b m w w' := by
  obtain ⟨x, y, z, e, h1, h2, h3, h4⟩ := h
  exact ⟨x, y, z, e, h1, h2, h3, by omega⟩
theorem Bg.at {b : Addr} {n : Nat} {w w' : Om} (h : Bg b n w w') : ∃ x y z, w' b = some (bagO x y z) := by
  obtain ⟨x, y, z, e, _⟩ := h
  exact ⟨x, y, z, by rw [e, put_same]⟩
theorem Bg.ne {b a : Addr} {n : Nat} {w w' : Om} (h : Bg b n w w') (ha : w' a = none) : a ≠ b := fun z => by
  obtain ⟨x, y, c, e⟩ := h.at
  rw [z, e] at ha; cases ha
theorem Bg.get {b a : Addr} {n : Nat} {w w' : Om} (h : Bg b n w w') (ha : a ≠ b) : w' a = w a := by
  obtain ⟨x, y, z, e, _⟩ := h
  rw [e, put_ne ha]
/-- beside a new object -/
theorem Bg.put {b a : Addr} {n : Nat} {w w' : Om} {o : OO} (h : Bg b n w w') (ha : a ≠ b) : Bg b n (put w a o) (put w' a o) := by
  obtain ⟨x, y, z, e, h1⟩ := h
  exact ⟨x, y, z, by rw [e, put_comm (Ne.symm ha)], h1⟩
/-- the new object forgotten -/
theorem Bg.drop {b a : Addr} {n : Nat} {w w' : Om} {o : OO} (h : Bg b n (DL.put w a o) w') (hw : w a = none) (ha : a ≠ b) : ∃ u, Sub u w' ∧ Bg b n w u := by
  obtain ⟨x, y, z, e, h1⟩ := h
  refine ⟨DL.put w b (bagO x y z), ?_, x, y, z, rfl, h1⟩
  rw [e]
  exact Sub.put (Sub.new hw)
def c_law_cell_at : Ct := fun ss w R => ∃ (ns : List Int) (k : Nat), ss = [.scr ns, .dat (.int k)] ∧ ns.length ≤ 63 ∧ ∀ c : Int, R (.dat (.int c)) w
def c_law_bag : Ct := fun ss w R => ∃ (c : Int) (k : Nat), ss = [.dat (.int c), .dat (.int k)] ∧ k ≤ 100 ∧ ∀ b w', w b = none → Bg b 0 w w' → R (.adr b) w'
/-- a draw below m -/
def c_law_draw : Ct := fun ss w R => ∃ (b : Addr) (m : Int) (n : Nat) (w0 : Om), ss = [.adr b, .dat (.int m)] ∧ Bg b n w0 w ∧ 0 < m ∧ m < 2 ^ 100 ∧ n < 2 ^ 60 ∧ ∀ r w', 0 ≤ r → r < m → Bg b (n + 1) w0 w' → R (.dat (.int r)) w'
theorem len_law_cell_at {ss w R} (h : c_law_cell_at ss w R) : ss.length = 2 := by obtain ⟨_, _, rfl, _⟩ := h; rfl
theorem len_law_bag {ss w R} (h : c_law_bag ss w R) : ss.length = 2 := by obtain ⟨_, _, rfl, _⟩ := h; rfl
theorem len_law_draw {ss w R} (h : c_law_draw ss w R) : ss.length = 2 := by obtain ⟨_, _, _, _, rfl, _⟩ := h; rfl
end G

set_option Elab.async false
set_option linter.all false
set_option maxRecDepth 100000
set_option maxHeartbeats 4000000
namespace G
open PySem PySem.Spec PyProof.Rows L2 DL
def N_law_cell_at : List Str := ["script", "k"]
def t_law_cell_at : DTS :=
  (dSeq (dIfS (dTst (dOp ltS (dVar 1) (dCB lenS (dCons (dVar 0) dNil)))) (dRet (dOp ixS (dVar 0) (dVar 1))) dNext)
  (dRet (dC (.int 0))))

def N_law_bag : List Str := ["cell", "place"]
def t_law_bag : DTS :=
  (dRet (dLstD (dDats (dCB maxS (dCons (dC (.int 0)) (dCons (dOp gSub (dVar 0) (dOp gPow (dC (.int 10)) (dC (.int 18)))) dNil))) (dDats (dOp addS (dOp gMod (dVar 0) (dC (.int 170141183460469231731687303715884105727))) (dOp gMul (dC (.int 198491317)) (dVar 1))) (dDats (dC (.int 0)) dNilD)))))

def N_law_draw : List Str := ["bag", "many", "found", "mixed"]
def t_law_draw : DTS :=
  (dSeq (dIfS (dTst (dOp gtS (dOp ixS (dVar 0) (dC (.int 0))) (dC (.int 1)))) (dSeq (dAsg (dOp gMod (dOp ixS (dVar 0) (dC (.int 0))) (dVar 1)) (dName 2))
  (dSeq (dAsg (dOp gDiv (dOp ixS (dVar 0) (dC (.int 0))) (dVar 1)) (dSetL (dVar 0) (dC (.int 0))))
  (dRet (dVar 2)))) dNext)
  (dSeq (dAsg (dOp addS (dOp ixS (dVar 0) (dC (.int 2))) (dC (.int 1))) (dSetL (dVar 0) (dC (.int 2))))
  (dSeq (dAsg (dOp gMod (dOp gPow (dOp addS (dOp ixS (dVar 0) (dC (.int 1))) (dOp gMul (dC (.int 86028121)) (dOp ixS (dVar 0) (dC (.int 2))))) (dC (.int 3))) (dC (.int 170141183460469231731687303715884105727))) (dName 3))
  (dSeq (dAsg (dOp gMod (dOp gPow (dOp addS (dVar 3) (dOp gMul (dC (.int 32452867)) (dOp ixS (dVar 0) (dC (.int 2))))) (dC (.int 3))) (dC (.int 162259276829213363391578010288127))) (dName 3))
  (dRet (dOp gMod (dOp gDiv (dVar 3) (dC (.int 2048))) (dVar 1)))))))

theorem atI_lt {α : Type} {xs : List α} {k : Nat} (h : k < xs.length) : atI xs (k : Int) = some xs[k] := atI_nat (List.getElem?_eq_getElem h)
theorem rd_law_cell_at {ss w R} (h : c_law_cell_at ss w R) : t_law_cell_at (endsN R) (startD N_law_cell_at ss) w := by
  obtain ⟨ns, k, rfl, hl, q⟩ := h
  refine ⟨_, rfl, _, rfl, _, lenS_sq rfl, ?_⟩
  refine ⟨_, rfl, _, rfl, iteD (fun c => ?_) fun c => ?_⟩
  · rw [List.length_map] at c
    exact ⟨_, rfl, _, rfl, _, ixS_scr (atI_lt (by omega)), w, Sub.refl _, q _⟩
  · exact ⟨w, Sub.refl _, q _⟩
theorem cMul_of {i j : Int} {a b : Nat} (ha : i.natAbs < 2 ^ a) (hb : j.natAbs < 2 ^ b) (h0 : 0 < a) (h1 : 0 < b) (h : a + b ≤ 1000000) : cMul i j = true := decide_eq_true (wide_mul ha hb h0 h1 h)
theorem cDiv_of {i j : Int} {b : Nat} (h : 0 < j) (hb : j.natAbs < 2 ^ b) (h0 : 0 < b) (h9 : b ≤ 9000) : cDiv i j = true := decide_eq_true (wide_div (i := i) h hb h0 h9)
theorem bits_le {i : Int} {a : Nat} (ha : i.natAbs < 2 ^ a) (h0 : 0 < a) : Builtin.Int.intBits i ≤ a := by
  have := PySem.Flt.log2_lt_of h0 ha
  unfold Builtin.Int.intBits
  split <;> omega
theorem cPow_of {i j : Int} {a : Nat} (ha : i.natAbs < 2 ^ a) (h0 : 0 < a) (hj : 0 ≤ j) (h : (a : Int) * j ≤ 2 ^ 27) : cPow i j = true := by
  refine decide_eq_true ⟨hj, Int.le_trans (Int.mul_le_mul_of_nonneg_right (Int.ofNat_le.mpr (bits_le ha h0)) hj) h⟩
theorem small_abs {i : Int} {a : Nat} (h0 : 0 ≤ i) (h : i < 2 ^ a) : i.natAbs < 2 ^ a := by
  have : ((i.natAbs : Nat) : Int) < ((2 ^ a : Nat) : Int) := by rw [Int.natAbs_of_nonneg h0]; exact_mod_cast h
  exact_mod_cast this
theorem rd_law_bag {ss w R} (h : c_law_bag ss w R) : t_law_bag (endsN R) (startD N_law_bag ss) w := by
  obtain ⟨c, k, rfl, hk, q⟩ := h
  refine ⟨_, rfl, _, liftI_ok (by decide), _, rfl, _, rfl, ?_⟩
  refine ⟨_, rfl, _, liftI_ok (by decide), _, rfl, _, liftI_ok (cMul_of (a := 64) (b := 64) (by decide) (small_abs (by omega) (by omega)) (by decide) (by decide) (by decide)), _, rfl, ?_⟩
  have e1 := Int.emod_nonneg c (show (170141183460469231731687303715884105727 : Int) ≠ 0 by decide)
  have e2 := Int.emod_lt_of_pos c (show (0 : Int) < 170141183460469231731687303715884105727 by decide)
  refine ⟨by show 3 ≤ sizeLine; decide, fun b hb => ⟨_, Sub.refl _, q b _ hb ⟨_, _, _, rfl, ?_, ?_, ?_, ?_⟩⟩⟩ <;> omega
theorem rd_law_draw {ss w R} (h : c_law_draw ss w R) : t_law_draw (endsN R) (startD N_law_draw ss) w := by
  obtain ⟨b, m, n, w0, rfl, ⟨x, y, z, rfl, hy, hy2, hz, hz2⟩, hm, hm2, hn, q⟩ := h
  have hb : put w0 b (bagO x y z) b = some (bagO x y z) := put_same
  have mb : m.natAbs < 2 ^ 100 := small_abs (by omega) hm2
  refine ⟨_, rfl, _, ixS_adr hb rfl, _, rfl, _, rfl, iteD (fun c => ?_) fun c => ?_⟩
  · refine ⟨_, rfl, _, ixS_adr hb rfl, _, rfl, _, liftI_ok (decide_eq_true hm), ?_⟩
    refine ⟨_, rfl, _, ixS_adr hb rfl, _, rfl, _, liftI_ok (cDiv_of hm mb (by decide) (by decide)), ?_⟩
    refine ⟨_, rfl, b, _, 0, 0, rfl, rfl, hb, rfl, ?_⟩
    refine ⟨_, rfl, _, Sub.refl _, q _ _ (Int.emod_nonneg _ (by omega)) (Int.emod_lt_of_pos _ hm) ⟨x / m, y, z, by rw [put_put]; rfl, hy, hy2, hz, by omega⟩⟩
  · refine ⟨_, rfl, _, ixS_adr hb rfl, _, rfl, ?_⟩
    refine ⟨_, rfl, b, _, 2, 2, rfl, rfl, hb, rfl, ?_⟩
    rw [put_put]
    have hb2 : put w0 b (bagO x y (z + 1)) b = some (bagO x y (z + 1)) := put_same
    show dSeq _ _ _ _ (put w0 b (bagO x y (z + 1)))
    refine ⟨_, rfl, _, ixS_adr hb2 rfl, _, rfl, _, ixS_adr hb2 rfl, _, liftI_ok (cMul_of (a := 64) (b := 64) (by decide) (small_abs (by omega) (by omega)) (by decide) (by decide) (by decide)), _, rfl, _, liftI_ok (cPow_of (a := 202) (small_abs (by omega) (by omega)) (by decide) (by decide) (by decide)), _, liftI_ok (by decide), ?_⟩
    generalize hmx : (y + 86028121 * (z + 1)) ^ (3 : Int).toNat % 170141183460469231731687303715884105727 = mx
    have e1 := Int.emod_nonneg ((y + 86028121 * (z + 1)) ^ (3 : Int).toNat) (show (170141183460469231731687303715884105727 : Int) ≠ 0 by decide)
    have e2 := Int.emod_lt_of_pos ((y + 86028121 * (z + 1)) ^ (3 : Int).toNat) (show (0 : Int) < 170141183460469231731687303715884105727 by decide)
    rw [hmx] at e1 e2
    refine ⟨_, rfl, _, rfl, _, ixS_adr hb2 rfl, _, liftI_ok (cMul_of (a := 64) (b := 64) (by decide) (small_abs (by omega) (by omega)) (by decide) (by decide) (by decide)), _, rfl, _, liftI_ok (cPow_of (a := 202) (small_abs (by omega) (by omega)) (by decide) (by decide) (by decide)), _, liftI_ok (by decide), ?_⟩
    refine ⟨_, rfl, _, liftI_ok (cDiv_of (b := 64) (by decide) (by decide) (by decide) (by decide)), _, rfl, _, liftI_ok (decide_eq_true hm), ?_⟩
    exact ⟨_, Sub.refl _, q _ _ (Int.emod_nonneg _ (by omega)) (Int.emod_lt_of_pos _ hm) ⟨x, y, z + 1, rfl, hy, hy2, by omega, by omega⟩⟩
end G

set_option Elab.async false
set_option linter.all false
set_option maxRecDepth 100000
set_option maxHeartbeats 4000000
namespace G
open PySem PySem.Spec PyProof.Rows L2 DL
def kv_PARTS : List (Str × Sl) := [("names", .dat (.int 0)), ("most", .dat (.int 0)), ("last", .dat (.int 0)), ("each", .dat (.int 1)), ("both", .dat (.int 2))]
/-! ### bounded data -/
mutual
def szB (n : Nat) : PyData → Bool
  | .none => true
  | .bool _ => true
  | .int i => decide (i.natAbs < 2 ^ (100 + n))
  | .str x => decide (x.length ≤ 4000 * 4 ^ n)
  | .list ds => decide (ds.length ≤ 40 + n) && szA n ds
  | .tuple ds => decide (ds.length ≤ 40 + n) && szA n ds
  | .dict kvs => kvs.isEmpty
def szA (n : Nat) : List PyData → Bool
  | [] => true
  | d :: ds => szB n d && szA n ds
end
theorem szA_all {n : Nat} : ∀ {ds : List PyData}, szA n ds = true ↔ ∀ d ∈ ds, szB n d = true
  | [] => ⟨fun _ _ h => by simp at h, fun _ => by unfold szA; rfl⟩
  | d :: r => by
    unfold szA
    rw [Bool.and_eq_true, szA_all (ds := r)]
    constructor
    · rintro ⟨h1, h2⟩ e he
      rcases List.mem_cons.mp he with rfl | he
      · exact h1
      · exact h2 e he
    · intro h
      exact ⟨h d List.mem_cons_self, fun e he => h e (List.mem_cons_of_mem _ he)⟩
mutual
theorem szB_mono {n m : Nat} (h : n ≤ m) : ∀ (d : PyData), szB n d = true → szB m d = true
  | .none, _ => by unfold szB; rfl
  | .bool _, _ => by unfold szB; rfl
  | .int i, q => by
    unfold szB at q ⊢
    have q := of_decide_eq_true q
    exact decide_eq_true (Nat.lt_of_lt_of_le q (Nat.pow_le_pow_right (by decide) (by omega)))
  | .str x, q => by
    unfold szB at q ⊢
    have q := of_decide_eq_true q
    exact decide_eq_true (Nat.le_trans q (Nat.mul_le_mul_left _ (Nat.pow_le_pow_right (by decide) h)))
  | .list ds, q => by
    unfold szB at q ⊢
    rw [Bool.and_eq_true] at q ⊢
    exact ⟨decide_eq_true (by have := of_decide_eq_true q.1; omega), szA_mono h ds q.2⟩
  | .tuple ds, q => by
    unfold szB at q ⊢
    rw [Bool.and_eq_true] at q ⊢
    exact ⟨decide_eq_true (by have := of_decide_eq_true q.1; omega), szA_mono h ds q.2⟩
  | .dict kvs, q => by unfold szB at q ⊢; exact q
theorem szA_mono {n m : Nat} (h : n ≤ m) : ∀ (ds : List PyData), szA n ds = true → szA m ds = true
  | [], _ => by unfold szA; rfl
  | d :: r, q => by
    unfold szA at q ⊢
    rw [Bool.and_eq_true] at q ⊢
    exact ⟨szB_mono h d q.1, szA_mono h r q.2⟩
end
theorem sz_tup {n : Nat} {ds : List PyData} (h : szB n (.tuple ds) = true) : ds.length ≤ 40 + n ∧ ∀ d ∈ ds, szB n d = true := by
  unfold szB at h
  rw [Bool.and_eq_true] at h
  exact ⟨of_decide_eq_true h.1, szA_all.mp h.2⟩
theorem sz_list {n : Nat} {ds : List PyData} (h : szB n (.list ds) = true) : ds.length ≤ 40 + n ∧ ∀ d ∈ ds, szB n d = true := by
  unfold szB at h
  rw [Bool.and_eq_true] at h
  exact ⟨of_decide_eq_true h.1, szA_all.mp h.2⟩
theorem tup_sz {n : Nat} {ds : List PyData} (h1 : ds.length ≤ 40 + n) (h2 : ∀ d ∈ ds, szB n d = true) : szB n (.tuple ds) = true := by
  unfold szB
  rw [Bool.and_eq_true]
  exact ⟨decide_eq_true h1, szA_all.mpr h2⟩
theorem list_sz {n : Nat} {ds : List PyData} (h1 : ds.length ≤ 40 + n) (h2 : ∀ d ∈ ds, szB n d = true) : szB n (.list ds) = true := by
  unfold szB
  rw [Bool.and_eq_true]
  exact ⟨decide_eq_true h1, szA_all.mpr h2⟩
theorem sz_str {n : Nat} {x : Str} : szB n (.str x) = true ↔ x.length ≤ 4000 * 4 ^ n := by
  unfold szB
  exact ⟨of_decide_eq_true, decide_eq_true⟩
theorem sz_int {n : Nat} {i : Int} : szB n (.int i) = true ↔ i.natAbs < 2 ^ (100 + n) := by
  unfold szB
  exact ⟨of_decide_eq_true, decide_eq_true⟩
/-! ### what is a kind: the program's look, and the law's -/
def partsOf (z : Str) : Option Nat := if z = "names" then some 0 else if z = "most" then some 0 else if z = "last" then some 0 else if z = "each" then some 1 else if z = "both" then some 2 else none
theorem lookup_cons_ne {α : Type} {z k : Str} {a : α} {l : List (Str × α)} (h : z ≠ k) : List.lookup z ((k, a) :: l) = List.lookup z l := by
  have : (z == k) = false := beq_eq_false_iff_ne.mpr h
  simp [List.lookup, this]
theorem lookup_cons_eq {α : Type} {z : Str} {a : α} {l : List (Str × α)} : List.lookup z ((z, a) :: l) = some a := by simp [List.lookup]
theorem lookup_PARTS (z : Str) : kv_PARTS.lookup z = (partsOf z).map fun i => .dat (.int (i : Nat)) := by
  unfold kv_PARTS partsOf
  by_cases h1 : z = "names"
  · subst h1; rw [lookup_cons_eq, if_pos rfl]; rfl
  rw [lookup_cons_ne h1, if_neg h1]
  by_cases h2 : z = "most"
  · subst h2; rw [lookup_cons_eq, if_pos rfl]; rfl
  rw [lookup_cons_ne h2, if_neg h2]
  by_cases h3 : z = "last"
  · subst h3; rw [lookup_cons_eq, if_pos rfl]; rfl
  rw [lookup_cons_ne h3, if_neg h3]
  by_cases h4 : z = "each"
  · subst h4; rw [lookup_cons_eq, if_pos rfl]; rfl
  rw [lookup_cons_ne h4, if_neg h4]
  by_cases h5 : z = "both"
  · subst h5; rw [lookup_cons_eq, if_pos rfl]; rfl
  rw [lookup_cons_ne h5, if_neg h5]
  rfl
def isKindD : Nat → PyData → Bool
  | n + 1, .tuple (.str z :: ks) => (partsOf z == some ks.length) && ks.all (isKindD n)
  | _, _ => false
def dueD : Nat → PyData → Bool
  | n + 1, .tuple (.str z :: ks) =>
    if z = "names" ∨ z = "most" ∨ z = "last" then ks.length == 0
    else if z = "each" then (match ks with | [k] => dueD n k | _ => false)
    else if z = "both" then (match ks with | [k, l] => dueD n k && dueD n l | _ => false)
    else false
  | _, _ => false
theorem kind_due : ∀ (n : Nat) (d : PyData), isKindD n d = dueD n d := by
  intro n
  induction n with
  | zero => intro d; cases d <;> rfl
  | succ n ih =>
    intro d
    cases d <;> try rfl
    rename_i ds
    cases ds with
    | nil => rfl
    | cons e ks =>
      cases e <;> try rfl
      rename_i z
      unfold isKindD dueD partsOf
      by_cases h1 : z = "names"
      · rw [if_pos h1, if_pos (.inl h1)]
        cases ks <;> rfl
      by_cases h2 : z = "most"
      · rw [if_neg h1, if_pos h2, if_pos (.inr (.inl h2))]
        cases ks <;> rfl
      by_cases h3 : z = "last"
      · rw [if_neg h1, if_neg h2, if_pos h3, if_pos (.inr (.inr h3))]
        cases ks <;> rfl
      have h123 : ¬ (z = "names" ∨ z = "most" ∨ z = "last") := by rintro (h | h | h) <;> contradiction
      rw [if_neg h1, if_neg h2, if_neg h3, if_neg h123]
      by_cases h4 : z = "each"
      · rw [if_pos h4, if_pos h4]
        match ks with
        | [] => rfl
        | [k] => simp [ih]
        | _ :: _ :: r => simp
      rw [if_neg h4, if_neg h4]
      by_cases h5 : z = "both"
      · rw [if_pos h5, if_pos h5]
        match ks with
        | [] => rfl
        | [k] => rfl
        | [k, l] => simp [ih]
        | _ :: _ :: _ :: r => simp
      rw [if_neg h5, if_neg h5]
      rfl
def c_is_kind (n : Nat) : Ct := fun ss w R => ∃ d m k, ss = [.dat d, .dat (.int m)] ∧ m ≤ (n : Int) ∧ szB k d = true ∧ k ≤ 5 ∧ R (.dat (.bool (isKindD m.toNat d))) w
def c_law_due (n : Nat) : Ct := fun ss w R => ∃ (d : PyData) (m k : Nat), ss = [.dat d, .dat (.int m)] ∧ m ≤ n ∧ szB k d = true ∧ k ≤ 5 ∧ R (.dat (.bool (dueD m d))) w
def c_law_right : Ct := fun ss w R => ∃ (d : PyData) (k : Nat), ss = [.dat d] ∧ szB k d = true ∧ k ≤ 5 ∧ R (.dat (.bool true)) w
/-- draws for a kind, deep at most n + 1 -/
def kc : Nat → Nat
  | 0 => 2
  | n + 1 => 1 + 2 * kc n
theorem kc_pos : ∀ n, 2 ≤ kc n
  | 0 => by decide
  | n + 1 => by unfold kc; have := kc_pos n; omega
def c_law_kind (n : Nat) : Ct := fun ss w R => ∃ (b : Addr) (m : Int) (c : Nat) (w0 : Om), ss = [.adr b, .dat (.int m)] ∧ Bg b c w0 w ∧ m ≤ (n : Int) + 1 ∧ c + kc n < 2 ^ 60 ∧ ∀ d w', szB 0 d = true → Bg b (c + kc n) w0 w' → R (.dat d) w'
def c_law_odd : Ct := fun ss w R => ∃ (b : Addr) (c : Nat) (w0 : Om), ss = [.adr b] ∧ Bg b c w0 w ∧ c + 1 < 2 ^ 60 ∧ ∀ d w', szB 0 d = true → Bg b (c + 1) w0 w' → R (.dat d) w'
def c_law_turned (n : Nat) : Ct := fun ss w R => ∃ (b : Addr) (d : PyData) (m : Int) (c k : Nat) (w0 : Om), ss = [.adr b, .dat d, .dat (.int m)] ∧ Bg b c w0 w ∧ m ≤ (n : Int) ∧ c + 10 * (n + 1) < 2 ^ 60 ∧ szB k d = true ∧ k ≤ 4 ∧ ∀ d' w', szB (k + 1) d' = true → Bg b (c + 10 * (n + 1)) w0 w' → R (.dat d') w'
theorem len_is_kind {n ss w R} (h : c_is_kind n ss w R) : ss.length = 2 := by obtain ⟨_, _, _, rfl, _⟩ := h; rfl
theorem len_law_due {n ss w R} (h : c_law_due n ss w R) : ss.length = 2 := by obtain ⟨_, _, _, rfl, _⟩ := h; rfl
theorem len_law_right {ss w R} (h : c_law_right ss w R) : ss.length = 1 := by obtain ⟨_, _, rfl, _⟩ := h; rfl
theorem len_law_kind {n ss w R} (h : c_law_kind n ss w R) : ss.length = 2 := by obtain ⟨_, _, _, _, rfl, _⟩ := h; rfl
theorem len_law_odd {ss w R} (h : c_law_odd ss w R) : ss.length = 1 := by obtain ⟨_, _, _, rfl, _⟩ := h; rfl
theorem len_law_turned {n ss w R} (h : c_law_turned n ss w R) : ss.length = 3 := by obtain ⟨_, _, _, _, _, _, rfl, _⟩ := h; rfl
theorem len_law {ss w R} (h : cLaw ss w R) : ss.length = 1 := by obtain ⟨_, rfl, _⟩ := h; rfl
end G

set_option Elab.async false
set_option linter.all false
set_option maxRecDepth 100000
set_option maxHeartbeats 4000000
namespace G
open PySem PySem.Spec PyProof.Rows L2 DL
def N_is_kind : List Str := ["thing", "most", "word", "kinds", "one"]
def t_is_kind (cr : Ct) : DTS :=
  (dSeq (dIfS (dOr (dTst (dOp ltS (dVar 1) (dC (.int 1)))) (dOr (dNot (dTst (dIsi .tuple (dVar 0)))) (dOr (dTst (dOp ltS (dCB lenS (dCons (dVar 0) dNil)) (dC (.int 1)))) (dNot (dTst (dIsi .str (dOp ixS (dVar 0) (dC (.int 0))))))))) (dRet (dC (.bool false))) dNext)
  (dSeq (dAsg (dVar 0) (dGStar 2 1 (dGCons (dName 2) (dGCons (dName 3) dGNil))))
  (dRet (dAndV (dOp (eqS false) (dKGet kv_PARTS (dVar 2)) (dCB lenS (dCons (dVar 3) dNil))) (dCB allS (dCons (dLc (dSeqI (dVar 3)) (dName 4) dYes (dCall cr [] (dCons (dVar 4) (dCons (dOp gSub (dVar 1) (dC (.int 1))) dNil))) [4]) dNil))))))

def N_law_due : List Str := ["thing", "most"]
def t_law_due (cr : Ct) : DTS :=
  (dSeq (dIfS (dOr (dTst (dOp (eqS false) (dVar 1) (dC (.int 0)))) (dOr (dNot (dTst (dIsi .tuple (dVar 0)))) (dOr (dTst (dOp (eqE false) (dVar 0) (dTup dNilD))) (dNot (dTst (dIsi .str (dOp ixS (dVar 0) (dC (.int 0))))))))) (dRet (dC (.bool false))) dNext)
  (dSeq (dIfS (dTst (dOp (inS false) (dOp ixS (dVar 0) (dC (.int 0))) (dTup (dDats (dC (.str "names")) (dDats (dC (.str "most")) (dDats (dC (.str "last")) dNilD)))))) (dRet (dOp (eqS false) (dCB lenS (dCons (dVar 0) dNil)) (dC (.int 1)))) dNext)
  (dSeq (dIfS (dTst (dOp (eqS false) (dOp ixS (dVar 0) (dC (.int 0))) (dC (.str "each")))) (dRet (dAndV (dOp (eqS false) (dCB lenS (dCons (dVar 0) dNil)) (dC (.int 2))) (dCall cr [] (dCons (dOp ixS (dVar 0) (dC (.int 1))) (dCons (dOp gSub (dVar 1) (dC (.int 1))) dNil))))) dNext)
  (dSeq (dIfS (dOr (dTst (dOp (eqS true) (dOp ixS (dVar 0) (dC (.int 0))) (dC (.str "both")))) (dTst (dOp (eqS true) (dCB lenS (dCons (dVar 0) dNil)) (dC (.int 3))))) (dRet (dC (.bool false))) dNext)
  (dRet (dAndV (dCall cr [] (dCons (dOp ixS (dVar 0) (dC (.int 1))) (dCons (dOp gSub (dVar 1) (dC (.int 1))) dNil))) (dCall cr [] (dCons (dOp ixS (dVar 0) (dC (.int 2))) (dCons (dOp gSub (dVar 1) (dC (.int 1))) dNil)))))))))

def N_law_right : List Str := ["thing", "found"]
def t_law_right : DTS :=
  (dSeq (dAsg (dCall (c_is_kind 4) [.dat (.int 4)] (dCons (dVar 0) dNil)) (dName 1))
  (dRet (dAndV (dIsi .bool (dVar 1)) (dOp (eqS false) (dVar 1) (dCall (c_law_due 4) [] (dCons (dVar 0) (dCons (dC (.int 4)) dNil)))))))

def N_law_kind : List Str := ["bag", "deep", "pick"]
def t_law_kind (cr : Ct) : DTS :=
  (dSeq (dAsg (dCall c_law_draw [] (dCons (dVar 0) (dCons (dC (.int 9)) dNil))) (dName 2))
  (dSeq (dIfS (dOr (dTst (dOp ltS (dVar 2) (dC (.int 4)))) (dTst (dOp ltS (dVar 1) (dC (.int 2))))) (dRet (dFz (dOp ixS (dFz (dLstD (dDats (dTup (dDats (dC (.str "names")) dNilD)) (dDats (dTup (dDats (dC (.str "most")) dNilD)) (dDats (dTup (dDats (dC (.str "last")) dNilD)) dNilD))))) (dCall c_law_draw [] (dCons (dVar 0) (dCons (dC (.int 3)) dNil)))))) dNext)
  (dSeq (dIfS (dTst (dOp ltS (dVar 2) (dC (.int 7)))) (dRet (dFz (dTup (dDats (dC (.str "each")) (dDats (dCall cr [] (dCons (dVar 0) (dCons (dOp gSub (dVar 1) (dC (.int 1))) dNil))) dNilD))))) dNext)
  (dRet (dFz (dTup (dDats (dC (.str "both")) (dDats (dCall cr [] (dCons (dVar 0) (dCons (dOp gSub (dVar 1) (dC (.int 1))) dNil))) (dDats (dCall cr [] (dCons (dVar 0) (dCons (dOp gSub (dVar 1) (dC (.int 1))) dNil))) dNilD)))))))))

def N_law_odd : List Str := ["bag", "some"]
def t_law_odd : DTS :=
  (dSeq (dAsg (dFz (dLstD (dDats (dC .none) (dDats (dC (.bool true)) (dDats (dC (.bool false)) (dDats (dC (.int 0)) (dDats (dC (.int 1)) (dDats (dNeg (dC (.int 1))) (dDats (dC (.int 7)) (dDats (dOp gPow (dC (.int 10)) (dC (.int 20))) (dDats (dC (.str "")) (dDats (dC (.str "a")) (dDats (dC (.str "B")) (dDats (dC (.str "ab\n")) (dDats (dC (.str "abcdefghi")) (dDats (dC (.str "names")) (dDats (dC (.str "each")) (dDats (dTup dNilD) (dDats (dFz (dLstD dNilD)) (dDats dDic0 dNilD)))))))))))))))))))) (dName 1))
  (dSeq (dAsg (dFz (dOp addS (dVar 1) (dFz (dLstD (dDats (dTup (dDats (dC (.str "a")) dNilD)) (dDats (dFz (dLstD (dDats (dC (.str "a")) dNilD))) (dDats (dTup (dDats (dC (.int 0)) (dDats (dC (.int 0)) dNilD))) (dDats (dTup (dDats (dC (.int 0)) (dDats (dC (.int 1)) dNilD))) (dDats (dTup (dDats (dC (.int 1)) (dDats (dC (.int 0)) dNilD))) (dDats (dTup (dDats (dC (.int 1)) (dDats (dC (.bool true)) dNilD))) (dDats (dTup (dDats (dC (.str "b")) (dDats (dC (.str "a")) dNilD))) (dDats (dTup (dDats (dC (.str "a")) (dDats (dC (.str "a")) dNilD))) (dDats (dTup (dDats (dTup (dDats (dC (.str "a")) (dDats (dC (.int 1)) dNilD))) dNilD)) (dDats (dTup (dDats (dTup (dDats (dC (.str "a")) (dDats (dC (.int 0)) dNilD))) dNilD)) dNilD)))))))))))))) (dName 1))
  (dSeq (dAsg (dFz (dOp addS (dVar 1) (dFz (dLstD (dDats (dTup (dDats (dC (.str "names")) dNilD)) (dDats (dTup (dDats (dC (.str "most")) dNilD)) (dDats (dTup (dDats (dC (.str "last")) dNilD)) (dDats (dFz (dLstD (dDats (dC (.str "names")) dNilD))) (dDats (dTup (dDats (dC (.str "names")) (dDats (dC (.str "names")) dNilD))) (dDats (dTup (dDats (dC (.str "each")) dNilD)) (dDats (dTup (dDats (dC (.str "both")) (dDats (dTup (dDats (dC (.str "most")) dNilD)) dNilD))) dNilD))))))))))) (dName 1))
  (dSeq (dAsg (dFz (dOp addS (dVar 1) (dFz (dLstD (dDats (dC (.str "a1")) (dDats (dC (.str "a_b")) dNilD)))))) (dName 1))
  (dRet (dFz (dOp ixS (dVar 1) (dCall c_law_draw [] (dCons (dVar 0) (dCons (dC (.int 37)) dNil))))))))))

def N_law_turned : List Str := ["bag", "thing", "deep", "row", "at", "lot", "some", "signs", "place"]
def t_law_turned (cr : Ct) : DTS :=
  (dSeq (dAsg (dIf (dTst (dIsi2 .list .tuple (dVar 1))) (dCB listS (dCons (dVar 1) dNil)) (dLstD dNilD)) (dName 3))
  (dSeq (dAsg (dCall c_law_draw [] (dCons (dVar 0) (dCons (dOp addS (dCB lenS (dCons (dVar 3) dNil)) (dC (.int 1))) dNil))) (dName 4))
  (dSeq (dIfS (dAnd (dTst (dOp gtS (dVar 2) (dC (.int 0)))) (dTst (dOp ltS (dVar 4) (dCB lenS (dCons (dVar 3) dNil))))) (dSeq (dAsg (dCall cr [] (dCons (dVar 0) (dCons (dOp ixS (dVar 3) (dVar 4)) (dCons (dOp gSub (dVar 2) (dC (.int 1))) dNil)))) (dSetL (dVar 3) (dVar 4)))
  (dRet (dFz (dIf (dTst (dIsi .list (dVar 1))) (dVar 3) (dCB tupS (dCons (dVar 3) dNil)))))) dNext)
  (dSeq (dAsg (dCall c_law_draw [] (dCons (dVar 0) (dCons (dC (.int 8)) dNil))) (dName 5))
  (dSeq (dIfS (dTst (dOp (eqE true) (dVar 3) (dFz (dLstD dNilD)))) (dSeq (dAsg (dOp gMod (dVar 4) (dCB lenS (dCons (dVar 3) dNil))) (dName 4))
  (dSeq (dAsg (dFz (dLstD (dDats (dFz (dOp addS (dFz (dSl (dVar 3) dNoPart (dPart (dVar 4)))) (dFz (dSl (dVar 3) (dPart (dOp addS (dVar 4) (dC (.int 1)))) dNoPart)))) (dDats (dFz (dOp addS (dFz (dOp addS (dFz (dSl (dVar 3) dNoPart (dPart (dVar 4)))) (dFz (dSl (dVar 3) (dPart (dVar 4)) (dPart (dOp addS (dVar 4) (dC (.int 1)))))))) (dFz (dSl (dVar 3) (dPart (dVar 4)) dNoPart)))) (dDats (dFz (dRev (dVar 3))) dNilD))))) (dName 6))
  (dSeq (dAsg (dFz (dOp addS (dVar 6) (dFz (dLstD (dDats (dFz (dOp addS (dFz (dOp addS (dFz (dSl (dVar 3) dNoPart (dPart (dVar 4)))) (dFz (dLstD (dDats (dCall c_law_odd [] (dCons (dVar 0) dNil)) dNilD))))) (dFz (dSl (dVar 3) (dPart (dVar 4)) dNoPart)))) (dDats (dFz (dOp addS (dFz (dOp addS (dFz (dSl (dVar 3) dNoPart (dPart (dVar 4)))) (dFz (dLstD (dDats (dCall c_law_odd [] (dCons (dVar 0) dNil)) dNilD))))) (dFz (dSl (dVar 3) (dPart (dOp addS (dVar 4) (dC (.int 1)))) dNoPart)))) dNilD)))))) (dName 6))
  (dSeq (dIfS (dTst (dOp ltS (dVar 5) (dC (.int 5)))) (dRet (dFz (dIf (dTst (dIsi .list (dVar 1))) (dOp ixS (dVar 6) (dVar 5)) (dCB tupS (dCons (dOp ixS (dVar 6) (dVar 5)) dNil))))) dNext)
  (dIfS (dTst (dOp (eqS false) (dVar 5) (dC (.int 5)))) (dRet (dFz (dIf (dTst (dIsi .list (dVar 1))) (dCB tupS (dCons (dVar 3) dNil)) (dVar 3)))) dNext))))) dNext)
  (dSeq (dIfS (dAnd (dTst (dIsi .str (dVar 1))) (dTst (dOp ltS (dVar 5) (dC (.int 6))))) (dRet (dFz (dOp ixS (dFz (dLstD (dDats (dOp addS (dVar 1) (dC (.str "a"))) (dDats (dFz (dSl (dVar 1) (dPart (dC (.int 1))) dNoPart)) (dDats (dUpper (dVar 1)) (dDats (dOp addS (dVar 1) (dC (.str " "))) (dDats (dFz (dLstD (dDats (dVar 1) dNilD))) (dDats (dOp addS (dC (.str "a")) (dVar 1)) dNilD)))))))) (dVar 5)))) dNext)
  (dSeq (dIfS (dAnd (dTst (dIsi .str (dVar 1))) (dTst (dOp (eqS false) (dVar 5) (dC (.int 6))))) (dSeq (dAsg (dC (.str "0123456789_-.,:;!?'\"#$&()*+/<=>@ABCXYZ[\\]^`{|}~ \t\nabz")) (dName 7))
  (dSeq (dAsg (dCall c_law_draw [] (dCons (dVar 0) (dCons (dOp addS (dCB lenS (dCons (dVar 1) dNil)) (dC (.int 1))) dNil))) (dName 8))
  (dRet (dFz (dOp addS (dFz (dOp addS (dFz (dSl (dVar 1) dNoPart (dPart (dVar 8)))) (dOp ixS (dVar 7) (dCall c_law_draw [] (dCons (dVar 0) (dCons (dCB lenS (dCons (dVar 7) dNil)) dNil)))))) (dFz (dSl (dVar 1) (dPart (dVar 8)) dNoPart))))))) dNext)
  (dSeq (dIfS (dAnd (dTst (dIsi .int (dVar 1))) (dAnd (dNot (dTst (dIsi .bool (dVar 1)))) (dTst (dOp ltS (dVar 5) (dC (.int 6)))))) (dRet (dFz (dOp ixS (dFz (dLstD (dDats (dOp addS (dVar 1) (dC (.int 1))) (dDats (dOp gSub (dVar 1) (dC (.int 1))) (dDats (dOp gSub (dC (.int 0)) (dVar 1)) (dDats (dCB strS (dCons (dVar 1) dNil)) (dDats (dFz (dLstD (dDats (dVar 1) dNilD))) (dDats (dOp (eqS false) (dVar 1) (dC (.int 1))) dNilD)))))))) (dVar 5)))) dNext)
  (dRet (dFz (dCall c_law_odd [] (dCons (dVar 0) dNil))))))))))))

def N_law : List Str := ["script", "k", "bag", "thing", "turn"]
def t_law : DTS :=
  (dSeq (dFor (dRng1 (dCons (dCB maxS (dCons (dC (.int 1)) (dCons (dCB minS (dCons (dC (.int 20)) (dCons (dCB lenS (dCons (dVar 0) dNil)) dNil))) dNil))) dNil)) (dName 1) (dSeq (dAsg (dCall c_law_bag [] (dCons (dCall c_law_cell_at [] (dCons (dVar 0) (dCons (dVar 1) dNil))) (dCons (dVar 1) dNil))) (dName 2))
  (dSeq (dAsg (dCall (c_law_kind 4) [] (dCons (dVar 2) (dCons (dOp addS (dC (.int 1)) (dCall c_law_draw [] (dCons (dVar 2) (dCons (dC (.int 5)) dNil)))) dNil))) (dName 3))
  (dSeq (dFor (dRng1 (dCons (dCall c_law_draw [] (dCons (dVar 2) (dCons (dC (.int 4)) dNil))) dNil)) (dName 4) (dSeq (dIfS (dNot (dTst (dCall c_law_right [] (dCons (dVar 3) dNil)))) (dRet (dC (.bool false))) dNext)
  (dAsg (dCall (c_law_turned 4) [] (dCons (dVar 2) (dCons (dVar 3) (dCons (dCall c_law_draw [] (dCons (dVar 2) (dCons (dC (.int 5)) dNil))) dNil)))) (dName 3))))
  (dIfS (dOr (dNot (dTst (dCall c_law_right [] (dCons (dVar 3) dNil)))) (dNot (dTst (dCall c_law_right [] (dCons (dCall c_law_odd [] (dCons (dVar 2) dNil)) dNil))))) (dRet (dC (.bool false))) dNext)))))
  (dRet (dC (.bool true))))

end G

set_option Elab.async false
set_option linter.all false
set_option maxRecDepth 100000
set_option maxHeartbeats 4000000
namespace G
open PySem PySem.Spec PyProof.Rows L2 DL
theorem sq_line {n : Nat} (h : n ≤ 16000) : n ≤ sizeLine := Nat.le_trans h (by decide)
theorem ix_t0 {w : Om} {e : PyData} {ks : List PyData} : ixS w (.dat (.tuple (e :: ks))) (.dat (.int 0)) = some (.v (.dat e)) := ixS_tup (atI_nat (j := 0) rfl)
theorem ix_t1 {w : Om} {e f : PyData} {ks : List PyData} : ixS w (.dat (.tuple (e :: f :: ks))) (.dat (.int 1)) = some (.v (.dat f)) := ixS_tup (atI_nat (j := 1) rfl)
theorem ix_t2 {w : Om} {e f g : PyData} {ks : List PyData} : ixS w (.dat (.tuple (e :: f :: g :: ks))) (.dat (.int 2)) = some (.v (.dat g)) := ixS_tup (atI_nat (j := 2) rfl)
theorem in_3 {w : Om} {z a b c : Str} : inS false w (.dat (.str z)) (.dat (.tuple [.str a, .str b, .str c])) = some (.v (.dat (.bool (a == z || (b == z || (c == z || false)))))) := rfl
local macro_rules | `(tactic| walk_at "rr") => `(tactic| repeat (first | refine ⟨_, ix_t0, ?_⟩ | refine ⟨_, ix_t1, ?_⟩ | refine ⟨_, ix_t2, ?_⟩ | refine ⟨_, in_3, ?_⟩ | refine ⟨_, rfl, ?_⟩ | refine iteT ?_ | refine iteF ?_ | refine And.intro (sq_line (by simp)) ?_))
/-- a comprehension without a test whose element leaves the store -/
theorem lc_map {ok : Om → Prop} {g : DTG} {te : DTE} {ρ : DEnv} {k : List Sl → Om → Prop} {w : Om} (f : Sl → Sl) (hok : ok w) : ∀ (xs acc : List Sl), (∀ x ∈ xs, ∀ C : DQ, C (f x) w → g x ρ w fun ρ2 w2 => te ρ2 w2 C) → acc.length + xs.length ≤ sizeLine → k (acc ++ xs.map f) w → dLcL ok g dYes te ρ k xs acc w
  | [], acc, _, _, h => ⟨hok, by simpa using h⟩
  | x :: xs, acc, hs, hl, h => by
    refine ⟨hok, ?_⟩
    have q := hs x List.mem_cons_self (fun y w4 => acc.length < sizeLine ∧ dLcL ok g dYes te ρ k xs (acc ++ [y]) w4) ⟨by simp at hl; omega, lc_map f hok xs (acc ++ [f x]) (fun z hz => hs z (List.mem_cons_of_mem _ hz)) (by simp at hl ⊢; omega) (by simpa using h)⟩
    exact q
theorem gstar1 {t : DTGs} {x : Sl} {r : List Sl} {ρ : DEnv} {w : Om} {R : DEnv → Om → Prop} (hl : r.length ≤ 16000) (h : ∀ p, w p = none → t [x, .adr p] ρ (put w p (.lst r)) R) :
    1 < 2 ∧ 2 ≤ (x :: r).length + 1 ∧ (x :: r).length ≤ 16384 ∧ ∀ p, w p = none → t ((x :: r).take 1 ++ [.adr p] ++ ((x :: r).drop 1).drop ((x :: r).length + 1 - 2)) ρ (put w p (.lst (((x :: r).drop 1).take ((x :: r).length + 1 - 2)))) R := by
  refine ⟨by decide, by simp, by simp; omega, fun p hp => ?_⟩
  have := h p hp
  simpa using this
theorem all_map (f : PyData → Bool) (ks : List PyData) : (ks.map f).all id = ks.all f := by simp [List.all_map]
theorem rd_is_kind (n : Nat) {ss w R} (h : c_is_kind n ss w R) : t_is_kind (prev c_is_kind n) (endsN R) (startD N_is_kind ss) w := by
  obtain ⟨d, m, k, rfl, hm, hz, hk, q⟩ := h
  have no : isKindD m.toNat d = false → ∃ u, Sub u w ∧ R (.dat (.bool false)) u := fun e => ⟨w, Sub.refl _, by rw [e] at q; exact q⟩
  refine ⟨_, rfl, _, rfl, _, rfl, ?_⟩
  refine iteD (fun c => ?_) fun c => ?_
  · refine iteT (no ?_)
    have : m.toNat = 0 := by omega
    rw [this]; cases d <;> rfl
  obtain ⟨j, hj⟩ : ∃ j, m.toNat = j + 1 := ⟨m.toNat - 1, by omega⟩
  rw [hj] at no q
  obtain ⟨n', rfl⟩ : ∃ n', n = n' + 1 := ⟨n - 1, by omega⟩
  cases d with
  | tuple ds =>
    cases ds with
    | nil => walk_at "rr"; exact no rfl
    | cons e ks =>
      obtain ⟨hl, hd⟩ := sz_tup hz
      have hlen : ¬ (((e :: ks).map Sl.dat).length : Int) < 1 := by simp; omega
      have hlk : ks.length ≤ 45 := by simp at hl; omega
      walk_at "rr"
      cases e with
      | str z =>
        walk_at "rr"
        refine gstar1 (by simp; omega) fun p hp => ?_
        have hsq : put w p (.lst (ks.map Sl.dat)) p = some (.lst (ks.map Sl.dat)) := put_same
        have hw : Sub w (put w p (.lst (ks.map Sl.dat))) := Sub.new hp
        refine ⟨_, _, rfl, _, _, rfl, rfl, ?_⟩
        refine ⟨_, rfl, _, rfl, _, rfl, _, lenS_sq (sq_adr hsq), ?_⟩
        rw [lookup_PARTS]
        have fin : ∀ b : Bool, isKindD (j + 1) (.tuple (.str z :: ks)) = b → ∃ u, Sub u (put w p (.lst (ks.map Sl.dat))) ∧ R (.dat (.bool b)) u := fun b e => ⟨w, hw, by rw [← e]; exact q⟩
        cases hz2 : partsOf z with
        | none =>
          refine ⟨_, eqS_ok (k := false) rfl rfl rfl, false, rfl, fin false ?_⟩
          unfold isKindD; rw [hz2]; rfl
        | some i =>
          refine ⟨_, eqS_ok (k := ((i : Nat) : Int) == ((ks.map Sl.dat).length : Int)) rfl rfl rfl, _, rfl, ?_⟩
          refine iteB (fun c1 => ?_) fun c1 => ?_
          · have c3 : ((i : Nat) : Int) = (ks.length : Nat) := by simpa using c1
            have c2 : i = ks.length := by omega
            refine ⟨_, rfl, _, sq_adr hsq, ?_⟩
            refine lc_map (w := put w p (.lst (ks.map Sl.dat))) (fun s => match s with | .dat d => .dat (.bool (isKindD j d)) | s => s) hsq _ _ (fun x hx C hC => ?_) (sq_line (by simp; omega)) ?_
            · obtain ⟨d, hd2, rfl⟩ := List.mem_map.mp hx
              refine ⟨_, rfl, _, rfl, _, liftI_ok rfl, ?_⟩
              refine ⟨d, m - 1, k, rfl, by omega, hd d (List.mem_cons_of_mem _ hd2), hk, ?_⟩
              have : (m - 1).toNat = j := by omega
              rw [this]
              exact hC
            · intro p2 hp2
              refine ⟨_, allS_ok (bs := ks.map (isKindD j)) (sqL_adr (put_same.trans ?_)), w, hw.trans (Sub.new hp2), ?_⟩
              · simp
              · have : (true && ks.all (isKindD j)) = isKindD (j + 1) (.tuple (.str z :: ks)) := by
                  unfold isKindD; rw [hz2, c2]; simp
                rw [all_map, ← Bool.true_and (ks.all _), this]
                exact q
          · refine fin false ?_
            have c3 : ¬ ((i : Nat) : Int) = (ks.length : Nat) := by simpa using c1
            have c2 : ¬ i = ks.length := by omega
            unfold isKindD; rw [hz2]; simp [c2]
      | none => walk_at "rr"; exact no rfl
      | bool _ => walk_at "rr"; exact no rfl
      | int _ => walk_at "rr"; exact no rfl
      | list _ => walk_at "rr"; exact no rfl
      | tuple _ => walk_at "rr"; exact no rfl
      | dict _ => walk_at "rr"; exact no rfl
  | none => walk_at "rr"; exact no rfl
  | bool _ => walk_at "rr"; exact no rfl
  | int _ => walk_at "rr"; exact no rfl
  | str _ => walk_at "rr"; exact no rfl
  | list _ => walk_at "rr"; exact no rfl
  | dict _ => walk_at "rr"; exact no rfl
def dueE (j : Nat) : List PyData → Bool
  | [k] => dueD j k
  | _ => false
def dueB (j : Nat) : List PyData → Bool
  | [k, l] => dueD j k && dueD j l
  | _ => false
theorem due_e {j : Nat} {z : Str} {ks : List PyData} (c2 : ¬ (z = "names" ∨ z = "most" ∨ z = "last")) (c4 : z = "each") : dueD (j + 1) (.tuple (.str z :: ks)) = dueE j ks := by
  unfold dueD; rw [if_neg c2, if_pos c4]
  match ks with
  | [] => rfl
  | [_] => rfl
  | _ :: _ :: _ => rfl
theorem due_b {j : Nat} {z : Str} {ks : List PyData} (c2 : ¬ (z = "names" ∨ z = "most" ∨ z = "last")) (c4 : ¬ z = "each") (c6 : z = "both") : dueD (j + 1) (.tuple (.str z :: ks)) = dueB j ks := by
  unfold dueD; rw [if_neg c2, if_neg c4, if_pos c6]
  match ks with
  | [] => rfl
  | [_] => rfl
  | [_, _] => rfl
  | _ :: _ :: _ :: _ => rfl
theorem due_n {j : Nat} {z : Str} {ks : List PyData} (c2 : z = "names" ∨ z = "most" ∨ z = "last") : dueD (j + 1) (.tuple (.str z :: ks)) = (((((PyData.str z :: ks).map Sl.dat).length : Int) == 1) != false) := by
  unfold dueD; rw [if_pos c2]
  cases ks with
  | nil => rfl
  | cons a r =>
    have : ((((PyData.str z :: a :: r).map Sl.dat).length : Int) == 1) = false := by
      rw [beq_eq_false_iff_ne]; simp; omega
    rw [this]; rfl
theorem rd_law_due (n : Nat) {ss w R} (h : c_law_due n ss w R) : t_law_due (prev c_law_due n) (endsN R) (startD N_law_due ss) w := by
  obtain ⟨d, m, k, rfl, hm, hz, hk, q⟩ := h
  have no : dueD m d = false → ∃ u, Sub u w ∧ R (.dat (.bool false)) u := fun e => ⟨w, Sub.refl _, by rw [e] at q; exact q⟩
  refine ⟨_, rfl, _, rfl, _, rfl, ?_⟩
  cases m with
  | zero => refine iteT (no ?_); cases d <;> rfl
  | succ j =>
  have hj : (((j + 1 : Nat) : Int) == 0) = false := by simp; omega
  refine iteB (fun c => ?_) fun _ => ?_
  · rw [Bool.bne_false] at c; rw [hj] at c; cases c
  obtain ⟨n', rfl⟩ : ∃ n', n = n' + 1 := ⟨n - 1, by omega⟩
  cases d with
  | tuple ds =>
    cases ds with
    | nil => walk_at "rr"; exact no rfl
    | cons e ks =>
      obtain ⟨hl, hd⟩ := sz_tup hz
      cases e with
      | str z =>
        walk_at "rr"
        refine iteB (fun c1 => ?_) fun c1 => ?_
        · have c2 : z = "names" ∨ z = "most" ∨ z = "last" := by
            simp only [Bool.or_eq_true, beq_iff_eq, Bool.false_eq_true, or_false] at c1
            exact c1.imp Eq.symm (Or.imp Eq.symm Eq.symm)
          walk_at "rr"
          refine ⟨w, Sub.refl _, ?_⟩
          rw [← due_n (j := j) c2]; exact q
        have c2 : ¬ (z = "names" ∨ z = "most" ∨ z = "last") := by
          simp only [Bool.or_eq_false_iff, beq_eq_false_iff_ne] at c1
          rintro (h | h | h)
          · exact c1.1 h.symm
          · exact c1.2.1 h.symm
          · exact c1.2.2.1 h.symm
        walk_at "rr"
        refine iteB (fun c3 => ?_) fun c3 => ?_
        · have c4 : z = "each" := by simpa using c3
          rw [due_e c2 c4] at q
          clear no hz hl c1
          walk_at "rr"
          match ks, hd, q with
          | [], _, q2 => walk_at "rr"; exact ⟨w, Sub.refl _, q2⟩
          | [a], hd, q2 =>
            walk_at "rr"
            refine ⟨a, j, k, ?_, by omega, hd a (by simp), hk, w, Sub.refl _, q2⟩
            congr 3
            simp
          | _ :: _ :: r, _, q2 =>
            refine iteB (fun c => ?_) fun c => ⟨w, Sub.refl _, q2⟩
            simp at c; omega
        have c4 : ¬ z = "each" := by simpa using c3
        walk_at "rr"
        refine iteB (fun c5 => ?_) fun c5 => ?_
        · have c6 : ¬ z = "both" := by simpa using c5
          walk_at "rr"
          refine no ?_
          unfold dueD; rw [if_neg c2, if_neg c4, if_neg c6]
        have c6 : z = "both" := by simpa using c5
        rw [due_b c2 c4 c6] at q
        clear no hz hl c1
        walk_at "rr"
        match ks, hd, q with
        | [], _, q2 => walk_at "rr"; exact ⟨w, Sub.refl _, q2⟩
        | [_], _, q2 => walk_at "rr"; exact ⟨w, Sub.refl _, q2⟩
        | [a, b], hd, q2 =>
          walk_at "rr"
          refine ⟨a, j, k, ?_, by omega, hd a (by simp), hk, _, rfl, ?_⟩
          · congr 3
            simp
          refine iteB (fun c7 => ?_) fun c7 => ?_
          · walk_at "rr"
            refine ⟨b, j, k, ?_, by omega, hd b (by simp), hk, w, Sub.refl _, ?_⟩
            · congr 3
              simp
            · have : dueB j [a, b] = dueD j b := by show (dueD j a && dueD j b) = _; rw [c7]; rfl
              rw [← this]; exact q2
          · refine ⟨w, Sub.refl _, ?_⟩
            have : dueB j [a, b] = false := by show (dueD j a && dueD j b) = _; rw [c7]; rfl
            rw [← this]; exact q2
        | _ :: _ :: _ :: r, _, q2 =>
          refine iteB (fun c => ?_) fun c => ?_
          · walk_at "rr"
            exact ⟨w, Sub.refl _, q2⟩
          · simp at c; omega
      | none => walk_at "rr"; exact no rfl
      | bool _ => walk_at "rr"; exact no rfl
      | int _ => walk_at "rr"; exact no rfl
      | list _ => walk_at "rr"; exact no rfl
      | tuple _ => walk_at "rr"; exact no rfl
      | dict _ => walk_at "rr"; exact no rfl
  | none => walk_at "rr"; exact no rfl
  | bool _ => walk_at "rr"; exact no rfl
  | int _ => walk_at "rr"; exact no rfl
  | str _ => walk_at "rr"; exact no rfl
  | list _ => walk_at "rr"; exact no rfl
  | dict _ => walk_at "rr"; exact no rfl
end G

set_option Elab.async false
set_option linter.all false
set_option maxRecDepth 100000
set_option maxHeartbeats 4000000
namespace G
open PySem PySem.Spec PyProof.Rows L2 DL
theorem frzL {ds : List PyData} {w : Om} {k : PyData → Om → Prop} (hl : ds.length ≤ sizeLine) (h : k (.list ds) w) : ds.length ≤ sizeLine ∧ ∀ p, w p = none → frz (.adr p) (put w p (.lst (ds.map .dat))) k :=
  ⟨hl, fun p hp => ⟨ds, put_same, by rw [del_put hp]; exact h⟩⟩
theorem frzM {ds : List PyData} {w : Om} {k : PyData → Om → Prop} (hl : ds.length ≤ sizeLine) (h : k (.list ds) w) : (ds.map Sl.dat).length ≤ sizeLine ∧ ∀ p, w p = none → frz (.adr p) (put w p (.lst (ds.map .dat))) k := by
  rw [List.length_map]; exact frzL hl h
theorem addL {w : Om} {a b : List PyData} : addS w (.dat (.list a)) (.dat (.list b)) = some (.nl ((a ++ b).map .dat)) := by
  rw [List.map_append]; rfl
theorem atI_mem {α : Type} {xs : List α} {r : Int} (h0 : 0 ≤ r) (h1 : r < xs.length) : ∃ d, d ∈ xs ∧ atI xs r = some d := by
  obtain ⟨k, rfl⟩ := Int.eq_ofNat_of_zero_le h0
  have hk : k < xs.length := by omega
  exact ⟨xs[k], List.getElem_mem hk, atI_lt hk⟩
theorem Bg.sub {b : Addr} {n : Nat} {w0 w1 w' : Om} (h : Bg b n w1 w') (s : Sub w0 w1) : ∃ u, Sub u w' ∧ Bg b n w0 u := by
  obtain ⟨x, y, z, e, h1⟩ := h
  exact ⟨DL.put w0 b (bagO x y z), by rw [e]; exact Sub.put s, x, y, z, rfl, h1⟩
local macro_rules | `(tactic| walk_at "rr") => `(tactic| repeat (first | refine ⟨_, ix_t0, ?_⟩ | refine ⟨_, addL, ?_⟩ | refine ⟨_, rfl, ?_⟩ | refine frzL (sq_line (by simp)) ?_ | refine frzM (sq_line (by simp)) ?_ | refine iteT ?_ | refine iteF ?_ | refine And.intro (sq_line (by simp)) ?_))
theorem rd_law_right {ss w R} (h : c_law_right ss w R) : t_law_right (endsN R) (startD N_law_right ss) w := by
  obtain ⟨d, k, rfl, hz, hk, q⟩ := h
  refine ⟨_, rfl, d, 4, k, rfl, by decide, hz, hk, ?_⟩
  walk_at "rr"
  refine ⟨d, 4, k, rfl, by decide, hz, hk, _, rfl, ?_⟩
  refine ⟨w, Sub.refl _, ?_⟩
  have : ((isKindD (4 : Int).toNat d == dueD 4 d) != false) = true := by
    rw [kind_due, show (4 : Int).toNat = 4 from rfl]; simp
  rw [this]; exact q
theorem rd_law_kind (n : Nat) {ss w R} (h : c_law_kind n ss w R) : t_law_kind (prev c_law_kind n) (endsN R) (startD N_law_kind ss) w := by
  obtain ⟨b, m, c, w0, rfl, hB, hm, hc, q⟩ := h
  have kp := kc_pos n
  refine ⟨_, rfl, b, 9, c, w0, rfl, hB, by decide, by decide, by omega, fun r w1 r0 r1 hB1 => ?_⟩
  walk_at "rr"
  refine iteD (fun c1 => ?_) fun c1 => ?_
  · walk_at "rr"
    refine ⟨b, 3, c + 1, w0, rfl, hB1, by decide, by decide, by omega, fun r w2 r0 r1 hB2 => ?_⟩
    obtain ⟨d, hd, hat⟩ := atI_mem (xs := [PyData.tuple [.str "names"], .tuple [.str "most"], .tuple [.str "last"]]) r0 r1
    refine ⟨_, ixS_list hat, w2, Sub.refl _, ?_⟩
    exact q d w2 (szA_all.mp (by decide) d hd) (hB2.mono (by omega))
  walk_at "rr"
  refine iteD (fun c2 => ?_) fun c2 => ?_
  · walk_at "rr"
    refine ⟨b, 3, c + 1, w0, rfl, hB1, by decide, by decide, by omega, fun r w2 r0 r1 hB2 => ?_⟩
    obtain ⟨d, hd, hat⟩ := atI_mem (xs := [PyData.tuple [.str "names"], .tuple [.str "most"], .tuple [.str "last"]]) r0 r1
    refine ⟨_, ixS_list hat, w2, Sub.refl _, ?_⟩
    exact q d w2 (szA_all.mp (by decide) d hd) (hB2.mono (by omega))
  obtain ⟨n', rfl⟩ : ∃ n', n = n' + 1 := ⟨n - 1, by omega⟩
  have kq : kc (n' + 1) = 1 + 2 * kc n' := rfl
  walk_at "rr"
  refine iteD (fun c3 => ?_) fun c3 => ?_
  · walk_at "rr"
    refine ⟨b, m - 1, c + 1, w0, rfl, hB1, by omega, by omega, fun d w2 hd hB2 => ?_⟩
    walk_at "rr"
    refine ⟨w2, Sub.refl _, q _ _ (tup_sz (by simp) (by
      intro e he
      simp only [List.mem_cons, List.not_mem_nil, or_false] at he
      rcases he with rfl | rfl
      · decide
      · exact hd)) (hB2.mono (by omega))⟩
  · walk_at "rr"
    refine ⟨b, m - 1, c + 1, w0, rfl, hB1, by omega, by omega, fun d w2 hd hB2 => ?_⟩
    walk_at "rr"
    refine ⟨b, m - 1, c + 1 + kc n', w0, rfl, hB2, by omega, by omega, fun d' w3 hd' hB3 => ?_⟩
    walk_at "rr"
    refine ⟨w3, Sub.refl _, q _ _ (tup_sz (by simp) (by
      intro e he
      simp only [List.mem_cons, List.not_mem_nil, or_false] at he
      rcases he with rfl | rfl | rfl
      · decide
      · exact hd
      · exact hd')) (hB3.mono (by omega))⟩
theorem rd_law_odd {ss w R} (h : c_law_odd ss w R) : t_law_odd (endsN R) (startD N_law_odd ss) w := by
  obtain ⟨b, c, w0, rfl, hB, hc, q⟩ := h
  walk_at "rr"
  refine ⟨b, 37, c, w0, rfl, hB, by decide, by decide, by omega, fun r w2 r0 r1 hB2 => ?_⟩
  obtain ⟨d, hd, hat⟩ := atI_mem (xs := [PyData.none, PyData.bool true, PyData.bool false, PyData.int 0, PyData.int 1,
    PyData.int (-1), PyData.int 7, PyData.int (10 ^ (20 : Int).toNat), .str "", .str "a", .str "B", .str "ab\n", .str "abcdefghi", .str "names", .str "each", .tuple [], .list [], .dict [],
    .tuple [.str "a"], .list [.str "a"], .tuple [.int 0, .int 0], .tuple [.int 0, .int 1], .tuple [.int 1, .int 0], .tuple [.int 1, .bool true], .tuple [.str "b", .str "a"], .tuple [.str "a", .str "a"],
    .tuple [.tuple [.str "a", .int 1]], .tuple [.tuple [.str "a", .int 0]], .tuple [.str "names"], .tuple [.str "most"], .tuple [.str "last"], .list [.str "names"], .tuple [.str "names", .str "names"], .tuple [.str "each"], .tuple [.str "both", .tuple [.str "most"]],
    .str "a1", .str "a_b"]) r0 r1
  refine ⟨_, ixS_list hat, w2, Sub.refl _, ?_⟩
  exact q d w2 (szA_all.mp (by decide) d hd) hB2
end G

set_option Elab.async false
set_option linter.all false
set_option maxRecDepth 100000
set_option maxHeartbeats 4000000
namespace G
open PySem PySem.Spec PyProof.Rows L2 DL
theorem and_split {ta tb : DTT} {ρ : DEnv} {w : Om} {R : Bool → Om → Prop} (k1 k2 : Bool) (h1 : ∀ C : Bool → Om → Prop, C k1 w → ta ρ w C) (h2 : ∀ C : Bool → Om → Prop, C k2 w → tb ρ w C) (hT : k1 = true → k2 = true → R true w) (hF : ¬ (k1 = true ∧ k2 = true) → R false w) : dAnd ta tb ρ w R := by
  refine h1 _ ?_
  cases k1 with
  | false => exact iteF (hF (by simp))
  | true =>
    refine iteT (h2 _ ?_)
    cases k2 with
    | false => exact hF (by simp)
    | true => exact hT rfl rfl
theorem addT {w : Om} {a b : Str} (h : a.length + b.length ≤ sizeLine) : addS w (.dat (.str a)) (.dat (.str b)) = some (.v (.dat (.str (a ++ b)))) := by
  show (if a.length + b.length ≤ sizeLine then some (Ou.v (.dat (.str (a ++ b)))) else none) = _
  rw [if_pos h]
theorem slT {w : Om} {z : Str} {lo hi : Option Int} (h : z.length ≤ sizeLine) : slS w (.dat (.str z)) lo hi = some (.v (.dat (.str (cutS z lo hi)))) := by
  show (if z.length ≤ sizeLine then some (Ou.v (.dat (.str (cutS z lo hi)))) else none) = _
  rw [if_pos h]
theorem line_val : sizeLine = 16777216 := by decide
local macro_rules | `(tactic| walk_at "rr") => `(tactic| repeat (first | refine ⟨_, addL, ?_⟩ | refine ⟨_, rfl, ?_⟩ | refine frzL (sq_line (by simp)) ?_ | refine frzM (sq_line (by simp)) ?_ | refine iteT ?_ | refine iteF ?_ | refine And.intro (sq_line (by simp)) ?_))
def t_turned_tail : DTS :=
  (dSeq (dIfS (dAnd (dTst (dIsi .str (dVar 1))) (dTst (dOp ltS (dVar 5) (dC (.int 6))))) (dRet (dFz (dOp ixS (dFz (dLstD (dDats (dOp addS (dVar 1) (dC (.str "a"))) (dDats (dFz (dSl (dVar 1) (dPart (dC (.int 1))) dNoPart)) (dDats (dUpper (dVar 1)) (dDats (dOp addS (dVar 1) (dC (.str " "))) (dDats (dFz (dLstD (dDats (dVar 1) dNilD))) (dDats (dOp addS (dC (.str "a")) (dVar 1)) dNilD)))))))) (dVar 5)))) dNext)
  (dSeq (dIfS (dAnd (dTst (dIsi .str (dVar 1))) (dTst (dOp (eqS false) (dVar 5) (dC (.int 6))))) (dSeq (dAsg (dC (.str "0123456789_-.,:;!?'\"#$&()*+/<=>@ABCXYZ[\\]^`{|}~ \t\nabz")) (dName 7))
  (dSeq (dAsg (dCall c_law_draw [] (dCons (dVar 0) (dCons (dOp addS (dCB lenS (dCons (dVar 1) dNil)) (dC (.int 1))) dNil))) (dName 8))
  (dRet (dFz (dOp addS (dFz (dOp addS (dFz (dSl (dVar 1) dNoPart (dPart (dVar 8)))) (dOp ixS (dVar 7) (dCall c_law_draw [] (dCons (dVar 0) (dCons (dCB lenS (dCons (dVar 7) dNil)) dNil)))))) (dFz (dSl (dVar 1) (dPart (dVar 8)) dNoPart))))))) dNext)
  (dSeq (dIfS (dAnd (dTst (dIsi .int (dVar 1))) (dAnd (dNot (dTst (dIsi .bool (dVar 1)))) (dTst (dOp ltS (dVar 5) (dC (.int 6)))))) (dRet (dFz (dOp ixS (dFz (dLstD (dDats (dOp addS (dVar 1) (dC (.int 1))) (dDats (dOp gSub (dVar 1) (dC (.int 1))) (dDats (dOp gSub (dC (.int 0)) (dVar 1)) (dDats (dCB strS (dCons (dVar 1) dNil)) (dDats (dFz (dLstD (dDats (dVar 1) dNilD))) (dDats (dOp (eqS false) (dVar 1) (dC (.int 1))) dNilD)))))))) (dVar 5)))) dNext)
  (dRet (dFz (dCall c_law_odd [] (dCons (dVar 0) dNil)))))))
theorem one_len (c : Nat) : (⟨#[c]⟩ : Str).length = 1 := rfl
theorem turned_odd {b : Addr} {c k : Nat} {w1 w : Om} {E : DEnds} (hB : Bg b c w1 w) (hc : c + 3 < 2 ^ 60) (hE : ∀ d' w', szB (k + 1) d' = true → Bg b (c + 3) w1 w' → E.rt (.dat d') w') : c_law_odd [.adr b] w fun s w1 => frz s w1 fun d w2 => E.rt (.dat d) w2 :=
  ⟨b, c, w1, rfl, hB, by omega, fun d w2 hd hB2 => hE d w2 (szB_mono (by omega) d hd) (hB2.mono (by omega))⟩
theorem turned_tail {b : Addr} {d : PyData} {x2 x3 x4 x6 x7 x8 : Option Sl} {lot : Int} {c k : Nat} {w1 w : Om} {E : DEnds} (l0 : 0 ≤ lot) (l8 : lot < 8) (hB : Bg b c w1 w) (hz : szB k d = true) (hk : k ≤ 4) (hc : c + 3 < 2 ^ 60)
    (hE : ∀ d' w', szB (k + 1) d' = true → Bg b (c + 3) w1 w' → E.rt (.dat d') w') : t_turned_tail E [some (.adr b), some (.dat d), x2, x3, x4, some (.dat (.int lot)), x6, x7, x8] w := by
  have hO := turned_odd hB hc hE
  have h256 : 4 ^ k ≤ 256 := Nat.le_trans (Nat.pow_le_pow_right (by decide) hk) (by decide)
  have h1 : 1 ≤ 4 ^ k := Nat.pos_of_ne_zero (by simp)
  have h4 : 4 ^ (k + 1) = 4 * 4 ^ k := by rw [Nat.pow_succ]; omega
  have lv := line_val
  cases d with
  | str z =>
    have hl : z.length ≤ 4000 * 4 ^ k := sz_str.mp hz
    refine and_split true (decide (lot < 6)) (fun C hC => ⟨_, rfl, _, rfl, _, rfl, hC⟩) (fun C hC => ⟨_, rfl, _, rfl, _, rfl, hC⟩) (fun _ c1 => iteT ?_) fun c1 => iteF ?_
    · have c2 : lot < 6 := of_decide_eq_true c1
      have la : (Str.ofString "a").length = 1 := rfl
      have lb : (Str.ofString " ").length = 1 := rfl
      walk_at "rr"
      refine ⟨_, addT (by omega), ?_⟩
      walk_at "rr"
      refine ⟨_, slT (by omega), ?_⟩
      walk_at "rr"
      refine ⟨by omega, ?_⟩
      walk_at "rr"
      refine ⟨_, addT (by omega), ?_⟩
      walk_at "rr"
      refine ⟨_, addT (by omega), ?_⟩
      walk_at "rr"
      obtain ⟨d, hd, hat⟩ := atI_mem (xs := [PyData.str (z ++ Str.ofString "a"), .str (cutS z (some 1) none), .str (Txt.upper z), .str (z ++ Str.ofString " "), .list [.str z], .str (Str.ofString "a" ++ z)]) l0 c2
      refine ⟨_, ixS_list hat, hE d w ?_ (hB.mono (by omega))⟩
      simp only [List.mem_cons, List.not_mem_nil, or_false] at hd
      rcases hd with rfl | rfl | rfl | rfl | rfl | rfl
      · rw [sz_str, Str.length_append]; omega
      · rw [sz_str]; have := cutS_length z (some 1) none; omega
      · rw [sz_str]; have := len_upper z; omega
      · rw [sz_str, Str.length_append]; omega
      · refine list_sz (by simp; omega) fun e he => ?_
        rw [List.mem_singleton] at he
        rw [he, sz_str]; omega
      · rw [sz_str, Str.length_append]; omega
    · walk_at "rr"
      refine iteB (fun c2 => ?_) fun c2 => ?_
      · walk_at "rr"
        refine ⟨_, lenS_str (by omega), ?_⟩
        walk_at "rr"
        refine ⟨b, _, c, w1, rfl, hB, by omega, by omega, by omega, fun pl w2 p0 p1 hB2 => ?_⟩
        walk_at "rr"
        refine ⟨_, slT (by omega), ?_⟩
        walk_at "rr"
        refine ⟨b, _, c + 1, w1, rfl, hB2, by decide, by decide, by omega, fun r w3 r0 r1 hB3 => ?_⟩
        obtain ⟨e, _, hat⟩ := atI_mem r0 r1
        refine ⟨_, ixS_str (by decide) hat, ?_⟩
        walk_at "rr"
        have q1 := cutS_length z none (some pl)
        have q2 := cutS_length z (some pl) none
        refine ⟨_, addT (by rw [one_len]; omega), ?_⟩
        walk_at "rr"
        refine ⟨_, slT (by omega), ?_⟩
        walk_at "rr"
        refine ⟨_, addT (by rw [Str.length_append, one_len]; omega), ?_⟩
        refine hE _ w3 ?_ (hB3.mono (by omega))
        rw [sz_str, Str.length_append, Str.length_append, one_len]; omega
      · walk_at "rr"
        exact hO
  | int i =>
    have hi := sz_int.mp hz
    have hp : 2 ^ (100 + (k + 1)) = 2 * 2 ^ (100 + k) := by rw [show 100 + (k + 1) = (100 + k) + 1 from rfl, Nat.pow_succ]; omega
    have hp1 : 1 ≤ 2 ^ (100 + k) := Nat.one_le_two_pow
    have hlg : i.natAbs.log2 < 100 + k := PySem.Flt.log2_lt_of (by omega) hi
    walk_at "rr"
    refine iteD (fun c2 => ?_) fun c2 => ?_
    · walk_at "rr"
      refine ⟨_, strS_ok (by omega), ?_⟩
      walk_at "rr"
      obtain ⟨d, hd, hat⟩ := atI_mem (xs := [PyData.int (i + 1), .int (i - 1), .int (0 - i), .str (toString i), .list [.int i], .bool ((i == 1) != false)]) l0 c2
      refine ⟨_, ixS_list hat, hE d w ?_ (hB.mono (by omega))⟩
      simp only [List.mem_cons, List.not_mem_nil, or_false] at hd
      rcases hd with rfl | rfl | rfl | rfl | rfl | rfl
      · rw [sz_int, hp]; omega
      · rw [sz_int, hp]; omega
      · rw [sz_int, hp]; omega
      · rw [sz_str]
        have := int_text_length_le (a := i) (by omega) hlg
        have e : (Str.ofString (toString i)).length = (toString i).length := PySem.ofString_length _
        show (Str.ofString (toString i)).length ≤ _
        omega
      · refine list_sz (by simp; omega) fun e he => ?_
        rw [List.mem_singleton] at he
        rw [he, sz_int, hp]; omega
      · unfold szB; rfl
    · walk_at "rr"
      exact hO
  | none => walk_at "rr"; exact hO
  | bool _ => walk_at "rr"; exact hO
  | list _ => walk_at "rr"; exact hO
  | tuple _ => walk_at "rr"; exact hO
  | dict _ => walk_at "rr"; exact hO
end G

set_option Elab.async false
set_option linter.all false
set_option maxRecDepth 100000
set_option maxHeartbeats 4000000
namespace G
open PySem PySem.Spec PyProof.Rows L2 DL
def elems : PyData → List PyData
  | .list ds => ds
  | .tuple ds => ds
  | _ => []
theorem elems_sz {k : Nat} {d : PyData} (h : szB k d = true) : (elems d).length ≤ 40 + k ∧ ∀ e ∈ elems d, szB k e = true := by
  cases d with
  | list ds => exact sz_list h
  | tuple ds => exact sz_tup h
  | _ => exact ⟨Nat.zero_le _, fun e he => nomatch he⟩
local macro_rules | `(tactic| walk_at "rr") => `(tactic| repeat (first | refine ⟨_, addL, ?_⟩ | refine ⟨_, rfl, ?_⟩ | refine ⟨_, _, rfl, rfl, ?_⟩ | refine frzL (sq_line (by first | omega | (simp only [List.length_append, List.length_cons, List.length_nil, List.length_map] <;> omega))) ?_ | refine frzM (sq_line (by first | omega | (simp only [List.length_append, List.length_cons, List.length_nil, List.length_map] <;> omega))) ?_ | refine iteT ?_ | refine iteF ?_ | refine And.intro (sq_line (by first | omega | (simp only [List.length_append, List.length_cons, List.length_nil, List.length_map] <;> omega))) ?_ | fail "stop"))
theorem turned_row {E : DEnds} {b : Addr} {d : PyData} {m : Int} {w : Om} (hl : (elems d).length ≤ 16000) (h : ∀ p, w p = none → E.nx [some (.adr b), some (.dat d), some (.dat (.int m)), some (.adr p), none, none, none, none, none] (put w p (.lst ((elems d).map .dat)))) :
    dAsg (dIf (dTst (dIsi2 .list .tuple (dVar 1))) (dCB listS (dCons (dVar 1) dNil)) (dLstD dNilD)) (dName 3) E (startD N_law_turned [.adr b, .dat d, .dat (.int m)]) w := by
  have hl2 : ∀ ds, d = .list ds ∨ d = .tuple ds → ds.length ≤ 16000 := fun ds h => by rcases h with rfl | rfl <;> exact hl
  cases d <;> first
    | (have hl3 := hl2 _ (.inl rfl); walk_at "rr"; exact fun p hp => h p hp)
    | (have hl3 := hl2 _ (.inr rfl); walk_at "rr"; exact fun p hp => h p hp)
    | (walk_at "rr"; exact fun p hp => h p hp)

theorem seq_and {ta tb : DTT} {ρ : DEnv} {w : Om} {a b r : DTS} {E : DEnds} (k1 k2 : Bool) (h1 : ∀ C : Bool → Om → Prop, C k1 w → ta ρ w C) (h2 : ∀ C : Bool → Om → Prop, C k2 w → tb ρ w C) (hT : k1 = true → k2 = true → a { E with nx := r E } ρ w) (hF : ¬ (k1 = true ∧ k2 = true) → b { E with nx := r E } ρ w) : dSeq (dIfS (dAnd ta tb) a b) r E ρ w :=
  and_split (R := fun k w1 => if k = true then a { E with nx := r E } ρ w1 else b { E with nx := r E } ρ w1) k1 k2 h1 h2 (fun x y => iteT (hT x y)) fun x => iteF (hF x)
theorem Bg.dropD {b p : Addr} {n : Nat} {w0 w' : Om} {o : OO} (h : Bg b n (DL.put w0 p o) w') (hp : w0 p = none) (hb : p ≠ b) : ∃ u, Sub u (del w' p) ∧ Bg b n w0 u := by
  obtain ⟨x, y, z, e, h1⟩ := h
  refine ⟨DL.put w0 b (bagO x y z), fun a v ha => ?_, x, y, z, rfl, h1⟩
  have hap : a ≠ p := fun z => by rw [z, put_ne hb, hp] at ha; cases ha
  rw [del_ne hap, e]
  by_cases hab : a = b
  · rw [hab, put_same] at ha ⊢; exact ha
  · rw [put_ne hab] at ha ⊢; rw [put_ne hap]; exact ha
theorem slL {w : Om} {p : Addr} {ds : List PyData} {lo hi : Option Int} (h : w p = some (.lst (ds.map .dat))) : slS w (.adr p) lo hi = some (.nl ((cut ds lo hi).map .dat)) := by
  show ((sqL w (.adr p)).map fun xs => Ou.nl (cut xs lo hi)) = _
  rw [sqL_adr h, ← cut_map]; rfl
theorem cut_mem {α : Type} {xs : List α} {lo hi : Option Int} {x : α} (h : x ∈ cut xs lo hi) : x ∈ xs := by
  unfold cut at h
  exact List.mem_of_mem_drop (List.mem_of_mem_take h)
theorem cut_to {α : Type} {xs : List α} {j : Nat} (h : j ≤ xs.length) : cut xs none (some (j : Int)) = xs.take j := by
  have e1 : HT.sIx xs.length 0 none = 0 := rfl
  have e2 : HT.sIx xs.length xs.length (some (j : Int)) = j := (HT.sIx_nat _ _ _).trans (Nat.min_eq_left h)
  unfold cut
  rw [e1, e2, List.drop_zero, Nat.sub_zero]
theorem cut_from {α : Type} {xs : List α} {j : Nat} (h : j ≤ xs.length) : cut xs (some (j : Int)) none = xs.drop j := by
  have e1 : HT.sIx xs.length xs.length none = xs.length := rfl
  have e2 : HT.sIx xs.length 0 (some (j : Int)) = j := (HT.sIx_nat _ _ _).trans (Nat.min_eq_left h)
  unfold cut
  rw [e1, e2, List.take_of_length_le (by rw [List.length_drop]; omega)]
theorem cut_one {α : Type} {xs : List α} {j : Nat} (h : j + 1 ≤ xs.length) : (cut xs (some (j : Int)) (some ((j : Int) + 1))).length ≤ 1 := by
  have e1 : HT.sIx xs.length 0 (some (j : Int)) = j := (HT.sIx_nat _ _ _).trans (Nat.min_eq_left (by omega))
  have e2 : HT.sIx xs.length xs.length (some ((j : Int) + 1)) = j + 1 := (HT.sIx_nat _ _ (j + 1)).trans (Nat.min_eq_left h)
  unfold cut
  rw [e1, e2, List.length_take]
  omega
theorem ixN_of {n j : Nat} (hj : j < n) : ixN n (j : Int) = some j := by
  unfold ixN
  rw [if_pos (by omega), if_pos (by omega)]
  simp
theorem frzR {ds : List PyData} {w : Om} {k : PyData → Om → Prop} (hl : ds.length ≤ sizeLine) (h : k (.list ds.reverse) w) : (ds.map Sl.dat).length ≤ sizeLine ∧ ∀ p, w p = none → frz (.adr p) (put w p (.lst (ds.map Sl.dat).reverse)) k := by
  rw [List.length_map, ← List.map_reverse]
  exact ⟨hl, fun p hp => ⟨ds.reverse, put_same, by rw [del_put hp]; exact h⟩⟩
theorem rd_law_turned (n : Nat) {ss w R} (h : c_law_turned n ss w R) : t_law_turned (prev c_law_turned n) (endsN R) (startD N_law_turned ss) w := by
  obtain ⟨b, d, m, c, k, w0, rfl, hB, hm, hc, hz, hk, q⟩ := h
  obtain ⟨hdl, hde⟩ := elems_sz hz
  refine turned_row (by omega) fun p hp => ?_
  have pb : p ≠ b := hB.ne hp
  have p0 : w0 p = none := by rw [← hB.get pb]; exact hp
  have hB1 : Bg b c (put w0 p (.lst ((elems d).map .dat))) (put w p (.lst ((elems d).map .dat))) := hB.put pb
  generalize put w p (.lst ((elems d).map .dat)) = w1 at hB1
  have gt : ∀ {n w' xs}, Bg b n (put w0 p (.lst xs)) w' → w' p = some (.lst xs) := fun h => by rw [h.get pb, put_same]
  have fin : ∀ {o d' w' j}, szB (k + 1) d' = true → Bg b (c + j) (put w0 p o) w' → j ≤ 10 * (n + 1) → ∃ u, Sub u w' ∧ R (.dat d') u := fun hd h hj => by
    obtain ⟨u, su, hu⟩ := h.dropD p0 pb
    exact ⟨u, su.trans (Sub.del _ _), q _ _ hd (hu.mono (by omega))⟩
  have finD : ∀ {o d' w' j}, szB (k + 1) d' = true → Bg b (c + j) (put w0 p o) w' → j ≤ 10 * (n + 1) → ∃ u, Sub u (del w' p) ∧ R (.dat d') u := fun hd h hj => by
    obtain ⟨u, su, hu⟩ := h.dropD p0 pb
    exact ⟨u, su, q _ _ hd (hu.mono (by omega))⟩
  have lenE : (((elems d).map Sl.dat).length : Int) = (elems d).length := by rw [List.length_map]
  walk_at "rr"
  refine ⟨_, lenS_sq (sq_adr (gt hB1)), ?_⟩
  walk_at "rr"
  refine ⟨b, _, c, _, rfl, hB1, by omega, by omega, by omega, fun at' w2 a0 a1 hB2 => ?_⟩
  rw [lenE] at a1
  unfold dName
  dsimp only
  refine seq_and (decide (m > 0)) (decide (at' < (elems d).length)) (fun C hC => ?_) (fun C hC => ?_) (fun c1 c2 => ?_) fun c1 => ?_
  · walk_at "rr"
    exact hC
  · walk_at "rr"
    refine ⟨_, lenS_sq (sq_adr (gt hB2)), ?_⟩
    walk_at "rr"
    rw [lenE]
    exact hC
  · have c1 := of_decide_eq_true c1
    have c2 := of_decide_eq_true c2
    obtain ⟨n', rfl⟩ : ∃ n', n = n' + 1 := ⟨n - 1, by omega⟩
    obtain ⟨j, rfl⟩ := Int.eq_ofNat_of_zero_le a0
    have hj : j < (elems d).length := by omega
    walk_at "rr"
    refine ⟨_, ixS_adr (gt hB2) (s := .dat (elems d)[j]) (atI_nat (by rw [List.getElem?_map, List.getElem?_eq_getElem hj]; rfl)), ?_⟩
    walk_at "rr"
    refine ⟨b, (elems d)[j], m - 1, c + 1, k, _, rfl, hB2, by omega, by omega, hde _ (List.getElem_mem hj), hk, fun d' w3 hd' hB3 => ?_⟩
    walk_at "rr"
    refine ⟨p, _, (j : Int), j, rfl, rfl, gt hB3, ixN_of (by rw [List.length_map]; exact hj), ?_⟩
    have hB4 : Bg b (c + 1 + 10 * (n' + 1)) (put w0 p (.lst (((elems d).set j d').map .dat))) (put w3 p (.lst (((elems d).map Sl.dat).set j (.dat d')))) := by
      have h := hB3.put (o := .lst (((elems d).map Sl.dat).set j (.dat d'))) pb
      rw [put_put] at h
      rw [List.map_set]
      exact h
    generalize put w3 p (.lst (((elems d).map Sl.dat).set j (.dat d'))) = w4 at hB4 ⊢
    have e4 : ∀ e ∈ (elems d).set j d', szB (k + 1) e = true := fun e he => by
      rcases List.mem_or_eq_of_mem_set he with h | rfl
      · exact szB_mono (by omega) e (hde e h)
      · exact hd'
    have l4 : ((elems d).set j d').length ≤ 40 + (k + 1) := by rw [List.length_set]; omega
    walk_at "rr"
    refine iteB (fun _ => ?_) fun _ => ?_
    · walk_at "rr"
      exact ⟨_, gt hB4, finD (list_sz l4 e4) (hB4.mono (m := c + (10 * (n' + 1 + 1))) (by omega)) (by omega)⟩
    · walk_at "rr"
      exact ⟨_, tupS_ok (sqL_adr (gt hB4)), fin (tup_sz l4 e4) (hB4.mono (m := c + (10 * (n' + 1 + 1))) (by omega)) (by omega)⟩
  · refine ⟨_, rfl, b, 8, c + 1, _, rfl, hB2, by decide, by decide, by omega, fun lot w3 l0 l8 hB3 => ?_⟩
    walk_at "rr"
    refine ⟨_, eqE_l (sqL_adr (gt hB3)) rfl, ?_⟩
    walk_at "rr"
    have hE : ∀ {n' : Nat} (d' : PyData) (w' : Om), n' ≤ 10 * (n + 1) → szB (k + 1) d' = true → Bg b (c + n') (put w0 p (.lst ((elems d).map .dat))) w' → ∃ u, Sub u w' ∧ R (.dat d') u := fun d' w' hn hd h => fin hd h hn
    refine iteB (fun c2 => ?_) fun c2 => ?_
    · have hpos : 0 < (elems d).length := by
        cases he : elems d with
        | nil => rw [he] at c2; cases c2
        | cons _ _ => simp
      walk_at "rr"
      refine ⟨_, lenS_sq (sq_adr (gt hB3)), ?_⟩
      rw [lenE]
      refine ⟨_, liftI_ok (decide_eq_true (by omega)), ?_⟩
      obtain ⟨j, hj⟩ := Int.eq_ofNat_of_zero_le (Int.emod_nonneg at' (show ((elems d).length : Int) ≠ 0 by omega))
      have hj2 := Int.emod_lt_of_pos at' (show (0 : Int) < (elems d).length by omega)
      rw [hj] at hj2
      dsimp only
      rw [hj]
      have q1 : (cut (elems d) none (some (j : Int))).length = j := by rw [cut_to (by omega), List.length_take]; omega
      have q2 : (cut (elems d) (some ((j : Int) + 1)) none).length = (elems d).length - (j + 1) := by
        have := cut_from (xs := elems d) (j := j + 1) (by omega)
        have e : ((j : Int) + 1) = ((j + 1 : Nat) : Int) := rfl
        rw [e, this, List.length_drop]
      have q3 : (cut (elems d) (some (j : Int)) (some ((j : Int) + 1))).length ≤ 1 := cut_one (by omega)
      have q4 : (cut (elems d) (some (j : Int)) none).length = (elems d).length - j := by rw [cut_from (by omega), List.length_drop]
      have m0 : ∀ {lo hi e}, e ∈ cut (elems d) lo hi → szB (k + 1) e = true := fun h => szB_mono (by omega) _ (hde _ (cut_mem h))
      walk_at "rr"
      refine ⟨_, slL (gt hB3), ?_⟩
      walk_at "rr"
      refine ⟨_, slL (gt hB3), ?_⟩
      walk_at "rr"
      refine ⟨_, slL (gt hB3), ?_⟩
      walk_at "rr"
      refine ⟨_, slL (gt hB3), ?_⟩
      walk_at "rr"
      refine ⟨_, slL (gt hB3), ?_⟩
      walk_at "rr"
      refine ⟨_, sqL_adr (gt hB3), ?_⟩
      refine frzR (sq_line (by omega)) ?_
      walk_at "rr"
      refine ⟨_, slL (gt hB3), ?_⟩
      walk_at "rr"
      refine ⟨b, c + 1 + 1, _, rfl, hB3, by omega, fun o1 w4 ho1 hB4 => ?_⟩
      walk_at "rr"
      refine ⟨_, slL (gt hB4), ?_⟩
      walk_at "rr"
      refine ⟨_, slL (gt hB4), ?_⟩
      walk_at "rr"
      refine ⟨b, c + 1 + 1 + 1, _, rfl, hB4, by omega, fun o2 w5 ho2 hB5 => ?_⟩
      walk_at "rr"
      refine ⟨_, slL (gt hB5), ?_⟩
      walk_at "rr"
      have hB6 : Bg b (c + 4) (put w0 p (.lst ((elems d).map .dat))) w5 := hB5.mono (by omega)
      have o1' := szB_mono (m := k + 1) (by omega) o1 ho1
      have o2' := szB_mono (m := k + 1) (by omega) o2 ho2
      refine iteD (fun c5 => ?_) fun c5 => ?_
      · obtain ⟨x, hx, hat⟩ := atI_mem (xs := [PyData.list (cut (elems d) none (some (j : Int)) ++ cut (elems d) (some ((j : Int) + 1)) none), .list ((cut (elems d) none (some (j : Int)) ++ cut (elems d) (some (j : Int)) (some ((j : Int) + 1))) ++ cut (elems d) (some (j : Int)) none), .list (elems d).reverse] ++
          [.list ((cut (elems d) none (some (j : Int)) ++ [o1]) ++ cut (elems d) (some (j : Int)) none), .list ((cut (elems d) none (some (j : Int)) ++ [o2]) ++ cut (elems d) (some ((j : Int) + 1)) none)]) l0 (by exact c5)
        have hs : ∃ xs, x = .list xs ∧ xs.length ≤ 40 + (k + 1) ∧ ∀ e ∈ xs, szB (k + 1) e = true := by
          simp only [List.cons_append, List.nil_append, List.mem_cons, List.not_mem_nil, or_false] at hx
          rcases hx with rfl | rfl | rfl | rfl | rfl
          · refine ⟨_, rfl, by simp only [List.length_append]; omega, fun e he => ?_⟩
            rcases List.mem_append.mp he with h | h <;> exact m0 h
          · refine ⟨_, rfl, by simp only [List.length_append]; omega, fun e he => ?_⟩
            rcases List.mem_append.mp he with h | h
            · rcases List.mem_append.mp h with h | h <;> exact m0 h
            · exact m0 h
          · exact ⟨_, rfl, by rw [List.length_reverse]; omega, fun e he => szB_mono (by omega) e (hde e (List.mem_reverse.mp he))⟩
          · refine ⟨_, rfl, by simp only [List.length_append, List.length_cons, List.length_nil]; omega, fun e he => ?_⟩
            rcases List.mem_append.mp he with h | h
            · rcases List.mem_append.mp h with h | h
              · exact m0 h
              · rw [List.mem_singleton] at h; rw [h]; exact o1'
            · exact m0 h
          · refine ⟨_, rfl, by simp only [List.length_append, List.length_cons, List.length_nil]; omega, fun e he => ?_⟩
            rcases List.mem_append.mp he with h | h
            · rcases List.mem_append.mp h with h | h
              · exact m0 h
              · rw [List.mem_singleton] at h; rw [h]; exact o2'
            · exact m0 h
        obtain ⟨xs, rfl, lx, ex⟩ := hs
        walk_at "rr"
        refine iteB (fun _ => ?_) fun _ => ?_
        · walk_at "rr"
          exact ⟨_, ixS_list hat, fin (list_sz lx ex) hB6 (by omega)⟩
        · walk_at "rr"
          refine ⟨_, ixS_list hat, ?_⟩
          exact ⟨_, tupS_ok rfl, fin (tup_sz lx ex) hB6 (by omega)⟩
      · walk_at "rr"
        refine iteB (fun _ => ?_) fun _ => ?_
        · have l6 : (elems d).length ≤ 40 + (k + 1) := by omega
          have e6 : ∀ e ∈ elems d, szB (k + 1) e = true := fun e he => szB_mono (by omega) e (hde e he)
          walk_at "rr"
          refine iteB (fun _ => ?_) fun _ => ?_
          · walk_at "rr"
            exact ⟨_, tupS_ok (sqL_adr (gt hB6)), fin (tup_sz l6 e6) hB6 (by omega)⟩
          · walk_at "rr"
            exact ⟨_, gt hB6, finD (list_sz l6 e6) hB6 (by omega)⟩
        · exact turned_tail l0 l8 hB6 hz hk (by omega) fun d' w' hd h => hE d' w' (n' := 7) (by omega) hd h
    · exact turned_tail l0 l8 hB3 hz hk (by omega) fun d' w' hd h => hE d' w' (n' := 5) (by omega) hd h
end G

set_option Elab.async false
set_option linter.all false
set_option maxRecDepth 100000
set_option maxHeartbeats 4000000
namespace G
open PySem PySem.Spec PyProof.Rows L2 DL
local macro_rules | `(tactic| walk_at "rr") => `(tactic| repeat (first | refine ⟨_, rfl, ?_⟩ | refine ⟨_, _, rfl, rfl, ?_⟩ | refine iteT ?_ | refine iteF ?_ | fail "stop"))
theorem irange_mem {n : Nat} {x : Sl} (h : x ∈ irange 0 n) : ∃ i : Nat, i < n ∧ x = .dat (.int (i : Nat)) := by
  unfold irange at h
  obtain ⟨i, hi, rfl⟩ := List.mem_map.mp h
  exact ⟨i, List.mem_range.mp hi, by rw [Int.zero_add]⟩
theorem irange_len {lo : Int} {n : Nat} : (irange lo n).length = n := by simp [irange]
/-- every cell of the script -/
theorem cells {tb : DTS} {F : DEnds} {ns : List Int} {x1 x2 x3 x4 : Option Sl} {w : Om} {j : Int} (hj : j ≤ 20) (hs : ∀ (i : Nat) (x2 x3 x4 : Option Sl) (w : Om) (E : DEnds), i < 20 → E.rt = F.rt → (∀ x2 x3 x4 w, E.nx [some (.scr ns), some (.dat (.int (i : Nat))), x2, x3, x4] w) → tb E [some (.scr ns), some (.dat (.int (i : Nat))), x2, x3, x4] w)
    (hd : ∀ x1 x2 x3 x4 w, F.nx [some (.scr ns), x1, x2, x3, x4] w) : dLoop (fun _ => True) (dName 1) tb F (irange 0 j.toNat) [some (.scr ns), x1, x2, x3, x4] w := by
  refine loop_inv (fun r ρ w => (∀ x ∈ r, ∃ i : Nat, i < 20 ∧ x = .dat (.int (i : Nat))) ∧ ∃ x1 x2 x3 x4, ρ = [some (.scr ns), x1, x2, x3, x4]) ⟨fun x hx => ?_, x1, x2, x3, x4, rfl⟩ (fun _ _ _ _ => trivial) ?_ ?_
  · obtain ⟨i, hi, e⟩ := irange_mem hx
    exact ⟨i, by omega, e⟩
  · rintro x r ρ w ⟨hr, x1, x2, x3, x4, rfl⟩ ih
    obtain ⟨i, hi, rfl⟩ := hr x List.mem_cons_self
    exact hs i x2 x3 x4 w _ hi rfl fun y2 y3 y4 w' => ih _ _ ⟨fun z hz => hr z (List.mem_cons_of_mem _ hz), _, _, _, _, rfl⟩
  · rintro ρ w ⟨_, x1, x2, x3, x4, rfl⟩
    exact hd _ _ _ _ _
theorem rd_law {ss w R} (h : cLaw ss w R) : t_law (endsN R) (startD N_law ss) w := by
  obtain ⟨ns, rfl, hl, q⟩ := h
  refine ⟨_, rfl, _, lenS_sq rfl, _, rfl, _, rfl, _, rfl, ?_, ?_, ?_⟩
  · rw [List.length_map]; split <;> split <;> omega
  · rw [List.length_map]; split <;> split <;> omega
  refine cells (by rw [List.length_map]; split <;> split <;> omega) (fun i x2 x3 x4 w E hi hE nx => ?_) fun x1 x2 x3 x4 w => ⟨w, Sub.refl _, q w⟩
  walk_at "rr"
  refine ⟨ns, i, rfl, hl, fun c => ?_⟩
  walk_at "rr"
  refine ⟨c, i, rfl, by omega, fun b w1 hb hB => ?_⟩
  walk_at "rr"
  refine ⟨b, 5, 0, w, rfl, hB, by decide, by decide, by decide, fun r w2 r0 r1 hB2 => ?_⟩
  walk_at "rr"
  refine ⟨b, _, 1, w, rfl, hB2, by omega, by decide, fun d w3 hd hB3 => ?_⟩
  walk_at "rr"
  refine ⟨b, 4, _, w, rfl, hB3, by decide, by decide, by decide, fun t w4 t0 t1 hB4 => ?_⟩
  walk_at "rr"
  refine ⟨by omega, by omega, ?_⟩
  refine loop_inv (fun r ρ w' => ∃ (k : Nat) (d : PyData) (x4 : Option Sl), ρ = [some (.scr ns), some (.dat (.int (i : Nat))), some (.adr b), some (.dat d), x4] ∧ k + r.length ≤ 3 ∧ szB k d = true ∧ Bg b (49 + 51 * k) w w') ⟨0, d, x4, rfl, by rw [irange_len]; omega, hd, hB4⟩ (fun _ _ _ _ => trivial) ?_ ?_
  · rintro x r ρ w' ⟨k, d, x4, rfl, hk, hz, hB⟩ ih
    rw [List.length_cons] at hk
    walk_at "rr"
    refine ⟨d, k, rfl, hz, by omega, ?_⟩
    walk_at "rr"
    refine ⟨b, 5, _, w, rfl, hB, by decide, by decide, by omega, fun m w5 m0 m1 hB5 => ?_⟩
    refine ⟨b, d, m, _, k, w, rfl, hB5, by omega, by omega, hz, by omega, fun d' w6 hd' hB6 => ?_⟩
    exact ih _ _ ⟨k + 1, d', _, rfl, by omega, hd', hB6.mono (by omega)⟩
  · rintro ρ w' ⟨k, d, x4, rfl, hk, hz, hB⟩
    walk_at "rr"
    refine ⟨d, k, rfl, hz, by omega, ?_⟩
    walk_at "rr"
    refine ⟨b, _, w, rfl, hB, by omega, fun d' w5 hd' hB5 => ?_⟩
    refine ⟨d', 0, rfl, hd', by omega, ?_⟩
    walk_at "rr"
    exact nx _ _ _ _
end G

set_option Elab.async false
set_option linter.all false
set_option maxRecDepth 100000
set_option maxHeartbeats 4000000
namespace G
open PySem PySem.Spec PyProof.Rows L2 DL
def top (i : Nat) : Stmt := PySem.Challenge.pw_growjoin_k01_kinds.main.body.getD i (.Pass ⟨0, 0, 0, 0⟩)
abbrev s_is_kind : Stmt := top 3
theorem sc_is_kind : FnScope N_is_kind ["thing", "most"] (defScope s_is_kind) := ⟨rfl, rfl, rfl, by decide +kernel, rfl, by decide +kernel, by decide +kernel⟩

abbrev s_law_cell_at : Stmt := top 5
theorem sc_law_cell_at : FnScope N_law_cell_at ["script", "k"] (defScope s_law_cell_at) := ⟨rfl, rfl, rfl, by decide +kernel, rfl, by decide +kernel, by decide +kernel⟩

abbrev s_law_bag : Stmt := top 6
theorem sc_law_bag : FnScope N_law_bag ["cell", "place"] (defScope s_law_bag) := ⟨rfl, rfl, rfl, by decide +kernel, rfl, by decide +kernel, by decide +kernel⟩

abbrev s_law_draw : Stmt := top 7
theorem sc_law_draw : FnScope N_law_draw ["bag", "many"] (defScope s_law_draw) := ⟨rfl, rfl, rfl, by decide +kernel, rfl, by decide +kernel, by decide +kernel⟩

abbrev s_law_kind : Stmt := top 8
theorem sc_law_kind : FnScope N_law_kind ["bag", "deep"] (defScope s_law_kind) := ⟨rfl, rfl, rfl, by decide +kernel, rfl, by decide +kernel, by decide +kernel⟩

abbrev s_law_odd : Stmt := top 9
theorem sc_law_odd : FnScope N_law_odd ["bag"] (defScope s_law_odd) := ⟨rfl, rfl, rfl, by decide +kernel, rfl, by decide +kernel, by decide +kernel⟩

abbrev s_law_turned : Stmt := top 10
theorem sc_law_turned : FnScope N_law_turned ["bag", "thing", "deep"] (defScope s_law_turned) := ⟨rfl, rfl, rfl, by decide +kernel, rfl, by decide +kernel, by decide +kernel⟩

abbrev s_law_due : Stmt := top 11
theorem sc_law_due : FnScope N_law_due ["thing", "most"] (defScope s_law_due) := ⟨rfl, rfl, rfl, by decide +kernel, rfl, by decide +kernel, by decide +kernel⟩

abbrev s_law_right : Stmt := top 12
theorem sc_law_right : FnScope N_law_right ["thing"] (defScope s_law_right) := ⟨rfl, rfl, rfl, by decide +kernel, rfl, by decide +kernel, by decide +kernel⟩

abbrev s_law : Stmt := top 13
theorem sc_law : FnScope N_law ["script"] (defScope s_law) := ⟨rfl, rfl, rfl, by decide +kernel, rfl, by decide +kernel, by decide +kernel⟩

structure Ad where
  f_is_kind : Addr
  d_is_kind : FuncData
  ds_is_kind : List Value
  f_law_cell_at : Addr
  d_law_cell_at : FuncData
  f_law_bag : Addr
  d_law_bag : FuncData
  f_law_draw : Addr
  d_law_draw : FuncData
  f_law_kind : Addr
  d_law_kind : FuncData
  f_law_odd : Addr
  d_law_odd : FuncData
  f_law_turned : Addr
  d_law_turned : FuncData
  f_law_due : Addr
  d_law_due : FuncData
  f_law_right : Addr
  d_law_right : FuncData
  f_law : Addr
  d_law : FuncData
  a_PARTS : Addr
structure Txt (wd : World) (K : PySem.W.Frag) (mg : Str → Option Value) (A : Ad) : Prop where
  n_all : mg "all" = none
  n_bool : mg "bool" = none
  n_int : mg "int" = none
  n_isinstance : mg "isinstance" = none
  n_len : mg "len" = none
  n_list : mg "list" = none
  n_max : mg "max" = none
  n_min : mg "min" = none
  n_range : mg "range" = none
  n_str : mg "str" = none
  n_tuple : mg "tuple" = none
  g_is_kind : mg "is_kind" = some (.ref A.f_is_kind)
  k_is_kind : PySem.W.keepIn K (.ref A.f_is_kind) = true
  b_is_kind : Binds K A.d_is_kind ["thing", "most"] []
  F_is_kind : L2.FunD K "is_kind" "is_kind" (defArgs s_is_kind) (defBody s_is_kind) (defScope s_is_kind) [.int 4] [] A.f_is_kind A.d_is_kind
  b1_is_kind : Vals [.int 4] A.ds_is_kind ∧ Binds K A.d_is_kind ["thing", "most"] A.ds_is_kind
  g_law_cell_at : mg "_law_cell_at" = some (.ref A.f_law_cell_at)
  k_law_cell_at : PySem.W.keepIn K (.ref A.f_law_cell_at) = true
  b_law_cell_at : Binds K A.d_law_cell_at ["script", "k"] []
  F_law_cell_at : L2.Fun K "_law_cell_at" "_law_cell_at" s_law_cell_at A.f_law_cell_at A.d_law_cell_at
  g_law_bag : mg "_law_bag" = some (.ref A.f_law_bag)
  k_law_bag : PySem.W.keepIn K (.ref A.f_law_bag) = true
  b_law_bag : Binds K A.d_law_bag ["cell", "place"] []
  F_law_bag : L2.Fun K "_law_bag" "_law_bag" s_law_bag A.f_law_bag A.d_law_bag
  g_law_draw : mg "_law_draw" = some (.ref A.f_law_draw)
  k_law_draw : PySem.W.keepIn K (.ref A.f_law_draw) = true
  b_law_draw : Binds K A.d_law_draw ["bag", "many"] []
  F_law_draw : L2.Fun K "_law_draw" "_law_draw" s_law_draw A.f_law_draw A.d_law_draw
  g_law_kind : mg "_law_kind" = some (.ref A.f_law_kind)
  k_law_kind : PySem.W.keepIn K (.ref A.f_law_kind) = true
  b_law_kind : Binds K A.d_law_kind ["bag", "deep"] []
  F_law_kind : L2.Fun K "_law_kind" "_law_kind" s_law_kind A.f_law_kind A.d_law_kind
  g_law_odd : mg "_law_odd" = some (.ref A.f_law_odd)
  k_law_odd : PySem.W.keepIn K (.ref A.f_law_odd) = true
  b_law_odd : Binds K A.d_law_odd ["bag"] []
  F_law_odd : L2.Fun K "_law_odd" "_law_odd" s_law_odd A.f_law_odd A.d_law_odd
  g_law_turned : mg "_law_turned" = some (.ref A.f_law_turned)
  k_law_turned : PySem.W.keepIn K (.ref A.f_law_turned) = true
  b_law_turned : Binds K A.d_law_turned ["bag", "thing", "deep"] []
  F_law_turned : L2.Fun K "_law_turned" "_law_turned" s_law_turned A.f_law_turned A.d_law_turned
  g_law_due : mg "_law_due" = some (.ref A.f_law_due)
  k_law_due : PySem.W.keepIn K (.ref A.f_law_due) = true
  b_law_due : Binds K A.d_law_due ["thing", "most"] []
  F_law_due : L2.Fun K "_law_due" "_law_due" s_law_due A.f_law_due A.d_law_due
  g_law_right : mg "_law_right" = some (.ref A.f_law_right)
  k_law_right : PySem.W.keepIn K (.ref A.f_law_right) = true
  b_law_right : Binds K A.d_law_right ["thing"] []
  F_law_right : L2.Fun K "_law_right" "_law_right" s_law_right A.f_law_right A.d_law_right
  g_law : mg "law" = some (.ref A.f_law)
  k_law : PySem.W.keepIn K (.ref A.f_law) = true
  b_law : Binds K A.d_law ["script"] []
  F_law : L2.Fun K "law" "law" s_law A.f_law A.d_law
  g_PARTS : mg "PARTS" = some (.ref A.a_PARTS)
  kd_PARTS : KDic K wd A.a_PARTS kv_PARTS
section
variable {P : Program} {wd : World} {K : PySem.W.Frag} {mg : Str → Option Value} {base : Heap} {A : Ad}
theorem step_is_kind (T : Txt wd K mg A) (n : Nat) (G : FnOk P wd K mg base CX0 (2 + n) A.f_is_kind A.d_is_kind ["thing", "most"] (spN K (prev c_is_kind n))) : FnOk P wd K mg base CX0 ((2 + n) + 1) A.f_is_kind A.d_is_kind ["thing", "most"] (spN K (c_is_kind n)) :=
  DL.FunD.okD T.F_is_kind sc_is_kind (fun ss w R h => len_is_kind h) (tb := (t_is_kind (prev c_is_kind n))) (fun cdv A0 outer s H E hr =>
    (ds_cons (ds_if (dt_w (dw_or (dt_lt (dv 1) de_int) (dw_or (dt_not (dt_val (de_isi .tuple (dv 0) rfl T.n_isinstance rfl T.n_tuple (by decide +kernel)))) (dw_or (dt_lt (de_len rfl T.n_len (da_cons (dv 0) da_nil)) de_int) (dw_or1 (dt_not (dt_val (de_isi .str (de_ix (dv 0) de_int (fun _ _ => rfl)) rfl T.n_isinstance rfl T.n_str (by decide +kernel))))))))) (ds_one (ds_ret de_bl)) ds_nil)
      (ds_cons (ds_asg (dv 0) (dg_star (n := 2) (i := 1) rfl (dgs_cons (dg_name (i := 2) sc_is_kind.nd rfl (Or.inl rfl)) (dgs_starred (dgs_cons (dg_name (i := 3) sc_is_kind.nd rfl (Or.inl rfl)) dgs_nil)))))
      (ds_one (ds_ret (de_and (de_eq hr.units (de_kget T.kd_PARTS rfl T.g_PARTS (dv 2) ⟨rfl, rfl, rfl, rfl⟩) (de_len rfl T.n_len (da_cons (dv 3) da_nil))) (de_one (de_all rfl rfl T.n_all (da_cons (de_lc (own := [("one", 4)]) rfl sc_is_kind.nd (di_seq (dv 3)) (blkOk_by (own := [("one", 4)]) (N := N_is_kind) (sc := defScope s_is_kind) (by decide +kernel)) (fun _ _ _ _ _ => (dvt_name (i := 4) (by decide) sc_is_kind.nd rfl (Or.inl rfl))) (fun _ _ _ _ _ => dts_nil) (fun _ _ _ _ _ => (de_call G hr rfl T.g_is_kind T.k_is_kind T.b_is_kind .nil (fun _ => .nil) (da_cons (dv 4) (da_cons (de_sub (dv 1) de_int) da_nil))))) da_nil)))))))))
    (fun ss w R h => rd_is_kind n h)

theorem ok_is_kind (T : Txt wd K mg A) (n : Nat) : FnOk P wd K mg base CX0 (2 + n + 1) A.f_is_kind A.d_is_kind ["thing", "most"] (spN K (c_is_kind n)) := rec_ok c_is_kind (step_is_kind T) n

theorem ok_law_cell_at (T : Txt wd K mg A) : FnOk P wd K mg base CX0 (1 + 1) A.f_law_cell_at A.d_law_cell_at ["script", "k"] (spN K c_law_cell_at) :=
  DL.Fun.okD T.F_law_cell_at sc_law_cell_at (fun ss w R h => len_law_cell_at h) (tb := t_law_cell_at) (fun cdv A0 outer s H E hr =>
    (ds_cons (ds_if (dt_lt (dv 1) (de_len rfl T.n_len (da_cons (dv 0) da_nil))) (ds_one (ds_ret (de_ix (dv 0) (dv 1) (fun _ _ => rfl)))) ds_nil)
      (ds_one (ds_ret de_int))))
    (fun ss w R h => rd_law_cell_at h)

theorem ok_law_bag (T : Txt wd K mg A) : FnOk P wd K mg base CX0 (1 + 1) A.f_law_bag A.d_law_bag ["cell", "place"] (spN K c_law_bag) :=
  DL.Fun.okD T.F_law_bag sc_law_bag (fun ss w R h => len_law_bag h) (tb := t_law_bag) (fun cdv A0 outer s H E hr =>
    (ds_one (ds_ret (de_lstD (dd_cons (de_max rfl rfl T.n_max (da_cons de_int (da_cons (de_sub (dv 0) (de_pow de_int de_int)) da_nil))) (dd_cons (de_add (de_mod (dv 0) de_int) (de_mul de_int (dv 1))) (dd_cons de_int dd_nil)))))))
    (fun ss w R h => rd_law_bag h)

theorem ok_law_draw (T : Txt wd K mg A) : FnOk P wd K mg base CX0 (1 + 1) A.f_law_draw A.d_law_draw ["bag", "many"] (spN K c_law_draw) :=
  DL.Fun.okD T.F_law_draw sc_law_draw (fun ss w R h => len_law_draw h) (tb := t_law_draw) (fun cdv A0 outer s H E hr =>
    (ds_cons (ds_if (dt_gt (de_ix (dv 0) de_int (fun _ _ => rfl)) de_int) (ds_cons (ds_set (i := 2) sc_law_draw.nd rfl (Or.inl rfl) (de_mod (de_ix (dv 0) de_int (fun _ _ => rfl)) (dv 1)))
      (ds_cons (ds_asg (de_div (de_ix (dv 0) de_int (fun _ _ => rfl)) (dv 1)) (dg_sub (dv 0) de_int))
      (ds_one (ds_ret (dv 2))))) ds_nil)
      (ds_cons (ds_asg (de_add (de_ix (dv 0) de_int (fun _ _ => rfl)) de_int) (dg_sub (dv 0) de_int))
      (ds_cons (ds_set (i := 3) sc_law_draw.nd rfl (Or.inl rfl) (de_mod (de_pow (de_add (de_ix (dv 0) de_int (fun _ _ => rfl)) (de_mul de_int (de_ix (dv 0) de_int (fun _ _ => rfl)))) de_int) de_int))
      (ds_cons (ds_set (i := 3) sc_law_draw.nd rfl (Or.inl rfl) (de_mod (de_pow (de_add (dv 3) (de_mul de_int (de_ix (dv 0) de_int (fun _ _ => rfl)))) de_int) de_int))
      (ds_one (ds_ret (de_mod (de_div (dv 3) de_int) (dv 1)))))))))
    (fun ss w R h => rd_law_draw h)

theorem step_law_kind (T : Txt wd K mg A) (n : Nat) (G : FnOk P wd K mg base CX0 (3 + n) A.f_law_kind A.d_law_kind ["bag", "deep"] (spN K (prev c_law_kind n))) : FnOk P wd K mg base CX0 ((3 + n) + 1) A.f_law_kind A.d_law_kind ["bag", "deep"] (spN K (c_law_kind n)) :=
  DL.Fun.okD T.F_law_kind sc_law_kind (fun ss w R h => len_law_kind h) (tb := (t_law_kind (prev c_law_kind n))) (fun cdv A0 outer s H E hr =>
    (ds_cons (ds_set (i := 2) sc_law_kind.nd rfl (Or.inl rfl) (de_call (ok_law_draw T) (hr.mono (by omega)) rfl T.g_law_draw T.k_law_draw T.b_law_draw .nil (fun _ => .nil) (da_cons (dv 0) (da_cons de_int da_nil))))
      (ds_cons (ds_if (dt_w (dw_or (dt_lt (dv 2) de_int) (dw_or1 (dt_lt (dv 1) de_int)))) (ds_one (ds_ret (de_fz (de_ix (de_fz (de_lstD (dd_cons (de_tup (dd_cons de_str dd_nil)) (dd_cons (de_tup (dd_cons de_str dd_nil)) (dd_cons (de_tup (dd_cons de_str dd_nil)) dd_nil))))) (de_call (ok_law_draw T) (hr.mono (by omega)) rfl T.g_law_draw T.k_law_draw T.b_law_draw .nil (fun _ => .nil) (da_cons (dv 0) (da_cons de_int da_nil))) (fun _ _ => rfl))))) ds_nil)
      (ds_cons (ds_if (dt_lt (dv 2) de_int) (ds_one (ds_ret (de_fz (de_tup (dd_cons de_str (dd_cons (de_call G hr rfl T.g_law_kind T.k_law_kind T.b_law_kind .nil (fun _ => .nil) (da_cons (dv 0) (da_cons (de_sub (dv 1) de_int) da_nil))) dd_nil)))))) ds_nil)
      (ds_one (ds_ret (de_fz (de_tup (dd_cons de_str (dd_cons (de_call G hr rfl T.g_law_kind T.k_law_kind T.b_law_kind .nil (fun _ => .nil) (da_cons (dv 0) (da_cons (de_sub (dv 1) de_int) da_nil))) (dd_cons (de_call G hr rfl T.g_law_kind T.k_law_kind T.b_law_kind .nil (fun _ => .nil) (da_cons (dv 0) (da_cons (de_sub (dv 1) de_int) da_nil))) dd_nil)))))))))))
    (fun ss w R h => rd_law_kind n h)

theorem ok_law_kind (T : Txt wd K mg A) (n : Nat) : FnOk P wd K mg base CX0 (3 + n + 1) A.f_law_kind A.d_law_kind ["bag", "deep"] (spN K (c_law_kind n)) := rec_ok c_law_kind (step_law_kind T) n

theorem ok_law_odd (T : Txt wd K mg A) : FnOk P wd K mg base CX0 (4 + 1) A.f_law_odd A.d_law_odd ["bag"] (spN K c_law_odd) :=
  DL.Fun.okD T.F_law_odd sc_law_odd (fun ss w R h => len_law_odd h) (tb := t_law_odd) (fun cdv A0 outer s H E hr =>
    (ds_cons (ds_set (i := 1) sc_law_odd.nd rfl (Or.inl rfl) (de_fz (de_lstD (dd_cons de_non (dd_cons de_bl (dd_cons de_bl (dd_cons de_int (dd_cons de_int (dd_cons (de_neg de_int) (dd_cons de_int (dd_cons (de_pow de_int de_int) (dd_cons de_str (dd_cons de_str (dd_cons de_str (dd_cons de_str (dd_cons de_str (dd_cons de_str (dd_cons de_str (dd_cons (de_tup dd_nil) (dd_cons (de_fz (de_lstD dd_nil)) (dd_cons de_dic0 dd_nil)))))))))))))))))))))
      (ds_cons (ds_set (i := 1) sc_law_odd.nd rfl (Or.inl rfl) (de_fz (de_add (dv 1) (de_fz (de_lstD (dd_cons (de_tup (dd_cons de_str dd_nil)) (dd_cons (de_fz (de_lstD (dd_cons de_str dd_nil))) (dd_cons (de_tup (dd_cons de_int (dd_cons de_int dd_nil))) (dd_cons (de_tup (dd_cons de_int (dd_cons de_int dd_nil))) (dd_cons (de_tup (dd_cons de_int (dd_cons de_int dd_nil))) (dd_cons (de_tup (dd_cons de_int (dd_cons de_bl dd_nil))) (dd_cons (de_tup (dd_cons de_str (dd_cons de_str dd_nil))) (dd_cons (de_tup (dd_cons de_str (dd_cons de_str dd_nil))) (dd_cons (de_tup (dd_cons (de_tup (dd_cons de_str (dd_cons de_int dd_nil))) dd_nil)) (dd_cons (de_tup (dd_cons (de_tup (dd_cons de_str (dd_cons de_int dd_nil))) dd_nil)) dd_nil)))))))))))))))
      (ds_cons (ds_set (i := 1) sc_law_odd.nd rfl (Or.inl rfl) (de_fz (de_add (dv 1) (de_fz (de_lstD (dd_cons (de_tup (dd_cons de_str dd_nil)) (dd_cons (de_tup (dd_cons de_str dd_nil)) (dd_cons (de_tup (dd_cons de_str dd_nil)) (dd_cons (de_fz (de_lstD (dd_cons de_str dd_nil))) (dd_cons (de_tup (dd_cons de_str (dd_cons de_str dd_nil))) (dd_cons (de_tup (dd_cons de_str dd_nil)) (dd_cons (de_tup (dd_cons de_str (dd_cons (de_tup (dd_cons de_str dd_nil)) dd_nil))) dd_nil))))))))))))
      (ds_cons (ds_set (i := 1) sc_law_odd.nd rfl (Or.inl rfl) (de_fz (de_add (dv 1) (de_fz (de_lstD (dd_cons de_str (dd_cons de_str dd_nil)))))))
      (ds_one (ds_ret (de_fz (de_ix (dv 1) (de_call (ok_law_draw T) (hr.mono (by decide)) rfl T.g_law_draw T.k_law_draw T.b_law_draw .nil (fun _ => .nil) (da_cons (dv 0) (da_cons de_int da_nil))) (fun _ _ => rfl))))))))))
    (fun ss w R h => rd_law_odd h)

theorem step_law_turned (T : Txt wd K mg A) (n : Nat) (G : FnOk P wd K mg base CX0 (6 + n) A.f_law_turned A.d_law_turned ["bag", "thing", "deep"] (spN K (prev c_law_turned n))) : FnOk P wd K mg base CX0 ((6 + n) + 1) A.f_law_turned A.d_law_turned ["bag", "thing", "deep"] (spN K (c_law_turned n)) :=
  DL.Fun.okD T.F_law_turned sc_law_turned (fun ss w R h => len_law_turned h) (tb := (t_law_turned (prev c_law_turned n))) (fun cdv A0 outer s H E hr =>
    (ds_cons (ds_set (i := 3) sc_law_turned.nd rfl (Or.inl rfl) (de_if (dt_val (de_isi2 .list .tuple (dv 1) rfl T.n_isinstance rfl T.n_list (by decide +kernel) rfl T.n_tuple (by decide +kernel))) (de_list rfl T.n_list (da_cons (dv 1) da_nil)) (de_lstD dd_nil)))
      (ds_cons (ds_set (i := 4) sc_law_turned.nd rfl (Or.inl rfl) (de_call (ok_law_draw T) (hr.mono (by omega)) rfl T.g_law_draw T.k_law_draw T.b_law_draw .nil (fun _ => .nil) (da_cons (dv 0) (da_cons (de_add (de_len rfl T.n_len (da_cons (dv 3) da_nil)) de_int) da_nil))))
      (ds_cons (ds_if (dt_w (dw_and (dt_gt (dv 2) de_int) (dw_and1 (dt_lt (dv 4) (de_len rfl T.n_len (da_cons (dv 3) da_nil)))))) (ds_cons (ds_asg (de_call G hr rfl T.g_law_turned T.k_law_turned T.b_law_turned .nil (fun _ => .nil) (da_cons (dv 0) (da_cons (de_ix (dv 3) (dv 4) (fun _ _ => rfl)) (da_cons (de_sub (dv 2) de_int) da_nil)))) (dg_sub (dv 3) (dv 4)))
      (ds_one (ds_ret (de_fz (de_if (dt_val (de_isi .list (dv 1) rfl T.n_isinstance rfl T.n_list (by decide +kernel))) (dv 3) (de_tuple rfl T.n_tuple (da_cons (dv 3) da_nil))))))) ds_nil)
      (ds_cons (ds_set (i := 5) sc_law_turned.nd rfl (Or.inl rfl) (de_call (ok_law_draw T) (hr.mono (by omega)) rfl T.g_law_draw T.k_law_draw T.b_law_draw .nil (fun _ => .nil) (da_cons (dv 0) (da_cons de_int da_nil))))
      (ds_cons (ds_if (dt_neE hr.units (dv 3) (de_fz (de_lstD dd_nil))) (ds_cons (ds_set (i := 4) sc_law_turned.nd rfl (Or.inl rfl) (de_mod (dv 4) (de_len rfl T.n_len (da_cons (dv 3) da_nil))))
      (ds_cons (ds_set (i := 6) sc_law_turned.nd rfl (Or.inl rfl) (de_fz (de_lstD (dd_cons (de_fz (de_add (de_fz (de_slice (dv 3) do_none (do_some (dv 4)))) (de_fz (de_slice (dv 3) (do_some (de_add (dv 4) de_int)) do_none)))) (dd_cons (de_fz (de_add (de_fz (de_add (de_fz (de_slice (dv 3) do_none (do_some (dv 4)))) (de_fz (de_slice (dv 3) (do_some (dv 4)) (do_some (de_add (dv 4) de_int)))))) (de_fz (de_slice (dv 3) (do_some (dv 4)) do_none)))) (dd_cons (de_fz (de_rev (dv 3))) dd_nil))))))
      (ds_cons (ds_set (i := 6) sc_law_turned.nd rfl (Or.inl rfl) (de_fz (de_add (dv 6) (de_fz (de_lstD (dd_cons (de_fz (de_add (de_fz (de_add (de_fz (de_slice (dv 3) do_none (do_some (dv 4)))) (de_fz (de_lstD (dd_cons (de_call (ok_law_odd T) (hr.mono (by omega)) rfl T.g_law_odd T.k_law_odd T.b_law_odd .nil (fun _ => .nil) (da_cons (dv 0) da_nil)) dd_nil))))) (de_fz (de_slice (dv 3) (do_some (dv 4)) do_none)))) (dd_cons (de_fz (de_add (de_fz (de_add (de_fz (de_slice (dv 3) do_none (do_some (dv 4)))) (de_fz (de_lstD (dd_cons (de_call (ok_law_odd T) (hr.mono (by omega)) rfl T.g_law_odd T.k_law_odd T.b_law_odd .nil (fun _ => .nil) (da_cons (dv 0) da_nil)) dd_nil))))) (de_fz (de_slice (dv 3) (do_some (de_add (dv 4) de_int)) do_none)))) dd_nil)))))))
      (ds_cons (ds_if (dt_lt (dv 5) de_int) (ds_one (ds_ret (de_fz (de_if (dt_val (de_isi .list (dv 1) rfl T.n_isinstance rfl T.n_list (by decide +kernel))) (de_ix (dv 6) (dv 5) (fun _ _ => rfl)) (de_tuple rfl T.n_tuple (da_cons (de_ix (dv 6) (dv 5) (fun _ _ => rfl)) da_nil)))))) ds_nil)
      (ds_one (ds_if (dt_eq hr.units (dv 5) de_int) (ds_one (ds_ret (de_fz (de_if (dt_val (de_isi .list (dv 1) rfl T.n_isinstance rfl T.n_list (by decide +kernel))) (de_tuple rfl T.n_tuple (da_cons (dv 3) da_nil)) (dv 3))))) ds_nil)))))) ds_nil)
      (ds_cons (ds_if (dt_w (dw_and (dt_val (de_isi .str (dv 1) rfl T.n_isinstance rfl T.n_str (by decide +kernel))) (dw_and1 (dt_lt (dv 5) de_int)))) (ds_one (ds_ret (de_fz (de_ix (de_fz (de_lstD (dd_cons (de_add (dv 1) de_str) (dd_cons (de_fz (de_slice (dv 1) (do_some de_int) do_none)) (dd_cons (de_upper (dv 1)) (dd_cons (de_add (dv 1) de_str) (dd_cons (de_fz (de_lstD (dd_cons (dv 1) dd_nil))) (dd_cons (de_add de_str (dv 1)) dd_nil)))))))) (dv 5) (fun _ _ => rfl))))) ds_nil)
      (ds_cons (ds_if (dt_w (dw_and (dt_val (de_isi .str (dv 1) rfl T.n_isinstance rfl T.n_str (by decide +kernel))) (dw_and1 (dt_eq hr.units (dv 5) de_int)))) (ds_cons (ds_set (i := 7) sc_law_turned.nd rfl (Or.inl rfl) de_str)
      (ds_cons (ds_set (i := 8) sc_law_turned.nd rfl (Or.inl rfl) (de_call (ok_law_draw T) (hr.mono (by omega)) rfl T.g_law_draw T.k_law_draw T.b_law_draw .nil (fun _ => .nil) (da_cons (dv 0) (da_cons (de_add (de_len rfl T.n_len (da_cons (dv 1) da_nil)) de_int) da_nil))))
      (ds_one (ds_ret (de_fz (de_add (de_fz (de_add (de_fz (de_slice (dv 1) do_none (do_some (dv 8)))) (de_ix (dv 7) (de_call (ok_law_draw T) (hr.mono (by omega)) rfl T.g_law_draw T.k_law_draw T.b_law_draw .nil (fun _ => .nil) (da_cons (dv 0) (da_cons (de_len rfl T.n_len (da_cons (dv 7) da_nil)) da_nil))) (fun _ _ => rfl)))) (de_fz (de_slice (dv 1) (do_some (dv 8)) do_none)))))))) ds_nil)
      (ds_cons (ds_if (dt_w (dw_and (dt_val (de_isi .int (dv 1) rfl T.n_isinstance rfl T.n_int (by decide +kernel))) (dw_and (dt_not (dt_val (de_isi .bool (dv 1) rfl T.n_isinstance rfl T.n_bool (by decide +kernel)))) (dw_and1 (dt_lt (dv 5) de_int))))) (ds_one (ds_ret (de_fz (de_ix (de_fz (de_lstD (dd_cons (de_add (dv 1) de_int) (dd_cons (de_sub (dv 1) de_int) (dd_cons (de_sub de_int (dv 1)) (dd_cons (de_strI rfl T.n_str (da_cons (dv 1) da_nil)) (dd_cons (de_fz (de_lstD (dd_cons (dv 1) dd_nil))) (dd_cons (de_eq hr.units (dv 1) de_int) dd_nil)))))))) (dv 5) (fun _ _ => rfl))))) ds_nil)
      (ds_one (ds_ret (de_fz (de_call (ok_law_odd T) (hr.mono (by omega)) rfl T.g_law_odd T.k_law_odd T.b_law_odd .nil (fun _ => .nil) (da_cons (dv 0) da_nil))))))))))))))
    (fun ss w R h => rd_law_turned n h)

theorem ok_law_turned (T : Txt wd K mg A) (n : Nat) : FnOk P wd K mg base CX0 (6 + n + 1) A.f_law_turned A.d_law_turned ["bag", "thing", "deep"] (spN K (c_law_turned n)) := rec_ok c_law_turned (step_law_turned T) n

theorem step_law_due (T : Txt wd K mg A) (n : Nat) (G : FnOk P wd K mg base CX0 (2 + n) A.f_law_due A.d_law_due ["thing", "most"] (spN K (prev c_law_due n))) : FnOk P wd K mg base CX0 ((2 + n) + 1) A.f_law_due A.d_law_due ["thing", "most"] (spN K (c_law_due n)) :=
  DL.Fun.okD T.F_law_due sc_law_due (fun ss w R h => len_law_due h) (tb := (t_law_due (prev c_law_due n))) (fun cdv A0 outer s H E hr =>
    (ds_cons (ds_if (dt_w (dw_or (dt_eq hr.units (dv 1) de_int) (dw_or (dt_not (dt_val (de_isi .tuple (dv 0) rfl T.n_isinstance rfl T.n_tuple (by decide +kernel)))) (dw_or (dt_eqE hr.units (dv 0) (de_tup dd_nil)) (dw_or1 (dt_not (dt_val (de_isi .str (de_ix (dv 0) de_int (fun _ _ => rfl)) rfl T.n_isinstance rfl T.n_str (by decide +kernel))))))))) (ds_one (ds_ret de_bl)) ds_nil)
      (ds_cons (ds_if (dt_in (de_ix (dv 0) de_int (fun _ _ => rfl)) (de_tup (dd_cons de_str (dd_cons de_str (dd_cons de_str dd_nil))))) (ds_one (ds_ret (de_eq hr.units (de_len rfl T.n_len (da_cons (dv 0) da_nil)) de_int))) ds_nil)
      (ds_cons (ds_if (dt_eq hr.units (de_ix (dv 0) de_int (fun _ _ => rfl)) de_str) (ds_one (ds_ret (de_and (de_eq hr.units (de_len rfl T.n_len (da_cons (dv 0) da_nil)) de_int) (de_one (de_call G hr rfl T.g_law_due T.k_law_due T.b_law_due .nil (fun _ => .nil) (da_cons (de_ix (dv 0) de_int (fun _ _ => rfl)) (da_cons (de_sub (dv 1) de_int) da_nil))))))) ds_nil)
      (ds_cons (ds_if (dt_w (dw_or (dt_ne hr.units (de_ix (dv 0) de_int (fun _ _ => rfl)) de_str) (dw_or1 (dt_ne hr.units (de_len rfl T.n_len (da_cons (dv 0) da_nil)) de_int)))) (ds_one (ds_ret de_bl)) ds_nil)
      (ds_one (ds_ret (de_and (de_call G hr rfl T.g_law_due T.k_law_due T.b_law_due .nil (fun _ => .nil) (da_cons (de_ix (dv 0) de_int (fun _ _ => rfl)) (da_cons (de_sub (dv 1) de_int) da_nil))) (de_one (de_call G hr rfl T.g_law_due T.k_law_due T.b_law_due .nil (fun _ => .nil) (da_cons (de_ix (dv 0) de_int (fun _ _ => rfl)) (da_cons (de_sub (dv 1) de_int) da_nil))))))))))))
    (fun ss w R h => rd_law_due n h)

theorem ok_law_due (T : Txt wd K mg A) (n : Nat) : FnOk P wd K mg base CX0 (2 + n + 1) A.f_law_due A.d_law_due ["thing", "most"] (spN K (c_law_due n)) := rec_ok c_law_due (step_law_due T) n

theorem ok_law_right (T : Txt wd K mg A) : FnOk P wd K mg base CX0 (10 + 1) A.f_law_right A.d_law_right ["thing"] (spN K c_law_right) :=
  DL.Fun.okD T.F_law_right sc_law_right (fun ss w R h => len_law_right h) (tb := t_law_right) (fun cdv A0 outer s H E hr =>
    (ds_cons (ds_set (i := 1) sc_law_right.nd rfl (Or.inl rfl) (de_call (ok_is_kind T 4) (hr.mono (by decide)) rfl T.g_is_kind T.k_is_kind T.b1_is_kind.2 T.b1_is_kind.1 (fun _ => .cons (Dr.int _) .nil) (da_cons (dv 0) da_nil)))
      (ds_one (ds_ret (de_and (de_isi .bool (dv 1) rfl T.n_isinstance rfl T.n_bool (by decide +kernel)) (de_one (de_eq hr.units (dv 1) (de_call (ok_law_due T 4) (hr.mono (by decide)) rfl T.g_law_due T.k_law_due T.b_law_due .nil (fun _ => .nil) (da_cons (dv 0) (da_cons de_int da_nil))))))))))
    (fun ss w R h => rd_law_right h)

theorem ok_law (T : Txt wd K mg A) : FnOk P wd K mg base CX0 (20 + 1) A.f_law A.d_law ["script"] (spN K cLaw) :=
  DL.Fun.okD T.F_law sc_law (fun ss w R h => len_law h) (tb := t_law) (fun cdv A0 outer s H E hr =>
    (ds_cons (ds_for PassesOwn.never rfl (di_range1 rfl T.n_range (da_cons (de_max rfl rfl T.n_max (da_cons de_int (da_cons (de_min rfl rfl T.n_min (da_cons de_int (da_cons (de_len rfl T.n_len (da_cons (dv 0) da_nil)) da_nil))) da_nil))) da_nil)) (dg_name (i := 1) sc_law.nd rfl (Or.inl rfl)) (ds_cons (ds_set (i := 2) sc_law.nd rfl (Or.inl rfl) (de_call (ok_law_bag T) (hr.mono (by decide)) rfl T.g_law_bag T.k_law_bag T.b_law_bag .nil (fun _ => .nil) (da_cons (de_call (ok_law_cell_at T) (hr.mono (by decide)) rfl T.g_law_cell_at T.k_law_cell_at T.b_law_cell_at .nil (fun _ => .nil) (da_cons (dv 0) (da_cons (dv 1) da_nil))) (da_cons (dv 1) da_nil))))
      (ds_cons (ds_set (i := 3) sc_law.nd rfl (Or.inl rfl) (de_call (ok_law_kind T 4) (hr.mono (by decide)) rfl T.g_law_kind T.k_law_kind T.b_law_kind .nil (fun _ => .nil) (da_cons (dv 2) (da_cons (de_add de_int (de_call (ok_law_draw T) (hr.mono (by decide)) rfl T.g_law_draw T.k_law_draw T.b_law_draw .nil (fun _ => .nil) (da_cons (dv 2) (da_cons de_int da_nil)))) da_nil))))
      (ds_cons (ds_for PassesOwn.never rfl (di_range1 rfl T.n_range (da_cons (de_call (ok_law_draw T) (hr.mono (by decide)) rfl T.g_law_draw T.k_law_draw T.b_law_draw .nil (fun _ => .nil) (da_cons (dv 2) (da_cons de_int da_nil))) da_nil)) (dg_name (i := 4) sc_law.nd rfl (Or.inl rfl)) (ds_cons (ds_if (dt_not (dt_val (de_call (ok_law_right T) (hr.mono (by decide)) rfl T.g_law_right T.k_law_right T.b_law_right .nil (fun _ => .nil) (da_cons (dv 3) da_nil)))) (ds_one (ds_ret de_bl)) ds_nil)
      (ds_one (ds_set (i := 3) sc_law.nd rfl (Or.inl rfl) (de_call (ok_law_turned T 4) (hr.mono (by decide)) rfl T.g_law_turned T.k_law_turned T.b_law_turned .nil (fun _ => .nil) (da_cons (dv 2) (da_cons (dv 3) (da_cons (de_call (ok_law_draw T) (hr.mono (by decide)) rfl T.g_law_draw T.k_law_draw T.b_law_draw .nil (fun _ => .nil) (da_cons (dv 2) (da_cons de_int da_nil))) da_nil))))))))
      (ds_one (ds_if (dt_w (dw_or (dt_not (dt_val (de_call (ok_law_right T) (hr.mono (by decide)) rfl T.g_law_right T.k_law_right T.b_law_right .nil (fun _ => .nil) (da_cons (dv 3) da_nil)))) (dw_or1 (dt_not (dt_val (de_call (ok_law_right T) (hr.mono (by decide)) rfl T.g_law_right T.k_law_right T.b_law_right .nil (fun _ => .nil) (da_cons (de_call (ok_law_odd T) (hr.mono (by decide)) rfl T.g_law_odd T.k_law_odd T.b_law_odd .nil (fun _ => .nil) (da_cons (dv 2) da_nil)) da_nil))))))) (ds_one (ds_ret de_bl)) ds_nil))))))
      (ds_one (ds_ret de_bl))))
    (fun ss w R h => rd_law h)

end
theorem all_mk {l : PySem.W.OpenLaw} {wd : World} {K : PySem.W.Frag} {h : Heap} {mg : Str → Option Value} {fa : Addr} (X : K.In h) (G : h.Ns mainGlobals mg) (hfa : mg "law" = some (.ref fa))
    {f0 : Addr} {od0 an0 : Option Addr} {sl0 : Array (Option Value)} {oc0 kV0 dc0 pm0 cd0 ct0 : Value}
    {T0 : Addr} {ocT0 : Value} {odT0 : Option Addr} {slT0 : Array (Option Value)} {nT0 : Nat} {its0 : List Value}
    {f1 : Addr} {od1 an1 : Option Addr} {sl1 : Array (Option Value)} {oc1 kV1 dc1 pm1 cd1 ct1 : Value}
    {f2 : Addr} {od2 an2 : Option Addr} {sl2 : Array (Option Value)} {oc2 kV2 dc2 pm2 cd2 ct2 : Value}
    {f3 : Addr} {od3 an3 : Option Addr} {sl3 : Array (Option Value)} {oc3 kV3 dc3 pm3 cd3 ct3 : Value}
    {f4 : Addr} {od4 an4 : Option Addr} {sl4 : Array (Option Value)} {oc4 kV4 dc4 pm4 cd4 ct4 : Value}
    {f5 : Addr} {od5 an5 : Option Addr} {sl5 : Array (Option Value)} {oc5 kV5 dc5 pm5 cd5 ct5 : Value}
    {f6 : Addr} {od6 an6 : Option Addr} {sl6 : Array (Option Value)} {oc6 kV6 dc6 pm6 cd6 ct6 : Value}
    {f7 : Addr} {od7 an7 : Option Addr} {sl7 : Array (Option Value)} {oc7 kV7 dc7 pm7 cd7 ct7 : Value}
    {f8 : Addr} {od8 an8 : Option Addr} {sl8 : Array (Option Value)} {oc8 kV8 dc8 pm8 cd8 ct8 : Value}
    {f9 : Addr} {od9 an9 : Option Addr} {sl9 : Array (Option Value)} {oc9 kV9 dc9 pm9 cd9 ct9 : Value}
    {p0 : Addr} {es0 : Array DictEntry} {n0 : Nat}
    (a0 : PySem.W.nsIn K mainGlobals "is_kind" = some (some (.ref f0)))
    (l0 : K.lookup f0 = some ⟨oc0, od0, .func (PySem.W.fnOf "is_kind" "is_kind" (defArgs s_is_kind) (defBody s_is_kind) (defScope s_is_kind) (.ref T0) kV0 dc0 pm0 an0 cd0 ct0), sl0⟩)
    (c0 : PySem.W.codeIn K cd0 "is_kind" = true)
    (k0 : PySem.W.keepIn K (.ref f0) = true)
    (t0 : K.lookup T0 = some ⟨ocT0, odT0, .seq its0.toArray nT0, slT0⟩)
    (v0 : Vals [.int 4] its0)
    (a1 : PySem.W.nsIn K mainGlobals "_law_cell_at" = some (some (.ref f1)))
    (l1 : K.lookup f1 = some ⟨oc1, od1, .func (PySem.W.fnOf "_law_cell_at" "_law_cell_at" (defArgs s_law_cell_at) (defBody s_law_cell_at) (defScope s_law_cell_at) .none kV1 dc1 pm1 an1 cd1 ct1), sl1⟩)
    (c1 : PySem.W.codeIn K cd1 "_law_cell_at" = true)
    (k1 : PySem.W.keepIn K (.ref f1) = true)
    (a2 : PySem.W.nsIn K mainGlobals "_law_bag" = some (some (.ref f2)))
    (l2 : K.lookup f2 = some ⟨oc2, od2, .func (PySem.W.fnOf "_law_bag" "_law_bag" (defArgs s_law_bag) (defBody s_law_bag) (defScope s_law_bag) .none kV2 dc2 pm2 an2 cd2 ct2), sl2⟩)
    (c2 : PySem.W.codeIn K cd2 "_law_bag" = true)
    (k2 : PySem.W.keepIn K (.ref f2) = true)
    (a3 : PySem.W.nsIn K mainGlobals "_law_draw" = some (some (.ref f3)))
    (l3 : K.lookup f3 = some ⟨oc3, od3, .func (PySem.W.fnOf "_law_draw" "_law_draw" (defArgs s_law_draw) (defBody s_law_draw) (defScope s_law_draw) .none kV3 dc3 pm3 an3 cd3 ct3), sl3⟩)
    (c3 : PySem.W.codeIn K cd3 "_law_draw" = true)
    (k3 : PySem.W.keepIn K (.ref f3) = true)
    (a4 : PySem.W.nsIn K mainGlobals "_law_kind" = some (some (.ref f4)))
    (l4 : K.lookup f4 = some ⟨oc4, od4, .func (PySem.W.fnOf "_law_kind" "_law_kind" (defArgs s_law_kind) (defBody s_law_kind) (defScope s_law_kind) .none kV4 dc4 pm4 an4 cd4 ct4), sl4⟩)
    (c4 : PySem.W.codeIn K cd4 "_law_kind" = true)
    (k4 : PySem.W.keepIn K (.ref f4) = true)
    (a5 : PySem.W.nsIn K mainGlobals "_law_odd" = some (some (.ref f5)))
    (l5 : K.lookup f5 = some ⟨oc5, od5, .func (PySem.W.fnOf "_law_odd" "_law_odd" (defArgs s_law_odd) (defBody s_law_odd) (defScope s_law_odd) .none kV5 dc5 pm5 an5 cd5 ct5), sl5⟩)
    (c5 : PySem.W.codeIn K cd5 "_law_odd" = true)
    (k5 : PySem.W.keepIn K (.ref f5) = true)
    (a6 : PySem.W.nsIn K mainGlobals "_law_turned" = some (some (.ref f6)))
    (l6 : K.lookup f6 = some ⟨oc6, od6, .func (PySem.W.fnOf "_law_turned" "_law_turned" (defArgs s_law_turned) (defBody s_law_turned) (defScope s_law_turned) .none kV6 dc6 pm6 an6 cd6 ct6), sl6⟩)
    (c6 : PySem.W.codeIn K cd6 "_law_turned" = true)
    (k6 : PySem.W.keepIn K (.ref f6) = true)
    (a7 : PySem.W.nsIn K mainGlobals "_law_due" = some (some (.ref f7)))
    (l7 : K.lookup f7 = some ⟨oc7, od7, .func (PySem.W.fnOf "_law_due" "_law_due" (defArgs s_law_due) (defBody s_law_due) (defScope s_law_due) .none kV7 dc7 pm7 an7 cd7 ct7), sl7⟩)
    (c7 : PySem.W.codeIn K cd7 "_law_due" = true)
    (k7 : PySem.W.keepIn K (.ref f7) = true)
    (a8 : PySem.W.nsIn K mainGlobals "_law_right" = some (some (.ref f8)))
    (l8 : K.lookup f8 = some ⟨oc8, od8, .func (PySem.W.fnOf "_law_right" "_law_right" (defArgs s_law_right) (defBody s_law_right) (defScope s_law_right) .none kV8 dc8 pm8 an8 cd8 ct8), sl8⟩)
    (c8 : PySem.W.codeIn K cd8 "_law_right" = true)
    (k8 : PySem.W.keepIn K (.ref f8) = true)
    (a9 : PySem.W.nsIn K mainGlobals "law" = some (some (.ref f9)))
    (l9 : K.lookup f9 = some ⟨oc9, od9, .func (PySem.W.fnOf "law" "law" (defArgs s_law) (defBody s_law) (defScope s_law) .none kV9 dc9 pm9 an9 cd9 ct9), sl9⟩)
    (c9 : PySem.W.codeIn K cd9 "law" = true)
    (k9 : PySem.W.keepIn K (.ref f9) = true)
    (pa0 : PySem.W.nsIn K mainGlobals "PARTS" = some (some (.ref p0)))
    (pl0 : K.lookup p0 = some ⟨.type "dict", none, .dict es0 n0, #[]⟩)
    (pk0 : PySem.W.KeysLit wd.params es0.toList)
    (pp0 : Paired (fun (p : Str × Sl) (e : DictEntry) => (∃ t, e.key = .str p.1 t) ∧ ∃ v, RelV v e.val ∧ ∀ D, Vr K D v p.2) kv_PARTS es0.toList)
    (pz0 : (p0 == sysModules) = false)
    (z_all : PySem.W.nsIn K mainGlobals "all" = some none)
    (z_bool : PySem.W.nsIn K mainGlobals "bool" = some none)
    (z_int : PySem.W.nsIn K mainGlobals "int" = some none)
    (z_isinstance : PySem.W.nsIn K mainGlobals "isinstance" = some none)
    (z_len : PySem.W.nsIn K mainGlobals "len" = some none)
    (z_list : PySem.W.nsIn K mainGlobals "list" = some none)
    (z_max : PySem.W.nsIn K mainGlobals "max" = some none)
    (z_min : PySem.W.nsIn K mainGlobals "min" = some none)
    (z_range : PySem.W.nsIn K mainGlobals "range" = some none)
    (z_str : PySem.W.nsIn K mainGlobals "str" = some none)
    (z_tuple : PySem.W.nsIn K mainGlobals "tuple" = some none) :
    ∃ fd : FuncData, (∀ (s : Shared) (v : Value), BindsTo s fd ⟨[v], []⟩ [("script", v)]) ∧ ∀ base : Heap, K.In base → base.Ns mainGlobals mg → FnOk l.prog wd K mg base CX0 (20 + 1) fa fd ["script"] (spN K cLaw) := by
  have e := hfa.symm.trans (PySem.W.mg_of X G a9)
  have e2 : f9 = fa := by cases e; rfl
  subst e2
  have F0 : L2.FunD K "is_kind" "is_kind" (defArgs s_is_kind) (defBody s_is_kind) (defScope s_is_kind) [.int 4] [] f0 _ := ⟨⟨oc0, od0, _, kV0, dc0, pm0, an0, cd0, ct0, sl0, rfl, l0, c0, .inr ⟨by simp, T0, _, its0, nT0, rfl, t0, rfl, v0⟩, .inl rfl⟩, k0⟩
  obtain ⟨dz0, vz0, B0⟩ := F0.binds1 (ps := ["thing", "most"]) 2 1 (by simp) rfl fun _ _ _ _ _ _ _ us its hu hi => match us, its, hu, hi with | [_, _], [_], _, _ => ⟨_, rfl, rfl⟩
  cases vz0
  obtain ⟨ds0, vs0, D0⟩ := F0.binds1 (ps := ["thing", "most"]) 1 0 (by simp) rfl fun _ _ _ _ _ _ _ us its hu hi => match us, its, hu, hi with | [_], [_], _, _ => ⟨_, rfl, rfl⟩
  have F1 := fun_mk (st := s_law_cell_at) l1 c1 k1
  have B1 := F1.binds (ps := ["script", "k"]) fun _ _ _ _ _ _ us hl => match us, hl with | [_, _], _ => rfl
  have F2 := fun_mk (st := s_law_bag) l2 c2 k2
  have B2 := F2.binds (ps := ["cell", "place"]) fun _ _ _ _ _ _ us hl => match us, hl with | [_, _], _ => rfl
  have F3 := fun_mk (st := s_law_draw) l3 c3 k3
  have B3 := F3.binds (ps := ["bag", "many"]) fun _ _ _ _ _ _ us hl => match us, hl with | [_, _], _ => rfl
  have F4 := fun_mk (st := s_law_kind) l4 c4 k4
  have B4 := F4.binds (ps := ["bag", "deep"]) fun _ _ _ _ _ _ us hl => match us, hl with | [_, _], _ => rfl
  have F5 := fun_mk (st := s_law_odd) l5 c5 k5
  have B5 := F5.binds (ps := ["bag"]) fun _ _ _ _ _ _ us hl => match us, hl with | [_], _ => rfl
  have F6 := fun_mk (st := s_law_turned) l6 c6 k6
  have B6 := F6.binds (ps := ["bag", "thing", "deep"]) fun _ _ _ _ _ _ us hl => match us, hl with | [_, _, _], _ => rfl
  have F7 := fun_mk (st := s_law_due) l7 c7 k7
  have B7 := F7.binds (ps := ["thing", "most"]) fun _ _ _ _ _ _ us hl => match us, hl with | [_, _], _ => rfl
  have F8 := fun_mk (st := s_law_right) l8 c8 k8
  have B8 := F8.binds (ps := ["thing"]) fun _ _ _ _ _ _ us hl => match us, hl with | [_], _ => rfl
  have F9 := fun_mk (st := s_law) l9 c9 k9
  have B9 := F9.binds (ps := ["script"]) fun _ _ _ _ _ _ us hl => match us, hl with | [_], _ => rfl
  have T : Txt wd K mg { f_is_kind := f0, d_is_kind := _, ds_is_kind := ds0, f_law_cell_at := f1, d_law_cell_at := _, f_law_bag := f2, d_law_bag := _, f_law_draw := f3, d_law_draw := _, f_law_kind := f4, d_law_kind := _, f_law_odd := f5, d_law_odd := _, f_law_turned := f6, d_law_turned := _, f_law_due := f7, d_law_due := _, f_law_right := f8, d_law_right := _, f_law := f9, d_law := _, a_PARTS := p0 } :=
    { n_all := PySem.W.mg_none_of X G z_all,
      n_bool := PySem.W.mg_none_of X G z_bool,
      n_int := PySem.W.mg_none_of X G z_int,
      n_isinstance := PySem.W.mg_none_of X G z_isinstance,
      n_len := PySem.W.mg_none_of X G z_len,
      n_list := PySem.W.mg_none_of X G z_list,
      n_max := PySem.W.mg_none_of X G z_max,
      n_min := PySem.W.mg_none_of X G z_min,
      n_range := PySem.W.mg_none_of X G z_range,
      n_str := PySem.W.mg_none_of X G z_str,
      n_tuple := PySem.W.mg_none_of X G z_tuple,
      g_is_kind := PySem.W.mg_of X G a0,
      k_is_kind := k0,
      b_is_kind := B0,
      F_is_kind := F0,
      b1_is_kind := ⟨vs0, D0⟩,
      g_law_cell_at := PySem.W.mg_of X G a1,
      k_law_cell_at := k1,
      b_law_cell_at := B1,
      F_law_cell_at := F1,
      g_law_bag := PySem.W.mg_of X G a2,
      k_law_bag := k2,
      b_law_bag := B2,
      F_law_bag := F2,
      g_law_draw := PySem.W.mg_of X G a3,
      k_law_draw := k3,
      b_law_draw := B3,
      F_law_draw := F3,
      g_law_kind := PySem.W.mg_of X G a4,
      k_law_kind := k4,
      b_law_kind := B4,
      F_law_kind := F4,
      g_law_odd := PySem.W.mg_of X G a5,
      k_law_odd := k5,
      b_law_odd := B5,
      F_law_odd := F5,
      g_law_turned := PySem.W.mg_of X G a6,
      k_law_turned := k6,
      b_law_turned := B6,
      F_law_turned := F6,
      g_law_due := PySem.W.mg_of X G a7,
      k_law_due := k7,
      b_law_due := B7,
      F_law_due := F7,
      g_law_right := PySem.W.mg_of X G a8,
      k_law_right := k8,
      b_law_right := B8,
      F_law_right := F8,
      g_law := PySem.W.mg_of X G a9,
      k_law := k9,
      b_law := B9,
      F_law := F9,
      g_PARTS := PySem.W.mg_of X G pa0,
      kd_PARTS := ⟨⟨es0, n0, pl0, pk0, pp0⟩, pz0⟩ }
  exact ⟨_, fun s v => .of_eq rfl, fun base _ _ => ok_law T⟩
end G
open PySem PySem.W PyProof.Rows
set_option maxRecDepth 100000 in
set_option maxHeartbeats 0 in
theorem PySem.Challenge.cw_growjoin_k01_kinds_holds : PySem.Challenge.rw_growjoin_k01_kinds.Holds := by
  w_on; o_law; k_head; (case hw => w_witness2)
  k_fill
  refine DL.walk (l := PySem.Challenge.rw_growjoin_k01_kinds) (k := 20 + 1) ⟨rfl, by decide, by decide⟩ rfl rfl (fun w h Y => PySem.W.kIn_of Y) ?F
  case F =>
    intro w mg fa h KX GX hmg
    refine' G.all_mk KX GX hmg ?a0 ?l0 ?c0 ?k0 ?t0 ?v0 ?a1 ?l1 ?c1 ?k1 ?a2 ?l2 ?c2 ?k2 ?a3 ?l3 ?c3 ?k3 ?a4 ?l4 ?c4 ?k4 ?a5 ?l5 ?c5 ?k5 ?a6 ?l6 ?c6 ?k6 ?a7 ?l7 ?c7 ?k7 ?a8 ?l8 ?c8 ?k8 ?a9 ?l9 ?c9 ?k9 ?pa0 ?pl0 ?pk0 ?pp0 ?pz0 ?z_all ?z_bool ?z_int ?z_isinstance ?z_len ?z_list ?z_max ?z_min ?z_range ?z_str ?z_tuple
    (case a0 => k_is)
    (case l0 => k_is)
    (case c0 => k_is)
    (case k0 => k_is)
    (case t0 => k_is)
    (case v0 => exact .cons ⟨_, rfl⟩ .nil)
    (case a1 => k_is)
    (case l1 => k_is)
    (case c1 => k_is)
    (case k1 => k_is)
    (case a2 => k_is)
    (case l2 => k_is)
    (case c2 => k_is)
    (case k2 => k_is)
    (case a3 => k_is)
    (case l3 => k_is)
    (case c3 => k_is)
    (case k3 => k_is)
    (case a4 => k_is)
    (case l4 => k_is)
    (case c4 => k_is)
    (case k4 => k_is)
    (case a5 => k_is)
    (case l5 => k_is)
    (case c5 => k_is)
    (case k5 => k_is)
    (case a6 => k_is)
    (case l6 => k_is)
    (case c6 => k_is)
    (case k6 => k_is)
    (case a7 => k_is)
    (case l7 => k_is)
    (case c7 => k_is)
    (case k7 => k_is)
    (case a8 => k_is)
    (case l8 => k_is)
    (case c8 => k_is)
    (case k8 => k_is)
    (case a9 => k_is)
    (case l9 => k_is)
    (case c9 => k_is)
    (case k9 => k_is)
    (case pa0 => k_is)
    (case pl0 => k_is)
    (case pk0 => k_keys)
    (case pp0 => exact .cons ⟨⟨_, rfl⟩, .int _, ⟨_, rfl⟩, fun _ => .int _⟩ (.cons ⟨⟨_, rfl⟩, .int _, ⟨_, rfl⟩, fun _ => .int _⟩ (.cons ⟨⟨_, rfl⟩, .int _, ⟨_, rfl⟩, fun _ => .int _⟩ (.cons ⟨⟨_, rfl⟩, .int _, ⟨_, rfl⟩, fun _ => .int _⟩ (.cons ⟨⟨_, rfl⟩, .int _, ⟨_, rfl⟩, fun _ => .int _⟩ .nil)))))
    (case pz0 => first | rfl | decide | k_is)
    (case z_all => k_is)
    (case z_bool => k_is)
    (case z_int => k_is)
    (case z_isinstance => k_is)
    (case z_len => k_is)
    (case z_list => k_is)
    (case z_max => k_is)
    (case z_min => k_is)
    (case z_range => k_is)
    (case z_str => k_is)
    (case z_tuple => k_is)
#print axioms PySem.Challenge.cw_growjoin_k01_kinds_holds

