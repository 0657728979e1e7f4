import PyProof.Rows.All
import Wide.All
import OpenK.AllK
import Wide.FinOn
import HandS.ForMost
import HandS.ForExc
import HandS.Walk
import HandS.Wide
import HandS.Flow
import HandS.IsInst
import HandS.Deep
import HandS.TupAny
import HandS.Style
import KE.KUnpackStar
import HandS.Zip
import HandS.More
import HandS.Defaults
import HandS.FStr
import HandS.StrMore
import HandS.WordsExc
import HandS.ExcOwn
import HandS.ExcIs
import PySem.Challenge.RW_growjoin_k54_texts_of_no_kind
set_option Elab.async false
set_option linter.all false
set_option maxRecDepth 100000
set_option maxHeartbeats 4000000
/-! DL: a layer over HandS in which data that never change are plain trees (PyData); objects that change stand in a small store. -/
namespace DL
open PySem PySem.Spec PyProof.Rows L2

/-- what a slot, a list's place, a field holds: data, or the address of an object of the store -/
inductive Sl where
  | dat (d : PyData)
  | adr (a : Addr)
  | scr (ns : List Int)
/-- an object of the store -/
inductive OO where
  | lst (xs : List Sl)
  | dic (kvs : List (Key × Sl))
  | ins (C : Addr) (fs : List (Str × Sl))
abbrev Om := Addr → Option OO
abbrev DEnv := List (Option Sl)
def put (w : Om) (a : Addr) (o : OO) : Om := fun b => if b = a then some o else w b
def del (w : Om) (a : Addr) : Om := fun b => if b = a then none else w b
theorem put_same {w : Om} {a : Addr} {o : OO} : put w a o a = some o := by unfold put; rw [if_pos rfl]
theorem put_ne {w : Om} {a b : Addr} {o : OO} (h : b ≠ a) : put w a o b = w b := by unfold put; rw [if_neg h]
theorem put_put {w : Om} {a : Addr} {o u : OO} : put (put w a o) a u = put w a u := by funext b; unfold put; split <;> rfl
theorem del_same {w : Om} {a : Addr} : del w a a = none := by unfold del; rw [if_pos rfl]
theorem del_ne {w : Om} {a b : Addr} (h : b ≠ a) : del w a b = w b := by unfold del; rw [if_neg h]
theorem del_put {w : Om} {a : Addr} {o : OO} (h : w a = none) : del (put w a o) a = w := by
  funext b
  by_cases e : b = a
  · subst e; rw [del_same, h]
  · rw [del_ne e, put_ne e]
theorem put_get {w : Om} {a : Addr} {o : OO} (h : w a = some o) : put w a o = w := by
  funext b
  by_cases e : b = a
  · subst e; rw [put_same, h]
  · rw [put_ne e]
theorem put_comm {w : Om} {a b : Addr} {o u : OO} (h : a ≠ b) : put (put w a o) b u = put (put w b u) a o := by
  funext c
  by_cases e : c = b
  · subst e; rw [put_same, put_ne (Ne.symm h), put_same]
  · rw [put_ne e]
    by_cases e2 : c = a
    · subst e2; rw [put_same, put_same]
    · rw [put_ne e2, put_ne e2, put_ne e]
/-- a part of a store -/
def Sub (w u : Om) : Prop := ∀ a o, w a = some o → u a = some o
theorem Sub.refl (w : Om) : Sub w w := fun _ _ h => h
theorem Sub.trans {w u v : Om} (a : Sub w u) (b : Sub u v) : Sub w v := fun c o h => b c o (a c o h)
theorem Sub.new {w : Om} {a : Addr} {o : OO} (h : w a = none) : Sub w (put w a o) := fun b u e => by
  have : b ≠ a := fun z => by subst z; rw [h] at e; cases e
  rw [put_ne this]; exact e
theorem Sub.put {w u : Om} {a : Addr} {o : OO} (s : Sub w u) : Sub (put w a o) (put u a o) := fun b v e => by
  by_cases z : b = a
  · subst z; rw [put_same] at e ⊢; exact e
  · rw [put_ne z] at e ⊢; exact s b v e
theorem Sub.del (w : Om) (a : Addr) : Sub (del w a) w := fun b o e => by
  by_cases z : b = a
  · subst z; rw [del_same] at e; cases e
  · rw [del_ne z] at e; exact e

/-! ### data in a heap -/
mutual
inductive Dr (K : PySem.W.Frag) (D : Hp) : V → PyData → Prop
  | non : Dr K D .non .none
  | bl (b : Bool) : Dr K D (.bl b) (.bool b)
  | int (i : Int) : Dr K D (.int i) (.int i)
  | str (x : Str) : Dr K D (.str x) (.str x)
  | lst {a : Addr} {xs : List V} {ds : List PyData} : D a = some (.lst xs) → DrA K D xs ds → Dr K D (.ref a) (.list ds)
  | tup {a : Addr} {xs : List V} {ds : List PyData} : SqT K D a xs → DrA K D xs ds → Dr K D (.ref a) (.tuple ds)
  | dct {a : Addr} : D a = some (.dK []) → Dr K D (.ref a) (.dict [])
inductive DrA (K : PySem.W.Frag) (D : Hp) : List V → List PyData → Prop
  | nil : DrA K D [] []
  | cons {v : V} {vs : List V} {d : PyData} {ds : List PyData} : Dr K D v d → DrA K D vs ds → DrA K D (v :: vs) (d :: ds)
end
theorem sqT_mono {K : PySem.W.Frag} {D D' : Hp} {a : Addr} {xs : List V} (e : Same D D') (h : SqT K D a xs) : SqT K D' a xs := by
  rcases h with (h | ⟨o, h⟩) | h
  · exact .inl (.inl (e _ _ h))
  · exact .inl (.inr ⟨o, e _ _ h⟩)
  · exact .inr h
mutual
theorem Dr.mono {K : PySem.W.Frag} {D D' : Hp} (e : Same D D') : ∀ {v : V} {d : PyData}, Dr K D v d → Dr K D' v d
  | _, _, .non => .non
  | _, _, .bl b => .bl b
  | _, _, .int i => .int i
  | _, _, .str x => .str x
  | _, _, .lst h hs => .lst (e _ _ h) (DrA.mono e hs)
  | _, _, .tup h hs => .tup (sqT_mono e h) (DrA.mono e hs)
  | _, _, .dct h => .dct (e _ _ h)
theorem DrA.mono {K : PySem.W.Frag} {D D' : Hp} (e : Same D D') : ∀ {vs : List V} {ds : List PyData}, DrA K D vs ds → DrA K D' vs ds
  | _, _, .nil => .nil
  | _, _, .cons h hs => .cons (Dr.mono e h) (DrA.mono e hs)
end
theorem DrA.length {K : PySem.W.Frag} {D : Hp} : ∀ {vs : List V} {ds : List PyData}, DrA K D vs ds → vs.length = ds.length
  | _, _, .nil => rfl
  | _, _, .cons _ hs => by rw [List.length_cons, List.length_cons, DrA.length hs]
theorem DrA.get {K : PySem.W.Frag} {D : Hp} : ∀ {vs : List V} {ds : List PyData} {i : Nat} {d : PyData}, DrA K D vs ds → ds[i]? = some d → ∃ v, vs[i]? = some v ∧ Dr K D v d
  | _, _, _, _, .nil, e => by simp at e
  | _, _, 0, _, .cons h _, e => by simp at e; subst e; exact ⟨_, rfl, h⟩
  | _, _, i + 1, d, .cons _ hs, e => by
    obtain ⟨v, h1, h2⟩ := DrA.get (i := i) (d := d) hs (by simpa using e)
    exact ⟨v, by simpa using h1, h2⟩
theorem DrA.append {K : PySem.W.Frag} {D : Hp} : ∀ {vs us : List V} {ds es : List PyData}, DrA K D vs ds → DrA K D us es → DrA K D (vs ++ us) (ds ++ es)
  | _, _, _, _, .nil, s => s
  | _, _, _, _, .cons r t, s => .cons r (DrA.append t s)
theorem DrA.take {K : PySem.W.Frag} {D : Hp} : ∀ {vs : List V} {ds : List PyData} (n : Nat), DrA K D vs ds → DrA K D (vs.take n) (ds.take n)
  | _, _, 0, _ => .nil
  | _, _, _ + 1, .nil => .nil
  | _, _, n + 1, .cons r t => .cons r (DrA.take n t)
theorem DrA.drop {K : PySem.W.Frag} {D : Hp} : ∀ {vs : List V} {ds : List PyData} (n : Nat), DrA K D vs ds → DrA K D (vs.drop n) (ds.drop n)
  | _, _, 0, r => r
  | _, _, _ + 1, .nil => .nil
  | _, _, n + 1, .cons _ t => DrA.drop n t
theorem DrA.snoc {K : PySem.W.Frag} {D : Hp} {v : V} {d : PyData} {vs : List V} {ds : List PyData} (h : DrA K D vs ds) (r : Dr K D v d) : DrA K D (vs ++ [v]) (ds ++ [d]) := h.append (.cons r .nil)
theorem DrA.reverse {K : PySem.W.Frag} {D : Hp} : ∀ {vs : List V} {ds : List PyData}, DrA K D vs ds → DrA K D vs.reverse ds.reverse
  | _, _, .nil => .nil
  | _, _, .cons r t => by rw [List.reverse_cons, List.reverse_cons]; exact (DrA.reverse t).snoc r

/-- a value and what a slot says of it -/
def Vr (K : PySem.W.Frag) (D : Hp) (v : V) : Sl → Prop
  | .dat d => Dr K D v d
  | .adr a => v = .ref a
  | .scr ns => ∃ a, v = .ref a ∧ SqL K D a (ns.map V.int)
theorem Vr.mono {K : PySem.W.Frag} {D D' : Hp} {v : V} {s : Sl} (e : Same D D') (h : Vr K D v s) : Vr K D' v s := by
  cases s with
  | dat d => exact Dr.mono e h
  | adr a => exact h
  | scr ns => obtain ⟨a, h1, h2⟩ := h; exact ⟨a, h1, Same.seq e h2⟩
abbrev SlA (K : PySem.W.Frag) (D : Hp) : List V → List Sl → Prop := Paired (Vr K D)
theorem SlA.mono {K : PySem.W.Frag} {D D' : Hp} {vs : List V} {ss : List Sl} (e : Same D D') (h : SlA K D vs ss) : SlA K D' vs ss := Paired.mapP h fun _ _ r => r.mono e
theorem SlA.get {K : PySem.W.Frag} {D : Hp} : ∀ {vs : List V} {ss : List Sl} {i : Nat} {s : Sl}, SlA K D vs ss → ss[i]? = some s → ∃ v, vs[i]? = some v ∧ Vr K D v s
  | _, _, _, _, .nil, e => by simp at e
  | _, _, 0, _, .cons h _, e => by simp at e; subst e; exact ⟨_, rfl, h⟩
  | _, _, i + 1, s, .cons _ hs, e => by
    obtain ⟨v, h1, h2⟩ := SlA.get (i := i) (s := s) hs (by simpa using e)
    exact ⟨v, by simpa using h1, h2⟩
theorem SlA.append {K : PySem.W.Frag} {D : Hp} : ∀ {vs us : List V} {ds es : List Sl}, SlA K D vs ds → SlA K D us es → SlA K D (vs ++ us) (ds ++ es)
  | _, _, _, _, .nil, s => s
  | _, _, _, _, .cons r t, s => .cons r (SlA.append t s)
theorem SlA.set {K : PySem.W.Frag} {D : Hp} {v : V} {s : Sl} (r : Vr K D v s) : ∀ {vs : List V} {ss : List Sl} (i : Nat), SlA K D vs ss → SlA K D (vs.set i v) (ss.set i s)
  | _, _, _, .nil => .nil
  | _, _, 0, .cons _ t => .cons r t
  | _, _, i + 1, .cons q t => .cons q (SlA.set r i t)
theorem SlA.take {K : PySem.W.Frag} {D : Hp} : ∀ {vs : List V} {ds : List Sl} (n : Nat), SlA K D vs ds → SlA K D (vs.take n) (ds.take n)
  | _, _, 0, _ => .nil
  | _, _, _ + 1, .nil => .nil
  | _, _, n + 1, .cons r t => .cons r (SlA.take n t)
theorem SlA.drop {K : PySem.W.Frag} {D : Hp} : ∀ {vs : List V} {ds : List Sl} (n : Nat), SlA K D vs ds → SlA K D (vs.drop n) (ds.drop n)
  | _, _, 0, r => r
  | _, _, _ + 1, .nil => .nil
  | _, _, n + 1, .cons _ t => SlA.drop n t
theorem SlA.snoc {K : PySem.W.Frag} {D : Hp} {v : V} {d : Sl} {vs : List V} {ds : List Sl} (h : SlA K D vs ds) (r : Vr K D v d) : SlA K D (vs ++ [v]) (ds ++ [d]) := SlA.append h (.cons r .nil)
theorem SlA.reverse {K : PySem.W.Frag} {D : Hp} : ∀ {vs : List V} {ds : List Sl}, SlA K D vs ds → SlA K D vs.reverse ds.reverse
  | _, _, .nil => .nil
  | _, _, .cons r t => by rw [List.reverse_cons, List.reverse_cons]; exact (SlA.reverse t).snoc r
theorem DrA.sl {K : PySem.W.Frag} {D : Hp} : ∀ {vs : List V} {ds : List PyData}, DrA K D vs ds → SlA K D vs (ds.map .dat)
  | _, _, .nil => .nil
  | _, _, .cons h hs => .cons h (DrA.sl hs)
theorem SlA.dat {K : PySem.W.Frag} {D : Hp} : ∀ {ds : List PyData} {vs : List V}, SlA K D vs (ds.map .dat) → DrA K D vs ds
  | [], _, .nil => .nil
  | _ :: _, _, .cons h hs => .cons h (SlA.dat hs)

/-- an object of the store as it stands in the heap -/
def OwnOk (K : PySem.W.Frag) (D H : Hp) (a : Addr) : OO → Prop
  | .lst xs => ∃ vs, H a = some (.lst vs) ∧ SlA K D vs xs
  | .dic kvs => ∃ ks, H a = some (.dK ks) ∧ Paired (fun (p : Key × V) (q : Key × Sl) => p.1 = q.1 ∧ Vr K D p.2 q.2) ks kvs
  | .ins C fs => ∃ dx gs, H a = some (.ins C dx gs) ∧ Paired (fun (p : Str × V) (q : Str × Sl) => p.1 = q.1 ∧ Vr K D p.2 q.2) gs fs
theorem OwnOk.mono {K : PySem.W.Frag} {D D' H H' : Hp} {a : Addr} {o : OO} (e : Same D D') (h : ∀ u, H a = some u → H' a = some u) (x : OwnOk K D H a o) : OwnOk K D' H' a o := by
  cases o with
  | lst xs => obtain ⟨vs, h1, h2⟩ := x; exact ⟨vs, h _ h1, SlA.mono e h2⟩
  | dic kvs => obtain ⟨ks, h1, h2⟩ := x; exact ⟨ks, h _ h1, Paired.mapP h2 fun _ _ r => ⟨r.1, r.2.mono e⟩⟩
  | ins C fs => obtain ⟨dx, gs, h1, h2⟩ := x; exact ⟨dx, gs, h _ h1, Paired.mapP h2 fun _ _ r => ⟨r.1, r.2.mono e⟩⟩
theorem OwnOk.there {K : PySem.W.Frag} {D H : Hp} {a : Addr} {o : OO} (x : OwnOk K D H a o) : H a ≠ none := by
  cases o with
  | lst xs => obtain ⟨vs, h1, h2⟩ := x; rw [h1]; intro z; cases z
  | dic kvs => obtain ⟨ks, h1, h2⟩ := x; rw [h1]; intro z; cases z
  | ins C fs => obtain ⟨dx, gs, h1, h2⟩ := x; rw [h1]; intro z; cases z

/-- the store and the data as they stand in the heap -/
structure StOk (K : PySem.W.Frag) (w : Om) (D H : Hp) : Prop where
  dh : Same D H
  own : ∀ a o, w a = some o → OwnOk K D H a o
  sep : ∀ a o, w a = some o → D a = none
/-- .. with the slots -/
structure Rp (K : PySem.W.Frag) (σ : L2.St) (ρ : DEnv) (w : Om) (D H : Hp) : Prop where
  st : StOk K w D H
  len : ρ.length = σ.length
  slot : ∀ (i : Nat) (s : Sl), ρ[i]? = some (some s) → ∃ v, σ[i]? = some (some v) ∧ Vr K D v s
/-- what a step leaves -/
structure Gr (w : Om) (D H : Hp) (w' : Om) (D' H' : Hp) : Prop where
  dd : Same D D'
  fr : ∀ a o, H a = some o → w a = none → H' a = some o
  nw : ∀ a, H a ≠ none → w a = none → w' a = none
  nd : ∀ a, H a ≠ none → w a = none → D a = none → D' a = none
  dm : ∀ a, H a ≠ none → H' a ≠ none
theorem Gr.refl (w : Om) (D H : Hp) : Gr w D H w D H := ⟨Same.refl D, fun _ _ h _ => h, fun _ _ h => h, fun _ _ _ h => h, fun _ h => h⟩
theorem Gr.trans {w w1 w2 : Om} {D D1 D2 H H1 H2 : Hp} (a : Gr w D H w1 D1 H1) (b : Gr w1 D1 H1 w2 D2 H2) : Gr w D H w2 D2 H2 where
  dd := a.dd.trans b.dd
  fr := fun x o h n => b.fr x o (a.fr x o h n) (a.nw x (by rw [h]; intro z; cases z) n)
  nw := fun x h n => b.nw x (a.dm x h) (a.nw x h n)
  nd := fun x h n d => b.nd x (a.dm x h) (a.nw x h n) (a.nd x h n d)
  dm := fun x h => b.dm x (a.dm x h)
theorem StOk.there {K : PySem.W.Frag} {w : Om} {D H : Hp} {a : Addr} {o : OO} (s : StOk K w D H) (h : w a = some o) : H a ≠ none := (s.own a o h).there
theorem StOk.freeW {K : PySem.W.Frag} {w : Om} {D H : Hp} {a : Addr} (s : StOk K w D H) (h : H a = none) : w a = none := by
  cases e : w a with
  | none => rfl
  | some o => exact absurd h (s.there e)
theorem StOk.freeD {K : PySem.W.Frag} {w : Om} {D H : Hp} {a : Addr} (s : StOk K w D H) (h : H a = none) : D a = none := by
  cases e : D a with
  | none => rfl
  | some o => rw [s.dh a o e] at h; cases h
theorem StOk.sub {K : PySem.W.Frag} {w u : Om} {D H : Hp} (s : StOk K w D H) (h : Sub u w) : StOk K u D H := ⟨s.dh, fun a o e => s.own a o (h a o e), fun a o e => s.sep a o (h a o e)⟩
theorem Rp.next {K : PySem.W.Frag} {σ : L2.St} {ρ : DEnv} {w w' : Om} {D D' H H' : Hp} (r : Rp K σ ρ w D H) (e : Same D D') (s : StOk K w' D' H') : Rp K σ ρ w' D' H' :=
  ⟨s, r.len, fun i s h => by obtain ⟨v, h1, h2⟩ := r.slot i s h; exact ⟨v, h1, h2.mono e⟩⟩
theorem Rp.set {K : PySem.W.Frag} {σ : L2.St} {ρ : DEnv} {w : Om} {D H : Hp} {v : V} {s : Sl} (r : Rp K σ ρ w D H) (i : Nat) (h : Vr K D v s) : Rp K (σ.set i (some v)) (ρ.set i (some s)) w D H := by
  refine ⟨r.st, by rw [List.length_set, List.length_set]; exact r.len, fun j t e => ?_⟩
  by_cases z : j = i
  · subst z
    by_cases hl : j < ρ.length
    · rw [List.getElem?_set_self hl] at e
      cases e
      exact ⟨v, List.getElem?_set_self (by rw [← r.len]; exact hl), h⟩
    · rw [List.getElem?_eq_none (by rw [List.length_set]; omega)] at e
      cases e
  · rw [List.getElem?_set_ne (Ne.symm z)] at e ⊢
    exact r.slot j t e
/-- a new piece of data -/
theorem StOk.newD {K : PySem.W.Frag} {w : Om} {D H : Hp} {p : Addr} {o : HO} (s : StOk K w D H) (hp : H p = none) : StOk K w (upd D p o) (upd H p o) where
  dh := fun a u e => by
    by_cases z : a = p
    · subst z; rw [upd_same] at e ⊢; exact e
    · rw [upd_ne z] at e ⊢; exact s.dh a u e
  own := fun a u e => (s.own a u e).mono (fun b v q => by rw [upd_ne (ne_of_none q (s.freeD hp))]; exact q) fun v q => by rw [upd_ne (ne_of_none q hp)]; exact q
  sep := fun a u e => by
    have : a ≠ p := fun z => s.there e (by rw [z]; exact hp)
    rw [upd_ne this]; exact s.sep a u e
theorem Gr.newD {K : PySem.W.Frag} {w : Om} {D H : Hp} {p : Addr} {o : HO} (s : StOk K w D H) (hp : H p = none) : Gr w D H w (upd D p o) (upd H p o) where
  dd := fun b v q => by rw [upd_ne (ne_of_none q (s.freeD hp))]; exact q
  fr := fun a u e _ => by rw [upd_ne (ne_of_none e hp)]; exact e
  nw := fun _ _ h => h
  nd := fun a h _ d => by
    have : a ≠ p := fun z => h (by rw [z]; exact hp)
    rw [upd_ne this]; exact d
  dm := fun a h => by
    have : a ≠ p := fun z => h (by rw [z]; exact hp)
    rw [upd_ne this]; exact h
/-- a new object of the store -/
theorem StOk.newW {K : PySem.W.Frag} {w : Om} {D H : Hp} {p : Addr} {o : HO} {u : OO} (s : StOk K w D H) (hp : H p = none) (ok : OwnOk K D (upd H p o) p u) : StOk K (put w p u) D (upd H p o) where
  dh := fun a u e => by rw [upd_ne (ne_of_none (s.dh a u e) hp)]; exact s.dh a u e
  own := fun a v e => by
    by_cases z : a = p
    · subst z; rw [put_same] at e; cases e; exact ok
    · rw [put_ne z] at e
      exact (s.own a v e).mono (Same.refl D) fun x q => by rw [upd_ne z]; exact q
  sep := fun a v e => by
    by_cases z : a = p
    · subst z; exact s.freeD hp
    · rw [put_ne z] at e; exact s.sep a v e
theorem Gr.newW {K : PySem.W.Frag} {w : Om} {D H : Hp} {p : Addr} {o : HO} {u : OO} (s : StOk K w D H) (hp : H p = none) : Gr w D H (put w p u) D (upd H p o) where
  dd := Same.refl D
  fr := fun a u e _ => by rw [upd_ne (ne_of_none e hp)]; exact e
  nw := fun a h n => by
    have : a ≠ p := fun z => h (by rw [z]; exact hp)
    rw [put_ne this]; exact n
  nd := fun _ _ _ d => d
  dm := fun a h => by
    have : a ≠ p := fun z => h (by rw [z]; exact hp)
    rw [upd_ne this]; exact h
/-- an object of the store is changed -/
theorem StOk.write {K : PySem.W.Frag} {w : Om} {D H : Hp} {p : Addr} {o : HO} {u u' : OO} (s : StOk K w D H) (hw : w p = some u) (ok : OwnOk K D (upd H p o) p u') : StOk K (put w p u') D (upd H p o) where
  dh := fun a v e => by
    have : a ≠ p := fun z => by subst z; rw [s.sep a u hw] at e; cases e
    rw [upd_ne this]; exact s.dh a v e
  own := fun a v e => by
    by_cases z : a = p
    · subst z; rw [put_same] at e; cases e; exact ok
    · rw [put_ne z] at e
      exact (s.own a v e).mono (Same.refl D) fun x q => by rw [upd_ne z]; exact q
  sep := fun a v e => by
    by_cases z : a = p
    · subst z; exact s.sep a u hw
    · rw [put_ne z] at e; exact s.sep a v e
theorem Gr.write {w : Om} {D H : Hp} {p : Addr} {o : HO} {u u' : OO} (hw : w p = some u) : Gr w D H (put w p u') D (upd H p o) where
  dd := Same.refl D
  fr := fun a v e n => by
    have : a ≠ p := fun z => by subst z; rw [hw] at n; cases n
    rw [upd_ne this]; exact e
  nw := fun a h n => by
    have : a ≠ p := fun z => by subst z; rw [hw] at n; cases n
    rw [put_ne this]; exact n
  nd := fun _ _ _ d => d
  dm := fun a h => by
    by_cases z : a = p
    · subst z; rw [upd_same]; intro q; cases q
    · rw [upd_ne z]; exact h
/-- a list of the store becomes data -/
theorem StOk.freeze {K : PySem.W.Frag} {w : Om} {D H : Hp} {p : Addr} {o : HO} {u : OO} (s : StOk K w D H) (hw : w p = some u) (hp : H p = some o) : StOk K (del w p) (upd D p o) H where
  dh := fun a v e => by
    by_cases z : a = p
    · subst z; rw [upd_same] at e; cases e; exact hp
    · rw [upd_ne z] at e; exact s.dh a v e
  own := fun a v e => by
    by_cases z : a = p
    · subst z; rw [del_same] at e; cases e
    · rw [del_ne z] at e
      refine (s.own a v e).mono (fun b x q => ?_) fun x q => q
      have : b ≠ p := fun z => by subst z; rw [s.sep b u hw] at q; cases q
      rw [upd_ne this]; exact q
  sep := fun a v e => by
    by_cases z : a = p
    · subst z; rw [del_same] at e; cases e
    · rw [del_ne z] at e; rw [upd_ne z]; exact s.sep a v e
theorem Gr.freeze {K : PySem.W.Frag} {w : Om} {D H : Hp} {p : Addr} {o : HO} {u : OO} (s : StOk K w D H) (hw : w p = some u) : Gr w D H (del w p) (upd D p o) H where
  dd := fun b x q => by
    have : b ≠ p := fun z => by subst z; rw [s.sep b u hw] at q; cases q
    rw [upd_ne this]; exact q
  fr := fun _ _ e _ => e
  nw := fun a _ n => by
    by_cases z : a = p
    · subst z; exact del_same
    · rw [del_ne z]; exact n
  nd := fun a _ n d => by
    have : a ≠ p := fun z => by subst z; rw [hw] at n; cases n
    rw [upd_ne this]; exact d
  dm := fun _ h => h
theorem Gr.sub {w w' u : Om} {D H D' H' : Hp} (g : Gr w D H w' D' H') (h : Sub u w') : Gr w D H u D' H' :=
  ⟨g.dd, g.fr, fun a x n => (by
    have := g.nw a x n
    cases e : u a with
    | none => rfl
    | some o => rw [h a o e] at this; cases this), g.nd, g.dm⟩
end DL

set_option Elab.async false
set_option linter.all false
set_option maxRecDepth 100000
set_option maxHeartbeats 4000000
namespace DL
open PySem PySem.Spec PyProof.Rows L2

abbrev DQ := Sl → Om → Prop
abbrev DTE := DEnv → Om → DQ → Prop
abbrev DTT := DEnv → Om → (Bool → Om → Prop) → Prop
abbrev DTA := DEnv → Om → (List Sl → Om → Prop) → Prop
abbrev DTO := DEnv → Om → (Option Int → Om → Prop) → Prop
/-- what is wanted of an exception: the slots, its class, its fields (none: no dict of its own), the store -/
abbrev DX := DEnv → Addr → Option (List (Str × Sl)) → Om → Prop
def XR (K : PySem.W.Frag) (D H : Hp) (d : Option Addr) : Option (List (Str × Sl)) → Prop
  | none => d = none
  | some fs => ∃ a gs, d = some a ∧ H a = some (.xd gs) ∧ Paired (fun (p : Str × V) (q : Str × Sl) => p.1 = q.1 ∧ Vr K D p.2 q.2) gs fs
def XOk (K : PySem.W.Frag) (W : WX) (Z : DX) (w : Om) (D H : Hp) : Prop :=
  ∀ σ' ρ' C x w' D' H' d, Z ρ' C x w' → Gr w D H w' D' H' → Rp K σ' ρ' w' D' H' → XR K D' H' d x → W (.ref C) d σ' H'
theorem XOk.next {K : PySem.W.Frag} {W : WX} {Z : DX} {w w1 : Om} {D D1 H H1 : Hp} (x : XOk K W Z w D H) (g : Gr w D H w1 D1 H1) : XOk K W Z w1 D1 H1 :=
  fun σ' ρ' C e w' D' H' d z g' r q => x σ' ρ' C e w' D' H' d z (g.trans g') r q
/-- the end of an expression -/
def Fin (K : PySem.W.Frag) (w : Om) (D H : Hp) (R : DQ) (Q : VK) : Prop := ∀ s w' z D' H', R s w' → Gr w D H w' D' H' → StOk K w' D' H' → Vr K D' z s → Q z H'
section
variable {K : PySem.W.Frag} {w w1 : Om} {D D1 H H1 : Hp} {R : DQ} {Q : VK}
theorem Fin.v {s : Sl} {z : V} (f : Fin K w D H R Q) (st : StOk K w D H) (h : R s w) (r : Vr K D z s) : Q z H := f s w z D H h (Gr.refl _ _ _) st r
theorem Fin.d {d : PyData} {z : V} (f : Fin K w D H R Q) (st : StOk K w D H) (h : R (.dat d) w) (r : Dr K D z d) : Q z H := f (.dat d) w z D H h (Gr.refl _ _ _) st r
theorem Fin.nl {xs : List Sl} {vs : List V} (f : Fin K w D H R Q) (st : StOk K w D H) (h : ∀ p, w p = none → R (.adr p) (put w p (.lst xs))) (r : SlA K D vs xs) : ∀ p, H p = none → Q (.ref p) (upd H p (.lst vs)) := fun p hp =>
  f (.adr p) (put w p (.lst xs)) (.ref p) D (upd H p (.lst vs)) (h p (st.freeW hp)) (Gr.newW st hp) (st.newW hp ⟨vs, upd_same, r⟩) rfl
theorem Fin.nt {ds : List PyData} {vs : List V} (f : Fin K w D H R Q) (st : StOk K w D H) (h : R (.dat (.tuple ds)) w) (r : DrA K D vs ds) : ∀ p, H p = none → Q (.ref p) (upd H p (.tup vs)) := fun p hp =>
  f (.dat (.tuple ds)) w (.ref p) (upd D p (.tup vs)) (upd H p (.tup vs)) h (Gr.newD st hp) (st.newD hp) (.tup (SqT.of upd_same) (r.mono (Gr.newD (o := .tup vs) st hp).dd))
theorem Fin.next (f : Fin K w D H R Q) (g : Gr w D H w1 D1 H1) : Fin K w1 D1 H1 R Q := fun s w' z D' H' h g' st r => f s w' z D' H' h (g.trans g') st r
end

/-! ### the judgements, as readings over heaps -/
def up (K : PySem.W.Frag) (W : WX) (Z : DX) (t : DTE) : TE := fun σ H Q => ∃ ρ w D R, Rp K σ ρ w D H ∧ XOk K W Z w D H ∧ t ρ w R ∧ Fin K w D H R Q
def upT (K : PySem.W.Frag) (W : WX) (Z : DX) (t : DTT) : TT := fun σ H Q => ∃ ρ w D R, Rp K σ ρ w D H ∧ XOk K W Z w D H ∧ t ρ w R ∧ ∀ b w' D' H', R b w' → Gr w D H w' D' H' → StOk K w' D' H' → Q b H'
def upA (K : PySem.W.Frag) (W : WX) (Z : DX) (t : DTA) : TA := fun σ H Q => ∃ ρ w D R, Rp K σ ρ w D H ∧ XOk K W Z w D H ∧ t ρ w R ∧ ∀ ss w' vs D' H', R ss w' → Gr w D H w' D' H' → StOk K w' D' H' → SlA K D' vs ss → Q vs H'
def upO (K : PySem.W.Frag) (W : WX) (Z : DX) (t : DTO) : TO := fun σ H Q => ∃ ρ w D R, Rp K σ ρ w D H ∧ XOk K W Z w D H ∧ t ρ w R ∧ ∀ o w' D' H', R o w' → Gr w D H w' D' H' → StOk K w' D' H' → Q o H'
abbrev DE (X : Cx) (W : WX) (Z : DX) (e : Expr) (t : DTE) : Prop := PE X e (up X.K W Z t)
abbrev DT (X : Cx) (W : WX) (Z : DX) (e : Expr) (t : DTT) : Prop := PT X e (upT X.K W Z t)
abbrev DW (X : Cx) (W : WX) (Z : DX) (e : Expr) (t : DTT) : Prop := PW X e (upT X.K W Z t)
abbrev DA (X : Cx) (W : WX) (Z : DX) (es : List Expr) (t : DTA) : Prop := PA X es (upA X.K W Z t)
abbrev DO (X : Cx) (W : WX) (Z : DX) (e : Option Expr) (t : DTO) : Prop := PO X e (upO X.K W Z t)
theorem pe_weak {X : Cx} {e : Expr} {t t' : TE} (h : PE X e t) (i : ∀ σ H Q, t' σ H Q → t σ H Q) : PE X e t' := ⟨fun pins s σ H Q I q => h.run pins s σ H Q I (i σ H Q q)⟩
theorem pt_weak {X : Cx} {e : Expr} {t t' : TT} (h : PT X e t) (i : ∀ σ H Q, t' σ H Q → t σ H Q) : PT X e t' := ⟨fun pins s σ H Q I q => h.run pins s σ H Q I (i σ H Q q)⟩
theorem pw_weak {X : Cx} {e : Expr} {t t' : TT} (h : PW X e t) (i : ∀ σ H Q, t' σ H Q → t σ H Q) : PW X e t' := ⟨fun whole pins s σ H Q I q => h.run whole pins s σ H Q I (i σ H Q q)⟩
theorem pa_weak {X : Cx} {e : List Expr} {t t' : TA} (h : PA X e t) (i : ∀ σ H Q, t' σ H Q → t σ H Q) : PA X e t' := ⟨fun p pins s σ H Q I q => h.run p pins s σ H Q I (i σ H Q q)⟩
theorem po_weak {X : Cx} {e : Option Expr} {t t' : TO} (h : PO X e t) (i : ∀ σ H Q, t' σ H Q → t σ H Q) : PO X e t' := ⟨fun pins s σ H Q I q => h.run pins s σ H Q I (i σ H Q q)⟩

section
variable {X : Cx} {W : WX} {Z : DX}
/-! ### names, constants -/
def dVar (i : Nat) : DTE := fun ρ w R => ∃ s, ρ[i]? = some (some s) ∧ R s w
def dC (d : PyData) : DTE := fun _ w R => R (.dat d) w
def dS (s : Sl) : DTE := fun _ w R => R s w
theorem dv (i : Nat) {x : Str} {pos : Pos} (hN : X.N[i]? = some x := by rfl) (hv : Vis X.env.scope x := by first | exact Or.inl rfl | exact Or.inr (Or.inl rfl) | exact Or.inr (Or.inr rfl)) (hd : (x == ("__debug__" : Str)) = false := by decide)
    (hcd : (x == ("__classdict__" : Str)) = false := by decide) : DE X W Z (.Name x pos) (dVar i) :=
  pe_weak (pe_var (i := i) hN hv hd hcd) fun σ H Q ⟨ρ, w, D, R, rp, _, ⟨s, hs, h⟩, f⟩ => by
    obtain ⟨v, h1, h2⟩ := rp.slot i s hs
    exact ⟨v, h1, f.v rp.st h h2⟩
theorem de_c {e : Expr} {v : V} {d : PyData} (h : PE X e (tC v)) (r : ∀ D, Dr X.K D v d) : DE X W Z e (dC d) :=
  pe_weak h fun σ H Q ⟨ρ, w, D, R, rp, _, h, f⟩ => f.d rp.st h (r D)
theorem de_s {e : Expr} {v : V} {s : Sl} (h : PE X e (tC v)) (r : ∀ D, Vr X.K D v s) : DE X W Z e (dS s) :=
  pe_weak h fun σ H Q ⟨ρ, w, D, R, rp, _, h, f⟩ => f.v rp.st h (r D)
theorem de_int {i j pos} : DE X W Z (.Constant (.int i) j pos) (dC (.int i)) := de_c pe_int fun _ => .int i
theorem de_bl {b j pos} : DE X W Z (.Constant (.bool b) j pos) (dC (.bool b)) := de_c pe_bl fun _ => .bl b
theorem de_non {j pos} : DE X W Z (.Constant .none j pos) (dC .none) := de_c pe_non fun _ => .non
theorem de_str {x j pos} : DE X W Z (.Constant (.str x) j pos) (dC (.str x)) := de_c pe_str fun _ => .str x
/-- a name of the module: a constant, or what stands in the written part -/
theorem de_glob {x : Str} {v : V} {u : Value} {d : PyData} {pos : Pos} (hg : Gl X x) (hm : X.mg x = some u) (r : RelV v u) (rd : ∀ D, Dr X.K D v d) (hd : (x == ("__debug__" : Str)) = false := by decide) : DE X W Z (.Name x pos) (dC d) := de_c (pe_glob hg hm r hd) rd
theorem de_globA {x : Str} {a : Addr} {pos : Pos} (hg : Gl X x) (hm : X.mg x = some (.ref a)) (hd : (x == ("__debug__" : Str)) = false := by decide) : DE X W Z (.Name x pos) (dS (.adr a)) := de_s (pe_glob (v := .ref a) hg hm rfl hd) fun _ => rfl

/-! ### what comes of an operation: a value, or a new list -/
inductive Ou where
  | v (s : Sl)
  | nl (xs : List Sl)
def ret : Ou → Om → DQ → Prop
  | .v s, w, R => R s w
  | .nl xs, w, R => xs.length ≤ sizeLine ∧ ∀ p, w p = none → R (.adr p) (put w p (.lst xs))
abbrev G2 := Om → Sl → Sl → Option Ou
def dOp (g : G2) (ta tb : DTE) : DTE := fun ρ w R => ta ρ w fun x w1 => tb ρ w1 fun y w2 => ∃ o, g w2 x y = some o ∧ ret o w2 R
def OpV (K : PySem.W.Frag) (r : R2) (g : G2) : Prop := ∀ x y v u w D H o R Q, StOk K w D H → Vr K D v x → Vr K D u y → g w x y = some o → ret o w R → Fin K w D H R Q → r v u H Q
variable {a b c : Expr} {ta tb tc : DTE} {pos : Pos}
theorem up_op {r : R2} {g : G2} (hv : OpV X.K r g) (σ : L2.St) (H : Hp) (Q : VK) (h : up X.K W Z (dOp g ta tb) σ H Q) : tOp r (up X.K W Z ta) (up X.K W Z tb) σ H Q := by
  obtain ⟨ρ, w, D, R, rp, xo, h, f⟩ := h
  refine ⟨ρ, w, D, _, rp, xo, h, fun x w1 v D1 H1 h1 g1 s1 rx => ?_⟩
  refine ⟨ρ, w1, D1, _, rp.next g1.dd s1, xo.next g1, h1, fun y w2 u D2 H2 h2 g2 s2 ry => ?_⟩
  obtain ⟨o, e, ho⟩ := h2
  exact hv x y v u w2 D2 H2 o R Q s2 (rx.mono g2.dd) ry e ho (f.next (g1.trans g2))
theorem de_op {op : Operator} {r : R2} {g : G2} (ho : OpR X (binaryOp op) r) (hv : OpV X.K r g) (ha : DE X W Z a ta) (hb : DE X W Z b tb) : DE X W Z (.BinOp a op b pos) (dOp g ta tb) :=
  pe_weak (pe_op ho ha hb) fun σ H Q h => up_op hv σ H Q h
theorem de_cmp {op : CmpOp} {r : R2} {g : G2} (ho : OpR X (compareOp op) r) (hv : OpV X.K r g) (ha : DE X W Z a ta) (hb : DE X W Z b tb) (hm : behindInMarks op b = false) : DE X W Z (.Compare a [op] [b] pos) (dOp g ta tb) :=
  pe_weak (pe_cmpR ho ha hb hm) fun σ H Q h => up_op hv σ H Q h
/-- a test by a value that is True or False -/
def dTst (t : DTE) : DTT := fun ρ w R => t ρ w fun s w' => ∃ k, s = .dat (.bool k) ∧ R k w'
theorem dr_bool {K : PySem.W.Frag} {D : Hp} {z : V} {k : Bool} (h : Dr K D z (.bool k)) : z = .bl k := by cases h; rfl
theorem dr_int {K : PySem.W.Frag} {D : Hp} {z : V} {k : Int} (h : Dr K D z (.int k)) : z = .int k := by cases h; rfl
theorem dr_str {K : PySem.W.Frag} {D : Hp} {z : V} {k : Str} (h : Dr K D z (.str k)) : z = .str k := by cases h; rfl
theorem dr_none {K : PySem.W.Frag} {D : Hp} {z : V} (h : Dr K D z .none) : z = .non := by cases h; rfl
theorem fin_tst {K : PySem.W.Frag} {w : Om} {D H : Hp} {R Q : Bool → Om → Prop} {P : Bool → Hp → Prop} (f : ∀ b w' D' H', R b w' → Gr w D H w' D' H' → StOk K w' D' H' → P b H') :
    Fin K w D H (fun s w' => ∃ k, s = .dat (.bool k) ∧ R k w') (fun x H' => ∃ k, x = .bl k ∧ P k H') := fun s w' z D' H' h g st r => by
  obtain ⟨k, rfl, h⟩ := h
  exact ⟨k, dr_bool r, f k w' D' H' h g st⟩
theorem dt_cmp {op : CmpOp} {r : R2} {g : G2} (ho : OpR X (compareOp op) r) (hv : OpV X.K r g) (ha : DE X W Z a ta) (hb : DE X W Z b tb) (hm : behindInMarks op b = false) : DT X W Z (.Compare a [op] [b] pos) (dTst (dOp g ta tb)) :=
  pt_weak (pt_cmpR ho ha hb hm) fun σ H Q ⟨ρ, w, D, R, rp, xo, h, f⟩ => up_op hv σ H _ ⟨ρ, w, D, _, rp, xo, h, fin_tst (Q := fun _ _ => True) f⟩
theorem dt_val {e : Expr} {t : DTE} (h : DE X W Z e t) (he : ∀ whole, isTrue e X.env whole = (do let v ← whole; standAt e.pos; holding [v] (truthy v)) := by intro _; rfl) : DT X W Z e (dTst t) :=
  pt_weak (pt_val h he) fun σ H Q ⟨ρ, w, D, R, rp, xo, h, f⟩ => ⟨ρ, w, D, _, rp, xo, h, fin_tst (Q := fun _ _ => True) f⟩
/-! ### and, or, not -/
def dAnd (t u : DTT) : DTT := fun ρ w R => t ρ w fun k w1 => if k = true then u ρ w1 R else R false w1
def dOr (t u : DTT) : DTT := fun ρ w R => t ρ w fun k w1 => if k = true then R true w1 else u ρ w1 R
def dNot (t : DTT) : DTT := fun ρ w R => t ρ w fun k w1 => R (!k) w1
variable {t u : DTT} {rest : List Expr}
theorem up_and (σ : L2.St) (H : Hp) (Q : Bool → Hp → Prop) (h : upT X.K W Z (dAnd t u) σ H Q) : tAnd (upT X.K W Z t) (upT X.K W Z u) σ H Q := by
  obtain ⟨ρ, w, D, R, rp, xo, h, f⟩ := h
  refine ⟨ρ, w, D, _, rp, xo, h, fun k w1 D1 H1 h1 g1 s1 => ?_⟩
  cases k with
  | true =>
    rw [if_pos rfl] at h1 ⊢
    exact ⟨ρ, w1, D1, R, rp.next g1.dd s1, xo.next g1, h1, fun b w' D' H' q g s => f b w' D' H' q (g1.trans g) s⟩
  | false =>
    rw [if_neg Bool.false_ne_true] at h1 ⊢
    exact f false w1 D1 H1 h1 g1 s1
theorem up_or (σ : L2.St) (H : Hp) (Q : Bool → Hp → Prop) (h : upT X.K W Z (dOr t u) σ H Q) : tOr (upT X.K W Z t) (upT X.K W Z u) σ H Q := by
  obtain ⟨ρ, w, D, R, rp, xo, h, f⟩ := h
  refine ⟨ρ, w, D, _, rp, xo, h, fun k w1 D1 H1 h1 g1 s1 => ?_⟩
  cases k with
  | true =>
    rw [if_pos rfl] at h1 ⊢
    exact f true w1 D1 H1 h1 g1 s1
  | false =>
    rw [if_neg Bool.false_ne_true] at h1 ⊢
    exact ⟨ρ, w1, D1, R, rp.next g1.dd s1, xo.next g1, h1, fun b w' D' H' q g s => f b w' D' H' q (g1.trans g) s⟩
theorem dw_and1 (ha : DT X W Z a t) : DW X W Z (.BoolOp .And [a] pos) t := pw_and1 ha
theorem dw_or1 (ha : DT X W Z a t) : DW X W Z (.BoolOp .Or [a] pos) t := pw_or1 ha
theorem dw_and (ha : DT X W Z a t) (hb : DW X W Z (.BoolOp .And (b :: rest) pos) u) : DW X W Z (.BoolOp .And (a :: b :: rest) pos) (dAnd t u) := pw_weak (pw_and ha hb) up_and
theorem dw_or (ha : DT X W Z a t) (hb : DW X W Z (.BoolOp .Or (b :: rest) pos) u) : DW X W Z (.BoolOp .Or (a :: b :: rest) pos) (dOr t u) := pw_weak (pw_or ha hb) up_or
theorem dt_w {e : Expr} (h : DW X W Z e t) : DT X W Z e t := PW.pt h
theorem dt_not (ha : DT X W Z a t) : DT X W Z (.UnaryOp .Not a pos) (dNot t) :=
  pt_weak (pt_not ha) fun σ H Q ⟨ρ, w, D, R, rp, xo, h, f⟩ => ⟨ρ, w, D, _, rp, xo, h, fun k w1 D1 H1 h1 g1 s1 => f _ w1 D1 H1 h1 g1 s1⟩
/-- the same as values (all but the last True or False) -/
def dAndV (ta tb : DTE) : DTE := fun ρ w R => ta ρ w fun s w1 => ∃ k, s = .dat (.bool k) ∧ if k = true then tb ρ w1 R else R (.dat (.bool false)) w1
def dOrV (ta tb : DTE) : DTE := fun ρ w R => ta ρ w fun s w1 => ∃ k, s = .dat (.bool k) ∧ if k = true then R (.dat (.bool true)) w1 else tb ρ w1 R
def dNotV (ta : DTE) : DTE := fun ρ w R => ta ρ w fun s w1 => ∃ k, s = .dat (.bool k) ∧ R (.dat (.bool !k)) w1
theorem de_one {op} (h : DE X W Z a ta) : DE X W Z (.BoolOp op [a] pos) ta := pe_one h
theorem de_and (ha : DE X W Z a ta) (hb : DE X W Z (.BoolOp .And (b :: rest) pos) tb) : DE X W Z (.BoolOp .And (a :: b :: rest) pos) (dAndV ta tb) :=
  pe_weak (pe_and ha hb) fun σ H Q ⟨ρ, w, D, R, rp, xo, h, f⟩ => ⟨ρ, w, D, _, rp, xo, h, fun s w1 z D1 H1 h1 g1 s1 r1 => by
    obtain ⟨k, rfl, h1⟩ := h1
    refine ⟨k, dr_bool r1, ?_⟩
    cases k with
    | true => rw [if_pos rfl] at h1 ⊢; exact ⟨ρ, w1, D1, R, rp.next g1.dd s1, xo.next g1, h1, f.next g1⟩
    | false => rw [if_neg Bool.false_ne_true] at h1 ⊢; exact (f.next g1).d s1 h1 (.bl false)⟩
theorem de_or (ha : DE X W Z a ta) (hb : DE X W Z (.BoolOp .Or (b :: rest) pos) tb) : DE X W Z (.BoolOp .Or (a :: b :: rest) pos) (dOrV ta tb) :=
  pe_weak (pe_or ha hb) fun σ H Q ⟨ρ, w, D, R, rp, xo, h, f⟩ => ⟨ρ, w, D, _, rp, xo, h, fun s w1 z D1 H1 h1 g1 s1 r1 => by
    obtain ⟨k, rfl, h1⟩ := h1
    refine ⟨k, dr_bool r1, ?_⟩
    cases k with
    | true => rw [if_pos rfl] at h1 ⊢; exact (f.next g1).d s1 h1 (.bl true)
    | false => rw [if_neg Bool.false_ne_true] at h1 ⊢; exact ⟨ρ, w1, D1, R, rp.next g1.dd s1, xo.next g1, h1, f.next g1⟩⟩
theorem de_not (ha : DE X W Z a ta) : DE X W Z (.UnaryOp .Not a pos) (dNotV ta) :=
  pe_weak (pe_not ha) fun σ H Q ⟨ρ, w, D, R, rp, xo, h, f⟩ => ⟨ρ, w, D, _, rp, xo, h, fun s w1 z D1 H1 h1 g1 s1 r1 => by
    obtain ⟨k, rfl, h1⟩ := h1
    exact ⟨k, dr_bool r1, (f.next g1).d s1 h1 (.bl _)⟩⟩
def dIf (t : DTT) (ta tb : DTE) : DTE := fun ρ w R => t ρ w fun k w1 => if k = true then ta ρ w1 R else tb ρ w1 R
theorem de_if (hc : DT X W Z c t) (ha : DE X W Z a ta) (hb : DE X W Z b tb) : DE X W Z (.IfExp c a b pos) (dIf t ta tb) :=
  pe_weak (pe_ifExp hc ha hb) fun σ H Q ⟨ρ, w, D, R, rp, xo, h, f⟩ => ⟨ρ, w, D, _, rp, xo, h, fun k w1 D1 H1 h1 g1 s1 => by
    cases k with
    | true => rw [if_pos rfl] at h1 ⊢; exact ⟨ρ, w1, D1, R, rp.next g1.dd s1, xo.next g1, h1, f.next g1⟩
    | false => rw [if_neg Bool.false_ne_true] at h1 ⊢; exact ⟨ρ, w1, D1, R, rp.next g1.dd s1, xo.next g1, h1, f.next g1⟩⟩
/-! ### arguments, displays -/
def dNil : DTA := fun _ w R => R [] w
def dCons (ta : DTE) (tr : DTA) : DTA := fun ρ w R => ta ρ w fun x w1 => tr ρ w1 fun xs w2 => R (x :: xs) w2
variable {es : List Expr} {tr : DTA}
theorem da_nil : DA X W Z [] dNil := pa_weak pa_nil fun σ H Q ⟨ρ, w, D, R, rp, xo, h, f⟩ => f [] w [] D H h (Gr.refl _ _ _) rp.st .nil
theorem da_cons (ha : DE X W Z a ta) (hr : DA X W Z es tr) (hs : starEach (a :: es) X.env = (false, eval a X.env) :: starEach es X.env := by rfl) : DA X W Z (a :: es) (dCons ta tr) :=
  pa_weak (pa_cons ha hr hs) fun σ H Q ⟨ρ, w, D, R, rp, xo, h, f⟩ => ⟨ρ, w, D, _, rp, xo, h, fun x w1 v D1 H1 h1 g1 s1 rx =>
    ⟨ρ, w1, D1, _, rp.next g1.dd s1, xo.next g1, h1, fun xs w2 vs D2 H2 h2 g2 s2 rs => f _ w2 _ D2 H2 h2 (g1.trans g2) s2 (.cons (rx.mono g2.dd) rs)⟩⟩
/-- a list of the store that is data through and through becomes data -/
def frz : Sl → Om → (PyData → Om → Prop) → Prop
  | .dat d, w, k => k d w
  | .adr a, w, k => ∃ ds : List PyData, w a = some (.lst (ds.map .dat)) ∧ k (.list ds) (del w a)
  | .scr _, _, _ => False
theorem frz_ok {K : PySem.W.Frag} {w : Om} {D H : Hp} {s : Sl} {z : V} {k : PyData → Om → Prop} (st : StOk K w D H) (r : Vr K D z s) (h : frz s w k) : ∃ d w' D', k d w' ∧ Gr w D H w' D' H ∧ StOk K w' D' H ∧ Dr K D' z d := by
  cases s with
  | dat d => exact ⟨d, w, D, h, Gr.refl _ _ _, st, r⟩
  | scr ns => exact h.elim
  | adr a =>
    obtain ⟨ds, hw, hk⟩ := h
    obtain ⟨vs, hH, hv⟩ := st.own a _ hw
    have r' : z = .ref a := r
    subst r'
    exact ⟨.list ds, del w a, upd D a (.lst vs), hk, Gr.freeze st hw, st.freeze hw hH, .lst upd_same ((SlA.dat hv).mono (Gr.freeze (o := .lst vs) (H := H) st hw).dd)⟩
/-- arguments that become data, from the left -/
def dDats (ta : DTE) (tr : DEnv → Om → (List PyData → Om → Prop) → Prop) : DEnv → Om → (List PyData → Om → Prop) → Prop := fun ρ w R => ta ρ w fun x w1 => frz x w1 fun d w1' => tr ρ w1' fun ds w2 => R (d :: ds) w2
def dNilD : DEnv → Om → (List PyData → Om → Prop) → Prop := fun _ w R => R [] w
def upD (K : PySem.W.Frag) (W : WX) (Z : DX) (t : DEnv → Om → (List PyData → Om → Prop) → Prop) : TA := fun σ H Q => ∃ ρ w D R, Rp K σ ρ w D H ∧ XOk K W Z w D H ∧ t ρ w R ∧ ∀ ds w' vs D' H', R ds w' → Gr w D H w' D' H' → StOk K w' D' H' → DrA K D' vs ds → Q vs H'
abbrev DD (X : Cx) (W : WX) (Z : DX) (es : List Expr) (t : DEnv → Om → (List PyData → Om → Prop) → Prop) : Prop := PA X es (upD X.K W Z t)
variable {td : DEnv → Om → (List PyData → Om → Prop) → Prop}
theorem dd_nil : DD X W Z [] dNilD := pa_weak pa_nil fun σ H Q ⟨ρ, w, D, R, rp, xo, h, f⟩ => f [] w [] D H h (Gr.refl _ _ _) rp.st .nil
theorem dd_cons (ha : DE X W Z a ta) (hr : DD X W Z es td) (hs : starEach (a :: es) X.env = (false, eval a X.env) :: starEach es X.env := by rfl) : DD X W Z (a :: es) (dDats ta td) :=
  pa_weak (pa_cons ha hr hs) fun σ H Q ⟨ρ, w, D, R, rp, xo, h, f⟩ => ⟨ρ, w, D, _, rp, xo, h, fun x w1 v D1 H1 h1 g1 s1 rx => by
    obtain ⟨d, w1', D1', hk, g1', s1', rd⟩ := frz_ok s1 rx h1
    have g := g1.trans g1'
    exact ⟨ρ, w1', D1', _, rp.next g.dd s1', xo.next g, hk, fun ds w2 vs D2 H2 h2 g2 s2 rs => f _ w2 _ D2 H2 h2 (g.trans g2) s2 (.cons (rd.mono g2.dd) rs)⟩⟩
def dTup (t : DEnv → Om → (List PyData → Om → Prop) → Prop) : DTE := fun ρ w R => t ρ w fun ds w1 => ds.length ≤ sizeLine ∧ R (.dat (.tuple ds)) w1
theorem de_tup {x1} (h : DD X W Z es td) : DE X W Z (.Tuple es x1 pos) (dTup td) :=
  pe_weak (pe_tup h) fun σ H Q ⟨ρ, w, D, R, rp, xo, h, f⟩ => ⟨ρ, w, D, _, rp, xo, h, fun ds w1 vs D1 H1 h1 g1 s1 rs => ⟨by rw [rs.length]; exact h1.1, (f.next g1).nt s1 h1.2 rs⟩⟩
def dLst (t : DTA) : DTE := fun ρ w R => t ρ w fun xs w1 => xs.length ≤ sizeLine ∧ ∀ p, w1 p = none → R (.adr p) (put w1 p (.lst xs))
theorem de_lst (h : DA X W Z es tr) : DE X W Z (.List es pos) (dLst tr) :=
  pe_weak (pe_lst h) fun σ H Q ⟨ρ, w, D, R, rp, xo, h, f⟩ => ⟨ρ, w, D, _, rp, xo, h, fun xs w1 vs D1 H1 h1 g1 s1 rs => ⟨by rw [Paired.length rs]; exact h1.1, (f.next g1).nl s1 h1.2 rs⟩⟩
end
end DL

set_option Elab.async false
set_option linter.all false
set_option maxRecDepth 100000
set_option maxHeartbeats 4000000
namespace DL
open PySem PySem.Spec PyProof.Rows L2
section
variable {X : Cx} {W : WX} {Z : DX} {K : PySem.W.Frag}
variable {a b c : Expr} {ta tb tc : DTE} {pos : Pos} {es : List Expr} {tr : DTA} {td : DEnv → Om → (List PyData → Om → Prop) → Prop}
/-- a list display whose items become data -/
def dLstD (t : DEnv → Om → (List PyData → Om → Prop) → Prop) : DTE := fun ρ w R => t ρ w fun ds w1 => ds.length ≤ sizeLine ∧ ∀ p, w1 p = none → R (.adr p) (put w1 p (.lst (ds.map .dat)))
theorem de_lstD (h : DD X W Z es td) : DE X W Z (.List es pos) (dLstD td) :=
  pe_weak (pe_lst h) fun σ H Q ⟨ρ, w, D, R, rp, xo, h, f⟩ => ⟨ρ, w, D, _, rp, xo, h, fun ds w1 vs D1 H1 h1 g1 s1 rs => ⟨by rw [rs.length]; exact h1.1, (f.next g1).nl s1 h1.2 rs.sl⟩⟩
/-! ### sequences -/
def sq (w : Om) : Sl → Option (List Sl)
  | .dat (.list ds) => some (ds.map .dat)
  | .dat (.tuple ds) => some (ds.map .dat)
  | .scr ns => some (ns.map fun i => .dat (.int i))
  | .adr a => match w a with | some (.lst xs) => some xs | _ => none
  | _ => none
/-- .. a list -/
def sqL (w : Om) : Sl → Option (List Sl)
  | .dat (.list ds) => some (ds.map .dat)
  | .adr a => match w a with | some (.lst xs) => some xs | _ => none
  | _ => none
theorem sqL_adr {w : Om} {a : Addr} {xs : List Sl} (h : w a = some (.lst xs)) : sqL w (.adr a) = some xs := by
  show (match w a with | some (.lst xs) => some xs | _ => none) = some xs
  rw [h]
theorem sq_adr {w : Om} {a : Addr} {xs : List Sl} (h : w a = some (.lst xs)) : sq w (.adr a) = some xs := by
  show (match w a with | some (.lst xs) => some xs | _ => none) = some xs
  rw [h]
theorem adr_inv {w : Om} {a : Addr} {xs : List Sl} (h : (match w a with | some (.lst xs) => some xs | _ => none) = some xs) : w a = some (.lst xs) := by
  cases e : w a with
  | none => rw [e] at h; cases h
  | some o =>
    rw [e] at h
    cases o with
    | lst ys => cases h; rfl
    | dic _ => cases h
    | ins _ _ => cases h
theorem ints_sl {D : Hp} : ∀ (ns : List Int), SlA K D (ns.map V.int) (ns.map fun i => .dat (.int i))
  | [] => .nil
  | n :: r => .cons (Dr.int n) (ints_sl r)
theorem sqL_ok {w : Om} {D H : Hp} {s : Sl} {z : V} {xs : List Sl} (st : StOk K w D H) (r : Vr K D z s) (h : sqL w s = some xs) : ∃ p vs, z = .ref p ∧ H p = some (.lst vs) ∧ SlA K D vs xs := by
  cases s with
  | scr ns => cases h
  | adr p =>
    have hw := adr_inv h
    obtain ⟨vs, hH, hv⟩ := st.own p _ hw
    exact ⟨p, vs, r, hH, hv⟩
  | dat d =>
    cases d with
    | list ds =>
      cases h
      cases r with
      | lst hD hs => exact ⟨_, _, rfl, st.dh _ _ hD, hs.sl⟩
    | none => cases h
    | bool _ => cases h
    | int _ => cases h
    | str _ => cases h
    | tuple _ => cases h
    | dict _ => cases h
theorem sq_ok {w : Om} {D H : Hp} {s : Sl} {z : V} {xs : List Sl} (st : StOk K w D H) (r : Vr K D z s) (h : sq w s = some xs) : ∃ p vs, z = .ref p ∧ (SqL K H p vs ∨ SqT K H p vs) ∧ SlA K D vs xs := by
  cases s with
  | scr ns =>
    cases h
    obtain ⟨p, rfl, q⟩ := r
    exact ⟨p, _, rfl, .inl (Same.seq st.dh q), ints_sl ns⟩
  | adr p =>
    have hw := adr_inv h
    obtain ⟨vs, hH, hv⟩ := st.own p _ hw
    exact ⟨p, vs, r, .inl (SqL.of hH), hv⟩
  | dat d =>
    cases d with
    | list ds =>
      cases h
      cases r with
      | lst hD hs => exact ⟨_, _, rfl, .inl (SqL.of (st.dh _ _ hD)), hs.sl⟩
    | tuple ds =>
      cases h
      cases r with
      | tup hD hs => exact ⟨_, _, rfl, .inr (sqT_mono st.dh hD), hs.sl⟩
    | none => cases h
    | bool _ => cases h
    | int _ => cases h
    | str _ => cases h
    | dict _ => cases h
theorem tup_ok {w : Om} {D H : Hp} {z : V} {ds : List PyData} (st : StOk K w D H) (r : Dr K D z (.tuple ds)) : ∃ p vs, z = .ref p ∧ SqT K H p vs ∧ DrA K D vs ds := by
  cases r with
  | tup hD hs => exact ⟨_, _, rfl, sqT_mono st.dh hD, hs⟩
theorem atI_map {α β : Type} (f : α → β) (xs : List α) (i : Int) : atI (xs.map f) i = (atI xs i).map f := by
  unfold atI
  rw [List.length_map]
  cases ixN xs.length i with
  | none => rfl
  | some j => simp
theorem atI_sl {D : Hp} {vs : List V} {xs : List Sl} {i : Int} {s : Sl} (h : SlA K D vs xs) (e : atI xs i = some s) : ∃ v, atI vs i = some v ∧ Vr K D v s := by
  unfold atI at e ⊢
  rw [Paired.length h]
  cases q : ixN xs.length i with
  | none => rw [q] at e; cases e
  | some j =>
    rw [q] at e
    obtain ⟨v, h1, h2⟩ := SlA.get h (i := j) (s := s) e
    exact ⟨v, h1, h2⟩
/-! ### subscripts -/
def ixS : G2 := fun w x y => match y with
  | .dat (.int i) => match x with
    | .dat (.str z) => if z.length ≤ sizeLine then (atI z.cps.toList i).map fun c => .v (.dat (.str ⟨#[c]⟩)) else none
    | x => (sq w x).bind fun xs => (atI xs i).map .v
  | _ => none
theorem ixS_str {w : Om} {z : Str} {i : Int} {c : Nat} (h : z.length ≤ sizeLine) (e : atI z.cps.toList i = some c) : ixS w (.dat (.str z)) (.dat (.int i)) = some (.v (.dat (.str ⟨#[c]⟩))) := by
  show (if z.length ≤ sizeLine then (atI z.cps.toList i).map fun c => Ou.v (.dat (.str ⟨#[c]⟩)) else none) = _
  rw [if_pos h, e]; rfl
theorem ixS_tup {w : Om} {ds : List PyData} {i : Int} {d : PyData} (e : atI ds i = some d) : ixS w (.dat (.tuple ds)) (.dat (.int i)) = some (.v (.dat d)) := by
  show ((some (ds.map Sl.dat)).bind fun xs => (atI xs i).map Ou.v) = _
  show (atI (ds.map Sl.dat) i).map Ou.v = _
  rw [atI_map, e]; rfl
theorem ixS_list {w : Om} {ds : List PyData} {i : Int} {d : PyData} (e : atI ds i = some d) : ixS w (.dat (.list ds)) (.dat (.int i)) = some (.v (.dat d)) := by
  show (atI (ds.map Sl.dat) i).map Ou.v = _
  rw [atI_map, e]; rfl
theorem ixS_adr {w : Om} {a : Addr} {xs : List Sl} {i : Int} {s : Sl} (h : w a = some (.lst xs)) (e : atI xs i = some s) : ixS w (.adr a) (.dat (.int i)) = some (.v s) := by
  show ((sq w (.adr a)).bind fun xs => (atI xs i).map Ou.v) = _
  rw [sq_adr h]
  show (atI xs i).map Ou.v = _
  rw [e]; rfl
theorem ixS_scr {w : Om} {ns : List Int} {i : Int} {n : Int} (e : atI ns i = some n) : ixS w (.scr ns) (.dat (.int i)) = some (.v (.dat (.int n))) := by
  show (atI (ns.map fun i => Sl.dat (.int i)) i).map Ou.v = _
  rw [atI_map, e]; rfl
theorem ov_ix : OpV K (rIx K) ixS := fun x y v u w D H o R Q st rx ry e ho f => by
  unfold ixS at e
  cases y with
  | adr _ => cases e
  | scr _ => cases e
  | dat dy =>
    cases dy with
    | int i =>
      cases (show u = .int i from dr_int ry)
      have seqc : ((sq w x).bind fun xs => (atI xs i).map Ou.v) = some o → rIx K v (.int i) H Q := fun e => by
        cases q : sq w x with
        | none => rw [q] at e; cases e
        | some xs =>
          rw [q] at e
          cases q2 : atI xs i with
          | none => have e' : (atI xs i).map Ou.v = some o := e; rw [q2] at e'; cases e'
          | some s =>
            have e' : (atI xs i).map Ou.v = some o := e
            rw [q2] at e'
            cases e'
            obtain ⟨p, vs, rfl, hq, hv⟩ := sq_ok st rx q
            obtain ⟨z, h1, h2⟩ := atI_sl hv q2
            rcases hq with hq | hq
            · exact .inl ⟨p, vs, i, z, rfl, rfl, hq, h1, f.v st ho h2⟩
            · exact .inr (.inl ⟨p, vs, i, z, rfl, rfl, hq, h1, f.v st ho h2⟩)
      cases x with
      | adr p => exact seqc e
      | scr ns => exact seqc e
      | dat dx =>
        cases dx with
        | str z =>
          have e' : (if z.length ≤ sizeLine then (atI z.cps.toList i).map fun c => Ou.v (.dat (.str ⟨#[c]⟩)) else none) = some o := e
          by_cases hz : z.length ≤ sizeLine
          · rw [if_pos hz] at e'
            cases q : atI z.cps.toList i with
            | none => rw [q] at e'; cases e'
            | some c =>
              rw [q] at e'
              cases e'
              cases (show v = .str z from dr_str rx)
              exact .inr (.inr ⟨z, i, c, rfl, rfl, hz, q, f.d st ho (.str _)⟩)
          · rw [if_neg hz] at e'; cases e'
        | none => exact seqc e
        | bool _ => exact seqc e
        | int _ => exact seqc e
        | list _ => exact seqc e
        | tuple _ => exact seqc e
        | dict _ => exact seqc e
    | none => cases e
    | bool _ => cases e
    | str _ => cases e
    | list _ => cases e
    | tuple _ => cases e
    | dict _ => cases e
theorem de_ix (ha : DE X W Z a ta) (hb : DE X W Z b tb) (hs : PlainIx b) : DE X W Z (.Subscript a b pos) (dOp ixS ta tb) := pe_weak (pe_ix ix_seq ha hb hs) fun σ H Q h => up_op ov_ix σ H Q h
/-! ### slices -/
def cut {α : Type} (xs : List α) (lo hi : Option Int) : List α := (xs.drop (HT.sIx xs.length 0 lo)).take (HT.sIx xs.length xs.length hi - HT.sIx xs.length 0 lo)
theorem cut_map {α β : Type} (f : α → β) (xs : List α) (lo hi : Option Int) : cut (xs.map f) lo hi = (cut xs lo hi).map f := by
  unfold cut
  rw [List.length_map, List.map_take, List.map_drop]
theorem cut_length {α : Type} (xs : List α) (lo hi : Option Int) : (cut xs lo hi).length ≤ xs.length := by
  unfold cut
  rw [List.length_take, List.length_drop]
  omega
def dNoPart : DTO := fun _ w R => R none w
def dPart (t : DTE) : DTO := fun ρ w R => t ρ w fun s w1 => ∃ i, s = .dat (.int i) ∧ R (some i) w1
theorem do_none : DO X W Z none dNoPart := po_weak po_none fun σ H Q ⟨ρ, w, D, R, rp, xo, h, f⟩ => f none w D H h (Gr.refl _ _ _) rp.st
theorem do_some (h : DE X W Z a ta) : DO X W Z (some a) (dPart ta) := po_weak (po_some h) fun σ H Q ⟨ρ, w, D, R, rp, xo, h, f⟩ => ⟨ρ, w, D, _, rp, xo, h, fun s w1 z D1 H1 h1 g1 s1 r1 => by
  obtain ⟨i, rfl, h1⟩ := h1
  exact ⟨i, dr_int r1, f (some i) w1 D1 H1 h1 g1 s1⟩⟩
def slS (w : Om) (x : Sl) (lo hi : Option Int) : Option Ou := match x with
  | .dat (.str z) => if z.length ≤ sizeLine then some (.v (.dat (.str (cutS z lo hi)))) else none
  | .dat (.tuple ds) => some (.v (.dat (.tuple (cut ds lo hi))))
  | x => (sqL w x).map fun xs => .nl (cut xs lo hi)
def dSl (te : DTE) (tl th : DTO) : DTE := fun ρ w R => te ρ w fun x w1 => tl ρ w1 fun l w2 => th ρ w2 fun h w3 => ∃ o, slS w3 x l h = some o ∧ ret o w3 R
def rSlAll (K : PySem.W.Frag) : V → Option Int → Option Int → Hp → VK → Prop := fun x lo hi H Q => rSlL K x lo hi H Q ∨ rSlA K x lo hi H Q ∨ rSlS x lo hi H Q
theorem sl_all : L2.SlR X (rSlAll X.K) := L2.SlR.or sl_list (L2.SlR.or sl_tupA sl_str)
theorem DrA.cut {D : Hp} {vs : List V} {ds : List PyData} (h : DrA K D vs ds) (lo hi : Option Int) : DrA K D (cutV vs lo hi) (cut ds lo hi) := by
  unfold cutV DL.cut
  rw [h.length]
  exact (h.drop _).take _
theorem SlA.cut {D : Hp} {vs : List V} {ds : List Sl} (h : SlA K D vs ds) (lo hi : Option Int) : SlA K D (cutV vs lo hi) (cut ds lo hi) := by
  unfold cutV DL.cut
  rw [Paired.length h]
  exact SlA.take _ (SlA.drop _ h)
theorem cut_whole {α : Type} {xs : List α} {lo hi : Option Int} (h : HT.sIx xs.length 0 lo = 0 ∧ HT.sIx xs.length xs.length hi = xs.length) : cut xs lo hi = xs := by
  unfold cut
  rw [h.1, h.2, List.drop_zero, Nat.sub_zero, List.take_length]
theorem sl_v {x : Sl} {v : V} {w : Om} {D H : Hp} {lo hi : Option Int} {o : Ou} {R : DQ} {Q : VK} (st : StOk K w D H) (rx : Vr K D v x) (e : slS w x lo hi = some o) (ho : ret o w R) (f : Fin K w D H R Q) : rSlAll K v lo hi H Q := by
  have lc : ((sqL w x).map fun xs => Ou.nl (cut xs lo hi)) = some o → rSlAll K v lo hi H Q := fun e => by
    cases q : sqL w x with
    | none => rw [q] at e; cases e
    | some xs =>
      rw [q] at e
      cases e
      obtain ⟨p, vs, rfl, hq, hv⟩ := sqL_ok st rx q
      exact .inl ⟨p, vs, rfl, SqL.of hq, f.nl st ho.2 (SlA.cut hv lo hi)⟩
  unfold slS at e
  cases x with
  | adr p => exact lc e
  | scr ns => exact lc e
  | dat dx =>
    cases dx with
    | str z =>
      have e' : (if z.length ≤ sizeLine then some (Ou.v (.dat (.str (cutS z lo hi)))) else none) = some o := e
      by_cases hz : z.length ≤ sizeLine
      · rw [if_pos hz] at e'
        cases e'
        cases (show v = .str z from dr_str rx)
        exact .inr (.inr ⟨z, rfl, hz, f.d st ho (.str _)⟩)
      · rw [if_neg hz] at e'; cases e'
    | tuple ds =>
      cases e
      obtain ⟨p, vs, rfl, hq, hv⟩ := tup_ok st rx
      refine .inr (.inl ⟨p, vs, rfl, hq, fun hw => ?_, fun hw => f.nt st ho (hv.cut lo hi)⟩)
      rw [hv.length] at hw
      have ho' : R (.dat (.tuple (cut ds lo hi))) w := ho
      rw [cut_whole hw] at ho'
      exact f.d st ho' rx
    | none => exact lc e
    | bool _ => exact lc e
    | int _ => exact lc e
    | list _ => exact lc e
    | dict _ => exact lc e
variable {lo hi : Option Expr} {tl th : DTO} {p2 : Pos}
theorem de_slice (he : DE X W Z a ta) (hl : DO X W Z lo tl) (hu : DO X W Z hi th) : DE X W Z (.Subscript a (.Slice lo hi none p2) pos) (dSl ta tl th) :=
  pe_weak (pe_slice sl_all he hl hu) fun σ H Q ⟨ρ, w, D, R, rp, xo, h, f⟩ => ⟨ρ, w, D, _, rp, xo, h, fun x w1 v D1 H1 h1 g1 s1 rx =>
    ⟨ρ, w1, D1, _, rp.next g1.dd s1, xo.next g1, h1, fun l w2 D2 H2 h2 g2 s2 =>
      ⟨ρ, w2, D2, _, rp.next (g1.trans g2).dd s2, xo.next (g1.trans g2), h2, fun u w3 D3 H3 h3 g3 s3 => by
        obtain ⟨o, e, ho⟩ := h3
        exact sl_v s3 (rx.mono (g2.trans g3).dd) e ho (f.next ((g1.trans g2).trans g3))⟩⟩⟩
/-- xs[::-1] of a list -/
def dRev (te : DTE) : DTE := fun ρ w R => te ρ w fun x w1 => ∃ xs, sqL w1 x = some xs ∧ xs.length ≤ sizeLine ∧ ∀ p, w1 p = none → R (.adr p) (put w1 p (.lst xs.reverse))
theorem de_rev {k : Nat} {p1 p2 p3 : Pos} (he : DE X W Z a ta) : DE X W Z (.Subscript a (.Slice none none (some (.UnaryOp .USub (.Constant (.int 1) k p1) p2)) p3) pos) (dRev ta) :=
  pe_weak (pe_revL he) fun σ H Q ⟨ρ, w, D, R, rp, xo, h, f⟩ => ⟨ρ, w, D, _, rp, xo, h, fun x w1 v D1 H1 h1 g1 s1 rx => by
    obtain ⟨xs, e, hz, h1⟩ := h1
    obtain ⟨p, vs, rfl, hq, hv⟩ := sqL_ok s1 rx e
    exact ⟨p, vs, rfl, SqL.of hq, (f.next g1).nl s1 h1 (SlA.reverse hv)⟩⟩
/-! ### arithmetic -/
def liftI (C : Int → Int → Bool) (g : Int → Int → PyData) : G2 := fun _ x y => match x, y with
  | .dat (.int i), .dat (.int j) => if C i j = true then some (.v (.dat (g i j))) else none
  | _, _ => none
theorem liftI_ok {C : Int → Int → Bool} {g : Int → Int → PyData} {w : Om} {i j : Int} (h : C i j = true) : liftI C g w (.dat (.int i)) (.dat (.int j)) = some (.v (.dat (g i j))) := by
  show (if C i j = true then some (Ou.v (.dat (g i j))) else none) = _
  rw [if_pos h]
theorem liftI_inv {C : Int → Int → Bool} {g : Int → Int → PyData} {w : Om} {x y : Sl} {o : Ou} (e : liftI C g w x y = some o) : ∃ i j, x = .dat (.int i) ∧ y = .dat (.int j) ∧ C i j = true ∧ o = .v (.dat (g i j)) := by
  unfold liftI at e
  split at e
  · rename_i i j
    by_cases h : C i j = true
    · rw [if_pos h] at e; cases e; exact ⟨i, j, rfl, rfl, h, rfl⟩
    · rw [if_neg h] at e; cases e
  · cases e
theorem ov_I {C : Int → Int → Prop} {C' : Int → Int → Bool} {g : Int → Int → V} {g' : Int → Int → PyData} (hC : ∀ i j, C' i j = true → C i j) (hg : ∀ i j D, Dr K D (g i j) (g' i j)) : OpV K (rI C g) (liftI C' g') := fun x y v u w D H o R Q st rx ry e ho f => by
  obtain ⟨i, j, rfl, rfl, hc, rfl⟩ := liftI_inv e
  exact ⟨i, j, dr_int rx, dr_int ry, hC i j hc, f.d st ho (hg i j D)⟩
theorem ov_I0 {g : Int → Int → V} {g' : Int → Int → PyData} (hg : ∀ i j D, Dr K D (g i j) (g' i j)) : OpV K (rI0 g) (liftI (fun _ _ => true) g') := fun x y v u w D H o R Q st rx ry e ho f => by
  obtain ⟨i, j, rfl, rfl, hc, rfl⟩ := liftI_inv e
  exact ⟨i, j, dr_int rx, dr_int ry, f.d st ho (hg i j D)⟩
abbrev gSub : G2 := liftI (fun _ _ => true) fun i j => .int (i - j)
def cMul (i j : Int) : Bool := decide (i.natAbs.log2 + j.natAbs.log2 < 1000000)
abbrev gMul : G2 := liftI cMul fun i j => .int (i * j)
def cDiv (_ j : Int) : Bool := decide (0 < j ∧ j.natAbs.log2 < 9000)
abbrev gDiv : G2 := liftI cDiv fun i j => .int (i / j)
abbrev gMod : G2 := liftI (fun _ j => decide (0 < j)) fun i j => .int (i % j)
def cPow (i j : Int) : Bool := decide (0 ≤ j ∧ (Builtin.Int.intBits i : Int) * j ≤ 2 ^ 27)
abbrev gPow : G2 := liftI cPow fun i j => .int (i ^ j.toNat)
theorem op_powW : OpR X (binaryOp .Pow) (rI (fun i j => 0 ≤ j ∧ (Builtin.Int.intBits i : Int) * j ≤ 2 ^ 27) fun i j => .int (i ^ j.toNat)) := opI fun _ _ _ _ _ _ _ hc q => pow_int hc.1 hc.2 q
theorem de_sub (ha : DE X W Z a ta) (hb : DE X W Z b tb) : DE X W Z (.BinOp a .Sub b pos) (dOp gSub ta tb) := de_op op_sub (ov_I0 fun i j _ => .int _) ha hb
theorem de_mul (ha : DE X W Z a ta) (hb : DE X W Z b tb) : DE X W Z (.BinOp a .Mult b pos) (dOp gMul ta tb) := de_op op_mulW (ov_I (C := CMulW) (C' := cMul) (fun i j h => show i.natAbs.log2 + j.natAbs.log2 < 1000000 from of_decide_eq_true h) fun i j _ => .int _) ha hb
theorem de_div (ha : DE X W Z a ta) (hb : DE X W Z b tb) : DE X W Z (.BinOp a .FloorDiv b pos) (dOp gDiv ta tb) := de_op op_fdivW (ov_I (C := CDivW) (C' := cDiv) (fun i j h => show 0 < j ∧ j.natAbs.log2 < 9000 from of_decide_eq_true h) fun i j _ => .int _) ha hb
theorem de_mod (ha : DE X W Z a ta) (hb : DE X W Z b tb) : DE X W Z (.BinOp a .Mod b pos) (dOp gMod ta tb) := de_op op_mod (ov_I (fun _ _ h => of_decide_eq_true h) fun i j _ => .int _) ha hb
theorem de_pow (ha : DE X W Z a ta) (hb : DE X W Z b tb) : DE X W Z (.BinOp a .Pow b pos) (dOp gPow ta tb) := de_op op_powW (ov_I (fun _ _ h => of_decide_eq_true h) fun i j _ => .int _) ha hb
def dNeg (te : DTE) : DTE := fun ρ w R => te ρ w fun x w1 => ∃ i, x = .dat (.int i) ∧ R (.dat (.int (-i))) w1
theorem de_neg (ha : DE X W Z a ta) : DE X W Z (.UnaryOp .USub a pos) (dNeg ta) :=
  pe_weak (pe_un un_neg ha) fun σ H Q ⟨ρ, w, D, R, rp, xo, h, f⟩ => ⟨ρ, w, D, _, rp, xo, h, fun x w1 v D1 H1 h1 g1 s1 rx => by
    obtain ⟨i, rfl, h1⟩ := h1
    exact ⟨i, dr_int rx, (f.next g1).d s1 h1 (.int _)⟩⟩
/-- + of ints, texts, lists, tuples -/
def addS : G2 := fun w x y => match x, y with
  | .dat (.int i), .dat (.int j) => some (.v (.dat (.int (i + j))))
  | .dat (.str i), .dat (.str j) => if i.length + j.length ≤ sizeLine then some (.v (.dat (.str (i ++ j)))) else none
  | .dat (.tuple i), .dat (.tuple j) => if i.length + j.length ≤ sizeLine then some (.v (.dat (.tuple (i ++ j)))) else none
  | x, y => (sqL w x).bind fun xs => (sqL w y).bind fun ys => some (.nl (xs ++ ys))
def rAddAll (K : PySem.W.Frag) : R2 := fun x y H Q => (rI0 (fun i j => V.int (i + j)) x y H Q) ∨ (∃ i j, x = .str i ∧ y = .str j ∧ i.length + j.length ≤ sizeLine ∧ Q (.str (i ++ j)) H) ∨ rCat x y H Q ∨ rCatA K x y H Q
theorem op_addAll : OpR X (binaryOp .Add) (rAddAll X.K) := OpR.or op_add (OpR.or op_add_str (OpR.or op_cat op_catA))
theorem sum_length {D : Hp} {vs us : List V} {xs ys : List Sl} (h1 : SlA K D vs xs) (h2 : SlA K D us ys) : vs.length + us.length = (xs ++ ys).length := by rw [List.length_append, Paired.length h1, Paired.length h2]
theorem ov_add : OpV K (rAddAll K) addS := fun x y v u w D H o R Q st rx ry e ho f => by
  have lc : ((sqL w x).bind fun xs => (sqL w y).bind fun ys => some (Ou.nl (xs ++ ys))) = some o → rAddAll K v u H Q := fun e => by
    cases q1 : sqL w x with
    | none => rw [q1] at e; cases e
    | some xs =>
      rw [q1] at e
      cases q2 : sqL w y with
      | none => have e' : ((sqL w y).bind fun ys => some (Ou.nl (xs ++ ys))) = some o := e; rw [q2] at e'; cases e'
      | some ys =>
        have e' : ((sqL w y).bind fun ys => some (Ou.nl (xs ++ ys))) = some o := e
        rw [q2] at e'
        cases e'
        obtain ⟨p, vs, rfl, hp, hv⟩ := sqL_ok st rx q1
        obtain ⟨q, us, rfl, hq, hu⟩ := sqL_ok st ry q2
        have hz := ho.1
        exact .inr (.inr (.inl ⟨p, q, vs, us, rfl, rfl, hp, hq, by rw [sum_length hv hu]; exact hz, f.nl st ho.2 (SlA.append hv hu)⟩))
  unfold addS at e
  split at e
  · cases e
    exact .inl ⟨_, _, dr_int rx, dr_int ry, f.d st ho (.int _)⟩
  · rename_i i j
    by_cases hz : i.length + j.length ≤ sizeLine
    · rw [if_pos hz] at e
      cases e
      exact .inr (.inl ⟨_, _, dr_str rx, dr_str ry, hz, f.d st ho (.str _)⟩)
    · rw [if_neg hz] at e; cases e
  · rename_i i j
    by_cases hz : i.length + j.length ≤ sizeLine
    · rw [if_pos hz] at e
      cases e
      obtain ⟨p, vs, rfl, hp, hv⟩ := tup_ok st rx
      obtain ⟨q, us, rfl, hq, hu⟩ := tup_ok st ry
      have ho' : R (.dat (.tuple (i ++ j))) w := ho
      refine .inr (.inr (.inr ⟨p, q, vs, us, rfl, rfl, hp, hq, by rw [hv.length, hu.length]; exact hz, fun hx => ?_, fun _ hy => ?_, fun _ _ => f.nt st ho' (hv.append hu)⟩))
      · subst hx
        cases hv
        exact f.d st ho' ry
      · subst hy
        cases hu
        rw [List.append_nil] at ho'
        exact f.d st ho' rx
    · rw [if_neg hz] at e; cases e
  · exact lc e
theorem de_add (ha : DE X W Z a ta) (hb : DE X W Z b tb) : DE X W Z (.BinOp a .Add b pos) (dOp addS ta tb) := de_op op_addAll ov_add ha hb
/-! ### comparisons -/
def datOf : Sl → Option PyData
  | .dat d => some d
  | _ => none
def rs (w : Om) : Sl → Option PyData
  | .dat d => some d
  | .adr a => match w a with
    | some (.lst xs) => (xs.mapM datOf).map .list
    | _ => none
  | .scr _ => none
def plainEq : PyData → PyData → Option Bool
  | .int i, .int j => some (i == j)
  | .str i, .str j => some (i == j)
  | .bool i, .bool j => some (i == j)
  | d, e => if (SeqAt.shaped d && SeqAt.shaped e) = true then some (PyData.eqv d e) else none
def eqS (n : Bool) : G2 := fun w x y => (rs w x).bind fun d => (rs w y).bind fun e => (plainEq d e).map fun k => .v (.dat (.bool (k != n)))
def rEqAll (K : PySem.W.Frag) : R2 := fun x y H Q => rEq x y H Q ∨ rEqD K x y H Q
def rNeAll (K : PySem.W.Frag) : R2 := fun x y H Q => rNe x y H Q ∨ rNeD K x y H Q
theorem op_eqAll (hu : X.A.units + 64 < cLine) : OpR X (compareOp .Eq) (rEqAll X.K) := OpR.or op_eq (op_eqD hu)
theorem op_neAll (hu : X.A.units + 64 < cLine) : OpR X (compareOp .NotEq) (rNeAll X.K) := OpR.or op_ne (op_neD hu)
theorem canLay_all {d : PyData} {ds : List PyData} (h : PyData.canLayAll0 ds = true) (m : d ∈ ds) : d.canLay0 = true := by
  induction ds with
  | nil => cases m
  | cons e r ih =>
    unfold PyData.canLayAll0 at h
    rw [Bool.and_eq_true] at h
    rcases List.mem_cons.mp m with rfl | m
    · exact h.1
    · exact ih h.2 m
mutual
theorem Dr.dp {D H : Hp} (e : Same D H) : ∀ {v : V} {d : PyData}, Dr K D v d → d.canLay0 = true → Dp K H v d
  | _, _, .non, _ => .non
  | _, _, .bl b, _ => .bl b
  | _, _, .int i, _ => .int i
  | _, _, .str x, _ => .str x
  | _, _, .lst h hs, c => .lst (SqL.of (e _ _ h)) (DrA.dp e hs (by unfold PyData.canLay0 at c; exact c))
  | _, _, .tup h hs, c => .tup (sqT_mono e h) (DrA.dp e hs (by unfold PyData.canLay0 at c; exact c))
  | _, _, .dct h, c => by unfold PyData.canLay0 at c; cases c
theorem DrA.dp {D H : Hp} (e : Same D H) : ∀ {vs : List V} {ds : List PyData}, DrA K D vs ds → PyData.canLayAll0 ds = true → DpAll K H vs ds
  | _, _, .nil, _ => .nil
  | _, _, .cons h hs, c => by
    unfold PyData.canLayAll0 at c
    rw [Bool.and_eq_true] at c
    exact .cons (Dr.dp e h c.1) (DrA.dp e hs c.2)
end
theorem mapM_dat : ∀ {xs : List Sl} {ds : List PyData}, xs.mapM datOf = some ds → xs = ds.map .dat := by
  intro xs
  induction xs with
  | nil => intro ds h; simp at h; subst h; rfl
  | cons x r ih =>
    intro ds h
    rw [List.mapM_cons] at h
    cases x with
    | adr _ => cases h
    | scr _ => cases h
    | dat d =>
      cases q : r.mapM datOf with
      | none => simp [q] at h
      | some es =>
        simp [q, datOf] at h
        subst h
        rw [ih q]
        rfl
theorem mapM_dat' (ds : List PyData) : (ds.map Sl.dat).mapM datOf = some ds := by
  induction ds with
  | nil => rfl
  | cons d r ih => rw [List.map_cons, List.mapM_cons, ih]; rfl
theorem rs_adr {w : Om} {a : Addr} {ds : List PyData} (h : w a = some (.lst (ds.map .dat))) : rs w (.adr a) = some (.list ds) := by
  show (match w a with | some (.lst xs) => (xs.mapM datOf).map PyData.list | _ => none) = _
  rw [h]
  show Option.map PyData.list _ = _
  rw [mapM_dat']; rfl
/-- the data of a slot as it stands in the heap now -/
theorem rs_ok {w : Om} {D H : Hp} {s : Sl} {z : V} {d : PyData} (st : StOk K w D H) (r : Vr K D z s) (h : rs w s = some d) : ∃ D', Same D' H ∧ Dr K D' z d := by
  cases s with
  | dat e => cases h; exact ⟨D, st.dh, r⟩
  | scr _ => cases h
  | adr a =>
    have h' : (match w a with | some (.lst xs) => (xs.mapM datOf).map PyData.list | _ => none) = some d := h
    have h := h'
    cases e : w a with
    | none => rw [e] at h; cases h
    | some o =>
      rw [e] at h
      cases o with
      | dic _ => cases h
      | ins _ _ => cases h
      | lst xs =>
        have h2 : (xs.mapM datOf).map PyData.list = some d := h
        cases q : xs.mapM datOf with
        | none => rw [q] at h2; cases h2
        | some ds =>
          rw [q] at h2
          cases h2
          have ex := mapM_dat q
          subst ex
          obtain ⟨vs, hH, hv⟩ := st.own a _ e
          have r' : z = .ref a := r
          subst r'
          exact ⟨upd D a (.lst vs), (st.freeze e hH).dh, .lst upd_same ((SlA.dat hv).mono (Gr.freeze (o := .lst vs) (H := H) st e).dd)⟩
theorem eq_bool {α : Type} [BEq α] [LawfulBEq α] [DecidableEq α] (a b : α) : (a == b) = decide (a = b) := by
  by_cases h : a = b
  · subst h; simp
  · rw [decide_eq_false h]; exact beq_eq_false_iff_ne.mpr h
theorem plainEq_ok {D D' H : Hp} {v u : V} {d e : PyData} {k : Bool} (s : Same D H) (s' : Same D' H) (r : Dr K D v d) (r' : Dr K D' u e) (h : plainEq d e = some k) :
    (scal v u = true ∧ decide (v = u) = k) ∨ (∃ d e, Dp K H v d ∧ Dp K H u e ∧ SeqAt.shaped d = true ∧ SeqAt.shaped e = true ∧ PyData.eqv d e = k) := by
  unfold plainEq at h
  split at h
  · cases h; cases r; cases r'; exact .inl ⟨rfl, by rw [dec_int]⟩
  · cases h; cases r; cases r'; exact .inl ⟨rfl, by rw [dec_str]⟩
  · cases h; cases r; cases r'; exact .inl ⟨rfl, by rw [dec_bl]⟩
  · by_cases c : (SeqAt.shaped d && SeqAt.shaped e) = true
    · rw [if_pos c] at h
      cases h
      rw [Bool.and_eq_true] at c
      exact .inr ⟨d, e, r.dp s (SeqAt.canLay_of_shaped c.1), r'.dp s' (SeqAt.canLay_of_shaped c.2), c.1, c.2, rfl⟩
    · rw [if_neg c] at h; cases h
theorem eqS_inv {n : Bool} {w : Om} {x y : Sl} {o : Ou} (e : eqS n w x y = some o) : ∃ d e k, rs w x = some d ∧ rs w y = some e ∧ plainEq d e = some k ∧ o = .v (.dat (.bool (k != n))) := by
  unfold eqS at e
  cases q1 : rs w x with
  | none => rw [q1] at e; cases e
  | some d =>
    rw [q1] at e
    have e1 : ((rs w y).bind fun e => (plainEq d e).map fun k => Ou.v (.dat (.bool (k != n)))) = some o := e
    cases q2 : rs w y with
    | none => rw [q2] at e1; cases e1
    | some d' =>
      rw [q2] at e1
      have e2 : ((plainEq d d').map fun k => Ou.v (.dat (.bool (k != n)))) = some o := e1
      cases q3 : plainEq d d' with
      | none => rw [q3] at e2; cases e2
      | some k =>
        rw [q3] at e2
        cases e2
        exact ⟨d, d', k, rfl, rfl, q3, rfl⟩
theorem eqS_ok {n : Bool} {w : Om} {x y : Sl} {d e : PyData} {k : Bool} (h1 : rs w x = some d) (h2 : rs w y = some e) (h3 : plainEq d e = some k) : eqS n w x y = some (.v (.dat (.bool (k != n)))) := by
  unfold eqS
  rw [h1]
  show ((rs w y).bind fun e => (plainEq d e).map fun k => Ou.v (.dat (.bool (k != n)))) = _
  rw [h2]
  show ((plainEq d e).map fun k => Ou.v (.dat (.bool (k != n)))) = _
  rw [h3]; rfl
theorem ov_eq : OpV K (rEqAll K) (eqS false) := fun x y v u w D H o R Q st rx ry e ho f => by
  obtain ⟨d, e, k, q1, q2, q3, rfl⟩ := eqS_inv e
  obtain ⟨D1, s1, r1⟩ := rs_ok st rx q1
  obtain ⟨D2, s2, r2⟩ := rs_ok st ry q2
  have ho' : R (.dat (.bool (k != false))) w := ho
  rw [Bool.bne_false] at ho'
  rcases plainEq_ok s1 s2 r1 r2 q3 with ⟨h1, h2⟩ | ⟨d, e, h1, h2, h3, h4, h5⟩
  · refine .inl ⟨h1, ?_⟩; rw [h2]; exact f.d st ho' (.bl k)
  · refine .inr ⟨d, e, h1, h2, h3, h4, ?_⟩; rw [h5]; exact f.d st ho' (.bl k)
theorem ov_ne : OpV K (rNeAll K) (eqS true) := fun x y v u w D H o R Q st rx ry e ho f => by
  obtain ⟨d, e, k, q1, q2, q3, rfl⟩ := eqS_inv e
  obtain ⟨D1, s1, r1⟩ := rs_ok st rx q1
  obtain ⟨D2, s2, r2⟩ := rs_ok st ry q2
  have ho' : R (.dat (.bool (k != true))) w := ho
  rw [Bool.bne_true] at ho'
  rcases plainEq_ok s1 s2 r1 r2 q3 with ⟨h1, h2⟩ | ⟨d, e, h1, h2, h3, h4, h5⟩
  · refine .inl ⟨h1, ?_⟩; rw [h2]; exact f.d st ho' (.bl _)
  · refine .inr ⟨d, e, h1, h2, h3, h4, ?_⟩; rw [h5]; exact f.d st ho' (.bl _)
theorem de_eq (hu : X.A.units + 64 < cLine) (ha : DE X W Z a ta) (hb : DE X W Z b tb) : DE X W Z (.Compare a [.Eq] [b] pos) (dOp (eqS false) ta tb) := de_cmp (op_eqAll hu) ov_eq ha hb (nomark _)
theorem de_ne (hu : X.A.units + 64 < cLine) (ha : DE X W Z a ta) (hb : DE X W Z b tb) : DE X W Z (.Compare a [.NotEq] [b] pos) (dOp (eqS true) ta tb) := de_cmp (op_neAll hu) ov_ne ha hb (nomark _)
theorem dt_eq (hu : X.A.units + 64 < cLine) (ha : DE X W Z a ta) (hb : DE X W Z b tb) : DT X W Z (.Compare a [.Eq] [b] pos) (dTst (dOp (eqS false) ta tb)) := dt_cmp (op_eqAll hu) ov_eq ha hb (nomark _)
theorem dt_ne (hu : X.A.units + 64 < cLine) (ha : DE X W Z a ta) (hb : DE X W Z b tb) : DT X W Z (.Compare a [.NotEq] [b] pos) (dTst (dOp (eqS true) ta tb)) := dt_cmp (op_neAll hu) ov_ne ha hb (nomark _)
end
end DL

set_option Elab.async false
set_option linter.all false
set_option maxRecDepth 100000
set_option maxHeartbeats 4000000
namespace DL
open PySem PySem.Spec PyProof.Rows L2
/-! ### statements -/
structure DEnds where
  nx : DEnv → Om → Prop
  rt : DQ
  bk : DEnv → Om → Prop := fun _ _ => False
  ct : DEnv → Om → Prop := fun _ _ => False
abbrev DTS := DEnds → DEnv → Om → Prop
def NxOk (K : PySem.W.Frag) (w : Om) (D H : Hp) (f : DEnv → Om → Prop) (q : L2.St → Hp → Prop) : Prop := ∀ ρ' w' σ' D' H', f ρ' w' → Gr w D H w' D' H' → Rp K σ' ρ' w' D' H' → q σ' H'
theorem NxOk.next {K : PySem.W.Frag} {w w1 : Om} {D D1 H H1 : Hp} {f : DEnv → Om → Prop} {q : L2.St → Hp → Prop} (n : NxOk K w D H f q) (g : Gr w D H w1 D1 H1) : NxOk K w1 D1 H1 f q := fun ρ' w' σ' D' H' h g' r => n ρ' w' σ' D' H' h (g.trans g') r
structure EndsOk (K : PySem.W.Frag) (w : Om) (D H : Hp) (F : DEnds) (E : Ends) : Prop where
  nx : NxOk K w D H F.nx E.nx
  rt : Fin K w D H F.rt E.rt
  bk : NxOk K w D H F.bk E.bk
  ct : NxOk K w D H F.ct E.ct
theorem EndsOk.next {K : PySem.W.Frag} {w w1 : Om} {D D1 H H1 : Hp} {F : DEnds} {E : Ends} (e : EndsOk K w D H F E) (g : Gr w D H w1 D1 H1) : EndsOk K w1 D1 H1 F E := ⟨e.nx.next g, e.rt.next g, e.bk.next g, e.ct.next g⟩
def ups (K : PySem.W.Frag) (W : WX) (Z : DX) (t : DTS) : TS := fun E σ H => ∃ ρ w D F, Rp K σ ρ w D H ∧ XOk K W Z w D H ∧ t F ρ w ∧ EndsOk K w D H F E
abbrev DS (X : Cx) (W : WX) (Z : DX) (st : Stmt) (t : DTS) : Prop := PS X st (ups X.K W Z t)
abbrev DB (X : Cx) (W : WX) (Z : DX) (sts : List Stmt) (t : DTS) : Prop := PSs X sts (ups X.K W Z t)
theorem ps_weak {X : Cx} {st : Stmt} {t t' : TS} (h : PS X st t) (i : ∀ E σ H, t' E σ H → t E σ H) : PS X st t' := ⟨fun pins s σ H D I q => h.run pins s σ H D I (i D σ H q)⟩
theorem pss_weak {X : Cx} {st : List Stmt} {t t' : TS} (h : PSs X st t) (i : ∀ E σ H, t' E σ H → t E σ H) : PSs X st t' := ⟨fun pins s σ H D I q => h.run pins s σ H D I (i D σ H q)⟩
theorem pg_weak {X : Cx} {e : Expr} {t t' : TG} (h : PG X e t) (i : ∀ v σ H Q, t' v σ H Q → t v σ H Q) : PG X e t' := ⟨fun pins s σ H v u Q I r q => h.run pins s σ H v u Q I r (i v σ H Q q)⟩
theorem pgs_weak {X : Cx} {e : List Expr} {t t' : TGs} (h : PGs X e t) (i : ∀ v σ H Q, t' v σ H Q → t v σ H Q) : PGs X e t' := ⟨fun pins s σ H v u Q I r q => h.run pins s σ H v u Q I r (i v σ H Q q)⟩
theorem pg_or {X : Cx} {e : Expr} {t t' : TG} (h : PG X e t) (h' : PG X e t') : PG X e (fun v σ H Q => t v σ H Q ∨ t' v σ H Q) := ⟨fun pins s σ H v u Q I r q => q.elim (fun q => h.run pins s σ H v u Q I r q) (fun q => h'.run pins s σ H v u Q I r q)⟩

section
variable {X : Cx} {W : WX} {Z : DX} {K : PySem.W.Frag} {a b c e : Expr} {ta tb te : DTE} {pos : Pos} {st : Stmt} {sts : List Stmt} {t u : DTS}
def dNext : DTS := fun F ρ w => F.nx ρ w
def dSeq (t u : DTS) : DTS := fun F ρ w => t { F with nx := u F } ρ w
theorem ds_nil : DB X W Z [] dNext := pss_weak pss_nil fun E σ H ⟨ρ, w, D, F, rp, xo, h, eo⟩ => eo.nx ρ w σ D H h (Gr.refl _ _ _) rp
theorem ds_one (h1 : DS X W Z st t) : DB X W Z [st] t := pss_one h1
theorem ds_cons (h1 : DS X W Z st t) (h2 : DB X W Z sts u) : DB X W Z (st :: sts) (dSeq t u) :=
  pss_weak (pss_cons h1 h2) fun E σ H ⟨ρ, w, D, F, rp, xo, h, eo⟩ => ⟨ρ, w, D, { F with nx := u F }, rp, xo, h, fun ρ' w' σ' D' H' hu g r => ⟨ρ', w', D', F, r, xo.next g, hu, eo.next g⟩, eo.rt, eo.bk, eo.ct⟩
theorem ds_pass : DS X W Z (.Pass pos) dNext := ps_weak ps_pass fun E σ H ⟨ρ, w, D, F, rp, xo, h, eo⟩ => eo.nx ρ w σ D H h (Gr.refl _ _ _) rp
def dBreak : DTS := fun F ρ w => F.bk ρ w
def dCont : DTS := fun F ρ w => F.ct ρ w
theorem ds_break : DS X W Z (.Break pos) dBreak := ps_weak ps_break fun E σ H ⟨ρ, w, D, F, rp, xo, h, eo⟩ => eo.bk ρ w σ D H h (Gr.refl _ _ _) rp
theorem ds_cont : DS X W Z (.Continue pos) dCont := ps_weak ps_continue fun E σ H ⟨ρ, w, D, F, rp, xo, h, eo⟩ => eo.ct ρ w σ D H h (Gr.refl _ _ _) rp
def dDrop (te : DTE) : DTS := fun F ρ w => te ρ w fun _ w1 => F.nx ρ w1
theorem ds_expr (he : DE X W Z e te) (hs : swapsWith e none pos.line X.env = pure false := by rfl) : DS X W Z (.Expr e pos) (dDrop te) :=
  ps_weak (ps_expr he hs) fun E σ H ⟨ρ, w, D, F, rp, xo, h, eo⟩ => ⟨ρ, w, D, _, rp, xo, h, fun s w1 v D1 H1 h1 g1 s1 _ => eo.nx ρ w1 σ D1 H1 h1 g1 (rp.next g1.dd s1)⟩
def dRet (te : DTE) : DTS := fun F ρ w => te ρ w F.rt
def dRetN : DTS := fun F _ w => F.rt (.dat .none) w
theorem ds_ret (he : DE X W Z e te) : DS X W Z (.Return (some e) pos) (dRet te) := ps_weak (ps_ret he) fun E σ H ⟨ρ, w, D, F, rp, xo, h, eo⟩ => ⟨ρ, w, D, _, rp, xo, h, eo.rt⟩
theorem ds_retN : DS X W Z (.Return none pos) dRetN := ps_weak ps_retN fun E σ H ⟨ρ, w, D, F, rp, xo, h, eo⟩ => eo.rt.d rp.st h .non
def dIfS (c : DTT) (t u : DTS) : DTS := fun F ρ w => c ρ w fun k w1 => if k = true then t F ρ w1 else u F ρ w1
theorem ds_if {sa sb : List Stmt} {tc : DTT} (hc : DT X W Z c tc) (ha : DB X W Z sa t) (hb : DB X W Z sb u) : DS X W Z (.If c sa sb pos) (dIfS tc t u) :=
  ps_weak (ps_if hc ha hb) fun E σ H ⟨ρ, w, D, F, rp, xo, h, eo⟩ => ⟨ρ, w, D, _, rp, xo, h, fun k w1 D1 H1 h1 g1 s1 => by
    cases k with
    | true => rw [if_pos rfl] at h1 ⊢; exact ⟨ρ, w1, D1, F, rp.next g1.dd s1, xo.next g1, h1, eo.next g1⟩
    | false => rw [if_neg Bool.false_ne_true] at h1 ⊢; exact ⟨ρ, w1, D1, F, rp.next g1.dd s1, xo.next g1, h1, eo.next g1⟩⟩
/-! ### targets -/
abbrev DTG := Sl → DEnv → Om → (DEnv → Om → Prop) → Prop
abbrev DTGs := List Sl → DEnv → Om → (DEnv → Om → Prop) → Prop
def upG (K : PySem.W.Frag) (W : WX) (Z : DX) (g : DTG) : TG := fun v σ H Q => ∃ s ρ w D R, Rp K σ ρ w D H ∧ XOk K W Z w D H ∧ Vr K D v s ∧ g s ρ w R ∧ NxOk K w D H R Q
def upGs (K : PySem.W.Frag) (W : WX) (Z : DX) (g : DTGs) : TGs := fun vs σ H Q => ∃ ss ρ w D R, Rp K σ ρ w D H ∧ XOk K W Z w D H ∧ SlA K D vs ss ∧ g ss ρ w R ∧ NxOk K w D H R Q
abbrev DG (X : Cx) (W : WX) (Z : DX) (e : Expr) (g : DTG) : Prop := PG X e (upG X.K W Z g)
abbrev DGs (X : Cx) (W : WX) (Z : DX) (es : List Expr) (g : DTGs) : Prop := PGs X es (upGs X.K W Z g)
def dName (i : Nat) : DTG := fun s ρ w R => R (ρ.set i (some s)) w
theorem dg_name {i : Nat} {x : Str} (hN : X.N.Nodup) (hi : X.N[i]? = some x) (hx : Loc X.env.scope x) (hf : X.fn x = true ∨ X.env.scope.names.lookup x = some .local := by first | exact .inl rfl | exact .inr rfl | assumption) : DG X W Z (.Name x pos) (dName i) :=
  pg_weak (pg_name hN hi hx hf) fun v σ H Q ⟨s, ρ, w, D, R, rp, xo, r, h, n⟩ => n _ w _ D H h (Gr.refl _ _ _) (rp.set i r)
def dGNil : DTGs := fun ss ρ w R => ss = [] ∧ R ρ w
def dGCons (t : DTG) (u : DTGs) : DTGs := fun ss ρ w R => ∃ s r, ss = s :: r ∧ t s ρ w fun ρ' w' => u r ρ' w' R
theorem dgs_nil : DGs X W Z [] dGNil := pgs_weak pgs_nil fun vs σ H Q ⟨ss, ρ, w, D, R, rp, xo, r, ⟨h0, h⟩, n⟩ => by
  subst h0
  cases r
  exact ⟨rfl, n ρ w σ D H h (Gr.refl _ _ _) rp⟩
variable {es : List Expr} {tg : DTG} {tgs : DTGs}
theorem dgs_cons (h1 : DG X W Z e tg) (h2 : DGs X W Z es tgs) (hs : (assignEach (e :: es) X.env).map (·.2) = assign e X.env :: (assignEach es X.env).map (·.2) := by rfl) : DGs X W Z (e :: es) (dGCons tg tgs) :=
  pgs_weak (pgs_cons h1 h2 hs) fun vs σ H Q ⟨ss, ρ, w, D, R, rp, xo, r, h, n⟩ => by
    obtain ⟨s, sr, rfl, h⟩ := h
    cases r with
    | cons r0 rr =>
      exact ⟨_, _, rfl, s, ρ, w, D, _, rp, xo, r0, h, fun ρ1 w1 σ1 D1 H1 h1 g1 r1 => ⟨sr, ρ1, w1, D1, R, r1, xo.next g1, SlA.mono g1.dd rr, h1, n.next g1⟩⟩
/-- (a, b, ..) = a list or a tuple of that length -/
def dGTup (n : Nat) (t : DTGs) : DTG := fun s ρ w R => ∃ xs, sq w s = some xs ∧ xs.length = n ∧ t xs ρ w R
theorem dg_tup {k n : Nat} (hc : X.calm = true) (h : DGs X W Z es tgs) (hn : (assignEach es X.env).length = n := by rfl) (hst : (assignEach es X.env).findIdx? (·.1) = none := by rfl) : DG X W Z (.Tuple es k pos) (dGTup n tgs) :=
  pg_weak (pg_or (pg_lst hc h hn hst) (pg_tup hc h hn hst)) fun v σ H Q ⟨s, ρ, w, D, R, rp, xo, r, ⟨xs, e, hl, h⟩, n⟩ => by
    obtain ⟨p, vs, rfl, hq, hv⟩ := sq_ok rp.st r e
    have hlen : vs.length = _ := (Paired.length hv).trans hl
    rcases hq with hq | hq
    · exact .inl ⟨p, vs, rfl, hq, hlen, xs, ρ, w, D, R, rp, xo, hv, h, n⟩
    · exact .inr ⟨p, vs, rfl, hq, hlen, xs, ρ, w, D, R, rp, xo, hv, h, n⟩
def dAsg (te : DTE) (g : DTG) : DTS := fun F ρ w => te ρ w fun s w1 => g s ρ w1 F.nx
theorem ds_asg {tgt : Expr} (he : DE X W Z e te) (hg : DG X W Z tgt tg) (hs : swapsWithSole [tgt] e pos.line X.env = pure false := by rfl) (hw : swappedStores [tgt] e X.env = pure none := by rfl) (h1 : (assignEach [tgt] X.env).map (·.2) = [assign tgt X.env] := by rfl) : DS X W Z (.Assign [tgt] e pos) (dAsg te tg) :=
  ps_weak (ps_asg he hg hs hw h1) fun E σ H ⟨ρ, w, D, F, rp, xo, h, eo⟩ => ⟨ρ, w, D, _, rp, xo, h, fun s w1 v D1 H1 h1 g1 s1 r1 => ⟨s, ρ, w1, D1, F.nx, rp.next g1.dd s1, xo.next g1, r1, h1, eo.nx.next g1⟩⟩
theorem ds_set {i : Nat} {x : Str} {pos' : Pos} (hN : X.N.Nodup) (hi : X.N[i]? = some x) (hx : Loc X.env.scope x) (he : DE X W Z e te) (hs : swapsWith e (some (.Name x pos')) pos.line X.env = pure false := by rfl) (hf : X.fn x = true ∨ X.env.scope.names.lookup x = some .local := by first | exact .inl rfl | exact .inr rfl | assumption) :
    DS X W Z (.Assign [.Name x pos'] e pos) (dAsg te (dName i)) :=
  ps_weak (ps_set hN hi hx he hs hf) fun E σ H ⟨ρ, w, D, F, rp, xo, h, eo⟩ => ⟨ρ, w, D, _, rp, xo, h, fun s w1 v D1 H1 h1 g1 s1 r1 => eo.nx _ w1 _ D1 H1 h1 g1 ((rp.next g1.dd s1).set i r1)⟩
/-- o[i] = e, of a list of the store -/
def dSetL (to ti : DTE) : DTG := fun s ρ w R => to ρ w fun o w1 => ti ρ w1 fun i w2 => ∃ p xs k j, o = .adr p ∧ i = .dat (.int k) ∧ w2 p = some (.lst xs) ∧ ixN xs.length k = some j ∧ R ρ (put w2 p (.lst (xs.set j s)))
theorem dg_sub (ho : DE X W Z a ta) (hi : DE X W Z b tb)
    (hh : ∀ v, assign (.Subscript a b pos) X.env v = (do
      let ov ← holding [v] (eval a X.env)
      let iv ← holding [v, ov] (eval b X.env)
      standAt pos
      holding [v, ov, iv] (setItem ov iv v)
      release [v, ov, iv] []) := by intro _; rfl) : DG X W Z (.Subscript a b pos) (dSetL ta tb) :=
  pg_weak (pg_sub ho hi set_list hh) fun v σ H Q ⟨s, ρ, w, D, R, rp, xo, r, h, n⟩ => ⟨ρ, w, D, _, rp, xo, h, fun o w1 z1 D1 H1 h1 g1 s1 r1 => ⟨ρ, w1, D1, _, rp.next g1.dd s1, xo.next g1, h1, fun i w2 z2 D2 H2 h2 g2 s2 r2 => by
    obtain ⟨p, xs, k, j, rfl, rfl, hw, hj, hR⟩ := h2
    obtain ⟨vs, hH, hv⟩ := s2.own p _ hw
    have r1' : z1 = .ref p := r1
    have rv := r.mono (g1.trans g2).dd
    refine ⟨p, vs, k, j, r1', dr_int r2, hH, by rw [Paired.length hv]; exact hj, ?_⟩
    have g3 : Gr w2 D2 H2 (put w2 p (.lst (xs.set j s))) D2 (upd H2 p (.lst (vs.set j v))) := Gr.write hw
    have s3 := s2.write (o := .lst (vs.set j v)) (u' := .lst (xs.set j s)) hw ⟨_, upd_same, SlA.set rv j hv⟩
    have g := (g1.trans g2).trans g3
    exact n ρ _ σ D2 _ hR g (rp.next g.dd s3)⟩⟩
/-! ### a, *b, c = a tuple or a list -/
theorem ite_no {M : Model} {A : Around} {E : Value → Shared → Prop} {s : Shared} {α : Type} {Q : α → Shared → Prop} {p : Prop} [Decidable p] {x y : Sem α} (h : ¬ p) (hy : wpAny M A y Q E s) : wpAny M A (if p then x else y) Q E s := by
  rw [if_neg h]
  exact hy
theorem star_items {prog : Program} {w : World} {A : Around} {E : Value → Shared → Prop} {s : Shared} {l : Addr} {items : Array Value} {n i : Nat} {Q : List Value → Shared → Prop}
    (hl : IsTup s.heap l items ∨ s.heap.IsList l items) (hh : A.handled = none) (hi : i < n) (hn : n ≤ items.size + 1) (hz : items.size ≤ 16384)
    (h : ∀ (h' : Heap) (tk : Nat), (∀ b o, s.heap.get? b = some o → h'.get? b = some o) →
      Q (items.toList.take i ++ [.ref h'.objs.size] ++ (items.toList.drop i).drop (items.size + 1 - n)) { s with heap := h'.push { cls := .type "list", data := .seq ((items.toList.drop i).take (items.size + 1 - n)).toArray }, toks := tk }) :
    wpAny (model prog w) A (unpackItems (.ref l) n (some i)) Q E s := by
  have fl : (items.toList.take i).length = i := by
    rw [List.length_take, Array.length_toList]
    omega
  have rl : (items.toList.drop i).length = items.size - i := by
    rw [List.length_drop, Array.length_toList]
  have ml : (items.toList.drop i).length - (n - 1 - i) = items.size + 1 - n := by
    rw [rl]
    omega
  -- behind the walk
  have tail : ∀ (h2 : Heap) (tk : Nat), (∀ b o, b ≠ s.heap.objs.size → s.heap.get? b = some o → h2.get? b = some o) →
      wpAny (model prog w) A (newList ((items.toList.drop i).take ((items.toList.drop i).length - (n - 1 - i))) >>= fun d =>
        pure (items.toList.take i ++ [d] ++ (items.toList.drop i).drop ((items.toList.drop i).length - (n - 1 - i)))) Q E { s with heap := h2, toks := tk } := by
    intro h2 tk hk
    rw [ml]
    refine wpAny_bind (wpAny_newList (wpAny_pure ?_) ?_)
    · exact h h2 tk fun b o e => hk b o (Nat.ne_of_lt (Heap.lt_size e)) e
    · rw [List.length_take, rl, sizeLine_eq]
      omega
  unfold unpackItems
  refine wpAny_bind ?_
  unfold notIterableAtAll
  rcases hl with hl | hl
  · have ne : l ≠ s.heap.objs.size := by
      obtain ⟨o, ho, _⟩ := hl
      exact Nat.ne_of_lt (Heap.lt_size ho)
    refine wpAny_bind (wpAny_specialOf hl.typeIs slot_tuple_iter.lookup (wpAny_pure ?_))
    simp only [Bool.false_eq_true, if_false]
    refine wpAny_bind (wpAny_holding (iter_tuple hl (wpAny_bind (wpAny_holding ?_))))
    refine draw_tuple ne i 0 _ _ ⟨_, Heap.get?_push_size _ rfl, rfl, rfl⟩ (hl.push _) (by omega) fun h1 it1 k1 => ?_
    have hl1 : IsTup h1 l items := (hl.push _).extBut k1.extBut ne
    rw [Nat.zero_add] at it1
    obtain ⟨oi, hoi, _⟩ := id it1
    obtain ⟨ol, hol, _⟩ := id hl1
    rw [List.drop_zero, if_neg (show ¬ ((items.toList.take i).length < i) by omega)]
    refine wpAny_bind (wpAny_holding ?_)
    refine PySem.W.kun_collect (s := { s with heap := h1 }) (T := "tuple_iterator") (.inr (.inr (.inr rfl))) (Walks.tuple (A := A.in1) hh s.heap.objs.size l ne items) (fun j u z => z.1.typeIs) (k := i) (by omega) ⟨it1, hl1⟩ (Heap.lt_size hoi) (Heap.lt_size hol) (fun h2 tk hk => ?_) (by rw [sizeLine_eq]; omega)
    refine ite_no (by rw [rl]; omega) ?_
    exact tail h2 tk fun b o hb q => hk b o hb (k1.extBut b o hb (Heap.get?_push_of_some _ q))
  · have ne : l ≠ s.heap.objs.size := by
      obtain ⟨o, ho, _⟩ := hl
      exact Nat.ne_of_lt (Heap.lt_size ho)
    refine wpAny_bind (wpAny_specialOf hl.typeIs slot_list_iter.lookup (wpAny_pure ?_))
    simp only [Bool.false_eq_true, if_false]
    refine wpAny_bind (wpAny_holding (wpAny_pyIter_list hl (wpAny_bind (wpAny_holding ?_))))
    refine PySem.W.kun_draw ne i 0 _ _ ⟨_, Heap.get?_push_size _ rfl, rfl, rfl⟩ (hl.push _) (by omega) fun h1 it1 k1 => ?_
    have hl1 : h1.IsList l items := (hl.push _).extBut k1.extBut ne
    rw [Nat.zero_add] at it1
    obtain ⟨oi, hoi, _⟩ := id it1
    obtain ⟨ol, hol, _⟩ := id hl1
    rw [List.drop_zero, if_neg (show ¬ ((items.toList.take i).length < i) by omega)]
    refine wpAny_bind (wpAny_holding ?_)
    refine PySem.W.kun_collect (s := { s with heap := h1 }) (T := "list_iterator") (.inr (.inr (.inl rfl))) (Walks.list (A := A.in1) hh s.heap.objs.size l ne items) (fun j u z => z.1.typeIs) (k := i) (by omega) ⟨it1, hl1⟩ (Heap.lt_size hoi) (Heap.lt_size hol) (fun h2 tk hk => ?_) (by rw [sizeLine_eq]; omega)
    refine ite_no (by rw [rl]; omega) ?_
    exact tail h2 tk fun b o hb q => hk b o hb (k1.extBut b o hb (Heap.get?_push_of_some _ q))
def gStar (K : PySem.W.Frag) (n i : Nat) (t : TGs) : TG := fun v σ H Q => ∃ a xs, v = .ref a ∧ (SqL K H a xs ∨ SqT K H a xs) ∧ i < n ∧ n ≤ xs.length + 1 ∧ xs.length ≤ 16384 ∧
  ∀ p, H p = none → t (xs.take i ++ [.ref p] ++ (xs.drop i).drop (xs.length + 1 - n)) σ (upd H p (.lst ((xs.drop i).take (xs.length + 1 - n)))) Q
theorem pg_star {es : List Expr} {k n i : Nat} {t : TGs} (hc : X.calm = true) (h : PGs X es t) (hn : (assignEach es X.env).length = n := by rfl) (hst : (assignEach es X.env).findIdx? (·.1) = some i := by rfl) : PG X (.Tuple es k pos) (gStar X.K n i t) := by
  refine ⟨fun pins s σ H v u Q I r hw => ?_⟩
  obtain ⟨a, xs, rfl, hq, hi, hl, hz, hw⟩ := hw
  cases r
  have ex : ∃ its : List Value, Vals xs its ∧ (IsTup s.heap a its.toArray ∨ s.heap.IsList a its.toArray) := by
    rcases hq with hq | hq
    · obtain ⟨its, rv, pl, _⟩ := I.list hq
      exact ⟨its, rv, .inr pl.isList⟩
    · obtain ⟨its, rv, pl, _⟩ := I.tuple hq
      exact ⟨its, rv, .inl pl⟩
  obtain ⟨its, rv, hp⟩ := ex
  have le := rv.length
  rw [PyProof.Rows.assign_Tuple]
  refine wpAny_bind (wpAny_standAt ?_)
  unfold unpack
  rw [hn, hst]
  refine wpAny_bind (wpAny_holding (star_items hp (I.ok.hd hc) hi (by simp; omega) (by simp; omega) fun h' tk hk => ?_))
  have I1 : Inv X pins σ H { s with heap := h', toks := tk } := I.kept (t' := tk) hk
  have I2 := I1.lnew (t' := tk) (its := (its.drop i).take (its.length + 1 - n)) ((rv.drop i).take (its.length + 1 - n)) (by rw [List.length_take, List.length_drop, sizeLine_eq]; omega)
  have q := hw _ I1.fresh
  rw [le] at q
  have q2 := h.run pins _ σ _ _ ((its.take i) ++ [.ref h'.objs.size] ++ (its.drop i).drop (its.length + 1 - n)) Q I2 (Vals.append (Vals.append (rv.take i) (.cons (show L2.RelV (.ref _) (.ref _) from rfl) .nil)) ((rv.drop i).drop _)) q
  simpa using q2
def dGStar (n i : Nat) (t : DTGs) : DTG := fun s ρ w R => ∃ xs, sq w s = some xs ∧ i < n ∧ n ≤ xs.length + 1 ∧ xs.length ≤ 16384 ∧
  ∀ p, w p = none → t (xs.take i ++ [.adr p] ++ (xs.drop i).drop (xs.length + 1 - n)) ρ (put w p (.lst ((xs.drop i).take (xs.length + 1 - n)))) R
theorem dg_star {k n i : Nat} (hc : X.calm = true) (h : DGs X W Z es tgs) (hn : (assignEach es X.env).length = n := by rfl) (hst : (assignEach es X.env).findIdx? (·.1) = some i := by rfl) : DG X W Z (.Tuple es k pos) (dGStar n i tgs) :=
  pg_weak (pg_star hc h hn hst) fun v σ H Q ⟨s, ρ, w, D, R, rp, xo, r, ⟨xs, e, hi, hl, hz, h⟩, nx⟩ => by
    obtain ⟨p, vs, rfl, hq, hv⟩ := sq_ok rp.st r e
    have le : vs.length = xs.length := Paired.length hv
    refine ⟨p, vs, rfl, hq, hi, by rw [le]; exact hl, by rw [le]; exact hz, fun a ha => ?_⟩
    have hm : SlA X.K D ((vs.drop i).take (xs.length + 1 - n)) ((xs.drop i).take (xs.length + 1 - n)) := SlA.take _ (SlA.drop i hv)
    have s2 := rp.st.newW (o := .lst ((vs.drop i).take (xs.length + 1 - n))) (u := .lst ((xs.drop i).take (xs.length + 1 - n))) ha ⟨_, upd_same, hm⟩
    have g2 : Gr w D H (put w a (.lst ((xs.drop i).take (xs.length + 1 - n)))) D (upd H a (.lst ((vs.drop i).take (xs.length + 1 - n)))) := Gr.newW rp.st ha
    rw [le]
    exact ⟨_, ρ, _, D, R, rp.next g2.dd s2, xo.next g2, SlA.append (SlA.append (SlA.take i hv) (.cons (show Vr X.K D (.ref a) (.adr a) from rfl) .nil)) (SlA.drop _ (SlA.drop i hv)), h a (rp.st.freeW ha), nx.next g2⟩
end
end DL

set_option Elab.async false
set_option linter.all false
set_option maxRecDepth 100000
set_option maxHeartbeats 4000000
namespace DL
open PySem PySem.Spec PyProof.Rows L2
section
variable {X : Cx} {W : WX} {Z : DX} {K : PySem.W.Frag} {a b c e : Expr} {ta tb te : DTE} {pos : Pos} {st : Stmt} {sts : List Stmt} {t u : DTS} {es : List Expr} {tr : DTA} {tg : DTG} {tgs : DTGs}
/-! ### ghost steps -/
def dFz (te : DTE) : DTE := fun ρ w R => te ρ w fun s w1 => frz s w1 fun d w2 => R (.dat d) w2
theorem de_fz (h : DE X W Z e te) : DE X W Z e (dFz te) := pe_weak h fun σ H Q ⟨ρ, w, D, R, rp, xo, h, f⟩ => ⟨ρ, w, D, _, rp, xo, h, fun s w1 z D1 H1 h1 g1 s1 r1 => by
  obtain ⟨d, w', D', hk, g', s', rd⟩ := frz_ok s1 r1 h1
  exact ((f.next g1).next g').d s' hk rd⟩
/-- what stands neither in the store nor among the data may change -/
theorem StOk.junk {w : Om} {D H : Hp} {p : Addr} {o : HO} (s : StOk K w D H) (hw : w p = none) (hd : D p = none) : StOk K w D (upd H p o) where
  dh := fun a u q => by rw [upd_ne (fun z => by rw [z, hd] at q; cases q)]; exact s.dh a u q
  own := fun a u q => (s.own a u q).mono (Same.refl D) fun x r => by rw [upd_ne (fun z => by rw [z, hw] at q; cases q)]; exact r
  sep := s.sep
theorem Gr.junk {w w' : Om} {D H D' H' : Hp} {p : Addr} {o : HO} (g : Gr w D H w' D' H') (hp : H p = none) : Gr w D H w' D' (upd H' p o) where
  dd := g.dd
  fr := fun a u q n => by rw [upd_ne (ne_of_none q hp)]; exact g.fr a u q n
  nw := g.nw
  nd := g.nd
  dm := fun a q => by
    by_cases z : a = p
    · subst z; rw [upd_same]; intro y; cases y
    · rw [upd_ne z]; exact g.dm a q
/-! ### calls of built-ins by values -/
abbrev GN := Om → List Sl → Option Ou
def dCB (g : GN) (ta : DTA) : DTE := fun ρ w R => ta ρ w fun ss w1 => ∃ o, g w1 ss = some o ∧ ret o w1 R
def CV (K : PySem.W.Frag) (r : List V → Hp → VK → Prop) (g : GN) : Prop := ∀ ss vs w D H o R Q, StOk K w D H → SlA K D vs ss → g w ss = some o → ret o w R → Fin K w D H R Q → r vs H Q
theorem up_cb {r : List V → Hp → VK → Prop} {g : GN} (hv : CV X.K r g) (σ : L2.St) (H : Hp) (Q : VK) (h : up X.K W Z (dCB g tr) σ H Q) : tCB r (upA X.K W Z tr) σ H Q := by
  obtain ⟨ρ, w, D, R, rp, xo, h, f⟩ := h
  refine ⟨ρ, w, D, _, rp, xo, h, fun ss w1 vs D1 H1 h1 g1 s1 rs => ?_⟩
  obtain ⟨o, e, ho⟩ := h1
  exact hv ss vs w1 D1 H1 o R Q s1 rs e ho (f.next g1)
variable {x : Str} {p : Pos} {idn T : String}
theorem de_callB {r : List V → Hp → VK → Prop} {g : GN} (hc : CallR X (.builtin idn) r) (hv : CV X.K r g) (hg : Gl X x) (hm : X.mg x = none) (hb : bootBuiltins x = some (.builtin idn)) (ha : DA X W Z (e :: es) tr) (hn : x ≠ "__name__" := by decide) (hdb : (x == ("__debug__" : Str)) = false := by decide)
    (hs : starEach (e :: es) X.env = (false, eval e X.env) :: starEach es X.env := by rfl) (hpl : (backTo pos (starEach es X.env)).any (·.1) = false := by rfl) : DE X W Z (.Call (.Name x p) (e :: es) [] pos) (dCB g tr) :=
  pe_weak (pe_callB hc hg hm hb ha hn hdb hs hpl) fun σ H Q h => up_cb hv σ H Q h
theorem de_callTy {r : List V → Hp → VK → Prop} {g : GN} (hc : CallR X (.type T) r) (hv : CV X.K r g) (hg : Gl X x) (hm : X.mg x = none) (hb : bootBuiltins x = some (.type T)) (ha : DA X W Z (e :: es) tr) (hn : x ≠ "__name__" := by decide) (hdb : (x == ("__debug__" : Str)) = false := by decide)
    (hs : starEach (e :: es) X.env = (false, eval e X.env) :: starEach es X.env := by rfl) (hpl : (backTo pos (starEach es X.env)).any (·.1) = false := by rfl) : DE X W Z (.Call (.Name x p) (e :: es) [] pos) (dCB g tr) :=
  pe_weak (pe_callTy hc hg hm hb ha hn hdb hs hpl) fun σ H Q h => up_cb hv σ H Q h
theorem sla1 {D : Hp} {vs : List V} {s : Sl} (h : SlA K D vs [s]) : ∃ v, vs = [v] ∧ Vr K D v s := by
  cases h with
  | cons r t => cases t; exact ⟨_, rfl, r⟩
theorem sla2 {D : Hp} {vs : List V} {s s' : Sl} (h : SlA K D vs [s, s']) : ∃ v v', vs = [v, v'] ∧ Vr K D v s ∧ Vr K D v' s' := by
  cases h with
  | cons r t =>
    obtain ⟨v, rfl, r'⟩ := sla1 t
    exact ⟨_, v, rfl, r, r'⟩
/-- len -/
def lenS : GN := fun w ss => match ss with
  | [.dat (.str z)] => if z.length ≤ sizeLine then some (.v (.dat (.int z.length))) else none
  | [s] => (sq w s).map fun xs => .v (.dat (.int xs.length))
  | _ => none
def rLenA (K : PySem.W.Frag) : List V → Hp → VK → Prop := fun xs H Q => (∃ p ys, xs = [.ref p] ∧ (SqL K H p ys ∨ SqT K H p ys) ∧ Q (.int ys.length) H) ∨ (∃ z, xs = [.str z] ∧ z.length ≤ sizeLine ∧ Q (.int z.length) H)
theorem lenS_sq {w : Om} {s : Sl} {xs : List Sl} (h : sq w s = some xs) : lenS w [s] = some (.v (.dat (.int xs.length))) := by
  have k : ((sq w s).map fun xs => Ou.v (.dat (.int xs.length))) = some (.v (.dat (.int xs.length))) := by rw [h]; rfl
  cases s with
  | adr a => exact k
  | scr ns => exact k
  | dat d => cases d <;> first | exact k | cases h
theorem lenS_str {w : Om} {z : Str} (h : z.length ≤ sizeLine) : lenS w [.dat (.str z)] = some (.v (.dat (.int z.length))) := by
  show (if z.length ≤ sizeLine then some (Ou.v (.dat (.int z.length))) else none) = _
  rw [if_pos h]
theorem cv_len : CV K (rLenA K) lenS := fun ss vs w D H o R Q st rv e ho f => by
  have sc : ∀ s, ss = [s] → ((sq w s).map fun xs => Ou.v (.dat (.int xs.length))) = some o → rLenA K vs H Q := fun s es e2 => by
    clear e
    subst es
    obtain ⟨v, rfl, r⟩ := sla1 rv
    cases q : sq w s with
    | none => rw [q] at e2; cases e2
    | some xs =>
      rw [q] at e2
      cases e2
      obtain ⟨p, us, rfl, hq, hv⟩ := sq_ok st r q
      refine .inl ⟨p, us, rfl, hq, ?_⟩
      rw [Paired.length hv]
      exact f.d st ho (.int _)
  unfold lenS at e
  split at e
  · rename_i z
    by_cases hz : z.length ≤ sizeLine
    · rw [if_pos hz] at e
      cases e
      obtain ⟨v, rfl, r⟩ := sla1 rv
      cases (show v = .str z from dr_str r)
      exact .inr ⟨z, rfl, hz, f.d st ho (.int _)⟩
    · rw [if_neg hz] at e; cases e
  · exact sc _ rfl e
  · cases e
theorem de_len (hg : Gl X "len") (hm : X.mg "len" = none) (ha : DA X W Z [a] tr) (hs : starEach [a] X.env = (false, eval a X.env) :: starEach [] X.env := by rfl) (hpl : (backTo pos (starEach [] X.env)).any (·.1) = false := by rfl) :
    DE X W Z (.Call (.Name "len" p) [a] [] pos) (dCB lenS tr) := de_callB (CallR.or call_len_seq call_len_str) cv_len hg hm PySem.boot_len ha (by decide) (by decide) hs hpl
/-- max, min of two whole numbers -/
def maxS : GN := fun _ ss => match ss with
  | [.dat (.int i), .dat (.int j)] => some (.v (.dat (.int (if j > i then j else i))))
  | _ => none
def minS : GN := fun _ ss => match ss with
  | [.dat (.int i), .dat (.int j)] => some (.v (.dat (.int (if j < i then j else i))))
  | _ => none
theorem cv_max : CV K (fun xs H Q => ∃ i j, xs = [.int i, .int j] ∧ Q (.int (if j > i then j else i)) H) maxS := fun ss vs w D H o R Q st rv e ho f => by
  unfold maxS at e
  split at e
  · cases e
    obtain ⟨v, v', rfl, r, r'⟩ := sla2 rv
    cases dr_int r; cases dr_int r'
    exact ⟨_, _, rfl, f.d st ho (.int _)⟩
  · cases e
theorem cv_min : CV K (fun xs H Q => ∃ i j, xs = [.int i, .int j] ∧ Q (.int (if j < i then j else i)) H) minS := fun ss vs w D H o R Q st rv e ho f => by
  unfold minS at e
  split at e
  · cases e
    obtain ⟨v, v', rfl, r, r'⟩ := sla2 rv
    cases dr_int r; cases dr_int r'
    exact ⟨_, _, rfl, f.d st ho (.int _)⟩
  · cases e
theorem de_max (hc : X.calm = true) (hg : Gl X "max") (hm : X.mg "max" = none) (ha : DA X W Z [a, b] tr) (hs : starEach [a, b] X.env = (false, eval a X.env) :: starEach [b] X.env := by rfl) (hpl : (backTo pos (starEach [b] X.env)).any (·.1) = false := by rfl) :
    DE X W Z (.Call (.Name "max" p) [a, b] [] pos) (dCB maxS tr) := de_callB (call_max2 hc) cv_max hg hm (by decide +kernel) ha (by decide) (by decide) hs hpl
theorem de_min (hc : X.calm = true) (hg : Gl X "min") (hm : X.mg "min" = none) (ha : DA X W Z [a, b] tr) (hs : starEach [a, b] X.env = (false, eval a X.env) :: starEach [b] X.env := by rfl) (hpl : (backTo pos (starEach [b] X.env)).any (·.1) = false := by rfl) :
    DE X W Z (.Call (.Name "min" p) [a, b] [] pos) (dCB minS tr) := de_callB (call_min2 hc) cv_min hg hm (by decide +kernel) ha (by decide) (by decide) hs hpl
/-- all, any of a list of truths -/
def blOf : Sl → Option Bool
  | .dat (.bool b) => some b
  | _ => none
def allS : GN := fun w ss => match ss with
  | [s] => (sqL w s).bind fun xs => (xs.mapM blOf).map fun bs => .v (.dat (.bool (bs.all id)))
  | _ => none
def anyS : GN := fun w ss => match ss with
  | [s] => (sqL w s).bind fun xs => (xs.mapM blOf).map fun bs => .v (.dat (.bool (bs.any id)))
  | _ => none
theorem mapM_bl : ∀ {xs : List Sl} {bs : List Bool}, xs.mapM blOf = some bs → xs = bs.map fun b => .dat (.bool b) := by
  intro xs
  induction xs with
  | nil => intro ds h; simp at h; subst h; rfl
  | cons x r ih =>
    intro ds h
    rw [List.mapM_cons] at h
    cases q0 : blOf x with
    | none => simp [q0] at h
    | some b =>
      cases q : r.mapM blOf with
      | none => simp [q0, q] at h
      | some es =>
        simp [q0, q] at h
        subst h
        rw [ih q]
        have : x = .dat (.bool b) := by
          cases x with
          | adr _ => cases q0
          | scr _ => cases q0
          | dat d => cases d <;> cases q0; rfl
        rw [this]; rfl
theorem mapM_bl' : ∀ (bs : List Bool), (bs.map fun b => Sl.dat (.bool b)).mapM blOf = some bs
  | [] => rfl
  | b :: r => by rw [List.map_cons, List.mapM_cons, mapM_bl' r]; rfl
theorem bls_sl {D : Hp} : ∀ {bs : List Bool} {vs : List V}, SlA K D vs (bs.map fun b => .dat (.bool b)) → vs = bs.map V.bl
  | [], _, .nil => rfl
  | b :: r, _, .cons h t => by rw [bls_sl t, dr_bool h]; rfl
theorem allS_ok {w : Om} {s : Sl} {bs : List Bool} (h : sqL w s = some (bs.map fun b => .dat (.bool b))) : allS w [s] = some (.v (.dat (.bool (bs.all id)))) := by
  show ((sqL w s).bind fun xs => (xs.mapM blOf).map fun bs => Ou.v (.dat (.bool (bs.all id)))) = _
  rw [h]
  show ((bs.map fun b => Sl.dat (.bool b)).mapM blOf).map (fun bs => Ou.v (.dat (.bool (bs.all id)))) = _
  rw [mapM_bl']; rfl
theorem anyS_ok {w : Om} {s : Sl} {bs : List Bool} (h : sqL w s = some (bs.map fun b => .dat (.bool b))) : anyS w [s] = some (.v (.dat (.bool (bs.any id)))) := by
  show ((sqL w s).bind fun xs => (xs.mapM blOf).map fun bs => Ou.v (.dat (.bool (bs.any id)))) = _
  rw [h]
  show ((bs.map fun b => Sl.dat (.bool b)).mapM blOf).map (fun bs => Ou.v (.dat (.bool (bs.any id)))) = _
  rw [mapM_bl']; rfl
theorem bools_inv {w : Om} {s : Sl} {o : Ou} {f : List Bool → Ou} (e : ((sqL w s).bind fun xs => (xs.mapM blOf).map f) = some o) : ∃ bs : List Bool, sqL w s = some (bs.map fun b => .dat (.bool b)) ∧ o = f bs := by
  cases q : sqL w s with
  | none => rw [q] at e; cases e
  | some xs =>
    rw [q] at e
    have e1 : (xs.mapM blOf).map f = some o := e
    cases q2 : xs.mapM blOf with
    | none => rw [q2] at e1; cases e1
    | some bs =>
      rw [q2] at e1
      cases e1
      exact ⟨bs, by rw [mapM_bl q2], rfl⟩
theorem cv_all : CV K (rAll K) allS := fun ss vs w D H o R Q st rv e ho f => by
  unfold allS at e
  split at e
  · obtain ⟨bs, q, rfl⟩ := bools_inv e
    obtain ⟨v, rfl, r⟩ := sla1 rv
    obtain ⟨p, us, rfl, hq, hv⟩ := sqL_ok st r q
    rw [bls_sl hv] at hq
    exact ⟨p, bs, rfl, SqL.of hq, f.d st ho (.bl _)⟩
  · cases e
theorem cv_any : CV K (rAny K) anyS := fun ss vs w D H o R Q st rv e ho f => by
  unfold anyS at e
  split at e
  · obtain ⟨bs, q, rfl⟩ := bools_inv e
    obtain ⟨v, rfl, r⟩ := sla1 rv
    obtain ⟨p, us, rfl, hq, hv⟩ := sqL_ok st r q
    rw [bls_sl hv] at hq
    exact ⟨p, bs, rfl, SqL.of hq, f.d st ho (.bl _)⟩
  · cases e
theorem de_all (hc : X.calm = true) (hg : Gl X "all") (hm : X.mg "all" = none) (ha : DA X W Z [a] tr) (hs : starEach [a] X.env = (false, eval a X.env) :: starEach [] X.env := by rfl) (hpl : (backTo pos (starEach [] X.env)).any (·.1) = false := by rfl) :
    DE X W Z (.Call (.Name "all" p) [a] [] pos) (dCB allS tr) := de_callB (cr_all hc) cv_all hg hm (by decide +kernel) ha (by decide) (by decide) hs hpl
theorem de_any (hc : X.calm = true) (hg : Gl X "any") (hm : X.mg "any" = none) (ha : DA X W Z [a] tr) (hs : starEach [a] X.env = (false, eval a X.env) :: starEach [] X.env := by rfl) (hpl : (backTo pos (starEach [] X.env)).any (·.1) = false := by rfl) :
    DE X W Z (.Call (.Name "any" p) [a] [] pos) (dCB anyS tr) := de_callB (cr_any hc) cv_any hg hm (by decide +kernel) ha (by decide) (by decide) hs hpl
/-- list(x), tuple(x) -/
def listS : GN := fun w ss => match ss with
  | [s] => (sq w s).map .nl
  | _ => none
def tupS : GN := fun w ss => match ss with
  | [.dat (.tuple ds)] => some (.v (.dat (.tuple ds)))
  | [s] => (sqL w s).bind fun xs => (xs.mapM datOf).map fun ds => .v (.dat (.tuple ds))
  | _ => none
theorem listS_ok {w : Om} {s : Sl} {xs : List Sl} (h : sq w s = some xs) : listS w [s] = some (.nl xs) := by
  show (sq w s).map Ou.nl = _
  rw [h]; rfl
theorem tupS_ok {w : Om} {s : Sl} {ds : List PyData} (h : sqL w s = some (ds.map .dat)) : tupS w [s] = some (.v (.dat (.tuple ds))) := by
  have k : ((sqL w s).bind fun xs => (xs.mapM datOf).map fun ds => Ou.v (.dat (.tuple ds))) = some (.v (.dat (.tuple ds))) := by
    rw [h]
    show ((ds.map Sl.dat).mapM datOf).map (fun ds => Ou.v (.dat (.tuple ds))) = _
    rw [mapM_dat']; rfl
  cases s with
  | adr a => exact k
  | scr ns => cases h
  | dat d => cases d <;> first | exact k | cases h
theorem cv_list : CV K (fun xs H Q => ∃ p ys, xs = [.ref p] ∧ (SqL K H p ys ∨ SqT K H p ys) ∧ ∀ l, H l = none → Q (.ref l) (upd H l (.lst ys))) listS := fun ss vs w D H o R Q st rv e ho f => by
  unfold listS at e
  split at e
  · rename_i s
    obtain ⟨v, rfl, r⟩ := sla1 rv
    cases q : sq w s with
    | none => rw [q] at e; cases e
    | some xs =>
      rw [q] at e
      cases e
      obtain ⟨p, us, rfl, hq, hv⟩ := sq_ok st r q
      exact ⟨p, us, rfl, hq, f.nl st ho.2 hv⟩
  · cases e
theorem cv_tup : CV K (fun xs H Q => ∃ p ys, xs = [.ref p] ∧ ((SqL K H p ys ∧ ∀ l, H l = none → Q (.ref l) (upd H l (.tup ys))) ∨ (SqT K H p ys ∧ Q (.ref p) H))) tupS := fun ss vs w D H o R Q st rv e ho f => by
  unfold tupS at e
  split at e
  · cases e
    obtain ⟨v, rfl, r⟩ := sla1 rv
    obtain ⟨p, us, rfl, hq, hv⟩ := tup_ok st r
    exact ⟨p, us, rfl, .inr ⟨hq, f.d st ho r⟩⟩
  · rename_i s _
    obtain ⟨v, rfl, r⟩ := sla1 rv
    cases q : sqL w s with
    | none => rw [q] at e; cases e
    | some xs =>
      rw [q] at e
      have e1 : (xs.mapM datOf).map (fun ds => Ou.v (.dat (.tuple ds))) = some o := e
      cases q2 : xs.mapM datOf with
      | none => rw [q2] at e1; cases e1
      | some ds =>
        rw [q2] at e1
        cases e1
        have ex := mapM_dat q2
        subst ex
        obtain ⟨p, us, rfl, hq, hv⟩ := sqL_ok st r q
        exact ⟨p, us, rfl, .inl ⟨SqL.of hq, f.nt st ho (SlA.dat hv)⟩⟩
  · cases e
theorem de_list (hg : Gl X "list") (hm : X.mg "list" = none) (ha : DA X W Z [a] tr) (hs : starEach [a] X.env = (false, eval a X.env) :: starEach [] X.env := by rfl) (hpl : (backTo pos (starEach [] X.env)).any (·.1) = false := by rfl) :
    DE X W Z (.Call (.Name "list" p) [a] [] pos) (dCB listS tr) := de_callTy call_list_of cv_list hg hm (by decide +kernel) ha (by decide) (by decide) hs hpl
theorem de_tuple (hg : Gl X "tuple") (hm : X.mg "tuple" = none) (ha : DA X W Z [a] tr) (hs : starEach [a] X.env = (false, eval a X.env) :: starEach [] X.env := by rfl) (hpl : (backTo pos (starEach [] X.env)).any (·.1) = false := by rfl) :
    DE X W Z (.Call (.Name "tuple" p) [a] [] pos) (dCB tupS tr) := de_callTy call_tuple_of cv_tup hg hm (by decide +kernel) ha (by decide) (by decide) hs hpl
/-- str(n) -/
def strS : GN := fun _ ss => match ss with
  | [.dat (.int i)] => if i.natAbs.log2 < 1920 then some (.v (.dat (.str (toString i)))) else none
  | _ => none
theorem strS_ok {w : Om} {i : Int} (h : i.natAbs.log2 < 1920) : strS w [.dat (.int i)] = some (.v (.dat (.str (toString i)))) := by
  show (if i.natAbs.log2 < 1920 then some (Ou.v (.dat (.str (toString i)))) else none) = _
  rw [if_pos h]
theorem cv_str : CV K (fun xs H Q => ∃ i, xs = [.int i] ∧ i.natAbs.log2 < 1920 ∧ Q (.str (toString i)) H) strS := fun ss vs w D H o R Q st rv e ho f => by
  unfold strS at e
  split at e
  · rename_i i
    by_cases hz : i.natAbs.log2 < 1920
    · rw [if_pos hz] at e
      cases e
      obtain ⟨v, rfl, r⟩ := sla1 rv
      cases dr_int r
      exact ⟨i, rfl, hz, f.d st ho (.str _)⟩
    · rw [if_neg hz] at e; cases e
  · cases e
theorem de_strI (hg : Gl X "str") (hm : X.mg "str" = none) (ha : DA X W Z [a] tr) (hs : starEach [a] X.env = (false, eval a X.env) :: starEach [] X.env := by rfl) (hpl : (backTo pos (starEach [] X.env)).any (·.1) = false := by rfl) :
    DE X W Z (.Call (.Name "str" p) [a] [] pos) (dCB strS tr) := de_callTy call_str_int cv_str hg hm (by decide +kernel) ha (by decide) (by decide) hs hpl
/-! ### isinstance -/
inductive Ty6 where
  | str | int | bool | tuple | list | dict
  deriving DecidableEq
def Ty6.name : Ty6 → String
  | .str => "str" | .int => "int" | .bool => "bool" | .tuple => "tuple" | .list => "list" | .dict => "dict"
def isD : Ty6 → PyData → Bool
  | .str, .str _ => true
  | .int, .int _ => true
  | .int, .bool _ => true
  | .bool, .bool _ => true
  | .tuple, .tuple _ => true
  | .list, .list _ => true
  | .dict, .dict _ => true
  | _, _ => false
def isS (T : Ty6) (w : Om) : Sl → Option Bool
  | .dat d => some (isD T d)
  | .scr _ => none
  | .adr a => match w a with
    | some (.lst _) => some (T == .list)
    | some (.dic _) => some (T == .dict)
    | _ => none
def tyN : PyData → String
  | .none => "NoneType" | .bool _ => "bool" | .int _ => "int" | .str _ => "str" | .list _ => "list" | .tuple _ => "tuple" | .dict _ => "dict"
theorem kit_all : ∀ T : Ty6, kitB "NoneType" T.name = some false ∧ kitB "bool" T.name = some (T == .bool || T == .int) ∧ kitB "int" T.name = some (T == .int) ∧ kitB "str" T.name = some (T == .str) ∧ kitB "list" T.name = some (T == .list) ∧ kitB "tuple" T.name = some (T == .tuple) ∧ kitB "dict" T.name = some (T == .dict)
  | .str => by decide +kernel
  | .int => by decide +kernel
  | .bool => by decide +kernel
  | .tuple => by decide +kernel
  | .list => by decide +kernel
  | .dict => by decide +kernel
theorem kit_is (T : Ty6) (d : PyData) : kitB (tyN d) T.name = some (isD T d) := by
  obtain ⟨h1, h2, h3, h4, h5, h6, h7⟩ := kit_all T
  cases d with
  | none => exact h1.trans (by cases T <;> rfl)
  | bool _ => exact h2.trans (by cases T <;> rfl)
  | int _ => exact h3.trans (by cases T <;> rfl)
  | str _ => exact h4.trans (by cases T <;> rfl)
  | list _ => exact h5.trans (by cases T <;> rfl)
  | tuple _ => exact h6.trans (by cases T <;> rfl)
  | dict _ => exact h7.trans (by cases T <;> rfl)
theorem tyx_of {w : Om} {D H : Hp} {v : V} {d : PyData} (st : StOk K w D H) (r : Dr K D v d) : TyX K H v (.type (tyN d)) := by
  cases r with
  | non => exact .base .non
  | bl b => exact .base (.bl b)
  | int i => exact .base (.int i)
  | str x => exact .base (.str x)
  | lst h _ => exact .base (.lst (st.dh _ _ h))
  | tup h _ =>
    rcases h with (h | ⟨o, h⟩) | ⟨o, its, n, h1, h2, _⟩
    · exact .base (.tup (st.dh _ _ h))
    · exact .fTuple (st.dh _ _ h)
    · exact .kTuple h1 h2
  | dct h => exact .base (.dK (st.dh _ _ h))
def tyS (w : Om) : Sl → String
  | .dat d => tyN d
  | .scr _ => "list"
  | .adr a => match w a with
    | some (.lst _) => "list"
    | _ => "dict"
theorem isS_ok {w : Om} {D H : Hp} {v : V} {s : Sl} {T : Ty6} {k : Bool} (st : StOk K w D H) (r : Vr K D v s) (h : isS T w s = some k) : TyX K H v (.type (tyS w s)) ∧ kitB (tyS w s) T.name = some k := by
  cases s with
  | dat d => cases h; exact ⟨tyx_of st r, kit_is T d⟩
  | scr _ => cases h
  | adr a =>
    have h' : (match w a with | some (.lst _) => some (T == .list) | some (.dic _) => some (T == .dict) | _ => none) = some k := h
    have r' : v = .ref a := r
    subst r'
    obtain ⟨h1, h2, h3, h4, h5, h6, h7⟩ := kit_all T
    show TyX K H _ (.type (match w a with | some (.lst _) => "list" | _ => "dict")) ∧ kitB (match w a with | some (.lst _) => "list" | _ => "dict") T.name = some k
    cases q : w a with
    | none => rw [q] at h'; cases h'
    | some o =>
      rw [q] at h'
      cases o with
      | ins _ _ => cases h'
      | lst xs =>
        cases h'
        obtain ⟨vs, hH, _⟩ := st.own a _ q
        exact ⟨.base (.lst hH), h5⟩
      | dic kvs =>
        cases h'
        obtain ⟨vs, hH, _⟩ := st.own a _ q
        exact ⟨.base (.dK hH), h7⟩
def dIsi (T : Ty6) (te : DTE) : DTE := fun ρ w R => te ρ w fun s w1 => ∃ k, isS T w1 s = some k ∧ R (.dat (.bool k)) w1
theorem de_isi (T : Ty6) {tn : Str} {p1 p2 : Pos} (he : DE X W Z e te) (hg : Gl X "isinstance") (hm : X.mg "isinstance" = none) (hgT : Gl X tn) (hmT : X.mg tn = none) (hT : bootBuiltins tn = some (.type T.name)) (hn : tn ≠ "__name__" := by decide) (hd : (tn == ("__debug__" : Str)) = false := by decide)
    (hs : starEach [e, .Name tn p2] X.env = (false, eval e X.env) :: starEach [.Name tn p2] X.env := by rfl) (hpl : (backTo pos (starEach [.Name tn p2] X.env)).any (·.1) = false := by rfl) :
    DE X W Z (.Call (.Name "isinstance" p1) [e, .Name tn p2] [] pos) (dIsi T te) :=
  pe_weak (pe_callB call_isi hg hm (by decide +kernel) (pa_cons he (pa_cons (pe_bltn (v := .ty T.name) hgT hmT hT rfl hn hd) pa_nil) hs) (by decide) (by decide) hs hpl) fun σ H Q ⟨ρ, w, D, R, rp, xo, h, f⟩ => ⟨ρ, w, D, _, rp, xo, h, fun s w1 v D1 H1 h1 g1 s1 r1 => by
    obtain ⟨k, hk, h1⟩ := h1
    obtain ⟨ty, kb⟩ := isS_ok s1 r1 hk
    exact ⟨v, .ty T.name, .type (tyS w1 s), .type T.name, k, rfl, .ty _, ty, kit_ty kb, (f.next g1).d s1 h1 (.bl k)⟩⟩
/-- isinstance(e, (T, U)) -/
def dIsi2 (T U : Ty6) (te : DTE) : DTE := fun ρ w R => te ρ w fun s w1 => ∃ k k', isS T w1 s = some k ∧ isS U w1 s = some k' ∧ R (.dat (.bool (k || k'))) w1
theorem de_isi2 (T U : Ty6) {tn un : Str} {p1 p2 p3 p4 : Pos} {kk : Nat} (he : DE X W Z e te) (hg : Gl X "isinstance") (hm : X.mg "isinstance" = none) (hgT : Gl X tn) (hmT : X.mg tn = none) (hT : bootBuiltins tn = some (.type T.name)) (hgU : Gl X un) (hmU : X.mg un = none) (hU : bootBuiltins un = some (.type U.name))
    (hn : tn ≠ "__name__" := by decide) (hd : (tn == ("__debug__" : Str)) = false := by decide) (hn' : un ≠ "__name__" := by decide) (hd' : (un == ("__debug__" : Str)) = false := by decide)
    (hs : starEach [e, .Tuple [.Name tn p2, .Name un p3] kk p4] X.env = (false, eval e X.env) :: starEach [.Tuple [.Name tn p2, .Name un p3] kk p4] X.env := by rfl) (hpl : (backTo pos (starEach [.Tuple [.Name tn p2, .Name un p3] kk p4] X.env)).any (·.1) = false := by rfl) :
    DE X W Z (.Call (.Name "isinstance" p1) [e, .Tuple [.Name tn p2, .Name un p3] kk p4] [] pos) (dIsi2 T U te) :=
  pe_weak (pe_callB call_isiT hg hm (by decide +kernel) (pa_cons he (pa_cons (pe_tup (pa_cons (pe_bltn (v := .ty T.name) hgT hmT hT rfl hn hd) (pa_cons (pe_bltn (v := .ty U.name) hgU hmU hU rfl hn' hd') pa_nil))) pa_nil) hs) (by decide) (by decide) hs hpl)
    fun σ H Q ⟨ρ, w, D, R, rp, xo, h, f⟩ => ⟨ρ, w, D, _, rp, xo, h, fun s w1 v D1 H1 h1 g1 s1 r1 => ⟨by show 2 ≤ sizeLine; decide, fun q hq => by
      obtain ⟨k, k', hk, hk', h1⟩ := h1
      have s2 : StOk X.K w1 D1 (upd H1 q (.tup [.ty T.name, .ty U.name])) := s1.junk (s1.freeW hq) (s1.freeD hq)
      have g2 : Gr w1 D1 H1 w1 D1 (upd H1 q (.tup [.ty T.name, .ty U.name])) := (Gr.refl w1 D1 H1).junk hq
      obtain ⟨ty, kb⟩ := isS_ok s2 r1 hk
      obtain ⟨_, kb'⟩ := isS_ok s2 r1 hk'
      exact ⟨v, q, [.ty T.name, .ty U.name], .type (tyS w1 s), [.type T.name, .type U.name], k || k', rfl, upd_same, .cons (.ty _) (.cons (.ty _) .nil), ty, kitAny_cons (kit_ty kb) (fun hf => by
        rw [hf, Bool.false_or]
        exact kitAny_cons (kit_ty kb') (fun h0 => by rw [h0]; exact kitAny_nil) (fun ht => ht)) (fun ht => by rw [ht, Bool.true_or]), ((f.next g1).next g2).d s2 h1 (.bl _)⟩⟩⟩
end
end DL

set_option Elab.async false
set_option linter.all false
set_option maxRecDepth 100000
set_option maxHeartbeats 4000000
namespace DL
open PySem PySem.Spec PyProof.Rows L2
/-! ### defs by contracts: c ss w R tells what is asked of the arguments ss and the store w so that the def hands back an r, leaving w', of which R r w' holds -/
abbrev Ct := List Sl → Om → DQ → Prop
def spN (K : PySem.W.Frag) (c : Ct) : Sp := fun vs H Q _ => ∃ ss w D R, SlA K D vs ss ∧ StOk K w D H ∧ c ss w R ∧ Fin K w D H R Q
/-- .. one that may raise: Y tells what is wanted of the exception -/
abbrev CtX := List Sl → Om → DQ → (Addr → Option (List (Str × Sl)) → Om → Prop) → Prop
def spX (K : PySem.W.Frag) (c : CtX) : Sp := fun vs H Q E => ∃ ss w D R Y, SlA K D vs ss ∧ StOk K w D H ∧ c ss w R Y ∧ Fin K w D H R Q ∧ ∀ C x w' D' H' d, Y C x w' → Gr w D H w' D' H' → StOk K w' D' H' → XR K D' H' d x → E (.ref C) d H'
def startD (N : List Str) (ss : List Sl) : DEnv := ss.map some ++ List.replicate (N.length - ss.length) none
theorem rp_start {K : PySem.W.Frag} {N : List Str} {vs : List V} {ss : List Sl} {w : Om} {D H : Hp} (h : SlA K D vs ss) (st : StOk K w D H) : Rp K (L2.start N vs) (startD N ss) w D H := by
  have hl := Paired.length h
  refine ⟨st, by simp [startD, L2.start, hl], fun i s e => ?_⟩
  unfold startD at e
  unfold L2.start
  by_cases hi : i < ss.length
  · rw [List.getElem?_append_left (by simpa using hi), List.getElem?_map] at e
    rw [List.getElem?_append_left (by simpa [hl] using hi), List.getElem?_map]
    cases q : ss[i]? with
    | none => rw [q] at e; cases e
    | some s' =>
      rw [q] at e
      cases e
      obtain ⟨v, h1, h2⟩ := SlA.get h q
      exact ⟨v, by rw [h1]; rfl, h2⟩
  · rw [List.getElem?_append_right (by simpa using hi)] at e
    rw [List.getElem?_replicate] at e
    split at e <;> cases e
/-- the ends of a def's body: the store may be left smaller -/
def endsN (R : DQ) : DEnds := { nx := fun _ w => ∃ u, Sub u w ∧ R (.dat .none) u, rt := fun s w => ∃ u, Sub u w ∧ R s u }
theorem endsN_ok {K : PySem.W.Frag} {w : Om} {D H : Hp} {R : DQ} {Q : VK} (f : Fin K w D H R Q) : EndsOk K w D H (endsN R) { nx := fun _ H' => Q .non H', rt := Q } where
  nx := fun ρ' w' σ' D' H' ⟨u, su, h⟩ g r => f (.dat .none) u .non D' H' h (g.sub su) (r.st.sub su) .non
  rt := fun s w' z D' H' ⟨u, su, h⟩ g st r => f s u z D' H' h (g.sub su) (st.sub su) r
  bk := fun _ _ _ _ _ h => h.elim
  ct := fun _ _ _ _ _ h => h.elim
section
variable {P : Program} {wd : World} {K : PySem.W.Frag} {mg : Str → Option Value} {base : Heap}
abbrev WT : WX := fun _ _ _ _ => True
abbrev ZT : DX := fun _ _ _ _ => True
theorem xok_T {w : Om} {D H : Hp} : XOk K WT ZT w D H := fun _ _ _ _ _ _ _ _ _ _ _ _ => trivial
/-- THE RULE for a def that raises nothing -/
theorem Fun.okD {x qual : Str} {st : Stmt} {f : Addr} {fd : FuncData} {N ps : List Str} {k : Nat} {c : Ct} {tb : DTS} (F : L2.Fun K x qual st f fd) (S : FnScope N ps (defScope st)) (len : ∀ ss w R, c ss w R → ss.length = ps.length)
    (hb : ∀ (cdv : Value) (A : Around) (outer : List Env) (s : Shared) (H : Hp) (E : XK), Room k (A.deeper (envOfC qual (defScope st) s.heap.objs.size f cdv)) → DB (cxOf CX0 P wd K mg base N qual (defScope st) f cdv A outer s H E).nox WT ZT (defBody st) tb)
    (rd : ∀ ss w R, c ss w R → tb (endsN R) (startD N ss) w) : FnOk P wd K mg base CX0 (k + 1) f fd ps (spN K c) := by
  refine L2.Fun.ok F S (fun vs H Q E h => ?_) (fun cdv A outer s H vs Q E hr h => ?_)
  · obtain ⟨ss, w, D, R, hs, _, hc, _⟩ := h
    rw [Paired.length hs]
    exact len ss w R hc
  · obtain ⟨ss, w, D, R, hs, so, hc, fi⟩ := h
    exact ⟨_, hb cdv A outer s H E hr, startD N ss, w, D, endsN R, rp_start hs so, xok_T, rd ss w R hc, endsN_ok fi⟩
end
section
variable {X : Cx} {W : WX} {Z : DX} {e : Expr} {es : List Expr} {tr : DTA} {pos p : Pos}
/-- a call of a def that raises nothing -/
def dCall (c : Ct) (dss : List Sl) (ta : DTA) : DTE := fun ρ w R => ta ρ w fun ss w1 => c (ss ++ dss) w1 R
variable {k : Nat} {f : Addr} {fd : FuncData} {ps : List Str} {c : Ct} {x : Str} {ds : List Value} {dvs : List V} {dss : List Sl}
theorem de_call (F : FnOk X.prog X.w X.K X.mg X.base CX0 k f fd ps (spN X.K c)) (hr : Room k X.A) (hg : Gl X x) (hm : X.mg x = some (.ref f)) (hk : PySem.W.keepIn X.K (.ref f) = true) (hb : Binds X.K fd ps ds) (hd : Vals dvs ds) (hds : ∀ D, SlA X.K D dvs dss) (ha : DA X W Z (e :: es) tr)
    (hdb : (x == ("__debug__" : Str)) = false := by decide) (hs : starEach (e :: es) X.env = (false, eval e X.env) :: starEach es X.env := by rfl) (hpl : (backTo pos (starEach es X.env)).any (·.1) = false := by rfl) :
    DE X W Z (.Call (.Name x p) (e :: es) [] pos) (dCall c dss tr) :=
  pe_weak (pe_call F hr hg hm hk hb hd pass0 ha hdb hs hpl) fun σ H Q ⟨ρ, w, D, R, rp, xo, h, fi⟩ => ⟨ρ, w, D, _, rp, xo, h, fun ss w1 vs D1 H1 h1 g1 s1 rs =>
    ⟨ss ++ dss, w1, D1, R, SlA.append rs (hds D1), s1, h1, fi.next g1⟩⟩
end
/-! ### what is walked -/
abbrev DTI := DEnv → Om → (List Sl → (Om → Prop) → Om → Prop) → Prop
/-- J yields xs, one by one, as long as ok holds of the store -/
structure DWalk (K : PySem.W.Frag) (J : It) (xs : List Sl) (ok : Om → Prop) (D0 : Hp) : Prop where
  goes : ∀ i w D H, i < xs.length → StOk K w D H → Same D0 D → ok w → J.go i H
  stops : ∀ w D H, StOk K w D H → Same D0 D → ok w → J.stop xs.length H
  yields : ∀ i w D H x H', i < xs.length → StOk K w D H → Same D0 D → ok w → J.yld i H x H' → ∃ D' s, Gr w D H w D' H' ∧ StOk K w D' H' ∧ xs[i]? = some s ∧ Vr K D' x s
def upI (K : PySem.W.Frag) (W : WX) (Z : DX) (t : DTI) : TI := fun σ H R => ∃ ρ w D R', Rp K σ ρ w D H ∧ XOk K W Z w D H ∧ t ρ w R' ∧ ∀ xs ok w' D' H' J, R' xs ok w' → Gr w D H w' D' H' → StOk K w' D' H' → DWalk K J xs ok D' → R J H'
abbrev DI (X : Cx) (W : WX) (Z : DX) (tg iter : Expr) (t : DTI) : Prop := PI X tg iter (upI X.K W Z t)
theorem pi_weak {X : Cx} {tg e : Expr} {t t' : TI} (h : PI X tg e t) (i : ∀ σ H R, t' σ H R → t σ H R) : PI X tg e t' := ⟨fun pins s σ H R I q => h.run pins s σ H R I (i σ H R q)⟩
section
variable {X : Cx} {W : WX} {Z : DX} {K : PySem.W.Frag} {e tge : Expr} {te : DTE} {ta : DTA} {pos p : Pos}
/-- over a walk whose items are there already -/
theorem dwalk_at {J : It} {vs : List V} {xs : List Sl} {ok : Om → Prop} {D0 : Hp} {G : Hp → Prop} (wk : Walk J vs.length G (YAt vs)) (hv : SlA K D0 vs xs) (hG : ∀ w D H, StOk K w D H → Same D0 D → ok w → G H) : DWalk K J xs ok D0 := by
  have hl : vs.length = xs.length := Paired.length hv
  refine ⟨fun i w D H hi st sd o => wk.goes i H (by omega) (hG w D H st sd o), fun w D H st sd o => by rw [← hl]; exact wk.stops H (hG w D H st sd o), fun i w D H x H' hi st sd o y => ?_⟩
  obtain ⟨rfl, hx⟩ := wk.yields i H x H' (by omega) (hG w D H st sd o) y
  obtain ⟨s, hs⟩ : ∃ s, xs[i]? = some s := ⟨xs[i], List.getElem?_eq_getElem hi⟩
  obtain ⟨v, h1, h2⟩ := SlA.get hv hs
  rw [hx] at h1
  cases h1
  exact ⟨D, s, Gr.refl _ _ _, st, hs, h2.mono sd⟩
/-- a list or a tuple: one of the store must stand still -/
def okOf (w : Om) : Sl → List Sl → Om → Prop
  | .adr a, xs => fun w' => w' a = some (.lst xs)
  | _, _ => fun _ => True
def dSeqI (te : DTE) : DTI := fun ρ w R => te ρ w fun s w1 => ∃ xs, sq w1 s = some xs ∧ R xs (okOf w1 s xs) w1
theorem pi_or {tg e : Expr} {t t' : TI} (h : PI X tg e t) (h' : PI X tg e t') : PI X tg e (fun σ H R => t σ H R ∨ t' σ H R) := ⟨fun pins s σ H R I q => q.elim (fun q => h.run pins s σ H R I q) (fun q => h'.run pins s σ H R I q)⟩
def iSeq (K : PySem.W.Frag) (te : TE) : TI := fun σ H R => te σ H fun x H1 => ∃ a, x = .ref a ∧ (((∃ xs, SqL K H1 a xs) ∧ R (Itl K a) H1) ∨ ((∃ xs, SqT K H1 a xs) ∧ R (Itt K a) H1))
theorem pi_seq {te : TE} (he : PE X e te) : PI X tge e (iSeq X.K te) := by
  refine ⟨fun pins s σ H R I h => ?_⟩
  refine thn (he.run pins s σ H _ I h) fun u s1 ⟨x, H1, I1, rx, a, ex, q⟩ => ?_
  subst ex
  cases rx
  rcases q with ⟨⟨xs, hx⟩, q⟩ | ⟨⟨xs, hx⟩, q⟩
  · obtain ⟨its, _, pl, _⟩ := I1.list hx
    exact wpAny_pyIter_list pl.isList (pi_one (tk := s1.toks) I1 _ (turn_list a _) ⟨_, Heap.get?_push_size _ rfl, rfl, rfl⟩ q)
  · obtain ⟨its, _, pl, _⟩ := I1.tuple hx
    exact wpAny_pyIter_tuple (show s1.heap.IsTuple a its.toArray from pl) (pi_one (tk := s1.toks) I1 _ (turn_tuple a _) ⟨_, Heap.get?_push_size _ rfl, rfl, rfl⟩ q)
theorem seq_walk {w : Om} {D H : Hp} {s : Sl} {z : V} {xs : List Sl} (st : StOk K w D H) (r : Vr K D z s) (h : sq w s = some xs) :
    ∃ a, z = .ref a ∧ (((∃ vs, SqL K H a vs) ∧ DWalk K (Itl K a) xs (okOf w s xs) D) ∨ ((∃ vs, SqT K H a vs) ∧ DWalk K (Itt K a) xs (okOf w s xs) D)) := by
  cases s with
  | scr ns =>
    cases h
    obtain ⟨a, rfl, q⟩ := r
    exact ⟨a, rfl, .inl ⟨⟨_, Same.seq st.dh q⟩, dwalk_at walk_list (ints_sl ns) fun w' D' H' st' sd _ => Same.seq (sd.trans st'.dh) q⟩⟩
  | adr a =>
    have hw := adr_inv h
    obtain ⟨vs, hH, hv⟩ := st.own a _ hw
    have r' : z = .ref a := r
    subst r'
    refine ⟨a, rfl, .inl ⟨⟨vs, SqL.of hH⟩, ?_⟩⟩
    -- the list's own values may be other ones that say the same
    refine ⟨fun i w' D' H' hi st' sd o => ?_, fun w' D' H' st' sd o => ?_, fun i w' D' H' x H2 hi st' sd o y => ?_⟩
    · obtain ⟨us, hU, hu⟩ := st'.own a _ o
      exact walk_list.goes i H' (by rw [Paired.length hu]; exact hi) (SqL.of (xs := us) hU)
    · obtain ⟨us, hU, hu⟩ := st'.own a _ o
      have := (walk_list (K := K) (a := a) (xs := us)).stops H' (SqL.of hU)
      rw [Paired.length hu] at this
      exact this
    · obtain ⟨us, hU, hu⟩ := st'.own a _ o
      obtain ⟨rfl, hx⟩ := (walk_list (K := K) (a := a) (xs := us)).yields i H' x H2 (by rw [Paired.length hu]; exact hi) (SqL.of hU) y
      obtain ⟨s, hs⟩ : ∃ s, xs[i]? = some s := ⟨xs[i], List.getElem?_eq_getElem hi⟩
      obtain ⟨v, h1, h2⟩ := SlA.get hu hs
      rw [hx] at h1
      cases h1
      exact ⟨D', s, Gr.refl _ _ _, st', hs, h2⟩
  | dat d =>
    cases d with
    | list ds =>
      cases h
      cases r with
      | lst hD hs => exact ⟨_, rfl, .inl ⟨⟨_, SqL.of (st.dh _ _ hD)⟩, dwalk_at walk_list hs.sl fun w' D' H' st' sd _ => SqL.of (st'.dh _ _ (sd _ _ hD))⟩⟩
    | tuple ds =>
      cases h
      cases r with
      | tup hD hs => exact ⟨_, rfl, .inr ⟨⟨_, sqT_mono st.dh hD⟩, dwalk_at walk_tup hs.sl fun w' D' H' st' sd _ => sqT_mono (sd.trans st'.dh) hD⟩⟩
    | none => cases h
    | bool _ => cases h
    | int _ => cases h
    | str _ => cases h
    | dict _ => cases h
theorem di_seq (he : DE X W Z e te) : DI X W Z tge e (dSeqI te) :=
  pi_weak (pi_seq he) fun σ H R ⟨ρ, w, D, R', rp, xo, h, f⟩ => ⟨ρ, w, D, _, rp, xo, h, fun s w1 z D1 H1 h1 g1 s1 r1 => by
    obtain ⟨xs, e, h1⟩ := h1
    obtain ⟨a, rfl, q⟩ := seq_walk s1 r1 e
    rcases q with ⟨q1, q2⟩ | ⟨q1, q2⟩
    · exact ⟨a, rfl, .inl ⟨q1, f xs _ w1 D1 H1 _ h1 g1 s1 q2⟩⟩
    · exact ⟨a, rfl, .inr ⟨q1, f xs _ w1 D1 H1 _ h1 g1 s1 q2⟩⟩⟩
/-- a text, sign by sign -/
def signs (z : Str) : List Sl := z.cps.toList.map fun c => .dat (.str ⟨#[c]⟩)
def dStrI (te : DTE) : DTI := fun ρ w R => te ρ w fun s w1 => ∃ z, s = .dat (.str z) ∧ R (signs z) (fun _ => True) w1
theorem di_str (he : DE X W Z e te) : DI X W Z tge e (dStrI te) :=
  pi_weak (pi_str he) fun σ H R ⟨ρ, w, D, R', rp, xo, h, f⟩ => ⟨ρ, w, D, _, rp, xo, h, fun s w1 v D1 H1 h1 g1 s1 r1 => by
    obtain ⟨z, rfl, h1⟩ := h1
    refine ⟨z, dr_str r1, f _ _ w1 D1 H1 _ h1 g1 s1 ?_⟩
    have hl : (signs z).length = z.cps.size := by simp [signs]
    refine ⟨fun i w' D' H' hi _ _ _ => walk_str.goes i H' (by omega) trivial, fun w' D' H' _ _ _ => by rw [hl]; exact walk_str.stops H' trivial, fun i w' D' H' x H2 hi st' sd o y => ?_⟩
    obtain ⟨rfl, c, hc, rfl⟩ := (walk_str (z := z)).yields i H' x H2 (by omega) trivial y
    exact ⟨D', .dat (.str ⟨#[c]⟩), Gr.refl _ _ _, st', by unfold signs; rw [List.getElem?_map, Array.getElem?_toList, hc]; rfl, .str _⟩⟩
/-- range(n), range(a, b) -/
def irange (lo : Int) (n : Nat) : List Sl := (List.range n).map fun i => .dat (.int (lo + (i : Nat)))
theorem dwalk_range {lo : Int} {n : Nat} {D : Hp} : DWalk K (Itr lo n) (irange lo n) (fun _ => True) D := by
  have hl : (irange lo n).length = n := by simp [irange]
  refine ⟨fun i w' D' H' hi _ _ _ => walk_range.goes i H' (by omega) trivial, fun w' D' H' _ _ _ => by rw [hl]; exact walk_range.stops H' trivial, fun i w' D' H' x H2 hi st' sd o y => ?_⟩
  obtain ⟨rfl, rfl⟩ := (walk_range (lo := lo) (n := n)).yields i H' x H2 (by omega) trivial y
  exact ⟨D', .dat (.int (lo + (i : Nat))), Gr.refl _ _ _, st', by unfold irange; rw [List.getElem?_map, List.getElem?_range (by omega)]; rfl, .int _⟩
def dRng1 (ta : DTA) : DTI := fun ρ w R => ta ρ w fun ss w1 => ∃ j : Int, ss = [.dat (.int j)] ∧ -(2 ^ 62) ≤ j ∧ j < 2 ^ 62 ∧ R (irange 0 j.toNat) (fun _ => True) w1
theorem di_range1 {a : Expr} (hg : Gl X "range") (hm : X.mg "range" = none) (ha : DA X W Z [a] ta) (hs : starEach [a] X.env = [(false, eval a X.env)] := by rfl) : DI X W Z tge (.Call (.Name "range" p) [a] [] pos) (dRng1 ta) :=
  pi_weak (pi_range1 hg hm ha hs) fun σ H R ⟨ρ, w, D, R', rp, xo, h, f⟩ => ⟨ρ, w, D, _, rp, xo, h, fun ss w1 vs D1 H1 h1 g1 s1 rs => by
    obtain ⟨j, rfl, h2, h3, h1⟩ := h1
    obtain ⟨v, rfl, r⟩ := sla1 rs
    cases dr_int r
    exact ⟨j, rfl, h2, h3, f _ _ w1 D1 H1 _ h1 g1 s1 dwalk_range⟩⟩
def dRng2 (ta : DTA) : DTI := fun ρ w R => ta ρ w fun ss w1 => ∃ i j : Int, ss = [.dat (.int i), .dat (.int j)] ∧ (-(2 ^ 62) ≤ i ∧ i < 2 ^ 62 ∧ -(2 ^ 62) ≤ j ∧ j < 2 ^ 62) ∧ R (irange i (j - i).toNat) (fun _ => True) w1
theorem di_range2 {a b : Expr} (hg : Gl X "range") (hm : X.mg "range" = none) (ha : DA X W Z [a, b] ta) (hs : starEach [a, b] X.env = [(false, eval a X.env), (false, eval b X.env)] := by rfl) (hs2 : starEach [b] X.env = [(false, eval b X.env)] := by rfl) : DI X W Z tge (.Call (.Name "range" p) [a, b] [] pos) (dRng2 ta) :=
  pi_weak (pi_range2 hg hm ha hs hs2) fun σ H R ⟨ρ, w, D, R', rp, xo, h, f⟩ => ⟨ρ, w, D, _, rp, xo, h, fun ss w1 vs D1 H1 h1 g1 s1 rs => by
    obtain ⟨i, j, rfl, h2, h1⟩ := h1
    obtain ⟨v, v', rfl, r, r'⟩ := sla2 rs
    cases dr_int r; cases dr_int r'
    exact ⟨i, j, rfl, h2, f _ _ w1 D1 H1 _ h1 g1 s1 dwalk_range⟩⟩
/-! ### for -/
def dLoop (ok : Om → Prop) (g : DTG) (tb : DTS) (F : DEnds) : List Sl → DEnv → Om → Prop
  | [] => fun ρ w => ok w ∧ F.nx ρ w
  | x :: xs => fun ρ w => ok w ∧ g x ρ w fun ρ' w' => tb { F with nx := dLoop ok g tb F xs, ct := dLoop ok g tb F xs, bk := F.nx } ρ' w'
def dFor (wi : DTI) (g : DTG) (tb : DTS) : DTS := fun F ρ w => wi ρ w fun xs ok w1 => dLoop ok g tb F xs ρ w1
theorem ds_for {tg iter : Expr} {body : List Stmt} {wi : DTI} {g : DTG} {tb : DTS} (hp : PassesOwn (model X.prog X.w) X.A X.env X.xe) (hc : X.calm = true) (hi : DI X W Z tg iter wi) (hg : DG X W Z tg g) (hb : DB X W Z body tb)
    (hs : ∀ x, foldedSetIterable iter X.env x = pure x := by intro _; rfl) : DS X W Z (.For tg iter body [] pos) (dFor wi g tb) :=
  ps_weak (ps_for hp hc hi hg hb hs) fun E σ H ⟨ρ, w, D, F, rp, xo, h, eo⟩ => ⟨ρ, w, D, _, rp, xo, h, fun xs ok w1 D1 H1 J h1 g1 s1 wk => by
    refine ⟨fun i m σ' H' => m = xs.length - i ∧ i ≤ xs.length ∧ ∃ ρ' w' D', Rp X.K σ' ρ' w' D' H' ∧ Gr w D H w' D' H' ∧ Same D1 D' ∧ dLoop ok g tb F (xs.drop i) ρ' w', ⟨xs.length, by simp, Nat.zero_le _, ρ, w1, D1, rp.next g1.dd s1, g1, Same.refl _, by rw [List.drop_zero]; exact h1⟩, ?_⟩
    rintro i m σ' H' ⟨rfl, hi, ρ', w', D', rp', g', sd, hl⟩
    by_cases hlt : i < xs.length
    · rw [List.drop_eq_getElem_cons hlt] at hl
      obtain ⟨ho, hl⟩ := hl
      refine .inr ⟨wk.goes i w' D' H' hlt rp'.st sd ho, fun σ2 H2 => ∃ ρ2 w2 D2, Rp X.K σ2 ρ2 w2 D2 H2 ∧ Gr w D H w2 D2 H2 ∧ Same D1 D2 ∧ dLoop ok g tb F (xs.drop (i + 1)) ρ2 w2, fun σ2 H2 ⟨ρ2, w2, D2, r2, g2, sd2, h2⟩ => ⟨xs.length - (i + 1), by omega, rfl, hlt, ρ2, w2, D2, r2, g2, sd2, h2⟩, fun x H2 y => ?_⟩
      obtain ⟨D2, s, g2, st2, hs, r2⟩ := wk.yields i w' D' H' x H2 hlt rp'.st sd ho y
      have es : s = xs[i] := by
        rw [List.getElem?_eq_getElem hlt] at hs
        exact (Option.some.inj hs).symm
      subst es
      refine ⟨xs[i], ρ', w', D2, _, rp'.next g2.dd st2, xo.next (g'.trans g2), r2, hl, fun ρ3 w3 σ3 D3 H3 h3 g3 r3 => ?_⟩
      have gg := (g'.trans g2).trans g3
      have sdd := (sd.trans g2.dd).trans g3.dd
      refine ⟨ρ3, w3, D3, _, r3, xo.next gg, h3, ?_, (eo.next gg).rt, (eo.next gg).nx, ?_⟩
      · exact fun ρ4 w4 σ4 D4 H4 h4 g4 r4 => ⟨ρ4, w4, D4, r4, gg.trans g4, sdd.trans g4.dd, h4⟩
      · exact fun ρ4 w4 σ4 D4 H4 h4 g4 r4 => ⟨ρ4, w4, D4, r4, gg.trans g4, sdd.trans g4.dd, h4⟩
    · have e : i = xs.length := by omega
      subst e
      rw [List.drop_length] at hl
      exact .inl ⟨wk.stops w' D' H' rp'.st sd hl.1, eo.nx ρ' w' σ' D' H' hl.2 g' rp'⟩⟩
/-- a loop by its invariant -/
theorem loop_inv {ok : Om → Prop} {g : DTG} {tb : DTS} {F : DEnds} {xs : List Sl} {ρ : DEnv} {w : Om} (I : List Sl → DEnv → Om → Prop) (h0 : I xs ρ w) (hok : ∀ r ρ w, I r ρ w → ok w)
    (hs : ∀ x r ρ w, I (x :: r) ρ w → (∀ ρ' w', I r ρ' w' → dLoop ok g tb F r ρ' w') → g x ρ w fun ρ' w' => tb { F with nx := dLoop ok g tb F r, ct := dLoop ok g tb F r, bk := F.nx } ρ' w') (hd : ∀ ρ w, I [] ρ w → F.nx ρ w) : dLoop ok g tb F xs ρ w := by
  induction xs generalizing ρ w with
  | nil => exact ⟨hok _ _ _ h0, hd ρ w h0⟩
  | cons x r ih => exact ⟨hok _ _ _ h0, hs x r ρ w h0 fun ρ' w' h => ih h⟩
/-! ### while -/
def dWhile (c : DTT) (tb : DTS) : DTS := fun F ρ w => ∃ I : Nat → DEnv → Om → Prop, (∃ m, I m ρ w) ∧ ∀ m ρ w, I m ρ w →
  c ρ w fun b w1 => if b = true then tb { F with nx := fun ρ' w' => ∃ m', m' < m ∧ I m' ρ' w', ct := fun ρ' w' => ∃ m', m' < m ∧ I m' ρ' w', bk := F.nx } ρ w1 else F.nx ρ w1
theorem ds_while {c : Expr} {body : List Stmt} {tc : DTT} {tb : DTS} (hp : PassesOwn (model X.prog X.w) X.A X.env X.xe) (hc : DT X W Z c tc) (hb : DB X W Z body tb) : DS X W Z (.While c body [] pos) (dWhile tc tb) :=
  ps_weak (ps_while hp hc hb) fun E σ H ⟨ρ, w, D, F, rp, xo, ⟨I, ⟨m0, h0⟩, h⟩, eo⟩ => by
    refine ⟨fun m σ' H' => ∃ ρ' w' D', Rp X.K σ' ρ' w' D' H' ∧ Gr w D H w' D' H' ∧ I m ρ' w', ⟨m0, ρ, w, D, rp, Gr.refl _ _ _, h0⟩, ?_⟩
    rintro m σ' H' ⟨ρ', w', D', rp', g', hI⟩
    refine ⟨ρ', w', D', _, rp', xo.next g', h m ρ' w' hI, fun b w2 D2 H2 h2 g2 s2 => ?_⟩
    have gg := g'.trans g2
    have rp2 := rp'.next g2.dd s2
    cases b with
    | false =>
      rw [if_neg Bool.false_ne_true] at h2
      exact iteF (eo.nx ρ' w2 σ' D2 H2 h2 gg rp2)
    | true =>
      rw [if_pos rfl] at h2
      refine iteT ?_
      refine ⟨fun σ3 H3 => ∃ m', m' < m ∧ ∃ ρ3 w3 D3, Rp X.K σ3 ρ3 w3 D3 H3 ∧ Gr w D H w3 D3 H3 ∧ I m' ρ3 w3, fun σ3 H3 q => q, ρ', w2, D2, _, rp2, xo.next gg, h2, ?_, (eo.next gg).rt, (eo.next gg).nx, ?_⟩
      · exact fun ρ4 w4 σ4 D4 H4 ⟨m', hm, h4⟩ g4 r4 => ⟨m', hm, ρ4, w4, D4, r4, gg.trans g4, h4⟩
      · exact fun ρ4 w4 σ4 D4 H4 ⟨m', hm, h4⟩ g4 r4 => ⟨m', hm, ρ4, w4, D4, r4, gg.trans g4, h4⟩
end
end DL

set_option Elab.async false
set_option linter.all false
set_option maxRecDepth 100000
set_option maxHeartbeats 4000000
namespace DL
open PySem PySem.Spec PyProof.Rows L2
/-! ### targets of a comprehension: they touch the block's own slots alone -/
def wipeD (ρ : DEnv) : List Nat → DEnv
  | [] => ρ
  | v :: vs => (wipeD ρ vs).set v none
theorem wipeD_length (ρ : DEnv) : ∀ vs : List Nat, (wipeD ρ vs).length = ρ.length
  | [] => rfl
  | v :: vs => by unfold wipeD; rw [List.length_set, wipeD_length ρ vs]
theorem wipe_at {σ : L2.St} {i : Nat} : ∀ {vs : List Nat}, i ∈ vs → (wipe σ vs)[i]? = if i < σ.length then some none else none
  | v :: vs, h => by
    unfold wipe
    by_cases e : v = i
    · subst e
      by_cases hl : v < σ.length
      · rw [List.getElem?_set_self (by rw [wipe_length]; exact hl), if_pos hl]
      · rw [List.getElem?_eq_none (by rw [List.length_set, wipe_length]; omega), if_neg hl]
    · rw [List.getElem?_set_ne e]
      exact wipe_at ((List.mem_cons.mp h).resolve_left fun z => e z.symm)
theorem wipe_set {σ : L2.St} {i : Nat} {x : Option V} {vs : List Nat} (h : i ∈ vs) : wipe (σ.set i x) vs = wipe σ vs := by
  apply List.ext_getElem?
  intro j
  by_cases hj : j ∈ vs
  · rw [wipe_at hj, wipe_at hj, List.length_set]
  · rw [wipe_out hj, wipe_out hj, List.getElem?_set_ne (fun e => hj (by rw [← e]; exact h))]
theorem wipe_wipe {σ : L2.St} {vs : List Nat} : wipe (wipe σ vs) vs = wipe σ vs := by
  apply List.ext_getElem?
  intro j
  by_cases hj : j ∈ vs
  · rw [wipe_at hj, wipe_at hj, wipe_length]
  · rw [wipe_out hj, wipe_out hj]
theorem Rp.wipe {K : PySem.W.Frag} {σ : L2.St} {ρ : DEnv} {w : Om} {D H : Hp} (r : Rp K σ ρ w D H) : ∀ vs : List Nat, Rp K (L2.wipe σ vs) (wipeD ρ vs) w D H
  | [] => r
  | v :: vs => by
    have ih := Rp.wipe r vs
    refine ⟨ih.st, by unfold wipeD L2.wipe; rw [List.length_set, List.length_set]; exact ih.len, fun i s e => ?_⟩
    unfold wipeD at e
    unfold L2.wipe
    by_cases z : v = i
    · subst z
      by_cases hl : v < (wipeD ρ vs).length
      · rw [List.getElem?_set_self hl] at e; cases e
      · rw [List.getElem?_eq_none (by rw [List.length_set]; omega)] at e; cases e
    · rw [List.getElem?_set_ne z] at e ⊢
      exact ih.slot i s e
def NxV (K : PySem.W.Frag) (vs : List Nat) (σ : L2.St) (w : Om) (D H : Hp) (f : DEnv → Om → Prop) (q : L2.St → Hp → Prop) : Prop := ∀ ρ' w' σ' D' H', f ρ' w' → Gr w D H w' D' H' → Rp K σ' ρ' w' D' H' → wipe σ' vs = wipe σ vs → q σ' H'
def upV (K : PySem.W.Frag) (W : WX) (Z : DX) (vs : List Nat) (g : DTG) : TG := fun v σ H Q => ∃ s ρ w D R, Rp K σ ρ w D H ∧ XOk K W Z w D H ∧ Vr K D v s ∧ g s ρ w R ∧ NxV K vs σ w D H R Q
def upVs (K : PySem.W.Frag) (W : WX) (Z : DX) (vs : List Nat) (g : DTGs) : TGs := fun us σ H Q => ∃ ss ρ w D R, Rp K σ ρ w D H ∧ XOk K W Z w D H ∧ SlA K D us ss ∧ g ss ρ w R ∧ NxV K vs σ w D H R Q
abbrev DV (X : Cx) (W : WX) (Z : DX) (vs : List Nat) (e : Expr) (g : DTG) : Prop := PG X e (upV X.K W Z vs g)
abbrev DVs (X : Cx) (W : WX) (Z : DX) (vs : List Nat) (es : List Expr) (g : DTGs) : Prop := PGs X es (upVs X.K W Z vs g)
section
variable {X : Cx} {W : WX} {Z : DX} {K : PySem.W.Frag} {vs : List Nat} {a e tge : Expr} {te : DTE} {pos : Pos} {es : List Expr} {tg : DTG} {tgs : DTGs}
theorem dvt_name {i : Nat} {x : Str} (hv : i ∈ vs) (hN : X.N.Nodup) (hi : X.N[i]? = some x) (hx : Loc X.env.scope x) (hf : X.fn x = true ∨ X.env.scope.names.lookup x = some .local := by first | exact .inl rfl | exact .inr rfl | assumption) : DV X W Z vs (.Name x pos) (dName i) :=
  pg_weak (pg_name hN hi hx hf) fun v σ H Q ⟨s, ρ, w, D, R, rp, xo, r, h, n⟩ => n _ w _ D H h (Gr.refl _ _ _) (rp.set i r) (wipe_set hv)
theorem dvs_nil : DVs X W Z vs [] dGNil := pgs_weak pgs_nil fun us σ H Q ⟨ss, ρ, w, D, R, rp, xo, r, ⟨h0, h⟩, n⟩ => by
  subst h0
  cases r
  exact ⟨rfl, n ρ w σ D H h (Gr.refl _ _ _) rp rfl⟩
theorem dvs_cons (h1 : DV X W Z vs e tg) (h2 : DVs X W Z vs es tgs) (hs : (assignEach (e :: es) X.env).map (·.2) = assign e X.env :: (assignEach es X.env).map (·.2) := by rfl) : DVs X W Z vs (e :: es) (dGCons tg tgs) :=
  pgs_weak (pgs_cons h1 h2 hs) fun us σ H Q ⟨ss, ρ, w, D, R, rp, xo, r, h, n⟩ => by
    obtain ⟨s, sr, rfl, h⟩ := h
    cases r with
    | cons r0 rr =>
      exact ⟨_, _, rfl, s, ρ, w, D, _, rp, xo, r0, h, fun ρ1 w1 σ1 D1 H1 h1 g1 r1 ew => ⟨sr, ρ1, w1, D1, R, r1, xo.next g1, SlA.mono g1.dd rr, h1, fun ρ2 w2 σ2 D2 H2 h2 g2 r2 ew2 => n ρ2 w2 σ2 D2 H2 h2 (g1.trans g2) r2 (ew2.trans ew)⟩⟩
theorem dvt_tup {k n : Nat} (hc : X.calm = true) (h : DVs X W Z vs es tgs) (hn : (assignEach es X.env).length = n := by rfl) (hst : (assignEach es X.env).findIdx? (·.1) = none := by rfl) : DV X W Z vs (.Tuple es k pos) (dGTup n tgs) :=
  pg_weak (pg_or (pg_lst hc h hn hst) (pg_tup hc h hn hst)) fun v σ H Q ⟨s, ρ, w, D, R, rp, xo, r, ⟨xs, e, hl, h⟩, n⟩ => by
    obtain ⟨p, us, rfl, hq, hv⟩ := sq_ok rp.st r e
    have hlen : us.length = _ := (Paired.length hv).trans hl
    rcases hq with hq | hq
    · exact .inl ⟨p, us, rfl, hq, hlen, xs, ρ, w, D, R, rp, xo, hv, h, n⟩
    · exact .inr ⟨p, us, rfl, hq, hlen, xs, ρ, w, D, R, rp, xo, hv, h, n⟩
/-- the star's own target within a list of targets -/
theorem dgs_starred {p : Pos} (h : DGs X W Z (a :: es) tgs) (e : (assignEach (.Starred a p :: es) X.env).map (·.2) = (assignEach (a :: es) X.env).map (·.2) := by rfl) : DGs X W Z (.Starred a p :: es) tgs :=
  ⟨fun pins s σ H us vs Q I r q => by rw [e]; exact h.run pins s σ H us vs Q I r q⟩
/-! ### list comprehensions -/
def dYes : DTT := fun _ w R => R true w
abbrev DTs (X : Cx) (W : WX) (Z : DX) (ifs : List Expr) (t : DTT) : Prop := PTs X ifs (upT X.K W Z t)
theorem pts_weak {ifs : List Expr} {t t' : TT} (h : PTs X ifs t) (i : ∀ σ H Q, t' σ H Q → t σ H Q) : PTs X ifs t' := ⟨fun pins s σ H Q I q => h.run pins s σ H Q I (i σ H Q q)⟩
theorem dts_nil : DTs X W Z [] dYes := pts_weak pts_nil fun σ H Q ⟨ρ, w, D, R, rp, xo, h, f⟩ => f true w D H h (Gr.refl _ _ _) rp.st
theorem dts_one {c : Expr} {t : DTT} (h : DT X W Z c t) : DTs X W Z [c] t := pts_one h
def dLcL (ok : Om → Prop) (g : DTG) (tt : DTT) (te : DTE) (ρ : DEnv) (k : List Sl → Om → Prop) : List Sl → List Sl → Om → Prop
  | [] => fun acc w => ok w ∧ k acc w
  | x :: xs => fun acc w => ok w ∧ g x ρ w fun ρ2 w2 => tt ρ2 w2 fun b w3 => if b = true then te ρ2 w3 fun y w4 => acc.length < sizeLine ∧ dLcL ok g tt te ρ k xs (acc ++ [y]) w4 else dLcL ok g tt te ρ k xs acc w3
def dLc (wi : DTI) (g : DTG) (tt : DTT) (te : DTE) (vs : List Nat) : DTE := fun ρ w R => wi ρ w fun xs ok w1 => dLcL ok g tt te (wipeD ρ vs) (fun acc w2 => ∀ p, w2 p = none → R (.adr p) (put w2 p (.lst acc))) xs [] w1
theorem up_lc {wi : DTI} {g : DTG} {tt : DTT} {te : DTE} (σ : L2.St) (H : Hp) (Q : VK) (h : up K W Z (dLc wi g tt te vs) σ H Q) : tLc (upI K W Z wi) (upV K W Z vs g) (upT K W Z tt) (up K W Z te) vs σ H Q := by
  obtain ⟨ρ, w, D, R, rp, xo, h, f⟩ := h
  refine ⟨ρ, w, D, _, rp, xo, h, fun xs ok w1 D1 H1 J h1 g1 s1 wk L hL => ?_⟩
  have wL : w1 L = none := s1.freeW hL
  have dL : D1 L = none := s1.freeD hL
  have HL : H L = none := by
    cases e : H L with
    | none => rfl
    | some o => exact absurd hL (g1.dm L (by rw [e]; intro z; cases z))
  refine ⟨fun i m H' => m = xs.length - i ∧ i ≤ xs.length ∧ ∃ w' D' acc vacc, StOk K w' D' H' ∧ Gr w D H w' D' H' ∧ Same D1 D' ∧ w' L = none ∧ D' L = none ∧ H' L = some (.lst vacc) ∧ SlA K D' vacc acc ∧ dLcL ok g tt te (wipeD ρ vs) (fun acc w2 => ∀ p, w2 p = none → R (.adr p) (put w2 p (.lst acc))) (xs.drop i) acc w',
    ⟨xs.length, by simp, Nat.zero_le _, w1, D1, [], [], s1.junk wL dL, g1.junk HL, Same.refl _, wL, dL, upd_same, .nil, by rw [List.drop_zero]; exact h1⟩, ?_⟩
  rintro i m H' ⟨rfl, hi, w', D', acc, vacc, st', g', sd, nw, nd, hl, hv, hq⟩
  by_cases hlt : i < xs.length
  · rw [List.drop_eq_getElem_cons hlt] at hq
    obtain ⟨ho, hq⟩ := hq
    refine .inr ⟨wk.goes i w' D' H' hlt st' sd ho, fun H2 => ∃ w2 D2 acc vacc, StOk K w2 D2 H2 ∧ Gr w D H w2 D2 H2 ∧ Same D1 D2 ∧ w2 L = none ∧ D2 L = none ∧ H2 L = some (.lst vacc) ∧ SlA K D2 vacc acc ∧ dLcL ok g tt te (wipeD ρ vs) (fun acc w2 => ∀ p, w2 p = none → R (.adr p) (put w2 p (.lst acc))) (xs.drop (i + 1)) acc w2,
      fun H2 q => ⟨xs.length - (i + 1), by omega, rfl, hlt, q⟩, fun x H2 y => ?_⟩
    obtain ⟨D2, s, g2, st2, hs, r2⟩ := wk.yields i w' D' H' x H2 hlt st' sd ho y
    have es : s = xs[i] := by
      rw [List.getElem?_eq_getElem hlt] at hs
      exact (Option.some.inj hs).symm
    subst es
    have nn : ∀ {wx : Om} {Dx Hx : Hp}, Gr w' D' H' wx Dx Hx → wx L = none ∧ Dx L = none ∧ Hx L = some (.lst vacc) := fun gx =>
      have hne : H' L ≠ none := by rw [hl]; intro z; cases z
      ⟨gx.nw L hne nw, gx.nd L hne nw nd, gx.fr L _ hl nw⟩
    have rpw : Rp K (L2.wipe σ vs) (wipeD ρ vs) w' D2 H2 := (rp.wipe vs).next (g'.dd.trans g2.dd) st2
    refine ⟨xs[i], wipeD ρ vs, w', D2, _, rpw, xo.next (g'.trans g2), r2, hq, fun ρ3 w3 σ3 D3 H3 h3 g3 r3 ew => ⟨ew.trans wipe_wipe, ?_⟩⟩
    have g23 := g2.trans g3
    refine ⟨ρ3, w3, D3, _, r3, xo.next (g'.trans g23), h3, fun b w4 D4 H4 h4 g4 s4 => ?_⟩
    have g24 := g23.trans g4
    cases b with
    | false =>
      rw [if_neg Bool.false_ne_true] at h4
      obtain ⟨n1, n2, n3⟩ := nn g24
      exact iteF ⟨w4, D4, acc, vacc, s4, g'.trans g24, sd.trans g24.dd, n1, n2, n3, SlA.mono g24.dd hv, h4⟩
    | true =>
      rw [if_pos rfl] at h4
      refine iteT ⟨ρ3, w4, D4, _, r3.next g4.dd s4, xo.next (g'.trans g24), h4, fun y w5 z D5 H5 h5 g5 s5 r5 => ?_⟩
      have g25 := g24.trans g5
      obtain ⟨n1, n2, n3⟩ := nn g25
      have hlen : vacc.length = acc.length := Paired.length hv
      exact ⟨vacc, n3, by rw [hlen]; exact h5.1, w5, D5, acc ++ [y], vacc ++ [z], s5.junk n1 n2, (g'.trans g25).junk HL, sd.trans g25.dd, n1, n2, upd_same, SlA.snoc (SlA.mono g25.dd hv) r5, h5.2⟩
  · have e : i = xs.length := by omega
    subst e
    rw [List.drop_length] at hq
    refine .inl ⟨wk.stops w' D' H' st' sd hq.1, ?_⟩
    have st2 : StOk K (put w' L (.lst acc)) D' H' := by
      refine ⟨st'.dh, fun a o q => ?_, fun a o q => ?_⟩
      · by_cases z : a = L
        · subst z; rw [put_same] at q; cases q; exact ⟨vacc, hl, hv⟩
        · rw [put_ne z] at q; exact st'.own a o q
      · by_cases z : a = L
        · subst z; exact nd
        · rw [put_ne z] at q; exact st'.sep a o q
    have g2 : Gr w D H (put w' L (.lst acc)) D' H' := ⟨g'.dd, g'.fr, fun a q n => by
      have : a ≠ L := fun z => q (by rw [z]; exact HL)
      rw [put_ne this]; exact g'.nw a q n, g'.nd, g'.dm⟩
    exact f (.adr L) _ (.ref L) D' H' (hq.2 L nw) g2 st2 rfl
theorem de_lc {elt tg iter : Expr} {ifs : List Expr} {scope : Scope} {own : List (Str × Nat)} {wi : DTI} {g : DTG} {tt : DTT} {te : DTE} (hc : X.calm = true) (hN : X.N.Nodup) (hi : DI X W Z tg iter wi) (ok : BlkOk X.N X.env.scope scope own)
    (hg : ∀ (s : Shared) (H : Hp) (C : Addr) (cl : List (Str × Addr)) (fp : List Addr), DV (X.blk s H scope (compEnvC scope cl C X.env) fp) W Z (own.map (·.2)) tg g) (ht : ∀ (s : Shared) (H : Hp) (C : Addr) (cl : List (Str × Addr)) (fp : List Addr), DTs (X.blk s H scope (compEnvC scope cl C X.env) fp) W Z ifs tt)
    (he : ∀ (s : Shared) (H : Hp) (C : Addr) (cl : List (Str × Addr)) (fp : List Addr), DE (X.blk s H scope (compEnvC scope cl C X.env) fp) W Z elt te) (hs : ∀ x, foldedSetIterable iter X.env x = pure x := by intro _; rfl) :
    DE X W Z (.ListComp elt [⟨tg, iter, ifs, 0⟩] scope pos) (dLc wi g tt te (own.map (·.2))) := pe_weak (pe_lc hc hN hi ok hg ht he hs) fun σ H Q h => up_lc σ H Q h
theorem ds_setLc {i : Nat} {y : Str} {py spos : Pos} {elt tg iter : Expr} {ifs : List Expr} {scope : Scope} {own : List (Str × Nat)} {wi : DTI} {g : DTG} {tt : DTT} {te : DTE} (hc : X.calm = true) (hN : X.N.Nodup) (hy : X.N[i]? = some y) (hyl : X.env.scope.names.lookup y = some .local)
    (hsw : swapsWith (.ListComp elt [⟨tg, iter, ifs, 0⟩] scope pos) (some (.Name y py)) spos.line X.env = pure true) (hi : DI X W Z tg iter wi) (ok : BlkOk X.N X.env.scope scope own)
    (hg : ∀ (s : Shared) (H : Hp) (C : Addr) (cl : List (Str × Addr)) (fp : List Addr), DV (X.blk s H scope (compEnvC scope cl C X.env) fp) W Z (own.map (·.2)) tg g) (ht : ∀ (s : Shared) (H : Hp) (C : Addr) (cl : List (Str × Addr)) (fp : List Addr), DTs (X.blk s H scope (compEnvC scope cl C X.env) fp) W Z ifs tt)
    (he : ∀ (s : Shared) (H : Hp) (C : Addr) (cl : List (Str × Addr)) (fp : List Addr), DE (X.blk s H scope (compEnvC scope cl C X.env) fp) W Z elt te) (hs : ∀ x, foldedSetIterable iter X.env x = pure x := by intro _; rfl) :
    DS X W Z (.Assign [.Name y py] (.ListComp elt [⟨tg, iter, ifs, 0⟩] scope pos) spos) (dAsg (dLc wi g tt te (own.map (·.2))) (dName i)) :=
  ps_weak (ps_setLc hc hN hy hyl hsw hi ok hg ht he hs) fun E σ H ⟨ρ, w, D, F, rp, xo, h, eo⟩ => up_lc σ H _ ⟨ρ, w, D, _, rp, xo, h, fun s w1 v D1 H1 h1 g1 s1 r1 => eo.nx _ w1 _ D1 H1 h1 g1 ((rp.next g1.dd s1).set i r1)⟩
end
end DL

set_option Elab.async false
set_option linter.all false
set_option maxRecDepth 100000
set_option maxHeartbeats 4000000
namespace DL
open PySem PySem.Spec PyProof.Rows L2
section
variable {X : Cx} {W : WX} {Z : DX} {K : PySem.W.Frag} {a b c e : Expr} {ta tb te : DTE} {pos : Pos} {es : List Expr} {tr : DTA}
/-! ### order: whole numbers, texts -/
def ordS (ci : Int → Int → Bool) (cs : List Nat → List Nat → Bool) : G2 := fun _ x y => match x, y with
  | .dat (.int i), .dat (.int j) => some (.v (.dat (.bool (ci i j))))
  | .dat (.str i), .dat (.str j) => some (.v (.dat (.bool (cs i.cps.toList j.cps.toList))))
  | _, _ => none
abbrev ltS : G2 := ordS (fun i j => decide (i < j)) fun i j => decide (i < j)
abbrev leS : G2 := ordS (fun i j => decide (i ≤ j)) fun i j => !decide (j < i)
abbrev gtS : G2 := ordS (fun i j => decide (j < i)) fun i j => decide (j < i)
abbrev geS : G2 := ordS (fun i j => decide (j ≤ i)) fun i j => !decide (i < j)
def rOrd (ci : Int → Int → Bool) (cs : List Nat → List Nat → Bool) : R2 := fun x y H Q => (rI0 (fun i j => V.bl (ci i j)) x y H Q) ∨ (∃ i j, x = .str i ∧ y = .str j ∧ Q (.bl (cs i.cps.toList j.cps.toList)) H)
theorem ov_ord {ci : Int → Int → Bool} {cs : List Nat → List Nat → Bool} : OpV K (rOrd ci cs) (ordS ci cs) := fun x y v u w D H o R Q st rx ry e ho f => by
  unfold ordS at e
  split at e
  · cases e
    exact .inl ⟨_, _, dr_int rx, dr_int ry, f.d st ho (.bl _)⟩
  · cases e
    exact .inr ⟨_, _, dr_str rx, dr_str ry, f.d st ho (.bl _)⟩
  · cases e
theorem op_ltO : OpR X (compareOp .Lt) (rOrd (fun i j => decide (i < j)) fun i j => decide (i < j)) := OpR.or op_lt op_lt_str
theorem op_leO : OpR X (compareOp .LtE) (rOrd (fun i j => decide (i ≤ j)) fun i j => !decide (j < i)) := OpR.or op_le op_le_str
theorem op_gtO : OpR X (compareOp .Gt) (rOrd (fun i j => decide (j < i)) fun i j => decide (j < i)) := OpR.or op_gt op_gt_str
theorem op_geO : OpR X (compareOp .GtE) (rOrd (fun i j => decide (j ≤ i)) fun i j => !decide (i < j)) := OpR.or op_ge op_ge_str
theorem de_lt (ha : DE X W Z a ta) (hb : DE X W Z b tb) : DE X W Z (.Compare a [.Lt] [b] pos) (dOp ltS ta tb) := de_cmp op_ltO ov_ord ha hb (nomark _)
theorem de_le (ha : DE X W Z a ta) (hb : DE X W Z b tb) : DE X W Z (.Compare a [.LtE] [b] pos) (dOp leS ta tb) := de_cmp op_leO ov_ord ha hb (nomark _)
theorem de_gt (ha : DE X W Z a ta) (hb : DE X W Z b tb) : DE X W Z (.Compare a [.Gt] [b] pos) (dOp gtS ta tb) := de_cmp op_gtO ov_ord ha hb (nomark _)
theorem de_ge (ha : DE X W Z a ta) (hb : DE X W Z b tb) : DE X W Z (.Compare a [.GtE] [b] pos) (dOp geS ta tb) := de_cmp op_geO ov_ord ha hb (nomark _)
theorem dt_lt (ha : DE X W Z a ta) (hb : DE X W Z b tb) : DT X W Z (.Compare a [.Lt] [b] pos) (dTst (dOp ltS ta tb)) := dt_cmp op_ltO ov_ord ha hb (nomark _)
theorem dt_le (ha : DE X W Z a ta) (hb : DE X W Z b tb) : DT X W Z (.Compare a [.LtE] [b] pos) (dTst (dOp leS ta tb)) := dt_cmp op_leO ov_ord ha hb (nomark _)
theorem dt_gt (ha : DE X W Z a ta) (hb : DE X W Z b tb) : DT X W Z (.Compare a [.Gt] [b] pos) (dTst (dOp gtS ta tb)) := dt_cmp op_gtO ov_ord ha hb (nomark _)
theorem dt_ge (ha : DE X W Z a ta) (hb : DE X W Z b tb) : DT X W Z (.Compare a [.GtE] [b] pos) (dTst (dOp geS ta tb)) := dt_cmp op_geO ov_ord ha hb (nomark _)
/-! ### in, not in: a flat thing in a list or tuple of flat ones; a sign in a text -/
def flatD : PyData → Bool
  | .none => true
  | .bool _ => true
  | .int _ => true
  | .str _ => true
  | _ => false
def inD (n : Bool) (d : PyData) (ds : List PyData) : Bool := if n then !(ds.any fun y => PyData.eqv y d) else ds.any fun y => PyData.eqv y d
def inS (n : Bool) : G2 := fun w x y => match x, y with
  | .dat (.str z), .dat (.str t) => match z.cps.toList with
    | [c] => some (.v (.dat (.bool (if n then !decide (c ∈ t.cps.toList) else decide (c ∈ t.cps.toList)))))
    | _ => none
  | .dat d, y => (sq w y).bind fun xs => (xs.mapM datOf).bind fun ds => if flatD d && ds.all flatD then some (.v (.dat (.bool (inD n d ds)))) else none
  | _, _ => none
def rInAll (K : PySem.W.Frag) (n : Bool) : R2 := fun x y H Q => rIn K n x y H Q ∨ (∃ (c : Nat) (z : Str), x = .str ⟨#[c]⟩ ∧ y = .str z ∧ Q (.bl (if n then !decide (c ∈ z.cps.toList) else decide (c ∈ z.cps.toList))) H)
theorem op_inAll : OpR X (compareOp .In) (rInAll X.K false) := OpR.or op_in_seq (fun pins s σ H x y v u Q I rx ry h => op_in_sign pins s σ H x y v u Q I rx ry h)
theorem op_notInAll : OpR X (compareOp .NotIn) (rInAll X.K true) := OpR.or op_notIn_seq (fun pins s σ H x y v u Q I rx ry h => op_notIn_sign pins s σ H x y v u Q I rx ry h)
theorem flat_of {D : Hp} {v : V} {d : PyData} (r : Dr K D v d) (h : flatD d = true) : flatV v = true := by
  cases r <;> first | rfl | cases h
theorem eqV_of {D : Hp} {v u : V} {d e : PyData} (r : Dr K D v d) (s : Dr K D u e) (h : flatD d = true) (h' : flatD e = true) : eqV v u = PyData.eqv d e := by
  cases r <;> first | (cases h; done) | (cases s <;> first | (cases h'; done) | (unfold PyData.eqv; rfl) | rfl)
theorem inV_of {D : Hp} {v : V} {d : PyData} (r : Dr K D v d) (h : flatD d = true) : ∀ {vs : List V} {ds : List PyData}, DrA K D vs ds → ds.all flatD = true → vs.all flatV = true ∧ inV v vs = ds.any fun y => PyData.eqv y d
  | _, _, .nil, _ => ⟨rfl, rfl⟩
  | _, _, .cons q t, ha => by
    rw [List.all_cons, Bool.and_eq_true] at ha
    obtain ⟨h1, h2⟩ := inV_of r h t ha.2
    refine ⟨by rw [List.all_cons, flat_of q ha.1, h1]; rfl, ?_⟩
    unfold inV at h2 ⊢
    rw [List.any_cons, List.any_cons, h2, eqV_of q r ha.1 h]
theorem str_one {z : Str} {c : Nat} (h : z.cps.toList = [c]) : z = ⟨#[c]⟩ := by
  obtain ⟨cps⟩ := z
  have : cps = #[c] := by
    apply Array.toList_inj.mp
    rw [h]
  rw [this]
theorem ov_in {n : Bool} : OpV K (rInAll K n) (inS n) := fun x y v u w D H o R Q st rx ry e ho f => by
  have sc : ∀ d, x = .dat d → ((sq w y).bind fun xs => (xs.mapM datOf).bind fun ds => if flatD d && ds.all flatD then some (Ou.v (.dat (.bool (inD n d ds)))) else none) = some o → rInAll K n v u H Q := fun d ex e2 => by
    clear e
    subst ex
    cases q : sq w y with
    | none => rw [q] at e2; cases e2
    | some xs =>
      rw [q] at e2
      have e3 : ((xs.mapM datOf).bind fun ds => if flatD d && ds.all flatD then some (Ou.v (.dat (.bool (inD n d ds)))) else none) = some o := e2
      cases q2 : xs.mapM datOf with
      | none => rw [q2] at e3; cases e3
      | some ds =>
        rw [q2] at e3
        have e4 : (if flatD d && ds.all flatD then some (Ou.v (.dat (.bool (inD n d ds)))) else none) = some o := e3
        by_cases hf : (flatD d && ds.all flatD) = true
        · rw [if_pos hf] at e4
          cases e4
          rw [Bool.and_eq_true] at hf
          have ex := mapM_dat q2
          subst ex
          obtain ⟨p, us, rfl, hq, hv⟩ := sq_ok st ry q
          obtain ⟨h1, h2⟩ := inV_of rx hf.1 (SlA.dat hv) hf.2
          refine .inl ⟨p, us, rfl, hq, flat_of rx hf.1, h1, ?_⟩
          rw [h2]
          exact f.d st ho (.bl _)
        · rw [if_neg hf] at e4; cases e4
  unfold inS at e
  split at e
  · rename_i z t
    split at e
    · rename_i cc hz
      cases e
      cases dr_str rx; cases dr_str ry
      exact .inr ⟨_, t, by rw [str_one hz], rfl, f.d st ho (.bl _)⟩
    · cases e
  · exact sc _ rfl e
  · cases e
theorem de_in (ha : DE X W Z a ta) (hb : DE X W Z b tb) (hm : behindInMarks .In b = false := by rfl) : DE X W Z (.Compare a [.In] [b] pos) (dOp (inS false) ta tb) := de_cmp op_inAll ov_in ha hb hm
theorem de_notIn (ha : DE X W Z a ta) (hb : DE X W Z b tb) (hm : behindInMarks .NotIn b = false := by rfl) : DE X W Z (.Compare a [.NotIn] [b] pos) (dOp (inS true) ta tb) := de_cmp op_notInAll ov_in ha hb hm
theorem dt_in (ha : DE X W Z a ta) (hb : DE X W Z b tb) (hm : behindInMarks .In b = false := by rfl) : DT X W Z (.Compare a [.In] [b] pos) (dTst (dOp (inS false) ta tb)) := dt_cmp op_inAll ov_in ha hb hm
theorem dt_notIn (ha : DE X W Z a ta) (hb : DE X W Z b tb) (hm : behindInMarks .NotIn b = false := by rfl) : DT X W Z (.Compare a [.NotIn] [b] pos) (dTst (dOp (inS true) ta tb)) := dt_cmp op_notInAll ov_in ha hb hm
/-! ### is, is not: None, truths -/
def isNone : Sl → Bool
  | .dat .none => true
  | _ => false
def isS' (n : Bool) : G2 := fun _ x y => match y with
  | .dat .none => some (.v (.dat (.bool (isNone x != n))))
  | .dat (.bool k) => match x with
    | .dat (.bool j) => some (.v (.dat (.bool (decide (j = k) != n))))
    | _ => none
  | _ => none
theorem isNone_of {D : Hp} {v : V} {s : Sl} (r : Vr K D v s) : decide (v = .non) = isNone s := by
  cases s with
  | adr a => have r' : v = .ref a := r; subst r'; rfl
  | scr ns => obtain ⟨a, rfl, _⟩ := r; rfl
  | dat d => cases r <;> rfl
def rIsA : R2 := fun x y H Q => (y = .non ∧ Q (.bl (decide (x = .non))) H) ∨ rIsB x y H Q
def rNotA : R2 := fun x y H Q => (y = .non ∧ Q (.bl (!decide (x = .non))) H) ∨ rNotB x y H Q
theorem op_isA : OpR X (compareOp .Is) rIsA := OpR.or op_isN op_isBl
theorem op_notA : OpR X (compareOp .IsNot) rNotA := OpR.or op_notN op_notBl
theorem ov_is : OpV K rIsA (isS' false) := fun x y v u w D H o R Q st rx ry e ho f => by
  unfold isS' at e
  split at e
  · cases e
    refine .inl ⟨dr_none ry, ?_⟩
    rw [isNone_of rx]
    have h : R (.dat (.bool (isNone x != false))) w := ho
    rw [Bool.bne_false] at h
    exact f.d st h (.bl _)
  · rename_i k
    split at e
    · rename_i j
      cases e
      cases dr_bool rx; cases dr_bool ry
      refine .inr ⟨j, k, rfl, rfl, ?_⟩
      have h : R (.dat (.bool (decide (j = k) != false))) w := ho
      rw [Bool.bne_false] at h
      exact f.d st h (.bl _)
    · cases e
  · cases e
theorem ov_isNot : OpV K rNotA (isS' true) := fun x y v u w D H o R Q st rx ry e ho f => by
  unfold isS' at e
  split at e
  · cases e
    refine .inl ⟨dr_none ry, ?_⟩
    rw [isNone_of rx]
    have h : R (.dat (.bool (isNone x != true))) w := ho
    rw [Bool.bne_true] at h
    exact f.d st h (.bl _)
  · rename_i k
    split at e
    · rename_i j
      cases e
      cases dr_bool rx; cases dr_bool ry
      refine .inr ⟨j, k, rfl, rfl, ?_⟩
      have h : R (.dat (.bool (decide (j = k) != true))) w := ho
      rw [Bool.bne_true] at h
      exact f.d st h (.bl _)
    · cases e
  · cases e
theorem de_is (ha : DE X W Z a ta) (hb : DE X W Z b tb) : DE X W Z (.Compare a [.Is] [b] pos) (dOp (isS' false) ta tb) := de_cmp op_isA ov_is ha hb (nomark _)
theorem de_isNot (ha : DE X W Z a ta) (hb : DE X W Z b tb) : DE X W Z (.Compare a [.IsNot] [b] pos) (dOp (isS' true) ta tb) := de_cmp op_notA ov_isNot ha hb (nomark _)
theorem dt_is (ha : DE X W Z a ta) (hb : DE X W Z b tb) : DT X W Z (.Compare a [.Is] [b] pos) (dTst (dOp (isS' false) ta tb)) := dt_cmp op_isA ov_is ha hb (nomark _)
theorem dt_isNot (ha : DE X W Z a ta) (hb : DE X W Z b tb) : DT X W Z (.Compare a [.IsNot] [b] pos) (dTst (dOp (isS' true) ta tb)) := dt_cmp op_notA ov_isNot ha hb (nomark _)
/-! ### {}: data -/
def dDic0 : DTE := fun _ w R => R (.dat (.dict [])) w
theorem de_dic0 : DE X W Z (.Dict [] [] pos) dDic0 := pe_weak pe_dnewK fun σ H Q ⟨ρ, w, D, R, rp, xo, h, f⟩ p hp => f (.dat (.dict [])) w (.ref p) (upd D p (.dK [])) (upd H p (.dK [])) h (Gr.newD rp.st hp) (rp.st.newD hp) (.dct upd_same)
/-! ### texts: upper -/
def dUpper (te : DTE) : DTE := fun ρ w R => te ρ w fun s w1 => ∃ z, s = .dat (.str z) ∧ z.length ≤ 5592405 ∧ R (.dat (.str (Txt.upper z))) w1
theorem de_upper {apos : Pos} (he : DE X W Z e te) (hbase : attributeBase e "upper" X.env (eval e X.env) = eval e X.env := by rfl) (hline : (apos.endLine == pos.line) = true := by rfl) : DE X W Z (.Call (.Attribute e "upper" apos) [] [] pos) (dUpper te) :=
  pe_weak (pe_upper he hbase hline) fun σ H Q ⟨ρ, w, D, R, rp, xo, h, f⟩ => ⟨ρ, w, D, _, rp, xo, h, fun s w1 v D1 H1 h1 g1 s1 r1 => by
    obtain ⟨z, rfl, hz, h1⟩ := h1
    cases dr_str r1
    exact ⟨⟨z, rfl⟩, z, rfl, rfl, hz, (f.next g1).d s1 h1 (.str _)⟩⟩
/-! ### a dict of the written part, with texts for keys -/
structure KDic (K : PySem.W.Frag) (wd : World) (d : Addr) (kvs : List (Str × Sl)) : Prop where
  ex : ∃ (es : Array DictEntry) (n : Nat), K.lookup d = some ⟨.type "dict", none, .dict es n, #[]⟩ ∧ PySem.W.KeysLit wd.params es.toList ∧
    Paired (fun (p : Str × Sl) (e : DictEntry) => (∃ t, e.key = .str p.1 t) ∧ ∃ v, RelV v e.val ∧ ∀ D, Vr K D v p.2) kvs es.toList
  low : (d == sysModules) = false
theorem kdic_find {d : Addr} {kvs : List (Str × Sl)} : ∀ {l : List DictEntry}, Paired (fun (p : Str × Sl) (e : DictEntry) => (∃ t, e.key = .str p.1 t) ∧ ∃ v, RelV v e.val ∧ ∀ D, Vr K D v p.2) kvs l → ∀ z : Str,
    match kvs.lookup z with
    | some s => ∃ u v, (l.find? fun e => Value.isStrOf z e.key).map (·.val) = some u ∧ RelV v u ∧ ∀ D, Vr K D v s
    | none => (l.find? fun e => Value.isStrOf z e.key).map (·.val) = none := by
  intro l h
  induction h with
  | nil => intro z; rfl
  | @cons p e ps es q t ih =>
    intro z
    obtain ⟨k, s⟩ := p
    obtain ⟨⟨tk, hk⟩, v, rv, hv⟩ := q
    by_cases hz : z = k
    · subst hz
      have e1 : List.lookup z ((z, s) :: ps) = some s := by simp [List.lookup]
      rw [e1]
      refine ⟨e.val, v, ?_, rv, hv⟩
      have e2 : Value.isStrOf z e.key = true := by rw [hk]; simp [Value.isStrOf]
      rw [List.find?_cons_of_pos (by simpa using e2)]
      rfl
    · have e0 : (z == k) = false := beq_eq_false_iff_ne.mpr hz
      have e1 : List.lookup z ((k, s) :: ps) = List.lookup z ps := by simp [List.lookup, e0]
      rw [e1]
      have e2 : ¬ Value.isStrOf z e.key = true := by
        rw [hk]
        simp [Value.isStrOf]
        intro q
        first | exact hz q | exact hz q.symm
      rw [List.find?_cons_of_neg (by simpa using e2)]
      exact ih z
/-- d.get(k) of a written dict -/
def dKGet (kvs : List (Str × Sl)) (te : DTE) : DTE := fun ρ w R => te ρ w fun s w1 => ∃ z, s = .dat (.str z) ∧ R ((kvs.lookup z).getD (.dat .none)) w1
theorem de_kget {d : Addr} {kvs : List (Str × Sl)} {x : Str} {p apos : Pos} (D : KDic X.K X.w d kvs) (hg : Gl X x) (hm : X.mg x = some (.ref d)) (he : DE X W Z e te) (m : M1 X (.Name x p) "get" apos e pos) (hd : (x == ("__debug__" : Str)) = false := by decide) :
    DE X W Z (.Call (.Attribute (.Name x p) "get" apos) [e] [] pos) (dKGet kvs te) := by
  obtain ⟨⟨ar, n, hl, hk, hp⟩, low⟩ := D
  refine ⟨fun pins s σ H Q I h => ?_⟩
  obtain ⟨ρ, w, D, R, rp, xo, h, f⟩ := h
  have mp := PySem.W.mapOf_K (prog := X.prog) (w := X.w) I.kIn hl hk
  refine wpAny_Call_method m.base m.few m.line PySem.F.plainAttrs_dict PySem.F.slot_dict_get PySem.F.type_dict_get (ld_glob I hg hm ?_ hd)
  refine ⟨mp.typeIs, fun b q => ⟨_, I.kIn _ _ (by cases q; exact hl), rfl⟩, ?_⟩
  rw [m.trees]
  refine Calls.callWith_builtin rfl (Calls.evalArgs_plain (Calls.spliced_cons (thn (he.run pins s σ H (fun v H1 => ∃ z, v = .str z ∧ ∀ u, (∀ D1, Vr X.K D1 u ((kvs.lookup z).getD (.dat .none))) → Q u H1) I ⟨ρ, w, D, _, rp, xo, h, fun s w1 v D1 H1 h1 g1 s1 r1 => ?_⟩) fun iv s2 ⟨y, H2, I2, ry, z, ey, q2⟩ => Calls.spliced_nil ?_)))
  · obtain ⟨z, rfl, h1⟩ := h1
    exact ⟨z, dr_str r1, fun u hu => (f.next g1).v s1 h1 (hu D1)⟩
  · subst ey
    obtain ⟨t, rfl⟩ := ry
    have mp2 := PySem.W.mapOf_K (prog := X.prog) (w := X.w) I2.kIn hl hk
    refine call_meetsIn PySem.F.slot_dict_get mp2.typeIs PySem.F.entry_dict_get (PySem.F.args_dict_get_2 _ _) (meets_dict_get (strKind X.prog X.w) d (strKind_is X.prog X.w z t) low) ⟨_, mp2, ?_⟩
    have kf := kdic_find (K := X.K) (d := d) hp z
    have ff : findBy Value.isStrOf ar z = (ar.toList.find? fun e => Value.isStrOf z e.key).map (·.val) := by
      unfold findBy
      rw [← List.find?_toArray, Array.toArray_toList]
    rw [ff]
    cases q : kvs.lookup z with
    | none =>
      rw [q] at kf
      rw [kf]
      exact ⟨.non, H2, I2.tok _, rfl, q2 .non (by rw [q]; exact fun _ => .non)⟩
    | some s =>
      rw [q] at kf
      obtain ⟨u, v, h1, h2, h3⟩ := kf
      rw [h1]
      exact ⟨v, H2, I2.tok _, h2, q2 v (by rw [q]; exact h3)⟩
/-- d[k] of a written dict -/
def dKIx (kvs : List (Str × Sl)) (te : DTE) : DTE := fun ρ w R => te ρ w fun s w1 => ∃ z r, s = .dat (.str z) ∧ kvs.lookup z = some r ∧ R r w1
theorem de_kix {d : Addr} {kvs : List (Str × Sl)} {x : Str} {p : Pos} (D : KDic X.K X.w d kvs) (hg : Gl X x) (hm : X.mg x = some (.ref d)) (he : DE X W Z e te) (hs : PlainIx e) (hd : (x == ("__debug__" : Str)) = false := by decide) :
    DE X W Z (.Subscript (.Name x p) e pos) (dKIx kvs te) := by
  obtain ⟨⟨ar, n, hl, hk, hp⟩, low⟩ := D
  refine pe_weak (pe_ix ix_kdict (pe_glob (v := .ref d) hg hm rfl hd) he hs) fun σ H Q ⟨ρ, w, D, R, rp, xo, h, f⟩ => ?_
  refine ⟨ρ, w, D, _, rp, xo, h, fun s w1 v D1 H1 h1 g1 s1 r1 => ?_⟩
  obtain ⟨z, r, rfl, hz, h1⟩ := h1
  cases dr_str r1
  have kf := kdic_find (K := X.K) (d := d) hp z
  rw [hz] at kf
  obtain ⟨u, v, k1, k2, k3⟩ := kf
  refine ⟨d, z, v, rfl, rfl, ⟨ar, n, u, hl, hk, ?_, k2⟩, (f.next g1).v s1 h1 (k3 D1)⟩
  unfold PySem.W.nsIn
  rw [hl]
  have qf : (fun d : DictEntry => Value.isStrOf z d.key) = fun d => d.key.isStr z := funext fun d => (PySem.W.isStr_of z d.key).symm
  rw [qf] at k1
  show (match ar.toList.find? (fun d => d.key.isStr z) with | some e => some (some e.val) | none => if ar.toList.any (·.refKey) then none else some none) = _
  cases q : ar.toList.find? (fun d => d.key.isStr z) with
  | none => rw [q] at k1; cases k1
  | some en =>
    rw [q] at k1
    have : en.val = u := Option.some.inj k1
    show some (some en.val) = some (some u)
    rw [this]
end
end DL

set_option Elab.async false
set_option linter.all false
set_option maxRecDepth 100000
set_option maxHeartbeats 4000000
namespace DL
open PySem PySem.Spec PyProof.Rows L2
section
variable {X : Cx} {W : WX} {Z : DX} {K : PySem.W.Frag} {a b c e : Expr} {ta tb te : DTE} {pos : Pos}
/-! ### == and != beside an empty list or tuple: whatever the other one holds -/
def rEqE (K : PySem.W.Frag) (n : Bool) : R2 := fun x y H Q => ∃ a b xs, x = .ref a ∧ y = .ref b ∧ ((SqL K H a xs ∧ SqL K H b []) ∨ (SqT K H a xs ∧ SqT K H b [])) ∧ Q (.bl (xs.isEmpty != n)) H
theorem size0 {xs : List V} {its : List Value} (r : Vals xs its) : (its.toArray.size == 0) = xs.isEmpty := by cases r <;> simp
theorem op_eqE (hu : X.A.units + 64 < cLine) : OpR X (compareOp .Eq) (rEqE X.K false) := by
  intro pins s σ H x y v u Q I rx ry h
  obtain ⟨a, b, xs, rfl, rfl, hq, q⟩ := h
  cases rx
  cases ry
  have hu' : X.A.units < cLine := by omega
  rw [Bool.bne_false] at q
  rcases hq with ⟨ha, hb⟩ | ⟨ha, hb⟩
  · obtain ⟨its, rv, pl, _⟩ := I.list ha
    obtain ⟨its2, rv2, pl2, _⟩ := I.list hb
    cases rv2
    by_cases hs : its.toArray.size = 0
    · refine SeqAt.eq_listAt (e := fun _ => true) pl.isList pl2.isList (by simpa using hs) hu' (fun j h1 _ => absurd h1 (by omega)) ?_
      refine ⟨.bl xs.isEmpty, H, I, ?_, q⟩
      rw [← size0 rv, hs]; rfl
    · refine SeqAt.eq_list_lengthsAt pl.isList pl2.isList (by simpa using hs) hu' ⟨.bl xs.isEmpty, H, I, ?_, q⟩
      rw [← size0 rv, beq_eq_false_iff_ne.mpr hs]; rfl
  · obtain ⟨its, rv, pl, _⟩ := I.tuple ha
    obtain ⟨its2, rv2, pl2, _⟩ := I.tuple hb
    cases rv2
    refine SeqAt.eq_tupleAt (e := fun _ => true) (show s.heap.IsTuple a its.toArray from pl) (show s.heap.IsTuple b #[] from pl2) hu' (fun j _ h2 => absurd h2 (by simp)) ⟨.bl xs.isEmpty, H, I, ?_, q⟩
    rw [← size0 rv]
    show Value.bool _ = Value.bool _
    simp
theorem op_neE (hu : X.A.units + 64 < cLine) : OpR X (compareOp .NotEq) (rEqE X.K true) := by
  intro pins s σ H x y v u Q I rx ry h
  obtain ⟨a, b, xs, rfl, rfl, hq, q⟩ := h
  cases rx
  cases ry
  have hu' : X.A.units < cLine := by omega
  rw [Bool.bne_true] at q
  rcases hq with ⟨ha, hb⟩ | ⟨ha, hb⟩
  · obtain ⟨its, rv, pl, _⟩ := I.list ha
    obtain ⟨its2, rv2, pl2, _⟩ := I.list hb
    cases rv2
    by_cases hs : its.toArray.size = 0
    · refine SeqAt.RcNeAt.lists (e := fun _ => true) pl.isList pl2.isList (by simpa using hs) hu' (fun j h1 _ => absurd h1 (by omega)) _ _ _ _ ⟨.bl (!xs.isEmpty), H, I, ?_, q⟩
      rw [← size0 rv, hs]; rfl
    · refine SeqAt.RcNeAt.lists_lengths pl.isList pl2.isList (by simpa using hs) hu' _ _ _ _ ⟨.bl (!xs.isEmpty), H, I, ?_, q⟩
      rw [← size0 rv, beq_eq_false_iff_ne.mpr hs]; rfl
  · obtain ⟨its, rv, pl, _⟩ := I.tuple ha
    obtain ⟨its2, rv2, pl2, _⟩ := I.tuple hb
    cases rv2
    refine SeqAt.RcNeAt.tuples (e := fun _ => true) (show s.heap.IsTuple a its.toArray from pl) (show s.heap.IsTuple b #[] from pl2) hu' (fun j _ h2 => absurd h2 (by simp)) _ _ _ _ ⟨.bl (!xs.isEmpty), H, I, ?_, q⟩
    rw [← size0 rv]
    show Value.bool _ = Value.bool _
    simp
def eqE (n : Bool) : G2 := fun w x y => match x, y with
  | .dat (.tuple ds), .dat (.tuple []) => some (.v (.dat (.bool (ds.isEmpty != n))))
  | x, y => (sqL w x).bind fun xs => (sqL w y).bind fun ys => if ys.isEmpty = true then some (.v (.dat (.bool (xs.isEmpty != n)))) else none
theorem eqE_l {n : Bool} {w : Om} {x y : Sl} {xs : List Sl} (h : sqL w x = some xs) (h' : sqL w y = some []) : eqE n w x y = some (.v (.dat (.bool (xs.isEmpty != n)))) := by
  have k : ((sqL w x).bind fun xs => (sqL w y).bind fun ys => if ys.isEmpty = true then some (Ou.v (.dat (.bool (xs.isEmpty != n)))) else none) = some (.v (.dat (.bool (xs.isEmpty != n)))) := by
    rw [h]
    show ((sqL w y).bind fun ys => if ys.isEmpty = true then some (Ou.v (.dat (.bool (xs.isEmpty != n)))) else none) = _
    rw [h']; rfl
  unfold eqE
  split
  · cases h
  · exact k
theorem ov_eqE {n : Bool} : OpV K (rEqE K n) (eqE n) := fun x y v u w D H o R Q st rx ry e ho f => by
  unfold eqE at e
  split at e
  · cases e
    obtain ⟨p, vs, rfl, hq, hv⟩ := tup_ok st rx
    obtain ⟨p2, vs2, rfl, hq2, hv2⟩ := tup_ok st ry
    cases hv2
    refine ⟨p, p2, vs, rfl, rfl, .inr ⟨hq, hq2⟩, ?_⟩
    rename_i ds
    have : vs.isEmpty = ds.isEmpty := by cases hv <;> rfl
    rw [this]
    exact f.d st ho (.bl _)
  · cases q1 : sqL w x with
    | none => rw [q1] at e; cases e
    | some xs =>
      rw [q1] at e
      have e2 : ((sqL w y).bind fun ys => if ys.isEmpty = true then some (Ou.v (.dat (.bool (xs.isEmpty != n)))) else none) = some o := e
      cases q2 : sqL w y with
      | none => rw [q2] at e2; cases e2
      | some ys =>
        rw [q2] at e2
        have e3 : (if ys.isEmpty = true then some (Ou.v (.dat (.bool (xs.isEmpty != n)))) else none) = some o := e2
        cases ys with
        | cons _ _ => cases e3
        | nil =>
          cases e3
          obtain ⟨p, vs, rfl, hq, hv⟩ := sqL_ok st rx q1
          obtain ⟨p2, vs2, rfl, hq2, hv2⟩ := sqL_ok st ry q2
          cases hv2
          refine ⟨p, p2, vs, rfl, rfl, .inl ⟨SqL.of hq, SqL.of hq2⟩, ?_⟩
          have : vs.isEmpty = xs.isEmpty := by cases hv <;> rfl
          rw [this]
          exact f.d st ho (.bl _)
theorem de_eqE (hu : X.A.units + 64 < cLine) (ha : DE X W Z a ta) (hb : DE X W Z b tb) : DE X W Z (.Compare a [.Eq] [b] pos) (dOp (eqE false) ta tb) := de_cmp (op_eqE hu) ov_eqE ha hb (nomark _)
theorem de_neE (hu : X.A.units + 64 < cLine) (ha : DE X W Z a ta) (hb : DE X W Z b tb) : DE X W Z (.Compare a [.NotEq] [b] pos) (dOp (eqE true) ta tb) := de_cmp (op_neE hu) ov_eqE ha hb (nomark _)
theorem dt_eqE (hu : X.A.units + 64 < cLine) (ha : DE X W Z a ta) (hb : DE X W Z b tb) : DT X W Z (.Compare a [.Eq] [b] pos) (dTst (dOp (eqE false) ta tb)) := dt_cmp (op_eqE hu) ov_eqE ha hb (nomark _)
theorem dt_neE (hu : X.A.units + 64 < cLine) (ha : DE X W Z a ta) (hb : DE X W Z b tb) : DT X W Z (.Compare a [.NotEq] [b] pos) (dTst (dOp (eqE true) ta tb)) := dt_cmp (op_neE hu) ov_eqE ha hb (nomark _)
end
/-! ### the two ways of a test -/
theorem iteB {k : Bool} {A B : Prop} (h1 : k = true → A) (h2 : k = false → B) : if k = true then A else B := by
  cases k with
  | true => exact iteT (h1 rfl)
  | false => exact iteF (h2 rfl)
theorem iteD {p : Prop} [Decidable p] {A B : Prop} (h1 : p → A) (h2 : ¬ p → B) : if decide p = true then A else B := iteB (fun h => h1 (of_decide_eq_true h)) (fun h => h2 (of_decide_eq_false h))
theorem iteNo {p : Prop} [Decidable p] {A B : Prop} (h : ¬ p) (hb : B) : if decide p = true then A else B := by rw [decide_eq_false h]; exact iteF hb
theorem iteYes {p : Prop} [Decidable p] {A B : Prop} (h : p) (ha : A) : if decide p = true then A else B := by rw [decide_eq_true h]; exact iteT ha
/-! ### defs with defaults; a promise that is never asked; the law's end -/
section
variable {P : Program} {wd : World} {K : PySem.W.Frag} {mg : Str → Option Value} {base : Heap}
theorem FunD.okD {x qual : Str} {params : Arguments} {body : List Stmt} {scope : Scope} {dvs : List V} {kws : List (Str × V)} {f : Addr} {fd : FuncData} {N ps : List Str} {k : Nat} {c : Ct} {tb : DTS} (F : L2.FunD K x qual params body scope dvs kws f fd) (S : FnScope N ps scope) (len : ∀ ss w R, c ss w R → ss.length = ps.length)
    (hb : ∀ (cdv : Value) (A : Around) (outer : List Env) (s : Shared) (H : Hp) (E : XK), Room k (A.deeper (envOfC qual scope s.heap.objs.size f cdv)) → DB (cxOf CX0 P wd K mg base N qual scope f cdv A outer s H E).nox WT ZT body tb)
    (rd : ∀ ss w R, c ss w R → tb (endsN R) (startD N ss) w) : FnOk P wd K mg base CX0 (k + 1) f fd ps (spN K c) := by
  refine L2.FunD.ok F S (fun vs H Q E h => ?_) (fun cdv A outer s H vs Q E hr h => ?_)
  · obtain ⟨ss, w, D, R, hs, _, hc, _⟩ := h
    rw [Paired.length hs]
    exact len ss w R hc
  · obtain ⟨ss, w, D, R, hs, so, hc, fi⟩ := h
    exact ⟨_, (hb cdv A outer s H E hr).nox, startD N ss, w, D, endsN R, rp_start hs so, xok_T, rd ss w R hc, endsN_ok fi⟩
def cNo : Ct := fun _ _ _ => False
theorem fnok_no {CX : CXT} {k : Nat} {f : Addr} {fd : FuncData} {ps : List Str} : FnOk P wd K mg base CX k f fd ps (spN K cNo) :=
  ⟨fun vs H Q E ⟨ss, w, D, R, _, _, h, _⟩ => h.elim, fun A outer s H args us vs Q E hr e0 hb r ⟨ss, w, D, R, _, _, h, _⟩ => h.elim⟩
/-- a contract by depth: below 0 nothing is promised -/
def prev (c : Nat → Ct) : Nat → Ct
  | 0 => cNo
  | n + 1 => c n
theorem rec_ok {CX : CXT} {b : Nat} {f : Addr} {fd : FuncData} {ps : List Str} (c : Nat → Ct) (step : ∀ n, FnOk P wd K mg base CX (b + n) f fd ps (spN K (prev c n)) → FnOk P wd K mg base CX (b + n + 1) f fd ps (spN K (c n))) :
    ∀ n, FnOk P wd K mg base CX (b + n + 1) f fd ps (spN K (c n))
  | 0 => step 0 fnok_no
  | n + 1 => step (n + 1) (rec_ok c step n)
def cLaw : Ct := fun ss w R => ∃ ns : List Int, ss = [.scr ns] ∧ ns.length ≤ 63 ∧ ∀ w', R (.dat (.bool true)) w'
theorem law_end {H : Hp} {a : Addr} {ns : List Int} (hl : ns.length ≤ 63) (hS : SqL K H a (ns.map V.int)) : spN K cLaw [.ref a] H (fun v _ => v = .bl true) fun _ _ _ => False :=
  ⟨[.scr ns], fun _ => none, H, fun s _ => s = .dat (.bool true), .cons ⟨a, rfl, hS⟩ .nil, ⟨Same.refl H, (fun _ _ h => nomatch h), (fun _ _ h => nomatch h)⟩, ⟨ns, rfl, hl, fun _ => rfl⟩, fun s w' z D' H' h g st r => by
    subst h
    exact dr_bool r⟩
end
theorem walk {l : PySem.W.OpenLaw} {k : Nat} {q : Program} {loose : List Str} {XP : (Str → Option Value) → Heap → Prop} {YP : World → Heap → Prop} {d : DefRec} {K : Params → PySem.W.Frag} (hr : Room k callerA) (hn : l.most = some 63) (hdf : d.params.defaults = [])
    (hY : ∀ (w : World) (h : Heap), YP w h → (K w.params).In h)
    (F : ∀ (w : World) (mg : Str → Option Value) (fa : Addr) (h : Heap), (K w.params).In h → h.Ns mainGlobals mg → mg d.name = some (.ref fa) →
      ∃ fd : FuncData, (∀ (s : Shared) (u : Value), BindsTo s fd ⟨[u], []⟩ [("script", u)]) ∧ ∀ base : Heap, (K w.params).In base → base.Ns mainGlobals mg → FnOk l.prog w (K w.params) mg base CX0 k fa fd ["script"] (spN (K w.params) cLaw)) :
    PySem.W.WalkO q loose XP YP l.row.toRowW d [] (fun f vs => PySem.call f vs) :=
  L2.walk_of (n := 63) (k := k) (x := "script") (CX := fun _ => CX0) (sp := fun w => spN (K w.params) cLaw) hn (by decide) hdf hr hY F (fun _ _ a ns hl _ hS => law_end hl hS) fun _ _ _ _ _ z => z
end DL

set_option Elab.async false
set_option linter.all false
set_option maxRecDepth 100000
set_option maxHeartbeats 4000000
namespace DL
open PySem PySem.Spec PyProof.Rows L2
/-! ### instances of the store -/
def putS (f : Str) (v : Sl) : List (Str × Sl) → List (Str × Sl)
  | [] => [(f, v)]
  | (g, x) :: r => if g = f then (g, v) :: r else (g, x) :: putS f v r
section
variable {K : PySem.W.Frag} {D : Hp}
abbrev FlA (K : PySem.W.Frag) (D : Hp) : List (Str × V) → List (Str × Sl) → Prop := Paired (fun (p : Str × V) (q : Str × Sl) => p.1 = q.1 ∧ Vr K D p.2 q.2)
theorem fl_get {f : Str} : ∀ {gs : List (Str × V)} {fs : List (Str × Sl)} {s : Sl}, FlA K D gs fs → fs.lookup f = some s → ∃ v, gs.lookup f = some v ∧ Vr K D v s
  | _, _, _, .nil, e => by cases e
  | (g, x) :: gs, (g', x') :: fs, s, .cons ⟨h1, h2⟩ r, e => by
    have h1' : g = g' := h1
    subst h1'
    by_cases z : f = g
    · subst z
      have : List.lookup f ((f, x') :: fs) = some x' := by simp [List.lookup]
      rw [this] at e
      cases e
      exact ⟨x, by simp [List.lookup], h2⟩
    · have hb : (f == g) = false := beq_eq_false_iff_ne.mpr z
      have e1 : List.lookup f ((g, x') :: fs) = List.lookup f fs := by simp [List.lookup, hb]
      rw [e1] at e
      obtain ⟨v, q1, q2⟩ := fl_get r e
      exact ⟨v, by rw [← q1]; simp [List.lookup, hb], q2⟩
theorem fl_none {f : Str} : ∀ {gs : List (Str × V)} {fs : List (Str × Sl)}, FlA K D gs fs → fs.lookup f = none → gs.lookup f = none
  | _, _, .nil, e => rfl
  | (g, x) :: gs, (g', x') :: fs, .cons ⟨h1, h2⟩ r, e => by
    have h1' : g = g' := h1
    subst h1'
    by_cases z : f = g
    · subst z
      have : List.lookup f ((f, x') :: fs) = some x' := by simp [List.lookup]
      rw [this] at e
      cases e
    · have hb : (f == g) = false := beq_eq_false_iff_ne.mpr z
      have e1 : List.lookup f ((g, x') :: fs) = List.lookup f fs := by simp [List.lookup, hb]
      rw [e1] at e
      rw [← fl_none r e]; simp [List.lookup, hb]
theorem fl_put {f : Str} {v : V} {s : Sl} (hv : Vr K D v s) : ∀ {gs : List (Str × V)} {fs : List (Str × Sl)}, FlA K D gs fs → FlA K D (putF f v gs) (putS f s fs)
  | _, _, .nil => .cons ⟨rfl, hv⟩ .nil
  | (g, x) :: gs, (g', x') :: fs, .cons ⟨h1, h2⟩ r => by
    have h1' : g = g' := h1
    subst h1'
    unfold putF putS
    by_cases z : g = f
    · rw [if_pos z, if_pos z]; exact .cons ⟨rfl, hv⟩ r
    · rw [if_neg z, if_neg z]; exact .cons ⟨rfl, h2⟩ (fl_put hv r)
end
section
variable {X : Cx} {W : WX} {Z : DX} {o e value : Expr} {es : List Expr} {f : Str} {C : Addr} {pos pos' tpos apos p : Pos} {to te tv : DTE} {ta : DTA}
/-- o.f -/
def dFld (C : Addr) (f : Str) (to : DTE) : DTE := fun ρ w R => to ρ w fun s w1 => ∃ a fs v, s = .adr a ∧ w1 a = some (.ins C fs) ∧ fs.lookup f = some v ∧ R v w1
theorem de_fld (c : Cls X.K C) (n : NoAttr X.K C f) (ho : DE X W Z o to) (hb : attributeBase o f X.env (eval o X.env) = eval o X.env := by rfl) : DE X W Z (.Attribute o f pos) (dFld C f to) :=
  pe_weak (pe_fld ho hb) fun σ H Q ⟨ρ, w, D, R, rp, xo, h, fi⟩ => ⟨ρ, w, D, _, rp, xo, h, fun s w1 v D1 H1 h1 g1 s1 r1 => by
    obtain ⟨a, fs, y, rfl, hw, hl, hR⟩ := h1
    obtain ⟨dx, gs, hH, hf⟩ := s1.own a _ hw
    obtain ⟨z, q1, q2⟩ := fl_get hf hl
    exact ⟨a, C, dx, gs, z, r1, hH, c, n, q1, (fi.next g1).v s1 hR q2⟩⟩
/-- o.f = value -/
def dSetF (C : Addr) (f : Str) (to tv : DTE) : DTS := fun F ρ w => tv ρ w fun s w1 => to ρ w1 fun x w2 => ∃ a fs, x = .adr a ∧ w2 a = some (.ins C fs) ∧ fs.length < 1000 ∧ F.nx ρ (put w2 a (.ins C (putS f s fs)))
theorem ds_fld (c : Cls X.K C) (n : NoAttr X.K C f) (ho : DE X W Z o to) (hv : DE X W Z value tv) (hs : swapsWith value (some (.Attribute o f pos')) pos.line X.env = pure false := by rfl) : DS X W Z (.Assign [.Attribute o f pos'] value pos) (dSetF C f to tv) :=
  ps_weak (ps_fld ho hv hs) fun E σ H ⟨ρ, w, D, F, rp, xo, h, eo⟩ => ⟨ρ, w, D, _, rp, xo, h, fun s w1 v D1 H1 h1 g1 s1 r1 => ⟨ρ, w1, D1, _, rp.next g1.dd s1, xo.next g1, h1, fun x w2 z D2 H2 h2 g2 s2 r2 => by
    obtain ⟨a, fs, rfl, hw, hl, hR⟩ := h2
    obtain ⟨dx, gs, hH, hf⟩ := s2.own a _ hw
    refine ⟨a, C, dx, gs, r2, hH, c, n, by rw [Paired.length hf]; exact hl, ?_⟩
    have ok : OwnOk X.K D2 (upd H2 a (.ins C dx (putF f v gs))) a (.ins C (putS f s fs)) := ⟨dx, _, upd_same, fl_put (r1.mono g2.dd) hf⟩
    have g3 : Gr w2 D2 H2 (put w2 a (.ins C (putS f s fs))) D2 (upd H2 a (.ins C dx (putF f v gs))) := Gr.write hw
    have gg := (g1.trans g2).trans g3
    exact eo.nx ρ _ σ D2 _ hR gg (rp.next gg.dd (s2.write hw ok))⟩⟩
/-- o.f += value, of ints -/
def dAddF (C : Addr) (f : Str) (to tv : DTE) : DTS := fun F ρ w => to ρ w fun x w1 => ∃ a fs i, x = .adr a ∧ w1 a = some (.ins C fs) ∧ fs.lookup f = some (.dat (.int i)) ∧
  tv ρ w1 fun y w2 => ∃ j fs2, y = .dat (.int j) ∧ w2 a = some (.ins C fs2) ∧ fs2.length < 1000 ∧ F.nx ρ (put w2 a (.ins C (putS f (.dat (.int (i + j))) fs2)))
theorem ds_fldadd (c : Cls X.K C) (n : NoAttr X.K C f) (ho : DE X W Z o to) (hv : DE X W Z value tv) : DS X W Z (.AugAssign (.Attribute o f tpos) .Add value pos) (dAddF C f to tv) :=
  ps_weak (ps_fldaug ho hv in_add) fun E σ H ⟨ρ, w, D, F, rp, xo, h, eo⟩ => ⟨ρ, w, D, _, rp, xo, h, fun x w1 v D1 H1 h1 g1 s1 r1 => by
    obtain ⟨a, fs, i, rfl, hw, hl, h1⟩ := h1
    obtain ⟨dx, gs, hH, hf⟩ := s1.own a _ hw
    obtain ⟨z, q1, q2⟩ := fl_get hf hl
    refine ⟨a, C, dx, gs, z, r1, hH, c, n, q1, ρ, w1, D1, _, rp.next g1.dd s1, xo.next g1, h1, fun y w2 u D2 H2 h2 g2 s2 r2 => ?_⟩
    obtain ⟨j, fs2, rfl, hw2, hl2, hR⟩ := h2
    obtain ⟨dx2, gs2, hH2, hf2⟩ := s2.own a _ hw2
    refine ⟨i, j, dr_int q2, dr_int r2, dx2, gs2, hH2, by rw [Paired.length hf2]; exact hl2, ?_⟩
    have ok : OwnOk X.K D2 (upd H2 a (.ins C dx2 (putF f (.int (i + j)) gs2))) a (.ins C (putS f (.dat (.int (i + j))) fs2)) := ⟨dx2, _, upd_same, fl_put (show Vr X.K D2 (.int (i + j)) (.dat (.int (i + j))) from .int _) hf2⟩
    have g3 : Gr w2 D2 H2 (put w2 a (.ins C (putS f (.dat (.int (i + j))) fs2))) D2 (upd H2 a (.ins C dx2 (putF f (.int (i + j)) gs2))) := Gr.write hw2
    have gg := (g1.trans g2).trans g3
    exact eo.nx ρ _ σ D2 _ hR gg (rp.next gg.dd (s2.write hw2 ok))⟩
variable {k : Nat} {g : Addr} {fd : FuncData} {ps : List Str} {c : Ct} {m x : Str} {ds : List Value} {dvs : List V} {dss : List Sl}
/-- o.m(e, ..) -/
def dMeth (C : Addr) (m : Str) (c : Ct) (dss : List Sl) (to : DTE) (ta : DTA) : DTE := fun ρ w R => to ρ w fun s w1 => ∃ a fs, s = .adr a ∧ w1 a = some (.ins C fs) ∧ fs.lookup m = none ∧ ta ρ w1 fun ss w2 => c (.adr a :: (ss ++ dss)) w2 R
theorem de_meth {pl : Sem Bool} (cl : Cls X.K C) (hm : Meth X.K C m g) (F : FnOk X.prog X.w X.K X.mg X.base CX0 k g fd ps (spN X.K c)) (hr : Room k X.A) (hb : Binds X.K fd ps ds) (hd : Vals dvs ds) (hds : ∀ D, SlA X.K D dvs dss) (ho : DE X W Z o to) (ha : DA X W Z (e :: es) ta)
    (hst : starEach (e :: es) X.env = (false, eval e X.env) :: starEach es X.env := by rfl) (hpl : (backTo pos (starEach es X.env)).any (·.1) = false := by rfl)
    (ht : eval (.Call (.Attribute o m apos) (e :: es) [] pos) X.env = (do
      let ov ← eval o X.env
      standAt apos.atName
      let (f, first) ← holding [ov] (getMethod ov m pl)
      callWith pos f first (backTo pos (starEach (e :: es) X.env)) (backToKw pos (keywordEach [] X.env))) := by rfl) :
    DE X W Z (.Call (.Attribute o m apos) (e :: es) [] pos) (dMeth C m c dss to ta) :=
  pe_weak (pe_meth ho cl hm F hr hb hd pass0 ha hst hpl ht) fun σ H Q ⟨ρ, w, D, R, rp, xo, h, fi⟩ => ⟨ρ, w, D, _, rp, xo, h, fun s w1 v D1 H1 h1 g1 s1 r1 => by
    obtain ⟨a, fs, rfl, hw, hl, h1⟩ := h1
    obtain ⟨dx, gs, hH, hf⟩ := s1.own a _ hw
    have r1' : v = .ref a := r1
    refine ⟨a, dx, gs, r1', hH, fl_none hf hl, ρ, w1, D1, _, rp.next g1.dd s1, xo.next g1, h1, fun ss w2 vs D2 H2 h2 g2 s2 rs => ?_⟩
    exact ⟨_, w2, D2, R, .cons (show Vr X.K D2 v (.adr a) from r1') (SlA.append rs (hds D2)), s2, h2, fi.next (g1.trans g2)⟩⟩
theorem de_meth0 {pl : Sem Bool} (cl : Cls X.K C) (hm : Meth X.K C m g) (F : FnOk X.prog X.w X.K X.mg X.base CX0 k g fd ps (spN X.K c)) (hr : Room k X.A) (hb : Binds X.K fd ps ds) (hd : Vals dvs ds) (hds : ∀ D, SlA X.K D dvs dss) (ho : DE X W Z o to)
    (ht : eval (.Call (.Attribute o m apos) [] [] pos) X.env = (do
      let ov ← eval o X.env
      standAt apos.atName
      let (f, first) ← holding [ov] (getMethod ov m pl)
      callWith pos f first (backTo pos (starEach [] X.env)) (backToKw pos (keywordEach [] X.env))) := by rfl) :
    DE X W Z (.Call (.Attribute o m apos) [] [] pos) (dMeth C m c dss to dNil) :=
  pe_weak (pe_meth0 ho cl hm F hr hb hd pass0 ht) fun σ H Q ⟨ρ, w, D, R, rp, xo, h, fi⟩ => ⟨ρ, w, D, _, rp, xo, h, fun s w1 v D1 H1 h1 g1 s1 r1 => by
    obtain ⟨a, fs, rfl, hw, hl, h1⟩ := h1
    obtain ⟨dx, gs, hH, hf⟩ := s1.own a _ hw
    have r1' : v = .ref a := r1
    exact ⟨a, dx, gs, r1', hH, fl_none hf hl, _, w1, D1, R, .cons r1 (hds D1), s1, h1, fi.next g1⟩⟩
/-- C(e, ..) -/
def dMake (C : Addr) (c : Ct) (dss : List Sl) (ta : DTA) : DTE := fun ρ w R => ta ρ w fun ss w1 => ∀ x, w1 x = none → c (.adr x :: (ss ++ dss)) (put w1 x (.ins C [])) fun s w2 => s = .dat .none ∧ R (.adr x) w2
theorem make_ok {Q : VK} {R : DQ} {w1 : Om} {D1 H1 : Hp} {ss : List Sl} {vs : List V} (h1 : ∀ x, w1 x = none → c (.adr x :: (ss ++ dss)) (put w1 x (.ins C [])) fun s w2 => s = .dat .none ∧ R (.adr x) w2) (s1 : StOk X.K w1 D1 H1) (rs : SlA X.K D1 vs ss) (hds : ∀ D, SlA X.K D dvs dss) (fi : Fin X.K w1 D1 H1 R Q) :
    ∀ x dx, H1 x = none → H1 dx = none → dx ≠ x → spN X.K c (.ref x :: (vs ++ dvs)) (upd (upd H1 dx (.own x)) x (.ins C dx [])) (fun v H2 => v = .non ∧ Q (.ref x) H2) E := by
  intro x dx hx hdx ne
  have s2 : StOk X.K w1 D1 (upd H1 dx (.own x)) := s1.junk (s1.freeW hdx) (s1.freeD hdx)
  have g2 : Gr w1 D1 H1 w1 D1 (upd H1 dx (.own x)) := (Gr.refl w1 D1 H1).junk hdx
  have hx2 : (upd H1 dx (.own x)) x = none := by rw [upd_ne (Ne.symm ne)]; exact hx
  have s3 : StOk X.K (put w1 x (.ins C [])) D1 (upd (upd H1 dx (.own x)) x (.ins C dx [])) := s2.newW hx2 ⟨dx, [], upd_same, .nil⟩
  have g3 : Gr w1 D1 (upd H1 dx (.own x)) (put w1 x (.ins C [])) D1 (upd (upd H1 dx (.own x)) x (.ins C dx [])) := Gr.newW s2 hx2
  refine ⟨_, _, D1, _, .cons (show Vr X.K D1 (.ref x) (.adr x) from rfl) (SlA.append rs (hds D1)), s3, h1 x (s1.freeW hx), ?_⟩
  intro s w' z D' H' ⟨e1, hR⟩ g st r
  subst e1
  cases r
  exact ⟨rfl, fi (.adr x) w' (.ref x) D' H' hR ((g2.trans g3).trans g) st rfl⟩
theorem de_make (M : Mk X.K C g) (F : FnOk X.prog X.w X.K X.mg X.base CX0 k g fd ps (spN X.K c)) (hr : Room (k + 1) X.A) (hg : Gl X x) (hm : X.mg x = some (.ref C)) (hb : Binds X.K fd ps ds) (hd : Vals dvs ds) (hds : ∀ D, SlA X.K D dvs dss) (ha : DA X W Z (e :: es) ta)
    (hdb : (x == ("__debug__" : Str)) = false := by decide) (he : starEach (e :: es) X.env = (false, eval e X.env) :: starEach es X.env := by rfl) (hpl : (backTo pos (starEach es X.env)).any (·.1) = false := by rfl) :
    DE X W Z (.Call (.Name x p) (e :: es) [] pos) (dMake C c dss ta) :=
  pe_weak (pe_make M F hr hg hm hb hd pass0 ha hdb he hpl) fun σ H Q ⟨ρ, w, D, R, rp, xo, h, fi⟩ => ⟨ρ, w, D, _, rp, xo, h, fun ss w1 vs D1 H1 h1 g1 s1 rs => make_ok h1 s1 rs hds (fi.next g1)⟩
/-! ### never reached -/
def dNever : DTS := fun _ _ _ => False
theorem ds_never {st : Stmt} : DS X W Z st dNever := ps_weak ps_never fun E σ H ⟨ρ, w, D, F, rp, xo, h, eo⟩ => h
/-! ### what is assigned becomes data at once -/
def dAsgZ (i : Nat) (te : DTE) : DTS := fun F ρ w => i < ρ.length ∧ te ρ w fun s w1 => frz s w1 fun d w2 => F.nx (ρ.set i (some (.dat d))) w2
def nxZ (i : Nat) (ρ : DEnv) (f : DEnv → Om → Prop) : DEnv → Om → Prop := fun ρ' w' => ∃ s, ρ' = ρ.set i (some s) ∧ frz s w' fun d w2 => f (ρ.set i (some (.dat d))) w2
theorem nxZ_set {i : Nat} {ρ : DEnv} {f : DEnv → Om → Prop} (hi : i < ρ.length) : (fun s w1 => nxZ i ρ f (ρ.set i (some s)) w1) = fun (s : Sl) w1 => frz s w1 fun d w2 => f (ρ.set i (some (.dat d))) w2 := by
  funext s w1
  apply propext
  constructor
  · rintro ⟨s', e, q⟩
    have : (ρ.set i (some s))[i]? = (ρ.set i (some s'))[i]? := by rw [e]
    rw [List.getElem?_set_self hi, List.getElem?_set_self hi] at this
    cases this
    exact q
  · exact fun q => ⟨s, rfl, q⟩
theorem ds_fzset {st : Stmt} {i : Nat} (h : DS X W Z st (dAsg te (dName i))) : DS X W Z st (dAsgZ i te) :=
  ps_weak h fun E σ H ⟨ρ, w, D, F, rp, xo, ⟨hi, hh⟩, eo⟩ => by
    refine ⟨ρ, w, D, { F with nx := nxZ i ρ F.nx }, rp, xo, ?_, ⟨?_, eo.rt, eo.bk, eo.ct⟩⟩
    · show te ρ w fun s w1 => nxZ i ρ F.nx (ρ.set i (some s)) w1
      rw [nxZ_set hi]
      exact hh
    · rintro ρ' w' σ' D' H' ⟨s, rfl, q⟩ g r
      obtain ⟨v, h1, h2⟩ := r.slot i s (List.getElem?_set_self hi)
      obtain ⟨d, w2, D2, hk, g2, s2, rd⟩ := frz_ok r.st h2 q
      refine eo.nx _ w2 σ' D2 H' hk (g.trans g2) ⟨s2, by rw [← r.len, List.length_set, List.length_set], fun j t e => ?_⟩
      by_cases z : j = i
      · subst z
        rw [List.getElem?_set_self hi] at e
        cases e
        exact ⟨v, h1, rd⟩
      · rw [List.getElem?_set_ne (Ne.symm z)] at e
        obtain ⟨v', q1, q2⟩ := r.slot j t (by rw [List.getElem?_set_ne (Ne.symm z)]; exact e)
        exact ⟨v', q1, q2.mono g2.dd⟩
/-! ### f-strings -/
def dFmt (te : DTE) : DTE := fun ρ w R => te ρ w fun s w1 => (∃ y : Str, s = .dat (.str y) ∧ y.length ≤ sizeLine ∧ R (.dat (.str y)) w1) ∨ ∃ i : Int, s = .dat (.int i) ∧ i.natAbs.log2 < 1920 ∧ R (.dat (.str (toString i))) w1
theorem de_fmt (he : DE X W Z e te) : DE X W Z (.FormattedValue e (-1) none pos) (dFmt te) :=
  pe_weak (pe_fmt he) fun σ H Q ⟨ρ, w, D, R, rp, xo, h, fi⟩ => ⟨ρ, w, D, _, rp, xo, h, fun s w1 v D1 H1 h1 g1 s1 r1 => by
    rcases h1 with ⟨y, rfl, hl, h1⟩ | ⟨i, rfl, hl, h1⟩
    · exact .inl ⟨y, dr_str r1, hl, (fi.next g1).d s1 h1 (.str y)⟩
    · exact .inr ⟨i, dr_int r1, hl, (fi.next g1).d s1 h1 (.str _)⟩⟩
/-- the parts of an f-string -/
inductive DJ (X : Cx) (W : WX) (Z : DX) : List Expr → List DTE → Prop where
  | nil : DJ X W Z [] []
  | cons {e : Expr} {t : DTE} {es : List Expr} {ts : List DTE} (h : DE X W Z e t) (r : DJ X W Z es ts) : DJ X W Z (e :: es) (t :: ts)
def dJs : List DTE → Str → DEnv → Om → (Str → Om → Prop) → Prop
  | [], acc, _, w, R => R acc w
  | t :: ts, acc, ρ, w, R => t ρ w fun s w1 => ∃ y : Str, s = .dat (.str y) ∧ (acc ++ y).length ≤ sizeLine ∧ dJs ts (acc ++ y) ρ w1 R
theorem DJ.pj {es : List Expr} {ts : List DTE} (h : DJ X W Z es ts) : PJ X es (ts.map (up X.K W Z)) := by
  induction h with
  | nil => exact .nil
  | cons h r ih => exact .cons h ih
theorem js_ok {σ : L2.St} {ρ : DEnv} {Q : Str → Hp → Prop} : ∀ (ts : List DTE) (acc : Str) (w : Om) (D H : Hp) (R : Str → Om → Prop), Rp X.K σ ρ w D H → XOk X.K W Z w D H → dJs ts acc ρ w R → (∀ y w' D' H', R y w' → Gr w D H w' D' H' → StOk X.K w' D' H' → Q y H') → tJs (ts.map (up X.K W Z)) acc σ H Q
  | [], acc, w, D, H, R, rp, xo, h, k => k acc w D H h (Gr.refl _ _ _) rp.st
  | t :: ts, acc, w, D, H, R, rp, xo, h, k => ⟨ρ, w, D, _, rp, xo, h, fun s w1 v D1 H1 h1 g1 s1 r1 => by
    obtain ⟨y, rfl, hl, h1⟩ := h1
    exact ⟨y, dr_str r1, hl, js_ok ts (acc ++ y) w1 D1 H1 R (rp.next g1.dd s1) (xo.next g1) h1 fun z w' D' H' hz g s => k z w' D' H' hz (g1.trans g) s⟩⟩
def dJoin (ts : List DTE) : DTE := fun ρ w R => dJs ts Str.empty ρ w fun y w1 => R (.dat (.str y)) w1
theorem de_joined {v1 v2 : Expr} {rest : List Expr} {ts : List DTE} (h : DJ X W Z (v1 :: v2 :: rest) ts) : DE X W Z (.JoinedStr (v1 :: v2 :: rest) pos) (dJoin ts) :=
  pe_weak (pe_joined h.pj) fun σ H Q ⟨ρ, w, D, R, rp, xo, h, fi⟩ => js_ok ts Str.empty w D H _ rp xo h fun y w' D' H' hR g s => fi (.dat (.str y)) w' (.str y) D' H' hR g s (.str y)
/-! ### methods of texts with arguments -/
abbrev GM := Sl → List Sl → Option Sl
def dTM (g : GM) (to : DTE) (ta : DTA) : DTE := fun ρ w R => to ρ w fun s w1 => ∃ z, s = .dat (.str z) ∧ ta ρ w1 fun ss w2 => ∃ y, g s ss = some y ∧ R y w2
def sw3S : GM := fun s ss => match s, ss with
  | .dat (.str a), [.dat (.str b), .dat (.int i)] => some (.dat (.bool (Txt.startswith3 a b i)))
  | _, _ => none
theorem de_startswith3 {e2 : Expr} {cpos : Pos} (ho : DE X W Z o to) (ha : DA X W Z [e, e2] ta)
    (hbase : attributeBase o "startswith" X.env (eval o X.env) = eval o X.env := by rfl)
    (hfew : ((backTo cpos (starEach [e, e2] X.env)).all (fun x => !x.1) && (backToKw cpos (keywordEach [] X.env)).all (fun x => x.1.isSome)
      && decide ([e, e2].length + ([] : List Keyword).length + (if ([] : List Keyword).isEmpty then 0 else 1) < 30)) = true := by rfl)
    (hline : (apos.endLine == cpos.line) = true := by rfl) (hs : starEach [e, e2] X.env = (false, eval e X.env) :: starEach [e2] X.env := by rfl) (hplain : (backTo cpos (starEach [e2] X.env)).any (·.1) = false := by rfl) :
    DE X W Z (.Call (.Attribute o "startswith" apos) [e, e2] [] cpos) (dTM sw3S to ta) :=
  pe_weak (pe_bm F.plainAttrs_str F.slot_str_startswith F.type_str_startswith mt_startswith3 ho ha hbase hfew hline hs hplain) fun σ H Q ⟨ρ, w, D, R, rp, xo, h, fi⟩ => ⟨ρ, w, D, _, rp, xo, h, fun s w1 v D1 H1 h1 g1 s1 r1 => by
    obtain ⟨z, rfl, h1⟩ := h1
    have rv := dr_str r1
    subst rv
    refine ⟨rfl, ρ, w1, D1, _, rp.next g1.dd s1, xo.next g1, h1, fun ss w2 vs D2 H2 h2 g2 s2 rs => ?_⟩
    obtain ⟨y, e1, hR⟩ := h2
    unfold sw3S at e1
    split at e1
    · rename_i a b i ea
      cases ea
      cases e1
      cases rs with
      | cons q1 rs =>
        cases rs with
        | cons q2 rs =>
          cases rs
          exact ⟨z, b, i, rfl, by rw [dr_str q1, dr_int q2], (fi.next (g1.trans g2)).d s2 hR (.bl _)⟩
    · cases e1⟩
end
end DL

set_option Elab.async false
set_option linter.all false
set_option maxRecDepth 100000
set_option maxHeartbeats 4000000
/-! what may raise: Z tells what is wanted of an exception that leaves -/
namespace DL
open PySem PySem.Spec PyProof.Rows L2
abbrev WF (E : XK) : WX := fun cls d _ H => E cls d H
abbrev XY := Addr → Option (List (Str × Sl)) → Om → Prop
def ZF (Y : XY) : DX := fun _ C x w => ∃ u, Sub u w ∧ Y C x u
section
variable {P : Program} {wd : World} {K : PySem.W.Frag} {mg : Str → Option Value} {base : Heap}
theorem xok_F {w : Om} {D H : Hp} {E : XK} {Y : XY} (h : ∀ C x w' D' H' d, Y C x w' → Gr w D H w' D' H' → StOk K w' D' H' → XR K D' H' d x → E (.ref C) d H') : XOk K (WF E) (ZF Y) w D H :=
  fun σ' ρ' C x w' D' H' d ⟨u, su, hy⟩ g r q => h C x u D' H' d hy (g.sub su) (r.st.sub su) q
/-- THE RULE for a def that may raise -/
theorem Fun.okDX {x qual : Str} {st : Stmt} {f : Addr} {fd : FuncData} {N ps : List Str} {k : Nat} {c : CtX} {tb : DX → DTS} (F : L2.Fun K x qual st f fd) (S : FnScope N ps (defScope st)) (len : ∀ ss w R Y, c ss w R Y → ss.length = ps.length)
    (hb : ∀ (cdv : Value) (A : Around) (outer : List Env) (s : Shared) (H : Hp) (E : XK) (Z : DX), Room k (A.deeper (envOfC qual (defScope st) s.heap.objs.size f cdv)) → DB (cxOf (L2.CX P wd) P wd K mg base N qual (defScope st) f cdv A outer s H E) (WF E) Z (defBody st) (tb Z))
    (rd : ∀ ss w R Y, c ss w R Y → tb (ZF Y) (endsN R) (startD N ss) w) : FnOk P wd K mg base (L2.CX P wd) (k + 1) f fd ps (spX K c) := by
  refine L2.Fun.okX F S (fun vs H Q E h => ?_) (fun cdv A outer s H vs Q E hr h => ?_)
  · obtain ⟨ss, w, D, R, Y, hs, _, hc, _⟩ := h
    rw [Paired.length hs]
    exact len ss w R Y hc
  · obtain ⟨ss, w, D, R, Y, hs, so, hc, fi, hy⟩ := h
    exact ⟨_, hb cdv A outer s H E (ZF Y) hr, startD N ss, w, D, endsN R, rp_start hs so, xok_F hy, rd ss w R Y hc, endsN_ok fi⟩
def cNoX : CtX := fun _ _ _ _ => False
theorem fnok_noX {CX : CXT} {k : Nat} {f : Addr} {fd : FuncData} {ps : List Str} : FnOk P wd K mg base CX k f fd ps (spX K cNoX) :=
  ⟨fun vs H Q E ⟨ss, w, D, R, Y, _, _, h, _⟩ => h.elim, fun A outer s H args us vs Q E hr e0 hb r ⟨ss, w, D, R, Y, _, _, h, _⟩ => h.elim⟩
def prevX (c : Nat → CtX) : Nat → CtX
  | 0 => cNoX
  | n + 1 => c n
theorem rec_okX {CX : CXT} {b : Nat} {f : Addr} {fd : FuncData} {ps : List Str} (c : Nat → CtX) (step : ∀ n, FnOk P wd K mg base CX (b + n) f fd ps (spX K (prevX c n)) → FnOk P wd K mg base CX (b + n + 1) f fd ps (spX K (c n))) :
    ∀ n, FnOk P wd K mg base CX (b + n + 1) f fd ps (spX K (c n))
  | 0 => step 0 fnok_noX
  | n + 1 => step (n + 1) (rec_okX c step n)
end
section
variable {X : Cx} {W : WX} {Z : DX} {o e value : Expr} {es : List Expr} {C : Addr} {pos apos p : Pos} {to te tv : DTE} {ta : DTA}
variable {k : Nat} {f g : Addr} {fd : FuncData} {ps : List Str} {c : CtX} {m x : Str} {ds : List Value} {dvs : List V} {dss : List Sl} {E : XK}
def dCallX (Z : DX) (c : CtX) (ta : DTA) : DTE := fun ρ w R => ta ρ w fun ss w1 => c ss w1 R fun C x w2 => Z ρ C x w2
theorem de_callX (tk : Takes X W) (F : FnOk X.prog X.w X.K X.mg X.base (L2.CX X.prog X.w) k f fd ps (spX X.K c)) (hr : Room k X.A) (hg : Gl X x) (hm : X.mg x = some (.ref f)) (hk : PySem.W.keepIn X.K (.ref f) = true) (hb : Binds X.K fd ps []) (ha : DA X W Z (e :: es) ta)
    (hdb : (x == ("__debug__" : Str)) = false := by decide) (hs : starEach (e :: es) X.env = (false, eval e X.env) :: starEach es X.env := by rfl) (hpl : (backTo pos (starEach es X.env)).any (·.1) = false := by rfl) :
    DE X W Z (.Call (.Name x p) (e :: es) [] pos) (dCallX Z c ta) :=
  pe_weak (pe_callS F hr hg hm hk hb (fun σ => passAt tk σ) ha hdb hs hpl) fun σ H Q ⟨ρ, w, D, R, rp, xo, h, fi⟩ => ⟨ρ, w, D, _, rp, xo, h, fun ss w1 vs D1 H1 h1 g1 s1 rs =>
    ⟨ss, w1, D1, R, _, rs, s1, h1, fi.next g1, fun C x w' D' H' d hz g st q => xo σ ρ C x w' D' H' d hz (g1.trans g) (rp.next (g1.trans g).dd st) q⟩⟩
def dMethX (Z : DX) (C : Addr) (m : Str) (c : CtX) (to : DTE) (ta : DTA) : DTE := fun ρ w R => to ρ w fun s w1 => ∃ a fs, s = .adr a ∧ w1 a = some (.ins C fs) ∧ fs.lookup m = none ∧ ta ρ w1 fun ss w2 => c (.adr a :: ss) w2 R fun C x w3 => Z ρ C x w3
theorem de_methX {pl : Sem Bool} (tk : Takes X (WF E)) (cl : Cls X.K C) (hm : Meth X.K C m g) (F : FnOk X.prog X.w X.K X.mg X.base (L2.CX X.prog X.w) k g fd ps (spX X.K c)) (hr : Room k X.A) (hb : Binds X.K fd ps []) (ho : DE X (WF E) Z o to) (ha : DA X (WF E) Z (e :: es) ta)
    (hst : starEach (e :: es) X.env = (false, eval e X.env) :: starEach es X.env := by rfl) (hpl : (backTo pos (starEach es X.env)).any (·.1) = false := by rfl)
    (ht : eval (.Call (.Attribute o m apos) (e :: es) [] pos) X.env = (do
      let ov ← eval o X.env
      standAt apos.atName
      let (f, first) ← holding [ov] (getMethod ov m pl)
      callWith pos f first (backTo pos (starEach (e :: es) X.env)) (backToKw pos (keywordEach [] X.env))) := by rfl) :
    DE X (WF E) Z (.Call (.Attribute o m apos) (e :: es) [] pos) (dMethX Z C m c to ta) :=
  pe_weak (pe_meth ho cl hm F hr hb .nil (passes_call tk fun _ _ _ _ h => h) ha hst hpl ht) fun σ H Q ⟨ρ, w, D, R, rp, xo, h, fi⟩ => ⟨ρ, w, D, _, rp, xo, h, fun s w1 v D1 H1 h1 g1 s1 r1 => by
    obtain ⟨a, fs, rfl, hw, hl, h1⟩ := h1
    obtain ⟨dx, gs, hH, hf⟩ := s1.own a _ hw
    have r1' : v = .ref a := r1
    refine ⟨a, dx, gs, r1', hH, fl_none hf hl, ρ, w1, D1, _, rp.next g1.dd s1, xo.next g1, h1, fun ss w2 vs D2 H2 h2 g2 s2 rs => ?_⟩
    show spX X.K c (v :: (vs ++ [])) H2 Q E
    rw [List.append_nil]
    exact ⟨_, w2, D2, R, _, .cons (show Vr X.K D2 v (.adr a) from r1') rs, s2, h2, fi.next (g1.trans g2), fun C x w' D' H' d hz g st q => xo σ ρ C x w' D' H' d hz ((g1.trans g2).trans g) (rp.next ((g1.trans g2).trans g).dd st) q⟩⟩
theorem de_meth0X {pl : Sem Bool} (tk : Takes X (WF E)) (cl : Cls X.K C) (hm : Meth X.K C m g) (F : FnOk X.prog X.w X.K X.mg X.base (L2.CX X.prog X.w) k g fd ps (spX X.K c)) (hr : Room k X.A) (hb : Binds X.K fd ps []) (ho : DE X (WF E) Z o to)
    (ht : eval (.Call (.Attribute o m apos) [] [] pos) X.env = (do
      let ov ← eval o X.env
      standAt apos.atName
      let (f, first) ← holding [ov] (getMethod ov m pl)
      callWith pos f first (backTo pos (starEach [] X.env)) (backToKw pos (keywordEach [] X.env))) := by rfl) :
    DE X (WF E) Z (.Call (.Attribute o m apos) [] [] pos) (dMethX Z C m c to dNil) :=
  pe_weak (pe_meth0 ho cl hm F hr hb .nil (passes_call tk fun _ _ _ _ h => h) ht) fun σ H Q ⟨ρ, w, D, R, rp, xo, h, fi⟩ => ⟨ρ, w, D, _, rp, xo, h, fun s w1 v D1 H1 h1 g1 s1 r1 => by
    obtain ⟨a, fs, rfl, hw, hl, h1⟩ := h1
    obtain ⟨dx, gs, hH, hf⟩ := s1.own a _ hw
    have r1' : v = .ref a := r1
    exact ⟨a, dx, gs, r1', hH, fl_none hf hl, _, w1, D1, R, _, .cons r1 .nil, s1, h1, fi.next g1, fun C x w' D' H' d hz g st q => xo σ ρ C x w' D' H' d hz (g1.trans g) (rp.next (g1.trans g).dd st) q⟩⟩
def dMakeX (Z : DX) (C : Addr) (c : CtX) (ta : DTA) : DTE := fun ρ w R => ta ρ w fun ss w1 => ∀ x, w1 x = none → c (.adr x :: ss) (put w1 x (.ins C [])) (fun s w2 => s = .dat .none ∧ R (.adr x) w2) fun C x w2 => Z ρ C x w2
theorem de_makeX (tk : Takes X (WF E)) (M : Mk X.K C g) (F : FnOk X.prog X.w X.K X.mg X.base (L2.CX X.prog X.w) k g fd ps (spX X.K c)) (hr : Room (k + 1) X.A) (hg : Gl X x) (hm : X.mg x = some (.ref C)) (hb : Binds X.K fd ps []) (ha : DA X (WF E) Z (e :: es) ta)
    (hdb : (x == ("__debug__" : Str)) = false := by decide) (he : starEach (e :: es) X.env = (false, eval e X.env) :: starEach es X.env := by rfl) (hpl : (backTo pos (starEach es X.env)).any (·.1) = false := by rfl) :
    DE X (WF E) Z (.Call (.Name x p) (e :: es) [] pos) (dMakeX Z C c ta) :=
  pe_weak (pe_make M F hr hg hm hb .nil (passes_call tk fun _ _ _ _ h => h) ha hdb he hpl) fun σ H Q ⟨ρ, w, D, R, rp, xo, h, fi⟩ => ⟨ρ, w, D, _, rp, xo, h, fun ss w1 vs D1 H1 h1 g1 s1 rs => by
    intro x dx hx hdx ne
    have s2 : StOk X.K w1 D1 (upd H1 dx (.own x)) := s1.junk (s1.freeW hdx) (s1.freeD hdx)
    have g2 : Gr w1 D1 H1 w1 D1 (upd H1 dx (.own x)) := (Gr.refl w1 D1 H1).junk hdx
    have hx2 : (upd H1 dx (.own x)) x = none := by rw [upd_ne (Ne.symm ne)]; exact hx
    have s3 : StOk X.K (put w1 x (.ins C [])) D1 (upd (upd H1 dx (.own x)) x (.ins C dx [])) := s2.newW hx2 ⟨dx, [], upd_same, .nil⟩
    have g3 : Gr w1 D1 (upd H1 dx (.own x)) (put w1 x (.ins C [])) D1 (upd (upd H1 dx (.own x)) x (.ins C dx [])) := Gr.newW s2 hx2
    have gg := (g1.trans g2).trans g3
    rw [List.append_nil]
    refine ⟨_, _, D1, _, _, .cons (show Vr X.K D1 (.ref x) (.adr x) from rfl) rs, s3, h1 x (s1.freeW hx), ?_, fun C x w' D' H' d hz g st q => xo σ ρ C x w' D' H' d hz (gg.trans g) (rp.next (gg.trans g).dd st) q⟩
    intro s w' z D' H' ⟨e1, hR⟩ g st r
    subst e1
    cases r
    exact ⟨rfl, fi (.adr x) w' (.ref x) D' H' hR (gg.trans g) st rfl⟩⟩
/-- raise X('m'), an own class without an own __init__ -/
def dRaise (Z : DX) (C : Addr) : DTS := fun _ ρ w => Z ρ C none w
theorem ds_raise {bmB : List Value} {B newId initId : String} {mm : Str} {j : Nat} {p2 p3 : Pos} (hc : X.calm = true) (tk : Takes X W) (Fx : ExcBaseFacts B newId initId bmB) (q : PySem.W.excIn X.K C bmB newId = true) (gC : X.mg x = some (.ref C)) (kC : PySem.W.keepIn X.K (.ref C) = true) (r : Raises X (.ref C)) (hg : Gl X x)
    (hdb : (x == ("__debug__" : Str)) = false := by decide) : DS X W Z (.Raise (some (.Call (.Name x p) [.Constant (.str mm) j p2] [] pos)) none p3) (dRaise Z C) :=
  ps_weak (ps_raise hc tk (pmk_own Fx q gC kC r hg hdb)) fun E σ H ⟨ρ, w, D, F, rp, xo, h, eo⟩ => xo σ ρ C none w D H none h (Gr.refl _ _ _) rp rfl
/-! ### try .. except x as n, all that is raised is of the class CN -/
def endsT (i : Nat) (F : DEnds) : DEnds := { nx := fun ρ w => F.nx (ρ.set i none) w, rt := F.rt, bk := fun ρ w => F.bk (ρ.set i none) w, ct := fun ρ w => F.ct (ρ.set i none) w }
def zTry (CN : Addr) (i : Nat) (ts : Addr → DTS) (F : DEnds) : DX := fun ρ C x w => C = CN ∧ x = none ∧ ∀ a, w a = none → ts a (endsT i F) (ρ.set i (some (.adr a))) w
def dTry (CN : Addr) (i : Nat) (tb : DX → DTS) (ts : Addr → DTS) : DTS := fun F ρ w => tb (zTry CN i ts F) F ρ w
theorem Rp.unset {K : PySem.W.Frag} {σ : L2.St} {ρ : DEnv} {w : Om} {D H : Hp} (r : Rp K σ ρ w D H) (i : Nat) : Rp K (σ.set i none) (ρ.set i none) w D H := by
  refine ⟨r.st, by rw [List.length_set, List.length_set]; exact r.len, fun j t e => ?_⟩
  by_cases z : j = i
  · subst z
    by_cases hl : j < ρ.length
    · rw [List.getElem?_set_self hl] at e; cases e
    · rw [List.getElem?_eq_none (by rw [List.length_set]; omega)] at e; cases e
  · rw [List.getElem?_set_ne (Ne.symm z)] at e ⊢
    exact r.slot j t e
theorem ds_try {n xc : Str} {cv : Value} {CN : Addr} {i : Nat} {body suite : List Stmt} {b₀ : Stmt} {np pos pos' : Pos} {tb : DX → DTS} {ts : Addr → DTS} {Wo : WX} {Zo : DX} (hs : X.stack = X.env :: X.outer) (hf : X.env.frame = some X.env.locals) (hN : X.N.Nodup) (hi : X.N[i]? = some n) (hln : X.env.kindOf n = some .local)
    (hc : Names X xc cv) (hx : PySem.W.exmOne X.K (.ref CN) cv = some true)
    (hb : ∀ (W : WX) (Z : DX) (pn : List (Addr × Obj)) (xe : Value → Shared → Prop), Takes (X.tr pn xe) W → PassesOwn (model X.prog X.w) X.A X.env xe → DB (X.tr pn xe) W Z body (tb Z))
    (hsu : ∀ (a : Addr) (oe : Obj) (pn : List (Addr × Obj)), Zc (.ref CN) none oe → (∃ vs, oe.data = .fields vs) → DB (X.suite a ((a, oe) :: pn)) WT ZT (b₀ :: suite) (ts a)) :
    DS X Wo Zo (.Try body [.ExceptHandler (some (.Name xc np)) (some n) (b₀ :: suite) pos'] [] [] pos) (dTry CN i tb ts) := by
  refine ps_weak (ps_try_as (i := i) (tb := fun W => fun D σ H => ∃ Z, ups X.K W Z (tb Z) D σ H) (ts := fun a cls d => fun D σ H => cls = .ref CN ∧ d = none ∧ ups X.K WT ZT (ts a) D σ H) (Wout := fun _ _ _ _ => False) hs hf hN hi hln hc takes0 (fun W pn xe tk po => ?_) (fun a oe cls d pn hz hd => ?_)) fun E σ H ⟨ρ, w, D, F, rp, xo, h, eo⟩ => ?_
  · exact ⟨fun pins s σ H D I ⟨Z, q⟩ => (hb W Z pn xe tk po).run pins s σ H D I q⟩
  · refine ⟨fun pins s σ H D I ⟨e1, e2, q⟩ => ?_⟩
    subst e1 e2
    exact (hsu a oe pn hz hd).run pins s σ H D I q
  · refine ⟨zTry CN i ts F, ρ, w, D, F, rp, ?_, h, eo⟩
    rintro σ' ρ' C x w' D' H' d ⟨rfl, rfl, hh⟩ g r q
    have q' : d = none := q
    subst q'
    refine ⟨true, hx, fun _ a ha => ⟨rfl, rfl, ρ'.set i (some (.adr a)), w', D', endsT i F, r.set i rfl, xok_T, hh a (r.st.freeW ha), ?_⟩, fun z => nomatch z⟩
    exact ⟨fun ρ2 w2 σ2 D2 H2 hn g2 r2 => eo.nx _ w2 _ D2 H2 hn (g.trans g2) (r2.unset i), eo.rt.next g, fun ρ2 w2 σ2 D2 H2 hn g2 r2 => eo.bk _ w2 _ D2 H2 hn (g.trans g2) (r2.unset i), fun ρ2 w2 σ2 D2 H2 hn g2 r2 => eo.ct _ w2 _ D2 H2 hn (g.trans g2) (r2.unset i)⟩
end
end DL

set_option Elab.async false
set_option linter.all false
set_option maxRecDepth 100000
set_option maxHeartbeats 4000000
namespace DL
open PySem PySem.Spec PyProof.Rows L2
section
variable {X : Cx} {W : WX} {Z : DX} {K : PySem.W.Frag} {o e a b : Expr} {es : List Expr} {pos apos cpos p : Pos} {to te : DTE} {ta tb : DTE} {tr : DTA}
/-- never reached -/
def dNeverE : DTE := fun _ _ _ => False
theorem de_never : DE X W Z e dNeverE := ⟨fun pins s σ H Q I ⟨ρ, w, D, R, rp, xo, h, f⟩ => h.elim⟩
/-! ### xs.append(e), of a list of the store -/
def dApp (to : DTE) (te : DTE) : DTE := fun ρ w R => to ρ w fun s w1 => ∃ q xs0, s = .adr q ∧ w1 q = some (.lst xs0) ∧ te ρ w1 fun y w2 => ∃ xs, w2 q = some (.lst xs) ∧ xs.length < sizeLine ∧ R (.dat .none) (put w2 q (.lst (xs ++ [y])))
theorem de_append (ho : DE X W Z o to) (he : DE X W Z e te) (hbase : attributeBase o "append" X.env (eval o X.env) = eval o X.env := by rfl)
    (hfew : ((backTo cpos (starEach [e] X.env)).all (fun x => !x.1) && (backToKw cpos (keywordEach [] X.env)).all (fun x => x.1.isSome)
      && decide ([e].length + ([] : List Keyword).length + (if ([] : List Keyword).isEmpty then 0 else 1) < 30)) = true := by rfl)
    (hline : (apos.endLine == cpos.line) = true := by rfl) (hs : starEach [e] X.env = (false, eval e X.env) :: starEach [] X.env := by rfl) (hplain : (backTo cpos (starEach [] X.env)).any (·.1) = false := by rfl) :
    DE X W Z (.Call (.Attribute o "append" apos) [e] [] cpos) (dApp to te) :=
  pe_weak (pe_bm PySem.F.plainAttrs_list PySem.F.slot_list_append PySem.F.type_list_append mt_append ho (pa_cons he pa_nil hs) hbase hfew hline hs hplain) fun σ H Q ⟨ρ, w, D, R, rp, xo, h, fi⟩ => ⟨ρ, w, D, _, rp, xo, h, fun s w1 v D1 H1 h1 g1 s1 r1 => by
    obtain ⟨q, xs0, rfl, hw, h1⟩ := h1
    obtain ⟨vs0, hH, hv⟩ := s1.own q _ hw
    have r1' : v = .ref q := r1
    subst r1'
    refine ⟨.inl ⟨rfl, vs0, SqL.of hH⟩, ρ, w1, D1, _, rp.next g1.dd s1, xo.next g1, h1, fun y w2 u D2 H2 h2 g2 s2 r2 => ?_⟩
    obtain ⟨xs, hw2, hl, hR⟩ := h2
    obtain ⟨vs, hH2, hv2⟩ := s2.own q _ hw2
    refine ⟨q, vs, u, rfl, rfl, hH2, by rw [Paired.length hv2]; exact hl, ?_⟩
    have ok : OwnOk X.K D2 (upd H2 q (.lst (vs ++ [u]))) q (.lst (xs ++ [y])) := ⟨_, upd_same, SlA.snoc hv2 r2⟩
    have g3 : Gr w2 D2 H2 (put w2 q (.lst (xs ++ [y]))) D2 (upd H2 q (.lst (vs ++ [u]))) := Gr.write hw2
    exact fi (.dat .none) _ .non D2 _ hR ((g1.trans g2).trans g3) (s2.write hw2 ok) .non⟩
/-! ### t.join(xs) -/
def strOf : Sl → Option Str
  | .dat (.str z) => some z
  | _ => none
def dJoinL (to te : DTE) : DTE := fun ρ w R => to ρ w fun s w1 => ∃ z, s = .dat (.str z) ∧ te ρ w1 fun y w2 => ∃ xs ys, sq w2 y = some xs ∧ xs = ys.map (fun t => Sl.dat (.str t)) ∧ (ys.map (·.length)).sum + ys.length * z.length ≤ 16777216 ∧ R (.dat (.str (Txt.join z ys))) w2
theorem sla_strs {D : Hp} : ∀ {ys : List Str} {vs : List V}, SlA K D vs (ys.map fun t => Sl.dat (.str t)) → vs = ys.map V.str
  | [], _, .nil => rfl
  | y :: ys, _, .cons h hs => by
    rw [sla_strs hs]
    have := dr_str h
    rw [this]
    rfl
theorem de_join (ho : DE X W Z o to) (he : DE X W Z e te) (hs : starEach [e] X.env = [(false, eval e X.env)] := by rfl) (hbase : attributeBase o "join" X.env (eval o X.env) = eval o X.env := by rfl) (hline : (apos.endLine == pos.line) = true := by rfl) :
    DE X W Z (.Call (.Attribute o "join" apos) [e] [] pos) (dJoinL to te) :=
  pe_weak (pe_join ho he hs hbase hline) fun σ H Q ⟨ρ, w, D, R, rp, xo, h, fi⟩ => ⟨ρ, w, D, _, rp, xo, h, fun s w1 v D1 H1 h1 g1 s1 r1 => by
    obtain ⟨z, rfl, h1⟩ := h1
    refine ⟨⟨z, dr_str r1⟩, ρ, w1, D1, _, rp.next g1.dd s1, xo.next g1, h1, fun y w2 u D2 H2 h2 g2 s2 r2 => ?_⟩
    obtain ⟨xs, ys, e1, e2, hz, hR⟩ := h2
    subst e2
    obtain ⟨q, vs, rfl, hq, hv⟩ := sq_ok s2 r2 e1
    have ev := sla_strs hv
    subst ev
    exact ⟨z, q, ys, dr_str r1, rfl, hq, hz, (fi.next (g1.trans g2)).d s2 hR (.str _)⟩⟩
/-! ### int(True) -/
def intBS : GN := fun _ ss => match ss with
  | [.dat (.bool k)] => some (.v (.dat (.int (if k then 1 else 0))))
  | [.dat (.int i)] => some (.v (.dat (.int i)))
  | _ => none
theorem cv_intB : CV K (fun xs H Q => (∃ i, xs = [.int i] ∧ Q (.int i) H) ∨ ∃ k, xs = [.bl k] ∧ Q (.int (if k then 1 else 0)) H) intBS := fun ss vs w D H o R Q st rv e ho f => by
  unfold intBS at e
  split at e
  · cases e
    obtain ⟨v, rfl, r⟩ := sla1 rv
    exact .inr ⟨_, by rw [dr_bool r], f.d st ho (.int _)⟩
  · cases e
    obtain ⟨v, rfl, r⟩ := sla1 rv
    exact .inl ⟨_, by rw [dr_int r], f.d st ho (.int _)⟩
  · cases e
theorem de_int1 (hg : Gl X "int") (hm : X.mg "int" = none) (ha : DA X W Z [a] tr) (hs : starEach [a] X.env = (false, eval a X.env) :: starEach [] X.env := by rfl) (hpl : (backTo pos (starEach [] X.env)).any (·.1) = false := by rfl) :
    DE X W Z (.Call (.Name "int" p) [a] [] pos) (dCB intBS tr) := de_callTy call_int1 cv_intB hg hm (by decide +kernel) ha (by decide) (by decide) hs hpl
/-! ### x in xs, of data without dicts, xs a list -/
def inDS (n : Bool) : G2 := fun w x y => (rs w x).bind fun d => (rs w y).bind fun e => match e with
  | .list ds => if (SeqAt.shaped d && SeqAt.shaped (.list ds)) = true then some (.v (.dat (.bool ((ds.any fun z => PyData.eqv z d) != n)))) else none
  | _ => none
theorem inDS_ok {n : Bool} {w : Om} {x y : Sl} {d : PyData} {ds : List PyData} (h1 : rs w x = some d) (h2 : rs w y = some (.list ds)) (h3 : SeqAt.shaped d = true) (h4 : SeqAt.shaped (.list ds) = true) : inDS n w x y = some (.v (.dat (.bool ((ds.any fun z => PyData.eqv z d) != n)))) := by
  unfold inDS
  rw [h1]
  show ((rs w y).bind _) = _
  rw [h2]
  show (if (SeqAt.shaped d && SeqAt.shaped (.list ds)) = true then _ else _) = _
  rw [h3, h4]; rfl
theorem inDS_inv {n : Bool} {w : Om} {x y : Sl} {o : Ou} (e : inDS n w x y = some o) : ∃ d ds, rs w x = some d ∧ rs w y = some (.list ds) ∧ SeqAt.shaped d = true ∧ SeqAt.shaped (.list ds) = true ∧ o = .v (.dat (.bool ((ds.any fun z => PyData.eqv z d) != n))) := by
  unfold inDS at e
  cases q1 : rs w x with
  | none => rw [q1] at e; cases e
  | some d =>
    rw [q1] at e
    cases q2 : rs w y with
    | none => rw [q2] at e; cases e
    | some d' =>
      rw [q2] at e
      cases d' with
      | list ds =>
        have e2 : (if (SeqAt.shaped d && SeqAt.shaped (.list ds)) = true then some (Ou.v (.dat (.bool ((ds.any fun z => PyData.eqv z d) != n)))) else none) = some o := e
        by_cases c : (SeqAt.shaped d && SeqAt.shaped (.list ds)) = true
        · rw [if_pos c] at e2
          cases e2
          rw [Bool.and_eq_true] at c
          exact ⟨d, ds, rfl, rfl, c.1, c.2, rfl⟩
        · rw [if_neg c] at e2; cases e2
      | _ => cases e
theorem ov_inD : OpV K (rInD K) (inDS false) := fun x y v u w D H o R Q st rx ry e ho f => by
  obtain ⟨d, ds, q1, q2, h1, h2, rfl⟩ := inDS_inv e
  obtain ⟨D1, s1, r1⟩ := rs_ok st rx q1
  obtain ⟨D2, s2, r2⟩ := rs_ok st ry q2
  refine ⟨d, ds, Dr.dp s1 r1 (SeqAt.canLay_of_shaped h1), Dr.dp s2 r2 (SeqAt.canLay_of_shaped h2), h1, h2, ?_⟩
  rw [Bool.bne_false] at ho
  exact f.d st ho (.bl _)
theorem de_inD (hu : X.A.units + 65 < cLine) (ha : DE X W Z a ta) (hb : DE X W Z b tb) (hm : behindInMarks .In b = false := by rfl) : DE X W Z (.Compare a [.In] [b] pos) (dOp (inDS false) ta tb) := de_cmp (op_inD hu) ov_inD ha hb hm
theorem dt_inD (hu : X.A.units + 65 < cLine) (ha : DE X W Z a ta) (hb : DE X W Z b tb) (hm : behindInMarks .In b = false := by rfl) : DT X W Z (.Compare a [.In] [b] pos) (dTst (dOp (inDS false) ta tb)) := dt_cmp (op_inD hu) ov_inD ha hb hm
/-! ### text * int -/
def repS (z : Str) (n : Int) : Str := ⟨(List.replicate n.toNat z.cps.toList).flatten.toArray⟩
def gMulS : G2 := fun _ x y => match x, y with
  | .dat (.str z), .dat (.int n) => if 0 ≤ n ∧ n < 2 ^ 40 ∧ z.length * n.toNat ≤ sizeLine then some (.v (.dat (.str (repS z n)))) else none
  | _, _ => none
theorem foldl_app (z : Array Nat) : ∀ (m : Nat) (acc : Array Nat), ((List.replicate m z).foldl (· ++ ·) acc).toList = acc.toList ++ (List.replicate m z.toList).flatten
  | 0, acc => by simp
  | m + 1, acc => by
    rw [List.replicate_succ, List.foldl_cons, foldl_app z m, List.replicate_succ, List.flatten_cons, Array.toList_append, List.append_assoc]
theorem op_mulS : OpR X (binaryOp .Mult) (fun x y H Q => ∃ z n, x = .str z ∧ y = .int n ∧ 0 ≤ n ∧ n < 2 ^ 40 ∧ z.length * n.toNat ≤ sizeLine ∧ Q (.str (repS z n)) H) := by
  intro pins s σ H x y v u Q I rx ry h
  obtain ⟨z, n, rfl, rfl, h0, h1, h2, q⟩ := h
  obtain ⟨t, rfl⟩ := rx
  obtain ⟨t', rfl⟩ := ry
  have sl : sizeLine = 16777216 := by decide
  refine PySem.P.mul_str ?_ ?_ ?_ ?_
  · rw [decide_eq_false (by omega), decide_eq_false (by omega)]; rfl
  · intro n1 hx hgt
    have hn : 0 < n := by omega
    have hz : (z.length : Int) ≤ 16777216 := by
      have : z.length * 1 ≤ z.length * n.toNat := Nat.mul_le_mul_left _ (by omega)
      omega
    have h3 : (2 : Int) ^ 22 ≤ (2 ^ 63 - 1) / n := by
      rw [Int.le_ediv_iff_mul_le hn]
      have : (2 : Int) ^ 22 * n ≤ 2 ^ 22 * 2 ^ 40 := Int.mul_le_mul_of_nonneg_left (by omega) (by decide)
      omega
    have h4 : (z.length : Int) * n ≤ 16777216 := by
      have e : n = ((n.toNat : Nat) : Int) := by omega
      rw [e, ← Int.natCast_mul]
      omega
    have h5 : (z.length : Int) ≤ (2 ^ 63 - 1) / n := by
      rw [Int.le_ediv_iff_mul_le hn]
      omega
    omega
  · intro _ _
    show decide (z.length * n.toNat > sizeLine) = false
    rw [decide_eq_false_iff_not]
    omega
  · by_cases hn : n < 1
    · rw [if_pos hn]
      have e : n.toNat = 0 := by omega
      refine ⟨by decide, .str (repS z n), H, I.tok _, ⟨s.toks, ?_⟩, q⟩
      unfold repS
      rw [e]
      rfl
    · rw [if_neg hn]
      by_cases hc : (n == 1 || z.length == 0) = true
      · rw [if_pos hc]
        refine ⟨.str (repS z n), H, I, ⟨t, ?_⟩, q⟩
        have : repS z n = z := by
          rw [Bool.or_eq_true] at hc
          obtain ⟨⟨zl⟩⟩ := z
          unfold repS
          rcases hc with hc | hc
          · have : n = 1 := by simpa using hc
            subst this
            simp
          · have : zl = [] := by simpa [Str.length] using hc
            subst this
            simp
        rw [this]
      · rw [if_neg hc]
        have e : (⟨(List.replicate n.toNat z.cps).foldl (· ++ ·) #[]⟩ : Str) = repS z n := by
          unfold repS
          congr 1
          apply Array.toList_inj.mp
          rw [foldl_app]
          simp
        rw [e]
        refine ⟨?_, .str (repS z n), H, I.tok _, ⟨_, rfl⟩, q⟩
        have : (repS z n).length = z.length * n.toNat := by
          unfold repS
          simp [Str.length, Nat.mul_comm]
        omega
theorem ov_mulS : OpV K (fun x y H Q => ∃ z n, x = .str z ∧ y = .int n ∧ 0 ≤ n ∧ n < 2 ^ 40 ∧ z.length * n.toNat ≤ sizeLine ∧ Q (.str (repS z n)) H) gMulS := fun x y v u w D H o R Q st rx ry e ho f => by
  unfold gMulS at e
  split at e
  · split at e
    · rename_i h
      cases e
      exact ⟨_, _, dr_str rx, dr_int ry, h.1, h.2.1, h.2.2, f.d st ho (.str _)⟩
    · cases e
  · cases e
theorem de_mulS (ha : DE X W Z a ta) (hb : DE X W Z b tb) : DE X W Z (.BinOp a .Mult b pos) (dOp gMulS ta tb) := de_op op_mulS ov_mulS ha hb
end
end DL

set_option Elab.async false
set_option linter.all false
set_option maxRecDepth 100000
set_option maxHeartbeats 4000000
namespace DL
open PySem PySem.Spec PyProof.Rows L2
/-! ### isinstance of the caught exception -/
section
variable {X : Cx} {W : WX} {Z : DX} {e : Expr} {te : DTE} {pos p1 p2 p4 : Pos} {a D : Addr} {oe : Obj} {pn : List (Addr × Obj)}
def dIsEx (a : Addr) (b : Bool) (te : DTE) : DTE := fun ρ w R => te ρ w fun s w1 => s = .adr a ∧ R (.dat (.bool b)) w1
theorem de_isE {tn : Str} {C : Addr} {b : Bool} (cD : ExcC X.K D) (hz : Zc (.ref D) none oe) (hf : ∃ vs, oe.data = .fields vs) (he : DE (X.suite a ((a, oe) :: pn)) W Z e te) (hg : Gl X "isinstance") (hm : X.mg "isinstance" = none) (hgT : Gl X tn) (hmT : X.mg tn = some (.ref C)) (hk : PySem.W.kitOne X.K (.ref D) (.ref C) = some b) (hd : (tn == ("__debug__" : Str)) = false := by decide)
    (hs : starEach [e, .Name tn p2] (X.suite a ((a, oe) :: pn)).env = (false, eval e (X.suite a ((a, oe) :: pn)).env) :: starEach [.Name tn p2] (X.suite a ((a, oe) :: pn)).env := by rfl) (hpl : (backTo pos (starEach [.Name tn p2] (X.suite a ((a, oe) :: pn)).env)).any (·.1) = false := by rfl) :
    DE (X.suite a ((a, oe) :: pn)) W Z (.Call (.Name "isinstance" p1) [e, .Name tn p2] [] pos) (dIsEx a b te) :=
  pe_weak (pe_callB (X := X.suite a ((a, oe) :: pn)) (call_isE cD hz hf) hg hm (by decide +kernel) (pa_cons he (pa_cons (pe_glob (X := X.suite a ((a, oe) :: pn)) (v := .ref C) hgT hmT rfl hd) pa_nil) hs) (by decide) (by decide) hs hpl) fun σ H Q ⟨ρ, w, D, R, rp, xo, h, f⟩ => ⟨ρ, w, D, _, rp, xo, h, fun s w1 v D1 H1 h1 g1 s1 r1 => by
    obtain ⟨rfl, h1⟩ := h1
    have r1' : v = .ref a := r1
    exact ⟨.ref C, .ref C, b, by rw [r1'], fun u hu => hu, hk, (f.next g1).d s1 h1 (.bl b)⟩⟩
theorem de_isEB {tn : Str} {T : String} {b : Bool} (cD : ExcC X.K D) (hz : Zc (.ref D) none oe) (hf : ∃ vs, oe.data = .fields vs) (he : DE (X.suite a ((a, oe) :: pn)) W Z e te) (hg : Gl X "isinstance") (hm : X.mg "isinstance" = none) (hgT : Gl X tn) (hmT : X.mg tn = none) (hT : bootBuiltins tn = some (.type T)) (hk : PySem.W.kitOne X.K (.ref D) (.type T) = some b) (hn : tn ≠ "__name__" := by decide) (hd : (tn == ("__debug__" : Str)) = false := by decide)
    (hs : starEach [e, .Name tn p2] (X.suite a ((a, oe) :: pn)).env = (false, eval e (X.suite a ((a, oe) :: pn)).env) :: starEach [.Name tn p2] (X.suite a ((a, oe) :: pn)).env := by rfl) (hpl : (backTo pos (starEach [.Name tn p2] (X.suite a ((a, oe) :: pn)).env)).any (·.1) = false := by rfl) :
    DE (X.suite a ((a, oe) :: pn)) W Z (.Call (.Name "isinstance" p1) [e, .Name tn p2] [] pos) (dIsEx a b te) :=
  pe_weak (pe_callB (X := X.suite a ((a, oe) :: pn)) (call_isE cD hz hf) hg hm (by decide +kernel) (pa_cons he (pa_cons (pe_bltn (X := X.suite a ((a, oe) :: pn)) (v := .ty T) hgT hmT hT rfl hn hd) pa_nil) hs) (by decide) (by decide) hs hpl) fun σ H Q ⟨ρ, w, D, R, rp, xo, h, f⟩ => ⟨ρ, w, D, _, rp, xo, h, fun s w1 v D1 H1 h1 g1 s1 r1 => by
    obtain ⟨rfl, h1⟩ := h1
    have r1' : v = .ref a := r1
    exact ⟨.ty T, .type T, b, by rw [r1'], fun u hu => hu, hk, (f.next g1).d s1 h1 (.bl b)⟩⟩
/-- names of own classes, one behind another -/
inductive CNs (X : Cx) : List Expr → List Addr → Prop
  | nil : CNs X [] []
  | cons {x : Str} {p : Pos} {C : Addr} {es : List Expr} {Cs : List Addr} (hg : Gl X x) (hm : X.mg x = some (.ref C)) (hd : (x == ("__debug__" : Str)) = false) (r : CNs X es Cs) : CNs X (.Name x p :: es) (C :: Cs)
theorem CNs.pa {X : Cx} {es : List Expr} {Cs : List Addr} (h : CNs X es Cs) : PA X es (fun _ H Q => Q (Cs.map V.ref) H) := by
  induction h with
  | nil => exact pa_nil
  | cons hg hm hd r ih => exact pa_cons (pe_glob (v := .ref _) hg hm rfl hd) ih
theorem cls_all : ∀ Cs : List Addr, Paired ClsV (Cs.map V.ref) (Cs.map Value.ref)
  | [] => .nil
  | C :: Cs => .cons (.own C) (cls_all Cs)
def rIsET (K : PySem.W.Frag) (D a : Addr) : List V → Hp → VK → Prop := fun xs H Q => ∃ (tp : Addr) (cs : List V) (us : List Value) (b : Bool), xs = [.ref a, .ref tp] ∧ H tp = some (.tup cs) ∧ Paired ClsV cs us ∧ PySem.W.kitAny K (.ref D) us = some b ∧ Q (.bl b) H
theorem call_isET (C : ExcC X.K D) (hz : Zc (.ref D) none oe) (hf : ∃ vs, oe.data = .fields vs) : CallR (X.suite a ((a, oe) :: pn)) (.builtin "isinstance") (rIsET X.K D a) := by
  intro pins s σ H xs us Q I r hh
  obtain ⟨tp, cs, ws, b, rfl, hT, hk, hb, q⟩ := hh
  obtain ⟨v1, v2, rfl, q1, q2⟩ := vals2 r
  obtain rfl : v1 = Value.ref a := q1
  obtain rfl : v2 = Value.ref tp := q2
  obtain ⟨got, _⟩ := I.pin (a, oe) (List.mem_append.mpr (.inl List.mem_cons_self))
  obtain ⟨fl, hfl⟩ := hf
  have at_ : PySem.W.InstAt s.heap a oe D none := by
    obtain ⟨x1, x2, x3, x4⟩ := oe
    obtain ⟨z1, z2⟩ := hz
    dsimp only at z1 z2 hfl
    subst z1 z2 hfl
    exact ⟨got, rfl, rfl, trivial⟩
  obtain ⟨_, its, rv, ob, o1, o2, n, o3⟩ := (show ObjOk X.prog X.w H s.heap tp (.tup cs) from I.hok tp _ hT)
  have ew := ClsV.all hk rv
  subst ew
  obtain ⟨y1, y2, y3, y4⟩ := ob
  simp only at o2 o3
  subst o2 o3
  exact PySem.W.kia_tup (PySem.W.handS_kitx_exc C.hg C.hk C.hs C.hd C.ha C.hn C.ht C.hm) I.kIn at_ o1 hb (fun z => nomatch z) fun tk => ⟨.bl b, H, I.kept (t' := tk) fun _ _ z => z, rfl, q⟩
theorem de_isET {es : List Expr} {Cs : List Addr} {b : Bool} {kk : Nat} (cD : ExcC X.K D) (hz : Zc (.ref D) none oe) (hf : ∃ vs, oe.data = .fields vs) (he : DE (X.suite a ((a, oe) :: pn)) W Z e te) (hg : Gl X "isinstance") (hm : X.mg "isinstance" = none) (hC : CNs (X.suite a ((a, oe) :: pn)) es Cs) (hl : Cs.length ≤ 1000) (hk : PySem.W.kitAny X.K (.ref D) (Cs.map Value.ref) = some b)
    (hs : starEach [e, .Tuple es kk p4] (X.suite a ((a, oe) :: pn)).env = (false, eval e (X.suite a ((a, oe) :: pn)).env) :: starEach [.Tuple es kk p4] (X.suite a ((a, oe) :: pn)).env := by rfl) (hpl : (backTo pos (starEach [.Tuple es kk p4] (X.suite a ((a, oe) :: pn)).env)).any (·.1) = false := by rfl) :
    DE (X.suite a ((a, oe) :: pn)) W Z (.Call (.Name "isinstance" p1) [e, .Tuple es kk p4] [] pos) (dIsEx a b te) :=
  pe_weak (pe_callB (X := X.suite a ((a, oe) :: pn)) (call_isET cD hz hf) hg hm (by decide +kernel) (pa_cons he (pa_cons (pe_tup hC.pa) pa_nil) hs) (by decide) (by decide) hs hpl) fun σ H Q ⟨ρ, w, D, R, rp, xo, h, f⟩ => ⟨ρ, w, D, _, rp, xo, h, fun s w1 v D1 H1 h1 g1 s1 r1 => by
    obtain ⟨rfl, h1⟩ := h1
    have r1' : v = .ref a := r1
    refine ⟨by rw [List.length_map]; exact Nat.le_trans hl (by decide), fun q hq => ?_⟩
    have s2 : StOk X.K w1 D1 (upd H1 q (.tup (Cs.map V.ref))) := s1.junk (s1.freeW hq) (s1.freeD hq)
    have g2 : Gr w1 D1 H1 w1 D1 (upd H1 q (.tup (Cs.map V.ref))) := (Gr.refl w1 D1 H1).junk hq
    exact ⟨q, Cs.map V.ref, Cs.map Value.ref, b, by rw [r1'], upd_same, cls_all Cs, hk, ((f.next g1).next g2).d s2 h1 (.bl b)⟩⟩
end
/-! ### text[::-1]: some text, no longer -/
section
variable {X : Cx} {W : WX} {Z : DX} {e : Expr} {te : DTE} {pos : Pos}
def dRevS (te : DTE) : DTE := fun ρ w R => te ρ w fun s w1 => ∃ z, s = .dat (.str z) ∧ z.length ≤ sizeLine ∧ ∀ y : Str, y.length ≤ z.length → R (.dat (.str y)) w1
theorem back_len (n : Nat) : (Builtin.Str.strSliceIndices none none (-1) n).length ≤ n := by
  show (sliceRange ((n : Int) - 1) (-1) (-1)).length ≤ n
  unfold sliceRange
  simp only [List.length_map, List.length_range]
  rw [if_neg (by decide)]
  by_cases h : ((n : Int) - 1) > -1
  · rw [if_pos h]
    have : ((n : Int) - 1 - -1 - -1 - 1) / (- -1) = n := by
      rw [show ((n : Int) - 1 - -1 - -1 - 1) = n by omega, show (- -1 : Int) = 1 by decide, Int.ediv_one]
    rw [this]
    omega
  · rw [if_neg h]; simp
theorem pe_back {t0 : TE} {k : Nat} {q1 q2 q3 : Pos} (he : PE X e t0) : PE X (.Subscript e (.Slice none none (some (.UnaryOp .USub (.Constant (.int 1) k q1) q2)) q3) pos)
    (fun σ H Q => t0 σ H fun x H1 => ∃ z, x = .str z ∧ z.length ≤ sizeLine ∧ ∀ y : Str, y.length ≤ z.length → Q (.str y) H1) := by
  refine ⟨fun pins s σ H Q I hh => ?_⟩
  refine Subscript_ (thn (he.run pins s σ H _ I hh) fun v s1 ⟨x, G1, J1, rx, z, ez, hz, hq⟩ => ?_)
  subst ez
  obtain ⟨tz, rfl⟩ := rx
  have step : PO X (some (.UnaryOp .USub (.Constant (.int 1) k q1) q2)) (tPart (tUn (rU fun i => .int (-i)) (tC (.int 1)))) := po_some (pe_un un_neg pe_int)
  refine wpAny_Slice (thn (po_none.run pins s1 σ G1 (fun o G => o = none ∧ G = G1) J1 ⟨rfl, rfl⟩) fun v2 s2 ⟨o2, G2, J2, y2, z2, w2⟩ => ?_)
  subst z2 w2
  refine thn (po_none.run pins s2 σ G2 (fun o G => o = none ∧ G = G2) J2 ⟨rfl, rfl⟩) fun v3 s3 ⟨o3, G3, J3, y3, z3, w3⟩ => ?_
  subst z3 w3
  refine thn (step.run pins s3 σ G3 (fun o G => o = some (-1) ∧ G = G3) J3 ⟨1, rfl, -1, rfl, rfl, rfl⟩) fun v4 s4 ⟨o4, G4, J4, y4, z4, w4⟩ => ?_
  subst z4 w4
  have J5 : Inv X pins σ G4 { s4 with heap := s4.heap.push { cls := .type "slice", data := .fields #[v2, v3, v4] } } := J4.kept (t' := s4.toks) fun b ob q => Heap.get?_push_of_some _ q
  obtain ⟨a2, rfl, b2⟩ := IsPart.raw y2
  obtain ⟨a3, rfl, b3⟩ := IsPart.raw y3
  obtain ⟨a4, rfl, b4⟩ := IsPart.raw y4
  refine tail_any (ops := [.str z tz, .ref s4.heap.objs.size]) (typeIs_str _ _ _) F.slot_str_getitem.lookup ?_ (by with_unfolding_all rfl)
  refine wpAny_getItem_str_slice (l := a2) (u := a3) (st := a4) ⟨_, Heap.get?_push_size _ rfl, rfl, rfl⟩ (by rw [b4]; rfl) ?_
  have hne : (((a4.map (·.1)).getD 1 == 1) && (slicePicked z a2 a3 a4).length == z.length) = false := by rw [b4]; rfl
  unfold sliceMade
  rw [hne, if_neg Bool.false_ne_true]
  have hle : (⟨((slicePicked z a2 a3 a4).filterMap (z.cps[·]?)).toArray⟩ : Str).length ≤ z.length := by
    have h1 : (slicePicked z a2 a3 a4).length ≤ z.length := by
      unfold slicePicked
      rw [b2, b3, b4]
      exact back_len z.length
    have h2 := List.length_filterMap_le (fun i => z.cps[i]?) (slicePicked z a2 a3 a4)
    show (((slicePicked z a2 a3 a4).filterMap (z.cps[·]?)).toArray).size ≤ _
    rw [List.size_toArray]
    omega
  exact ⟨Nat.le_trans hle hz, .str _, G4, J5.tok _, ⟨_, rfl⟩, hq _ hle⟩
theorem de_revS {k : Nat} {q1 q2 q3 : Pos} (he : DE X W Z e te) : DE X W Z (.Subscript e (.Slice none none (some (.UnaryOp .USub (.Constant (.int 1) k q1) q2)) q3) pos) (dRevS te) :=
  pe_weak (pe_back he) fun σ H Q ⟨ρ, w, D, R, rp, xo, h, f⟩ => ⟨ρ, w, D, _, rp, xo, h, fun s w1 v D1 H1 h1 g1 s1 r1 => by
    obtain ⟨z, rfl, hz, h1⟩ := h1
    exact ⟨z, dr_str r1, hz, fun y hy => (f.next g1).d s1 (h1 y hy) (.str y)⟩⟩
end
theorem un65 {k : Nat} {A : Around} (h : Room k A) : A.units + 65 < cLine := by
  have := h.un
  omega
end DL

set_option Elab.async false
set_option linter.all false
set_option maxRecDepth 100000
set_option maxHeartbeats 4000000
/-! the law's bag of digits: a list of three whole numbers -/
namespace G
open PySem PySem.Spec PyProof.Rows L2 DL
def bagO (x y z : Int) : OO := .lst [.dat (.int x), .dat (.int y), .dat (.int z)]
/-- w' is w with a good bag at b, its counter at most n -/
def Bg (b : Addr) (n : Nat) (w w' : Om) : Prop := ∃ x y z, w' = put w b (bagO x y z) ∧ 0 ≤ y ∧ y < 2 ^ 200 ∧ 0 ≤ z ∧ z ≤ n
theorem Bg.mono {b : Addr} {n m : Nat} {w w' : Om} (h : Bg b n w w') (hn : n ≤ m) : Bg b m w w' := by
  obtain ⟨x, y, z, e, h1, h2, h3, h4⟩ := h
  exact ⟨x, y, z, e, h1, h2, h3, by omega⟩
theorem Bg.at {b : Addr} {n : Nat} {w w' : Om} (h : Bg b n w w') : ∃ x y z, w' b = some (bagO x y z) := by
  obtain ⟨x, y, z, e, _⟩ := h
  exact ⟨x, y, z, by rw [e, put_same]⟩
theorem Bg.ne {b a : Addr} {n : Nat} {w w' : Om} (h : Bg b n w w') (ha : w' a = none) : a ≠ b := fun z => by
  obtain ⟨x, y, c, e⟩ := h.at
  rw [z, e] at ha; cases ha
theorem Bg.get {b a : Addr} {n : Nat} {w w' : Om} (h : Bg b n w w') (ha : a ≠ b) : w' a = w a := by
  obtain ⟨x, y, z, e, _⟩ := h
  rw [e, put_ne ha]
/-- beside a new object -/
theorem Bg.put {b a : Addr} {n : Nat} {w w' : Om} {o : OO} (h : Bg b n w w') (ha : a ≠ b) : Bg b n (put w a o) (put w' a o) := by
  obtain ⟨x, y, z, e, h1⟩ := h
  exact ⟨x, y, z, by rw [e, put_comm (Ne.symm ha)], h1⟩
/-- the new object forgotten -/
theorem Bg.drop {b a : Addr} {n : Nat} {w w' : Om} {o : OO} (h : Bg b n (DL.put w a o) w') (hw : w a = none) (ha : a ≠ b) : ∃ u, Sub u w' ∧ Bg b n w u := by
  obtain ⟨x, y, z, e, h1⟩ := h
  refine ⟨DL.put w b (bagO x y z), ?_, x, y, z, rfl, h1⟩
  rw [e]
  exact Sub.put (Sub.new hw)
def c_law_cell_at : Ct := fun ss w R => ∃ (ns : List Int) (k : Nat), ss = [.scr ns, .dat (.int k)] ∧ ns.length ≤ 63 ∧ ∀ c : Int, R (.dat (.int c)) w
def c_law_bag : Ct := fun ss w R => ∃ (c : Int) (k : Nat), ss = [.dat (.int c), .dat (.int k)] ∧ k ≤ 100 ∧ ∀ b w', w b = none → Bg b 0 w w' → R (.adr b) w'
/-- a draw below m -/
def c_law_draw : Ct := fun ss w R => ∃ (b : Addr) (m : Int) (n : Nat) (w0 : Om), ss = [.adr b, .dat (.int m)] ∧ Bg b n w0 w ∧ 0 < m ∧ m < 2 ^ 100 ∧ n < 2 ^ 60 ∧ ∀ r w', 0 ≤ r → r < m → Bg b (n + 1) w0 w' → R (.dat (.int r)) w'
theorem len_law_cell_at {ss w R} (h : c_law_cell_at ss w R) : ss.length = 2 := by obtain ⟨_, _, rfl, _⟩ := h; rfl
theorem len_law_bag {ss w R} (h : c_law_bag ss w R) : ss.length = 2 := by obtain ⟨_, _, rfl, _⟩ := h; rfl
theorem len_law_draw {ss w R} (h : c_law_draw ss w R) : ss.length = 2 := by obtain ⟨_, _, _, _, rfl, _⟩ := h; rfl
end G

set_option Elab.async false
set_option linter.all false
set_option maxRecDepth 100000
set_option maxHeartbeats 4000000
namespace G
open PySem PySem.Spec PyProof.Rows L2 DL
def N_law_cell_at : List Str := ["script", "k"]
def t_law_cell_at : DTS :=
  (dSeq (dIfS (dTst (dOp ltS (dVar 1) (dCB lenS (dCons (dVar 0) dNil)))) (dRet (dOp ixS (dVar 0) (dVar 1))) dNext)
  (dRet (dC (.int 0))))

def N_law_bag : List Str := ["cell", "place"]
def t_law_bag : DTS :=
  (dRet (dLstD (dDats (dCB maxS (dCons (dC (.int 0)) (dCons (dOp gSub (dVar 0) (dOp gPow (dC (.int 10)) (dC (.int 18)))) dNil))) (dDats (dOp addS (dOp gMod (dVar 0) (dC (.int 170141183460469231731687303715884105727))) (dOp gMul (dC (.int 198491317)) (dVar 1))) (dDats (dC (.int 0)) dNilD)))))

def N_law_draw : List Str := ["bag", "many", "found", "mixed"]
def t_law_draw : DTS :=
  (dSeq (dIfS (dTst (dOp gtS (dOp ixS (dVar 0) (dC (.int 0))) (dC (.int 1)))) (dSeq (dAsg (dOp gMod (dOp ixS (dVar 0) (dC (.int 0))) (dVar 1)) (dName 2))
  (dSeq (dAsg (dOp gDiv (dOp ixS (dVar 0) (dC (.int 0))) (dVar 1)) (dSetL (dVar 0) (dC (.int 0))))
  (dRet (dVar 2)))) dNext)
  (dSeq (dAsg (dOp addS (dOp ixS (dVar 0) (dC (.int 2))) (dC (.int 1))) (dSetL (dVar 0) (dC (.int 2))))
  (dSeq (dAsg (dOp gMod (dOp gPow (dOp addS (dOp ixS (dVar 0) (dC (.int 1))) (dOp gMul (dC (.int 86028121)) (dOp ixS (dVar 0) (dC (.int 2))))) (dC (.int 3))) (dC (.int 170141183460469231731687303715884105727))) (dName 3))
  (dSeq (dAsg (dOp gMod (dOp gPow (dOp addS (dVar 3) (dOp gMul (dC (.int 32452867)) (dOp ixS (dVar 0) (dC (.int 2))))) (dC (.int 3))) (dC (.int 162259276829213363391578010288127))) (dName 3))
  (dRet (dOp gMod (dOp gDiv (dVar 3) (dC (.int 2048))) (dVar 1)))))))

theorem atI_lt {α : Type} {xs : List α} {k : Nat} (h : k < xs.length) : atI xs (k : Int) = some xs[k] := atI_nat (List.getElem?_eq_getElem h)
theorem rd_law_cell_at {ss w R} (h : c_law_cell_at ss w R) : t_law_cell_at (endsN R) (startD N_law_cell_at ss) w := by
  obtain ⟨ns, k, rfl, hl, q⟩ := h
  refine ⟨_, rfl, _, rfl, _, lenS_sq rfl, ?_⟩
  refine ⟨_, rfl, _, rfl, iteD (fun c => ?_) fun c => ?_⟩
  · rw [List.length_map] at c
    exact ⟨_, rfl, _, rfl, _, ixS_scr (atI_lt (by omega)), w, Sub.refl _, q _⟩
  · exact ⟨w, Sub.refl _, q _⟩
theorem cMul_of {i j : Int} {a b : Nat} (ha : i.natAbs < 2 ^ a) (hb : j.natAbs < 2 ^ b) (h0 : 0 < a) (h1 : 0 < b) (h : a + b ≤ 1000000) : cMul i j = true := decide_eq_true (wide_mul ha hb h0 h1 h)
theorem cDiv_of {i j : Int} {b : Nat} (h : 0 < j) (hb : j.natAbs < 2 ^ b) (h0 : 0 < b) (h9 : b ≤ 9000) : cDiv i j = true := decide_eq_true (wide_div (i := i) h hb h0 h9)
theorem bits_le {i : Int} {a : Nat} (ha : i.natAbs < 2 ^ a) (h0 : 0 < a) : Builtin.Int.intBits i ≤ a := by
  have := PySem.Flt.log2_lt_of h0 ha
  unfold Builtin.Int.intBits
  split <;> omega
theorem cPow_of {i j : Int} {a : Nat} (ha : i.natAbs < 2 ^ a) (h0 : 0 < a) (hj : 0 ≤ j) (h : (a : Int) * j ≤ 2 ^ 27) : cPow i j = true := by
  refine decide_eq_true ⟨hj, Int.le_trans (Int.mul_le_mul_of_nonneg_right (Int.ofNat_le.mpr (bits_le ha h0)) hj) h⟩
theorem small_abs {i : Int} {a : Nat} (h0 : 0 ≤ i) (h : i < 2 ^ a) : i.natAbs < 2 ^ a := by
  have : ((i.natAbs : Nat) : Int) < ((2 ^ a : Nat) : Int) := by rw [Int.natAbs_of_nonneg h0]; exact_mod_cast h
  exact_mod_cast this
theorem rd_law_bag {ss w R} (h : c_law_bag ss w R) : t_law_bag (endsN R) (startD N_law_bag ss) w := by
  obtain ⟨c, k, rfl, hk, q⟩ := h
  refine ⟨_, rfl, _, liftI_ok (by decide), _, rfl, _, rfl, ?_⟩
  refine ⟨_, rfl, _, liftI_ok (by decide), _, rfl, _, liftI_ok (cMul_of (a := 64) (b := 64) (by decide) (small_abs (by omega) (by omega)) (by decide) (by decide) (by decide)), _, rfl, ?_⟩
  have e1 := Int.emod_nonneg c (show (170141183460469231731687303715884105727 : Int) ≠ 0 by decide)
  have e2 := Int.emod_lt_of_pos c (show (0 : Int) < 170141183460469231731687303715884105727 by decide)
  refine ⟨by show 3 ≤ sizeLine; decide, fun b hb => ⟨_, Sub.refl _, q b _ hb ⟨_, _, _, rfl, ?_, ?_, ?_, ?_⟩⟩⟩ <;> omega
theorem rd_law_draw {ss w R} (h : c_law_draw ss w R) : t_law_draw (endsN R) (startD N_law_draw ss) w := by
  obtain ⟨b, m, n, w0, rfl, ⟨x, y, z, rfl, hy, hy2, hz, hz2⟩, hm, hm2, hn, q⟩ := h
  have hb : put w0 b (bagO x y z) b = some (bagO x y z) := put_same
  have mb : m.natAbs < 2 ^ 100 := small_abs (by omega) hm2
  refine ⟨_, rfl, _, ixS_adr hb rfl, _, rfl, _, rfl, iteD (fun c => ?_) fun c => ?_⟩
  · refine ⟨_, rfl, _, ixS_adr hb rfl, _, rfl, _, liftI_ok (decide_eq_true hm), ?_⟩
    refine ⟨_, rfl, _, ixS_adr hb rfl, _, rfl, _, liftI_ok (cDiv_of hm mb (by decide) (by decide)), ?_⟩
    refine ⟨_, rfl, b, _, 0, 0, rfl, rfl, hb, rfl, ?_⟩
    refine ⟨_, rfl, _, Sub.refl _, q _ _ (Int.emod_nonneg _ (by omega)) (Int.emod_lt_of_pos _ hm) ⟨x / m, y, z, by rw [put_put]; rfl, hy, hy2, hz, by omega⟩⟩
  · refine ⟨_, rfl, _, ixS_adr hb rfl, _, rfl, ?_⟩
    refine ⟨_, rfl, b, _, 2, 2, rfl, rfl, hb, rfl, ?_⟩
    rw [put_put]
    have hb2 : put w0 b (bagO x y (z + 1)) b = some (bagO x y (z + 1)) := put_same
    show dSeq _ _ _ _ (put w0 b (bagO x y (z + 1)))
    refine ⟨_, rfl, _, ixS_adr hb2 rfl, _, rfl, _, ixS_adr hb2 rfl, _, liftI_ok (cMul_of (a := 64) (b := 64) (by decide) (small_abs (by omega) (by omega)) (by decide) (by decide) (by decide)), _, rfl, _, liftI_ok (cPow_of (a := 202) (small_abs (by omega) (by omega)) (by decide) (by decide) (by decide)), _, liftI_ok (by decide), ?_⟩
    generalize hmx : (y + 86028121 * (z + 1)) ^ (3 : Int).toNat % 170141183460469231731687303715884105727 = mx
    have e1 := Int.emod_nonneg ((y + 86028121 * (z + 1)) ^ (3 : Int).toNat) (show (170141183460469231731687303715884105727 : Int) ≠ 0 by decide)
    have e2 := Int.emod_lt_of_pos ((y + 86028121 * (z + 1)) ^ (3 : Int).toNat) (show (0 : Int) < 170141183460469231731687303715884105727 by decide)
    rw [hmx] at e1 e2
    refine ⟨_, rfl, _, rfl, _, ixS_adr hb2 rfl, _, liftI_ok (cMul_of (a := 64) (b := 64) (by decide) (small_abs (by omega) (by omega)) (by decide) (by decide) (by decide)), _, rfl, _, liftI_ok (cPow_of (a := 202) (small_abs (by omega) (by omega)) (by decide) (by decide) (by decide)), _, liftI_ok (by decide), ?_⟩
    refine ⟨_, rfl, _, liftI_ok (cDiv_of (b := 64) (by decide) (by decide) (by decide) (by decide)), _, rfl, _, liftI_ok (decide_eq_true hm), ?_⟩
    exact ⟨_, Sub.refl _, q _ _ (Int.emod_nonneg _ (by omega)) (Int.emod_lt_of_pos _ hm) ⟨x, y, z + 1, rfl, hy, hy2, by omega, by omega⟩⟩
end G

set_option Elab.async false
set_option linter.all false
set_option maxRecDepth 100000
set_option maxHeartbeats 4000000
namespace G
open PySem PySem.Spec PyProof.Rows L2 DL
def kv_PARTS : List (Str × Sl) := [("names", .dat (.int 0)), ("most", .dat (.int 0)), ("last", .dat (.int 0)), ("each", .dat (.int 1)), ("both", .dat (.int 2))]
/-! ### bounded data -/
mutual
def szB (n : Nat) : PyData → Bool
  | .none => true
  | .bool _ => true
  | .int i => decide (i.natAbs < 2 ^ (100 + n))
  | .str x => decide (x.length ≤ 4000 * 4 ^ n)
  | .list ds => decide (ds.length ≤ 40 + n) && szA n ds
  | .tuple ds => decide (ds.length ≤ 40 + n) && szA n ds
  | .dict kvs => kvs.isEmpty
def szA (n : Nat) : List PyData → Bool
  | [] => true
  | d :: ds => szB n d && szA n ds
end
theorem szA_all {n : Nat} : ∀ {ds : List PyData}, szA n ds = true ↔ ∀ d ∈ ds, szB n d = true
  | [] => ⟨fun _ _ h => by simp at h, fun _ => by unfold szA; rfl⟩
  | d :: r => by
    unfold szA
    rw [Bool.and_eq_true, szA_all (ds := r)]
    constructor
    · rintro ⟨h1, h2⟩ e he
      rcases List.mem_cons.mp he with rfl | he
      · exact h1
      · exact h2 e he
    · intro h
      exact ⟨h d List.mem_cons_self, fun e he => h e (List.mem_cons_of_mem _ he)⟩
mutual
theorem szB_mono {n m : Nat} (h : n ≤ m) : ∀ (d : PyData), szB n d = true → szB m d = true
  | .none, _ => by unfold szB; rfl
  | .bool _, _ => by unfold szB; rfl
  | .int i, q => by
    unfold szB at q ⊢
    have q := of_decide_eq_true q
    exact decide_eq_true (Nat.lt_of_lt_of_le q (Nat.pow_le_pow_right (by decide) (by omega)))
  | .str x, q => by
    unfold szB at q ⊢
    have q := of_decide_eq_true q
    exact decide_eq_true (Nat.le_trans q (Nat.mul_le_mul_left _ (Nat.pow_le_pow_right (by decide) h)))
  | .list ds, q => by
    unfold szB at q ⊢
    rw [Bool.and_eq_true] at q ⊢
    exact ⟨decide_eq_true (by have := of_decide_eq_true q.1; omega), szA_mono h ds q.2⟩
  | .tuple ds, q => by
    unfold szB at q ⊢
    rw [Bool.and_eq_true] at q ⊢
    exact ⟨decide_eq_true (by have := of_decide_eq_true q.1; omega), szA_mono h ds q.2⟩
  | .dict kvs, q => by unfold szB at q ⊢; exact q
theorem szA_mono {n m : Nat} (h : n ≤ m) : ∀ (ds : List PyData), szA n ds = true → szA m ds = true
  | [], _ => by unfold szA; rfl
  | d :: r, q => by
    unfold szA at q ⊢
    rw [Bool.and_eq_true] at q ⊢
    exact ⟨szB_mono h d q.1, szA_mono h r q.2⟩
end
theorem sz_tup {n : Nat} {ds : List PyData} (h : szB n (.tuple ds) = true) : ds.length ≤ 40 + n ∧ ∀ d ∈ ds, szB n d = true := by
  unfold szB at h
  rw [Bool.and_eq_true] at h
  exact ⟨of_decide_eq_true h.1, szA_all.mp h.2⟩
theorem sz_list {n : Nat} {ds : List PyData} (h : szB n (.list ds) = true) : ds.length ≤ 40 + n ∧ ∀ d ∈ ds, szB n d = true := by
  unfold szB at h
  rw [Bool.and_eq_true] at h
  exact ⟨of_decide_eq_true h.1, szA_all.mp h.2⟩
theorem tup_sz {n : Nat} {ds : List PyData} (h1 : ds.length ≤ 40 + n) (h2 : ∀ d ∈ ds, szB n d = true) : szB n (.tuple ds) = true := by
  unfold szB
  rw [Bool.and_eq_true]
  exact ⟨decide_eq_true h1, szA_all.mpr h2⟩
theorem list_sz {n : Nat} {ds : List PyData} (h1 : ds.length ≤ 40 + n) (h2 : ∀ d ∈ ds, szB n d = true) : szB n (.list ds) = true := by
  unfold szB
  rw [Bool.and_eq_true]
  exact ⟨decide_eq_true h1, szA_all.mpr h2⟩
theorem sz_str {n : Nat} {x : Str} : szB n (.str x) = true ↔ x.length ≤ 4000 * 4 ^ n := by
  unfold szB
  exact ⟨of_decide_eq_true, decide_eq_true⟩
theorem sz_int {n : Nat} {i : Int} : szB n (.int i) = true ↔ i.natAbs < 2 ^ (100 + n) := by
  unfold szB
  exact ⟨of_decide_eq_true, decide_eq_true⟩
/-! ### what is a kind: the program's look, and the law's -/
def partsOf (z : Str) : Option Nat := if z = "names" then some 0 else if z = "most" then some 0 else if z = "last" then some 0 else if z = "each" then some 1 else if z = "both" then some 2 else none
theorem lookup_cons_ne {α : Type} {z k : Str} {a : α} {l : List (Str × α)} (h : z ≠ k) : List.lookup z ((k, a) :: l) = List.lookup z l := by
  have : (z == k) = false := beq_eq_false_iff_ne.mpr h
  simp [List.lookup, this]
theorem lookup_cons_eq {α : Type} {z : Str} {a : α} {l : List (Str × α)} : List.lookup z ((z, a) :: l) = some a := by simp [List.lookup]
theorem lookup_PARTS (z : Str) : kv_PARTS.lookup z = (partsOf z).map fun i => .dat (.int (i : Nat)) := by
  unfold kv_PARTS partsOf
  by_cases h1 : z = "names"
  · subst h1; rw [lookup_cons_eq, if_pos rfl]; rfl
  rw [lookup_cons_ne h1, if_neg h1]
  by_cases h2 : z = "most"
  · subst h2; rw [lookup_cons_eq, if_pos rfl]; rfl
  rw [lookup_cons_ne h2, if_neg h2]
  by_cases h3 : z = "last"
  · subst h3; rw [lookup_cons_eq, if_pos rfl]; rfl
  rw [lookup_cons_ne h3, if_neg h3]
  by_cases h4 : z = "each"
  · subst h4; rw [lookup_cons_eq, if_pos rfl]; rfl
  rw [lookup_cons_ne h4, if_neg h4]
  by_cases h5 : z = "both"
  · subst h5; rw [lookup_cons_eq, if_pos rfl]; rfl
  rw [lookup_cons_ne h5, if_neg h5]
  rfl
def isKindD : Nat → PyData → Bool
  | n + 1, .tuple (.str z :: ks) => (partsOf z == some ks.length) && ks.all (isKindD n)
  | _, _ => false
def c_is_kind (n : Nat) : Ct := fun ss w R => ∃ d m k, ss = [.dat d, .dat (.int m)] ∧ m ≤ (n : Int) ∧ szB k d = true ∧ k ≤ 5 ∧ R (.dat (.bool (isKindD m.toNat d))) w
theorem len_is_kind {n ss w R} (h : c_is_kind n ss w R) : ss.length = 2 := by obtain ⟨_, _, _, rfl, _⟩ := h; rfl
def N_is_kind : List Str := ["thing", "most", "word", "kinds", "one"]
def t_is_kind (cr : Ct) : DTS :=
  (dSeq (dIfS (dOr (dTst (dOp ltS (dVar 1) (dC (.int 1)))) (dOr (dNot (dTst (dIsi .tuple (dVar 0)))) (dOr (dTst (dOp ltS (dCB lenS (dCons (dVar 0) dNil)) (dC (.int 1)))) (dNot (dTst (dIsi .str (dOp ixS (dVar 0) (dC (.int 0))))))))) (dRet (dC (.bool false))) dNext)
  (dSeq (dAsg (dVar 0) (dGStar 2 1 (dGCons (dName 2) (dGCons (dName 3) dGNil))))
  (dRet (dAndV (dOp (eqS false) (dKGet kv_PARTS (dVar 2)) (dCB lenS (dCons (dVar 3) dNil))) (dCB allS (dCons (dLc (dSeqI (dVar 3)) (dName 4) dYes (dCall cr [] (dCons (dVar 4) (dCons (dOp gSub (dVar 1) (dC (.int 1))) dNil))) [4]) dNil))))))

theorem sq_line {n : Nat} (h : n ≤ 16000) : n ≤ sizeLine := Nat.le_trans h (by decide)
theorem ix_t0 {w : Om} {e : PyData} {ks : List PyData} : ixS w (.dat (.tuple (e :: ks))) (.dat (.int 0)) = some (.v (.dat e)) := ixS_tup (atI_nat (j := 0) rfl)
theorem ix_t1 {w : Om} {e f : PyData} {ks : List PyData} : ixS w (.dat (.tuple (e :: f :: ks))) (.dat (.int 1)) = some (.v (.dat f)) := ixS_tup (atI_nat (j := 1) rfl)
theorem ix_t2 {w : Om} {e f g : PyData} {ks : List PyData} : ixS w (.dat (.tuple (e :: f :: g :: ks))) (.dat (.int 2)) = some (.v (.dat g)) := ixS_tup (atI_nat (j := 2) rfl)
theorem in_3 {w : Om} {z a b c : Str} : inS false w (.dat (.str z)) (.dat (.tuple [.str a, .str b, .str c])) = some (.v (.dat (.bool (a == z || (b == z || (c == z || false)))))) := rfl
local macro_rules | `(tactic| walk_at "rr") => `(tactic| repeat (first | refine ⟨_, ix_t0, ?_⟩ | refine ⟨_, ix_t1, ?_⟩ | refine ⟨_, ix_t2, ?_⟩ | refine ⟨_, in_3, ?_⟩ | refine ⟨_, rfl, ?_⟩ | refine iteT ?_ | refine iteF ?_ | refine And.intro (sq_line (by simp)) ?_))
/-- a comprehension without a test whose element leaves the store -/
theorem lc_map {ok : Om → Prop} {g : DTG} {te : DTE} {ρ : DEnv} {k : List Sl → Om → Prop} {w : Om} (f : Sl → Sl) (hok : ok w) : ∀ (xs acc : List Sl), (∀ x ∈ xs, ∀ C : DQ, C (f x) w → g x ρ w fun ρ2 w2 => te ρ2 w2 C) → acc.length + xs.length ≤ sizeLine → k (acc ++ xs.map f) w → dLcL ok g dYes te ρ k xs acc w
  | [], acc, _, _, h => ⟨hok, by simpa using h⟩
  | x :: xs, acc, hs, hl, h => by
    refine ⟨hok, ?_⟩
    have q := hs x List.mem_cons_self (fun y w4 => acc.length < sizeLine ∧ dLcL ok g dYes te ρ k xs (acc ++ [y]) w4) ⟨by simp at hl; omega, lc_map f hok xs (acc ++ [f x]) (fun z hz => hs z (List.mem_cons_of_mem _ hz)) (by simp at hl ⊢; omega) (by simpa using h)⟩
    exact q
theorem gstar1 {t : DTGs} {x : Sl} {r : List Sl} {ρ : DEnv} {w : Om} {R : DEnv → Om → Prop} (hl : r.length ≤ 16000) (h : ∀ p, w p = none → t [x, .adr p] ρ (put w p (.lst r)) R) :
    1 < 2 ∧ 2 ≤ (x :: r).length + 1 ∧ (x :: r).length ≤ 16384 ∧ ∀ p, w p = none → t ((x :: r).take 1 ++ [.adr p] ++ ((x :: r).drop 1).drop ((x :: r).length + 1 - 2)) ρ (put w p (.lst (((x :: r).drop 1).take ((x :: r).length + 1 - 2)))) R := by
  refine ⟨by decide, by simp, by simp; omega, fun p hp => ?_⟩
  have := h p hp
  simpa using this
theorem all_map (f : PyData → Bool) (ks : List PyData) : (ks.map f).all id = ks.all f := by simp [List.all_map]
theorem rd_is_kind (n : Nat) {ss w R} (h : c_is_kind n ss w R) : t_is_kind (prev c_is_kind n) (endsN R) (startD N_is_kind ss) w := by
  obtain ⟨d, m, k, rfl, hm, hz, hk, q⟩ := h
  have no : isKindD m.toNat d = false → ∃ u, Sub u w ∧ R (.dat (.bool false)) u := fun e => ⟨w, Sub.refl _, by rw [e] at q; exact q⟩
  refine ⟨_, rfl, _, rfl, _, rfl, ?_⟩
  refine iteD (fun c => ?_) fun c => ?_
  · refine iteT (no ?_)
    have : m.toNat = 0 := by omega
    rw [this]; cases d <;> rfl
  obtain ⟨j, hj⟩ : ∃ j, m.toNat = j + 1 := ⟨m.toNat - 1, by omega⟩
  rw [hj] at no q
  obtain ⟨n', rfl⟩ : ∃ n', n = n' + 1 := ⟨n - 1, by omega⟩
  cases d with
  | tuple ds =>
    cases ds with
    | nil => walk_at "rr"; exact no rfl
    | cons e ks =>
      obtain ⟨hl, hd⟩ := sz_tup hz
      have hlen : ¬ (((e :: ks).map Sl.dat).length : Int) < 1 := by simp; omega
      have hlk : ks.length ≤ 45 := by simp at hl; omega
      walk_at "rr"
      cases e with
      | str z =>
        walk_at "rr"
        refine gstar1 (by simp; omega) fun p hp => ?_
        have hsq : put w p (.lst (ks.map Sl.dat)) p = some (.lst (ks.map Sl.dat)) := put_same
        have hw : Sub w (put w p (.lst (ks.map Sl.dat))) := Sub.new hp
        refine ⟨_, _, rfl, _, _, rfl, rfl, ?_⟩
        refine ⟨_, rfl, _, rfl, _, rfl, _, lenS_sq (sq_adr hsq), ?_⟩
        rw [lookup_PARTS]
        have fin : ∀ b : Bool, isKindD (j + 1) (.tuple (.str z :: ks)) = b → ∃ u, Sub u (put w p (.lst (ks.map Sl.dat))) ∧ R (.dat (.bool b)) u := fun b e => ⟨w, hw, by rw [← e]; exact q⟩
        cases hz2 : partsOf z with
        | none =>
          refine ⟨_, eqS_ok (k := false) rfl rfl rfl, false, rfl, fin false ?_⟩
          unfold isKindD; rw [hz2]; rfl
        | some i =>
          refine ⟨_, eqS_ok (k := ((i : Nat) : Int) == ((ks.map Sl.dat).length : Int)) rfl rfl rfl, _, rfl, ?_⟩
          refine iteB (fun c1 => ?_) fun c1 => ?_
          · have c3 : ((i : Nat) : Int) = (ks.length : Nat) := by simpa using c1
            have c2 : i = ks.length := by omega
            refine ⟨_, rfl, _, sq_adr hsq, ?_⟩
            refine lc_map (w := put w p (.lst (ks.map Sl.dat))) (fun s => match s with | .dat d => .dat (.bool (isKindD j d)) | s => s) hsq _ _ (fun x hx C hC => ?_) (sq_line (by simp; omega)) ?_
            · obtain ⟨d, hd2, rfl⟩ := List.mem_map.mp hx
              refine ⟨_, rfl, _, rfl, _, liftI_ok rfl, ?_⟩
              refine ⟨d, m - 1, k, rfl, by omega, hd d (List.mem_cons_of_mem _ hd2), hk, ?_⟩
              have : (m - 1).toNat = j := by omega
              rw [this]
              exact hC
            · intro p2 hp2
              refine ⟨_, allS_ok (bs := ks.map (isKindD j)) (sqL_adr (put_same.trans ?_)), w, hw.trans (Sub.new hp2), ?_⟩
              · simp
              · have : (true && ks.all (isKindD j)) = isKindD (j + 1) (.tuple (.str z :: ks)) := by
                  unfold isKindD; rw [hz2, c2]; simp
                rw [all_map, ← Bool.true_and (ks.all _), this]
                exact q
          · refine fin false ?_
            have c3 : ¬ ((i : Nat) : Int) = (ks.length : Nat) := by simpa using c1
            have c2 : ¬ i = ks.length := by omega
            unfold isKindD; rw [hz2]; simp [c2]
      | none => walk_at "rr"; exact no rfl
      | bool _ => walk_at "rr"; exact no rfl
      | int _ => walk_at "rr"; exact no rfl
      | list _ => walk_at "rr"; exact no rfl
      | tuple _ => walk_at "rr"; exact no rfl
      | dict _ => walk_at "rr"; exact no rfl
  | none => walk_at "rr"; exact no rfl
  | bool _ => walk_at "rr"; exact no rfl
  | int _ => walk_at "rr"; exact no rfl
  | str _ => walk_at "rr"; exact no rfl
  | list _ => walk_at "rr"; exact no rfl
  | dict _ => walk_at "rr"; exact no rfl
end G

set_option Elab.async false
set_option linter.all false
set_option maxRecDepth 100000
set_option maxHeartbeats 4000000
namespace G
open PySem PySem.Spec PyProof.Rows L2 DL
abbrev cp (x : Str) : List Nat := x.cps.toList
/-- a kind, at most n deep, and its text -/
inductive Kd : Nat → PyData → List Nat → Prop
  | pl {n : Nat} {z : Str} (h : z = "names" ∨ z = "most" ∨ z = "last") : Kd (n + 1) (.tuple [.str z]) (cp z)
  | ea {n : Nat} {k : PyData} {t : List Nat} (h : Kd n k t) : Kd (n + 1) (.tuple [.str "each", k]) (cp "each " ++ t)
  | bo {n : Nat} {k l : PyData} {t u : List Nat} (h : Kd n k t) (h' : Kd n l u) : Kd (n + 1) (.tuple [.str "both", k, l]) (cp "both(" ++ (t ++ (cp ", " ++ (u ++ cp ")"))))
theorem Kd.mono {n m : Nat} {d : PyData} {t : List Nat} (h : Kd n d t) (hm : n ≤ m) : Kd m d t := by
  induction h generalizing m with
  | pl h => obtain ⟨m', rfl⟩ : ∃ m', m = m' + 1 := ⟨m - 1, by omega⟩; exact .pl h
  | ea _ ih => obtain ⟨m', rfl⟩ : ∃ m', m = m' + 1 := ⟨m - 1, by omega⟩; exact .ea (ih (by omega))
  | bo _ _ ih ih' => obtain ⟨m', rfl⟩ : ∃ m', m = m' + 1 := ⟨m - 1, by omega⟩; exact .bo (ih (by omega)) (ih' (by omega))
theorem Kd.len {n : Nat} {d : PyData} {t : List Nat} (h : Kd n d t) : t.length + 8 ≤ 8 * 2 ^ n := by
  induction h with
  | @pl n z h =>
    have : 1 ≤ 2 ^ n := Nat.one_le_two_pow
    have : (cp z).length ≤ 5 := by rcases h with rfl | rfl | rfl <;> decide
    rw [Nat.pow_succ]; omega
  | @ea n _ _ _ ih =>
    have e : (cp "each ").length = 5 := by decide
    rw [Nat.pow_succ, List.length_append, e]
    have : 1 ≤ 2 ^ n := Nat.one_le_two_pow
    omega
  | bo _ _ ih ih' =>
    have e : (cp "both(").length = 5 := by decide
    have e2 : (cp ", ").length = 2 := by decide
    have e3 : (cp ")").length = 1 := by decide
    rw [Nat.pow_succ]
    simp only [List.length_append, e, e2, e3]
    omega
theorem Kd.sz {n : Nat} {d : PyData} {t : List Nat} (h : Kd n d t) : szB 0 d = true := by
  induction h with
  | @pl n z h => exact tup_sz (by simp) fun e he => by rw [List.mem_singleton] at he; rw [he, sz_str]; rcases h with rfl | rfl | rfl <;> decide
  | ea _ ih =>
    refine tup_sz (by simp) fun e he => ?_
    simp only [List.mem_cons, List.not_mem_nil, or_false] at he
    rcases he with rfl | rfl
    · decide
    · exact ih
  | bo _ _ ih ih' =>
    refine tup_sz (by simp) fun e he => ?_
    simp only [List.mem_cons, List.not_mem_nil, or_false] at he
    rcases he with rfl | rfl | rfl
    · decide
    · exact ih
    · exact ih'
theorem Kd.is {n : Nat} {d : PyData} {t : List Nat} (h : Kd n d t) : isKindD n d = true := by
  induction h with
  | @pl n z h => unfold isKindD; rcases h with rfl | rfl | rfl <;> rfl
  | ea _ ih => unfold isKindD; simp only [List.all_cons, List.all_nil, ih, List.length_cons, List.length_nil]; decide
  | bo _ _ ih ih' => unfold isKindD; simp only [List.all_cons, List.all_nil, ih, ih', List.length_cons, List.length_nil]; decide
/-! ### the texts tell the kinds -/
def isL (c : Nat) : Bool := decide (c ∈ cp "abcdefghijklmnopqrstuvwxyz")
/-- what stands behind a kind -/
def Stop (r : List Nat) : Prop := r = [] ∨ ∃ c s, r = c :: s ∧ isL c = false
theorem run_of_word {z r : List Nat} (hz : ∀ c ∈ z, isL c = true) (hr : Stop r) : (z ++ r).takeWhile isL = z := by
  induction z with
  | nil =>
    rcases hr with rfl | ⟨c, s, rfl, hc⟩
    · rfl
    · simp [List.takeWhile, hc]
  | cons c z ih =>
    rw [List.cons_append, List.takeWhile_cons_of_pos (hz c List.mem_cons_self), ih fun e he => hz e (List.mem_cons_of_mem _ he)]
theorem plain_L {z : Str} (h : z = "names" ∨ z = "most" ∨ z = "last") : ∀ c ∈ cp z, isL c = true := by
  rcases h with rfl | rfl | rfl <;> decide
theorem each_L : ∀ c ∈ cp "each", isL c = true := by decide
theorem both_L : ∀ c ∈ cp "both", isL c = true := by decide
theorem each_sp (t : List Nat) : cp "each " ++ t = cp "each" ++ (32 :: t) := by
  have : cp "each " = cp "each" ++ [32] := by decide
  rw [this, List.append_assoc]; rfl
theorem both_br (t : List Nat) : cp "both(" ++ t = cp "both" ++ (40 :: t) := by
  have : cp "both(" = cp "both" ++ [40] := by decide
  rw [this, List.append_assoc]; rfl
theorem stop_sp (t : List Nat) : Stop (32 :: t) := .inr ⟨32, t, rfl, by decide⟩
theorem stop_br (t : List Nat) : Stop (40 :: t) := .inr ⟨40, t, rfl, by decide⟩
theorem stop_co (t : List Nat) : Stop (cp ", " ++ t) := by
  have : cp ", " = [44, 32] := by decide
  exact .inr ⟨44, 32 :: t, by rw [this]; rfl, by decide⟩
theorem stop_cl (t : List Nat) : Stop (cp ")" ++ t) := by
  have : cp ")" = [41] := by decide
  exact .inr ⟨41, t, by rw [this]; rfl, by decide⟩
/-- the first word of a kind's text -/
def wd : PyData → Str
  | .tuple (.str z :: _) => z
  | _ => ""
theorem Kd.word {n : Nat} {d : PyData} {t r : List Nat} (h : Kd n d t) (hr : Stop r) : (t ++ r).takeWhile isL = cp (wd d) := by
  cases h with
  | pl h => exact run_of_word (plain_L h) hr
  | ea h => rw [List.append_assoc, each_sp]; exact run_of_word each_L (stop_sp _)
  | bo h h' => rw [List.append_assoc, both_br]; exact run_of_word both_L (stop_br _)
theorem cp_inj {x y : Str} (h : cp x = cp y) : x = y := by
  obtain ⟨⟨a⟩⟩ := x
  obtain ⟨⟨b⟩⟩ := y
  have : a = b := h
  rw [this]
theorem Kd.inj {n : Nat} {d : PyData} {t : List Nat} (h : Kd n d t) : ∀ {m : Nat} {d' : PyData} {t' r r' : List Nat}, Kd m d' t' → Stop r → Stop r' → t ++ r = t' ++ r' → d = d' ∧ t = t' := by
  induction h with
  | @pl n z h =>
    intro m d' t' r r' h' hr hr' e
    have w : cp z = cp (wd d') := by rw [← h'.word hr', ← e]; exact ((Kd.pl (n := n) h).word hr).symm
    have w := cp_inj w
    cases h' with
    | pl h2 => cases w; exact ⟨rfl, rfl⟩
    | ea h2 => have w' : z = "each" := w; subst w'; rcases h with h | h | h <;> exact absurd h (by decide)
    | bo h2 h3 => have w' : z = "both" := w; subst w'; rcases h with h | h | h <;> exact absurd h (by decide)
  | @ea n k t h ih =>
    intro m d' t' r r' h' hr hr' e
    have w : cp "each" = cp (wd d') := by rw [← h'.word hr', ← e]; exact ((Kd.ea h).word hr).symm
    have w := cp_inj w
    cases h' with
    | @pl _ z h2 => have w' : Str.ofString "each" = z := w; subst w'; rcases h2 with h | h | h <;> exact absurd h (by decide)
    | ea h2 =>
      rw [List.append_assoc, List.append_assoc] at e
      obtain ⟨e1, e2⟩ := ih h2 hr hr' (List.append_cancel_left e)
      exact ⟨by rw [e1], by rw [e2]⟩
    | bo h2 h3 => exact absurd (show Str.ofString "each" = Str.ofString "both" from w) (by decide)
  | @bo n k l t u h h0 ih ih0 =>
    intro m d' t' r r' h' hr hr' e
    have w : cp "both" = cp (wd d') := by rw [← h'.word hr', ← e]; exact ((Kd.bo h h0).word hr).symm
    have w := cp_inj w
    cases h' with
    | @pl _ z h2 => have w' : Str.ofString "both" = z := w; subst w'; rcases h2 with h | h | h <;> exact absurd h (by decide)
    | ea h2 => exact absurd (show Str.ofString "both" = Str.ofString "each" from w) (by decide)
    | bo h2 h3 =>
      simp only [List.append_assoc] at e
      have e := List.append_cancel_left e
      obtain ⟨e1, e2⟩ := ih h2 (stop_co _) (stop_co _) e
      subst e1 e2
      have e := List.append_cancel_left (List.append_cancel_left e)
      obtain ⟨e3, e4⟩ := ih0 h3 (stop_cl _) (stop_cl _) e
      exact ⟨by rw [e3], by rw [e4]⟩
theorem Kd.one {n m : Nat} {d d' : PyData} {t : List Nat} (h : Kd n d t) (h' : Kd m d' t) : d = d' := (h.inj h' (.inl rfl) (.inl rfl) rfl).1
theorem Kd.fn {n m : Nat} {d : PyData} {t t' : List Nat} (h : Kd n d t) (h' : Kd m d t') : t = t' := by
  induction h generalizing m t' with
  | pl h => cases h' with
    | pl h2 => rfl
  | ea h ih => cases h' with
    | ea h2 => rw [ih h2]
  | bo h h0 ih ih0 => cases h' with
    | bo h2 h3 => rw [ih h2, ih0 h3]
end G

set_option Elab.async false
set_option linter.all false
set_option maxRecDepth 100000
set_option maxHeartbeats 4000000
namespace G
open PySem PySem.Spec PyProof.Rows L2 DL
abbrev tx (t : List Nat) : Str := ⟨t.toArray⟩
theorem tx_cp (z : Str) : tx (cp z) = z := cp_inj rfl
theorem tx_len (t : List Nat) : (tx t).length = t.length := by simp [tx, Str.length]
theorem len_cp (z : Str) : z.length = (cp z).length := by simp [cp, Str.length]
theorem tx_app (t u : List Nat) : tx t ++ tx u = tx (t ++ u) := by
  apply cp_inj
  show ((tx t ++ tx u).cps).toList = _
  simp [Str.cps_append]
def srcF (z : Str) (i : Nat) : List (Str × Sl) := [("signs", .dat (.str z)), ("spot", .dat (.int (i : Nat)))]
def srcO (cS : Addr) (z : Str) (i : Nat) : OO := .ins cS (srcF z i)
theorem sp_ne : (("spot" : Str) == ("signs" : Str)) = false := by decide
theorem ss_ne : ¬ (("signs" : Str) = "spot") := by decide
theorem src_signs (z : Str) (i : Nat) : (srcF z i).lookup ("signs" : Str) = some (Sl.dat (.str z)) := by
  show List.lookup ("signs" : Str) ((("signs" : Str), Sl.dat (.str z)) :: _) = _
  simp [List.lookup]
theorem src_spot (z : Str) (i : Nat) : (srcF z i).lookup ("spot" : Str) = some (Sl.dat (.int (i : Nat))) := by
  show List.lookup ("spot" : Str) ((("signs" : Str), Sl.dat (.str z)) :: [(("spot" : Str), Sl.dat (.int (i : Nat)))]) = _
  rw [List.lookup, sp_ne]
  simp [List.lookup]
theorem src_no {z : Str} {i : Nat} {m : Str} (h1 : (m == ("signs" : Str)) = false) (h2 : (m == ("spot" : Str)) = false) : (srcF z i).lookup m = none := by
  show List.lookup m ((("signs" : Str), Sl.dat (.str z)) :: [(("spot" : Str), Sl.dat (.int (i : Nat)))]) = _
  rw [List.lookup, h1]
  show List.lookup m [(("spot" : Str), Sl.dat (.int (i : Nat)))] = _
  rw [List.lookup, h2]
  rfl
theorem src_put (z : Str) (i : Nat) (s : Int) {j : Nat} (h : s = (j : Nat)) : putS "spot" (.dat (.int s)) (srcF z i) = srcF z j := by
  subst h
  show (if (("signs" : Str) = "spot") then _ else (("signs" : Str), Sl.dat (.str z)) :: putS "spot" (.dat (.int (j : Nat))) [(("spot" : Str), Sl.dat (.int (i : Nat)))]) = _
  rw [if_neg ss_ne]
  show _ :: (if (("spot" : Str) = "spot") then _ else _) = _
  rw [if_pos rfl]
  rfl
theorem src_first (z : Str) : putS "spot" (.dat (.int 0)) (putS "signs" (.dat (.str z)) []) = srcF z 0 := by
  show (if (("signs" : Str) = "spot") then _ else (("signs" : Str), Sl.dat (.str z)) :: putS "spot" (.dat (.int 0)) []) = _
  rw [if_neg ss_ne]
  rfl
def c_Source_comes_next (cS : Addr) : Ct := fun ss w R => ∃ x z y i, ss = [.adr x, .dat (.str y)] ∧ w x = some (srcO cS z i) ∧ R (.dat (.bool (Txt.startswith3 z y i))) w
def c_Source_run_of (cS : Addr) : Ct := fun ss w R => ∃ x z al pre run rest, ss = [.adr x, .dat (.str al)] ∧ w x = some (srcO cS z pre.length) ∧ cp z = pre ++ (run ++ rest) ∧ z.length ≤ sizeLine ∧ (∀ c ∈ run, c ∈ cp al) ∧ (rest = [] ∨ ∃ c s, rest = c :: s ∧ ¬ c ∈ cp al) ∧ R (.dat (.str (tx run))) (put w x (srcO cS z (pre.length + run.length)))
def c_Source_at_end (cS : Addr) : Ct := fun ss w R => ∃ x z i, ss = [.adr x] ∧ w x = some (srcO cS z i) ∧ z.length ≤ sizeLine ∧ R (.dat (.bool (((i : Nat) : Int) == ((z.length : Nat) : Int)))) w
def c_law_shown_kind (n : Nat) : Ct := fun ss w R => ∃ d t, ss = [.dat d] ∧ Kd n d t ∧ n ≤ 8 ∧ R (.dat (.str (tx t))) w
def kc : Nat → Nat
  | 0 => 2
  | n + 1 => 1 + 2 * kc n
theorem kc_pos : ∀ n, 2 ≤ kc n
  | 0 => by decide
  | n + 1 => by unfold kc; have := kc_pos n; omega
def c_law_kind (n : Nat) : Ct := fun ss w R => ∃ (b : Addr) (m c : Nat) (w0 : Om), ss = [.adr b, .dat (.int ((m : Nat) : Int))] ∧ Bg b c w0 w ∧ 1 ≤ m ∧ m ≤ n + 1 ∧ c + kc n < 2 ^ 60 ∧ ∀ d t w', Kd m d t → Bg b (c + kc n) w0 w' → R (.dat d) w'
theorem len_Source_comes_next {cS ss w R} (h : c_Source_comes_next cS ss w R) : ss.length = 2 := by obtain ⟨_, _, _, _, rfl, _⟩ := h; rfl
theorem len_Source_run_of {cS ss w R} (h : c_Source_run_of cS ss w R) : ss.length = 2 := by obtain ⟨_, _, _, _, _, _, rfl, _⟩ := h; rfl
theorem len_Source_at_end {cS ss w R} (h : c_Source_at_end cS ss w R) : ss.length = 1 := by obtain ⟨_, _, _, rfl, _⟩ := h; rfl
theorem len_law_shown_kind {n ss w R} (h : c_law_shown_kind n ss w R) : ss.length = 1 := by obtain ⟨_, _, rfl, _⟩ := h; rfl
theorem len_law_kind {n ss w R} (h : c_law_kind n ss w R) : ss.length = 2 := by obtain ⟨_, _, _, _, rfl, _⟩ := h; rfl
theorem len_law {ss w R} (h : cLaw ss w R) : ss.length = 1 := by obtain ⟨_, rfl, _⟩ := h; rfl
def N_Source_comes_next : List Str := ["self", "sign"]
def t_Source_comes_next (cS : Addr) : DTS :=
  (dRet (dTM sw3S (dFld cS "signs" (dVar 0)) (dCons (dVar 1) (dCons (dFld cS "spot" (dVar 0)) dNil))))
def N_Source_run_of : List Str := ["self", "signs", "first"]
def t_Source_run_of (cS : Addr) : DTS :=
  (dSeq (dAsg (dFld cS "spot" (dVar 0)) (dName 2))
  (dSeq (dWhile (dAnd (dTst (dOp ltS (dFld cS "spot" (dVar 0)) (dCB lenS (dCons (dFld cS "signs" (dVar 0)) dNil)))) (dTst (dOp (inS false) (dOp ixS (dFld cS "signs" (dVar 0)) (dFld cS "spot" (dVar 0))) (dVar 1)))) (dAddF cS "spot" (dVar 0) (dC (.int 1))))
  (dRet (dSl (dFld cS "signs" (dVar 0)) (dPart (dVar 2)) (dPart (dFld cS "spot" (dVar 0)))))))
def N_Source_at_end : List Str := ["self"]
def t_Source_at_end (cS : Addr) : DTS :=
  (dRet (dOp (eqS false) (dFld cS "spot" (dVar 0)) (dCB lenS (dCons (dFld cS "signs" (dVar 0)) dNil))))
def N_law_kind : List Str := ["bag", "deep", "pick"]
def t_law_kind (cr : Ct) : DTS :=
  (dSeq (dAsg (dCall c_law_draw [] (dCons (dVar 0) (dCons (dC (.int 9)) dNil))) (dName 2))
  (dSeq (dIfS (dOr (dTst (dOp ltS (dVar 2) (dC (.int 4)))) (dTst (dOp ltS (dVar 1) (dC (.int 2))))) (dRet (dFz (dOp ixS (dFz (dLstD (dDats (dTup (dDats (dC (.str "names")) dNilD)) (dDats (dTup (dDats (dC (.str "most")) dNilD)) (dDats (dTup (dDats (dC (.str "last")) dNilD)) dNilD))))) (dCall c_law_draw [] (dCons (dVar 0) (dCons (dC (.int 3)) dNil)))))) dNext)
  (dSeq (dIfS (dTst (dOp ltS (dVar 2) (dC (.int 7)))) (dRet (dFz (dTup (dDats (dC (.str "each")) (dDats (dCall cr [] (dCons (dVar 0) (dCons (dOp gSub (dVar 1) (dC (.int 1))) dNil))) dNilD))))) dNext)
  (dRet (dFz (dTup (dDats (dC (.str "both")) (dDats (dCall cr [] (dCons (dVar 0) (dCons (dOp gSub (dVar 1) (dC (.int 1))) dNil))) (dDats (dCall cr [] (dCons (dVar 0) (dCons (dOp gSub (dVar 1) (dC (.int 1))) dNil))) dNilD)))))))))
def N_law_shown_kind : List Str := ["kind"]
def t_law_shown_kind (cr : Ct) : DTS :=
  (dSeq (dIfS (dTst (dOp (eqS false) (dOp ixS (dVar 0) (dC (.int 0))) (dC (.str "each")))) (dRet (dOp addS (dC (.str "each ")) (dCall cr [] (dCons (dOp ixS (dVar 0) (dC (.int 1))) dNil)))) dNext)
  (dSeq (dIfS (dTst (dOp (eqS false) (dOp ixS (dVar 0) (dC (.int 0))) (dC (.str "both")))) (dRet (dOp addS (dOp addS (dOp addS (dOp addS (dC (.str "both(")) (dCall cr [] (dCons (dOp ixS (dVar 0) (dC (.int 1))) dNil))) (dC (.str ", "))) (dCall cr [] (dCons (dOp ixS (dVar 0) (dC (.int 2))) dNil))) (dC (.str ")")))) dNext)
  (dRet (dOp ixS (dVar 0) (dC (.int 0))))))
theorem and_split {ta tb : DTT} {ρ : DEnv} {w : Om} {R : Bool → Om → Prop} (k1 k2 : Bool) (h1 : ∀ C : Bool → Om → Prop, C k1 w → ta ρ w C) (h2 : k1 = true → ∀ C : Bool → Om → Prop, C k2 w → tb ρ w C) (h : R (k1 && k2) w) : dAnd ta tb ρ w R := by
  refine h1 _ ?_
  cases k1 with
  | false => exact iteF h
  | true => exact iteT (h2 rfl _ h)
theorem seq_and {ta tb : DTT} {ρ : DEnv} {w : Om} {a b r : DTS} {E : DEnds} (k1 k2 : Bool) (h1 : ∀ C : Bool → Om → Prop, C k1 w → ta ρ w C) (h2 : k1 = true → ∀ C : Bool → Om → Prop, C k2 w → tb ρ w C) (hT : k1 = true → k2 = true → a { E with nx := r E } ρ w) (hF : (k1 && k2) = false → b { E with nx := r E } ρ w) : dSeq (dIfS (dAnd ta tb) a b) r E ρ w := by
  refine and_split (R := fun k w1 => if k = true then a { E with nx := r E } ρ w1 else b { E with nx := r E } ρ w1) k1 k2 h1 h2 ?_
  cases h : k1 && k2 with
  | false => exact iteF (hF h)
  | true => rw [Bool.and_eq_true] at h; exact iteT (hT h.1 h.2)
local macro_rules | `(tactic| walk_at "rr") => `(tactic| repeat (first | refine ⟨_, rfl, ?_⟩ | refine ⟨_, _, _, rfl, (by assumption), src_signs _ _, ?_⟩ | refine ⟨_, _, _, rfl, (by assumption), src_spot _ _, ?_⟩ | refine iteT ?_ | refine iteF ?_ | fail "stop"))
theorem slT {w : Om} {z : Str} {lo hi : Option Int} (h : z.length ≤ sizeLine) : slS w (.dat (.str z)) lo hi = some (.v (.dat (.str (cutS z lo hi)))) := by
  show (if z.length ≤ sizeLine then some (Ou.v (.dat (.str (cutS z lo hi)))) else none) = _
  rw [if_pos h]
theorem rd_Source_comes_next {cS ss w R} (h : c_Source_comes_next cS ss w R) : t_Source_comes_next cS (endsN R) (startD N_Source_comes_next ss) w := by
  obtain ⟨x, z, y, i, rfl, hw, q⟩ := h
  walk_at "rr"
  exact ⟨_, Sub.refl _, q⟩
theorem rd_Source_at_end {cS ss w R} (h : c_Source_at_end cS ss w R) : t_Source_at_end cS (endsN R) (startD N_Source_at_end ss) w := by
  obtain ⟨x, z, i, rfl, hw, hl, q⟩ := h
  walk_at "rr"
  refine ⟨_, lenS_str hl, ?_⟩
  walk_at "rr"
  refine ⟨_, Sub.refl _, ?_⟩
  rw [Bool.bne_false]
  exact q
theorem rd_Source_run_of {cS ss w R} (h : c_Source_run_of cS ss w R) : t_Source_run_of cS (endsN R) (startD N_Source_run_of ss) w := by
  obtain ⟨x, z, al, pre, run, rest, rfl, hw, hz, hl, hin, hout, q⟩ := h
  have zl : z.length = pre.length + (run.length + rest.length) := by rw [len_cp, hz]; simp
  walk_at "rr"
  refine ⟨fun m ρ w' => ∃ k, k ≤ run.length ∧ m = run.length - k ∧ ρ = [some (.adr x), some (.dat (.str al)), some (.dat (.int (pre.length : Nat)))] ∧ w' = put w x (srcO cS z (pre.length + k)), ⟨run.length, 0, Nat.zero_le _, rfl, rfl, ?_⟩, ?_⟩
  · rw [Nat.add_zero]; exact (put_get hw).symm
  rintro m ρ w' ⟨k, hk, rfl, rfl, rfl⟩
  have hw' : put w x (srcO cS z (pre.length + k)) x = some (srcO cS z (pre.length + k)) := put_same
  have body : ∀ {k2 : Bool}, k2 = decide (k < run.length) → (if k2 = true then dAddF cS "spot" (dVar 0) (dC (.int 1)) { nx := fun ρ' w' => ∃ m', m' < run.length - k ∧ ∃ k', k' ≤ run.length ∧ m' = run.length - k' ∧ ρ' = [some (.adr x), some (.dat (.str al)), some (.dat (.int (pre.length : Nat)))] ∧ w' = put w x (srcO cS z (pre.length + k')), rt := (endsN R).rt, bk := dRet (dSl (dFld cS "signs" (dVar 0)) (dPart (dVar 2)) (dPart (dFld cS "spot" (dVar 0)))) (endsN R), ct := fun ρ' w' => ∃ m', m' < run.length - k ∧ ∃ k', k' ≤ run.length ∧ m' = run.length - k' ∧ ρ' = [some (.adr x), some (.dat (.str al)), some (.dat (.int (pre.length : Nat)))] ∧ w' = put w x (srcO cS z (pre.length + k')) } [some (.adr x), some (.dat (.str al)), some (.dat (.int (pre.length : Nat)))] (put w x (srcO cS z (pre.length + k)))
      else dRet (dSl (dFld cS "signs" (dVar 0)) (dPart (dVar 2)) (dPart (dFld cS "spot" (dVar 0)))) (endsN R) [some (.adr x), some (.dat (.str al)), some (.dat (.int (pre.length : Nat)))] (put w x (srcO cS z (pre.length + k)))) := fun e => by
    rw [e]
    refine iteD (fun c => ?_) fun c => ?_
    · walk_at "rr"
      refine ⟨_, _, rfl, hw', by show 2 < 1000; decide, ?_⟩
      rw [src_put z _ _ (j := pre.length + (k + 1)) (by omega)]
      exact ⟨run.length - (k + 1), by omega, k + 1, by omega, rfl, rfl, put_put⟩
    · have : k = run.length := by omega
      subst this
      walk_at "rr"
      refine ⟨_, slT hl, _, Sub.refl _, ?_⟩
      have ec : cutS z (some ((pre.length : Nat) : Int)) (some ((pre.length + run.length : Nat) : Int)) = tx run := by
        unfold cutS
        rw [HT.sIx_nat, HT.sIx_nat, Nat.min_eq_left (by omega), Nat.min_eq_left (by omega)]
        show tx (((cp z).drop pre.length).take (pre.length + run.length - pre.length)) = _
        rw [hz, List.drop_left, Nat.add_sub_cancel_left, List.take_left]
      rw [ec]
      exact q
  refine and_split (decide (pre.length + k < z.length)) (decide (k < run.length)) (fun C hC => ?_) (fun h1 C hC => ?_) ?_
  · walk_at "rr"
    refine ⟨_, lenS_str hl, ?_⟩
    walk_at "rr"
    have : decide (((pre.length + k : Nat) : Int) < ((z.length : Nat) : Int)) = decide (pre.length + k < z.length) := by
      rw [decide_eq_decide]; omega
    show C (decide (((pre.length + k : Nat) : Int) < ((z.length : Nat) : Int))) _
    rw [this]; exact hC
  · have h1 := of_decide_eq_true h1
    walk_at "rr"
    obtain ⟨c, hc⟩ : ∃ c, (cp z)[pre.length + k]? = some c := ⟨_, List.getElem?_eq_getElem (by rw [← len_cp]; exact h1)⟩
    refine ⟨_, ixS_str hl (atI_nat hc), ?_⟩
    walk_at "rr"
    have : decide (c ∈ cp al) = decide (k < run.length) := by
      rw [hz, List.getElem?_append_right (by omega), Nat.add_sub_cancel_left] at hc
      by_cases hk2 : k < run.length
      · rw [List.getElem?_append_left hk2] at hc
        rw [decide_eq_true hk2, decide_eq_true (hin c (List.mem_of_getElem? hc))]
      · rw [List.getElem?_append_right (by omega), show k - run.length = 0 by omega] at hc
        rcases hout with rfl | ⟨c', s, rfl, hc'⟩
        · cases hc
        · simp at hc
          subst hc
          rw [decide_eq_false hk2, decide_eq_false hc']
    rw [this]; exact hC
  · refine body ?_
    by_cases hk2 : k < run.length
    · rw [decide_eq_true hk2, decide_eq_true (show pre.length + k < z.length by omega)]; rfl
    · rw [decide_eq_false hk2, Bool.and_false]
theorem seq_andN {ta tb : DTT} {ρ : DEnv} {w : Om} {a r : DTS} {E : DEnds} (k1 k2 : Bool) (h1 : ∀ C : Bool → Om → Prop, C k1 w → ta ρ w C) (h2 : k1 = true → ∀ C : Bool → Om → Prop, C k2 w → tb ρ w C) (hT : k1 = true → k2 = true → a { E with nx := r E } ρ w) (hF : (k1 && k2) = false → r E ρ w) : dSeq (dIfS (dAnd ta tb) a dNext) r E ρ w :=
  seq_and k1 k2 h1 h2 hT hF
theorem in3N {w : Om} {z a b c : Str} : inS true w (.dat (.str z)) (.dat (.tuple [.str a, .str b, .str c])) = some (.v (.dat (.bool (!(a == z || (b == z || (c == z || false))))))) := rfl
theorem each_ne (z : Str) (h : z = "names" ∨ z = "most" ∨ z = "last") : (z == "each") = false ∧ (z == "both") = false := by rcases h with rfl | rfl | rfl <;> exact ⟨by decide, by decide⟩
theorem frzL {ds : List PyData} {w : Om} {k : PyData → Om → Prop} (hl : ds.length ≤ sizeLine) (h : k (.list ds) w) : ds.length ≤ sizeLine ∧ ∀ p, w p = none → frz (.adr p) (put w p (.lst (ds.map .dat))) k :=
  ⟨hl, fun p hp => ⟨ds, put_same, by rw [del_put hp]; exact h⟩⟩
theorem atI_mem {α : Type} {xs : List α} {r : Int} (h0 : 0 ≤ r) (h1 : r < xs.length) : ∃ d, d ∈ xs ∧ atI xs r = some d := by
  obtain ⟨k, rfl⟩ := Int.eq_ofNat_of_zero_le h0
  have hk : k < xs.length := by omega
  exact ⟨xs[k], List.getElem_mem hk, atI_lt hk⟩
theorem addT {w : Om} {a b : Str} (h : a.length + b.length ≤ sizeLine) : addS w (.dat (.str a)) (.dat (.str b)) = some (.v (.dat (.str (a ++ b)))) := by
  show (if a.length + b.length ≤ sizeLine then some (Ou.v (.dat (.str (a ++ b)))) else none) = _
  rw [if_pos h]
local macro_rules | `(tactic| walk_at "rr") => `(tactic| repeat (first | refine ⟨_, ix_t0, ?_⟩ | refine ⟨_, ix_t1, ?_⟩ | refine ⟨_, ix_t2, ?_⟩ | refine ⟨_, rfl, ?_⟩ | refine ⟨_, _, rfl, rfl, ?_⟩ | refine frzL (sq_line (by simp)) ?_ | refine iteT ?_ | refine iteF ?_ | refine And.intro (sq_line (by simp)) ?_ | fail "stop"))
theorem cp_app (a b : Str) : cp (a ++ b) = cp a ++ cp b := by
  show ((a ++ b).cps).toList = _
  simp [Str.cps_append]
theorem ap_tx (a : Str) (t : List Nat) : a ++ tx t = tx (cp a ++ t) := by
  apply cp_inj
  rw [cp_app]
theorem empty_ap (a : Str) : Str.empty ++ a = a := by
  apply cp_inj
  rw [cp_app]
  rfl
theorem Kd.short {n : Nat} {d : PyData} {t : List Nat} (h : Kd n d t) (hn : n ≤ 8) : t.length ≤ 2040 := by
  have := h.len
  have h2 : 2 ^ n ≤ 2 ^ 8 := Nat.pow_le_pow_right (by decide) hn
  omega
theorem line_val : sizeLine = 16777216 := by decide
theorem rd_law_shown_kind (n : Nat) {ss w R} (h : c_law_shown_kind n ss w R) : t_law_shown_kind (prev c_law_shown_kind n) (endsN R) (startD N_law_shown_kind ss) w := by
  obtain ⟨d, t, rfl, hk, hn, q⟩ := h
  have lv := line_val
  cases hk with
  | @pl n z h =>
    obtain ⟨h1, h2⟩ := each_ne z h
    walk_at "rr"
    rw [h1]
    walk_at "rr"
    rw [h2]
    walk_at "rr"
    refine ⟨w, Sub.refl _, ?_⟩
    rw [← tx_cp z]
    exact q
  | @ea n k t' h =>
    have hs := h.short (by omega)
    have e1 := tx_len t'
    walk_at "rr"
    refine ⟨k, t', rfl, h, by omega, ?_⟩
    refine ⟨_, addT (by have : (Str.ofString "each ").length = 5 := by decide
                        omega), w, Sub.refl _, ?_⟩
    rw [ap_tx]
    exact q
  | @bo n k l t' u' h h' =>
    have hs := h.short (by omega)
    have e1 := tx_len t'
    have hs' := h'.short (by omega)
    have e2 := tx_len u'
    have l1 : (Str.ofString "both(").length = 5 := by decide
    have l2 : (Str.ofString ", ").length = 2 := by decide
    have l3 : (Str.ofString ")").length = 1 := by decide
    walk_at "rr"
    refine ⟨k, t', rfl, h, by omega, ?_⟩
    refine ⟨_, addT (by omega), ?_⟩
    walk_at "rr"
    refine ⟨_, addT (by rw [Str.length_append]; omega), ?_⟩
    walk_at "rr"
    refine ⟨l, u', rfl, h', by omega, ?_⟩
    refine ⟨_, addT (by rw [Str.length_append, Str.length_append]; omega), ?_⟩
    walk_at "rr"
    refine ⟨_, addT (by rw [Str.length_append, Str.length_append, Str.length_append]; omega), w, Sub.refl _, ?_⟩
    have e : Str.ofString "both(" ++ tx t' ++ Str.ofString ", " ++ tx u' ++ Str.ofString ")" = tx (cp "both(" ++ (t' ++ (cp ", " ++ (u' ++ cp ")")))) := by
      apply cp_inj
      simp only [cp_app, List.append_assoc]
    rw [e]
    exact q
theorem rd_law_kind (n : Nat) {ss w R} (h : c_law_kind n ss w R) : t_law_kind (prev c_law_kind n) (endsN R) (startD N_law_kind ss) w := by
  obtain ⟨b, m, c, w0, rfl, hB, hm1, hm, hc, q⟩ := h
  have kp := kc_pos n
  obtain ⟨m', rfl⟩ : ∃ m', m = m' + 1 := ⟨m - 1, by omega⟩
  refine ⟨_, rfl, b, 9, c, w0, rfl, hB, by decide, by decide, by omega, fun r w1 r0 r1 hB1 => ?_⟩
  walk_at "rr"
  have leaf : ∀ d, d ∈ [PyData.tuple [.str "names"], .tuple [.str "most"], .tuple [.str "last"]] → ∃ t, Kd (m' + 1) d t := fun d hd => by
    simp only [List.mem_cons, List.not_mem_nil, or_false] at hd
    rcases hd with rfl | rfl | rfl
    · exact ⟨_, .pl (.inl rfl)⟩
    · exact ⟨_, .pl (.inr (.inl rfl))⟩
    · exact ⟨_, .pl (.inr (.inr rfl))⟩
  refine iteD (fun c1 => ?_) fun c1 => ?_
  · walk_at "rr"
    refine ⟨b, 3, c + 1, w0, rfl, hB1, by decide, by decide, by omega, fun r w2 r0 r1 hB2 => ?_⟩
    obtain ⟨d, hd, hat⟩ := atI_mem (xs := [PyData.tuple [.str "names"], .tuple [.str "most"], .tuple [.str "last"]]) r0 r1
    refine ⟨_, ixS_list hat, w2, Sub.refl _, ?_⟩
    obtain ⟨t, ht⟩ := leaf d hd
    exact q d t w2 ht (hB2.mono (by omega))
  walk_at "rr"
  refine iteD (fun c2 => ?_) fun c2 => ?_
  · walk_at "rr"
    refine ⟨b, 3, c + 1, w0, rfl, hB1, by decide, by decide, by omega, fun r w2 r0 r1 hB2 => ?_⟩
    obtain ⟨d, hd, hat⟩ := atI_mem (xs := [PyData.tuple [.str "names"], .tuple [.str "most"], .tuple [.str "last"]]) r0 r1
    refine ⟨_, ixS_list hat, w2, Sub.refl _, ?_⟩
    obtain ⟨t, ht⟩ := leaf d hd
    exact q d t w2 ht (hB2.mono (by omega))
  obtain ⟨n', rfl⟩ : ∃ n', n = n' + 1 := ⟨n - 1, by omega⟩
  have kq : kc (n' + 1) = 1 + 2 * kc n' := rfl
  have em : ((m' + 1 : Nat) : Int) - 1 = ((m' : Nat) : Int) := by omega
  walk_at "rr"
  refine iteD (fun c3 => ?_) fun c3 => ?_
  · walk_at "rr"
    refine ⟨b, m', c + 1, w0, by rw [← em]; rfl, hB1, by omega, by omega, by omega, fun d t w2 hd hB2 => ?_⟩
    walk_at "rr"
    exact ⟨w2, Sub.refl _, q _ _ _ (.ea hd) (hB2.mono (by omega))⟩
  · walk_at "rr"
    refine ⟨b, m', c + 1, w0, by rw [← em]; rfl, hB1, by omega, by omega, by omega, fun d t w2 hd hB2 => ?_⟩
    walk_at "rr"
    refine ⟨b, m', c + 1 + kc n', w0, by rw [← em]; rfl, hB2, by omega, by omega, by omega, fun d' t' w3 hd' hB3 => ?_⟩
    walk_at "rr"
    exact ⟨w3, Sub.refl _, q _ _ _ (.bo hd hd') (hB3.mono (by omega))⟩
theorem Kd.eqv {n m : Nat} {d d' : PyData} {t t' : List Nat} (h : Kd n d t) (h' : Kd m d' t') : PyData.eqv d d' = true ↔ d = d' := by
  induction h generalizing m d' t' with
  | pl h => cases h' with
    | pl h2 => simp [PyData.eqv, PyData.eqvAll]
    | ea h2 => simp [PyData.eqv, PyData.eqvAll]
    | bo h2 h3 => simp [PyData.eqv, PyData.eqvAll]
  | ea h ih => cases h' with
    | pl h2 => simp [PyData.eqv, PyData.eqvAll]
    | ea h2 => simp [PyData.eqv, PyData.eqvAll, ih h2]
    | bo h2 h3 => simp [PyData.eqv, PyData.eqvAll]
  | bo h h0 ih ih0 => cases h' with
    | pl h2 => simp [PyData.eqv, PyData.eqvAll]
    | ea h2 => simp [PyData.eqv, PyData.eqvAll]
    | bo h2 h3 => simp [PyData.eqv, PyData.eqvAll, ih h2, ih0 h3]
theorem Kd.lay {n : Nat} {d : PyData} {t : List Nat} (h : Kd n d t) : d.canLay0 = true ∧ d.depth ≤ n := by
  induction h with
  | pl h => rcases h with rfl | rfl | rfl <;> exact ⟨by simp only [PyData.canLay0, PyData.canLayAll0, Bool.and_true]; decide +kernel, by simp [PyData.depth, PyData.depthAll]⟩
  | ea h ih =>
    have e : (PyData.str (Str.ofString "each")).canLay0 = true := by simp only [PyData.canLay0]; decide +kernel
    exact ⟨by simp [PyData.canLay0, PyData.canLayAll0, ih.1] at e ⊢; exact e, by simp [PyData.depth, PyData.depthAll]; exact ih.2⟩
  | bo h h' ih ih' =>
    have e : (PyData.str (Str.ofString "both")).canLay0 = true := by simp only [PyData.canLay0]; decide +kernel
    exact ⟨by simp [PyData.canLay0, PyData.canLayAll0, ih.1, ih'.1] at e ⊢; exact e, by simp only [PyData.depth, PyData.depthAll]; have := ih.2; have := ih'.2; omega⟩
theorem Kd.shaped {n : Nat} {d : PyData} {t : List Nat} (h : Kd n d t) (hn : n ≤ 60) : SeqAt.shaped d = true := by
  obtain ⟨h1, h2⟩ := h.lay
  unfold SeqAt.shaped
  rw [h1, decide_eq_true (by omega)]; rfl
theorem Kd.plainEq {n m : Nat} {d d' : PyData} {t t' : List Nat} (h : Kd n d t) (h' : Kd m d' t') (hn : n ≤ 60) (hm : m ≤ 60) : DL.plainEq d d' = some (PyData.eqv d d') := by
  have e : (SeqAt.shaped d && SeqAt.shaped d') = true := by rw [h.shaped hn, h'.shaped hm]; rfl
  have g : DL.plainEq d d' = if (SeqAt.shaped d && SeqAt.shaped d') = true then some (PyData.eqv d d') else none := by
    cases h <;> cases h' <;> rfl
  rw [g, if_pos e]
theorem irange_mem {n : Nat} {x : Sl} (h : x ∈ irange 0 n) : ∃ i : Nat, i < n ∧ x = .dat (.int (i : Nat)) := by
  unfold irange at h
  obtain ⟨i, hi, rfl⟩ := List.mem_map.mp h
  exact ⟨i, List.mem_range.mp hi, by rw [Int.zero_add]⟩
theorem irange_len {lo : Int} {n : Nat} : (irange lo n).length = n := by simp [irange]
end G

set_option Elab.async false
set_option linter.all false
set_option maxRecDepth 100000
set_option maxHeartbeats 4000000
namespace G
open PySem PySem.Spec PyProof.Rows L2 DL
/-! ### the program's reader, plainly -/
def cutP (y s : List Nat) : Option (List Nat) := if s.take y.length = y then some (s.drop y.length) else none
theorem cutP_app (y r : List Nat) : cutP y (y ++ r) = some r := by
  unfold cutP
  rw [List.take_left, if_pos rfl, List.drop_left]
theorem cutP_some {y s r : List Nat} (h : cutP y s = some r) : s = y ++ r := by
  unfold cutP at h
  by_cases c : s.take y.length = y
  · rw [if_pos c] at h
    cases h
    calc s = s.take y.length ++ s.drop y.length := (List.take_append_drop _ _).symm
      _ = y ++ s.drop y.length := by rw [c]
  · rw [if_neg c] at h; cases h
def plainW (z : List Nat) : Bool := decide (z = cp "names") || (decide (z = cp "most") || decide (z = cp "last"))
def rdK : Nat → List Nat → Option (PyData × List Nat)
  | 0, _ => none
  | n + 1, s =>
    if 1 ≤ n ∧ s.takeWhile isL = cp "each" then
      (cutP (cp " ") (s.dropWhile isL)).bind fun r1 => (rdK n r1).bind fun p => some (.tuple [.str "each", p.1], p.2)
    else if 1 ≤ n ∧ s.takeWhile isL = cp "both" then
      (cutP (cp "(") (s.dropWhile isL)).bind fun r1 => (rdK n r1).bind fun p => (cutP (cp ", ") p.2).bind fun r2 => (rdK n r2).bind fun q => (cutP (cp ")") q.2).bind fun r3 => some (.tuple [.str "both", p.1, q.1], r3)
    else if plainW (s.takeWhile isL) = true then some (.tuple [.str (tx (s.takeWhile isL))], s.dropWhile isL) else none
theorem bind_some {α β : Type} {x : Option α} {f : α → Option β} {b : β} (h : x.bind f = some b) : ∃ a, x = some a ∧ f a = some b := by
  cases x with
  | none => cases h
  | some a => exact ⟨a, rfl, h⟩
theorem plainW_iff {z : Str} : plainW (cp z) = true ↔ z = "names" ∨ z = "most" ∨ z = "last" := by
  unfold plainW
  simp only [Bool.or_eq_true, decide_eq_true_eq]
  constructor
  · rintro (h | h | h)
    · exact .inl (cp_inj h)
    · exact .inr (.inl (cp_inj h))
    · exact .inr (.inr (cp_inj h))
  · rintro (h | h | h)
    · exact .inl (by rw [h])
    · exact .inr (.inl (by rw [h]))
    · exact .inr (.inr (by rw [h]))
theorem rdK_sound : ∀ (n : Nat) {s : List Nat} {d : PyData} {r : List Nat}, rdK n s = some (d, r) → ∃ t, s = t ++ r ∧ Kd n d t := by
  intro n
  induction n with
  | zero => intro s d r h; cases h
  | succ n ih =>
    intro s d r h
    unfold rdK at h
    have hs : s = s.takeWhile isL ++ s.dropWhile isL := List.takeWhile_append_dropWhile.symm
    by_cases c1 : 1 ≤ n ∧ s.takeWhile isL = cp "each"
    · rw [if_pos c1] at h
      obtain ⟨r1, h1, h⟩ := bind_some h
      obtain ⟨⟨d', r'⟩, h2, h⟩ := bind_some h
      cases h
      obtain ⟨t, rfl, hk⟩ := ih h2
      refine ⟨_, ?_, .ea hk⟩
      rw [hs, c1.2, cutP_some h1, each_sp]
      simp only [List.append_assoc, List.cons_append]
      rfl
    rw [if_neg c1] at h
    by_cases c2 : 1 ≤ n ∧ s.takeWhile isL = cp "both"
    · rw [if_pos c2] at h
      obtain ⟨r1, h1, h⟩ := bind_some h
      obtain ⟨⟨d1, q1⟩, h2, h⟩ := bind_some h
      obtain ⟨r2, h3, h⟩ := bind_some h
      obtain ⟨⟨d2, q2⟩, h4, h⟩ := bind_some h
      obtain ⟨r3, h5, h⟩ := bind_some h
      cases h
      obtain ⟨t1, rfl, k1⟩ := ih h2
      obtain ⟨t2, rfl, k2⟩ := ih h4
      refine ⟨_, ?_, .bo k1 k2⟩
      have e3 : q1 = _ := cutP_some h3
      have e5 : q2 = _ := cutP_some h5
      rw [hs, c2.2, cutP_some h1, e3, e5, both_br]
      simp only [List.append_assoc, List.cons_append]
      rfl
    rw [if_neg c2] at h
    by_cases c3 : plainW (s.takeWhile isL) = true
    · rw [if_pos c3] at h
      cases h
      have : plainW (cp (tx (s.takeWhile isL))) = true := c3
      exact ⟨_, hs, .pl (plainW_iff.mp this)⟩
    · rw [if_neg c3] at h; cases h
theorem drop_word {z r : List Nat} (hz : ∀ c ∈ z, isL c = true) (hr : Stop r) : (z ++ r).dropWhile isL = r := by
  induction z with
  | nil =>
    rcases hr with rfl | ⟨c, s, rfl, hc⟩
    · rfl
    · simp [List.dropWhile, hc]
  | cons c z ih =>
    rw [List.cons_append, List.dropWhile_cons_of_pos (hz c List.mem_cons_self), ih fun e he => hz e (List.mem_cons_of_mem _ he)]
theorem rdK_full {n : Nat} {d : PyData} {t : List Nat} (h : Kd n d t) : ∀ {r : List Nat}, Stop r → rdK n (t ++ r) = some (d, r) := by
  induction h with
  | @pl n z h =>
    intro r hr
    obtain ⟨h1, h2⟩ := each_ne z h
    have e1 : ¬ (1 ≤ n ∧ cp z = cp "each") := fun q => by rw [cp_inj q.2] at h1; revert h1; decide
    have e2 : ¬ (1 ≤ n ∧ cp z = cp "both") := fun q => by rw [cp_inj q.2] at h2; revert h2; decide
    unfold rdK
    rw [run_of_word (plain_L h) hr, drop_word (plain_L h) hr, if_neg e1, if_neg e2, if_pos (plainW_iff.mpr h), tx_cp]
  | @ea n k t h ih =>
    intro r hr
    have n1 : 1 ≤ n := by cases h <;> omega
    unfold rdK
    rw [List.append_assoc, each_sp, run_of_word each_L (stop_sp _), drop_word each_L (stop_sp _), if_pos ⟨n1, rfl⟩]
    rw [show (32 :: (t ++ r)) = cp " " ++ (t ++ r) from rfl, cutP_app]
    show (rdK n (t ++ r)).bind _ = _
    rw [ih hr]
    rfl
  | @bo n k l t u h h' ih ih' =>
    intro r hr
    have n1 : 1 ≤ n := by cases h <;> omega
    have ne : cp "both" ≠ cp "each" := by decide
    unfold rdK
    rw [List.append_assoc, both_br, run_of_word both_L (stop_br _), drop_word both_L (stop_br _), if_neg (fun q => ne q.2), if_pos ⟨n1, rfl⟩]
    simp only [List.append_assoc]
    rw [show (40 :: (t ++ (cp ", " ++ (u ++ (cp ")" ++ r))))) = cp "(" ++ (t ++ (cp ", " ++ (u ++ (cp ")" ++ r)))) from rfl, cutP_app]
    simp only [Option.bind_some, ih (stop_co _), cutP_app, ih' (stop_cl _)]
/-! ### the law's own parts -/
def opn (c : Nat) : Int := if c ∈ cp "([{" then 1 else 0
def clo (c : Nat) : Int := if c ∈ cp ")]}" then 1 else 0
def prtGo : Option Nat → Int → List (List Nat) → List Nat → List Nat → List (List Nat)
  | _, _, i, l, [] => i ++ [l]
  | prev, dp, i, l, c :: s =>
    if dp + opn c - clo c = 0 ∧ c = 44 ∧ s.head? = some 32 then prtGo (some c) (dp + opn c - clo c) (i ++ [l]) [] s
    else if dp + opn c - clo c ≠ 0 ∨ prev = none ∨ ¬ (prev = some 44 ∧ c = 32) then prtGo (some c) (dp + opn c - clo c) i (l ++ [c]) s
    else prtGo (some c) (dp + opn c - clo c) i l s
def prt (u : List Nat) : List (List Nat) := if u = [] then [] else prtGo none 0 [] [] u
def jn : List (List Nat) → List Nat
  | [] => []
  | [l] => l
  | l :: m :: r => l ++ (44 :: 32 :: jn (m :: r))
theorem jn_snoc (l : List Nat) : ∀ (i : List (List Nat)), jn (i ++ [l] ++ [[]]) = jn (i ++ [l]) ++ [44, 32]
  | [] => by simp [jn]
  | [a] => by simp [jn]
  | a :: b :: r => by
    have := jn_snoc l (b :: r)
    simp only [List.cons_append] at this ⊢
    simp only [jn]
    rw [this]
    simp
theorem jn_last (l : List Nat) (c : Nat) : ∀ (i : List (List Nat)), jn (i ++ [l ++ [c]]) = jn (i ++ [l]) ++ [c]
  | [] => by simp [jn]
  | [a] => by simp [jn]
  | a :: b :: r => by
    have := jn_last l c (b :: r)
    simp only [List.cons_append] at this ⊢
    simp only [jn]
    rw [this]
    simp
theorem prt_join : ∀ (s : List Nat) (prev : Option Nat) (dp : Int) (i : List (List Nat)) (l : List Nat), jn (prtGo prev dp i l s) = jn (i ++ [l]) ++ (if prev = some 44 ∧ dp = 0 ∧ s.head? = some 32 then s.tail else s)
  | [], prev, dp, i, l => by
    unfold prtGo
    simp
  | c :: s, prev, dp, i, l => by
    unfold prtGo
    by_cases c1 : dp + opn c - clo c = 0 ∧ c = 44 ∧ s.head? = some 32
    · rw [if_pos c1, prt_join s, if_pos ⟨by rw [c1.2.1], c1.1, c1.2.2⟩, jn_snoc, if_neg (by rw [c1.2.1]; simp)]
      obtain ⟨_, rfl, h3⟩ := c1
      cases s with
      | nil => cases h3
      | cons a r =>
        simp at h3
        subst h3
        simp
    rw [if_neg c1]
    by_cases c2 : dp + opn c - clo c ≠ 0 ∨ prev = none ∨ ¬ (prev = some 44 ∧ c = 32)
    · rw [if_pos c2, prt_join s, jn_last]
      have n1 : ¬ (some c = some 44 ∧ dp + opn c - clo c = 0 ∧ s.head? = some 32) := fun q => c1 ⟨q.2.1, by injection q.1, q.2.2⟩
      have n2 : ¬ (prev = some 44 ∧ dp = 0 ∧ (c :: s).head? = some 32) := fun ⟨q1, q2, q3⟩ => by
        have q3 : c = 32 := by simpa using q3
        subst q3 q2 q1
        rcases c2 with h | h | h
        · exact h (by decide)
        · cases h
        · exact h ⟨rfl, rfl⟩
      rw [if_neg n1, if_neg n2]
      simp
    · rw [if_neg c2, prt_join s]
      have c3 : dp + opn c - clo c = 0 := Classical.byContradiction fun h => c2 (.inl h)
      have c4 : prev = some 44 ∧ c = 32 := Classical.byContradiction fun h => c2 (.inr (.inr h))
      obtain ⟨rfl, rfl⟩ := c4
      have dz : dp = 0 := by
        have : opn 32 = 0 := by decide
        have : clo 32 = 0 := by decide
        omega
      subst dz
      rw [if_neg (by simp), if_pos ⟨rfl, rfl, rfl⟩]
      rfl
theorem prt_jn {u : List Nat} (h : u ≠ []) : jn (prt u) = u := by
  unfold prt
  rw [if_neg h, prt_join]
  simp [jn]
theorem go_in {prev : Option Nat} {dp : Int} {i : List (List Nat)} {l s : List Nat} {c : Nat} (h : dp + opn c - clo c ≠ 0) : prtGo prev dp i l (c :: s) = prtGo (some c) (dp + opn c - clo c) i (l ++ [c]) s := by
  show (if _ then _ else _) = _
  rw [if_neg (fun q => h q.1), if_pos (.inl h)]
theorem go_w {prev : Option Nat} {dp : Int} {i : List (List Nat)} {l s : List Nat} {c : Nat} (h1 : opn c = 0) (h2 : clo c = 0) (h3 : c ≠ 44) (h4 : prev ≠ some 44 ∨ c ≠ 32) : prtGo prev dp i l (c :: s) = prtGo (some c) dp i (l ++ [c]) s := by
  have e : dp + opn c - clo c = dp := by omega
  show (if _ then _ else _) = _
  rw [if_neg (fun q => h3 q.2.1), if_pos (.inr (.inr fun q => h4.elim (fun h => h q.1) fun h => h q.2)), e]
theorem let_c {c : Nat} (h : isL c = true) : opn c = 0 ∧ clo c = 0 ∧ c ≠ 44 ∧ c ≠ 32 := by
  have h := of_decide_eq_true h
  have e : cp "abcdefghijklmnopqrstuvwxyz" = [97, 98, 99, 100, 101, 102, 103, 104, 105, 106, 107, 108, 109, 110, 111, 112, 113, 114, 115, 116, 117, 118, 119, 120, 121, 122] := by decide
  rw [e] at h
  simp only [List.mem_cons, List.not_mem_nil, or_false] at h
  rcases h with h | h | h | h | h | h | h | h | h | h | h | h | h | h | h | h | h | h | h | h | h | h | h | h | h | h <;> subst h <;> exact ⟨by decide, by decide, by decide, by decide⟩
theorem go_word : ∀ (z : List Nat), (∀ c ∈ z, isL c = true) → z ≠ [] → ∀ (prev : Option Nat) (dp : Int) (i : List (List Nat)) (l s : List Nat), ∃ p, isL p = true ∧ prtGo prev dp i l (z ++ s) = prtGo (some p) dp i (l ++ z) s
  | [], _, h, _, _, _, _, _ => absurd rfl h
  | [c], hz, _, prev, dp, i, l, s => by
    have hc := hz c List.mem_cons_self
    obtain ⟨h1, h2, h3, h4⟩ := let_c hc
    exact ⟨c, hc, go_w h1 h2 h3 (.inr h4)⟩
  | c :: b :: z, hz, _, prev, dp, i, l, s => by
    have hc := hz c List.mem_cons_self
    obtain ⟨h1, h2, h3, h4⟩ := let_c hc
    obtain ⟨p, hp, e⟩ := go_word (b :: z) (fun x hx => hz x (List.mem_cons_of_mem _ hx)) (by simp) (some c) dp i (l ++ [c]) s
    refine ⟨p, hp, ?_⟩
    have := go_w (prev := prev) (dp := dp) (i := i) (l := l) (s := (b :: z) ++ s) h1 h2 h3 (.inr h4)
    rw [show c :: b :: z ++ s = c :: ((b :: z) ++ s) from rfl, this, e]
    simp
theorem one40 : opn 40 = 1 ∧ clo 40 = 0 := by decide
theorem one41 : opn 41 = 0 ∧ clo 41 = 1 := by decide
theorem one32 : opn 32 = 0 ∧ clo 32 = 0 := by decide
theorem one44 : opn 44 = 0 ∧ clo 44 = 0 := by decide
theorem plain_ne {z : Str} (h : z = "names" ∨ z = "most" ∨ z = "last") : cp z ≠ [] := by rcases h with rfl | rfl | rfl <;> decide
theorem go_deep {n : Nat} {d : PyData} {t : List Nat} (h : Kd n d t) : ∀ (prev : Option Nat) (dp : Int) (i : List (List Nat)) (l s : List Nat), 0 < dp → ∃ p, prtGo prev dp i l (t ++ s) = prtGo (some p) dp i (l ++ t) s := by
  induction h with
  | pl h =>
    intro prev dp i l s _
    obtain ⟨p, _, e⟩ := go_word _ (plain_L h) (plain_ne h) prev dp i l s
    exact ⟨p, e⟩
  | @ea n k t h ih =>
    intro prev dp i l s hd
    obtain ⟨p, _, e⟩ := go_word (cp "each") each_L (by decide) prev dp i l (32 :: (t ++ s))
    obtain ⟨p2, e2⟩ := ih (some 32) dp i (l ++ cp "each" ++ [32]) s hd
    refine ⟨p2, ?_⟩
    rw [List.append_assoc, each_sp, e, go_in (by have := one32; omega), show dp + opn 32 - clo 32 = dp by have := one32; omega, e2, each_sp]
    simp
  | @bo n k m t u h h' ih ih' =>
    intro prev dp i l s hd
    obtain ⟨p, _, e⟩ := go_word (cp "both") both_L (by decide) prev dp i l (40 :: (t ++ (cp ", " ++ (u ++ (cp ")" ++ s)))))
    obtain ⟨p2, e2⟩ := ih (some 40) (dp + 1) i (l ++ cp "both" ++ [40]) (cp ", " ++ (u ++ (cp ")" ++ s))) (by omega)
    obtain ⟨p3, e3⟩ := ih' (some 32) (dp + 1) i (l ++ cp "both" ++ [40] ++ t ++ [44] ++ [32]) (cp ")" ++ s) (by omega)
    refine ⟨41, ?_⟩
    have c1 : cp ", " = [44, 32] := by decide
    have c2 : cp ")" = [41] := by decide
    rw [List.append_assoc, both_br]
    simp only [List.append_assoc]
    rw [e, go_in (by have := one40; omega), show dp + opn 40 - clo 40 = dp + 1 by have := one40; omega, e2, c1]
    show prtGo (some p2) (dp + 1) i (l ++ cp "both" ++ [40] ++ t) (44 :: 32 :: (u ++ (cp ")" ++ s))) = _
    rw [go_in (by have := one44; omega), show dp + 1 + opn 44 - clo 44 = dp + 1 by have := one44; omega, go_in (by have := one32; omega), show dp + 1 + opn 32 - clo 32 = dp + 1 by have := one32; omega, e3, c2]
    show prtGo (some p3) (dp + 1) i _ (41 :: s) = _
    rw [go_in (by have := one41; omega), show dp + 1 + opn 41 - clo 41 = dp by have := one41; omega, both_br]
    simp
theorem go_flat {n : Nat} {d : PyData} {t : List Nat} (h : Kd n d t) : ∀ (prev : Option Nat) (i : List (List Nat)) (l s : List Nat), prev ≠ some 44 → ∃ p, p ≠ 44 ∧ prtGo prev 0 i l (t ++ s) = prtGo (some p) 0 i (l ++ t) s := by
  induction h with
  | pl h =>
    intro prev i l s _
    obtain ⟨p, hp, e⟩ := go_word _ (plain_L h) (plain_ne h) prev 0 i l s
    exact ⟨p, (let_c hp).2.2.1, e⟩
  | @ea n k t h ih =>
    intro prev i l s _
    obtain ⟨p, hp, e⟩ := go_word (cp "each") each_L (by decide) prev 0 i l (32 :: (t ++ s))
    obtain ⟨p2, n2, e2⟩ := ih (some 32) i (l ++ cp "each" ++ [32]) s (by decide)
    refine ⟨p2, n2, ?_⟩
    rw [List.append_assoc, each_sp, e, go_w one32.1 one32.2 (by decide) (.inl fun q => (let_c hp).2.2.1 (by injection q)), e2, each_sp]
    simp
  | @bo n k m t u h h' ih ih' =>
    intro prev i l s _
    obtain ⟨p, _, e⟩ := go_word (cp "both") both_L (by decide) prev 0 i l (40 :: (t ++ (cp ", " ++ (u ++ (cp ")" ++ s)))))
    obtain ⟨p2, e2⟩ := go_deep h (some 40) 1 i (l ++ cp "both" ++ [40]) (cp ", " ++ (u ++ (cp ")" ++ s))) (by decide)
    obtain ⟨p3, e3⟩ := go_deep h' (some 32) 1 i (l ++ cp "both" ++ [40] ++ t ++ [44] ++ [32]) (cp ")" ++ s) (by decide)
    refine ⟨41, by decide, ?_⟩
    have c1 : cp ", " = [44, 32] := by decide
    have c2 : cp ")" = [41] := by decide
    rw [List.append_assoc, both_br]
    simp only [List.append_assoc]
    rw [e, go_in (by decide), show (0 : Int) + opn 40 - clo 40 = 1 by decide, e2, c1]
    show prtGo (some p2) 1 i (l ++ cp "both" ++ [40] ++ t) (44 :: 32 :: (u ++ (cp ")" ++ s))) = _
    rw [go_in (by decide), show (1 : Int) + opn 44 - clo 44 = 1 by decide, go_in (by decide), show (1 : Int) + opn 32 - clo 32 = 1 by decide, e3, c2]
    have e4 : ∀ L, prtGo (some p3) 1 i L (41 :: s) = prtGo (some 41) 0 i (L ++ [41]) s := fun L => by
      show (if _ then _ else _) = _
      rw [if_neg (fun q => absurd q.2.1 (by decide)), if_pos (.inr (.inr fun q => absurd q.2 (by decide)))]
      rfl
    show prtGo (some p3) 1 i _ (41 :: s) = _
    rw [e4, both_br]
    simp
theorem Kd.ne {n : Nat} {d : PyData} {t : List Nat} (h : Kd n d t) : t ≠ [] := by
  cases h with
  | pl h => exact plain_ne h
  | ea h => rw [each_sp]; exact fun q => by cases q
  | bo h h' => rw [both_br]; exact fun q => by cases q
theorem prt_two {n m : Nat} {d d' : PyData} {t u : List Nat} (h : Kd n d t) (h' : Kd m d' u) : prt (t ++ (cp ", " ++ u)) = [t, u] := by
  have c1 : cp ", " = [44, 32] := by decide
  unfold prt
  rw [if_neg (fun q => h.ne (List.append_eq_nil_iff.mp q).1)]
  obtain ⟨p, hp, e⟩ := go_flat h none [] [] (cp ", " ++ u) (by decide)
  obtain ⟨p2, hp2, e2⟩ := go_flat h' (some 32) [t] [] [] (by decide)
  rw [e, c1]
  show prtGo (some p) 0 [] t (44 :: 32 :: u) = _
  have e3 : prtGo (some p) 0 [] t (44 :: 32 :: u) = prtGo (some 44) 0 [t] [] (32 :: u) := by
    show (if _ then _ else _) = _
    rw [if_pos ⟨by decide, rfl, rfl⟩]
    rfl
  have e4 : prtGo (some 44) 0 [t] [] (32 :: u) = prtGo (some 32) 0 [t] [] u := by
    show (if _ then _ else _) = _
    rw [if_neg (fun q => absurd q.2.1 (by decide)), if_neg (fun q => q.elim (fun q => q (by decide)) fun q => q.elim (fun q => nomatch q) fun q => q ⟨rfl, rfl⟩)]
    rfl
  rw [e3, e4]
  have e5 := e2
  rw [List.append_nil] at e5
  rw [e5]
  rfl
end G

set_option Elab.async false
set_option linter.all false
set_option maxRecDepth 100000
set_option maxHeartbeats 4000000
namespace G
open PySem PySem.Spec PyProof.Rows L2 DL
def c_Sourceu_initu (cS cN : Addr) : CtX := fun ss w R Y => ∃ x d, ss = [.adr x, .dat d] ∧ w x = some (.ins cS []) ∧ (∀ z, d = .str z → R (.dat .none) (put w x (srcO cS z 0))) ∧ ((∀ z, d ≠ .str z) → Y cN none w)
def c_Source_goes_past (cS cN : Addr) : CtX := fun ss w R Y => ∃ x z y pre s, ss = [.adr x, .dat (.str y)] ∧ w x = some (srcO cS z pre.length) ∧ cp z = pre ++ s ∧ y.length ≤ sizeLine ∧ (∀ r, cutP (cp y) s = some r → R (.dat .none) (put w x (srcO cS z (pre ++ cp y).length))) ∧ (cutP (cp y) s = none → Y cN none w)
def c_kind_read (cS cN : Addr) (n : Nat) : CtX := fun ss w R Y => ∃ x z m pre s, ss = [.adr x, .dat (.int ((m : Nat) : Int))] ∧ 1 ≤ m ∧ m ≤ n ∧ w x = some (srcO cS z pre.length) ∧ cp z = pre ++ s ∧ z.length ≤ 10000 ∧
  (∀ d r pre', rdK m s = some (d, r) → cp z = pre' ++ r → R (.dat d) (put w x (srcO cS z pre'.length))) ∧ (rdK m s = none → ∀ p, Y cN none (put w x (srcO cS z p)))
def c_read_kind (cN : Addr) : CtX := fun ss w R Y => ∃ d, ss = [.dat d] ∧ (∀ z, d = .str z → z.length ≤ 10000) ∧ (∀ z k, d = .str z → Kd 4 k (cp z) → R (.dat k) w) ∧ ((∀ z k, d = .str z → ¬ Kd 4 k (cp z)) → Y cN none w)
def c_law_changed : Ct := fun ss w R => ∃ (b : Addr) (z : Str) (c : Nat) (w0 : Om), ss = [.adr b, .dat (.str z)] ∧ Bg b c w0 w ∧ c + 10 < 2 ^ 60 ∧ z.length ≤ 9000 ∧ ∀ y w', y.length ≤ z.length + 20 → Bg b (c + 10) w0 w' → R (.dat (.str y)) w'
def c_law_parts : Ct := fun ss w R => ∃ z : Str, ss = [.dat (.str z)] ∧ z.length ≤ 10000 ∧ R (.dat (.list ((prt (cp z)).map fun p => .str (tx p)))) w
def c_law_read_kind (n : Nat) : Ct := fun ss w R => ∃ (z : Str) (m : Nat), ss = [.dat (.str z), .dat (.int ((m : Nat) : Int))] ∧ m ≤ n ∧ n ≤ 8 ∧ z.length ≤ 10000 ∧ (∀ k, Kd m k (cp z) → R (.dat k) w) ∧ ((∀ k, ¬ Kd m k (cp z)) → R (.dat .none) w)
def c_law_asked : Ct := fun ss w R => ∃ d, ss = [.dat .none, .dat d] ∧ (∀ z, d = .str z → z.length ≤ 10000) ∧ (∀ z k, d = .str z → Kd 4 k (cp z) → R (.dat (.tuple [k, .bool true])) w) ∧ ((∀ z k, d = .str z → ¬ Kd 4 k (cp z)) → R (.dat (.tuple [.bool true, .bool false])) w)
def c_law_odd : Ct := fun ss w R => ∃ (b : Addr) (c : Nat) (w0 : Om), ss = [.adr b] ∧ Bg b c w0 w ∧ c + 1 < 2 ^ 60 ∧ ∀ d w', (∀ z, d = .str z → z.length ≤ 10000) → Bg b (c + 1) w0 w' → R (.dat d) w'
def c_law_right : Ct := fun ss w R => ∃ d, ss = [.dat d] ∧ (∀ z, d = .str z → z.length ≤ 10000) ∧ R (.dat (.bool true)) w
theorem len_Sourceu_initu {cS cN ss w R Y} (h : c_Sourceu_initu cS cN ss w R Y) : ss.length = 2 := by obtain ⟨_, _, rfl, _⟩ := h; rfl
theorem len_Source_goes_past {cS cN ss w R Y} (h : c_Source_goes_past cS cN ss w R Y) : ss.length = 2 := by obtain ⟨_, _, _, _, _, rfl, _⟩ := h; rfl
theorem len_kind_read {cS cN n ss w R Y} (h : c_kind_read cS cN n ss w R Y) : ss.length = 2 := by obtain ⟨_, _, _, _, _, rfl, _⟩ := h; rfl
theorem len_read_kind {cN ss w R Y} (h : c_read_kind cN ss w R Y) : ss.length = 1 := by obtain ⟨_, rfl, _⟩ := h; rfl
theorem len_law_changed {ss w R} (h : c_law_changed ss w R) : ss.length = 2 := by obtain ⟨_, _, _, _, rfl, _⟩ := h; rfl
theorem len_law_parts {ss w R} (h : c_law_parts ss w R) : ss.length = 1 := by obtain ⟨_, rfl, _⟩ := h; rfl
theorem len_law_read_kind {n ss w R} (h : c_law_read_kind n ss w R) : ss.length = 2 := by obtain ⟨_, _, rfl, _⟩ := h; rfl
theorem len_law_asked {ss w R} (h : c_law_asked ss w R) : ss.length = 2 := by obtain ⟨_, rfl, _⟩ := h; rfl
theorem len_law_odd {ss w R} (h : c_law_odd ss w R) : ss.length = 1 := by obtain ⟨_, _, _, rfl, _⟩ := h; rfl
theorem len_law_right {ss w R} (h : c_law_right ss w R) : ss.length = 1 := by obtain ⟨_, rfl, _⟩ := h; rfl
def N_Sourceu_initu : List Str := ["self", "text"]
def t_Sourceu_initu (cS cN : Addr) (Z : DX) : DTS :=
  (dSeq (dIfS (dNot (dTst (dIsi .str (dVar 1)))) (dRaise Z cN) dNext)
  (dSeq (dSetF cS "signs" (dVar 0) (dVar 1))
  (dSetF cS "spot" (dVar 0) (dC (.int 0)))))

def N_Source_goes_past : List Str := ["self", "sign"]
def t_Source_goes_past (cS cN : Addr) (Z : DX) : DTS :=
  (dSeq (dIfS (dNot (dTst (dMeth cS "comes_next" (c_Source_comes_next cS) [] (dVar 0) (dCons (dVar 1) dNil)))) (dRaise Z cN) dNext)
  (dAddF cS "spot" (dVar 0) (dCB lenS (dCons (dVar 1) dNil))))

def N_kind_read : List Str := ["source", "most", "word", "first", "second"]
def t_kind_read (cS cN : Addr) (cr : CtX) (Z : DX) : DTS :=
  (dSeq (dAsg (dMeth cS "run_of" (c_Source_run_of cS) [] (dVar 0) (dCons (dC (.str "abcdefghijklmnopqrstuvwxyz")) dNil)) (dName 2))
  (dSeq (dIfS (dAnd (dTst (dOp gtS (dVar 1) (dC (.int 1)))) (dTst (dOp (eqS false) (dVar 2) (dC (.str "each"))))) (dSeq (dDrop (dMethX Z cS "goes_past" (c_Source_goes_past cS cN) (dVar 0) (dCons (dC (.str " ")) dNil)))
  (dRet (dTup (dDats (dC (.str "each")) (dDats (dCallX Z cr (dCons (dVar 0) (dCons (dOp gSub (dVar 1) (dC (.int 1))) dNil))) dNilD))))) dNext)
  (dSeq (dIfS (dAnd (dTst (dOp gtS (dVar 1) (dC (.int 1)))) (dTst (dOp (eqS false) (dVar 2) (dC (.str "both"))))) (dSeq (dDrop (dMethX Z cS "goes_past" (c_Source_goes_past cS cN) (dVar 0) (dCons (dC (.str "(")) dNil)))
  (dSeq (dAsg (dCallX Z cr (dCons (dVar 0) (dCons (dOp gSub (dVar 1) (dC (.int 1))) dNil))) (dName 3))
  (dSeq (dDrop (dMethX Z cS "goes_past" (c_Source_goes_past cS cN) (dVar 0) (dCons (dC (.str ", ")) dNil)))
  (dSeq (dAsg (dCallX Z cr (dCons (dVar 0) (dCons (dOp gSub (dVar 1) (dC (.int 1))) dNil))) (dName 4))
  (dSeq (dDrop (dMethX Z cS "goes_past" (c_Source_goes_past cS cN) (dVar 0) (dCons (dC (.str ")")) dNil)))
  (dRet (dTup (dDats (dC (.str "both")) (dDats (dVar 3) (dDats (dVar 4) dNilD)))))))))) dNext)
  (dSeq (dIfS (dTst (dOp (inS true) (dVar 2) (dC (.tuple [.str "names", .str "most", .str "last"])))) (dRaise Z cN) dNext)
  (dRet (dTup (dDats (dVar 2) dNilD)))))))

def N_read_kind : List Str := ["text", "source", "found"]
def t_read_kind (cS cN : Addr) (Z : DX) : DTS :=
  (dSeq (dAsg (dMakeX Z cS (c_Sourceu_initu cS cN) (dCons (dVar 0) dNil)) (dName 1))
  (dSeq (dAsg (dCallX Z (c_kind_read cS cN 4) (dCons (dVar 1) (dCons (dC (.int 4)) dNil))) (dName 2))
  (dSeq (dIfS (dNot (dTst (dMeth cS "at_end" (c_Source_at_end cS) [] (dVar 1) dNil))) (dRaise Z cN) dNext)
  (dRet (dVar 2)))))

def N_law_changed : List Str := ["bag", "text", "lot", "at", "signs", "sign", "every", "many"]
def t_law_changed : DTS :=
  (dSeq (dAsg (dCall c_law_draw [] (dCons (dVar 0) (dCons (dC (.int 6)) dNil))) (dName 2))
  (dSeq (dAsg (dCall c_law_draw [] (dCons (dVar 0) (dCons (dOp addS (dCB lenS (dCons (dVar 1) dNil)) (dC (.int 1))) dNil))) (dName 3))
  (dSeq (dAsg (dC (.str "{}[](),: @-0123456789abeachbothnmsl")) (dName 4))
  (dSeq (dAsg (dJoinL (dC (.str "")) (dFz (dLc (dStrI (dVar 4)) (dName 5) dYes (dVar 5) [5]))) (dName 6))
  (dSeq (dIfS (dTst (dOp (eqS false) (dCall c_law_draw [] (dCons (dVar 0) (dCons (dC (.int 3)) dNil))) (dC (.int 0)))) (dAsg (dC (.str " !\"#$&'()*+,-./:;<=>?@ABCXYZ[\\]^_`abcxyz{|}~\n\t")) (dName 6)) dNext)
  (dSeq (dAsg (dOp ixS (dVar 6) (dCall c_law_draw [] (dCons (dVar 0) (dCons (dCB lenS (dCons (dVar 6) dNil)) dNil)))) (dName 5))
  (dSeq (dIfS (dTst (dOp ltS (dVar 2) (dC (.int 3)))) (dRet (dFz (dOp ixS (dFz (dLstD (dDats (dFz (dOp addS (dFz (dOp addS (dFz (dSl (dVar 1) dNoPart (dPart (dVar 3)))) (dVar 5))) (dFz (dSl (dVar 1) (dPart (dVar 3)) dNoPart)))) (dDats (dFz (dOp addS (dFz (dSl (dVar 1) dNoPart (dPart (dVar 3)))) (dFz (dSl (dVar 1) (dPart (dOp addS (dVar 3) (dC (.int 1)))) dNoPart)))) (dDats (dFz (dOp addS (dFz (dOp addS (dFz (dSl (dVar 1) dNoPart (dPart (dVar 3)))) (dVar 5))) (dFz (dSl (dVar 1) (dPart (dOp addS (dVar 3) (dC (.int 1)))) dNoPart)))) dNilD))))) (dVar 2)))) dNext)
  (dSeq (dIfS (dTst (dOp (eqS false) (dVar 2) (dC (.int 3)))) (dRet (dFz (dOp addS (dFz (dOp addS (dFz (dSl (dVar 1) dNoPart (dPart (dVar 3)))) (dRevS (dFz (dSl (dVar 1) (dPart (dVar 3)) (dPart (dOp addS (dVar 3) (dC (.int 2))))))))) (dFz (dSl (dVar 1) (dPart (dOp addS (dVar 3) (dC (.int 2)))) dNoPart))))) dNext)
  (dSeq (dAsg (dOp addS (dC (.int 1)) (dCall c_law_draw [] (dCons (dVar 0) (dCons (dC (.int 9)) dNil)))) (dName 7))
  (dRet (dFz (dOp ixS (dFz (dLstD (dDats (dFz (dOp addS (dFz (dSl (dVar 1) dNoPart (dPart (dVar 3)))) (dFz (dSl (dVar 1) (dPart (dOp addS (dVar 3) (dVar 7))) dNoPart)))) (dDats (dFz (dOp addS (dFz (dSl (dVar 1) dNoPart (dPart (dOp addS (dVar 3) (dVar 7))))) (dFz (dSl (dVar 1) (dPart (dVar 3)) dNoPart)))) dNilD)))) (dOp gSub (dVar 2) (dC (.int 4)))))))))))))))

def N_law_parts : List Str := ["text", "found", "deep", "k"]
def t_law_parts : DTS :=
  (dSeq (dIfS (dTst (dOp (eqS false) (dVar 0) (dC (.str "")))) (dRet (dFz (dLstD dNilD))) dNext)
  (dSeq (dAsg (dLstD (dDats (dC (.str "")) dNilD)) (dName 1))
  (dSeq (dAsg (dC (.int 0)) (dName 2))
  (dSeq (dFor (dRng1 (dCons (dCB lenS (dCons (dVar 0) dNil)) dNil)) (dName 3) (dSeq (dAsg (dOp gSub (dOp addS (dVar 2) (dCB intBS (dCons (dOp (inS false) (dOp ixS (dVar 0) (dVar 3)) (dC (.str "([{"))) dNil))) (dCB intBS (dCons (dOp (inS false) (dOp ixS (dVar 0) (dVar 3)) (dC (.str ")]}"))) dNil))) (dName 2))
  (dIfS (dAnd (dTst (dOp (eqS false) (dVar 2) (dC (.int 0)))) (dTst (dOp (eqS false) (dSl (dVar 0) (dPart (dVar 3)) (dPart (dOp addS (dVar 3) (dC (.int 2))))) (dC (.str ", "))))) (dDrop (dApp (dVar 1) (dC (.str "")))) (dIfS (dOr (dTst (dOp (eqS true) (dVar 2) (dC (.int 0)))) (dOr (dTst (dOp (eqS false) (dVar 3) (dC (.int 0)))) (dTst (dOp (eqS true) (dSl (dVar 0) (dPart (dOp gSub (dVar 3) (dC (.int 1)))) (dPart (dOp addS (dVar 3) (dC (.int 1))))) (dC (.str ", ")))))) (dAsg (dOp addS (dOp ixS (dVar 1) (dNeg (dC (.int 1)))) (dOp ixS (dVar 0) (dVar 3))) (dSetL (dVar 1) (dNeg (dC (.int 1))))) dNext))))
  (dRet (dFz (dVar 1)))))))

def N_law_read_kind : List Str := ["text", "most", "inner", "parts", "pair", "part"]
def t_law_read_kind (cr : Ct) : DTS :=
  (dSeq (dIfS (dTst (dOp (eqS false) (dVar 1) (dC (.int 0)))) (dRet (dC .none)) dNext)
  (dSeq (dIfS (dTst (dOp (inS false) (dVar 0) (dTup (dDats (dC (.str "names")) (dDats (dC (.str "most")) (dDats (dC (.str "last")) dNilD)))))) (dRet (dFz (dTup (dDats (dVar 0) dNilD)))) dNext)
  (dSeq (dIfS (dTst (dOp (eqS false) (dFz (dSl (dVar 0) dNoPart (dPart (dC (.int 5))))) (dC (.str "each ")))) (dSeq (dAsg (dCall cr [] (dCons (dFz (dSl (dVar 0) (dPart (dC (.int 5))) dNoPart)) (dCons (dOp gSub (dVar 1) (dC (.int 1))) dNil))) (dName 2))
  (dRet (dFz (dIf (dTst (dOp (isS' false) (dVar 2) (dC .none))) (dC .none) (dTup (dDats (dC (.str "each")) (dDats (dVar 2) dNilD))))))) dNext)
  (dSeq (dIfS (dOr (dTst (dOp (eqS true) (dFz (dSl (dVar 0) dNoPart (dPart (dC (.int 5))))) (dC (.str "both(")))) (dTst (dOp (eqS true) (dFz (dSl (dVar 0) (dPart (dNeg (dC (.int 1)))) dNoPart)) (dC (.str ")"))))) (dRet (dC .none)) dNext)
  (dSeq (dAsg (dCall c_law_parts [] (dCons (dFz (dSl (dVar 0) (dPart (dC (.int 5))) (dPart (dNeg (dC (.int 1)))))) dNil)) (dName 3))
  (dSeq (dIfS (dTst (dOp (eqS true) (dCB lenS (dCons (dVar 3) dNil)) (dC (.int 2)))) (dRet (dC .none)) dNext)
  (dSeq (dAsgZ 4 (dLc (dSeqI (dVar 3)) (dName 5) dYes (dCall cr [] (dCons (dVar 5) (dCons (dOp gSub (dVar 1) (dC (.int 1))) dNil))) [5]))
  (dRet (dFz (dIf (dTst (dOp (inDS false) (dC .none) (dVar 4))) (dC .none) (dTup (dDats (dC (.str "both")) (dDats (dOp ixS (dVar 4) (dC (.int 0))) (dDats (dOp ixS (dVar 4) (dC (.int 1))) dNilD))))))))))))))

def N_law_asked : List Str := ["kind", "text", "found", "e", "other"]
def t_law_asked (cN : Addr) : DTS :=
  (dSeq (dTry cN 3 (fun Z => (dAsg (dIf (dTst (dOp (isS' false) (dVar 0) (dC .none))) (dCallX Z (c_read_kind cN) (dCons (dVar 1) dNil)) dNeverE) (dName 2))) (fun a => (dSeq (dAsg (dIsEx a false (dVar 3)) (dName 4))
  (dRet (dTup (dDats (dAndV (dIsEx a true (dVar 3)) (dAndV (dNotV (dVar 4)) (dIsEx a true (dVar 3)))) (dDats (dC (.bool false)) dNilD)))))))
  (dRet (dTup (dDats (dVar 2) (dDats (dC (.bool true)) dNilD)))))

def N_law_odd : List Str := ["bag", "some"]
def t_law_odd : DTS :=
  (dSeq (dAsg (dFz (dLstD (dDats (dC (.str "")) (dDats (dC (.str " ")) (dDats (dC (.str "name")) (dDats (dC (.str "Names")) (dDats (dC (.str "names ")) (dDats (dC (.str " names")) (dDats (dC (.str "names\n")) (dDats (dC (.str "each")) (dDats (dC (.str "each ")) (dDats (dC (.str "each  most")) (dDats (dC (.str "eachmost")) dNilD))))))))))))) (dName 1))
  (dSeq (dAsg (dFz (dOp addS (dVar 1) (dFz (dLstD (dDats (dC (.str "each\tmost")) (dDats (dC (.str "both")) (dDats (dC (.str "both()")) (dDats (dC (.str "both(most)")) (dDats (dC (.str "both(most,last)")) (dDats (dC (.str "both(most,  last)")) dNilD)))))))))) (dName 1))
  (dSeq (dAsg (dFz (dOp addS (dVar 1) (dFz (dLstD (dDats (dC (.str "both (most, last)")) (dDats (dC (.str "most last")) (dDats (dC (.str "both(most, last")) (dDats (dC (.str "both(most, last))")) (dDats (dC (.str "both(most, last, names)")) dNilD))))))))) (dName 1))
  (dSeq (dAsg (dFz (dOp addS (dVar 1) (dFz (dLstD (dDats (dC (.str "both[most, last]")) (dDats (dC (.str "(most, last)")) (dDats (dC (.str "each (most)")) (dDats (dC (.str "each(most)")) (dDats (dC (.str "each each each most")) dNilD))))))))) (dName 1))
  (dSeq (dAsg (dFz (dOp addS (dVar 1) (dFz (dLstD (dDats (dC (.str "each each each each most")) (dDats (dC (.str "both(, most)")) (dDats (dC (.str "last@")) (dDats (dC (.str "both(most, )")) dNilD)))))))) (dName 1))
  (dSeq (dAsg (dFz (dOp addS (dVar 1) (dFz (dLstD (dDats (dC (.str "both(each most, each both(last, names))")) (dDats (dC (.str "each both(each most, last)")) (dDats (dC (.str "none")) (dDats (dC (.str "mostlast")) (dDats (dC .none) (dDats (dC (.int 0)) dNilD)))))))))) (dName 1))
  (dSeq (dAsg (dFz (dOp addS (dVar 1) (dFz (dLstD (dDats (dC (.bool true)) (dDats (dFz (dLstD dNilD)) (dDats (dTup (dDats (dC (.str "most")) dNilD)) (dDats (dFz (dLstD (dDats (dC (.str "most")) dNilD))) (dDats dDic0 (dDats (dTup (dDats (dC (.str "names")) dNilD)) (dDats (dC (.int 7)) dNilD))))))))))) (dName 1))
  (dRet (dFz (dOp ixS (dVar 1) (dCall c_law_draw [] (dCons (dVar 0) (dCons (dC (.int 44)) dNil)))))))))))))

def N_law_right : List Str := ["text", "due", "found", "came"]
def t_law_right : DTS :=
  (dSeq (dAsg (dIf (dTst (dIsi .str (dVar 0))) (dCall (c_law_read_kind 4) [] (dCons (dVar 0) (dCons (dC (.int 4)) dNil))) (dC .none)) (dName 1))
  (dSeq (dAsg (dCall c_law_asked [] (dCons (dC .none) (dCons (dVar 0) dNil))) (dGTup 2 (dGCons (dName 2) (dGCons (dName 3) dGNil))))
  (dSeq (dIfS (dTst (dOp (isS' false) (dVar 1) (dC .none))) (dRet (dAndV (dNotV (dVar 3)) (dVar 2))) dNext)
  (dRet (dAndV (dVar 3) (dOp (eqS false) (dVar 2) (dVar 1)))))))

def N_law : List Str := ["script", "k", "bag", "text", "opened", "turn"]
def t_law : DTS :=
  (dSeq (dFor (dRng1 (dCons (dCB maxS (dCons (dC (.int 1)) (dCons (dCB minS (dCons (dC (.int 20)) (dCons (dCB lenS (dCons (dVar 0) dNil)) dNil))) dNil))) dNil)) (dName 1) (dSeq (dAsg (dCall c_law_bag [] (dCons (dCall c_law_cell_at [] (dCons (dVar 0) (dCons (dVar 1) dNil))) (dCons (dVar 1) dNil))) (dName 2))
  (dSeq (dAsg (dCall (c_law_shown_kind 6) [] (dCons (dCall (c_law_kind 5) [] (dCons (dVar 2) (dCons (dOp addS (dC (.int 1)) (dCall c_law_draw [] (dCons (dVar 2) (dCons (dC (.int 5)) dNil)))) dNil))) dNil)) (dName 3))
  (dSeq (dIfS (dTst (dOp (eqS false) (dCall c_law_draw [] (dCons (dVar 2) (dCons (dC (.int 4)) dNil))) (dC (.int 3)))) (dSeq (dAsg (dOp ixS (dFz (dLstD (dDats (dC (.str "each ")) (dDats (dC (.str "both(")) (dDats (dC (.str "both(most, ")) dNilD))))) (dCall c_law_draw [] (dCons (dVar 2) (dCons (dC (.int 3)) dNil)))) (dName 4))
  (dAsg (dOp addS (dOp gMulS (dVar 4) (dCall c_law_draw [] (dCons (dVar 2) (dCons (dOp ixS (dFz (dLstD (dDats (dC (.int 31)) (dDats (dOp gDiv (dC (.int 2800)) (dCB lenS (dCons (dVar 4) dNil))) dNilD)))) (dOp gDiv (dCall c_law_draw [] (dCons (dVar 2) (dCons (dC (.int 4)) dNil))) (dC (.int 3)))) dNil)))) (dVar 3)) (dName 3))) dNext)
  (dSeq (dFor (dRng1 (dCons (dCall c_law_draw [] (dCons (dVar 2) (dCons (dC (.int 4)) dNil))) dNil)) (dName 5) (dSeq (dIfS (dNot (dTst (dCall c_law_right [] (dCons (dVar 3) dNil)))) (dRet (dC (.bool false))) dNext)
  (dAsg (dCall c_law_changed [] (dCons (dVar 2) (dCons (dVar 3) dNil))) (dName 3))))
  (dIfS (dOr (dNot (dTst (dCall c_law_right [] (dCons (dVar 3) dNil)))) (dNot (dTst (dCall c_law_right [] (dCons (dCall c_law_odd [] (dCons (dVar 2) dNil)) dNil))))) (dRet (dC (.bool false))) dNext))))))
  (dRet (dC (.bool true))))

end G

set_option Elab.async false
set_option linter.all false
set_option maxRecDepth 100000
set_option maxHeartbeats 4000000
namespace G
open PySem PySem.Spec PyProof.Rows L2 DL
theorem starts3 {z y : Str} {pre s : List Nat} (h : cp z = pre ++ s) : Txt.startswith3 z y ((pre.length : Nat) : Int) = (cutP (cp y) s).isSome := by
  have zl : z.length = pre.length + s.length := by rw [len_cp, h]; simp
  have e : fromIndex z.length ((pre.length : Nat) : Int) = pre.length := by
    unfold fromIndex
    rw [if_neg (by omega)]
    omega
  unfold Txt.startswith3
  rw [e, StrLaws.subAt_eq]
  show (decide (pre.length + y.length ≤ z.length) && (((cp z).drop pre.length).take y.length == cp y)) = _
  rw [h, List.drop_left, len_cp y]
  unfold cutP
  by_cases c : s.take (cp y).length = cp y
  · rw [if_pos c]
    have l1 : (cp y).length ≤ s.length := by
      have := congrArg List.length c
      rw [List.length_take] at this
      omega
    rw [decide_eq_true (by omega), c]
    simp
  · rw [if_neg c]
    have : (s.take (cp y).length == cp y) = false := beq_eq_false_iff_ne.mpr c
    rw [this, Bool.and_false]
    rfl
local macro_rules | `(tactic| walk_at "rr") => `(tactic| repeat (first | refine ⟨_, rfl, ?_⟩ | refine ⟨_, _, _, rfl, (by assumption), src_signs _ _, ?_⟩ | refine ⟨_, _, _, rfl, (by assumption), src_spot _ _, ?_⟩ | refine iteT ?_ | refine iteF ?_ | refine And.intro (sq_line (by simp)) ?_ | fail "stop"))
theorem rd_Sourceu_initu {cS cN ss w R Y} (h : c_Sourceu_initu cS cN ss w R Y) : t_Sourceu_initu cS cN (ZF Y) (endsN R) (startD N_Sourceu_initu ss) w := by
  obtain ⟨x, d, rfl, hw, q1, q2⟩ := h
  cases d with
  | str z =>
    walk_at "rr"
    refine ⟨x, [], rfl, hw, by decide, ?_⟩
    walk_at "rr"
    refine ⟨x, _, rfl, put_same, by show 1 < 1000; decide, ?_⟩
    rw [put_put, src_first]
    exact ⟨_, Sub.refl _, q1 z rfl⟩
  | none => walk_at "rr"; exact ⟨_, Sub.refl _, q2 fun z e => by cases e⟩
  | bool _ => walk_at "rr"; exact ⟨_, Sub.refl _, q2 fun z e => by cases e⟩
  | int _ => walk_at "rr"; exact ⟨_, Sub.refl _, q2 fun z e => by cases e⟩
  | list _ => walk_at "rr"; exact ⟨_, Sub.refl _, q2 fun z e => by cases e⟩
  | tuple _ => walk_at "rr"; exact ⟨_, Sub.refl _, q2 fun z e => by cases e⟩
  | dict _ => walk_at "rr"; exact ⟨_, Sub.refl _, q2 fun z e => by cases e⟩
theorem rd_Source_goes_past {cS cN ss w R Y} (h : c_Source_goes_past cS cN ss w R Y) : t_Source_goes_past cS cN (ZF Y) (endsN R) (startD N_Source_goes_past ss) w := by
  obtain ⟨x, z, y, pre, s, rfl, hw, hz, hl, q1, q2⟩ := h
  walk_at "rr"
  refine ⟨x, _, rfl, hw, src_no (by decide) (by decide), ?_⟩
  walk_at "rr"
  refine ⟨x, z, y, _, rfl, hw, ?_⟩
  rw [starts3 hz]
  cases hc : cutP (cp y) s with
  | none =>
    walk_at "rr"
    exact ⟨_, Sub.refl _, q2 hc⟩
  | some r =>
    walk_at "rr"
    refine ⟨_, lenS_str hl, ?_⟩
    refine ⟨_, _, rfl, hw, by show 2 < 1000; decide, ?_⟩
    rw [src_put z _ _ (j := (pre ++ cp y).length) (by rw [List.length_append, len_cp y]; simp)]
    exact ⟨_, Sub.refl _, q1 r hc⟩
theorem stop_drop (s : List Nat) : s.dropWhile isL = [] ∨ ∃ c r, s.dropWhile isL = c :: r ∧ ¬ c ∈ cp "abcdefghijklmnopqrstuvwxyz" := by
  induction s with
  | nil => exact .inl rfl
  | cons c s ih =>
    by_cases h : isL c = true
    · rw [List.dropWhile_cons_of_pos h]; exact ih
    · rw [List.dropWhile_cons_of_neg h]
      exact .inr ⟨c, s, rfl, fun m => h (decide_eq_true m)⟩
theorem all_take (s : List Nat) : ∀ c ∈ s.takeWhile isL, c ∈ cp "abcdefghijklmnopqrstuvwxyz" := by
  induction s with
  | nil => intro c hc; cases hc
  | cons a s ih =>
    intro c hc
    by_cases h : isL a = true
    · rw [List.takeWhile_cons_of_pos h] at hc
      rcases List.mem_cons.mp hc with rfl | hc
      · exact of_decide_eq_true h
      · exact ih c hc
    · rw [List.takeWhile_cons_of_neg h] at hc; cases hc
theorem beq_cp (t : List Nat) (y : Str) : (tx t == y) = decide (t = cp y) := by
  by_cases h : t = cp y
  · rw [decide_eq_true h, h, tx_cp, beq_self_eq_true]
  · rw [decide_eq_false h, beq_eq_false_iff_ne]
    exact fun e => h (by rw [← e])
theorem pastX {cS cN x : Addr} {w : Om} {z y : Str} {pre s : List Nat} {p : Nat} {R : DQ} {Y : XY} (hz : cp z = pre ++ s) (hy : y.length ≤ sizeLine) (hp : p = pre.length) (q1 : ∀ r, cutP (cp y) s = some r → R (.dat .none) (put w x (srcO cS z (pre ++ cp y).length))) (q2 : cutP (cp y) s = none → Y cN none (put w x (srcO cS z p))) : c_Source_goes_past cS cN [.adr x, .dat (.str y)] (put w x (srcO cS z p)) R Y := by
  subst hp
  refine ⟨x, z, y, pre, s, rfl, put_same, hz, hy, fun r hr => ?_, q2⟩
  rw [put_put]
  exact q1 r hr
theorem readsX {cS cN x : Addr} {w : Om} {z : Str} {pre s : List Nat} {p n k : Nat} {m : Int} {R : DQ} {Y : XY} (hm : m = (k : Nat)) (h1 : 1 ≤ k) (hk : k ≤ n) (hz : cp z = pre ++ s) (hl : z.length ≤ 10000) (hp : p = pre.length) (q1 : ∀ d r pre', rdK k s = some (d, r) → cp z = pre' ++ r → R (.dat d) (put w x (srcO cS z pre'.length))) (q2 : rdK k s = none → ∀ p, Y cN none (put w x (srcO cS z p))) : c_kind_read cS cN n [.adr x, .dat (.int m)] (put w x (srcO cS z p)) R Y := by
  subst hp hm
  refine ⟨x, z, k, pre, s, rfl, h1, hk, put_same, hz, hl, fun d r pre' e1 e2 => ?_, fun e p => ?_⟩
  · rw [put_put]; exact q1 d r pre' e1 e2
  · rw [put_put]; exact q2 e p
theorem rd_kind_read (nn : Nat) {cS cN ss w R Y} (h : c_kind_read cS cN nn ss w R Y) : t_kind_read cS cN (prevX (c_kind_read cS cN) nn) (ZF Y) (endsN R) (startD N_kind_read ss) w := by
  obtain ⟨x, z, m, pre, s, rfl, hm1, hm, hw, hz, hl, q1, q2⟩ := h
  have hl' : z.length ≤ sizeLine := Nat.le_trans hl (by decide)
  obtain ⟨n, rfl⟩ : ∃ n, m = n + 1 := ⟨m - 1, by omega⟩
  have hst : ∀ p, put w x (srcO cS z p) x = some (srcO cS z p) := fun p => put_same
  have hs : s = s.takeWhile isL ++ s.dropWhile isL := List.takeWhile_append_dropWhile.symm
  have hz1 : cp z = (pre ++ s.takeWhile isL) ++ s.dropWhile isL := by rw [List.append_assoc, ← hs]; exact hz
  have hrd : rdK (n + 1) s = if 1 ≤ n ∧ s.takeWhile isL = cp "each" then
      (cutP (cp " ") (s.dropWhile isL)).bind fun r1 => (rdK n r1).bind fun p => some (.tuple [.str "each", p.1], p.2)
    else if 1 ≤ n ∧ s.takeWhile isL = cp "both" then
      (cutP (cp "(") (s.dropWhile isL)).bind fun r1 => (rdK n r1).bind fun p => (cutP (cp ", ") p.2).bind fun r2 => (rdK n r2).bind fun q => (cutP (cp ")") q.2).bind fun r3 => some (.tuple [.str "both", p.1, q.1], r3)
    else if plainW (s.takeWhile isL) = true then some (.tuple [.str (tx (s.takeWhile isL))], s.dropWhile isL) else none := rfl
  walk_at "rr"
  refine ⟨x, _, rfl, hw, src_no (by decide) (by decide), ?_⟩
  refine ⟨x, z, _, pre, s.takeWhile isL, s.dropWhile isL, rfl, hw, by rw [← hs]; exact hz, hl', all_take s, stop_drop s, ?_⟩
  generalize hd : s.dropWhile isL = dw at *
  generalize ht : s.takeWhile isL = tw at *
  unfold dName
  dsimp only
  have ek : ((n + 1 : Nat) : Int) - 1 = ((n : Nat) : Int) := by omega
  refine seq_andN (decide (((n + 1 : Nat) : Int) > 1)) (decide (tw = cp "each")) (fun C hC => ?_) (fun _ C hC => ?_) (fun c1 c2 => ?_) fun c1 => ?_
  · walk_at "rr"; exact hC
  · walk_at "rr"; rw [beq_cp, Bool.bne_false]; exact hC
  · have c1 := of_decide_eq_true c1
    have c2 := of_decide_eq_true c2
    obtain ⟨n', rfl⟩ : ∃ n', nn = n' + 1 := ⟨nn - 1, by omega⟩
    rw [if_pos ⟨by omega, c2⟩] at hrd
    walk_at "rr"
    refine ⟨x, _, rfl, hst _, src_no (by decide) (by decide), ?_⟩
    dsimp only [dCons, dC, dNil]
    refine pastX (y := " ") hz1 (by decide) (by rw [List.length_append]) (fun r1 h1 => ?_) fun h1 => ⟨_, Sub.refl _, q2 (by rw [hrd, h1]; rfl) _⟩
    walk_at "rr"
    dsimp only [DL.ret, dNil, prevX]
    refine readsX (n := n') ek (by omega) (by omega) (pre := pre ++ tw ++ cp " ") (s := r1) (by rw [hz1, cutP_some h1]; simp only [List.append_assoc]) hl rfl (fun d r pre' e1 e2 => ?_) fun e p => ⟨_, Sub.refl _, q2 (by rw [hrd, h1]; show (rdK n r1).bind _ = _; rw [e]; rfl) _⟩
    walk_at "rr"
    exact ⟨_, Sub.refl _, q1 _ r pre' (by rw [hrd, h1]; show (rdK n r1).bind _ = _; rw [e1]; rfl) e2⟩
  have ne1 : ¬ (1 ≤ n ∧ tw = cp "each") := fun ⟨a, b⟩ => by
    rw [decide_eq_true (show ((n + 1 : Nat) : Int) > 1 by omega), decide_eq_true b] at c1
    cases c1
  rw [if_neg ne1] at hrd
  refine seq_andN (decide (((n + 1 : Nat) : Int) > 1)) (decide (tw = cp "both")) (fun C hC => ?_) (fun _ C hC => ?_) (fun c1 c2 => ?_) fun c2 => ?_
  · walk_at "rr"; exact hC
  · walk_at "rr"; rw [beq_cp, Bool.bne_false]; exact hC
  · have c1 := of_decide_eq_true c1
    have c2 := of_decide_eq_true c2
    obtain ⟨n', rfl⟩ : ∃ n', nn = n' + 1 := ⟨nn - 1, by omega⟩
    rw [if_pos ⟨by omega, c2⟩] at hrd
    walk_at "rr"
    refine ⟨x, _, rfl, hst _, src_no (by decide) (by decide), ?_⟩
    dsimp only [dCons, dC, dNil]
    refine pastX (y := "(") hz1 (by decide) (by rw [List.length_append]) (fun r1 h1 => ?_) fun h1 => ⟨_, Sub.refl _, q2 (by rw [hrd, h1]; rfl) _⟩
    walk_at "rr"
    dsimp only [DL.ret, dNil, prevX]
    refine readsX (n := n') ek (by omega) (by omega) (pre := pre ++ tw ++ cp "(") (s := r1) (by rw [hz1, cutP_some h1]; simp only [List.append_assoc]) hl rfl (fun d r pre' e1 e2 => ?_) fun e p => ⟨_, Sub.refl _, q2 (by rw [hrd, h1]; show (rdK n r1).bind _ = _; rw [e]; rfl) _⟩
    walk_at "rr"
    refine ⟨x, _, rfl, hst _, src_no (by decide) (by decide), ?_⟩
    dsimp only [dCons, dC, dNil]
    refine pastX (y := ", ") e2 (by decide) rfl (fun r2 h3 => ?_) fun h3 => ⟨_, Sub.refl _, q2 (by rw [hrd, h1]; show (rdK n r1).bind _ = _; rw [e1]; show (cutP _ r).bind _ = _; rw [h3]; rfl) _⟩
    walk_at "rr"
    dsimp only [DL.ret, dNil, prevX]
    refine readsX (n := n') ek (by omega) (by omega) (pre := pre' ++ cp ", ") (s := r2) (by rw [e2, cutP_some h3, List.append_assoc]) hl rfl (fun d' r' pre2 e3 e4 => ?_) fun e p => ⟨_, Sub.refl _, q2 (by rw [hrd, h1]; show (rdK n r1).bind _ = _; rw [e1]; show (cutP _ r).bind _ = _; rw [h3]; show (rdK n r2).bind _ = _; rw [e]; rfl) _⟩
    walk_at "rr"
    refine ⟨x, _, rfl, hst _, src_no (by decide) (by decide), ?_⟩
    dsimp only [dCons, dC, dNil]
    refine pastX (y := ")") e4 (by decide) rfl (fun r3 h5 => ?_) fun h5 => ⟨_, Sub.refl _, q2 (by rw [hrd, h1]; show (rdK n r1).bind _ = _; rw [e1]; show (cutP _ r).bind _ = _; rw [h3]; show (rdK n r2).bind _ = _; rw [e3]; show (cutP _ r').bind _ = _; rw [h5]; rfl) _⟩
    walk_at "rr"
    exact ⟨_, Sub.refl _, q1 _ r3 (pre2 ++ cp ")") (by rw [hrd, h1]; show (rdK n r1).bind _ = _; rw [e1]; show (cutP _ r).bind _ = _; rw [h3]; show (rdK n r2).bind _ = _; rw [e3]; show (cutP _ r').bind _ = _; rw [h5]; rfl) (by rw [e4, cutP_some h5, List.append_assoc])⟩
  have ne2 : ¬ (1 ≤ n ∧ tw = cp "both") := fun ⟨a, b⟩ => by
    rw [decide_eq_true (show ((n + 1 : Nat) : Int) > 1 by omega), decide_eq_true b] at c2
    cases c2
  rw [if_neg ne2] at hrd
  refine ⟨_, rfl, _, in3N, _, rfl, ?_⟩
  have pw : ((Str.ofString "names") == tx tw || ((Str.ofString "most") == tx tw || ((Str.ofString "last") == tx tw || false))) = plainW tw := by
    have fl : ∀ a : Str, (a == tx tw) = decide (tw = cp a) := fun a => by
      rw [← beq_cp]
      by_cases h : tx tw = a
      · rw [h]
      · rw [beq_eq_false_iff_ne.mpr h, beq_eq_false_iff_ne.mpr (Ne.symm h)]
    rw [fl, fl, fl, Bool.or_false]
    rfl
  rw [pw]
  cases hp : plainW tw with
  | true =>
    rw [hp, if_pos rfl] at hrd
    walk_at "rr"
    exact ⟨_, Sub.refl _, by
      have := q1 _ dw (pre ++ tw) hrd hz1
      rw [List.length_append] at this
      exact this⟩
  | false =>
    rw [hp, if_neg Bool.false_ne_true] at hrd
    walk_at "rr"
    exact ⟨_, Sub.refl _, q2 hrd _⟩
end G

set_option Elab.async false
set_option linter.all false
set_option maxRecDepth 100000
set_option maxHeartbeats 4000000
namespace G
open PySem PySem.Spec PyProof.Rows L2 DL
local macro_rules | `(tactic| walk_at "rr") => `(tactic| repeat (first | refine ⟨_, ix_t0, ?_⟩ | refine ⟨_, ix_t1, ?_⟩ | refine ⟨_, rfl, ?_⟩ | refine ⟨_, _, rfl, rfl, ?_⟩ | refine frzL (sq_line (by simp)) ?_ | refine iteT ?_ | refine iteF ?_ | refine And.intro (sq_line (by simp)) ?_ | fail "stop"))
theorem rdK_iff {z : Str} {k : PyData} : rdK 4 (cp z) = some (k, []) ↔ Kd 4 k (cp z) := by
  constructor
  · intro h
    obtain ⟨t, e, hk⟩ := rdK_sound 4 h
    rw [e, List.append_nil]
    exact hk
  · intro h
    have := rdK_full h (r := []) (.inl rfl)
    rw [List.append_nil] at this
    exact this
theorem rd_read_kind {cS cN ss w R Y} (h : c_read_kind cN ss w R Y) : t_read_kind cS cN (ZF Y) (endsN R) (startD N_read_kind ss) w := by
  obtain ⟨d, rfl, hl, q1, q2⟩ := h
  walk_at "rr"
  intro x hx
  refine ⟨x, d, rfl, put_same, fun z hd => ⟨rfl, ?_⟩, fun hd => ⟨w, Sub.new hx, q2 fun z k e => absurd e (hd z)⟩⟩
  subst hd
  have hz := hl z rfl
  rw [put_put]
  walk_at "rr"
  dsimp only [dCons, dC, dNil]
  refine readsX (n := 4) (m := 4) (k := 4) rfl (by decide) (by decide) (pre := []) (s := cp z) rfl hz rfl (fun d r pre' e1 e2 => ?_) fun e p => ⟨w, Sub.new hx, q2 fun z' k e' hk => ?_⟩
  · walk_at "rr"
    refine ⟨x, _, rfl, put_same, src_no (by decide) (by decide), ?_⟩
    dsimp only [dNil, List.append_nil]
    refine ⟨x, z, _, rfl, put_same, Nat.le_trans hz (by decide), ?_⟩
    have zl : z.length = pre'.length + r.length := by rw [len_cp, e2]; simp
    cases r with
    | nil =>
      have e : (((pre'.length : Nat) : Int) == ((z.length : Nat) : Int)) = true := by rw [zl]; simp
      rw [e]
      walk_at "rr"
      exact ⟨w, Sub.new hx, q1 z d rfl (rdK_iff.mp e1)⟩
    | cons a r =>
      have e : (((pre'.length : Nat) : Int) == ((z.length : Nat) : Int)) = false := by
        rw [beq_eq_false_iff_ne]; rw [zl]; simp; omega
      rw [e]
      walk_at "rr"
      refine ⟨w, Sub.new hx, q2 fun z' k e' hk => ?_⟩
      cases e'
      rw [rdK_iff.mpr hk] at e1
      cases e1
  · cases e'
    rw [rdK_iff.mpr hk] at e
    cases e
theorem rd_law_asked {cN ss w R} (h : c_law_asked ss w R) : t_law_asked cN (endsN R) (startD N_law_asked ss) w := by
  obtain ⟨d, rfl, hl, q1, q2⟩ := h
  walk_at "rr"
  refine ⟨hl, fun z k e hk => ?_, fun hn => ⟨rfl, rfl, fun a ha => ?_⟩⟩
  · walk_at "rr"
    exact ⟨w, Sub.refl _, q1 z k e hk⟩
  · walk_at "rr"
    refine ⟨rfl, ?_⟩
    walk_at "rr"
    refine ⟨rfl, ?_⟩
    walk_at "rr"
    refine ⟨rfl, ?_⟩
    walk_at "rr"
    exact ⟨w, Sub.refl _, q2 hn⟩
theorem Kd.some {n : Nat} {d : PyData} {t : List Nat} (h : Kd n d t) : isNone (.dat d) = false := by cases h <;> rfl
theorem rd_law_right {ss w R} (h : c_law_right ss w R) : t_law_right (endsN R) (startD N_law_right ss) w := by
  obtain ⟨d, rfl, hl, q⟩ := h
  have fin : ∃ u, Sub u w ∧ R (.dat (.bool true)) u := ⟨w, Sub.refl _, q⟩
  have no : ∀ (ρ : DEnv), (∀ z k, d = .str z → ¬ Kd 4 k (cp z)) → ρ = [some (.dat d), some (.dat .none), none, none] →
      dSeq (dAsg (dCall c_law_asked [] (dCons (dC .none) (dCons (dVar 0) dNil))) (dGTup 2 (dGCons (dName 2) (dGCons (dName 3) dGNil)))) (dSeq (dIfS (dTst (dOp (isS' false) (dVar 1) (dC .none))) (dRet (dAndV (dNotV (dVar 3)) (dVar 2))) dNext) (dRet (dAndV (dVar 3) (dOp (eqS false) (dVar 2) (dVar 1))))) (endsN R) ρ w := fun ρ hn hρ => by
    subst hρ
    walk_at "rr"
    refine ⟨hl, fun z k e hk => absurd hk (hn z k e), fun _ => ?_⟩
    walk_at "rr"
    refine ⟨rfl, ?_⟩
    refine ⟨_, _, rfl, _, _, rfl, rfl, ?_⟩
    walk_at "rr"
    exact fin
  cases d with
  | str z =>
    walk_at "rr"
    refine ⟨z, 4, rfl, by decide, by decide, hl z rfl, fun k hk => ?_, fun hn => no _ (fun z' k e hk => by cases e; exact hn k hk) rfl⟩
    walk_at "rr"
    refine ⟨hl, fun z' k' e hk' => ?_, fun hn => absurd hk (hn z k rfl)⟩
    cases e
    have : k' = k := hk'.one hk
    subst this
    walk_at "rr"
    refine ⟨rfl, ?_⟩
    refine ⟨_, _, rfl, _, _, rfl, rfl, ?_⟩
    walk_at "rr"
    rw [hk.some]
    walk_at "rr"
    refine ⟨_, eqS_ok rfl rfl (hk.plainEq hk (by decide) (by decide)), ?_⟩
    have : PyData.eqv k' k' = true := (hk.eqv hk).mpr rfl
    rw [this]
    exact fin
  | none => refine ⟨_, rfl, _, rfl, _, rfl, ?_⟩; refine iteF ?_; exact no _ (fun z' k e => by cases e) rfl
  | bool _ => refine ⟨_, rfl, _, rfl, _, rfl, ?_⟩; refine iteF ?_; exact no _ (fun z' k e => by cases e) rfl
  | int _ => refine ⟨_, rfl, _, rfl, _, rfl, ?_⟩; refine iteF ?_; exact no _ (fun z' k e => by cases e) rfl
  | list _ => refine ⟨_, rfl, _, rfl, _, rfl, ?_⟩; refine iteF ?_; exact no _ (fun z' k e => by cases e) rfl
  | tuple _ => refine ⟨_, rfl, _, rfl, _, rfl, ?_⟩; refine iteF ?_; exact no _ (fun z' k e => by cases e) rfl
  | dict _ => refine ⟨_, rfl, _, rfl, _, rfl, ?_⟩; refine iteF ?_; exact no _ (fun z' k e => by cases e) rfl
end G

set_option Elab.async false
set_option linter.all false
set_option maxRecDepth 100000
set_option maxHeartbeats 4000000
namespace G
open PySem PySem.Spec PyProof.Rows L2 DL
local macro_rules | `(tactic| walk_at "rr") => `(tactic| repeat (first | refine ⟨_, rfl, ?_⟩ | refine ⟨_, _, rfl, rfl, ?_⟩ | refine frzL (sq_line (by simp)) ?_ | refine iteT ?_ | refine iteF ?_ | refine And.intro (sq_line (by simp)) ?_ | fail "stop"))
/-- the parts in the store -/
abbrev ptO (ps : List (List Nat)) : OO := .lst (ps.map fun q => .dat (.str (tx q)))
theorem atI_last {α : Type} (xs : List α) (y : α) : atI (xs ++ [y]) (-1) = some y := by
  unfold atI ixN
  rw [if_neg (by decide), if_pos (by simp; omega)]
  have : (-1 + ((xs ++ [y]).length : Int)).toNat = xs.length := by simp; omega
  rw [this]
  simp
theorem ixN_last {α : Type} (xs : List α) (y : α) : ixN (xs ++ [y]).length (-1) = some xs.length := by
  unfold ixN
  rw [if_neg (by decide), if_pos (by simp; omega)]
  congr 1
  simp; omega
theorem set_last {α : Type} (xs : List α) (y v : α) : (xs ++ [y]).set xs.length v = xs ++ [v] := by simp
theorem cut_at {z : Str} {a b : Nat} (hb : a ≤ z.length) : cutS z (some ((a : Nat) : Int)) (some ((b : Nat) : Int)) = tx (((cp z).drop a).take (b - a)) := by
  unfold cutS
  rw [HT.sIx_nat, HT.sIx_nat, Nat.min_eq_left hb]
  have : min b z.length - a = min (b - a) ((cp z).drop a).length := by rw [List.length_drop, ← len_cp]; omega
  show tx (((cp z).drop a).take (min b z.length - a)) = _
  rw [this]
  have : ((cp z).drop a).take (min (b - a) ((cp z).drop a).length) = ((cp z).drop a).take (b - a) := by
    rw [List.take_eq_take_iff]; omega
  rw [this]
theorem opn_eq (c : Nat) : (if decide (c ∈ cp "([{") = true then (1 : Int) else 0) = opn c := by
  unfold opn
  by_cases h : c ∈ cp "([{" <;> simp [h]
theorem clo_eq (c : Nat) : (if decide (c ∈ cp ")]}") = true then (1 : Int) else 0) = clo c := by
  unfold clo
  by_cases h : c ∈ cp ")]}" <;> simp [h]
theorem take2 (c : Nat) (s : List Nat) : (tx ((c :: s).take 2) == Str.ofString ", ") = decide (c = 44 ∧ s.head? = some 32) := by
  rw [beq_cp]
  have e : cp ", " = [44, 32] := by decide
  rw [e]
  cases s with
  | nil => simp
  | cons a r => simp
theorem if_and {ta tb : DTT} {ρ : DEnv} {w : Om} {a b : DTS} {E : DEnds} (k1 k2 : Bool) (h1 : ∀ C : Bool → Om → Prop, C k1 w → ta ρ w C) (h2 : k1 = true → ∀ C : Bool → Om → Prop, C k2 w → tb ρ w C) (hT : k1 = true → k2 = true → a E ρ w) (hF : (k1 && k2) = false → b E ρ w) : dIfS (dAnd ta tb) a b E ρ w := by
  refine and_split (R := fun k w1 => if k = true then a E ρ w1 else b E ρ w1) k1 k2 h1 h2 ?_
  cases h : k1 && k2 with
  | false => exact iteF (hF h)
  | true => rw [Bool.and_eq_true] at h; exact iteT (hT h.1 h.2)
theorem if_or3 {t1 t2 t3 : DTT} {ρ : DEnv} {w : Om} {a b : DTS} {E : DEnds} (k1 k2 k3 : Bool) (h1 : ∀ C : Bool → Om → Prop, C k1 w → t1 ρ w C) (h2 : k1 = false → ∀ C : Bool → Om → Prop, C k2 w → t2 ρ w C) (h3 : k1 = false → k2 = false → ∀ C : Bool → Om → Prop, C k3 w → t3 ρ w C) (hT : (k1 || (k2 || k3)) = true → a E ρ w) (hF : k1 = false → k2 = false → k3 = false → b E ρ w) : dIfS (dOr t1 (dOr t2 t3)) a b E ρ w := by
  refine h1 _ ?_
  cases k1 with
  | true => exact iteT (iteT (hT rfl))
  | false =>
    refine iteF (h2 rfl _ ?_)
    cases k2 with
    | true => exact iteT (iteT (hT rfl))
    | false =>
      refine iteF (h3 rfl rfl _ ?_)
      cases k3 with
      | true => exact iteT (hT rfl)
      | false => exact iteF (hF rfl rfl rfl)
def t_parts_step : DTS := (dIfS (dAnd (dTst (dOp (eqS false) (dVar 2) (dC (.int 0)))) (dTst (dOp (eqS false) (dSl (dVar 0) (dPart (dVar 3)) (dPart (dOp addS (dVar 3) (dC (.int 2))))) (dC (.str ", "))))) (dDrop (dApp (dVar 1) (dC (.str "")))) (dIfS (dOr (dTst (dOp (eqS true) (dVar 2) (dC (.int 0)))) (dOr (dTst (dOp (eqS false) (dVar 3) (dC (.int 0)))) (dTst (dOp (eqS true) (dSl (dVar 0) (dPart (dOp gSub (dVar 3) (dC (.int 1)))) (dPart (dOp addS (dVar 3) (dC (.int 1))))) (dC (.str ", ")))))) (dAsg (dOp addS (dOp ixS (dVar 1) (dNeg (dC (.int 1)))) (dOp ixS (dVar 0) (dVar 3))) (dSetL (dVar 1) (dNeg (dC (.int 1))))) dNext))
theorem parts_step {z : Str} {p : Addr} {w : Om} {E : DEnds} {k c : Nat} {i : List (List Nat)} {l : List Nat} {dq : Int} {prev : Option Nat} (hl : z.length ≤ 10000) (hc : (cp z)[k]? = some c) (hdrop : (cp z).drop k = c :: (cp z).drop (k + 1)) (hi : i.length ≤ 10000) (hll : l.length ≤ 10000) (hp1 : ∀ j, k = j + 1 → prev = (cp z)[j]?) (hp0 : k = 0 → prev = none)
    (hN : dq = 0 ∧ c = 44 ∧ ((cp z).drop (k + 1)).head? = some 32 → E.nx [some (.dat (.str z)), some (.adr p), some (.dat (.int dq)), some (.dat (.int ((k : Nat) : Int)))] (put w p (ptO (i ++ [l] ++ [[]]))))
    (hA : ¬ (dq = 0 ∧ c = 44 ∧ ((cp z).drop (k + 1)).head? = some 32) → (dq ≠ 0 ∨ prev = none ∨ ¬ (prev = some 44 ∧ c = 32)) → E.nx [some (.dat (.str z)), some (.adr p), some (.dat (.int dq)), some (.dat (.int ((k : Nat) : Int)))] (put w p (ptO (i ++ [l ++ [c]]))))
    (hS : ¬ (dq = 0 ∧ c = 44 ∧ ((cp z).drop (k + 1)).head? = some 32) → ¬ (dq ≠ 0 ∨ prev = none ∨ ¬ (prev = some 44 ∧ c = 32)) → E.nx [some (.dat (.str z)), some (.adr p), some (.dat (.int dq)), some (.dat (.int ((k : Nat) : Int)))] (put w p (ptO (i ++ [l])))) :
    t_parts_step E [some (.dat (.str z)), some (.adr p), some (.dat (.int dq)), some (.dat (.int ((k : Nat) : Int)))] (put w p (ptO (i ++ [l]))) := by
  have hl' : z.length ≤ sizeLine := Nat.le_trans hl (by decide)
  have lv := line_val
  have zl := len_cp z
  have hkl : k < (cp z).length := (List.getElem?_eq_some_iff.mp hc).1
  have hw : put w p (ptO (i ++ [l])) p = some (ptO (i ++ [l])) := put_same
  have sl2 : ∀ w0, slS w0 (.dat (.str z)) (some ((k : Nat) : Int)) (some (((k : Nat) : Int) + 2)) = some (.v (.dat (.str (tx ((c :: (cp z).drop (k + 1)).take 2))))) := fun w0 => by
    rw [slT hl', show (((k : Nat) : Int) + 2) = ((k + 2 : Nat) : Int) by omega, cut_at (by omega), hdrop, Nat.add_sub_cancel_left]
  refine if_and (decide (dq = 0)) (decide (c = 44 ∧ ((cp z).drop (k + 1)).head? = some 32)) (fun C hC => ?_) (fun _ C hC => ?_) (fun c1 c2 => ?_) fun c1 => ?_
  · walk_at "rr"
    have : (dq == 0) = decide (dq = 0) := by
      by_cases h : dq = 0 <;> simp [h]
    rw [this, Bool.bne_false]; exact hC
  · walk_at "rr"
    refine ⟨_, sl2 _, ?_⟩
    walk_at "rr"
    rw [take2, Bool.bne_false]; exact hC
  · have c1 := of_decide_eq_true c1
    have c2 := of_decide_eq_true c2
    walk_at "rr"
    refine ⟨p, _, rfl, hw, _, hw, by simp; omega, ?_⟩
    rw [put_put]
    have := hN ⟨c1, c2.1, c2.2⟩
    have e : ((i ++ [l]).map fun q => Sl.dat (.str (tx q))) ++ [Sl.dat (.str (Str.ofString ""))] = (i ++ [l] ++ [[]]).map fun q => Sl.dat (.str (tx q)) := by
      simp
      rfl
    rw [e]
    exact this
  have n1 : ¬ (dq = 0 ∧ c = 44 ∧ ((cp z).drop (k + 1)).head? = some 32) := fun ⟨a, b⟩ => by
    rw [decide_eq_true a, decide_eq_true b] at c1; cases c1
  refine if_or3 (decide (dq ≠ 0)) (decide (k = 0)) (decide (¬ (prev = some 44 ∧ c = 32))) (fun C hC => ?_) (fun _ C hC => ?_) (fun _ k0 C hC => ?_) (fun ho => ?_) fun o1 o2 o3 => ?_
  · walk_at "rr"
    have : ((dq == 0) != true) = decide (dq ≠ 0) := by
      by_cases h : dq = 0 <;> simp [h]
    rw [this]; exact hC
  · walk_at "rr"
    have : ((((k : Nat) : Int) == 0) != false) = decide (k = 0) := by
      by_cases h : k = 0
      · simp [h]
      · have : ¬ ((k : Nat) : Int) = 0 := by omega
        simp [h, this]
    rw [this]; exact hC
  · have k0 := of_decide_eq_false k0
    obtain ⟨j, rfl⟩ : ∃ j, k = j + 1 := ⟨k - 1, by omega⟩
    obtain ⟨a, ha⟩ : ∃ a, (cp z)[j]? = some a := ⟨_, List.getElem?_eq_getElem (by omega)⟩
    have hpr := hp1 j rfl
    rw [ha] at hpr
    subst hpr
    have hd2 : (cp z).drop j = a :: c :: (cp z).drop (j + 1 + 1) := by
      rw [List.drop_eq_getElem_cons (by omega), hdrop]
      congr 1
      rw [List.getElem?_eq_getElem (by omega)] at ha
      exact Option.some.inj ha
    walk_at "rr"
    have sl3 : ∀ w0, slS w0 (.dat (.str z)) (some (((j + 1 : Nat) : Int) - 1)) (some (((j + 1 : Nat) : Int) + 1)) = some (.v (.dat (.str (tx [a, c])))) := fun w0 => by
      rw [slT hl', show (((j + 1 : Nat) : Int) - 1) = ((j : Nat) : Int) by omega, show (((j + 1 : Nat) : Int) + 1) = ((j + 2 : Nat) : Int) by omega, cut_at (by omega), hd2, Nat.add_sub_cancel_left]
      rfl
    refine ⟨_, sl3 _, ?_⟩
    walk_at "rr"
    have : ((tx [a, c] == Str.ofString ", ") != true) = decide (¬ (some a = some 44 ∧ c = 32)) := by
      rw [beq_cp]
      have e : cp ", " = [44, 32] := by decide
      rw [e]
      by_cases h : a = 44 ∧ c = 32
      · simp [h.1, h.2]
      · have h2 : ¬ [a, c] = [44, 32] := fun q => h (by simpa using q)
        rw [decide_eq_false h2]
        have h3 : ¬ (some a = some 44 ∧ c = 32) := fun q => h ⟨by injection q.1, q.2⟩
        rw [decide_eq_true h3]; rfl
    rw [this]; exact hC
  · walk_at "rr"
    refine ⟨_, ixS_adr hw (s := .dat (.str (tx l))) (by rw [List.map_append]; exact atI_last _ _), ?_⟩
    walk_at "rr"
    refine ⟨_, ixS_str hl' (atI_nat hc), ?_⟩
    refine ⟨_, addT (by rw [tx_len]; show l.length + 1 ≤ _; omega), ?_⟩
    walk_at "rr"
    refine ⟨p, _, -1, i.length, rfl, rfl, hw, ?_, ?_⟩
    · rw [List.map_append]
      have := ixN_last (i.map fun q => Sl.dat (.str (tx q))) (.dat (.str (tx l)))
      rw [List.length_map] at this
      exact this
    · rw [put_put]
      have e : (((i ++ [l]).map fun q => Sl.dat (.str (tx q))).set i.length (.dat (.str (tx l ++ ⟨#[c]⟩)))) = (i ++ [l ++ [c]]).map fun q => Sl.dat (.str (tx q)) := by
        rw [List.map_append, List.map_append]
        have := set_last (i.map fun q => Sl.dat (.str (tx q))) (.dat (.str (tx l))) (.dat (.str (tx l ++ ⟨#[c]⟩)))
        rw [List.length_map] at this
        rw [show (List.map (fun q => Sl.dat (PyData.str (tx q))) [l]) = [Sl.dat (.str (tx l))] from rfl, this]
        have : tx l ++ (⟨#[c]⟩ : Str) = tx (l ++ [c]) := tx_app l [c]
        rw [this]
        rfl
      rw [e]
      refine hA n1 ?_
      rw [Bool.or_eq_true, Bool.or_eq_true] at ho
      rcases ho with h | h | h
      · exact .inl (of_decide_eq_true h)
      · exact .inr (.inl (hp0 (of_decide_eq_true h)))
      · exact .inr (.inr (of_decide_eq_true h))
  · refine hS n1 ?_
    rintro (h | h | h)
    · exact of_decide_eq_false o1 h
    · have k0 := of_decide_eq_false o2
      obtain ⟨j, rfl⟩ : ∃ j, k = j + 1 := ⟨k - 1, by omega⟩
      have := hp1 j rfl
      rw [h, List.getElem?_eq_getElem (by omega)] at this
      cases this
    · exact of_decide_eq_false o3 h
theorem rd_law_parts {ss w R} (h : c_law_parts ss w R) : t_law_parts (endsN R) (startD N_law_parts ss) w := by
  obtain ⟨z, rfl, hl, q⟩ := h
  have hl' : z.length ≤ sizeLine := Nat.le_trans hl (by decide)
  have lv := line_val
  have zl := len_cp z
  walk_at "rr"
  by_cases h0 : z = ""
  · subst h0
    rw [beq_self_eq_true]
    walk_at "rr"
    exact ⟨w, Sub.refl _, q⟩
  rw [beq_eq_false_iff_ne.mpr h0]
  have hne : cp z ≠ [] := fun e => h0 (cp_inj (e.trans rfl))
  walk_at "rr"
  intro p hp
  walk_at "rr"
  refine ⟨_, lenS_str hl', ?_⟩
  walk_at "rr"
  refine ⟨by omega, by omega, ?_⟩
  refine loop_inv (fun r ρ w' => ∃ (k : Nat) (i : List (List Nat)) (l : List Nat) (prev : Option Nat) (dp : Int) (x3 : Option Sl), k ≤ (cp z).length ∧ r = (irange 0 (cp z).length).drop k ∧ ρ = [some (.dat (.str z)), some (.adr p), some (.dat (.int dp)), x3] ∧ w' = put w p (ptO (i ++ [l])) ∧
      (k = 0 → prev = none) ∧ (∀ j, k = j + 1 → prev = (cp z)[j]?) ∧ prtGo prev dp i l ((cp z).drop k) = prt (cp z) ∧ i.length ≤ k ∧ l.length ≤ k) ?_ (fun _ _ _ _ => trivial) ?_ ?_
  · refine ⟨0, [], [], none, 0, none, Nat.zero_le _, ?_, rfl, rfl, fun _ => rfl, fun j hj => by omega, ?_, Nat.le_refl _, Nat.le_refl _⟩
    · rw [zl]; rfl
    · unfold prt; rw [if_neg hne]; rfl
  · rintro x r ρ w' ⟨k, i, l, prev, dp, x3, hk, hr, rfl, rfl, hp0, hp1, hgo, hi, hll⟩ ih
    have hkl : k < (cp z).length := by
      rcases Nat.lt_or_ge k (cp z).length with h | h
      · exact h
      · rw [List.drop_eq_nil_of_le (by rw [irange_len]; exact h)] at hr; cases hr
    have hki : k < (irange 0 (cp z).length).length := by rw [irange_len]; exact hkl
    rw [List.drop_eq_getElem_cons hki] at hr
    injection hr with hx hr
    have hx : x = .dat (.int ((k : Nat) : Int)) := by
      rw [hx]
      unfold irange
      simp
    subst hx
    obtain ⟨c, hc⟩ : ∃ c, (cp z)[k]? = some c := ⟨_, List.getElem?_eq_getElem hkl⟩
    have hdrop : (cp z).drop k = c :: (cp z).drop (k + 1) := by
      rw [List.drop_eq_getElem_cons hkl]
      congr 1
      rw [List.getElem?_eq_getElem hkl] at hc
      exact Option.some.inj hc
    rw [hdrop] at hgo
    have hw : put w p (ptO (i ++ [l])) p = some (ptO (i ++ [l])) := put_same
    have go := hgo
    unfold prtGo at go
    walk_at "rr"
    refine ⟨_, ixS_str hl' (atI_nat hc), ?_⟩
    walk_at "rr"
    refine ⟨_, ixS_str hl' (atI_nat hc), ?_⟩
    refine ⟨_, rfl, _, rfl, _, rfl, ?_⟩
    have e1 : (if (if false = true then !decide (c ∈ (Str.ofString "([{").cps.toList) else decide (c ∈ (Str.ofString "([{").cps.toList)) = true then (1 : Int) else 0) = opn c := by rw [if_neg Bool.false_ne_true]; exact opn_eq c
    have e2 : (if (if false = true then !decide (c ∈ (Str.ofString ")]}").cps.toList) else decide (c ∈ (Str.ofString ")]}").cps.toList)) = true then (1 : Int) else 0) = clo c := by rw [if_neg Bool.false_ne_true]; exact clo_eq c
    show t_parts_step _ [some (.dat (.str z)), some (.adr p), some (.dat (.int (dp + (if (if false = true then !decide (c ∈ (Str.ofString "([{").cps.toList) else decide (c ∈ (Str.ofString "([{").cps.toList)) = true then (1 : Int) else 0) - (if (if false = true then !decide (c ∈ (Str.ofString ")]}").cps.toList) else decide (c ∈ (Str.ofString ")]}").cps.toList)) = true then (1 : Int) else 0)))), some (.dat (.int ((k : Nat) : Int)))] _
    rw [e1, e2]
    refine parts_step (prev := prev) hl hc hdrop (by omega) (by omega) hp1 hp0 (fun h => ?_) (fun h1 h2 => ?_) fun h1 h2 => ?_
    · rw [if_pos h] at go
      exact ih _ _ ⟨k + 1, i ++ [l], [], some c, _, _, by omega, hr, rfl, rfl, fun q => by omega, fun j hj => by have : j = k := by omega
                                                                                                                 subst this; exact hc.symm, go, by simp; omega, Nat.zero_le _⟩
    · rw [if_neg h1, if_pos h2] at go
      exact ih _ _ ⟨k + 1, i, l ++ [c], some c, _, _, by omega, hr, rfl, rfl, fun q => by omega, fun j hj => by have : j = k := by omega
                                                                                                                subst this; exact hc.symm, go, by omega, by simp; omega⟩
    · rw [if_neg h1, if_neg h2] at go
      exact ih _ _ ⟨k + 1, i, l, some c, _, _, by omega, hr, rfl, rfl, fun q => by omega, fun j hj => by have : j = k := by omega
                                                                                                         subst this; exact hc.symm, go, by omega, by omega⟩
  · rintro ρ w' ⟨k, i, l, prev, dp, x3, hk, hr, rfl, rfl, hp0, hp1, hgo, hi, hll⟩
    have hkl : (cp z).length ≤ k := by
      rcases Nat.lt_or_ge k (cp z).length with h | h
      · rw [List.drop_eq_getElem_cons (by rw [irange_len]; exact h)] at hr; cases hr
      · exact h
    rw [List.drop_eq_nil_of_le hkl] at hgo
    have hgo : i ++ [l] = prt (cp z) := hgo
    walk_at "rr"
    refine ⟨(prt (cp z)).map fun q => .str (tx q), ?_, ?_⟩
    · rw [put_same, hgo]; simp
    · rw [del_put hp]; exact ⟨w, Sub.refl _, q⟩
end G

set_option Elab.async false
set_option linter.all false
set_option maxRecDepth 100000
set_option maxHeartbeats 4000000
namespace G
open PySem PySem.Spec PyProof.Rows L2 DL
local macro_rules | `(tactic| walk_at "rr") => `(tactic| repeat (first | refine ⟨_, in_3, ?_⟩ | refine ⟨_, rfl, ?_⟩ | refine ⟨_, _, rfl, rfl, ?_⟩ | refine frzL (sq_line (by simp)) ?_ | refine iteT ?_ | refine iteF ?_ | refine And.intro (sq_line (by simp)) ?_ | fail "stop"))
theorem cut_from5 {z : Str} (h : 5 ≤ z.length) : cutS z (some 5) none = tx ((cp z).drop 5) := by
  have e := cut_at (z := z) (a := 5) (b := z.length) h
  have e2 : cutS z (some 5) none = cutS z (some ((5 : Nat) : Int)) (some ((z.length : Nat) : Int)) := by
    unfold cutS
    rw [HT.sIx_nat _ _ z.length, Nat.min_self]
    rfl
  rw [e2, e, List.take_of_length_le (by rw [List.length_drop, ← len_cp]; omega)]
theorem cut_to5 {z : Str} : cutS z none (some 5) = tx ((cp z).take 5) := by
  have e := cut_at (z := z) (a := 0) (b := 5) (Nat.zero_le _)
  have e2 : cutS z none (some 5) = cutS z (some ((0 : Nat) : Int)) (some ((5 : Nat) : Int)) := by
    unfold cutS
    rw [HT.sIx_nat _ _ 0, Nat.zero_min]
    rfl
  rw [e2, e]
  rfl
theorem cut_mid {z : Str} (h : 6 ≤ z.length) : cutS z (some 5) (some (-1)) = tx (((cp z).drop 5).take (z.length - 6)) := by
  have e := cut_at (z := z) (a := 5) (b := z.length - 1) (by omega)
  have e2 : cutS z (some 5) (some (-1)) = cutS z (some ((5 : Nat) : Int)) (some ((z.length - 1 : Nat) : Int)) := by
    unfold cutS
    have : HT.sIx z.length z.length (some (-1)) = HT.sIx z.length z.length (some ((z.length - 1 : Nat) : Int)) := by
      rw [HT.sIx_nat]
      unfold HT.sIx
      simp
      omega
    rw [this]
    rfl
  rw [e2, e, show z.length - 1 - 5 = z.length - 6 by omega]
theorem cut_last {z : Str} : cutS z (some (-1)) none = tx ((cp z).drop (z.length - 1)) := by
  unfold cutS
  have h1 : HT.sIx z.length 0 (some (-1)) = z.length - 1 := by
    unfold HT.sIx
    simp
    omega
  rw [h1, HT.sIx_none]
  show tx (((cp z).drop (z.length - 1)).take (z.length - (z.length - 1))) = _
  rw [List.take_of_length_le (by rw [List.length_drop, ← len_cp]; omega)]
theorem take5_each {z : Str} (h : (cp z).take 5 = cp "each ") : cp z = cp "each " ++ (cp z).drop 5 := by
  rw [← h, List.take_append_drop]
theorem take5_both {z : Str} (h : (cp z).take 5 = cp "both(") : cp z = cp "both(" ++ (cp z).drop 5 := by
  rw [← h, List.take_append_drop]
theorem len5 {z : Str} {y : List Nat} (h : (cp z).take 5 = y) (hy : y.length = 5) : 5 ≤ z.length := by
  have := congrArg List.length h
  rw [List.length_take, hy] at this
  rw [len_cp]; omega
end G

set_option Elab.async false
set_option linter.all false
set_option maxRecDepth 100000
set_option maxHeartbeats 4000000
namespace G
open PySem PySem.Spec PyProof.Rows L2 DL
local macro_rules | `(tactic| walk_at "rr") => `(tactic| repeat (first | refine ⟨_, in_3, ?_⟩ | refine ⟨_, rfl, ?_⟩ | refine ⟨_, _, rfl, rfl, ?_⟩ | refine frzL (sq_line (by simp)) ?_ | refine iteT ?_ | refine iteF ?_ | refine And.intro (sq_line (by simp)) ?_ | fail "stop"))
theorem Kd.inv {n : Nat} {d : PyData} {t : List Nat} (h : Kd n d t) : ∃ m, n = m + 1 ∧ ((∃ z : Str, (z = "names" ∨ z = "most" ∨ z = "last") ∧ d = .tuple [.str z] ∧ t = cp z) ∨ (∃ k s, d = .tuple [.str "each", k] ∧ t = cp "each " ++ s ∧ Kd m k s) ∨
    ∃ k l s u, d = .tuple [.str "both", k, l] ∧ t = cp "both(" ++ (s ++ (cp ", " ++ (u ++ cp ")"))) ∧ Kd m k s ∧ Kd m l u) := by
  cases h with
  | pl h => exact ⟨_, rfl, .inl ⟨_, h, rfl, rfl⟩⟩
  | ea h => exact ⟨_, rfl, .inr (.inl ⟨_, _, rfl, rfl, h⟩)⟩
  | bo h h' => exact ⟨_, rfl, .inr (.inr ⟨_, _, _, _, rfl, rfl, h, h'⟩)⟩
theorem if_or2 {t1 t2 : DTT} {ρ : DEnv} {w : Om} {a b : DTS} {E : DEnds} (k1 k2 : Bool) (h1 : ∀ C : Bool → Om → Prop, C k1 w → t1 ρ w C) (h2 : k1 = false → ∀ C : Bool → Om → Prop, C k2 w → t2 ρ w C) (hT : (k1 || k2) = true → a E ρ w) (hF : k1 = false → k2 = false → b E ρ w) : dIfS (dOr t1 t2) a b E ρ w := by
  refine h1 _ ?_
  cases k1 with
  | true => exact iteT (iteT (hT rfl))
  | false =>
    refine iteF (h2 rfl _ ?_)
    cases k2 with
    | true => exact iteT (hT rfl)
    | false => exact iteF (hF rfl rfl)
theorem nx_go {F : DEnds} {ρ : DEnv} {w : Om} (h : F.nx ρ w) : dNext F ρ w := h
theorem seq_go {t u : DTS} {F : DEnds} {ρ : DEnv} {w : Om} (h : t { F with nx := u F } ρ w) : dSeq t u F ρ w := h
theorem take_both (r : List Nat) : (cp "both(" ++ r).take 5 = cp "both(" := List.take_left' (by decide)
theorem take_each (r : List Nat) : (cp "each " ++ r).take 5 = cp "each " := List.take_left' (by decide)
theorem len_both : (cp "both(").length = 5 := by decide
theorem len_cl : (cp ")").length = 1 := by decide
/-- a kind, or None -/
def KN (m : Nat) (d : PyData) (t : List Nat) : Prop := Kd m d t ∨ (d = .none ∧ ∀ k, ¬ Kd m k t)
theorem kn_lay {m : Nat} {d : PyData} {t : List Nat} (h : KN m d t) (hm : m ≤ 40) : d.canLay0 = true ∧ d.depth ≤ 40 := by
  rcases h with h | ⟨rfl, _⟩
  · exact ⟨h.lay.1, Nat.le_trans h.lay.2 hm⟩
  · exact ⟨by simp [PyData.canLay0], by simp [PyData.depth]⟩
theorem kn_none {m : Nat} {d : PyData} {t : List Nat} (h : KN m d t) : PyData.eqv d .none = isNone (.dat d) := by
  rcases h with h | ⟨rfl, _⟩
  · rw [h.some]
    cases h <;> simp [PyData.eqv]
  · simp [PyData.eqv]; rfl
theorem kn_pair {m : Nat} {d e : PyData} {t u : List Nat} (h : KN m d t) (h' : KN m e u) (hm : m ≤ 40) : SeqAt.shaped (.list [d, e]) = true := by
  obtain ⟨a1, a2⟩ := kn_lay h hm
  obtain ⟨b1, b2⟩ := kn_lay h' hm
  unfold SeqAt.shaped
  rw [Bool.and_eq_true]
  refine ⟨by simp [PyData.canLay0, PyData.canLayAll0, a1, b1], decide_eq_true ?_⟩
  simp only [PyData.depth, PyData.depthAll]
  omega
theorem ix_l0 {w : Om} {d e : PyData} : ixS w (.dat (.list [d, e])) (.dat (.int 0)) = some (.v (.dat d)) := rfl
theorem ix_l1 {w : Om} {d e : PyData} : ixS w (.dat (.list [d, e])) (.dat (.int 1)) = some (.v (.dat e)) := rfl
theorem lc_step {ok : Om → Prop} {i : Nat} {te : DTE} {ρ : DEnv} {k : List Sl → Om → Prop} {w : Om} {x : Sl} {xs acc : List Sl} (hok : ok w) (h : te (ρ.set i (some x)) w fun y w4 => acc.length < sizeLine ∧ dLcL ok (dName i) dYes te ρ k xs (acc ++ [y]) w4) : dLcL ok (dName i) dYes te ρ k (x :: xs) acc w := by
  refine ⟨hok, ?_⟩
  simp only [dName, dYes, if_true]
  exact h
theorem rd_law_read_kind (n : Nat) {ss w R} (h : c_law_read_kind n ss w R) : t_law_read_kind (prev c_law_read_kind n) (endsN R) (startD N_law_read_kind ss) w := by
  obtain ⟨z, m, rfl, hm, hn, hl, q1, q2⟩ := h
  have hl' : z.length ≤ sizeLine := Nat.le_trans hl (by decide)
  have lv := line_val
  have zl := len_cp z
  have no : (∀ k, ¬ Kd m k (cp z)) → ∃ u, Sub u w ∧ R (.dat .none) u := fun e => ⟨w, Sub.refl _, q2 e⟩
  have yes : ∀ k, Kd m k (cp z) → ∃ u, Sub u w ∧ R (.dat k) u := fun k e => ⟨w, Sub.refl _, q1 k e⟩
  walk_at "rr"
  cases m with
  | zero =>
    walk_at "rr"
    exact no fun k hk => by cases hk
  | succ m' =>
  have e0 : (((m' + 1 : Nat) : Int) == 0) = false := by rw [beq_eq_false_iff_ne]; omega
  rw [e0]
  obtain ⟨n', rfl⟩ : ∃ n', n = n' + 1 := ⟨n - 1, by omega⟩
  have em : ((m' + 1 : Nat) : Int) - 1 = ((m' : Nat) : Int) := by omega
  walk_at "rr"
  have pw : ((Str.ofString "names") == z || ((Str.ofString "most") == z || ((Str.ofString "last") == z || false))) = plainW (cp z) := by
    have fl : ∀ a : Str, (a == z) = decide (cp z = cp a) := fun a => by
      by_cases h : z = a
      · rw [h, beq_self_eq_true, decide_eq_true rfl]
      · rw [beq_eq_false_iff_ne.mpr (Ne.symm h), decide_eq_false fun q => h (cp_inj q)]
    rw [fl, fl, fl, Bool.or_false]
    rfl
  rw [pw]
  cases hp : plainW (cp z) with
  | true =>
    walk_at "rr"
    exact yes _ (.pl (plainW_iff.mp hp))
  | false =>
  have npl : ∀ {z' : Str}, z' = "names" ∨ z' = "most" ∨ z' = "last" → cp z ≠ cp z' := fun {z'} h e => by
    have := plainW_iff.mpr h
    rw [← e, hp] at this
    cases this
  walk_at "rr"
  refine ⟨_, slT hl', ?_⟩
  walk_at "rr"
  rw [cut_to5, beq_cp, Bool.bne_false]
  refine iteD (fun c1 => ?_) fun c1 => ?_
  · have c5 := len5 c1 (by decide)
    have hz := take5_each c1
    walk_at "rr"
    refine ⟨_, slT hl', ?_⟩
    walk_at "rr"
    rw [cut_from5 c5]
    refine ⟨tx ((cp z).drop 5), m', by rw [← em]; rfl, by omega, by omega, by rw [tx_len, List.length_drop]; omega, fun k hk => ?_, fun hk => ?_⟩
    · have hk : Kd m' k ((cp z).drop 5) := hk
      walk_at "rr"
      rw [hk.some]
      walk_at "rr"
      exact yes _ (by rw [hz]; exact .ea hk)
    · walk_at "rr"
      refine no fun k h => ?_
      obtain ⟨m2, e2, ⟨z', hz', _, ht⟩ | ⟨k', s, _, ht, hs⟩ | ⟨k', l, s, u, _, ht, hs, hu⟩⟩ := h.inv
      · exact npl hz' ht
      · cases e2
        have : (cp z).drop 5 = s := by rw [ht]; exact List.drop_left' (by decide)
        exact hk k' (by rw [← this] at hs; exact hs)
      · rw [ht, take_both] at c1
        exact absurd c1 (by decide)
  have nea : ∀ s, cp z ≠ cp "each " ++ s := fun s e => c1 (by rw [e, take_each])
  refine nx_go ?_
  dsimp only
  refine seq_go ?_
  refine if_or2 (decide ((cp z).take 5 ≠ cp "both(")) (decide ((cp z).drop (z.length - 1) ≠ cp ")")) (fun C hC => ?_) (fun _ C hC => ?_) (fun ho => ?_) fun c2 c3 => ?_
  · walk_at "rr"
    refine ⟨_, slT hl', ?_⟩
    walk_at "rr"
    have : ((tx ((cp z).take 5) == Str.ofString "both(") != true) = decide ((cp z).take 5 ≠ cp "both(") := by
      rw [beq_cp, Bool.bne_true, decide_not]
    rw [cut_to5, this]; exact hC
  · walk_at "rr"
    refine ⟨_, slT hl', ?_⟩
    walk_at "rr"
    have : ((tx ((cp z).drop (z.length - 1)) == Str.ofString ")") != true) = decide ((cp z).drop (z.length - 1) ≠ cp ")") := by
      rw [beq_cp, Bool.bne_true, decide_not]
    rw [cut_last, this]; exact hC
  · walk_at "rr"
    refine no fun k h => ?_
    obtain ⟨m2, e2, ⟨z', hz', _, ht⟩ | ⟨k', s, _, ht, hs⟩ | ⟨k', l, s, u, _, ht, hs, hu⟩⟩ := h.inv
    · exact npl hz' ht
    · exact nea s ht
    · rw [Bool.or_eq_true, decide_eq_true_eq, decide_eq_true_eq] at ho
      rcases ho with ho | ho
      · exact ho (by rw [ht, take_both])
      · refine ho ?_
        have e : cp z = (cp "both(" ++ (s ++ (cp ", " ++ u))) ++ cp ")" := by rw [ht]; simp
        rw [zl, e]
        exact List.drop_left' (by simp only [List.length_append, len_cl]; omega)
  have c2 : (cp z).take 5 = cp "both(" := Classical.byContradiction fun h => absurd c2 (by rw [decide_eq_true h]; decide)
  have c3 : (cp z).drop (z.length - 1) = cp ")" := Classical.byContradiction fun h => absurd c3 (by rw [decide_eq_true h]; decide)
  have c5 := len5 c2 (by decide)
  have c6 : 6 ≤ z.length := by
    rcases Nat.lt_or_ge z.length 6 with h | h
    · exfalso
      have h5 : z.length = 5 := by omega
      have : cp z = cp "both(" := by rw [← c2, List.take_of_length_le (by omega)]
      rw [h5, this] at c3
      exact absurd c3 (by decide)
    · exact h
  generalize hu : ((cp z).drop 5).take (z.length - 6) = u at *
  have hz : cp z = cp "both(" ++ (u ++ cp ")") := by
    rw [← c2, ← c3, ← hu]
    have : (cp z).drop (z.length - 1) = ((cp z).drop 5).drop (z.length - 6) := by rw [List.drop_drop]; congr 1; omega
    rw [this, List.take_append_drop, List.take_append_drop]
  have ul : u.length ≤ 10000 := by rw [← hu, List.length_take, List.length_drop]; omega
  have two : ∀ {k : PyData}, Kd (m' + 1) k (cp z) → ∃ a b s t, k = .tuple [.str "both", a, b] ∧ prt u = [s, t] ∧ Kd m' a s ∧ Kd m' b t := fun {k} h => by
    obtain ⟨m2, e2, ⟨z', hz', _, ht⟩ | ⟨k', s, _, ht, hs⟩ | ⟨k', l, s, v, ek, ht, hs, hv⟩⟩ := h.inv
    · exact absurd ht (npl hz')
    · exact absurd ht (nea s)
    · cases e2
      have : u = s ++ (cp ", " ++ v) := by
        have e := hz.symm.trans ht
        have e := List.append_cancel_left e
        have e3 : s ++ (cp ", " ++ (v ++ cp ")")) = (s ++ (cp ", " ++ v)) ++ cp ")" := by simp
        rw [e3] at e
        exact List.append_cancel_right e
      exact ⟨_, _, s, v, ek, by rw [this]; exact prt_two hs hv, hs, hv⟩
  walk_at "rr"
  refine ⟨_, slT hl', ?_⟩
  walk_at "rr"
  rw [cut_mid c6, hu]
  refine ⟨by rw [tx_len]; exact ul, ?_⟩
  walk_at "rr"
  have ln : ((((((prt (cp (tx u))).map fun p => PyData.str (tx p)).map Sl.dat).length : Nat) : Int) == 2) = decide ((prt u).length = 2) := by
    rw [List.length_map, List.length_map]
    by_cases h : (prt u).length = 2
    · have : (prt (cp (tx u))).length = 2 := h
      rw [decide_eq_true h, this]; rfl
    · rw [decide_eq_false h, beq_eq_false_iff_ne]
      intro e
      exact h (by exact_mod_cast e)
  rw [ln]
  by_cases h2 : (prt u).length = 2
  · obtain ⟨p1, p2, hpp⟩ : ∃ a b, prt u = [a, b] := by
      match hh : prt u, h2 with
      | [a, b], _ => exact ⟨a, b, rfl⟩
    have une : u ≠ [] := fun e => by rw [e] at hpp; simp [prt] at hpp
    have hj : u = p1 ++ (cp ", " ++ p2) := by
      have := prt_jn une
      rw [hpp] at this
      rw [← this]; rfl
    have l1 : p1.length ≤ 10000 := by rw [hj, List.length_append] at ul; omega
    have l2 : p2.length ≤ 10000 := by rw [hj, List.length_append, List.length_append] at ul; omega
    rw [decide_eq_true h2]
    walk_at "rr"
    have cr : ∀ (p : List Nat) (w : Om) (Q : DQ), p.length ≤ 10000 → (∀ d, KN m' d p → Q (.dat d) w) → prev c_law_read_kind (n' + 1) [.dat (.str (tx p)), .dat (.int (((m' + 1 : Nat) : Int) - 1))] w Q := fun p w Q hp hq => by
      refine ⟨tx p, m', by rw [em], by omega, by omega, by rw [tx_len]; exact hp, fun k hk => hq k (.inl hk), fun hk => hq _ (.inr ⟨rfl, hk⟩)⟩
    have ep : ((prt (cp (tx u))).map fun p => PyData.str (tx p)).map Sl.dat = [.dat (.str (tx p1)), .dat (.str (tx p2))] := by
      have : prt (cp (tx u)) = [p1, p2] := hpp
      rw [this]; rfl
    refine ⟨by show 4 < 6; decide, ?_⟩
    refine ⟨_, rfl, _, rfl, ?_⟩
    rw [ep]
    refine lc_step trivial ?_
    refine ⟨_, rfl, _, rfl, _, rfl, ?_⟩
    dsimp only [DL.ret, dNil, List.append_nil]
    refine cr p1 _ _ l1 fun d1 k1 => ⟨by show 0 < _; omega, lc_step trivial ?_⟩
    refine ⟨_, rfl, _, rfl, _, rfl, ?_⟩
    dsimp only [DL.ret, dNil, List.append_nil]
    refine cr p2 _ _ l2 fun d2 k2 => ⟨by show 1 < _; omega, trivial, fun p hp => ?_⟩
    refine ⟨[d1, d2], put_same, ?_⟩
    rw [del_put hp]
    refine ⟨_, rfl, _, inDS_ok rfl rfl (by decide +kernel) (kn_pair k1 k2 (by omega)), _, rfl, ?_⟩
    have ev : (([d1, d2].any fun z => PyData.eqv z .none) != false) = (isNone (.dat d1) || isNone (.dat d2)) := by
      rw [Bool.bne_false]
      simp only [List.any_cons, List.any_nil, Bool.or_false]
      rw [kn_none k1, kn_none k2]
    rw [ev]
    rcases k1 with k1 | ⟨rfl, k1⟩
    · rcases k2 with k2 | ⟨rfl, k2⟩
      · rw [k1.some, k2.some]
        refine iteF ?_
        refine ⟨_, rfl, _, ix_l0, _, rfl, _, ix_l1, ?_⟩
        refine ⟨by show 3 ≤ sizeLine; decide, ?_⟩
        exact yes _ (by rw [hz, hj]; simpa using Kd.bo k1 k2)
      · rw [k1.some]
        refine iteT ?_
        refine no fun k h => ?_
        obtain ⟨a, b, s, t, _, e, _, e2⟩ := two h
        rw [hpp] at e
        cases e
        exact k2 _ e2
    · refine iteT ?_
      refine no fun k h => ?_
      obtain ⟨a, b, s, t, _, e, e1, _⟩ := two h
      rw [hpp] at e
      cases e
      exact k1 _ e1
  · rw [decide_eq_false h2]
    walk_at "rr"
    refine no fun k h => ?_
    obtain ⟨_, _, s, t, _, e, _⟩ := two h
    exact h2 (by rw [e]; rfl)
end G

set_option Elab.async false
set_option linter.all false
set_option maxRecDepth 100000
set_option maxHeartbeats 4000000
namespace G
open PySem PySem.Spec PyProof.Rows L2 DL
theorem frzM {ds : List PyData} {w : Om} {k : PyData → Om → Prop} (hl : ds.length ≤ sizeLine) (h : k (.list ds) w) : (ds.map Sl.dat).length ≤ sizeLine ∧ ∀ p, w p = none → frz (.adr p) (put w p (.lst (ds.map .dat))) k := by
  rw [List.length_map]; exact frzL hl h
theorem addL {w : Om} {a b : List PyData} : addS w (.dat (.list a)) (.dat (.list b)) = some (.nl ((a ++ b).map .dat)) := by
  rw [List.map_append]; rfl
theorem pick {α : Type} {xs : List α} {r : Int} (h0 : 0 ≤ r) (h1 : r < xs.length) : ∃ d, d ∈ xs ∧ atI xs r = some d := by
  obtain ⟨k, rfl⟩ := Int.eq_ofNat_of_zero_le h0
  have hk : k < xs.length := by omega
  exact ⟨xs[k], List.getElem_mem hk, atI_lt hk⟩
local macro_rules | `(tactic| walk_at "rr") => `(tactic| repeat (first | refine ⟨_, addL, ?_⟩ | refine ⟨_, rfl, ?_⟩ | refine ⟨_, _, rfl, rfl, ?_⟩ | refine frzL (sq_line (by simp)) ?_ | refine frzM (sq_line (by simp)) ?_ | refine iteT ?_ | refine iteF ?_ | refine And.intro (sq_line (by simp)) ?_ | fail "stop"))
def shortT : PyData → Bool
  | .str z => decide (z.length ≤ 10000)
  | _ => true
theorem ix_pick {xs : List PyData} {r : Int} {w : Om} {C : Ou → Prop} (h0 : 0 ≤ r) (h1 : r < xs.length) (hC : ∀ d ∈ xs, C (.v (.dat d))) : ∃ o, ixS w (.dat (.list xs)) (.dat (.int r)) = some o ∧ C o := by
  obtain ⟨d, hd, e⟩ := atI_mem h0 h1
  exact ⟨_, ixS_list e, hC d hd⟩
theorem short_all {xs : List PyData} (h : xs.all shortT = true) (d : PyData) (hd : d ∈ xs) (z : Str) (e : d = .str z) : z.length ≤ 10000 := by
  have := List.all_eq_true.mp h d hd
  rw [e] at this
  exact of_decide_eq_true this
theorem rd_law_odd {ss w R} (h : c_law_odd ss w R) : t_law_odd (endsN R) (startD N_law_odd ss) w := by
  obtain ⟨b, c, w0, rfl, hB, hc, q⟩ := h
  walk_at "rr"
  refine ⟨b, 44, c, w0, rfl, hB, by decide, by decide, by omega, fun r w2 r0 r1 hB2 => ?_⟩
  refine ix_pick r0 r1 fun d hd => ⟨w2, Sub.refl _, q d w2 (fun z e => ?_) hB2⟩
  exact short_all (by decide) d hd z e
/-! ### a text with one place put otherwise -/
theorem cut_pre {z : Str} {a : Nat} : (cutS z none (some ((a : Nat) : Int))).length ≤ a := by
  unfold cutS
  rw [HT.sIx_nat]
  show (tx _).length ≤ a
  rw [tx_len, List.length_take]
  omega
theorem cut_suf {z : Str} {a : Nat} : (cutS z (some ((a : Nat) : Int)) none).length ≤ z.length - a := by
  unfold cutS
  rw [HT.sIx_nat, HT.sIx_none]
  show (tx _).length ≤ _
  rw [tx_len, List.length_take, List.length_drop, ← len_cp]
  omega
theorem cut_two {z : Str} {a b : Nat} : (cutS z (some ((a : Nat) : Int)) (some ((b : Nat) : Int))).length ≤ b - a := by
  unfold cutS
  rw [HT.sIx_nat, HT.sIx_nat]
  show (tx _).length ≤ _
  rw [tx_len, List.length_take, List.length_drop, ← len_cp]
  omega
theorem app_len (a b : Str) : (a ++ b).length = a.length + b.length := by
  rw [← tx_cp a, ← tx_cp b, tx_app, tx_len, tx_len, tx_len, List.length_append]
theorem addT' {w : Om} {a b : Str} {C : Ou → Prop} (h : a.length + b.length ≤ 16000000) (hC : C (.v (.dat (.str (a ++ b))))) : ∃ o, addS w (.dat (.str a)) (.dat (.str b)) = some o ∧ C o := ⟨_, addT (Nat.le_trans h (by decide)), hC⟩
def ones (z : Str) : List Str := (cp z).map fun c => ⟨#[c]⟩
theorem signs_ones (z : Str) : DL.signs z = ((ones z).map fun t => PyData.str t).map .dat := by unfold DL.signs ones; rw [List.map_map, List.map_map]; rfl
theorem ones_len (z : Str) : (ones z).length = z.length := by unfold ones; rw [List.length_map, len_cp]
theorem ones_sum (z : Str) : ((ones z).map (·.length)).sum = z.length := by
  unfold ones
  rw [List.map_map, len_cp]
  induction cp z with
  | nil => rfl
  | cons a r ih => rw [List.map_cons, List.sum_cons, ih, List.length_cons]; show 1 + _ = _; omega
theorem ix_sign {z : Str} {r : Int} {w : Om} {C : Ou → Prop} (hz : z.length ≤ sizeLine) (h0 : 0 ≤ r) (h1 : r < z.length) (hC : ∀ c, C (.v (.dat (.str ⟨#[c]⟩)))) : ∃ o, ixS w (.dat (.str z)) (.dat (.int r)) = some o ∧ C o := by
  obtain ⟨c, _, e⟩ := atI_mem (xs := cp z) h0 (by rw [← len_cp]; exact h1)
  exact ⟨_, ixS_str hz e, hC c⟩
theorem sl_pre {z : Str} {w : Om} {a : Int} {C : Ou → Prop} (hz : z.length ≤ sizeLine) (ha : 0 ≤ a) (hC : ∀ y : Str, (y.length : Int) ≤ a → C (.v (.dat (.str y)))) : ∃ o, slS w (.dat (.str z)) none (some a) = some o ∧ C o := by
  obtain ⟨a, rfl⟩ := Int.eq_ofNat_of_zero_le ha
  exact ⟨_, slT hz, hC _ (Int.ofNat_le.mpr cut_pre)⟩
theorem sl_suf {z : Str} {w : Om} {a : Int} {C : Ou → Prop} (hz : z.length ≤ sizeLine) (ha : 0 ≤ a) (hC : ∀ y : Str, (y.length : Int) ≤ (z.length : Int) - a ∨ y.length = 0 → C (.v (.dat (.str y)))) : ∃ o, slS w (.dat (.str z)) (some a) none = some o ∧ C o := by
  obtain ⟨a, rfl⟩ := Int.eq_ofNat_of_zero_le ha
  refine ⟨_, slT hz, hC _ ?_⟩
  have := cut_suf (z := z) (a := a)
  omega
theorem sl_two {z : Str} {w : Om} {a b : Int} {C : Ou → Prop} (hz : z.length ≤ sizeLine) (ha : 0 ≤ a) (hb : a ≤ b) (hC : ∀ y : Str, (y.length : Int) ≤ b - a → C (.v (.dat (.str y)))) : ∃ o, slS w (.dat (.str z)) (some a) (some b) = some o ∧ C o := by
  obtain ⟨a, rfl⟩ := Int.eq_ofNat_of_zero_le ha
  obtain ⟨b, rfl⟩ := Int.eq_ofNat_of_zero_le (Int.le_trans ha hb)
  refine ⟨_, slT hz, hC _ ?_⟩
  have := cut_two (z := z) (a := a) (b := b)
  omega
theorem add_ab {w : Om} {a b : Str} {C : Ou → Prop} (h : a.length + b.length ≤ 16000000) (hC : ∀ y : Str, y.length = a.length + b.length → C (.v (.dat (.str y)))) : ∃ o, addS w (.dat (.str a)) (.dat (.str b)) = some o ∧ C o := ⟨_, addT (Nat.le_trans h (by decide)), hC _ (app_len a b)⟩
theorem one_len (c : Nat) : (⟨#[c]⟩ : Str).length = 1 := rfl
theorem rd_law_changed {ss w R} (h : c_law_changed ss w R) : t_law_changed (endsN R) (startD N_law_changed ss) w := by
  obtain ⟨b, z, c, w0, rfl, hB, hc, hz, q⟩ := h
  have lv := line_val
  have hz' : z.length ≤ sizeLine := by omega
  walk_at "rr"
  refine ⟨b, 6, c, w0, rfl, hB, by decide, by decide, by omega, fun lot w1 l0 l1 hB1 => ?_⟩
  walk_at "rr"
  refine ⟨_, lenS_str hz', ?_⟩
  walk_at "rr"
  refine ⟨b, _, c + 1, w0, rfl, hB1, by omega, by omega, by omega, fun at' w2 a0 a1 hB2 => ?_⟩
  obtain ⟨a, rfl⟩ := Int.eq_ofNat_of_zero_le a0
  walk_at "rr"
  refine lc_map id trivial _ _ (fun x hx C hC => ⟨_, rfl, hC⟩) (by decide) fun p hp => ?_
  refine ⟨(ones "{}[](),: @-0123456789abeachbothnmsl").map fun t => PyData.str t, by rw [put_same, List.map_id, List.nil_append, signs_ones], ?_⟩
  rw [del_put hp]
  refine ⟨_, ones "{}[](),: @-0123456789abeachbothnmsl", rfl, by rw [List.map_map]; rfl, by decide, ?_⟩
  have e0 : Txt.join (Str.ofString "") (ones "{}[](),: @-0123456789abeachbothnmsl") = "{}[](),: @-0123456789abeachbothnmsl" := by decide +kernel
  rw [e0]
  walk_at "rr"
  refine ⟨b, 3, _, w0, rfl, hB2, by decide, by decide, by omega, fun r3 w3 _ _ hB3 => ?_⟩
  walk_at "rr"
  have fin : ∀ {n : Nat} {w' : Om} {y : Str}, n ≤ c + 10 → Bg b n w0 w' → y.length ≤ z.length + 20 → ∃ u, Sub u w' ∧ R (.dat (.str y)) u := fun hn hB hy => ⟨_, Sub.refl _, q _ _ hy (hB.mono hn)⟩
  refine iteB (fun _ => ?_) (fun _ => ?_)
  all_goals
    walk_at "rr"
    dsimp only [DL.ret, dNil, List.append_nil]
    refine ⟨b, _, _, w0, rfl, hB3, by decide, by decide, by omega, fun r4 w4 r40 r41 hB4 => ?_⟩
    refine ix_sign (by decide) r40 r41 fun sg => ?_
    walk_at "rr"
    refine iteD (fun c1 => ?_) fun c1 => ?_
    · walk_at "rr"
      refine sl_pre hz' a0 fun y1 h1 => ?_
      walk_at "rr"
      refine add_ab (by rw [one_len]; omega) fun y2 h2 => ?_
      rw [one_len] at h2
      walk_at "rr"
      refine sl_suf hz' a0 fun y3 h3 => ?_
      refine add_ab (by omega) fun y4 h4 => ?_
      walk_at "rr"
      refine sl_pre hz' a0 fun y5 h5 => ?_
      walk_at "rr"
      refine sl_suf hz' (by omega) fun y6 h6 => ?_
      refine add_ab (by omega) fun y7 h7 => ?_
      walk_at "rr"
      refine sl_pre hz' a0 fun y8 h8 => ?_
      walk_at "rr"
      refine add_ab (by rw [one_len]; omega) fun y9 h9 => ?_
      rw [one_len] at h9
      walk_at "rr"
      refine sl_suf hz' (by omega) fun y10 h10 => ?_
      refine add_ab (by omega) fun y11 h11 => ?_
      walk_at "rr"
      refine ix_pick l0 (by show lot < 3; omega) fun d hd => ?_
      simp only [List.mem_cons, List.not_mem_nil, or_false] at hd
      rcases hd with rfl | rfl | rfl <;> exact fin (by omega) hB4 (by omega)
    · walk_at "rr"
      refine iteB (fun c2 => ?_) fun c2 => ?_
      · walk_at "rr"
        refine sl_pre hz' a0 fun y1 h1 => ?_
        walk_at "rr"
        refine sl_two hz' a0 (by omega) fun y2 h2 => ?_
        refine ⟨_, rfl, by omega, fun y3 h3 => ?_⟩
        refine add_ab (by omega) fun y4 h4 => ?_
        walk_at "rr"
        refine sl_suf hz' (by omega) fun y5 h5 => ?_
        refine add_ab (by omega) fun y6 h6 => ?_
        exact fin (by omega) hB4 (by omega)
      · walk_at "rr"
        refine ⟨b, 9, _, w0, rfl, hB4, by decide, by decide, by omega, fun r5 w5 r50 r51 hB5 => ?_⟩
        walk_at "rr"
        refine sl_pre hz' a0 fun y1 h1 => ?_
        walk_at "rr"
        refine sl_suf hz' (by omega) fun y2 h2 => ?_
        refine add_ab (by omega) fun y3 h3 => ?_
        walk_at "rr"
        refine sl_pre hz' (by omega) fun y4 h4 => ?_
        walk_at "rr"
        refine sl_suf hz' (by omega) fun y5 h5 => ?_
        refine add_ab (by omega) fun y6 h6 => ?_
        walk_at "rr"
        have c3 : lot ≠ 3 := fun e => by rw [e] at c2; exact absurd c2 (by decide)
        refine ix_pick (by omega) (by show lot - 4 < 2; omega) fun d hd => ?_
        simp only [List.mem_cons, List.not_mem_nil, or_false] at hd
        rcases hd with rfl | rfl <;> exact fin (by omega) hB5 (by omega)
end G

set_option Elab.async false
set_option linter.all false
set_option maxRecDepth 100000
set_option maxHeartbeats 4000000
namespace G
open PySem PySem.Spec PyProof.Rows L2 DL
local macro_rules | `(tactic| walk_at "rr") => `(tactic| repeat (first | refine ⟨_, rfl, ?_⟩ | refine ⟨_, _, rfl, rfl, ?_⟩ | refine frzL (sq_line (by simp)) ?_ | refine iteT ?_ | refine iteF ?_ | refine And.intro (sq_line (by simp)) ?_ | fail "stop"))
/-- the walk over the script's cells: slots 0 the script, 1 the place, L more -/
theorem cells {tb : DTS} {F : DEnds} {ns : List Int} {r : List (Option Sl)} {x1 : Option Sl} {w : Om} {j : Int} {m L : Nat} (hj : j ≤ m) (hs : ∀ (i : Nat) (r : List (Option Sl)) (w : Om) (E : DEnds), r.length = L → i < m → E.rt = F.rt → (∀ r w, r.length = L → E.nx (some (.scr ns) :: some (.dat (.int (i : Nat))) :: r) w) → tb E (some (.scr ns) :: some (.dat (.int (i : Nat))) :: r) w)
    (hd : ∀ x1 r w, r.length = L → F.nx (some (.scr ns) :: x1 :: r) w) (hr : r.length = L) : dLoop (fun _ => True) (dName 1) tb F (irange 0 j.toNat) (some (.scr ns) :: x1 :: r) w := by
  refine loop_inv (fun r' ρ w => (∀ x ∈ r', ∃ i : Nat, i < m ∧ x = .dat (.int (i : Nat))) ∧ ∃ x1 r, r.length = L ∧ ρ = some (.scr ns) :: x1 :: r) ⟨fun x hx => ?_, x1, r, hr, rfl⟩ (fun _ _ _ _ => trivial) ?_ ?_
  · obtain ⟨i, hi, e⟩ := irange_mem hx
    exact ⟨i, by omega, e⟩
  · rintro x r' ρ w ⟨hr', x1, r, hr, rfl⟩ ih
    obtain ⟨i, hi, rfl⟩ := hr' x List.mem_cons_self
    exact hs i r w _ hr hi rfl fun r2 w' h2 => ih _ _ ⟨fun z hz => hr' z (List.mem_cons_of_mem _ hz), _, _, h2, rfl⟩
  · rintro ρ w ⟨_, x1, r, hr, rfl⟩
    exact hd _ _ _ hr
theorem list4 {α : Type} {r : List α} (h : r.length = 4) : ∃ a b c d, r = [a, b, c, d] := by
  match r, h with
  | [a, b, c, d], _ => exact ⟨a, b, c, d, rfl⟩
theorem gMulS_ok {w : Om} {z : Str} {n : Int} (h0 : 0 ≤ n) (h1 : n < 2 ^ 40) (h2 : z.length * n.toNat ≤ sizeLine) : gMulS w (.dat (.str z)) (.dat (.int n)) = some (.v (.dat (.str (repS z n)))) := by
  show (if 0 ≤ n ∧ n < 2 ^ 40 ∧ z.length * n.toNat ≤ sizeLine then some (Ou.v (.dat (.str (repS z n)))) else none) = _
  rw [if_pos ⟨h0, h1, h2⟩]
theorem repS_len (z : Str) (n : Int) : (repS z n).length = n.toNat * z.length := by
  show (tx _).length = _
  rw [tx_len, List.length_flatten, List.map_replicate, List.sum_replicate_nat, len_cp]
def t_law_tail : DTS := (dSeq (dFor (dRng1 (dCons (dCall c_law_draw [] (dCons (dVar 2) (dCons (dC (.int 4)) dNil))) dNil)) (dName 5) (dSeq (dIfS (dNot (dTst (dCall c_law_right [] (dCons (dVar 3) dNil)))) (dRet (dC (.bool false))) dNext)
  (dAsg (dCall c_law_changed [] (dCons (dVar 2) (dCons (dVar 3) dNil))) (dName 3))))
  (dIfS (dOr (dNot (dTst (dCall c_law_right [] (dCons (dVar 3) dNil)))) (dNot (dTst (dCall c_law_right [] (dCons (dCall c_law_odd [] (dCons (dVar 2) dNil)) dNil))))) (dRet (dC (.bool false))) dNext))
theorem law_tail {E : DEnds} {x0 x1 x4 x5 : Option Sl} {b : Addr} {y : Str} {n : Nat} {w w0 : Om} (hB : Bg b n w0 w) (hn : n ≤ 10000) (hy : y.length ≤ 6000) (nx : ∀ y x4 x5 w, E.nx [x0, x1, some (.adr b), y, x4, x5] w) : t_law_tail E [x0, x1, some (.adr b), some (.dat (.str y)), x4, x5] w := by
  refine ⟨_, rfl, ?_⟩
  dsimp only [dCons, dC, dNil, List.append_nil]
  refine ⟨b, 4, n, w0, rfl, hB, by decide, by decide, by omega, fun r w2 r0 r1 hB2 => ⟨r, rfl, by omega, by omega, ?_⟩⟩
  refine loop_inv (fun r' ρ w' => r'.length ≤ 3 ∧ ∃ (y : Str) (n : Nat) (x4 x5 : Option Sl), ρ = [x0, x1, some (.adr b), some (.dat (.str y)), x4, x5] ∧ Bg b n w0 w' ∧ n + 10 * r'.length ≤ 20000 ∧ y.length + 20 * r'.length ≤ 9000)
    ⟨by rw [irange_len]; omega, y, n + 1, x4, x5, rfl, hB2, by rw [irange_len]; omega, by rw [irange_len]; omega⟩ (fun _ _ _ _ => trivial) ?_ ?_
  · rintro x r' ρ w' ⟨hr, y, n, x4, x5, rfl, hB3, hn, hy⟩ ih
    rw [List.length_cons] at hr hn hy
    refine ⟨_, rfl, ?_⟩
    dsimp only [dNil, List.append_nil]
    refine ⟨_, rfl, fun z e => by cases e; omega, _, rfl, iteF ?_⟩
    refine ⟨_, rfl, _, rfl, ?_⟩
    dsimp only [dNil, List.append_nil]
    refine ⟨b, y, n, w0, rfl, hB3, by omega, by omega, fun y' w4 hy' hB4 => ih _ _ ⟨by omega, y', n + 10, _, _, rfl, hB4, by omega, by omega⟩⟩
  · rintro ρ w' ⟨_, y, n, x4, x5, rfl, hB3, hn, hy⟩
    refine ⟨_, rfl, ?_⟩
    dsimp only [dNil, List.append_nil]
    refine ⟨_, rfl, fun z e => by cases e; simp at hy; omega, _, rfl, iteF ?_⟩
    refine ⟨_, rfl, ?_⟩
    dsimp only [dNil, List.append_nil]
    refine ⟨b, n, w0, rfl, hB3, by simp at hn; omega, fun d w4 hd hB4 => ?_⟩
    refine ⟨_, rfl, hd, _, rfl, iteF ?_⟩
    exact nx _ _ _ _
theorem rd_law {ss w R} (h : cLaw ss w R) : t_law (endsN R) (startD N_law ss) w := by
  obtain ⟨ns, rfl, hl, q⟩ := h
  have lv := line_val
  refine ⟨_, rfl, _, lenS_sq rfl, _, rfl, _, rfl, _, rfl, ?_, ?_, ?_⟩
  · rw [List.length_map]; split <;> split <;> omega
  · rw [List.length_map]; split <;> split <;> omega
  refine cells (m := 20) (L := 4) (by rw [List.length_map]; split <;> split <;> omega) (fun i r w E hr hi hE nx => ?_) (fun x1 r w _ => ⟨w, Sub.refl _, q w⟩) rfl
  obtain ⟨x2, x3, x4, x5, rfl⟩ := list4 hr
  walk_at "rr"
  refine ⟨ns, i, rfl, hl, fun c => ?_⟩
  walk_at "rr"
  refine ⟨c, i, rfl, by omega, fun b w1 hb hB => ?_⟩
  walk_at "rr"
  refine ⟨b, 5, _, w, rfl, hB, by decide, by decide, by decide, fun r w2 r0 r1 hB2 => ?_⟩
  obtain ⟨k, rfl⟩ := Int.eq_ofNat_of_zero_le r0
  refine ⟨_, rfl, ?_⟩
  dsimp only [DL.ret, dNil, List.append_nil]
  rw [show (1 + (k : Int)) = ((1 + k : Nat) : Int) by omega]
  refine ⟨b, 1 + k, _, w, rfl, hB2, by omega, by omega, by decide, fun d t w3 hk hB3 => ?_⟩
  have hs := hk.short (by omega)
  refine ⟨d, t, rfl, hk.mono (by omega), by decide, ?_⟩
  have n0 : 0 + 1 + kc 5 ≤ 1000 := by decide
  refine ⟨_, rfl, ?_⟩
  dsimp only [dCons, dC, dNil, List.append_nil]
  refine ⟨b, 4, _, w, rfl, hB3, by decide, by decide, by omega, fun r4 w4 _ _ hB4 => ⟨_, rfl, _, rfl, iteB (fun _ => ?_) fun _ => ?_⟩⟩
  · walk_at "rr"
    refine ⟨b, 3, _, w, rfl, hB4, by decide, by decide, by omega, fun r5 w5 r50 r51 hB5 => ?_⟩
    refine ix_pick r50 (by show r5 < 3; omega) fun d hd => ?_
    have ho : ∃ o : Str, d = .str o ∧ 1 ≤ o.length ∧ o.length ≤ 11 := by
      simp only [List.mem_cons, List.not_mem_nil, or_false] at hd
      rcases hd with rfl | rfl | rfl
      · exact ⟨_, rfl, by decide, by decide⟩
      · exact ⟨_, rfl, by decide, by decide⟩
      · exact ⟨_, rfl, by decide, by decide⟩
    obtain ⟨o, rfl, o1, o2⟩ := ho
    walk_at "rr"
    refine ⟨_, lenS_str (by omega), ?_⟩
    refine ⟨_, liftI_ok (cDiv_of (b := 10) (by omega) (by omega) (by decide) (by decide)), ?_⟩
    walk_at "rr"
    dsimp only [dCons, dC, dNil, List.append_nil]
    refine ⟨b, 4, _, w, rfl, hB5, by decide, by decide, by omega, fun r6 w6 r60 r61 hB6 => ?_⟩
    refine ⟨_, liftI_ok (cDiv_of (b := 2) (by decide) (by decide) (by decide) (by decide)), ?_⟩
    refine ix_pick (by omega) (by show r6 / 3 < 2; omega) fun d hd => ?_
    have hM : ∃ M : Int, d = .int M ∧ 0 < M ∧ M < 2 ^ 39 ∧ M * o.length ≤ 3000 := by
      simp only [List.mem_cons, List.not_mem_nil, or_false] at hd
      rcases hd with rfl | rfl
      · exact ⟨_, rfl, by decide, by decide, by omega⟩
      · refine ⟨_, rfl, ?_, ?_, ?_⟩
        · exact Int.lt_of_lt_of_le (by decide) (Int.le_ediv_of_mul_le (a := 1) (by omega) (by omega))
        · exact Int.lt_of_le_of_lt (Int.ediv_le_self _ (by decide)) (by decide)
        · exact Int.le_trans (Int.ediv_mul_le _ (by omega)) (by decide)
    obtain ⟨M, rfl, M0, M1, M2⟩ := hM
    dsimp only [DL.ret, dCons, dC, dNil, List.append_nil]
    refine ⟨b, M, _, w, rfl, hB6, M0, by omega, by omega, fun r7 w7 r70 r71 hB7 => ?_⟩
    have r7b : r7.toNat * o.length ≤ 3000 := by
      have h1 : r7 * o.length ≤ M * o.length := Int.mul_le_mul_of_nonneg_right (by omega) (by omega)
      have h2 : ((r7.toNat * o.length : Nat) : Int) = r7 * o.length := by rw [Int.natCast_mul, Int.toNat_of_nonneg r70]
      omega
    refine ⟨_, gMulS_ok r70 (by omega) (by rw [Nat.mul_comm]; omega), ?_⟩
    refine ⟨_, rfl, ?_⟩
    have e1 := repS_len o r7
    have e2 := tx_len t
    refine add_ab (by omega) fun y hy => ?_
    exact law_tail hB7 (by omega) (by omega) fun _ _ _ _ => nx _ _ rfl
  · exact law_tail hB4 (by omega) (by rw [tx_len]; omega) fun _ _ _ _ => nx _ _ rfl
end G

set_option Elab.async false
set_option linter.all false
set_option maxRecDepth 100000
set_option maxHeartbeats 4000000
namespace G
open PySem PySem.Spec PyProof.Rows L2 DL
def top (i : Nat) : Stmt := PySem.Challenge.pw_growjoin_k54_texts_of_no_kind.main.body.getD i (.Pass ⟨0, 0, 0, 0⟩)
abbrev s_Sourceu_initu : Stmt := inClass (top 33) 0
theorem sc_Sourceu_initu : FnScope N_Sourceu_initu ["self", "text"] (defScope s_Sourceu_initu) := ⟨rfl, rfl, rfl, by decide +kernel, rfl, by decide +kernel, by decide +kernel⟩

abbrev s_Source_comes_next : Stmt := inClass (top 33) 1
theorem sc_Source_comes_next : FnScope N_Source_comes_next ["self", "sign"] (defScope s_Source_comes_next) := ⟨rfl, rfl, rfl, by decide +kernel, rfl, by decide +kernel, by decide +kernel⟩

abbrev s_Source_goes_past : Stmt := inClass (top 33) 2
theorem sc_Source_goes_past : FnScope N_Source_goes_past ["self", "sign"] (defScope s_Source_goes_past) := ⟨rfl, rfl, rfl, by decide +kernel, rfl, by decide +kernel, by decide +kernel⟩

abbrev s_Source_run_of : Stmt := inClass (top 33) 3
theorem sc_Source_run_of : FnScope N_Source_run_of ["self", "signs"] (defScope s_Source_run_of) := ⟨rfl, rfl, rfl, by decide +kernel, rfl, by decide +kernel, by decide +kernel⟩

abbrev s_Source_at_end : Stmt := inClass (top 33) 6
theorem sc_Source_at_end : FnScope N_Source_at_end ["self"] (defScope s_Source_at_end) := ⟨rfl, rfl, rfl, by decide +kernel, rfl, by decide +kernel, by decide +kernel⟩

abbrev s_kind_read : Stmt := top 34
theorem sc_kind_read : FnScope N_kind_read ["source", "most"] (defScope s_kind_read) := ⟨rfl, rfl, rfl, by decide +kernel, rfl, by decide +kernel, by decide +kernel⟩

abbrev s_read_kind : Stmt := top 42
theorem sc_read_kind : FnScope N_read_kind ["text"] (defScope s_read_kind) := ⟨rfl, rfl, rfl, by decide +kernel, rfl, by decide +kernel, by decide +kernel⟩

abbrev s_law_cell_at : Stmt := top 45
theorem sc_law_cell_at : FnScope N_law_cell_at ["script", "k"] (defScope s_law_cell_at) := ⟨rfl, rfl, rfl, by decide +kernel, rfl, by decide +kernel, by decide +kernel⟩

abbrev s_law_bag : Stmt := top 46
theorem sc_law_bag : FnScope N_law_bag ["cell", "place"] (defScope s_law_bag) := ⟨rfl, rfl, rfl, by decide +kernel, rfl, by decide +kernel, by decide +kernel⟩

abbrev s_law_draw : Stmt := top 47
theorem sc_law_draw : FnScope N_law_draw ["bag", "many"] (defScope s_law_draw) := ⟨rfl, rfl, rfl, by decide +kernel, rfl, by decide +kernel, by decide +kernel⟩

abbrev s_law_kind : Stmt := top 48
theorem sc_law_kind : FnScope N_law_kind ["bag", "deep"] (defScope s_law_kind) := ⟨rfl, rfl, rfl, by decide +kernel, rfl, by decide +kernel, by decide +kernel⟩

abbrev s_law_shown_kind : Stmt := top 49
theorem sc_law_shown_kind : FnScope N_law_shown_kind ["kind"] (defScope s_law_shown_kind) := ⟨rfl, rfl, rfl, by decide +kernel, rfl, by decide +kernel, by decide +kernel⟩

abbrev s_law_changed : Stmt := top 51
theorem sc_law_changed : FnScope N_law_changed ["bag", "text"] (defScope s_law_changed) := ⟨rfl, rfl, rfl, by decide +kernel, rfl, by decide +kernel, by decide +kernel⟩

abbrev s_law_parts : Stmt := top 52
theorem sc_law_parts : FnScope N_law_parts ["text"] (defScope s_law_parts) := ⟨rfl, rfl, rfl, by decide +kernel, rfl, by decide +kernel, by decide +kernel⟩

abbrev s_law_read_kind : Stmt := top 53
theorem sc_law_read_kind : FnScope N_law_read_kind ["text", "most"] (defScope s_law_read_kind) := ⟨rfl, rfl, rfl, by decide +kernel, rfl, by decide +kernel, by decide +kernel⟩

abbrev s_law_asked : Stmt := top 54
theorem sc_law_asked : FnScope N_law_asked ["kind", "text"] (defScope s_law_asked) := ⟨rfl, rfl, rfl, by decide +kernel, rfl, by decide +kernel, by decide +kernel⟩

abbrev s_law_odd : Stmt := top 55
theorem sc_law_odd : FnScope N_law_odd ["bag"] (defScope s_law_odd) := ⟨rfl, rfl, rfl, by decide +kernel, rfl, by decide +kernel, by decide +kernel⟩

abbrev s_law_right : Stmt := top 56
theorem sc_law_right : FnScope N_law_right ["text"] (defScope s_law_right) := ⟨rfl, rfl, rfl, by decide +kernel, rfl, by decide +kernel, by decide +kernel⟩

abbrev s_law : Stmt := top 57
theorem sc_law : FnScope N_law ["script"] (defScope s_law) := ⟨rfl, rfl, rfl, by decide +kernel, rfl, by decide +kernel, by decide +kernel⟩

structure Ad where
  f_Sourceu_initu : Addr
  d_Sourceu_initu : FuncData
  f_Source_comes_next : Addr
  d_Source_comes_next : FuncData
  f_Source_goes_past : Addr
  d_Source_goes_past : FuncData
  f_Source_run_of : Addr
  d_Source_run_of : FuncData
  f_Source_at_end : Addr
  d_Source_at_end : FuncData
  f_kind_read : Addr
  d_kind_read : FuncData
  f_read_kind : Addr
  d_read_kind : FuncData
  f_law_cell_at : Addr
  d_law_cell_at : FuncData
  f_law_bag : Addr
  d_law_bag : FuncData
  f_law_draw : Addr
  d_law_draw : FuncData
  f_law_kind : Addr
  d_law_kind : FuncData
  f_law_shown_kind : Addr
  d_law_shown_kind : FuncData
  f_law_changed : Addr
  d_law_changed : FuncData
  f_law_parts : Addr
  d_law_parts : FuncData
  f_law_read_kind : Addr
  d_law_read_kind : FuncData
  f_law_asked : Addr
  d_law_asked : FuncData
  f_law_odd : Addr
  d_law_odd : FuncData
  f_law_right : Addr
  d_law_right : FuncData
  f_law : Addr
  d_law : FuncData
  C_Source : Addr
  C_Busy : Addr
  C_Fallen : Addr
  C_JoinError : Addr
  C_NoDeed : Addr
  C_NoHand : Addr
  C_NoHands : Addr
  C_NoKind : Addr
  C_NoLetter : Addr
  C_NoText : Addr
  C_NoWorth : Addr
  C_TooLong : Addr
  t_MOST_DEEP : Tok
  t_LETTERS : Tok
  a_PLAIN : Addr
structure Txt (wd : World) (K : PySem.W.Frag) (mg : Str → Option Value) (A : Ad) : Prop where
  n_ValueError : mg "ValueError" = none
  n_int : mg "int" = none
  n_isinstance : mg "isinstance" = none
  n_len : mg "len" = none
  n_max : mg "max" = none
  n_min : mg "min" = none
  n_range : mg "range" = none
  n_str : mg "str" = none
  b_Sourceu_initu : Binds K A.d_Sourceu_initu ["self", "text"] []
  F_Sourceu_initu : L2.Fun K "__init__" "Source.__init__" s_Sourceu_initu A.f_Sourceu_initu A.d_Sourceu_initu
  m_Source_comes_next : Meth K A.C_Source "comes_next" A.f_Source_comes_next
  b_Source_comes_next : Binds K A.d_Source_comes_next ["self", "sign"] []
  F_Source_comes_next : L2.Fun K "comes_next" "Source.comes_next" s_Source_comes_next A.f_Source_comes_next A.d_Source_comes_next
  m_Source_goes_past : Meth K A.C_Source "goes_past" A.f_Source_goes_past
  b_Source_goes_past : Binds K A.d_Source_goes_past ["self", "sign"] []
  F_Source_goes_past : L2.Fun K "goes_past" "Source.goes_past" s_Source_goes_past A.f_Source_goes_past A.d_Source_goes_past
  m_Source_run_of : Meth K A.C_Source "run_of" A.f_Source_run_of
  b_Source_run_of : Binds K A.d_Source_run_of ["self", "signs"] []
  F_Source_run_of : L2.Fun K "run_of" "Source.run_of" s_Source_run_of A.f_Source_run_of A.d_Source_run_of
  m_Source_at_end : Meth K A.C_Source "at_end" A.f_Source_at_end
  b_Source_at_end : Binds K A.d_Source_at_end ["self"] []
  F_Source_at_end : L2.Fun K "at_end" "Source.at_end" s_Source_at_end A.f_Source_at_end A.d_Source_at_end
  g_kind_read : mg "kind_read" = some (.ref A.f_kind_read)
  k_kind_read : PySem.W.keepIn K (.ref A.f_kind_read) = true
  b_kind_read : Binds K A.d_kind_read ["source", "most"] []
  F_kind_read : L2.Fun K "kind_read" "kind_read" s_kind_read A.f_kind_read A.d_kind_read
  g_read_kind : mg "read_kind" = some (.ref A.f_read_kind)
  k_read_kind : PySem.W.keepIn K (.ref A.f_read_kind) = true
  b_read_kind : Binds K A.d_read_kind ["text"] []
  F_read_kind : L2.Fun K "read_kind" "read_kind" s_read_kind A.f_read_kind A.d_read_kind
  g_law_cell_at : mg "_law_cell_at" = some (.ref A.f_law_cell_at)
  k_law_cell_at : PySem.W.keepIn K (.ref A.f_law_cell_at) = true
  b_law_cell_at : Binds K A.d_law_cell_at ["script", "k"] []
  F_law_cell_at : L2.Fun K "_law_cell_at" "_law_cell_at" s_law_cell_at A.f_law_cell_at A.d_law_cell_at
  g_law_bag : mg "_law_bag" = some (.ref A.f_law_bag)
  k_law_bag : PySem.W.keepIn K (.ref A.f_law_bag) = true
  b_law_bag : Binds K A.d_law_bag ["cell", "place"] []
  F_law_bag : L2.Fun K "_law_bag" "_law_bag" s_law_bag A.f_law_bag A.d_law_bag
  g_law_draw : mg "_law_draw" = some (.ref A.f_law_draw)
  k_law_draw : PySem.W.keepIn K (.ref A.f_law_draw) = true
  b_law_draw : Binds K A.d_law_draw ["bag", "many"] []
  F_law_draw : L2.Fun K "_law_draw" "_law_draw" s_law_draw A.f_law_draw A.d_law_draw
  g_law_kind : mg "_law_kind" = some (.ref A.f_law_kind)
  k_law_kind : PySem.W.keepIn K (.ref A.f_law_kind) = true
  b_law_kind : Binds K A.d_law_kind ["bag", "deep"] []
  F_law_kind : L2.Fun K "_law_kind" "_law_kind" s_law_kind A.f_law_kind A.d_law_kind
  g_law_shown_kind : mg "_law_shown_kind" = some (.ref A.f_law_shown_kind)
  k_law_shown_kind : PySem.W.keepIn K (.ref A.f_law_shown_kind) = true
  b_law_shown_kind : Binds K A.d_law_shown_kind ["kind"] []
  F_law_shown_kind : L2.Fun K "_law_shown_kind" "_law_shown_kind" s_law_shown_kind A.f_law_shown_kind A.d_law_shown_kind
  g_law_changed : mg "_law_changed" = some (.ref A.f_law_changed)
  k_law_changed : PySem.W.keepIn K (.ref A.f_law_changed) = true
  b_law_changed : Binds K A.d_law_changed ["bag", "text"] []
  F_law_changed : L2.Fun K "_law_changed" "_law_changed" s_law_changed A.f_law_changed A.d_law_changed
  g_law_parts : mg "_law_parts" = some (.ref A.f_law_parts)
  k_law_parts : PySem.W.keepIn K (.ref A.f_law_parts) = true
  b_law_parts : Binds K A.d_law_parts ["text"] []
  F_law_parts : L2.Fun K "_law_parts" "_law_parts" s_law_parts A.f_law_parts A.d_law_parts
  g_law_read_kind : mg "_law_read_kind" = some (.ref A.f_law_read_kind)
  k_law_read_kind : PySem.W.keepIn K (.ref A.f_law_read_kind) = true
  b_law_read_kind : Binds K A.d_law_read_kind ["text", "most"] []
  F_law_read_kind : L2.Fun K "_law_read_kind" "_law_read_kind" s_law_read_kind A.f_law_read_kind A.d_law_read_kind
  g_law_asked : mg "_law_asked" = some (.ref A.f_law_asked)
  k_law_asked : PySem.W.keepIn K (.ref A.f_law_asked) = true
  b_law_asked : Binds K A.d_law_asked ["kind", "text"] []
  F_law_asked : L2.Fun K "_law_asked" "_law_asked" s_law_asked A.f_law_asked A.d_law_asked
  g_law_odd : mg "_law_odd" = some (.ref A.f_law_odd)
  k_law_odd : PySem.W.keepIn K (.ref A.f_law_odd) = true
  b_law_odd : Binds K A.d_law_odd ["bag"] []
  F_law_odd : L2.Fun K "_law_odd" "_law_odd" s_law_odd A.f_law_odd A.d_law_odd
  g_law_right : mg "_law_right" = some (.ref A.f_law_right)
  k_law_right : PySem.W.keepIn K (.ref A.f_law_right) = true
  b_law_right : Binds K A.d_law_right ["text"] []
  F_law_right : L2.Fun K "_law_right" "_law_right" s_law_right A.f_law_right A.d_law_right
  g_law : mg "law" = some (.ref A.f_law)
  k_law : PySem.W.keepIn K (.ref A.f_law) = true
  b_law : Binds K A.d_law ["script"] []
  F_law : L2.Fun K "law" "law" s_law A.f_law A.d_law
  g_Source : mg "Source" = some (.ref A.C_Source)
  cl_Source : Cls K A.C_Source
  mk_Source : Mk K A.C_Source A.f_Sourceu_initu
  no_Source_signs : NoAttr K A.C_Source "signs"
  no_Source_spot : NoAttr K A.C_Source "spot"
  g_Busy : mg "Busy" = some (.ref A.C_Busy)
  g_Fallen : mg "Fallen" = some (.ref A.C_Fallen)
  g_JoinError : mg "JoinError" = some (.ref A.C_JoinError)
  g_NoDeed : mg "NoDeed" = some (.ref A.C_NoDeed)
  g_NoHand : mg "NoHand" = some (.ref A.C_NoHand)
  g_NoHands : mg "NoHands" = some (.ref A.C_NoHands)
  g_NoKind : mg "NoKind" = some (.ref A.C_NoKind)
  g_NoLetter : mg "NoLetter" = some (.ref A.C_NoLetter)
  g_NoText : mg "NoText" = some (.ref A.C_NoText)
  g_NoWorth : mg "NoWorth" = some (.ref A.C_NoWorth)
  g_TooLong : mg "TooLong" = some (.ref A.C_TooLong)
  x_NoText : PySem.W.excIn K A.C_NoText [.type "ValueError", .type "Exception", .type "BaseException", .type "object"] "ValueError.__new__" = true
  kp_NoText : PySem.W.keepIn K (.ref A.C_NoText) = true
  sb_NoText : PySem.W.subIn K (.ref A.C_NoText) (.type "BaseException") = some true
  ty_NoText : PySem.W.typeIn K (.ref A.C_NoText) = some (.type "type")
  xc_NoText : ExcC K A.C_NoText
  ex_JoinError : PySem.W.exmOne K (.ref A.C_NoText) (.ref A.C_JoinError) = some true
  ko_NoText : PySem.W.kitOne K (.ref A.C_NoText) (.ref A.C_NoText) = some true
  ko_ValueError : PySem.W.kitOne K (.ref A.C_NoText) (.type "ValueError") = some true
  ka_many : PySem.W.kitAny K (.ref A.C_NoText) ([A.C_Busy, A.C_Fallen, A.C_NoDeed, A.C_NoHand, A.C_NoHands, A.C_NoKind, A.C_NoLetter, A.C_NoWorth, A.C_TooLong].map Value.ref) = some false
  g_MOST_DEEP : mg "MOST_DEEP" = some (.int 4 A.t_MOST_DEEP)
  g_LETTERS : mg "LETTERS" = some (.str "abcdefghijklmnopqrstuvwxyz" A.t_LETTERS)
  g_PLAIN : mg "PLAIN" = some (.ref A.a_PLAIN)
  d_PLAIN : ∀ D, Dr K D (.ref A.a_PLAIN) (.tuple [.str "names", .str "most", .str "last"])
section
variable {P : Program} {wd : World} {K : PySem.W.Frag} {mg : Str → Option Value} {base : Heap} {A : Ad}
theorem ok_Sourceu_initu (T : Txt wd K mg A) : FnOk P wd K mg base (L2.CX P wd) (1 + 1) A.f_Sourceu_initu A.d_Sourceu_initu ["self", "text"] (spX K (c_Sourceu_initu A.C_Source A.C_NoText)) :=
  DL.Fun.okDX T.F_Sourceu_initu sc_Sourceu_initu (fun ss w R Y h => len_Sourceu_initu h) (tb := fun Z => t_Sourceu_initu A.C_Source A.C_NoText Z) (fun cdv A0 outer s H E Z hr =>
    (ds_cons (ds_if (dt_not (dt_val (de_isi .str (dv 1) rfl T.n_isinstance rfl T.n_str (by decide +kernel)))) (ds_one (ds_raise rfl (takes_of rfl rfl rfl rfl) PySem.F.excBase_ValueError T.x_NoText T.g_NoText T.kp_NoText (raises_own T.sb_NoText T.ty_NoText) rfl)) ds_nil)
      (ds_cons (ds_fld T.cl_Source T.no_Source_signs (dv 0) (dv 1))
      (ds_one (ds_fld T.cl_Source T.no_Source_spot (dv 0) de_int)))))
    (fun ss w R Y h => rd_Sourceu_initu h)

theorem ok_Source_comes_next (T : Txt wd K mg A) : FnOk P wd K mg base CX0 (1 + 1) A.f_Source_comes_next A.d_Source_comes_next ["self", "sign"] (spN K (c_Source_comes_next A.C_Source)) :=
  DL.Fun.okD T.F_Source_comes_next sc_Source_comes_next (fun ss w R h => len_Source_comes_next h) (tb := (t_Source_comes_next A.C_Source)) (fun cdv A0 outer s H E hr =>
    (ds_one (ds_ret (de_startswith3 (de_fld T.cl_Source T.no_Source_signs (dv 0)) (da_cons (dv 1) (da_cons (de_fld T.cl_Source T.no_Source_spot (dv 0)) da_nil))))))
    (fun ss w R h => rd_Source_comes_next h)

theorem ok_Source_goes_past (T : Txt wd K mg A) : FnOk P wd K mg base (L2.CX P wd) (3 + 1) A.f_Source_goes_past A.d_Source_goes_past ["self", "sign"] (spX K (c_Source_goes_past A.C_Source A.C_NoText)) :=
  DL.Fun.okDX T.F_Source_goes_past sc_Source_goes_past (fun ss w R Y h => len_Source_goes_past h) (tb := fun Z => t_Source_goes_past A.C_Source A.C_NoText Z) (fun cdv A0 outer s H E Z hr =>
    (ds_cons (ds_if (dt_not (dt_val (de_meth T.cl_Source T.m_Source_comes_next (ok_Source_comes_next T) (hr.mono (by omega)) T.b_Source_comes_next .nil (fun _ => .nil) (dv 0) (da_cons (dv 1) da_nil)))) (ds_one (ds_raise rfl (takes_of rfl rfl rfl rfl) PySem.F.excBase_ValueError T.x_NoText T.g_NoText T.kp_NoText (raises_own T.sb_NoText T.ty_NoText) rfl)) ds_nil)
      (ds_one (ds_fldadd T.cl_Source T.no_Source_spot (dv 0) (de_len rfl T.n_len (da_cons (dv 1) da_nil))))))
    (fun ss w R Y h => rd_Source_goes_past h)

theorem ok_Source_run_of (T : Txt wd K mg A) : FnOk P wd K mg base CX0 (1 + 1) A.f_Source_run_of A.d_Source_run_of ["self", "signs"] (spN K (c_Source_run_of A.C_Source)) :=
  DL.Fun.okD T.F_Source_run_of sc_Source_run_of (fun ss w R h => len_Source_run_of h) (tb := (t_Source_run_of A.C_Source)) (fun cdv A0 outer s H E hr =>
    (ds_cons (ds_set (i := 2) sc_Source_run_of.nd rfl (Or.inl rfl) (de_fld T.cl_Source T.no_Source_spot (dv 0)))
      (ds_cons (ds_while PassesOwn.never (dt_w (dw_and (dt_lt (de_fld T.cl_Source T.no_Source_spot (dv 0)) (de_len rfl T.n_len (da_cons (de_fld T.cl_Source T.no_Source_signs (dv 0)) da_nil))) (dw_and1 (dt_in (de_ix (de_fld T.cl_Source T.no_Source_signs (dv 0)) (de_fld T.cl_Source T.no_Source_spot (dv 0)) (fun _ _ => rfl)) (dv 1))))) (ds_one (ds_fldadd T.cl_Source T.no_Source_spot (dv 0) de_int)))
      (ds_one (ds_ret (de_slice (de_fld T.cl_Source T.no_Source_signs (dv 0)) (do_some (dv 2)) (do_some (de_fld T.cl_Source T.no_Source_spot (dv 0)))))))))
    (fun ss w R h => rd_Source_run_of h)

theorem ok_Source_at_end (T : Txt wd K mg A) : FnOk P wd K mg base CX0 (1 + 1) A.f_Source_at_end A.d_Source_at_end ["self"] (spN K (c_Source_at_end A.C_Source)) :=
  DL.Fun.okD T.F_Source_at_end sc_Source_at_end (fun ss w R h => len_Source_at_end h) (tb := (t_Source_at_end A.C_Source)) (fun cdv A0 outer s H E hr =>
    (ds_one (ds_ret (de_eq hr.units (de_fld T.cl_Source T.no_Source_spot (dv 0)) (de_len rfl T.n_len (da_cons (de_fld T.cl_Source T.no_Source_signs (dv 0)) da_nil))))))
    (fun ss w R h => rd_Source_at_end h)

theorem step_kind_read (T : Txt wd K mg A) (n : Nat) (G : FnOk P wd K mg base (L2.CX P wd) (5 + n) A.f_kind_read A.d_kind_read ["source", "most"] (spX K (prevX (c_kind_read A.C_Source A.C_NoText) n))) : FnOk P wd K mg base (L2.CX P wd) ((5 + n) + 1) A.f_kind_read A.d_kind_read ["source", "most"] (spX K (c_kind_read A.C_Source A.C_NoText n)) :=
  DL.Fun.okDX T.F_kind_read sc_kind_read (fun ss w R Y h => len_kind_read h) (tb := fun Z => t_kind_read A.C_Source A.C_NoText (prevX (c_kind_read A.C_Source A.C_NoText) n) Z) (fun cdv A0 outer s H E Z hr =>
    (ds_cons (ds_set (i := 2) sc_kind_read.nd rfl (Or.inl rfl) (de_meth T.cl_Source T.m_Source_run_of (ok_Source_run_of T) (hr.mono (by omega)) T.b_Source_run_of .nil (fun _ => .nil) (dv 0) (da_cons (de_glob (v := .str _) rfl T.g_LETTERS ⟨_, rfl⟩ (fun _ => .str _)) da_nil)))
      (ds_cons (ds_if (dt_w (dw_and (dt_gt (dv 1) de_int) (dw_and1 (dt_eq hr.units (dv 2) de_str)))) (ds_cons (ds_expr (de_methX (takes_of rfl rfl rfl rfl) T.cl_Source T.m_Source_goes_past (ok_Source_goes_past T) (hr.mono (by omega)) T.b_Source_goes_past (dv 0) (da_cons de_str da_nil)))
      (ds_one (ds_ret (de_tup (dd_cons de_str (dd_cons (de_callX (takes_of rfl rfl rfl rfl) G hr rfl T.g_kind_read T.k_kind_read T.b_kind_read (da_cons (dv 0) (da_cons (de_sub (dv 1) de_int) da_nil))) dd_nil)))))) ds_nil)
      (ds_cons (ds_if (dt_w (dw_and (dt_gt (dv 1) de_int) (dw_and1 (dt_eq hr.units (dv 2) de_str)))) (ds_cons (ds_expr (de_methX (takes_of rfl rfl rfl rfl) T.cl_Source T.m_Source_goes_past (ok_Source_goes_past T) (hr.mono (by omega)) T.b_Source_goes_past (dv 0) (da_cons de_str da_nil)))
      (ds_cons (ds_set (i := 3) sc_kind_read.nd rfl (Or.inl rfl) (de_callX (takes_of rfl rfl rfl rfl) G hr rfl T.g_kind_read T.k_kind_read T.b_kind_read (da_cons (dv 0) (da_cons (de_sub (dv 1) de_int) da_nil))))
      (ds_cons (ds_expr (de_methX (takes_of rfl rfl rfl rfl) T.cl_Source T.m_Source_goes_past (ok_Source_goes_past T) (hr.mono (by omega)) T.b_Source_goes_past (dv 0) (da_cons de_str da_nil)))
      (ds_cons (ds_set (i := 4) sc_kind_read.nd rfl (Or.inl rfl) (de_callX (takes_of rfl rfl rfl rfl) G hr rfl T.g_kind_read T.k_kind_read T.b_kind_read (da_cons (dv 0) (da_cons (de_sub (dv 1) de_int) da_nil))))
      (ds_cons (ds_expr (de_methX (takes_of rfl rfl rfl rfl) T.cl_Source T.m_Source_goes_past (ok_Source_goes_past T) (hr.mono (by omega)) T.b_Source_goes_past (dv 0) (da_cons de_str da_nil)))
      (ds_one (ds_ret (de_tup (dd_cons de_str (dd_cons (dv 3) (dd_cons (dv 4) dd_nil))))))))))) ds_nil)
      (ds_cons (ds_if (dt_notIn (dv 2) (de_glob (v := .ref _) rfl T.g_PLAIN rfl T.d_PLAIN)) (ds_one (ds_raise rfl (takes_of rfl rfl rfl rfl) PySem.F.excBase_ValueError T.x_NoText T.g_NoText T.kp_NoText (raises_own T.sb_NoText T.ty_NoText) rfl)) ds_nil)
      (ds_one (ds_ret (de_tup (dd_cons (dv 2) dd_nil)))))))))
    (fun ss w R Y h => rd_kind_read n h)

theorem ok_kind_read (T : Txt wd K mg A) (n : Nat) : FnOk P wd K mg base (L2.CX P wd) (5 + n + 1) A.f_kind_read A.d_kind_read ["source", "most"] (spX K ((c_kind_read A.C_Source A.C_NoText) n)) := rec_okX (c_kind_read A.C_Source A.C_NoText) (step_kind_read T) n

theorem ok_read_kind (T : Txt wd K mg A) : FnOk P wd K mg base (L2.CX P wd) (14 + 1) A.f_read_kind A.d_read_kind ["text"] (spX K (c_read_kind A.C_NoText)) :=
  DL.Fun.okDX T.F_read_kind sc_read_kind (fun ss w R Y h => len_read_kind h) (tb := fun Z => t_read_kind A.C_Source A.C_NoText Z) (fun cdv A0 outer s H E Z hr =>
    (ds_cons (ds_set (i := 1) sc_read_kind.nd rfl (Or.inl rfl) (de_makeX (takes_of rfl rfl rfl rfl) T.mk_Source (ok_Sourceu_initu T) (hr.mono (by decide)) rfl T.g_Source T.b_Sourceu_initu (da_cons (dv 0) da_nil)))
      (ds_cons (ds_set (i := 2) sc_read_kind.nd rfl (Or.inl rfl) (de_callX (takes_of rfl rfl rfl rfl) (ok_kind_read T 4) (hr.mono (by decide)) rfl T.g_kind_read T.k_kind_read T.b_kind_read (da_cons (dv 1) (da_cons (de_glob (v := .int _) rfl T.g_MOST_DEEP ⟨_, rfl⟩ (fun _ => .int _)) da_nil))))
      (ds_cons (ds_if (dt_not (dt_val (de_meth0 T.cl_Source T.m_Source_at_end (ok_Source_at_end T) (hr.mono (by omega)) T.b_Source_at_end .nil (fun _ => .nil) (dv 1)))) (ds_one (ds_raise rfl (takes_of rfl rfl rfl rfl) PySem.F.excBase_ValueError T.x_NoText T.g_NoText T.kp_NoText (raises_own T.sb_NoText T.ty_NoText) rfl)) ds_nil)
      (ds_one (ds_ret (dv 2)))))))
    (fun ss w R Y h => rd_read_kind h)

theorem ok_law_cell_at (T : Txt wd K mg A) : FnOk P wd K mg base CX0 (1 + 1) A.f_law_cell_at A.d_law_cell_at ["script", "k"] (spN K c_law_cell_at) :=
  DL.Fun.okD T.F_law_cell_at sc_law_cell_at (fun ss w R h => len_law_cell_at h) (tb := t_law_cell_at) (fun cdv A0 outer s H E hr =>
    (ds_cons (ds_if (dt_lt (dv 1) (de_len rfl T.n_len (da_cons (dv 0) da_nil))) (ds_one (ds_ret (de_ix (dv 0) (dv 1) (fun _ _ => rfl)))) ds_nil)
      (ds_one (ds_ret de_int))))
    (fun ss w R h => rd_law_cell_at h)

theorem ok_law_bag (T : Txt wd K mg A) : FnOk P wd K mg base CX0 (1 + 1) A.f_law_bag A.d_law_bag ["cell", "place"] (spN K c_law_bag) :=
  DL.Fun.okD T.F_law_bag sc_law_bag (fun ss w R h => len_law_bag h) (tb := t_law_bag) (fun cdv A0 outer s H E hr =>
    (ds_one (ds_ret (de_lstD (dd_cons (de_max rfl rfl T.n_max (da_cons de_int (da_cons (de_sub (dv 0) (de_pow de_int de_int)) da_nil))) (dd_cons (de_add (de_mod (dv 0) de_int) (de_mul de_int (dv 1))) (dd_cons de_int dd_nil)))))))
    (fun ss w R h => rd_law_bag h)

theorem ok_law_draw (T : Txt wd K mg A) : FnOk P wd K mg base CX0 (1 + 1) A.f_law_draw A.d_law_draw ["bag", "many"] (spN K c_law_draw) :=
  DL.Fun.okD T.F_law_draw sc_law_draw (fun ss w R h => len_law_draw h) (tb := t_law_draw) (fun cdv A0 outer s H E hr =>
    (ds_cons (ds_if (dt_gt (de_ix (dv 0) de_int (fun _ _ => rfl)) de_int) (ds_cons (ds_set (i := 2) sc_law_draw.nd rfl (Or.inl rfl) (de_mod (de_ix (dv 0) de_int (fun _ _ => rfl)) (dv 1)))
      (ds_cons (ds_asg (de_div (de_ix (dv 0) de_int (fun _ _ => rfl)) (dv 1)) (dg_sub (dv 0) de_int))
      (ds_one (ds_ret (dv 2))))) ds_nil)
      (ds_cons (ds_asg (de_add (de_ix (dv 0) de_int (fun _ _ => rfl)) de_int) (dg_sub (dv 0) de_int))
      (ds_cons (ds_set (i := 3) sc_law_draw.nd rfl (Or.inl rfl) (de_mod (de_pow (de_add (de_ix (dv 0) de_int (fun _ _ => rfl)) (de_mul de_int (de_ix (dv 0) de_int (fun _ _ => rfl)))) de_int) de_int))
      (ds_cons (ds_set (i := 3) sc_law_draw.nd rfl (Or.inl rfl) (de_mod (de_pow (de_add (dv 3) (de_mul de_int (de_ix (dv 0) de_int (fun _ _ => rfl)))) de_int) de_int))
      (ds_one (ds_ret (de_mod (de_div (dv 3) de_int) (dv 1)))))))))
    (fun ss w R h => rd_law_draw h)

theorem step_law_kind (T : Txt wd K mg A) (n : Nat) (G : FnOk P wd K mg base CX0 (3 + n) A.f_law_kind A.d_law_kind ["bag", "deep"] (spN K (prev c_law_kind n))) : FnOk P wd K mg base CX0 ((3 + n) + 1) A.f_law_kind A.d_law_kind ["bag", "deep"] (spN K (c_law_kind n)) :=
  DL.Fun.okD T.F_law_kind sc_law_kind (fun ss w R h => len_law_kind h) (tb := (t_law_kind (prev c_law_kind n))) (fun cdv A0 outer s H E hr =>
    (ds_cons (ds_set (i := 2) sc_law_kind.nd rfl (Or.inl rfl) (de_call (ok_law_draw T) (hr.mono (by omega)) rfl T.g_law_draw T.k_law_draw T.b_law_draw .nil (fun _ => .nil) (da_cons (dv 0) (da_cons de_int da_nil))))
      (ds_cons (ds_if (dt_w (dw_or (dt_lt (dv 2) de_int) (dw_or1 (dt_lt (dv 1) de_int)))) (ds_one (ds_ret (de_fz (de_ix (de_fz (de_lstD (dd_cons (de_tup (dd_cons de_str dd_nil)) (dd_cons (de_tup (dd_cons de_str dd_nil)) (dd_cons (de_tup (dd_cons de_str dd_nil)) dd_nil))))) (de_call (ok_law_draw T) (hr.mono (by omega)) rfl T.g_law_draw T.k_law_draw T.b_law_draw .nil (fun _ => .nil) (da_cons (dv 0) (da_cons de_int da_nil))) (fun _ _ => rfl))))) ds_nil)
      (ds_cons (ds_if (dt_lt (dv 2) de_int) (ds_one (ds_ret (de_fz (de_tup (dd_cons de_str (dd_cons (de_call G hr rfl T.g_law_kind T.k_law_kind T.b_law_kind .nil (fun _ => .nil) (da_cons (dv 0) (da_cons (de_sub (dv 1) de_int) da_nil))) dd_nil)))))) ds_nil)
      (ds_one (ds_ret (de_fz (de_tup (dd_cons de_str (dd_cons (de_call G hr rfl T.g_law_kind T.k_law_kind T.b_law_kind .nil (fun _ => .nil) (da_cons (dv 0) (da_cons (de_sub (dv 1) de_int) da_nil))) (dd_cons (de_call G hr rfl T.g_law_kind T.k_law_kind T.b_law_kind .nil (fun _ => .nil) (da_cons (dv 0) (da_cons (de_sub (dv 1) de_int) da_nil))) dd_nil)))))))))))
    (fun ss w R h => rd_law_kind n h)

theorem ok_law_kind (T : Txt wd K mg A) (n : Nat) : FnOk P wd K mg base CX0 (3 + n + 1) A.f_law_kind A.d_law_kind ["bag", "deep"] (spN K (c_law_kind n)) := rec_ok c_law_kind (step_law_kind T) n

theorem step_law_shown_kind (T : Txt wd K mg A) (n : Nat) (G : FnOk P wd K mg base CX0 (2 + n) A.f_law_shown_kind A.d_law_shown_kind ["kind"] (spN K (prev c_law_shown_kind n))) : FnOk P wd K mg base CX0 ((2 + n) + 1) A.f_law_shown_kind A.d_law_shown_kind ["kind"] (spN K (c_law_shown_kind n)) :=
  DL.Fun.okD T.F_law_shown_kind sc_law_shown_kind (fun ss w R h => len_law_shown_kind h) (tb := (t_law_shown_kind (prev c_law_shown_kind n))) (fun cdv A0 outer s H E hr =>
    (ds_cons (ds_if (dt_eq hr.units (de_ix (dv 0) de_int (fun _ _ => rfl)) de_str) (ds_one (ds_ret (de_add de_str (de_call G hr rfl T.g_law_shown_kind T.k_law_shown_kind T.b_law_shown_kind .nil (fun _ => .nil) (da_cons (de_ix (dv 0) de_int (fun _ _ => rfl)) da_nil))))) ds_nil)
      (ds_cons (ds_if (dt_eq hr.units (de_ix (dv 0) de_int (fun _ _ => rfl)) de_str) (ds_one (ds_ret (de_add (de_add (de_add (de_add de_str (de_call G hr rfl T.g_law_shown_kind T.k_law_shown_kind T.b_law_shown_kind .nil (fun _ => .nil) (da_cons (de_ix (dv 0) de_int (fun _ _ => rfl)) da_nil))) de_str) (de_call G hr rfl T.g_law_shown_kind T.k_law_shown_kind T.b_law_shown_kind .nil (fun _ => .nil) (da_cons (de_ix (dv 0) de_int (fun _ _ => rfl)) da_nil))) de_str))) ds_nil)
      (ds_one (ds_ret (de_ix (dv 0) de_int (fun _ _ => rfl)))))))
    (fun ss w R h => rd_law_shown_kind n h)

theorem ok_law_shown_kind (T : Txt wd K mg A) (n : Nat) : FnOk P wd K mg base CX0 (2 + n + 1) A.f_law_shown_kind A.d_law_shown_kind ["kind"] (spN K (c_law_shown_kind n)) := rec_ok c_law_shown_kind (step_law_shown_kind T) n

theorem ok_law_changed (T : Txt wd K mg A) : FnOk P wd K mg base CX0 (4 + 1) A.f_law_changed A.d_law_changed ["bag", "text"] (spN K c_law_changed) :=
  DL.Fun.okD T.F_law_changed sc_law_changed (fun ss w R h => len_law_changed h) (tb := t_law_changed) (fun cdv A0 outer s H E hr =>
    (ds_cons (ds_set (i := 2) sc_law_changed.nd rfl (Or.inl rfl) (de_call (ok_law_draw T) (hr.mono (by omega)) rfl T.g_law_draw T.k_law_draw T.b_law_draw .nil (fun _ => .nil) (da_cons (dv 0) (da_cons de_int da_nil))))
      (ds_cons (ds_set (i := 3) sc_law_changed.nd rfl (Or.inl rfl) (de_call (ok_law_draw T) (hr.mono (by omega)) rfl T.g_law_draw T.k_law_draw T.b_law_draw .nil (fun _ => .nil) (da_cons (dv 0) (da_cons (de_add (de_len rfl T.n_len (da_cons (dv 1) da_nil)) de_int) da_nil))))
      (ds_cons (ds_set (i := 4) sc_law_changed.nd rfl (Or.inl rfl) de_str)
      (ds_cons (ds_set (i := 6) sc_law_changed.nd rfl (Or.inl rfl) (de_join de_str (de_fz (de_lc (own := [("sign", 5)]) rfl sc_law_changed.nd (di_str (dv 4)) (blkOk_by (own := [("sign", 5)]) (N := N_law_changed) (sc := defScope s_law_changed) (by decide +kernel)) (fun _ _ _ _ _ => (dvt_name (i := 5) (by decide) sc_law_changed.nd rfl (Or.inl rfl))) (fun _ _ _ _ _ => dts_nil) (fun _ _ _ _ _ => (dv 5))))))
      (ds_cons (ds_if (dt_eq hr.units (de_call (ok_law_draw T) (hr.mono (by omega)) rfl T.g_law_draw T.k_law_draw T.b_law_draw .nil (fun _ => .nil) (da_cons (dv 0) (da_cons de_int da_nil))) de_int) (ds_one (ds_set (i := 6) sc_law_changed.nd rfl (Or.inl rfl) de_str)) ds_nil)
      (ds_cons (ds_set (i := 5) sc_law_changed.nd rfl (Or.inl rfl) (de_ix (dv 6) (de_call (ok_law_draw T) (hr.mono (by omega)) rfl T.g_law_draw T.k_law_draw T.b_law_draw .nil (fun _ => .nil) (da_cons (dv 0) (da_cons (de_len rfl T.n_len (da_cons (dv 6) da_nil)) da_nil))) (fun _ _ => rfl)))
      (ds_cons (ds_if (dt_lt (dv 2) de_int) (ds_one (ds_ret (de_fz (de_ix (de_fz (de_lstD (dd_cons (de_fz (de_add (de_fz (de_add (de_fz (de_slice (dv 1) do_none (do_some (dv 3)))) (dv 5))) (de_fz (de_slice (dv 1) (do_some (dv 3)) do_none)))) (dd_cons (de_fz (de_add (de_fz (de_slice (dv 1) do_none (do_some (dv 3)))) (de_fz (de_slice (dv 1) (do_some (de_add (dv 3) de_int)) do_none)))) (dd_cons (de_fz (de_add (de_fz (de_add (de_fz (de_slice (dv 1) do_none (do_some (dv 3)))) (dv 5))) (de_fz (de_slice (dv 1) (do_some (de_add (dv 3) de_int)) do_none)))) dd_nil))))) (dv 2) (fun _ _ => rfl))))) ds_nil)
      (ds_cons (ds_if (dt_eq hr.units (dv 2) de_int) (ds_one (ds_ret (de_fz (de_add (de_fz (de_add (de_fz (de_slice (dv 1) do_none (do_some (dv 3)))) (de_revS (de_fz (de_slice (dv 1) (do_some (dv 3)) (do_some (de_add (dv 3) de_int))))))) (de_fz (de_slice (dv 1) (do_some (de_add (dv 3) de_int)) do_none)))))) ds_nil)
      (ds_cons (ds_set (i := 7) sc_law_changed.nd rfl (Or.inl rfl) (de_add de_int (de_call (ok_law_draw T) (hr.mono (by omega)) rfl T.g_law_draw T.k_law_draw T.b_law_draw .nil (fun _ => .nil) (da_cons (dv 0) (da_cons de_int da_nil)))))
      (ds_one (ds_ret (de_fz (de_ix (de_fz (de_lstD (dd_cons (de_fz (de_add (de_fz (de_slice (dv 1) do_none (do_some (dv 3)))) (de_fz (de_slice (dv 1) (do_some (de_add (dv 3) (dv 7))) do_none)))) (dd_cons (de_fz (de_add (de_fz (de_slice (dv 1) do_none (do_some (de_add (dv 3) (dv 7))))) (de_fz (de_slice (dv 1) (do_some (dv 3)) do_none)))) dd_nil)))) (de_sub (dv 2) de_int) (fun _ _ => rfl)))))))))))))))
    (fun ss w R h => rd_law_changed h)

theorem ok_law_parts (T : Txt wd K mg A) : FnOk P wd K mg base CX0 (2 + 1) A.f_law_parts A.d_law_parts ["text"] (spN K c_law_parts) :=
  DL.Fun.okD T.F_law_parts sc_law_parts (fun ss w R h => len_law_parts h) (tb := t_law_parts) (fun cdv A0 outer s H E hr =>
    (ds_cons (ds_if (dt_eq hr.units (dv 0) de_str) (ds_one (ds_ret (de_fz (de_lstD dd_nil)))) ds_nil)
      (ds_cons (ds_set (i := 1) sc_law_parts.nd rfl (Or.inl rfl) (de_lstD (dd_cons de_str dd_nil)))
      (ds_cons (ds_set (i := 2) sc_law_parts.nd rfl (Or.inl rfl) de_int)
      (ds_cons (ds_for PassesOwn.never rfl (di_range1 rfl T.n_range (da_cons (de_len rfl T.n_len (da_cons (dv 0) da_nil)) da_nil)) (dg_name (i := 3) sc_law_parts.nd rfl (Or.inl rfl)) (ds_cons (ds_set (i := 2) sc_law_parts.nd rfl (Or.inl rfl) (de_sub (de_add (dv 2) (de_int1 rfl T.n_int (da_cons (de_in (de_ix (dv 0) (dv 3) (fun _ _ => rfl)) de_str) da_nil))) (de_int1 rfl T.n_int (da_cons (de_in (de_ix (dv 0) (dv 3) (fun _ _ => rfl)) de_str) da_nil))))
      (ds_one (ds_if (dt_w (dw_and (dt_eq hr.units (dv 2) de_int) (dw_and1 (dt_eq hr.units (de_slice (dv 0) (do_some (dv 3)) (do_some (de_add (dv 3) de_int))) de_str)))) (ds_one (ds_expr (de_append (dv 1) de_str))) (ds_one (ds_if (dt_w (dw_or (dt_ne hr.units (dv 2) de_int) (dw_or (dt_eq hr.units (dv 3) de_int) (dw_or1 (dt_ne hr.units (de_slice (dv 0) (do_some (de_sub (dv 3) de_int)) (do_some (de_add (dv 3) de_int))) de_str))))) (ds_one (ds_asg (de_add (de_ix (dv 1) (de_neg de_int) (fun _ _ => rfl)) (de_ix (dv 0) (dv 3) (fun _ _ => rfl))) (dg_sub (dv 1) (de_neg de_int)))) ds_nil))))))
      (ds_one (ds_ret (de_fz (dv 1)))))))))
    (fun ss w R h => rd_law_parts h)

theorem step_law_read_kind (T : Txt wd K mg A) (n : Nat) (G : FnOk P wd K mg base CX0 (4 + n) A.f_law_read_kind A.d_law_read_kind ["text", "most"] (spN K (prev c_law_read_kind n))) : FnOk P wd K mg base CX0 ((4 + n) + 1) A.f_law_read_kind A.d_law_read_kind ["text", "most"] (spN K (c_law_read_kind n)) :=
  DL.Fun.okD T.F_law_read_kind sc_law_read_kind (fun ss w R h => len_law_read_kind h) (tb := (t_law_read_kind (prev c_law_read_kind n))) (fun cdv A0 outer s H E hr =>
    (ds_cons (ds_if (dt_eq hr.units (dv 1) de_int) (ds_one (ds_ret de_non)) ds_nil)
      (ds_cons (ds_if (dt_in (dv 0) (de_tup (dd_cons de_str (dd_cons de_str (dd_cons de_str dd_nil))))) (ds_one (ds_ret (de_fz (de_tup (dd_cons (dv 0) dd_nil))))) ds_nil)
      (ds_cons (ds_if (dt_eq hr.units (de_fz (de_slice (dv 0) do_none (do_some de_int))) de_str) (ds_cons (ds_set (i := 2) sc_law_read_kind.nd rfl (Or.inl rfl) (de_call G hr rfl T.g_law_read_kind T.k_law_read_kind T.b_law_read_kind .nil (fun _ => .nil) (da_cons (de_fz (de_slice (dv 0) (do_some de_int) do_none)) (da_cons (de_sub (dv 1) de_int) da_nil))))
      (ds_one (ds_ret (de_fz (de_if (dt_is (dv 2) de_non) de_non (de_tup (dd_cons de_str (dd_cons (dv 2) dd_nil)))))))) ds_nil)
      (ds_cons (ds_if (dt_w (dw_or (dt_ne hr.units (de_fz (de_slice (dv 0) do_none (do_some de_int))) de_str) (dw_or1 (dt_ne hr.units (de_fz (de_slice (dv 0) (do_some (de_neg de_int)) do_none)) de_str)))) (ds_one (ds_ret de_non)) ds_nil)
      (ds_cons (ds_set (i := 3) sc_law_read_kind.nd rfl (Or.inl rfl) (de_call (ok_law_parts T) (hr.mono (by omega)) rfl T.g_law_parts T.k_law_parts T.b_law_parts .nil (fun _ => .nil) (da_cons (de_fz (de_slice (dv 0) (do_some de_int) (do_some (de_neg de_int)))) da_nil)))
      (ds_cons (ds_if (dt_ne hr.units (de_len rfl T.n_len (da_cons (dv 3) da_nil)) de_int) (ds_one (ds_ret de_non)) ds_nil)
      (ds_cons (ds_fzset (ds_setLc (i := 4) (own := [("part", 5)]) rfl sc_law_read_kind.nd rfl rfl (sw_true rfl rfl rfl (by decide +kernel)) (di_seq (dv 3)) (blkOk_by (own := [("part", 5)]) (N := N_law_read_kind) (sc := defScope s_law_read_kind) (by decide +kernel)) (fun _ _ _ _ _ => (dvt_name (i := 5) (by decide) sc_law_read_kind.nd rfl (Or.inl rfl))) (fun _ _ _ _ _ => dts_nil) (fun _ _ _ _ _ => (de_call G hr rfl T.g_law_read_kind T.k_law_read_kind T.b_law_read_kind .nil (fun _ => .nil) (da_cons (dv 5) (da_cons (de_sub (dv 1) de_int) da_nil))))))
      (ds_one (ds_ret (de_fz (de_if (dt_inD (un65 hr) de_non (dv 4)) de_non (de_tup (dd_cons de_str (dd_cons (de_ix (dv 4) de_int (fun _ _ => rfl)) (dd_cons (de_ix (dv 4) de_int (fun _ _ => rfl)) dd_nil))))))))))))))))
    (fun ss w R h => rd_law_read_kind n h)

theorem ok_law_read_kind (T : Txt wd K mg A) (n : Nat) : FnOk P wd K mg base CX0 (4 + n + 1) A.f_law_read_kind A.d_law_read_kind ["text", "most"] (spN K (c_law_read_kind n)) := rec_ok c_law_read_kind (step_law_read_kind T) n

theorem ok_law_asked (T : Txt wd K mg A) : FnOk P wd K mg base CX0 (18 + 1) A.f_law_asked A.d_law_asked ["kind", "text"] (spN K c_law_asked) :=
  DL.Fun.okD T.F_law_asked sc_law_asked (fun ss w R h => len_law_asked h) (tb := (t_law_asked A.C_NoText)) (fun cdv A0 outer s H E hr =>
    (ds_cons (ds_try (i := 3) rfl rfl sc_law_asked.nd rfl rfl ⟨rfl, by decide, Or.inl T.g_JoinError⟩ T.ex_JoinError (fun W Z pn xe tk po => (ds_one (ds_set (i := 2) sc_law_asked.nd rfl (Or.inl rfl) (de_if (dt_is (dv 0) de_non) (de_callX tk (ok_read_kind T) (hr.mono (by decide)) rfl T.g_read_kind T.k_read_kind T.b_read_kind (da_cons (dv 1) da_nil)) de_never)))) (fun a oe pn hz hf => (ds_cons (ds_set (i := 4) sc_law_asked.nd rfl (Or.inl rfl) (de_isET T.xc_NoText hz hf (dv 3) rfl T.n_isinstance (CNs.cons rfl T.g_Busy (by decide) (CNs.cons rfl T.g_Fallen (by decide) (CNs.cons rfl T.g_NoDeed (by decide) (CNs.cons rfl T.g_NoHand (by decide) (CNs.cons rfl T.g_NoHands (by decide) (CNs.cons rfl T.g_NoKind (by decide) (CNs.cons rfl T.g_NoLetter (by decide) (CNs.cons rfl T.g_NoWorth (by decide) (CNs.cons rfl T.g_TooLong (by decide) CNs.nil))))))))) (by simp) T.ka_many))
      (ds_one (ds_ret (de_tup (dd_cons (de_and (de_isE T.xc_NoText hz hf (dv 3) rfl T.n_isinstance rfl T.g_NoText T.ko_NoText) (de_and (de_not (dv 4)) (de_one (de_isEB T.xc_NoText hz hf (dv 3) rfl T.n_isinstance rfl T.n_ValueError (by decide +kernel) T.ko_ValueError)))) (dd_cons de_bl dd_nil))))))))
      (ds_one (ds_ret (de_tup (dd_cons (dv 2) (dd_cons de_bl dd_nil)))))))
    (fun ss w R h => rd_law_asked h)

theorem ok_law_odd (T : Txt wd K mg A) : FnOk P wd K mg base CX0 (4 + 1) A.f_law_odd A.d_law_odd ["bag"] (spN K c_law_odd) :=
  DL.Fun.okD T.F_law_odd sc_law_odd (fun ss w R h => len_law_odd h) (tb := t_law_odd) (fun cdv A0 outer s H E hr =>
    (ds_cons (ds_set (i := 1) sc_law_odd.nd rfl (Or.inl rfl) (de_fz (de_lstD (dd_cons de_str (dd_cons de_str (dd_cons de_str (dd_cons de_str (dd_cons de_str (dd_cons de_str (dd_cons de_str (dd_cons de_str (dd_cons de_str (dd_cons de_str (dd_cons de_str dd_nil))))))))))))))
      (ds_cons (ds_set (i := 1) sc_law_odd.nd rfl (Or.inl rfl) (de_fz (de_add (dv 1) (de_fz (de_lstD (dd_cons de_str (dd_cons de_str (dd_cons de_str (dd_cons de_str (dd_cons de_str (dd_cons de_str dd_nil)))))))))))
      (ds_cons (ds_set (i := 1) sc_law_odd.nd rfl (Or.inl rfl) (de_fz (de_add (dv 1) (de_fz (de_lstD (dd_cons de_str (dd_cons de_str (dd_cons de_str (dd_cons de_str (dd_cons de_str dd_nil))))))))))
      (ds_cons (ds_set (i := 1) sc_law_odd.nd rfl (Or.inl rfl) (de_fz (de_add (dv 1) (de_fz (de_lstD (dd_cons de_str (dd_cons de_str (dd_cons de_str (dd_cons de_str (dd_cons de_str dd_nil))))))))))
      (ds_cons (ds_set (i := 1) sc_law_odd.nd rfl (Or.inl rfl) (de_fz (de_add (dv 1) (de_fz (de_lstD (dd_cons de_str (dd_cons de_str (dd_cons de_str (dd_cons de_str dd_nil)))))))))
      (ds_cons (ds_set (i := 1) sc_law_odd.nd rfl (Or.inl rfl) (de_fz (de_add (dv 1) (de_fz (de_lstD (dd_cons de_str (dd_cons de_str (dd_cons de_str (dd_cons de_str (dd_cons de_non (dd_cons de_int dd_nil)))))))))))
      (ds_cons (ds_set (i := 1) sc_law_odd.nd rfl (Or.inl rfl) (de_fz (de_add (dv 1) (de_fz (de_lstD (dd_cons de_bl (dd_cons (de_fz (de_lstD dd_nil)) (dd_cons (de_tup (dd_cons de_str dd_nil)) (dd_cons (de_fz (de_lstD (dd_cons de_str dd_nil))) (dd_cons de_dic0 (dd_cons (de_tup (dd_cons de_str dd_nil)) (dd_cons de_int dd_nil))))))))))))
      (ds_one (ds_ret (de_fz (de_ix (dv 1) (de_call (ok_law_draw T) (hr.mono (by omega)) rfl T.g_law_draw T.k_law_draw T.b_law_draw .nil (fun _ => .nil) (da_cons (dv 0) (da_cons de_int da_nil))) (fun _ _ => rfl)))))))))))))
    (fun ss w R h => rd_law_odd h)

theorem ok_law_right (T : Txt wd K mg A) : FnOk P wd K mg base CX0 (22 + 1) A.f_law_right A.d_law_right ["text"] (spN K c_law_right) :=
  DL.Fun.okD T.F_law_right sc_law_right (fun ss w R h => len_law_right h) (tb := t_law_right) (fun cdv A0 outer s H E hr =>
    (ds_cons (ds_set (i := 1) sc_law_right.nd rfl (Or.inl rfl) (de_if (dt_val (de_isi .str (dv 0) rfl T.n_isinstance rfl T.n_str (by decide +kernel))) (de_call (ok_law_read_kind T 4) (hr.mono (by decide)) rfl T.g_law_read_kind T.k_law_read_kind T.b_law_read_kind .nil (fun _ => .nil) (da_cons (dv 0) (da_cons de_int da_nil))) de_non))
      (ds_cons (ds_asg (de_call (ok_law_asked T) (hr.mono (by decide)) rfl T.g_law_asked T.k_law_asked T.b_law_asked .nil (fun _ => .nil) (da_cons de_non (da_cons (dv 0) da_nil))) (dg_tup (n := 2) rfl (dgs_cons (dg_name (i := 2) sc_law_right.nd rfl (Or.inl rfl)) (dgs_cons (dg_name (i := 3) sc_law_right.nd rfl (Or.inl rfl)) dgs_nil))))
      (ds_cons (ds_if (dt_is (dv 1) de_non) (ds_one (ds_ret (de_and (de_not (dv 3)) (de_one (dv 2))))) ds_nil)
      (ds_one (ds_ret (de_and (dv 3) (de_one (de_eq hr.units (dv 2) (dv 1))))))))))
    (fun ss w R h => rd_law_right h)

theorem ok_law (T : Txt wd K mg A) : FnOk P wd K mg base CX0 (26 + 1) A.f_law A.d_law ["script"] (spN K cLaw) :=
  DL.Fun.okD T.F_law sc_law (fun ss w R h => len_law h) (tb := t_law) (fun cdv A0 outer s H E hr =>
    (ds_cons (ds_for PassesOwn.never rfl (di_range1 rfl T.n_range (da_cons (de_max rfl rfl T.n_max (da_cons de_int (da_cons (de_min rfl rfl T.n_min (da_cons de_int (da_cons (de_len rfl T.n_len (da_cons (dv 0) da_nil)) da_nil))) da_nil))) da_nil)) (dg_name (i := 1) sc_law.nd rfl (Or.inl rfl)) (ds_cons (ds_set (i := 2) sc_law.nd rfl (Or.inl rfl) (de_call (ok_law_bag T) (hr.mono (by decide)) rfl T.g_law_bag T.k_law_bag T.b_law_bag .nil (fun _ => .nil) (da_cons (de_call (ok_law_cell_at T) (hr.mono (by decide)) rfl T.g_law_cell_at T.k_law_cell_at T.b_law_cell_at .nil (fun _ => .nil) (da_cons (dv 0) (da_cons (dv 1) da_nil))) (da_cons (dv 1) da_nil))))
      (ds_cons (ds_set (i := 3) sc_law.nd rfl (Or.inl rfl) (de_call (ok_law_shown_kind T 6) (hr.mono (by decide)) rfl T.g_law_shown_kind T.k_law_shown_kind T.b_law_shown_kind .nil (fun _ => .nil) (da_cons (de_call (ok_law_kind T 5) (hr.mono (by decide)) rfl T.g_law_kind T.k_law_kind T.b_law_kind .nil (fun _ => .nil) (da_cons (dv 2) (da_cons (de_add de_int (de_call (ok_law_draw T) (hr.mono (by omega)) rfl T.g_law_draw T.k_law_draw T.b_law_draw .nil (fun _ => .nil) (da_cons (dv 2) (da_cons de_int da_nil)))) da_nil))) da_nil)))
      (ds_cons (ds_if (dt_eq hr.units (de_call (ok_law_draw T) (hr.mono (by omega)) rfl T.g_law_draw T.k_law_draw T.b_law_draw .nil (fun _ => .nil) (da_cons (dv 2) (da_cons de_int da_nil))) de_int) (ds_cons (ds_set (i := 4) sc_law.nd rfl (Or.inl rfl) (de_ix (de_fz (de_lstD (dd_cons de_str (dd_cons de_str (dd_cons de_str dd_nil))))) (de_call (ok_law_draw T) (hr.mono (by omega)) rfl T.g_law_draw T.k_law_draw T.b_law_draw .nil (fun _ => .nil) (da_cons (dv 2) (da_cons de_int da_nil))) (fun _ _ => rfl)))
      (ds_one (ds_set (i := 3) sc_law.nd rfl (Or.inl rfl) (de_add (de_mulS (dv 4) (de_call (ok_law_draw T) (hr.mono (by omega)) rfl T.g_law_draw T.k_law_draw T.b_law_draw .nil (fun _ => .nil) (da_cons (dv 2) (da_cons (de_ix (de_fz (de_lstD (dd_cons de_int (dd_cons (de_div de_int (de_len rfl T.n_len (da_cons (dv 4) da_nil))) dd_nil)))) (de_div (de_call (ok_law_draw T) (hr.mono (by omega)) rfl T.g_law_draw T.k_law_draw T.b_law_draw .nil (fun _ => .nil) (da_cons (dv 2) (da_cons de_int da_nil))) de_int) (fun _ _ => rfl)) da_nil)))) (dv 3))))) ds_nil)
      (ds_cons (ds_for PassesOwn.never rfl (di_range1 rfl T.n_range (da_cons (de_call (ok_law_draw T) (hr.mono (by omega)) rfl T.g_law_draw T.k_law_draw T.b_law_draw .nil (fun _ => .nil) (da_cons (dv 2) (da_cons de_int da_nil))) da_nil)) (dg_name (i := 5) sc_law.nd rfl (Or.inl rfl)) (ds_cons (ds_if (dt_not (dt_val (de_call (ok_law_right T) (hr.mono (by decide)) rfl T.g_law_right T.k_law_right T.b_law_right .nil (fun _ => .nil) (da_cons (dv 3) da_nil)))) (ds_one (ds_ret de_bl)) ds_nil)
      (ds_one (ds_set (i := 3) sc_law.nd rfl (Or.inl rfl) (de_call (ok_law_changed T) (hr.mono (by decide)) rfl T.g_law_changed T.k_law_changed T.b_law_changed .nil (fun _ => .nil) (da_cons (dv 2) (da_cons (dv 3) da_nil)))))))
      (ds_one (ds_if (dt_w (dw_or (dt_not (dt_val (de_call (ok_law_right T) (hr.mono (by decide)) rfl T.g_law_right T.k_law_right T.b_law_right .nil (fun _ => .nil) (da_cons (dv 3) da_nil)))) (dw_or1 (dt_not (dt_val (de_call (ok_law_right T) (hr.mono (by decide)) rfl T.g_law_right T.k_law_right T.b_law_right .nil (fun _ => .nil) (da_cons (de_call (ok_law_odd T) (hr.mono (by decide)) rfl T.g_law_odd T.k_law_odd T.b_law_odd .nil (fun _ => .nil) (da_cons (dv 2) da_nil)) da_nil))))))) (ds_one (ds_ret de_bl)) ds_nil)))))))
      (ds_one (ds_ret de_bl))))
    (fun ss w R h => rd_law h)

end
theorem all_mk {l : PySem.W.OpenLaw} {wd : World} {K : PySem.W.Frag} {h : Heap} {mg : Str → Option Value} {fa : Addr} (X : K.In h) (G : h.Ns mainGlobals mg) (hfa : mg "law" = some (.ref fa))
    {C0 : Addr}
    {E_Busy : Addr}
    {E_Fallen : Addr}
    {E_JoinError : Addr}
    {E_NoDeed : Addr}
    {E_NoHand : Addr}
    {E_NoHands : Addr}
    {E_NoKind : Addr}
    {E_NoLetter : Addr}
    {E_NoText : Addr}
    {E_NoWorth : Addr}
    {E_TooLong : Addr}
    {f0 : Addr} {od0 an0 : Option Addr} {sl0 : Array (Option Value)} {oc0 kV0 dc0 pm0 cd0 ct0 : Value}
    {f1 : Addr} {od1 an1 : Option Addr} {sl1 : Array (Option Value)} {oc1 kV1 dc1 pm1 cd1 ct1 : Value}
    {f2 : Addr} {od2 an2 : Option Addr} {sl2 : Array (Option Value)} {oc2 kV2 dc2 pm2 cd2 ct2 : Value}
    {f3 : Addr} {od3 an3 : Option Addr} {sl3 : Array (Option Value)} {oc3 kV3 dc3 pm3 cd3 ct3 : Value}
    {f4 : Addr} {od4 an4 : Option Addr} {sl4 : Array (Option Value)} {oc4 kV4 dc4 pm4 cd4 ct4 : Value}
    {f5 : Addr} {od5 an5 : Option Addr} {sl5 : Array (Option Value)} {oc5 kV5 dc5 pm5 cd5 ct5 : Value}
    {f6 : Addr} {od6 an6 : Option Addr} {sl6 : Array (Option Value)} {oc6 kV6 dc6 pm6 cd6 ct6 : Value}
    {f7 : Addr} {od7 an7 : Option Addr} {sl7 : Array (Option Value)} {oc7 kV7 dc7 pm7 cd7 ct7 : Value}
    {f8 : Addr} {od8 an8 : Option Addr} {sl8 : Array (Option Value)} {oc8 kV8 dc8 pm8 cd8 ct8 : Value}
    {f9 : Addr} {od9 an9 : Option Addr} {sl9 : Array (Option Value)} {oc9 kV9 dc9 pm9 cd9 ct9 : Value}
    {f10 : Addr} {od10 an10 : Option Addr} {sl10 : Array (Option Value)} {oc10 kV10 dc10 pm10 cd10 ct10 : Value}
    {f11 : Addr} {od11 an11 : Option Addr} {sl11 : Array (Option Value)} {oc11 kV11 dc11 pm11 cd11 ct11 : Value}
    {f12 : Addr} {od12 an12 : Option Addr} {sl12 : Array (Option Value)} {oc12 kV12 dc12 pm12 cd12 ct12 : Value}
    {f13 : Addr} {od13 an13 : Option Addr} {sl13 : Array (Option Value)} {oc13 kV13 dc13 pm13 cd13 ct13 : Value}
    {f14 : Addr} {od14 an14 : Option Addr} {sl14 : Array (Option Value)} {oc14 kV14 dc14 pm14 cd14 ct14 : Value}
    {f15 : Addr} {od15 an15 : Option Addr} {sl15 : Array (Option Value)} {oc15 kV15 dc15 pm15 cd15 ct15 : Value}
    {f16 : Addr} {od16 an16 : Option Addr} {sl16 : Array (Option Value)} {oc16 kV16 dc16 pm16 cd16 ct16 : Value}
    {f17 : Addr} {od17 an17 : Option Addr} {sl17 : Array (Option Value)} {oc17 kV17 dc17 pm17 cd17 ct17 : Value}
    {f18 : Addr} {od18 an18 : Option Addr} {sl18 : Array (Option Value)} {oc18 kV18 dc18 pm18 cd18 ct18 : Value}
    {tk_MOST_DEEP : Tok}
    {tk_LETTERS : Tok}
    {ga_PLAIN : Addr} {go_PLAIN : Option Addr} {gi_PLAIN : Array Value} {gn_PLAIN : Nat} {gs_PLAIN : Array (Option Value)}
    (ca0 : PySem.W.nsIn K mainGlobals "Source" = some (some (.ref C0)))
    (pg0 : PySem.W.plainGet K C0 Str.empty = true)
    (hd0 : PySem.W.hasDictIn K C0 = true)
    (po0 : PySem.W.plainOver K C0 = true)
    (sa0 : PySem.W.findIn K (.ref C0) "__setattr__" = some (some (.builtin "object.__setattr__")))
    (mk0 : PySem.W.makesIn K C0 = true)
    (kc0 : PySem.W.keepIn K (.ref C0) = true)
    (na0_0 : PySem.W.findIn K (.ref C0) "signs" = some none)
    (na0_1 : PySem.W.findIn K (.ref C0) "spot" = some none)
    (ea_Busy : PySem.W.nsIn K mainGlobals "Busy" = some (some (.ref E_Busy)))
    (ea_Fallen : PySem.W.nsIn K mainGlobals "Fallen" = some (some (.ref E_Fallen)))
    (ea_JoinError : PySem.W.nsIn K mainGlobals "JoinError" = some (some (.ref E_JoinError)))
    (ea_NoDeed : PySem.W.nsIn K mainGlobals "NoDeed" = some (some (.ref E_NoDeed)))
    (ea_NoHand : PySem.W.nsIn K mainGlobals "NoHand" = some (some (.ref E_NoHand)))
    (ea_NoHands : PySem.W.nsIn K mainGlobals "NoHands" = some (some (.ref E_NoHands)))
    (ea_NoKind : PySem.W.nsIn K mainGlobals "NoKind" = some (some (.ref E_NoKind)))
    (ea_NoLetter : PySem.W.nsIn K mainGlobals "NoLetter" = some (some (.ref E_NoLetter)))
    (ea_NoText : PySem.W.nsIn K mainGlobals "NoText" = some (some (.ref E_NoText)))
    (ea_NoWorth : PySem.W.nsIn K mainGlobals "NoWorth" = some (some (.ref E_NoWorth)))
    (ea_TooLong : PySem.W.nsIn K mainGlobals "TooLong" = some (some (.ref E_TooLong)))
    (eh_n : PySem.W.specialIn K (.builtin "object.__class__") "__get__" = some (some (.builtin "getset_descriptor.__get__")))
    (eh_t : PySem.W.takesIn K (.builtin "object.__class__") = some true)
    (ex_NoText : PySem.W.excIn K E_NoText [.type "ValueError", .type "Exception", .type "BaseException", .type "object"] "ValueError.__new__" = true)
    (ek_NoText : PySem.W.keepIn K (.ref E_NoText) = true)
    (es_NoText : PySem.W.subIn K (.ref E_NoText) (.type "BaseException") = some true)
    (et_NoText : PySem.W.typeIn K (.ref E_NoText) = some (.type "type"))
    (ehg_NoText : PySem.W.findIn K (.ref E_NoText) "__getattribute__" = some (some (.builtin "BaseException.__getattribute__")))
    (ehk_NoText : PySem.W.findIn K (.ref E_NoText) "__getattr__" = some none)
    (ehd_NoText : PySem.W.hasDictIn K E_NoText = true)
    (eha_NoText : PySem.W.findIn K (.ref E_NoText) "__class__" = some (some (.builtin "object.__class__")))
    (ehm_NoText : PySem.W.mroIn K E_NoText (.type "object") = some true)
    (em_JoinError : PySem.W.exmOne K (.ref E_NoText) (.ref E_JoinError) = some true)
    (eo_NoText : PySem.W.kitOne K (.ref E_NoText) (.ref E_NoText) = some true)
    (eo_ValueError : PySem.W.kitOne K (.ref E_NoText) (.type "ValueError") = some true)
    (ey_many : PySem.W.kitAny K (.ref E_NoText) ([E_Busy, E_Fallen, E_NoDeed, E_NoHand, E_NoHands, E_NoKind, E_NoLetter, E_NoWorth, E_TooLong].map Value.ref) = some false)
    (a0 : PySem.W.findIn K (.ref C0) "__init__" = some (some (.ref f0)))
    (i0 : PySem.W.isFn K (.ref f0) = true)
    (l0 : K.lookup f0 = some ⟨oc0, od0, .func (PySem.W.fnOf "__init__" "Source.__init__" (defArgs s_Sourceu_initu) (defBody s_Sourceu_initu) (defScope s_Sourceu_initu) .none kV0 dc0 pm0 an0 cd0 ct0), sl0⟩)
    (c0 : PySem.W.codeIn K cd0 "Source.__init__" = true)
    (k0 : PySem.W.keepIn K (.ref f0) = true)
    (a1 : PySem.W.findIn K (.ref C0) "comes_next" = some (some (.ref f1)))
    (i1 : PySem.W.isFn K (.ref f1) = true)
    (l1 : K.lookup f1 = some ⟨oc1, od1, .func (PySem.W.fnOf "comes_next" "Source.comes_next" (defArgs s_Source_comes_next) (defBody s_Source_comes_next) (defScope s_Source_comes_next) .none kV1 dc1 pm1 an1 cd1 ct1), sl1⟩)
    (c1 : PySem.W.codeIn K cd1 "Source.comes_next" = true)
    (k1 : PySem.W.keepIn K (.ref f1) = true)
    (a2 : PySem.W.findIn K (.ref C0) "goes_past" = some (some (.ref f2)))
    (i2 : PySem.W.isFn K (.ref f2) = true)
    (l2 : K.lookup f2 = some ⟨oc2, od2, .func (PySem.W.fnOf "goes_past" "Source.goes_past" (defArgs s_Source_goes_past) (defBody s_Source_goes_past) (defScope s_Source_goes_past) .none kV2 dc2 pm2 an2 cd2 ct2), sl2⟩)
    (c2 : PySem.W.codeIn K cd2 "Source.goes_past" = true)
    (k2 : PySem.W.keepIn K (.ref f2) = true)
    (a3 : PySem.W.findIn K (.ref C0) "run_of" = some (some (.ref f3)))
    (i3 : PySem.W.isFn K (.ref f3) = true)
    (l3 : K.lookup f3 = some ⟨oc3, od3, .func (PySem.W.fnOf "run_of" "Source.run_of" (defArgs s_Source_run_of) (defBody s_Source_run_of) (defScope s_Source_run_of) .none kV3 dc3 pm3 an3 cd3 ct3), sl3⟩)
    (c3 : PySem.W.codeIn K cd3 "Source.run_of" = true)
    (k3 : PySem.W.keepIn K (.ref f3) = true)
    (a4 : PySem.W.findIn K (.ref C0) "at_end" = some (some (.ref f4)))
    (i4 : PySem.W.isFn K (.ref f4) = true)
    (l4 : K.lookup f4 = some ⟨oc4, od4, .func (PySem.W.fnOf "at_end" "Source.at_end" (defArgs s_Source_at_end) (defBody s_Source_at_end) (defScope s_Source_at_end) .none kV4 dc4 pm4 an4 cd4 ct4), sl4⟩)
    (c4 : PySem.W.codeIn K cd4 "Source.at_end" = true)
    (k4 : PySem.W.keepIn K (.ref f4) = true)
    (a5 : PySem.W.nsIn K mainGlobals "kind_read" = some (some (.ref f5)))
    (l5 : K.lookup f5 = some ⟨oc5, od5, .func (PySem.W.fnOf "kind_read" "kind_read" (defArgs s_kind_read) (defBody s_kind_read) (defScope s_kind_read) .none kV5 dc5 pm5 an5 cd5 ct5), sl5⟩)
    (c5 : PySem.W.codeIn K cd5 "kind_read" = true)
    (k5 : PySem.W.keepIn K (.ref f5) = true)
    (a6 : PySem.W.nsIn K mainGlobals "read_kind" = some (some (.ref f6)))
    (l6 : K.lookup f6 = some ⟨oc6, od6, .func (PySem.W.fnOf "read_kind" "read_kind" (defArgs s_read_kind) (defBody s_read_kind) (defScope s_read_kind) .none kV6 dc6 pm6 an6 cd6 ct6), sl6⟩)
    (c6 : PySem.W.codeIn K cd6 "read_kind" = true)
    (k6 : PySem.W.keepIn K (.ref f6) = true)
    (a7 : PySem.W.nsIn K mainGlobals "_law_cell_at" = some (some (.ref f7)))
    (l7 : K.lookup f7 = some ⟨oc7, od7, .func (PySem.W.fnOf "_law_cell_at" "_law_cell_at" (defArgs s_law_cell_at) (defBody s_law_cell_at) (defScope s_law_cell_at) .none kV7 dc7 pm7 an7 cd7 ct7), sl7⟩)
    (c7 : PySem.W.codeIn K cd7 "_law_cell_at" = true)
    (k7 : PySem.W.keepIn K (.ref f7) = true)
    (a8 : PySem.W.nsIn K mainGlobals "_law_bag" = some (some (.ref f8)))
    (l8 : K.lookup f8 = some ⟨oc8, od8, .func (PySem.W.fnOf "_law_bag" "_law_bag" (defArgs s_law_bag) (defBody s_law_bag) (defScope s_law_bag) .none kV8 dc8 pm8 an8 cd8 ct8), sl8⟩)
    (c8 : PySem.W.codeIn K cd8 "_law_bag" = true)
    (k8 : PySem.W.keepIn K (.ref f8) = true)
    (a9 : PySem.W.nsIn K mainGlobals "_law_draw" = some (some (.ref f9)))
    (l9 : K.lookup f9 = some ⟨oc9, od9, .func (PySem.W.fnOf "_law_draw" "_law_draw" (defArgs s_law_draw) (defBody s_law_draw) (defScope s_law_draw) .none kV9 dc9 pm9 an9 cd9 ct9), sl9⟩)
    (c9 : PySem.W.codeIn K cd9 "_law_draw" = true)
    (k9 : PySem.W.keepIn K (.ref f9) = true)
    (a10 : PySem.W.nsIn K mainGlobals "_law_kind" = some (some (.ref f10)))
    (l10 : K.lookup f10 = some ⟨oc10, od10, .func (PySem.W.fnOf "_law_kind" "_law_kind" (defArgs s_law_kind) (defBody s_law_kind) (defScope s_law_kind) .none kV10 dc10 pm10 an10 cd10 ct10), sl10⟩)
    (c10 : PySem.W.codeIn K cd10 "_law_kind" = true)
    (k10 : PySem.W.keepIn K (.ref f10) = true)
    (a11 : PySem.W.nsIn K mainGlobals "_law_shown_kind" = some (some (.ref f11)))
    (l11 : K.lookup f11 = some ⟨oc11, od11, .func (PySem.W.fnOf "_law_shown_kind" "_law_shown_kind" (defArgs s_law_shown_kind) (defBody s_law_shown_kind) (defScope s_law_shown_kind) .none kV11 dc11 pm11 an11 cd11 ct11), sl11⟩)
    (c11 : PySem.W.codeIn K cd11 "_law_shown_kind" = true)
    (k11 : PySem.W.keepIn K (.ref f11) = true)
    (a12 : PySem.W.nsIn K mainGlobals "_law_changed" = some (some (.ref f12)))
    (l12 : K.lookup f12 = some ⟨oc12, od12, .func (PySem.W.fnOf "_law_changed" "_law_changed" (defArgs s_law_changed) (defBody s_law_changed) (defScope s_law_changed) .none kV12 dc12 pm12 an12 cd12 ct12), sl12⟩)
    (c12 : PySem.W.codeIn K cd12 "_law_changed" = true)
    (k12 : PySem.W.keepIn K (.ref f12) = true)
    (a13 : PySem.W.nsIn K mainGlobals "_law_parts" = some (some (.ref f13)))
    (l13 : K.lookup f13 = some ⟨oc13, od13, .func (PySem.W.fnOf "_law_parts" "_law_parts" (defArgs s_law_parts) (defBody s_law_parts) (defScope s_law_parts) .none kV13 dc13 pm13 an13 cd13 ct13), sl13⟩)
    (c13 : PySem.W.codeIn K cd13 "_law_parts" = true)
    (k13 : PySem.W.keepIn K (.ref f13) = true)
    (a14 : PySem.W.nsIn K mainGlobals "_law_read_kind" = some (some (.ref f14)))
    (l14 : K.lookup f14 = some ⟨oc14, od14, .func (PySem.W.fnOf "_law_read_kind" "_law_read_kind" (defArgs s_law_read_kind) (defBody s_law_read_kind) (defScope s_law_read_kind) .none kV14 dc14 pm14 an14 cd14 ct14), sl14⟩)
    (c14 : PySem.W.codeIn K cd14 "_law_read_kind" = true)
    (k14 : PySem.W.keepIn K (.ref f14) = true)
    (a15 : PySem.W.nsIn K mainGlobals "_law_asked" = some (some (.ref f15)))
    (l15 : K.lookup f15 = some ⟨oc15, od15, .func (PySem.W.fnOf "_law_asked" "_law_asked" (defArgs s_law_asked) (defBody s_law_asked) (defScope s_law_asked) .none kV15 dc15 pm15 an15 cd15 ct15), sl15⟩)
    (c15 : PySem.W.codeIn K cd15 "_law_asked" = true)
    (k15 : PySem.W.keepIn K (.ref f15) = true)
    (a16 : PySem.W.nsIn K mainGlobals "_law_odd" = some (some (.ref f16)))
    (l16 : K.lookup f16 = some ⟨oc16, od16, .func (PySem.W.fnOf "_law_odd" "_law_odd" (defArgs s_law_odd) (defBody s_law_odd) (defScope s_law_odd) .none kV16 dc16 pm16 an16 cd16 ct16), sl16⟩)
    (c16 : PySem.W.codeIn K cd16 "_law_odd" = true)
    (k16 : PySem.W.keepIn K (.ref f16) = true)
    (a17 : PySem.W.nsIn K mainGlobals "_law_right" = some (some (.ref f17)))
    (l17 : K.lookup f17 = some ⟨oc17, od17, .func (PySem.W.fnOf "_law_right" "_law_right" (defArgs s_law_right) (defBody s_law_right) (defScope s_law_right) .none kV17 dc17 pm17 an17 cd17 ct17), sl17⟩)
    (c17 : PySem.W.codeIn K cd17 "_law_right" = true)
    (k17 : PySem.W.keepIn K (.ref f17) = true)
    (a18 : PySem.W.nsIn K mainGlobals "law" = some (some (.ref f18)))
    (l18 : K.lookup f18 = some ⟨oc18, od18, .func (PySem.W.fnOf "law" "law" (defArgs s_law) (defBody s_law) (defScope s_law) .none kV18 dc18 pm18 an18 cd18 ct18), sl18⟩)
    (c18 : PySem.W.codeIn K cd18 "law" = true)
    (k18 : PySem.W.keepIn K (.ref f18) = true)
    (gf_MOST_DEEP : PySem.W.nsIn K mainGlobals "MOST_DEEP" = some (some (.int 4 tk_MOST_DEEP)))
    (gf_LETTERS : PySem.W.nsIn K mainGlobals "LETTERS" = some (some (.str "abcdefghijklmnopqrstuvwxyz" tk_LETTERS)))
    (gf_PLAIN : PySem.W.nsIn K mainGlobals "PLAIN" = some (some (.ref ga_PLAIN)))
    (gl_PLAIN : K.lookup ga_PLAIN = some ⟨.type "tuple", go_PLAIN, .seq gi_PLAIN gn_PLAIN, gs_PLAIN⟩)
    (gz_PLAIN : gi_PLAIN.size ≤ sizeLine)
    (gv_PLAIN : Vals [.str "names", .str "most", .str "last"] gi_PLAIN.toList)
    (z_ValueError : PySem.W.nsIn K mainGlobals "ValueError" = some none)
    (z_int : PySem.W.nsIn K mainGlobals "int" = some none)
    (z_isinstance : PySem.W.nsIn K mainGlobals "isinstance" = some none)
    (z_len : PySem.W.nsIn K mainGlobals "len" = some none)
    (z_max : PySem.W.nsIn K mainGlobals "max" = some none)
    (z_min : PySem.W.nsIn K mainGlobals "min" = some none)
    (z_range : PySem.W.nsIn K mainGlobals "range" = some none)
    (z_str : PySem.W.nsIn K mainGlobals "str" = some none) :
    ∃ fd : FuncData, (∀ (s : Shared) (v : Value), BindsTo s fd ⟨[v], []⟩ [("script", v)]) ∧ ∀ base : Heap, K.In base → base.Ns mainGlobals mg → FnOk l.prog wd K mg base CX0 (26 + 1) fa fd ["script"] (spN K cLaw) := by
  have e := hfa.symm.trans (PySem.W.mg_of X G a18)
  have e2 : f18 = fa := by cases e; rfl
  subst e2
  have F0 := fun_mk (st := s_Sourceu_initu) l0 c0 k0
  have B0 := F0.binds (ps := ["self", "text"]) fun _ _ _ _ _ _ us hl => match us, hl with | [_, _], _ => rfl
  have F1 := fun_mk (st := s_Source_comes_next) l1 c1 k1
  have B1 := F1.binds (ps := ["self", "sign"]) fun _ _ _ _ _ _ us hl => match us, hl with | [_, _], _ => rfl
  have F2 := fun_mk (st := s_Source_goes_past) l2 c2 k2
  have B2 := F2.binds (ps := ["self", "sign"]) fun _ _ _ _ _ _ us hl => match us, hl with | [_, _], _ => rfl
  have F3 := fun_mk (st := s_Source_run_of) l3 c3 k3
  have B3 := F3.binds (ps := ["self", "signs"]) fun _ _ _ _ _ _ us hl => match us, hl with | [_, _], _ => rfl
  have F4 := fun_mk (st := s_Source_at_end) l4 c4 k4
  have B4 := F4.binds (ps := ["self"]) fun _ _ _ _ _ _ us hl => match us, hl with | [_], _ => rfl
  have F5 := fun_mk (st := s_kind_read) l5 c5 k5
  have B5 := F5.binds (ps := ["source", "most"]) fun _ _ _ _ _ _ us hl => match us, hl with | [_, _], _ => rfl
  have F6 := fun_mk (st := s_read_kind) l6 c6 k6
  have B6 := F6.binds (ps := ["text"]) fun _ _ _ _ _ _ us hl => match us, hl with | [_], _ => rfl
  have F7 := fun_mk (st := s_law_cell_at) l7 c7 k7
  have B7 := F7.binds (ps := ["script", "k"]) fun _ _ _ _ _ _ us hl => match us, hl with | [_, _], _ => rfl
  have F8 := fun_mk (st := s_law_bag) l8 c8 k8
  have B8 := F8.binds (ps := ["cell", "place"]) fun _ _ _ _ _ _ us hl => match us, hl with | [_, _], _ => rfl
  have F9 := fun_mk (st := s_law_draw) l9 c9 k9
  have B9 := F9.binds (ps := ["bag", "many"]) fun _ _ _ _ _ _ us hl => match us, hl with | [_, _], _ => rfl
  have F10 := fun_mk (st := s_law_kind) l10 c10 k10
  have B10 := F10.binds (ps := ["bag", "deep"]) fun _ _ _ _ _ _ us hl => match us, hl with | [_, _], _ => rfl
  have F11 := fun_mk (st := s_law_shown_kind) l11 c11 k11
  have B11 := F11.binds (ps := ["kind"]) fun _ _ _ _ _ _ us hl => match us, hl with | [_], _ => rfl
  have F12 := fun_mk (st := s_law_changed) l12 c12 k12
  have B12 := F12.binds (ps := ["bag", "text"]) fun _ _ _ _ _ _ us hl => match us, hl with | [_, _], _ => rfl
  have F13 := fun_mk (st := s_law_parts) l13 c13 k13
  have B13 := F13.binds (ps := ["text"]) fun _ _ _ _ _ _ us hl => match us, hl with | [_], _ => rfl
  have F14 := fun_mk (st := s_law_read_kind) l14 c14 k14
  have B14 := F14.binds (ps := ["text", "most"]) fun _ _ _ _ _ _ us hl => match us, hl with | [_, _], _ => rfl
  have F15 := fun_mk (st := s_law_asked) l15 c15 k15
  have B15 := F15.binds (ps := ["kind", "text"]) fun _ _ _ _ _ _ us hl => match us, hl with | [_, _], _ => rfl
  have F16 := fun_mk (st := s_law_odd) l16 c16 k16
  have B16 := F16.binds (ps := ["bag"]) fun _ _ _ _ _ _ us hl => match us, hl with | [_], _ => rfl
  have F17 := fun_mk (st := s_law_right) l17 c17 k17
  have B17 := F17.binds (ps := ["text"]) fun _ _ _ _ _ _ us hl => match us, hl with | [_], _ => rfl
  have F18 := fun_mk (st := s_law) l18 c18 k18
  have B18 := F18.binds (ps := ["script"]) fun _ _ _ _ _ _ us hl => match us, hl with | [_], _ => rfl
  have T : Txt wd K mg { f_Sourceu_initu := f0, d_Sourceu_initu := _, f_Source_comes_next := f1, d_Source_comes_next := _, f_Source_goes_past := f2, d_Source_goes_past := _, f_Source_run_of := f3, d_Source_run_of := _, f_Source_at_end := f4, d_Source_at_end := _, f_kind_read := f5, d_kind_read := _, f_read_kind := f6, d_read_kind := _, f_law_cell_at := f7, d_law_cell_at := _, f_law_bag := f8, d_law_bag := _, f_law_draw := f9, d_law_draw := _, f_law_kind := f10, d_law_kind := _, f_law_shown_kind := f11, d_law_shown_kind := _, f_law_changed := f12, d_law_changed := _, f_law_parts := f13, d_law_parts := _, f_law_read_kind := f14, d_law_read_kind := _, f_law_asked := f15, d_law_asked := _, f_law_odd := f16, d_law_odd := _, f_law_right := f17, d_law_right := _, f_law := f18, d_law := _, C_Source := C0, C_Busy := E_Busy, C_Fallen := E_Fallen, C_JoinError := E_JoinError, C_NoDeed := E_NoDeed, C_NoHand := E_NoHand, C_NoHands := E_NoHands, C_NoKind := E_NoKind, C_NoLetter := E_NoLetter, C_NoText := E_NoText, C_NoWorth := E_NoWorth, C_TooLong := E_TooLong, t_MOST_DEEP := tk_MOST_DEEP, t_LETTERS := tk_LETTERS, a_PLAIN := ga_PLAIN } :=
    { n_ValueError := PySem.W.mg_none_of X G z_ValueError,
      n_int := PySem.W.mg_none_of X G z_int,
      n_isinstance := PySem.W.mg_none_of X G z_isinstance,
      n_len := PySem.W.mg_none_of X G z_len,
      n_max := PySem.W.mg_none_of X G z_max,
      n_min := PySem.W.mg_none_of X G z_min,
      n_range := PySem.W.mg_none_of X G z_range,
      n_str := PySem.W.mg_none_of X G z_str,
      b_Sourceu_initu := B0,
      F_Sourceu_initu := F0,
      b_Source_comes_next := B1,
      F_Source_comes_next := F1,
      m_Source_comes_next := ⟨a1, i1, k1⟩,
      b_Source_goes_past := B2,
      F_Source_goes_past := F2,
      m_Source_goes_past := ⟨a2, i2, k2⟩,
      b_Source_run_of := B3,
      F_Source_run_of := F3,
      m_Source_run_of := ⟨a3, i3, k3⟩,
      b_Source_at_end := B4,
      F_Source_at_end := F4,
      m_Source_at_end := ⟨a4, i4, k4⟩,
      b_kind_read := B5,
      F_kind_read := F5,
      g_kind_read := PySem.W.mg_of X G a5,
      k_kind_read := k5,
      b_read_kind := B6,
      F_read_kind := F6,
      g_read_kind := PySem.W.mg_of X G a6,
      k_read_kind := k6,
      b_law_cell_at := B7,
      F_law_cell_at := F7,
      g_law_cell_at := PySem.W.mg_of X G a7,
      k_law_cell_at := k7,
      b_law_bag := B8,
      F_law_bag := F8,
      g_law_bag := PySem.W.mg_of X G a8,
      k_law_bag := k8,
      b_law_draw := B9,
      F_law_draw := F9,
      g_law_draw := PySem.W.mg_of X G a9,
      k_law_draw := k9,
      b_law_kind := B10,
      F_law_kind := F10,
      g_law_kind := PySem.W.mg_of X G a10,
      k_law_kind := k10,
      b_law_shown_kind := B11,
      F_law_shown_kind := F11,
      g_law_shown_kind := PySem.W.mg_of X G a11,
      k_law_shown_kind := k11,
      b_law_changed := B12,
      F_law_changed := F12,
      g_law_changed := PySem.W.mg_of X G a12,
      k_law_changed := k12,
      b_law_parts := B13,
      F_law_parts := F13,
      g_law_parts := PySem.W.mg_of X G a13,
      k_law_parts := k13,
      b_law_read_kind := B14,
      F_law_read_kind := F14,
      g_law_read_kind := PySem.W.mg_of X G a14,
      k_law_read_kind := k14,
      b_law_asked := B15,
      F_law_asked := F15,
      g_law_asked := PySem.W.mg_of X G a15,
      k_law_asked := k15,
      b_law_odd := B16,
      F_law_odd := F16,
      g_law_odd := PySem.W.mg_of X G a16,
      k_law_odd := k16,
      b_law_right := B17,
      F_law_right := F17,
      g_law_right := PySem.W.mg_of X G a17,
      k_law_right := k17,
      b_law := B18,
      F_law := F18,
      g_law := PySem.W.mg_of X G a18,
      k_law := k18,
      g_Source := PySem.W.mg_of X G ca0,
      cl_Source := ⟨pg0, hd0, po0, sa0⟩,
      mk_Source := ⟨mk0, a0, i0, kc0⟩,
      no_Source_signs := na0_0,
      no_Source_spot := na0_1,
      g_Busy := PySem.W.mg_of X G ea_Busy,
      g_Fallen := PySem.W.mg_of X G ea_Fallen,
      g_JoinError := PySem.W.mg_of X G ea_JoinError,
      g_NoDeed := PySem.W.mg_of X G ea_NoDeed,
      g_NoHand := PySem.W.mg_of X G ea_NoHand,
      g_NoHands := PySem.W.mg_of X G ea_NoHands,
      g_NoKind := PySem.W.mg_of X G ea_NoKind,
      g_NoLetter := PySem.W.mg_of X G ea_NoLetter,
      g_NoText := PySem.W.mg_of X G ea_NoText,
      g_NoWorth := PySem.W.mg_of X G ea_NoWorth,
      g_TooLong := PySem.W.mg_of X G ea_TooLong,
      x_NoText := ex_NoText,
      kp_NoText := ek_NoText,
      sb_NoText := es_NoText,
      ty_NoText := et_NoText,
      xc_NoText := ⟨ehg_NoText, ehk_NoText, es_NoText, ehd_NoText, eha_NoText, eh_n, eh_t, ehm_NoText⟩,
      ex_JoinError := em_JoinError,
      ko_NoText := eo_NoText,
      ko_ValueError := eo_ValueError,
      ka_many := ey_many,
      g_MOST_DEEP := PySem.W.mg_of X G gf_MOST_DEEP,
      g_LETTERS := PySem.W.mg_of X G gf_LETTERS,
      g_PLAIN := PySem.W.mg_of X G gf_PLAIN,
      d_PLAIN := fun D => .tup (.inr ⟨_, gi_PLAIN, gn_PLAIN, gl_PLAIN, rfl, rfl, gz_PLAIN, gv_PLAIN⟩) (.cons (.str _) (.cons (.str _) (.cons (.str _) .nil))) }
  exact ⟨_, fun s v => .of_eq rfl, fun base _ _ => ok_law T⟩
end G
open PySem PySem.W PyProof.Rows
set_option maxRecDepth 100000 in
set_option maxHeartbeats 0 in
theorem PySem.Challenge.cw_growjoin_k54_texts_of_no_kind_holds : PySem.Challenge.rw_growjoin_k54_texts_of_no_kind.Holds := by
  w_on; o_law; k_head; (case hw => w_witness2)
  k_fill
  refine DL.walk (l := PySem.Challenge.rw_growjoin_k54_texts_of_no_kind) (k := 26 + 1) ⟨rfl, by decide, by decide⟩ rfl rfl (fun w h Y => PySem.W.kIn_of Y) ?F
  case F =>
    intro w mg fa h KX GX hmg
    refine' G.all_mk KX GX hmg ?ca0 ?pg0 ?hd0 ?po0 ?sa0 ?mk0 ?kc0 ?na0_0 ?na0_1 ?ea_Busy ?ea_Fallen ?ea_JoinError ?ea_NoDeed ?ea_NoHand ?ea_NoHands ?ea_NoKind ?ea_NoLetter ?ea_NoText ?ea_NoWorth ?ea_TooLong ?eh_n ?eh_t ?ex_NoText ?ek_NoText ?es_NoText ?et_NoText ?ehg_NoText ?ehk_NoText ?ehd_NoText ?eha_NoText ?ehm_NoText ?em_JoinError ?eo_NoText ?eo_ValueError ?ey_many ?a0 ?i0 ?l0 ?c0 ?k0 ?a1 ?i1 ?l1 ?c1 ?k1 ?a2 ?i2 ?l2 ?c2 ?k2 ?a3 ?i3 ?l3 ?c3 ?k3 ?a4 ?i4 ?l4 ?c4 ?k4 ?a5 ?l5 ?c5 ?k5 ?a6 ?l6 ?c6 ?k6 ?a7 ?l7 ?c7 ?k7 ?a8 ?l8 ?c8 ?k8 ?a9 ?l9 ?c9 ?k9 ?a10 ?l10 ?c10 ?k10 ?a11 ?l11 ?c11 ?k11 ?a12 ?l12 ?c12 ?k12 ?a13 ?l13 ?c13 ?k13 ?a14 ?l14 ?c14 ?k14 ?a15 ?l15 ?c15 ?k15 ?a16 ?l16 ?c16 ?k16 ?a17 ?l17 ?c17 ?k17 ?a18 ?l18 ?c18 ?k18 ?gf_MOST_DEEP ?gf_LETTERS ?gf_PLAIN ?gl_PLAIN ?gz_PLAIN ?gv_PLAIN ?z_ValueError ?z_int ?z_isinstance ?z_len ?z_max ?z_min ?z_range ?z_str
    (case ca0 => k_is)
    (case pg0 => k_is)
    (case hd0 => k_is)
    (case po0 => k_is)
    (case sa0 => k_is)
    (case mk0 => k_is)
    (case kc0 => k_is)
    (case na0_0 => k_is)
    (case na0_1 => k_is)
    (case ea_Busy => k_is)
    (case ea_Fallen => k_is)
    (case ea_JoinError => k_is)
    (case ea_NoDeed => k_is)
    (case ea_NoHand => k_is)
    (case ea_NoHands => k_is)
    (case ea_NoKind => k_is)
    (case ea_NoLetter => k_is)
    (case ea_NoText => k_is)
    (case ea_NoWorth => k_is)
    (case ea_TooLong => k_is)
    (case eh_n => k_is)
    (case eh_t => k_is)
    (case ex_NoText => k_exc)
    (case ek_NoText => k_is)
    (case es_NoText => k_is)
    (case et_NoText => k_is)
    (case ehg_NoText => k_is)
    (case ehk_NoText => k_is)
    (case ehd_NoText => k_is)
    (case eha_NoText => k_is)
    (case ehm_NoText => k_is)
    (case em_JoinError => first | rfl | k_is)
    (case eo_NoText => first | rfl | k_is)
    (case eo_ValueError => first | rfl | k_is)
    (case ey_many => first | rfl | k_is)
    (case a0 => k_is)
    (case i0 => k_is)
    (case l0 => k_is)
    (case c0 => k_is)
    (case k0 => k_is)
    (case a1 => k_is)
    (case i1 => k_is)
    (case l1 => k_is)
    (case c1 => k_is)
    (case k1 => k_is)
    (case a2 => k_is)
    (case i2 => k_is)
    (case l2 => k_is)
    (case c2 => k_is)
    (case k2 => k_is)
    (case a3 => k_is)
    (case i3 => k_is)
    (case l3 => k_is)
    (case c3 => k_is)
    (case k3 => k_is)
    (case a4 => k_is)
    (case i4 => k_is)
    (case l4 => k_is)
    (case c4 => k_is)
    (case k4 => k_is)
    (case a5 => k_is)
    (case l5 => k_is)
    (case c5 => k_is)
    (case k5 => k_is)
    (case a6 => k_is)
    (case l6 => k_is)
    (case c6 => k_is)
    (case k6 => k_is)
    (case a7 => k_is)
    (case l7 => k_is)
    (case c7 => k_is)
    (case k7 => k_is)
    (case a8 => k_is)
    (case l8 => k_is)
    (case c8 => k_is)
    (case k8 => k_is)
    (case a9 => k_is)
    (case l9 => k_is)
    (case c9 => k_is)
    (case k9 => k_is)
    (case a10 => k_is)
    (case l10 => k_is)
    (case c10 => k_is)
    (case k10 => k_is)
    (case a11 => k_is)
    (case l11 => k_is)
    (case c11 => k_is)
    (case k11 => k_is)
    (case a12 => k_is)
    (case l12 => k_is)
    (case c12 => k_is)
    (case k12 => k_is)
    (case a13 => k_is)
    (case l13 => k_is)
    (case c13 => k_is)
    (case k13 => k_is)
    (case a14 => k_is)
    (case l14 => k_is)
    (case c14 => k_is)
    (case k14 => k_is)
    (case a15 => k_is)
    (case l15 => k_is)
    (case c15 => k_is)
    (case k15 => k_is)
    (case a16 => k_is)
    (case l16 => k_is)
    (case c16 => k_is)
    (case k16 => k_is)
    (case a17 => k_is)
    (case l17 => k_is)
    (case c17 => k_is)
    (case k17 => k_is)
    (case a18 => k_is)
    (case l18 => k_is)
    (case c18 => k_is)
    (case k18 => k_is)
    (case gf_MOST_DEEP => k_is)
    (case gf_LETTERS => k_is)
    (case gf_PLAIN => k_is)
    (case gl_PLAIN => k_is)
    (case gz_PLAIN => decide)
    (case gv_PLAIN => exact (.cons ⟨_, rfl⟩ (.cons ⟨_, rfl⟩ (.cons ⟨_, rfl⟩ .nil))))
    (case z_ValueError => k_is)
    (case z_int => k_is)
    (case z_isinstance => k_is)
    (case z_len => k_is)
    (case z_max => k_is)
    (case z_min => k_is)
    (case z_range => k_is)
    (case z_str => k_is)
#print axioms PySem.Challenge.cw_growjoin_k54_texts_of_no_kind_holds

