import PyProof.Rows.All
import Wide.All
import OpenK.AllK
import Wide.FinOn
import HandS.ForMost
import HandS.ForExc
import HandS.Walk
import HandS.Wide
import HandS.Flow
import HandS.IsInst
import HandS.Deep
import HandS.TupAny
import HandS.Style
import KE.KUnpackStar
import HandS.Zip
import HandS.More
import HandS.Defaults
import HandS.FStr
import HandS.StrMore
import HandS.WordsExc
import HandS.ExcOwn
import HandS.ExcIs
import HandS.Set
import HandS.TupSets
import HandS.SortOrd
import HandS.SortRule
import HandS.SortInts
import PyProof.Rows.SortStr
import HandS.SetFor
import HandS.CallLocal
import HandS.TryOnly
import KE.IntTextText
import HandS.TupMul
import PyProof.AutoListH
import HandS.DictTup
import KE.SortData
import KE.DataMinMax
import KE.KDictPairs
import KE.GoesEnum
import HandS.Conv
import PySem.Challenge.RW_growjoin_k03_joined
set_option Elab.async false
set_option linter.all false
set_option maxRecDepth 100000
set_option maxHeartbeats 4000000
/-! DL: a layer over HandS in which data that never change are plain trees (PyData); objects that change stand in a small store. -/
namespace DL
open PySem PySem.Spec PyProof.Rows L2

/-- what a slot, a list's place, a field holds: data, or the address of an object of the store -/
inductive Sl where
  | dat (d : PyData)
  | adr (a : Addr)
  | scr (ns : List Int)
  | wt (ds : List PyData)
/-- an object of the store -/
inductive OO where
  | lst (xs : List Sl)
  | dic (kvs : List (Key × Sl))
  | ins (C : Addr) (fs : List (Str × Sl))
abbrev Om := Addr → Option OO
abbrev DEnv := List (Option Sl)
def put (w : Om) (a : Addr) (o : OO) : Om := fun b => if b = a then some o else w b
def del (w : Om) (a : Addr) : Om := fun b => if b = a then none else w b
theorem put_same {w : Om} {a : Addr} {o : OO} : put w a o a = some o := by unfold put; rw [if_pos rfl]
theorem put_ne {w : Om} {a b : Addr} {o : OO} (h : b ≠ a) : put w a o b = w b := by unfold put; rw [if_neg h]
theorem put_put {w : Om} {a : Addr} {o u : OO} : put (put w a o) a u = put w a u := by funext b; unfold put; split <;> rfl
theorem del_same {w : Om} {a : Addr} : del w a a = none := by unfold del; rw [if_pos rfl]
theorem del_ne {w : Om} {a b : Addr} (h : b ≠ a) : del w a b = w b := by unfold del; rw [if_neg h]
theorem del_put {w : Om} {a : Addr} {o : OO} (h : w a = none) : del (put w a o) a = w := by
  funext b
  by_cases e : b = a
  · subst e; rw [del_same, h]
  · rw [del_ne e, put_ne e]
theorem put_get {w : Om} {a : Addr} {o : OO} (h : w a = some o) : put w a o = w := by
  funext b
  by_cases e : b = a
  · subst e; rw [put_same, h]
  · rw [put_ne e]
theorem put_comm {w : Om} {a b : Addr} {o u : OO} (h : a ≠ b) : put (put w a o) b u = put (put w b u) a o := by
  funext c
  by_cases e : c = b
  · subst e; rw [put_same, put_ne (Ne.symm h), put_same]
  · rw [put_ne e]
    by_cases e2 : c = a
    · subst e2; rw [put_same, put_same]
    · rw [put_ne e2, put_ne e2, put_ne e]
/-- a part of a store -/
def Sub (w u : Om) : Prop := ∀ a o, w a = some o → u a = some o
theorem Sub.refl (w : Om) : Sub w w := fun _ _ h => h
theorem Sub.trans {w u v : Om} (a : Sub w u) (b : Sub u v) : Sub w v := fun c o h => b c o (a c o h)
theorem Sub.new {w : Om} {a : Addr} {o : OO} (h : w a = none) : Sub w (put w a o) := fun b u e => by
  have : b ≠ a := fun z => by subst z; rw [h] at e; cases e
  rw [put_ne this]; exact e
theorem Sub.put {w u : Om} {a : Addr} {o : OO} (s : Sub w u) : Sub (put w a o) (put u a o) := fun b v e => by
  by_cases z : b = a
  · subst z; rw [put_same] at e ⊢; exact e
  · rw [put_ne z] at e ⊢; exact s b v e
theorem Sub.del (w : Om) (a : Addr) : Sub (del w a) w := fun b o e => by
  by_cases z : b = a
  · subst z; rw [del_same] at e; cases e
  · rw [del_ne z] at e; exact e

/-! ### data in a heap -/
/-- a tuple that has no dict of its own -/
def PlT (K : PySem.W.Frag) (D : Hp) (a : Addr) (xs : List V) : Prop :=
  (∃ o : Obj, o.dict = none ∧ D a = some (.frz o (.tup xs))) ∨ ∃ (o : Obj) (its : Array Value) (n : Nat), K.lookup a = some o ∧ o.cls = .type "tuple" ∧ o.dict = none ∧ o.data = .seq its n ∧ its.size ≤ sizeLine ∧ Vals xs its.toList
theorem PlT.sq {K : PySem.W.Frag} {D : Hp} {a : Addr} {xs : List V} (h : PlT K D a xs) : SqT K D a xs := by
  rcases h with ⟨o, _, h⟩ | ⟨o, its, n, h1, h2, _, h3⟩
  · exact .inl (.inr ⟨o, h⟩)
  · exact .inr ⟨o, its, n, h1, h2, h3⟩
theorem PlT.mono {K : PySem.W.Frag} {D D' : Hp} {a : Addr} {xs : List V} (e : Same D D') (h : PlT K D a xs) : PlT K D' a xs := by
  rcases h with ⟨o, h0, h⟩ | h
  · exact .inl ⟨o, h0, e _ _ h⟩
  · exact .inr h
theorem PlT.new {K : PySem.W.Frag} {D : Hp} {a : Addr} {xs : List V} {o : Obj} (h0 : o.dict = none) : PlT K (upd D a (.frz o (.tup xs))) a xs := .inl ⟨o, h0, upd_same⟩
abbrev tupObj (its : List Value) : Obj := { cls := .type "tuple", data := .seq its.toArray }
/-- a new tuple, known to its object -/
theorem inv_tup {X : Cx} {pins : List (Addr × Obj)} {σ : L2.St} {H : Hp} {s : Shared} {vs : List V} {its : List Value} (I : Inv X pins σ H s) (r : Vals vs its) (hz : vs.length ≤ sizeLine) :
    Inv X pins σ (upd H s.heap.objs.size (.frz (tupObj its) (.tup vs))) { s with heap := s.heap.push (tupObj its) } :=
  I.laid (t' := s.toks) (o := .frz (tupObj its) (.tup vs)) (fun b ob q => Heap.get?_push_of_some _ q) (Nat.le_refl _) ⟨Heap.get?_push_size _ rfl, hz, its, r, IsTup.new _ _⟩
mutual
inductive Dr (K : PySem.W.Frag) (D : Hp) : V → PyData → Prop
  | non : Dr K D .non .none
  | bl (b : Bool) : Dr K D (.bl b) (.bool b)
  | int (i : Int) : Dr K D (.int i) (.int i)
  | str (x : Str) : Dr K D (.str x) (.str x)
  | lst {a : Addr} {xs : List V} {ds : List PyData} : D a = some (.lst xs) → DrA K D xs ds → Dr K D (.ref a) (.list ds)
  | tup {a : Addr} {xs : List V} {ds : List PyData} : PlT K D a xs → DrA K D xs ds → Dr K D (.ref a) (.tuple ds)
  | dct {a : Addr} : D a = some (.dK []) → Dr K D (.ref a) (.dict [])
inductive DrA (K : PySem.W.Frag) (D : Hp) : List V → List PyData → Prop
  | nil : DrA K D [] []
  | cons {v : V} {vs : List V} {d : PyData} {ds : List PyData} : Dr K D v d → DrA K D vs ds → DrA K D (v :: vs) (d :: ds)
end
theorem sqT_mono {K : PySem.W.Frag} {D D' : Hp} {a : Addr} {xs : List V} (e : Same D D') (h : SqT K D a xs) : SqT K D' a xs := by
  rcases h with (h | ⟨o, h⟩) | h
  · exact .inl (.inl (e _ _ h))
  · exact .inl (.inr ⟨o, e _ _ h⟩)
  · exact .inr h
mutual
theorem Dr.mono {K : PySem.W.Frag} {D D' : Hp} (e : Same D D') : ∀ {v : V} {d : PyData}, Dr K D v d → Dr K D' v d
  | _, _, .non => .non
  | _, _, .bl b => .bl b
  | _, _, .int i => .int i
  | _, _, .str x => .str x
  | _, _, .lst h hs => .lst (e _ _ h) (DrA.mono e hs)
  | _, _, .tup h hs => .tup (h.mono e) (DrA.mono e hs)
  | _, _, .dct h => .dct (e _ _ h)
theorem DrA.mono {K : PySem.W.Frag} {D D' : Hp} (e : Same D D') : ∀ {vs : List V} {ds : List PyData}, DrA K D vs ds → DrA K D' vs ds
  | _, _, .nil => .nil
  | _, _, .cons h hs => .cons (Dr.mono e h) (DrA.mono e hs)
end
theorem DrA.length {K : PySem.W.Frag} {D : Hp} : ∀ {vs : List V} {ds : List PyData}, DrA K D vs ds → vs.length = ds.length
  | _, _, .nil => rfl
  | _, _, .cons _ hs => by rw [List.length_cons, List.length_cons, DrA.length hs]
theorem DrA.get {K : PySem.W.Frag} {D : Hp} : ∀ {vs : List V} {ds : List PyData} {i : Nat} {d : PyData}, DrA K D vs ds → ds[i]? = some d → ∃ v, vs[i]? = some v ∧ Dr K D v d
  | _, _, _, _, .nil, e => by simp at e
  | _, _, 0, _, .cons h _, e => by simp at e; subst e; exact ⟨_, rfl, h⟩
  | _, _, i + 1, d, .cons _ hs, e => by
    obtain ⟨v, h1, h2⟩ := DrA.get (i := i) (d := d) hs (by simpa using e)
    exact ⟨v, by simpa using h1, h2⟩
theorem DrA.append {K : PySem.W.Frag} {D : Hp} : ∀ {vs us : List V} {ds es : List PyData}, DrA K D vs ds → DrA K D us es → DrA K D (vs ++ us) (ds ++ es)
  | _, _, _, _, .nil, s => s
  | _, _, _, _, .cons r t, s => .cons r (DrA.append t s)
theorem DrA.take {K : PySem.W.Frag} {D : Hp} : ∀ {vs : List V} {ds : List PyData} (n : Nat), DrA K D vs ds → DrA K D (vs.take n) (ds.take n)
  | _, _, 0, _ => .nil
  | _, _, _ + 1, .nil => .nil
  | _, _, n + 1, .cons r t => .cons r (DrA.take n t)
theorem DrA.drop {K : PySem.W.Frag} {D : Hp} : ∀ {vs : List V} {ds : List PyData} (n : Nat), DrA K D vs ds → DrA K D (vs.drop n) (ds.drop n)
  | _, _, 0, r => r
  | _, _, _ + 1, .nil => .nil
  | _, _, n + 1, .cons _ t => DrA.drop n t
theorem DrA.snoc {K : PySem.W.Frag} {D : Hp} {v : V} {d : PyData} {vs : List V} {ds : List PyData} (h : DrA K D vs ds) (r : Dr K D v d) : DrA K D (vs ++ [v]) (ds ++ [d]) := h.append (.cons r .nil)
theorem DrA.reverse {K : PySem.W.Frag} {D : Hp} : ∀ {vs : List V} {ds : List PyData}, DrA K D vs ds → DrA K D vs.reverse ds.reverse
  | _, _, .nil => .nil
  | _, _, .cons r t => by rw [List.reverse_cons, List.reverse_cons]; exact (DrA.reverse t).snoc r

/-- a value and what a slot says of it -/
def Vr (K : PySem.W.Frag) (D : Hp) (v : V) : Sl → Prop
  | .dat d => Dr K D v d
  | .adr a => v = .ref a
  | .scr ns => ∃ a, v = .ref a ∧ SqL K D a (ns.map V.int)
  | .wt ds => ∃ a xs, v = .ref a ∧ SqT K D a xs ∧ DrA K D xs ds
theorem Vr.mono {K : PySem.W.Frag} {D D' : Hp} {v : V} {s : Sl} (e : Same D D') (h : Vr K D v s) : Vr K D' v s := by
  cases s with
  | dat d => exact Dr.mono e h
  | adr a => exact h
  | scr ns => obtain ⟨a, h1, h2⟩ := h; exact ⟨a, h1, Same.seq e h2⟩
  | wt ds => obtain ⟨a, xs, h1, h2, h3⟩ := h; exact ⟨a, xs, h1, sqT_mono e h2, h3.mono e⟩
abbrev SlA (K : PySem.W.Frag) (D : Hp) : List V → List Sl → Prop := Paired (Vr K D)
theorem SlA.mono {K : PySem.W.Frag} {D D' : Hp} {vs : List V} {ss : List Sl} (e : Same D D') (h : SlA K D vs ss) : SlA K D' vs ss := Paired.mapP h fun _ _ r => r.mono e
theorem SlA.get {K : PySem.W.Frag} {D : Hp} : ∀ {vs : List V} {ss : List Sl} {i : Nat} {s : Sl}, SlA K D vs ss → ss[i]? = some s → ∃ v, vs[i]? = some v ∧ Vr K D v s
  | _, _, _, _, .nil, e => by simp at e
  | _, _, 0, _, .cons h _, e => by simp at e; subst e; exact ⟨_, rfl, h⟩
  | _, _, i + 1, s, .cons _ hs, e => by
    obtain ⟨v, h1, h2⟩ := SlA.get (i := i) (s := s) hs (by simpa using e)
    exact ⟨v, by simpa using h1, h2⟩
theorem SlA.append {K : PySem.W.Frag} {D : Hp} : ∀ {vs us : List V} {ds es : List Sl}, SlA K D vs ds → SlA K D us es → SlA K D (vs ++ us) (ds ++ es)
  | _, _, _, _, .nil, s => s
  | _, _, _, _, .cons r t, s => .cons r (SlA.append t s)
theorem SlA.set {K : PySem.W.Frag} {D : Hp} {v : V} {s : Sl} (r : Vr K D v s) : ∀ {vs : List V} {ss : List Sl} (i : Nat), SlA K D vs ss → SlA K D (vs.set i v) (ss.set i s)
  | _, _, _, .nil => .nil
  | _, _, 0, .cons _ t => .cons r t
  | _, _, i + 1, .cons q t => .cons q (SlA.set r i t)
theorem SlA.take {K : PySem.W.Frag} {D : Hp} : ∀ {vs : List V} {ds : List Sl} (n : Nat), SlA K D vs ds → SlA K D (vs.take n) (ds.take n)
  | _, _, 0, _ => .nil
  | _, _, _ + 1, .nil => .nil
  | _, _, n + 1, .cons r t => .cons r (SlA.take n t)
theorem SlA.drop {K : PySem.W.Frag} {D : Hp} : ∀ {vs : List V} {ds : List Sl} (n : Nat), SlA K D vs ds → SlA K D (vs.drop n) (ds.drop n)
  | _, _, 0, r => r
  | _, _, _ + 1, .nil => .nil
  | _, _, n + 1, .cons _ t => SlA.drop n t
theorem SlA.snoc {K : PySem.W.Frag} {D : Hp} {v : V} {d : Sl} {vs : List V} {ds : List Sl} (h : SlA K D vs ds) (r : Vr K D v d) : SlA K D (vs ++ [v]) (ds ++ [d]) := SlA.append h (.cons r .nil)
theorem SlA.reverse {K : PySem.W.Frag} {D : Hp} : ∀ {vs : List V} {ds : List Sl}, SlA K D vs ds → SlA K D vs.reverse ds.reverse
  | _, _, .nil => .nil
  | _, _, .cons r t => by rw [List.reverse_cons, List.reverse_cons]; exact (SlA.reverse t).snoc r
theorem DrA.sl {K : PySem.W.Frag} {D : Hp} : ∀ {vs : List V} {ds : List PyData}, DrA K D vs ds → SlA K D vs (ds.map .dat)
  | _, _, .nil => .nil
  | _, _, .cons h hs => .cons h (DrA.sl hs)
theorem SlA.dat {K : PySem.W.Frag} {D : Hp} : ∀ {ds : List PyData} {vs : List V}, SlA K D vs (ds.map .dat) → DrA K D vs ds
  | [], _, .nil => .nil
  | _ :: _, _, .cons h hs => .cons h (SlA.dat hs)

/-- an object of the store as it stands in the heap -/
def OwnOk (K : PySem.W.Frag) (D H : Hp) (a : Addr) : OO → Prop
  | .lst xs => ∃ vs, H a = some (.lst vs) ∧ SlA K D vs xs
  | .dic kvs => ∃ ks, H a = some (.dK ks) ∧ Paired (fun (p : Key × V) (q : Key × Sl) => p.1 = q.1 ∧ Vr K D p.2 q.2) ks kvs
  | .ins C fs => ∃ dx gs, H a = some (.ins C dx gs) ∧ Paired (fun (p : Str × V) (q : Str × Sl) => p.1 = q.1 ∧ Vr K D p.2 q.2) gs fs
theorem OwnOk.mono {K : PySem.W.Frag} {D D' H H' : Hp} {a : Addr} {o : OO} (e : Same D D') (h : ∀ u, H a = some u → H' a = some u) (x : OwnOk K D H a o) : OwnOk K D' H' a o := by
  cases o with
  | lst xs => obtain ⟨vs, h1, h2⟩ := x; exact ⟨vs, h _ h1, SlA.mono e h2⟩
  | dic kvs => obtain ⟨ks, h1, h2⟩ := x; exact ⟨ks, h _ h1, Paired.mapP h2 fun _ _ r => ⟨r.1, r.2.mono e⟩⟩
  | ins C fs => obtain ⟨dx, gs, h1, h2⟩ := x; exact ⟨dx, gs, h _ h1, Paired.mapP h2 fun _ _ r => ⟨r.1, r.2.mono e⟩⟩
theorem OwnOk.there {K : PySem.W.Frag} {D H : Hp} {a : Addr} {o : OO} (x : OwnOk K D H a o) : H a ≠ none := by
  cases o with
  | lst xs => obtain ⟨vs, h1, h2⟩ := x; rw [h1]; intro z; cases z
  | dic kvs => obtain ⟨ks, h1, h2⟩ := x; rw [h1]; intro z; cases z
  | ins C fs => obtain ⟨dx, gs, h1, h2⟩ := x; rw [h1]; intro z; cases z

/-- the store and the data as they stand in the heap -/
structure StOk (K : PySem.W.Frag) (w : Om) (D H : Hp) : Prop where
  dh : Same D H
  own : ∀ a o, w a = some o → OwnOk K D H a o
  sep : ∀ a o, w a = some o → D a = none
/-- .. with the slots -/
structure Rp (K : PySem.W.Frag) (σ : L2.St) (ρ : DEnv) (w : Om) (D H : Hp) : Prop where
  st : StOk K w D H
  len : ρ.length = σ.length
  slot : ∀ (i : Nat) (s : Sl), ρ[i]? = some (some s) → ∃ v, σ[i]? = some (some v) ∧ Vr K D v s
/-- what a step leaves -/
structure Gr (w : Om) (D H : Hp) (w' : Om) (D' H' : Hp) : Prop where
  dd : Same D D'
  fr : ∀ a o, H a = some o → w a = none → H' a = some o
  nw : ∀ a, H a ≠ none → w a = none → w' a = none
  nd : ∀ a, H a ≠ none → w a = none → D a = none → D' a = none
  dm : ∀ a, H a ≠ none → H' a ≠ none
theorem Gr.refl (w : Om) (D H : Hp) : Gr w D H w D H := ⟨Same.refl D, fun _ _ h _ => h, fun _ _ h => h, fun _ _ _ h => h, fun _ h => h⟩
theorem Gr.trans {w w1 w2 : Om} {D D1 D2 H H1 H2 : Hp} (a : Gr w D H w1 D1 H1) (b : Gr w1 D1 H1 w2 D2 H2) : Gr w D H w2 D2 H2 where
  dd := a.dd.trans b.dd
  fr := fun x o h n => b.fr x o (a.fr x o h n) (a.nw x (by rw [h]; intro z; cases z) n)
  nw := fun x h n => b.nw x (a.dm x h) (a.nw x h n)
  nd := fun x h n d => b.nd x (a.dm x h) (a.nw x h n) (a.nd x h n d)
  dm := fun x h => b.dm x (a.dm x h)
theorem StOk.there {K : PySem.W.Frag} {w : Om} {D H : Hp} {a : Addr} {o : OO} (s : StOk K w D H) (h : w a = some o) : H a ≠ none := (s.own a o h).there
theorem StOk.freeW {K : PySem.W.Frag} {w : Om} {D H : Hp} {a : Addr} (s : StOk K w D H) (h : H a = none) : w a = none := by
  cases e : w a with
  | none => rfl
  | some o => exact absurd h (s.there e)
theorem StOk.freeD {K : PySem.W.Frag} {w : Om} {D H : Hp} {a : Addr} (s : StOk K w D H) (h : H a = none) : D a = none := by
  cases e : D a with
  | none => rfl
  | some o => rw [s.dh a o e] at h; cases h
theorem StOk.sub {K : PySem.W.Frag} {w u : Om} {D H : Hp} (s : StOk K w D H) (h : Sub u w) : StOk K u D H := ⟨s.dh, fun a o e => s.own a o (h a o e), fun a o e => s.sep a o (h a o e)⟩
theorem Rp.next {K : PySem.W.Frag} {σ : L2.St} {ρ : DEnv} {w w' : Om} {D D' H H' : Hp} (r : Rp K σ ρ w D H) (e : Same D D') (s : StOk K w' D' H') : Rp K σ ρ w' D' H' :=
  ⟨s, r.len, fun i s h => by obtain ⟨v, h1, h2⟩ := r.slot i s h; exact ⟨v, h1, h2.mono e⟩⟩
theorem Rp.set {K : PySem.W.Frag} {σ : L2.St} {ρ : DEnv} {w : Om} {D H : Hp} {v : V} {s : Sl} (r : Rp K σ ρ w D H) (i : Nat) (h : Vr K D v s) : Rp K (σ.set i (some v)) (ρ.set i (some s)) w D H := by
  refine ⟨r.st, by rw [List.length_set, List.length_set]; exact r.len, fun j t e => ?_⟩
  by_cases z : j = i
  · subst z
    by_cases hl : j < ρ.length
    · rw [List.getElem?_set_self hl] at e
      cases e
      exact ⟨v, List.getElem?_set_self (by rw [← r.len]; exact hl), h⟩
    · rw [List.getElem?_eq_none (by rw [List.length_set]; omega)] at e
      cases e
  · rw [List.getElem?_set_ne (Ne.symm z)] at e ⊢
    exact r.slot j t e
/-- a new piece of data -/
theorem StOk.newD {K : PySem.W.Frag} {w : Om} {D H : Hp} {p : Addr} {o : HO} (s : StOk K w D H) (hp : H p = none) : StOk K w (upd D p o) (upd H p o) where
  dh := fun a u e => by
    by_cases z : a = p
    · subst z; rw [upd_same] at e ⊢; exact e
    · rw [upd_ne z] at e ⊢; exact s.dh a u e
  own := fun a u e => (s.own a u e).mono (fun b v q => by rw [upd_ne (ne_of_none q (s.freeD hp))]; exact q) fun v q => by rw [upd_ne (ne_of_none q hp)]; exact q
  sep := fun a u e => by
    have : a ≠ p := fun z => s.there e (by rw [z]; exact hp)
    rw [upd_ne this]; exact s.sep a u e
theorem Gr.newD {K : PySem.W.Frag} {w : Om} {D H : Hp} {p : Addr} {o : HO} (s : StOk K w D H) (hp : H p = none) : Gr w D H w (upd D p o) (upd H p o) where
  dd := fun b v q => by rw [upd_ne (ne_of_none q (s.freeD hp))]; exact q
  fr := fun a u e _ => by rw [upd_ne (ne_of_none e hp)]; exact e
  nw := fun _ _ h => h
  nd := fun a h _ d => by
    have : a ≠ p := fun z => h (by rw [z]; exact hp)
    rw [upd_ne this]; exact d
  dm := fun a h => by
    have : a ≠ p := fun z => h (by rw [z]; exact hp)
    rw [upd_ne this]; exact h
/-- a new object of the store -/
theorem StOk.newW {K : PySem.W.Frag} {w : Om} {D H : Hp} {p : Addr} {o : HO} {u : OO} (s : StOk K w D H) (hp : H p = none) (ok : OwnOk K D (upd H p o) p u) : StOk K (put w p u) D (upd H p o) where
  dh := fun a u e => by rw [upd_ne (ne_of_none (s.dh a u e) hp)]; exact s.dh a u e
  own := fun a v e => by
    by_cases z : a = p
    · subst z; rw [put_same] at e; cases e; exact ok
    · rw [put_ne z] at e
      exact (s.own a v e).mono (Same.refl D) fun x q => by rw [upd_ne z]; exact q
  sep := fun a v e => by
    by_cases z : a = p
    · subst z; exact s.freeD hp
    · rw [put_ne z] at e; exact s.sep a v e
theorem Gr.newW {K : PySem.W.Frag} {w : Om} {D H : Hp} {p : Addr} {o : HO} {u : OO} (s : StOk K w D H) (hp : H p = none) : Gr w D H (put w p u) D (upd H p o) where
  dd := Same.refl D
  fr := fun a u e _ => by rw [upd_ne (ne_of_none e hp)]; exact e
  nw := fun a h n => by
    have : a ≠ p := fun z => h (by rw [z]; exact hp)
    rw [put_ne this]; exact n
  nd := fun _ _ _ d => d
  dm := fun a h => by
    have : a ≠ p := fun z => h (by rw [z]; exact hp)
    rw [upd_ne this]; exact h
/-- an object of the store is changed -/
theorem StOk.write {K : PySem.W.Frag} {w : Om} {D H : Hp} {p : Addr} {o : HO} {u u' : OO} (s : StOk K w D H) (hw : w p = some u) (ok : OwnOk K D (upd H p o) p u') : StOk K (put w p u') D (upd H p o) where
  dh := fun a v e => by
    have : a ≠ p := fun z => by subst z; rw [s.sep a u hw] at e; cases e
    rw [upd_ne this]; exact s.dh a v e
  own := fun a v e => by
    by_cases z : a = p
    · subst z; rw [put_same] at e; cases e; exact ok
    · rw [put_ne z] at e
      exact (s.own a v e).mono (Same.refl D) fun x q => by rw [upd_ne z]; exact q
  sep := fun a v e => by
    by_cases z : a = p
    · subst z; exact s.sep a u hw
    · rw [put_ne z] at e; exact s.sep a v e
theorem Gr.write {w : Om} {D H : Hp} {p : Addr} {o : HO} {u u' : OO} (hw : w p = some u) : Gr w D H (put w p u') D (upd H p o) where
  dd := Same.refl D
  fr := fun a v e n => by
    have : a ≠ p := fun z => by subst z; rw [hw] at n; cases n
    rw [upd_ne this]; exact e
  nw := fun a h n => by
    have : a ≠ p := fun z => by subst z; rw [hw] at n; cases n
    rw [put_ne this]; exact n
  nd := fun _ _ _ d => d
  dm := fun a h => by
    by_cases z : a = p
    · subst z; rw [upd_same]; intro q; cases q
    · rw [upd_ne z]; exact h
/-- a list of the store becomes data -/
theorem StOk.freeze {K : PySem.W.Frag} {w : Om} {D H : Hp} {p : Addr} {o : HO} {u : OO} (s : StOk K w D H) (hw : w p = some u) (hp : H p = some o) : StOk K (del w p) (upd D p o) H where
  dh := fun a v e => by
    by_cases z : a = p
    · subst z; rw [upd_same] at e; cases e; exact hp
    · rw [upd_ne z] at e; exact s.dh a v e
  own := fun a v e => by
    by_cases z : a = p
    · subst z; rw [del_same] at e; cases e
    · rw [del_ne z] at e
      refine (s.own a v e).mono (fun b x q => ?_) fun x q => q
      have : b ≠ p := fun z => by subst z; rw [s.sep b u hw] at q; cases q
      rw [upd_ne this]; exact q
  sep := fun a v e => by
    by_cases z : a = p
    · subst z; rw [del_same] at e; cases e
    · rw [del_ne z] at e; rw [upd_ne z]; exact s.sep a v e
theorem Gr.freeze {K : PySem.W.Frag} {w : Om} {D H : Hp} {p : Addr} {o : HO} {u : OO} (s : StOk K w D H) (hw : w p = some u) : Gr w D H (del w p) (upd D p o) H where
  dd := fun b x q => by
    have : b ≠ p := fun z => by subst z; rw [s.sep b u hw] at q; cases q
    rw [upd_ne this]; exact q
  fr := fun _ _ e _ => e
  nw := fun a _ n => by
    by_cases z : a = p
    · subst z; exact del_same
    · rw [del_ne z]; exact n
  nd := fun a _ n d => by
    have : a ≠ p := fun z => by subst z; rw [hw] at n; cases n
    rw [upd_ne this]; exact d
  dm := fun _ h => h
theorem Gr.sub {w w' u : Om} {D H D' H' : Hp} (g : Gr w D H w' D' H') (h : Sub u w') : Gr w D H u D' H' :=
  ⟨g.dd, g.fr, fun a x n => (by
    have := g.nw a x n
    cases e : u a with
    | none => rfl
    | some o => rw [h a o e] at this; cases this), g.nd, g.dm⟩
end DL

set_option Elab.async false
set_option linter.all false
set_option maxRecDepth 100000
set_option maxHeartbeats 4000000
namespace DL
open PySem PySem.Spec PyProof.Rows L2

abbrev DQ := Sl → Om → Prop
abbrev DTE := DEnv → Om → DQ → Prop
abbrev DTT := DEnv → Om → (Bool → Om → Prop) → Prop
abbrev DTA := DEnv → Om → (List Sl → Om → Prop) → Prop
abbrev DTO := DEnv → Om → (Option Int → Om → Prop) → Prop
/-- what is wanted of an exception: the slots, its class, its fields (none: no dict of its own), the store -/
abbrev DX := DEnv → Addr → Option (List (Str × Sl)) → Om → Prop
def XR (K : PySem.W.Frag) (D H : Hp) (d : Option Addr) : Option (List (Str × Sl)) → Prop
  | none => d = none
  | some fs => ∃ a gs, d = some a ∧ H a = some (.xd gs) ∧ Paired (fun (p : Str × V) (q : Str × Sl) => p.1 = q.1 ∧ Vr K D p.2 q.2) gs fs
def XOk (K : PySem.W.Frag) (W : WX) (Z : DX) (w : Om) (D H : Hp) : Prop :=
  ∀ σ' ρ' C x w' D' H' d, Z ρ' C x w' → Gr w D H w' D' H' → Rp K σ' ρ' w' D' H' → XR K D' H' d x → W (.ref C) d σ' H'
theorem XOk.next {K : PySem.W.Frag} {W : WX} {Z : DX} {w w1 : Om} {D D1 H H1 : Hp} (x : XOk K W Z w D H) (g : Gr w D H w1 D1 H1) : XOk K W Z w1 D1 H1 :=
  fun σ' ρ' C e w' D' H' d z g' r q => x σ' ρ' C e w' D' H' d z (g.trans g') r q
/-- the end of an expression -/
def Fin (K : PySem.W.Frag) (w : Om) (D H : Hp) (R : DQ) (Q : VK) : Prop := ∀ s w' z D' H', R s w' → Gr w D H w' D' H' → StOk K w' D' H' → Vr K D' z s → Q z H'
section
variable {K : PySem.W.Frag} {w w1 : Om} {D D1 H H1 : Hp} {R : DQ} {Q : VK}
theorem Fin.v {s : Sl} {z : V} (f : Fin K w D H R Q) (st : StOk K w D H) (h : R s w) (r : Vr K D z s) : Q z H := f s w z D H h (Gr.refl _ _ _) st r
theorem Fin.d {d : PyData} {z : V} (f : Fin K w D H R Q) (st : StOk K w D H) (h : R (.dat d) w) (r : Dr K D z d) : Q z H := f (.dat d) w z D H h (Gr.refl _ _ _) st r
theorem Fin.nl {xs : List Sl} {vs : List V} (f : Fin K w D H R Q) (st : StOk K w D H) (h : ∀ p, w p = none → R (.adr p) (put w p (.lst xs))) (r : SlA K D vs xs) : ∀ p, H p = none → Q (.ref p) (upd H p (.lst vs)) := fun p hp =>
  f (.adr p) (put w p (.lst xs)) (.ref p) D (upd H p (.lst vs)) (h p (st.freeW hp)) (Gr.newW st hp) (st.newW hp ⟨vs, upd_same, r⟩) rfl
theorem Fin.nt {ds : List PyData} {vs : List V} (f : Fin K w D H R Q) (st : StOk K w D H) (h : R (.dat (.tuple ds)) w) (r : DrA K D vs ds) : ∀ p o, H p = none → o.dict = none → Q (.ref p) (upd H p (.frz o (.tup vs))) := fun p o hp h0 =>
  f (.dat (.tuple ds)) w (.ref p) (upd D p (.frz o (.tup vs))) (upd H p (.frz o (.tup vs))) h (Gr.newD st hp) (st.newD hp) (.tup (PlT.new h0) (r.mono (Gr.newD (o := .frz o (.tup vs)) st hp).dd))
theorem Fin.next (f : Fin K w D H R Q) (g : Gr w D H w1 D1 H1) : Fin K w1 D1 H1 R Q := fun s w' z D' H' h g' st r => f s w' z D' H' h (g.trans g') st r
end

/-! ### the judgements, as readings over heaps -/
def up (K : PySem.W.Frag) (W : WX) (Z : DX) (t : DTE) : TE := fun σ H Q => ∃ ρ w D R, Rp K σ ρ w D H ∧ XOk K W Z w D H ∧ t ρ w R ∧ Fin K w D H R Q
def upT (K : PySem.W.Frag) (W : WX) (Z : DX) (t : DTT) : TT := fun σ H Q => ∃ ρ w D R, Rp K σ ρ w D H ∧ XOk K W Z w D H ∧ t ρ w R ∧ ∀ b w' D' H', R b w' → Gr w D H w' D' H' → StOk K w' D' H' → Q b H'
def upA (K : PySem.W.Frag) (W : WX) (Z : DX) (t : DTA) : TA := fun σ H Q => ∃ ρ w D R, Rp K σ ρ w D H ∧ XOk K W Z w D H ∧ t ρ w R ∧ ∀ ss w' vs D' H', R ss w' → Gr w D H w' D' H' → StOk K w' D' H' → SlA K D' vs ss → Q vs H'
def upO (K : PySem.W.Frag) (W : WX) (Z : DX) (t : DTO) : TO := fun σ H Q => ∃ ρ w D R, Rp K σ ρ w D H ∧ XOk K W Z w D H ∧ t ρ w R ∧ ∀ o w' D' H', R o w' → Gr w D H w' D' H' → StOk K w' D' H' → Q o H'
abbrev DE (X : Cx) (W : WX) (Z : DX) (e : Expr) (t : DTE) : Prop := PE X e (up X.K W Z t)
abbrev DT (X : Cx) (W : WX) (Z : DX) (e : Expr) (t : DTT) : Prop := PT X e (upT X.K W Z t)
abbrev DW (X : Cx) (W : WX) (Z : DX) (e : Expr) (t : DTT) : Prop := PW X e (upT X.K W Z t)
abbrev DA (X : Cx) (W : WX) (Z : DX) (es : List Expr) (t : DTA) : Prop := PA X es (upA X.K W Z t)
abbrev DO (X : Cx) (W : WX) (Z : DX) (e : Option Expr) (t : DTO) : Prop := PO X e (upO X.K W Z t)
theorem pe_weak {X : Cx} {e : Expr} {t t' : TE} (h : PE X e t) (i : ∀ σ H Q, t' σ H Q → t σ H Q) : PE X e t' := ⟨fun pins s σ H Q I q => h.run pins s σ H Q I (i σ H Q q)⟩
theorem pt_weak {X : Cx} {e : Expr} {t t' : TT} (h : PT X e t) (i : ∀ σ H Q, t' σ H Q → t σ H Q) : PT X e t' := ⟨fun pins s σ H Q I q => h.run pins s σ H Q I (i σ H Q q)⟩
theorem pw_weak {X : Cx} {e : Expr} {t t' : TT} (h : PW X e t) (i : ∀ σ H Q, t' σ H Q → t σ H Q) : PW X e t' := ⟨fun whole pins s σ H Q I q => h.run whole pins s σ H Q I (i σ H Q q)⟩
theorem pa_weak {X : Cx} {e : List Expr} {t t' : TA} (h : PA X e t) (i : ∀ σ H Q, t' σ H Q → t σ H Q) : PA X e t' := ⟨fun p pins s σ H Q I q => h.run p pins s σ H Q I (i σ H Q q)⟩
theorem po_weak {X : Cx} {e : Option Expr} {t t' : TO} (h : PO X e t) (i : ∀ σ H Q, t' σ H Q → t σ H Q) : PO X e t' := ⟨fun pins s σ H Q I q => h.run pins s σ H Q I (i σ H Q q)⟩

section
variable {X : Cx} {W : WX} {Z : DX}
/-! ### names, constants -/
def dVar (i : Nat) : DTE := fun ρ w R => ∃ s, ρ[i]? = some (some s) ∧ R s w
def dC (d : PyData) : DTE := fun _ w R => R (.dat d) w
def dS (s : Sl) : DTE := fun _ w R => R s w
theorem dv (i : Nat) {x : Str} {pos : Pos} (hN : X.N[i]? = some x := by rfl) (hv : Vis X.env.scope x := by first | exact Or.inl rfl | exact Or.inr (Or.inl rfl) | exact Or.inr (Or.inr rfl)) (hd : (x == ("__debug__" : Str)) = false := by decide)
    (hcd : (x == ("__classdict__" : Str)) = false := by decide) : DE X W Z (.Name x pos) (dVar i) :=
  pe_weak (pe_var (i := i) hN hv hd hcd) fun σ H Q ⟨ρ, w, D, R, rp, _, ⟨s, hs, h⟩, f⟩ => by
    obtain ⟨v, h1, h2⟩ := rp.slot i s hs
    exact ⟨v, h1, f.v rp.st h h2⟩
theorem de_c {e : Expr} {v : V} {d : PyData} (h : PE X e (tC v)) (r : ∀ D, Dr X.K D v d) : DE X W Z e (dC d) :=
  pe_weak h fun σ H Q ⟨ρ, w, D, R, rp, _, h, f⟩ => f.d rp.st h (r D)
theorem de_s {e : Expr} {v : V} {s : Sl} (h : PE X e (tC v)) (r : ∀ D, Vr X.K D v s) : DE X W Z e (dS s) :=
  pe_weak h fun σ H Q ⟨ρ, w, D, R, rp, _, h, f⟩ => f.v rp.st h (r D)
theorem de_int {i j pos} : DE X W Z (.Constant (.int i) j pos) (dC (.int i)) := de_c pe_int fun _ => .int i
theorem de_bl {b j pos} : DE X W Z (.Constant (.bool b) j pos) (dC (.bool b)) := de_c pe_bl fun _ => .bl b
theorem de_non {j pos} : DE X W Z (.Constant .none j pos) (dC .none) := de_c pe_non fun _ => .non
theorem de_str {x j pos} : DE X W Z (.Constant (.str x) j pos) (dC (.str x)) := de_c pe_str fun _ => .str x
/-- a name of the module: a constant, or what stands in the written part -/
theorem de_glob {x : Str} {v : V} {u : Value} {d : PyData} {pos : Pos} (hg : Gl X x) (hm : X.mg x = some u) (r : RelV v u) (rd : ∀ D, Dr X.K D v d) (hd : (x == ("__debug__" : Str)) = false := by decide) : DE X W Z (.Name x pos) (dC d) := de_c (pe_glob hg hm r hd) rd
theorem de_globA {x : Str} {a : Addr} {pos : Pos} (hg : Gl X x) (hm : X.mg x = some (.ref a)) (hd : (x == ("__debug__" : Str)) = false := by decide) : DE X W Z (.Name x pos) (dS (.adr a)) := de_s (pe_glob (v := .ref a) hg hm rfl hd) fun _ => rfl

/-! ### what comes of an operation: a value, or a new list -/
inductive Ou where
  | v (s : Sl)
  | nl (xs : List Sl)
def ret : Ou → Om → DQ → Prop
  | .v s, w, R => R s w
  | .nl xs, w, R => xs.length ≤ sizeLine ∧ ∀ p, w p = none → R (.adr p) (put w p (.lst xs))
abbrev G2 := Om → Sl → Sl → Option Ou
def dOp (g : G2) (ta tb : DTE) : DTE := fun ρ w R => ta ρ w fun x w1 => tb ρ w1 fun y w2 => ∃ o, g w2 x y = some o ∧ ret o w2 R
def OpV (K : PySem.W.Frag) (r : R2) (g : G2) : Prop := ∀ x y v u w D H o R Q, StOk K w D H → Vr K D v x → Vr K D u y → g w x y = some o → ret o w R → Fin K w D H R Q → r v u H Q
variable {a b c : Expr} {ta tb tc : DTE} {pos : Pos}
theorem up_op {r : R2} {g : G2} (hv : OpV X.K r g) (σ : L2.St) (H : Hp) (Q : VK) (h : up X.K W Z (dOp g ta tb) σ H Q) : tOp r (up X.K W Z ta) (up X.K W Z tb) σ H Q := by
  obtain ⟨ρ, w, D, R, rp, xo, h, f⟩ := h
  refine ⟨ρ, w, D, _, rp, xo, h, fun x w1 v D1 H1 h1 g1 s1 rx => ?_⟩
  refine ⟨ρ, w1, D1, _, rp.next g1.dd s1, xo.next g1, h1, fun y w2 u D2 H2 h2 g2 s2 ry => ?_⟩
  obtain ⟨o, e, ho⟩ := h2
  exact hv x y v u w2 D2 H2 o R Q s2 (rx.mono g2.dd) ry e ho (f.next (g1.trans g2))
theorem de_op {op : Operator} {r : R2} {g : G2} (ho : OpR X (binaryOp op) r) (hv : OpV X.K r g) (ha : DE X W Z a ta) (hb : DE X W Z b tb) : DE X W Z (.BinOp a op b pos) (dOp g ta tb) :=
  pe_weak (pe_op ho ha hb) fun σ H Q h => up_op hv σ H Q h
theorem de_cmp {op : CmpOp} {r : R2} {g : G2} (ho : OpR X (compareOp op) r) (hv : OpV X.K r g) (ha : DE X W Z a ta) (hb : DE X W Z b tb) (hm : behindInMarks op b = false) : DE X W Z (.Compare a [op] [b] pos) (dOp g ta tb) :=
  pe_weak (pe_cmpR ho ha hb hm) fun σ H Q h => up_op hv σ H Q h
/-- a test by a value that is True or False -/
def dTst (t : DTE) : DTT := fun ρ w R => t ρ w fun s w' => ∃ k, s = .dat (.bool k) ∧ R k w'
theorem dr_bool {K : PySem.W.Frag} {D : Hp} {z : V} {k : Bool} (h : Dr K D z (.bool k)) : z = .bl k := by cases h; rfl
theorem dr_int {K : PySem.W.Frag} {D : Hp} {z : V} {k : Int} (h : Dr K D z (.int k)) : z = .int k := by cases h; rfl
theorem dr_str {K : PySem.W.Frag} {D : Hp} {z : V} {k : Str} (h : Dr K D z (.str k)) : z = .str k := by cases h; rfl
theorem dr_none {K : PySem.W.Frag} {D : Hp} {z : V} (h : Dr K D z .none) : z = .non := by cases h; rfl
theorem fin_tst {K : PySem.W.Frag} {w : Om} {D H : Hp} {R Q : Bool → Om → Prop} {P : Bool → Hp → Prop} (f : ∀ b w' D' H', R b w' → Gr w D H w' D' H' → StOk K w' D' H' → P b H') :
    Fin K w D H (fun s w' => ∃ k, s = .dat (.bool k) ∧ R k w') (fun x H' => ∃ k, x = .bl k ∧ P k H') := fun s w' z D' H' h g st r => by
  obtain ⟨k, rfl, h⟩ := h
  exact ⟨k, dr_bool r, f k w' D' H' h g st⟩
theorem dt_cmp {op : CmpOp} {r : R2} {g : G2} (ho : OpR X (compareOp op) r) (hv : OpV X.K r g) (ha : DE X W Z a ta) (hb : DE X W Z b tb) (hm : behindInMarks op b = false) : DT X W Z (.Compare a [op] [b] pos) (dTst (dOp g ta tb)) :=
  pt_weak (pt_cmpR ho ha hb hm) fun σ H Q ⟨ρ, w, D, R, rp, xo, h, f⟩ => up_op hv σ H _ ⟨ρ, w, D, _, rp, xo, h, fin_tst (Q := fun _ _ => True) f⟩
theorem dt_val {e : Expr} {t : DTE} (h : DE X W Z e t) (he : ∀ whole, isTrue e X.env whole = (do let v ← whole; standAt e.pos; holding [v] (truthy v)) := by intro _; rfl) : DT X W Z e (dTst t) :=
  pt_weak (pt_val h he) fun σ H Q ⟨ρ, w, D, R, rp, xo, h, f⟩ => ⟨ρ, w, D, _, rp, xo, h, fin_tst (Q := fun _ _ => True) f⟩
/-! ### and, or, not -/
def dAnd (t u : DTT) : DTT := fun ρ w R => t ρ w fun k w1 => if k = true then u ρ w1 R else R false w1
def dOr (t u : DTT) : DTT := fun ρ w R => t ρ w fun k w1 => if k = true then R true w1 else u ρ w1 R
def dNot (t : DTT) : DTT := fun ρ w R => t ρ w fun k w1 => R (!k) w1
variable {t u : DTT} {rest : List Expr}
theorem up_and (σ : L2.St) (H : Hp) (Q : Bool → Hp → Prop) (h : upT X.K W Z (dAnd t u) σ H Q) : tAnd (upT X.K W Z t) (upT X.K W Z u) σ H Q := by
  obtain ⟨ρ, w, D, R, rp, xo, h, f⟩ := h
  refine ⟨ρ, w, D, _, rp, xo, h, fun k w1 D1 H1 h1 g1 s1 => ?_⟩
  cases k with
  | true =>
    rw [if_pos rfl] at h1 ⊢
    exact ⟨ρ, w1, D1, R, rp.next g1.dd s1, xo.next g1, h1, fun b w' D' H' q g s => f b w' D' H' q (g1.trans g) s⟩
  | false =>
    rw [if_neg Bool.false_ne_true] at h1 ⊢
    exact f false w1 D1 H1 h1 g1 s1
theorem up_or (σ : L2.St) (H : Hp) (Q : Bool → Hp → Prop) (h : upT X.K W Z (dOr t u) σ H Q) : tOr (upT X.K W Z t) (upT X.K W Z u) σ H Q := by
  obtain ⟨ρ, w, D, R, rp, xo, h, f⟩ := h
  refine ⟨ρ, w, D, _, rp, xo, h, fun k w1 D1 H1 h1 g1 s1 => ?_⟩
  cases k with
  | true =>
    rw [if_pos rfl] at h1 ⊢
    exact f true w1 D1 H1 h1 g1 s1
  | false =>
    rw [if_neg Bool.false_ne_true] at h1 ⊢
    exact ⟨ρ, w1, D1, R, rp.next g1.dd s1, xo.next g1, h1, fun b w' D' H' q g s => f b w' D' H' q (g1.trans g) s⟩
theorem dw_and1 (ha : DT X W Z a t) : DW X W Z (.BoolOp .And [a] pos) t := pw_and1 ha
theorem dw_or1 (ha : DT X W Z a t) : DW X W Z (.BoolOp .Or [a] pos) t := pw_or1 ha
theorem dw_and (ha : DT X W Z a t) (hb : DW X W Z (.BoolOp .And (b :: rest) pos) u) : DW X W Z (.BoolOp .And (a :: b :: rest) pos) (dAnd t u) := pw_weak (pw_and ha hb) up_and
theorem dw_or (ha : DT X W Z a t) (hb : DW X W Z (.BoolOp .Or (b :: rest) pos) u) : DW X W Z (.BoolOp .Or (a :: b :: rest) pos) (dOr t u) := pw_weak (pw_or ha hb) up_or
theorem dt_w {e : Expr} (h : DW X W Z e t) : DT X W Z e t := PW.pt h
theorem dt_not (ha : DT X W Z a t) : DT X W Z (.UnaryOp .Not a pos) (dNot t) :=
  pt_weak (pt_not ha) fun σ H Q ⟨ρ, w, D, R, rp, xo, h, f⟩ => ⟨ρ, w, D, _, rp, xo, h, fun k w1 D1 H1 h1 g1 s1 => f _ w1 D1 H1 h1 g1 s1⟩
/-- the same as values (all but the last True or False) -/
def dAndV (ta tb : DTE) : DTE := fun ρ w R => ta ρ w fun s w1 => ∃ k, s = .dat (.bool k) ∧ if k = true then tb ρ w1 R else R (.dat (.bool false)) w1
def dOrV (ta tb : DTE) : DTE := fun ρ w R => ta ρ w fun s w1 => ∃ k, s = .dat (.bool k) ∧ if k = true then R (.dat (.bool true)) w1 else tb ρ w1 R
def dNotV (ta : DTE) : DTE := fun ρ w R => ta ρ w fun s w1 => ∃ k, s = .dat (.bool k) ∧ R (.dat (.bool !k)) w1
theorem de_one {op} (h : DE X W Z a ta) : DE X W Z (.BoolOp op [a] pos) ta := pe_one h
theorem de_and (ha : DE X W Z a ta) (hb : DE X W Z (.BoolOp .And (b :: rest) pos) tb) : DE X W Z (.BoolOp .And (a :: b :: rest) pos) (dAndV ta tb) :=
  pe_weak (pe_and ha hb) fun σ H Q ⟨ρ, w, D, R, rp, xo, h, f⟩ => ⟨ρ, w, D, _, rp, xo, h, fun s w1 z D1 H1 h1 g1 s1 r1 => by
    obtain ⟨k, rfl, h1⟩ := h1
    refine ⟨k, dr_bool r1, ?_⟩
    cases k with
    | true => rw [if_pos rfl] at h1 ⊢; exact ⟨ρ, w1, D1, R, rp.next g1.dd s1, xo.next g1, h1, f.next g1⟩
    | false => rw [if_neg Bool.false_ne_true] at h1 ⊢; exact (f.next g1).d s1 h1 (.bl false)⟩
theorem de_or (ha : DE X W Z a ta) (hb : DE X W Z (.BoolOp .Or (b :: rest) pos) tb) : DE X W Z (.BoolOp .Or (a :: b :: rest) pos) (dOrV ta tb) :=
  pe_weak (pe_or ha hb) fun σ H Q ⟨ρ, w, D, R, rp, xo, h, f⟩ => ⟨ρ, w, D, _, rp, xo, h, fun s w1 z D1 H1 h1 g1 s1 r1 => by
    obtain ⟨k, rfl, h1⟩ := h1
    refine ⟨k, dr_bool r1, ?_⟩
    cases k with
    | true => rw [if_pos rfl] at h1 ⊢; exact (f.next g1).d s1 h1 (.bl true)
    | false => rw [if_neg Bool.false_ne_true] at h1 ⊢; exact ⟨ρ, w1, D1, R, rp.next g1.dd s1, xo.next g1, h1, f.next g1⟩⟩
theorem de_not (ha : DE X W Z a ta) : DE X W Z (.UnaryOp .Not a pos) (dNotV ta) :=
  pe_weak (pe_not ha) fun σ H Q ⟨ρ, w, D, R, rp, xo, h, f⟩ => ⟨ρ, w, D, _, rp, xo, h, fun s w1 z D1 H1 h1 g1 s1 r1 => by
    obtain ⟨k, rfl, h1⟩ := h1
    exact ⟨k, dr_bool r1, (f.next g1).d s1 h1 (.bl _)⟩⟩
def dIf (t : DTT) (ta tb : DTE) : DTE := fun ρ w R => t ρ w fun k w1 => if k = true then ta ρ w1 R else tb ρ w1 R
theorem de_if (hc : DT X W Z c t) (ha : DE X W Z a ta) (hb : DE X W Z b tb) : DE X W Z (.IfExp c a b pos) (dIf t ta tb) :=
  pe_weak (pe_ifExp hc ha hb) fun σ H Q ⟨ρ, w, D, R, rp, xo, h, f⟩ => ⟨ρ, w, D, _, rp, xo, h, fun k w1 D1 H1 h1 g1 s1 => by
    cases k with
    | true => rw [if_pos rfl] at h1 ⊢; exact ⟨ρ, w1, D1, R, rp.next g1.dd s1, xo.next g1, h1, f.next g1⟩
    | false => rw [if_neg Bool.false_ne_true] at h1 ⊢; exact ⟨ρ, w1, D1, R, rp.next g1.dd s1, xo.next g1, h1, f.next g1⟩⟩
/-! ### arguments, displays -/
def dNil : DTA := fun _ w R => R [] w
def dCons (ta : DTE) (tr : DTA) : DTA := fun ρ w R => ta ρ w fun x w1 => tr ρ w1 fun xs w2 => R (x :: xs) w2
variable {es : List Expr} {tr : DTA}
theorem da_nil : DA X W Z [] dNil := pa_weak pa_nil fun σ H Q ⟨ρ, w, D, R, rp, xo, h, f⟩ => f [] w [] D H h (Gr.refl _ _ _) rp.st .nil
theorem da_cons (ha : DE X W Z a ta) (hr : DA X W Z es tr) (hs : starEach (a :: es) X.env = (false, eval a X.env) :: starEach es X.env := by rfl) : DA X W Z (a :: es) (dCons ta tr) :=
  pa_weak (pa_cons ha hr hs) fun σ H Q ⟨ρ, w, D, R, rp, xo, h, f⟩ => ⟨ρ, w, D, _, rp, xo, h, fun x w1 v D1 H1 h1 g1 s1 rx =>
    ⟨ρ, w1, D1, _, rp.next g1.dd s1, xo.next g1, h1, fun xs w2 vs D2 H2 h2 g2 s2 rs => f _ w2 _ D2 H2 h2 (g1.trans g2) s2 (.cons (rx.mono g2.dd) rs)⟩⟩
/-- a list of the store that is data through and through becomes data -/
def frz : Sl → Om → (PyData → Om → Prop) → Prop
  | .dat d, w, k => k d w
  | .adr a, w, k => ∃ ds : List PyData, w a = some (.lst (ds.map .dat)) ∧ k (.list ds) (del w a)
  | .scr _, _, _ => False
  | .wt _, _, _ => False
theorem frz_ok {K : PySem.W.Frag} {w : Om} {D H : Hp} {s : Sl} {z : V} {k : PyData → Om → Prop} (st : StOk K w D H) (r : Vr K D z s) (h : frz s w k) : ∃ d w' D', k d w' ∧ Gr w D H w' D' H ∧ StOk K w' D' H ∧ Dr K D' z d := by
  cases s with
  | dat d => exact ⟨d, w, D, h, Gr.refl _ _ _, st, r⟩
  | scr ns => exact h.elim
  | wt ns => exact h.elim
  | adr a =>
    obtain ⟨ds, hw, hk⟩ := h
    obtain ⟨vs, hH, hv⟩ := st.own a _ hw
    have r' : z = .ref a := r
    subst r'
    exact ⟨.list ds, del w a, upd D a (.lst vs), hk, Gr.freeze st hw, st.freeze hw hH, .lst upd_same ((SlA.dat hv).mono (Gr.freeze (o := .lst vs) (H := H) st hw).dd)⟩
/-- arguments that become data, from the left -/
def dDats (ta : DTE) (tr : DEnv → Om → (List PyData → Om → Prop) → Prop) : DEnv → Om → (List PyData → Om → Prop) → Prop := fun ρ w R => ta ρ w fun x w1 => frz x w1 fun d w1' => tr ρ w1' fun ds w2 => R (d :: ds) w2
def dNilD : DEnv → Om → (List PyData → Om → Prop) → Prop := fun _ w R => R [] w
def upD (K : PySem.W.Frag) (W : WX) (Z : DX) (t : DEnv → Om → (List PyData → Om → Prop) → Prop) : TA := fun σ H Q => ∃ ρ w D R, Rp K σ ρ w D H ∧ XOk K W Z w D H ∧ t ρ w R ∧ ∀ ds w' vs D' H', R ds w' → Gr w D H w' D' H' → StOk K w' D' H' → DrA K D' vs ds → Q vs H'
abbrev DD (X : Cx) (W : WX) (Z : DX) (es : List Expr) (t : DEnv → Om → (List PyData → Om → Prop) → Prop) : Prop := PA X es (upD X.K W Z t)
variable {td : DEnv → Om → (List PyData → Om → Prop) → Prop}
theorem dd_nil : DD X W Z [] dNilD := pa_weak pa_nil fun σ H Q ⟨ρ, w, D, R, rp, xo, h, f⟩ => f [] w [] D H h (Gr.refl _ _ _) rp.st .nil
theorem dd_cons (ha : DE X W Z a ta) (hr : DD X W Z es td) (hs : starEach (a :: es) X.env = (false, eval a X.env) :: starEach es X.env := by rfl) : DD X W Z (a :: es) (dDats ta td) :=
  pa_weak (pa_cons ha hr hs) fun σ H Q ⟨ρ, w, D, R, rp, xo, h, f⟩ => ⟨ρ, w, D, _, rp, xo, h, fun x w1 v D1 H1 h1 g1 s1 rx => by
    obtain ⟨d, w1', D1', hk, g1', s1', rd⟩ := frz_ok s1 rx h1
    have g := g1.trans g1'
    exact ⟨ρ, w1', D1', _, rp.next g.dd s1', xo.next g, hk, fun ds w2 vs D2 H2 h2 g2 s2 rs => f _ w2 _ D2 H2 h2 (g.trans g2) s2 (.cons (rd.mono g2.dd) rs)⟩⟩
def dTup (t : DEnv → Om → (List PyData → Om → Prop) → Prop) : DTE := fun ρ w R => t ρ w fun ds w1 => ds.length ≤ sizeLine ∧ R (.dat (.tuple ds)) w1
def tTupF (t : TA) : TE := fun σ H Q => t σ H fun xs H1 => xs.length ≤ sizeLine ∧ ∀ p o, H1 p = none → o.dict = none → Q (.ref p) (upd H1 p (.frz o (.tup xs)))
theorem pe_tupF {x1} {t : TA} (h : PA X es t) : PE X (.Tuple es x1 pos) (tTupF t) :=
  ⟨fun pins s σ H Q I hq => wpAny_Tuple_spliced (thn (h.run pos pins s σ H _ I hq) fun us s1 ⟨xs, H1, I1, r, z, q⟩ => ⟨by rw [← r.length]; exact z, .ref s1.heap.objs.size, _, inv_tup I1 r z, rfl, q _ _ (I1.hok.fresh (Nat.le_refl _)) rfl⟩)⟩
theorem de_tup {x1} (h : DD X W Z es td) : DE X W Z (.Tuple es x1 pos) (dTup td) :=
  pe_weak (pe_tupF h) fun σ H Q ⟨ρ, w, D, R, rp, xo, h, f⟩ => ⟨ρ, w, D, _, rp, xo, h, fun ds w1 vs D1 H1 h1 g1 s1 rs => ⟨by rw [rs.length]; exact h1.1, (f.next g1).nt s1 h1.2 rs⟩⟩
def dLst (t : DTA) : DTE := fun ρ w R => t ρ w fun xs w1 => xs.length ≤ sizeLine ∧ ∀ p, w1 p = none → R (.adr p) (put w1 p (.lst xs))
theorem de_lst (h : DA X W Z es tr) : DE X W Z (.List es pos) (dLst tr) :=
  pe_weak (pe_lst h) fun σ H Q ⟨ρ, w, D, R, rp, xo, h, f⟩ => ⟨ρ, w, D, _, rp, xo, h, fun xs w1 vs D1 H1 h1 g1 s1 rs => ⟨by rw [Paired.length rs]; exact h1.1, (f.next g1).nl s1 h1.2 rs⟩⟩
end
end DL

set_option Elab.async false
set_option linter.all false
set_option maxRecDepth 100000
set_option maxHeartbeats 4000000
namespace DL
open PySem PySem.Spec PyProof.Rows L2
section
variable {X : Cx} {W : WX} {Z : DX} {K : PySem.W.Frag}
variable {a b c : Expr} {ta tb tc : DTE} {pos : Pos} {es : List Expr} {tr : DTA} {td : DEnv → Om → (List PyData → Om → Prop) → Prop}
/-- a list display whose items become data -/
def dLstD (t : DEnv → Om → (List PyData → Om → Prop) → Prop) : DTE := fun ρ w R => t ρ w fun ds w1 => ds.length ≤ sizeLine ∧ ∀ p, w1 p = none → R (.adr p) (put w1 p (.lst (ds.map .dat)))
theorem de_lstD (h : DD X W Z es td) : DE X W Z (.List es pos) (dLstD td) :=
  pe_weak (pe_lst h) fun σ H Q ⟨ρ, w, D, R, rp, xo, h, f⟩ => ⟨ρ, w, D, _, rp, xo, h, fun ds w1 vs D1 H1 h1 g1 s1 rs => ⟨by rw [rs.length]; exact h1.1, (f.next g1).nl s1 h1.2 rs.sl⟩⟩
/-! ### sequences -/
def sq (w : Om) : Sl → Option (List Sl)
  | .dat (.list ds) => some (ds.map .dat)
  | .dat (.tuple ds) => some (ds.map .dat)
  | .scr ns => some (ns.map fun i => .dat (.int i))
  | .wt ds => some (ds.map .dat)
  | .adr a => match w a with | some (.lst xs) => some xs | _ => none
  | _ => none
/-- .. a list -/
def sqL (w : Om) : Sl → Option (List Sl)
  | .dat (.list ds) => some (ds.map .dat)
  | .adr a => match w a with | some (.lst xs) => some xs | _ => none
  | _ => none
theorem sqL_adr {w : Om} {a : Addr} {xs : List Sl} (h : w a = some (.lst xs)) : sqL w (.adr a) = some xs := by
  show (match w a with | some (.lst xs) => some xs | _ => none) = some xs
  rw [h]
theorem sq_adr {w : Om} {a : Addr} {xs : List Sl} (h : w a = some (.lst xs)) : sq w (.adr a) = some xs := by
  show (match w a with | some (.lst xs) => some xs | _ => none) = some xs
  rw [h]
theorem adr_inv {w : Om} {a : Addr} {xs : List Sl} (h : (match w a with | some (.lst xs) => some xs | _ => none) = some xs) : w a = some (.lst xs) := by
  cases e : w a with
  | none => rw [e] at h; cases h
  | some o =>
    rw [e] at h
    cases o with
    | lst ys => cases h; rfl
    | dic _ => cases h
    | ins _ _ => cases h
theorem ints_sl {D : Hp} : ∀ (ns : List Int), SlA K D (ns.map V.int) (ns.map fun i => .dat (.int i))
  | [] => .nil
  | n :: r => .cons (Dr.int n) (ints_sl r)
theorem sqL_ok {w : Om} {D H : Hp} {s : Sl} {z : V} {xs : List Sl} (st : StOk K w D H) (r : Vr K D z s) (h : sqL w s = some xs) : ∃ p vs, z = .ref p ∧ H p = some (.lst vs) ∧ SlA K D vs xs := by
  cases s with
  | scr ns => cases h
  | wt ns => cases h
  | adr p =>
    have hw := adr_inv h
    obtain ⟨vs, hH, hv⟩ := st.own p _ hw
    exact ⟨p, vs, r, hH, hv⟩
  | dat d =>
    cases d with
    | list ds =>
      cases h
      cases r with
      | lst hD hs => exact ⟨_, _, rfl, st.dh _ _ hD, hs.sl⟩
    | none => cases h
    | bool _ => cases h
    | int _ => cases h
    | str _ => cases h
    | tuple _ => cases h
    | dict _ => cases h
theorem sq_ok {w : Om} {D H : Hp} {s : Sl} {z : V} {xs : List Sl} (st : StOk K w D H) (r : Vr K D z s) (h : sq w s = some xs) : ∃ p vs, z = .ref p ∧ (SqL K H p vs ∨ SqT K H p vs) ∧ SlA K D vs xs := by
  cases s with
  | scr ns =>
    cases h
    obtain ⟨p, rfl, q⟩ := r
    exact ⟨p, _, rfl, .inl (Same.seq st.dh q), ints_sl ns⟩
  | wt ds =>
    cases h
    obtain ⟨p, vs, rfl, q, hv⟩ := r
    exact ⟨p, vs, rfl, .inr (sqT_mono st.dh q), hv.sl⟩
  | adr p =>
    have hw := adr_inv h
    obtain ⟨vs, hH, hv⟩ := st.own p _ hw
    exact ⟨p, vs, r, .inl (SqL.of hH), hv⟩
  | dat d =>
    cases d with
    | list ds =>
      cases h
      cases r with
      | lst hD hs => exact ⟨_, _, rfl, .inl (SqL.of (st.dh _ _ hD)), hs.sl⟩
    | tuple ds =>
      cases h
      cases r with
      | tup hD hs => exact ⟨_, _, rfl, .inr (sqT_mono st.dh hD.sq), hs.sl⟩
    | none => cases h
    | bool _ => cases h
    | int _ => cases h
    | str _ => cases h
    | dict _ => cases h
theorem tup_ok {w : Om} {D H : Hp} {z : V} {ds : List PyData} (st : StOk K w D H) (r : Dr K D z (.tuple ds)) : ∃ p vs, z = .ref p ∧ SqT K H p vs ∧ DrA K D vs ds := by
  cases r with
  | tup hD hs => exact ⟨_, _, rfl, sqT_mono st.dh hD.sq, hs⟩
theorem atI_map {α β : Type} (f : α → β) (xs : List α) (i : Int) : atI (xs.map f) i = (atI xs i).map f := by
  unfold atI
  rw [List.length_map]
  cases ixN xs.length i with
  | none => rfl
  | some j => simp
theorem atI_sl {D : Hp} {vs : List V} {xs : List Sl} {i : Int} {s : Sl} (h : SlA K D vs xs) (e : atI xs i = some s) : ∃ v, atI vs i = some v ∧ Vr K D v s := by
  unfold atI at e ⊢
  rw [Paired.length h]
  cases q : ixN xs.length i with
  | none => rw [q] at e; cases e
  | some j =>
    rw [q] at e
    obtain ⟨v, h1, h2⟩ := SlA.get h (i := j) (s := s) e
    exact ⟨v, h1, h2⟩
/-! ### subscripts -/
def ixS : G2 := fun w x y => match y with
  | .dat (.int i) => match x with
    | .dat (.str z) => if z.length ≤ sizeLine then (atI z.cps.toList i).map fun c => .v (.dat (.str ⟨#[c]⟩)) else none
    | x => (sq w x).bind fun xs => (atI xs i).map .v
  | _ => none
theorem ixS_str {w : Om} {z : Str} {i : Int} {c : Nat} (h : z.length ≤ sizeLine) (e : atI z.cps.toList i = some c) : ixS w (.dat (.str z)) (.dat (.int i)) = some (.v (.dat (.str ⟨#[c]⟩))) := by
  show (if z.length ≤ sizeLine then (atI z.cps.toList i).map fun c => Ou.v (.dat (.str ⟨#[c]⟩)) else none) = _
  rw [if_pos h, e]; rfl
theorem ixS_tup {w : Om} {ds : List PyData} {i : Int} {d : PyData} (e : atI ds i = some d) : ixS w (.dat (.tuple ds)) (.dat (.int i)) = some (.v (.dat d)) := by
  show ((some (ds.map Sl.dat)).bind fun xs => (atI xs i).map Ou.v) = _
  show (atI (ds.map Sl.dat) i).map Ou.v = _
  rw [atI_map, e]; rfl
theorem ixS_list {w : Om} {ds : List PyData} {i : Int} {d : PyData} (e : atI ds i = some d) : ixS w (.dat (.list ds)) (.dat (.int i)) = some (.v (.dat d)) := by
  show (atI (ds.map Sl.dat) i).map Ou.v = _
  rw [atI_map, e]; rfl
theorem ixS_adr {w : Om} {a : Addr} {xs : List Sl} {i : Int} {s : Sl} (h : w a = some (.lst xs)) (e : atI xs i = some s) : ixS w (.adr a) (.dat (.int i)) = some (.v s) := by
  show ((sq w (.adr a)).bind fun xs => (atI xs i).map Ou.v) = _
  rw [sq_adr h]
  show (atI xs i).map Ou.v = _
  rw [e]; rfl
theorem ixS_scr {w : Om} {ns : List Int} {i : Int} {n : Int} (e : atI ns i = some n) : ixS w (.scr ns) (.dat (.int i)) = some (.v (.dat (.int n))) := by
  show (atI (ns.map fun i => Sl.dat (.int i)) i).map Ou.v = _
  rw [atI_map, e]; rfl
theorem ov_ix : OpV K (rIx K) ixS := fun x y v u w D H o R Q st rx ry e ho f => by
  unfold ixS at e
  cases y with
  | adr _ => cases e
  | scr _ => cases e
  | wt _ => cases e
  | dat dy =>
    cases dy with
    | int i =>
      cases (show u = .int i from dr_int ry)
      have seqc : ((sq w x).bind fun xs => (atI xs i).map Ou.v) = some o → rIx K v (.int i) H Q := fun e => by
        cases q : sq w x with
        | none => rw [q] at e; cases e
        | some xs =>
          rw [q] at e
          cases q2 : atI xs i with
          | none => have e' : (atI xs i).map Ou.v = some o := e; rw [q2] at e'; cases e'
          | some s =>
            have e' : (atI xs i).map Ou.v = some o := e
            rw [q2] at e'
            cases e'
            obtain ⟨p, vs, rfl, hq, hv⟩ := sq_ok st rx q
            obtain ⟨z, h1, h2⟩ := atI_sl hv q2
            rcases hq with hq | hq
            · exact .inl ⟨p, vs, i, z, rfl, rfl, hq, h1, f.v st ho h2⟩
            · exact .inr (.inl ⟨p, vs, i, z, rfl, rfl, hq, h1, f.v st ho h2⟩)
      cases x with
      | adr p => exact seqc e
      | scr ns => exact seqc e
      | wt ns => exact seqc e
      | dat dx =>
        cases dx with
        | str z =>
          have e' : (if z.length ≤ sizeLine then (atI z.cps.toList i).map fun c => Ou.v (.dat (.str ⟨#[c]⟩)) else none) = some o := e
          by_cases hz : z.length ≤ sizeLine
          · rw [if_pos hz] at e'
            cases q : atI z.cps.toList i with
            | none => rw [q] at e'; cases e'
            | some c =>
              rw [q] at e'
              cases e'
              cases (show v = .str z from dr_str rx)
              exact .inr (.inr ⟨z, i, c, rfl, rfl, hz, q, f.d st ho (.str _)⟩)
          · rw [if_neg hz] at e'; cases e'
        | none => exact seqc e
        | bool _ => exact seqc e
        | int _ => exact seqc e
        | list _ => exact seqc e
        | tuple _ => exact seqc e
        | dict _ => exact seqc e
    | none => cases e
    | bool _ => cases e
    | str _ => cases e
    | list _ => cases e
    | tuple _ => cases e
    | dict _ => cases e
theorem de_ix (ha : DE X W Z a ta) (hb : DE X W Z b tb) (hs : PlainIx b) : DE X W Z (.Subscript a b pos) (dOp ixS ta tb) := pe_weak (pe_ix ix_seq ha hb hs) fun σ H Q h => up_op ov_ix σ H Q h
/-! ### slices -/
def cut {α : Type} (xs : List α) (lo hi : Option Int) : List α := (xs.drop (HT.sIx xs.length 0 lo)).take (HT.sIx xs.length xs.length hi - HT.sIx xs.length 0 lo)
theorem cut_map {α β : Type} (f : α → β) (xs : List α) (lo hi : Option Int) : cut (xs.map f) lo hi = (cut xs lo hi).map f := by
  unfold cut
  rw [List.length_map, List.map_take, List.map_drop]
theorem cut_length {α : Type} (xs : List α) (lo hi : Option Int) : (cut xs lo hi).length ≤ xs.length := by
  unfold cut
  rw [List.length_take, List.length_drop]
  omega
def dNoPart : DTO := fun _ w R => R none w
def dPart (t : DTE) : DTO := fun ρ w R => t ρ w fun s w1 => ∃ i, s = .dat (.int i) ∧ R (some i) w1
theorem do_none : DO X W Z none dNoPart := po_weak po_none fun σ H Q ⟨ρ, w, D, R, rp, xo, h, f⟩ => f none w D H h (Gr.refl _ _ _) rp.st
theorem do_some (h : DE X W Z a ta) : DO X W Z (some a) (dPart ta) := po_weak (po_some h) fun σ H Q ⟨ρ, w, D, R, rp, xo, h, f⟩ => ⟨ρ, w, D, _, rp, xo, h, fun s w1 z D1 H1 h1 g1 s1 r1 => by
  obtain ⟨i, rfl, h1⟩ := h1
  exact ⟨i, dr_int r1, f (some i) w1 D1 H1 h1 g1 s1⟩⟩
def slS (w : Om) (x : Sl) (lo hi : Option Int) : Option Ou := match x with
  | .dat (.str z) => if z.length ≤ sizeLine then some (.v (.dat (.str (cutS z lo hi)))) else none
  | .dat (.tuple ds) => some (.v (.dat (.tuple (cut ds lo hi))))
  | x => (sqL w x).map fun xs => .nl (cut xs lo hi)
def dSl (te : DTE) (tl th : DTO) : DTE := fun ρ w R => te ρ w fun x w1 => tl ρ w1 fun l w2 => th ρ w2 fun h w3 => ∃ o, slS w3 x l h = some o ∧ ret o w3 R
def rSlF (K : PySem.W.Frag) : V → Option Int → Option Int → Hp → VK → Prop := fun x lo hi H Q => ∃ a xs, x = .ref a ∧ SqT K H a xs ∧ ((HT.sIx xs.length 0 lo = 0 ∧ HT.sIx xs.length xs.length hi = xs.length) → Q (.ref a) H) ∧
  (¬ (HT.sIx xs.length 0 lo = 0 ∧ HT.sIx xs.length xs.length hi = xs.length) → ∀ p o, H p = none → o.dict = none → Q (.ref p) (upd H p (.frz o (.tup (cutV xs lo hi)))))
theorem sl_tupF : L2.SlR X (rSlF X.K) := by
  intro pins s σ H x v vl vu lo hi sl Q I rx hs pl pu ⟨a, xs, ex, hx, q1, q2⟩
  subst ex
  by_cases hw : HT.sIx xs.length 0 lo = 0 ∧ HT.sIx xs.length xs.length hi = xs.length
  · exact sl_tupA pins s σ H _ v vl vu lo hi sl Q I rx hs pl pu ⟨a, xs, rfl, hx, q1, fun h => absurd hw h⟩
  · cases rx
    obtain ⟨us, ru, tu, zu⟩ := I.tuple hx
    have hn : us.toArray.size = xs.length := (List.size_toArray ..).trans ru.length.symm
    refine ⟨"tuple", _, PyProof.Rows.slot_tuple_getitem.lookup, tu.typeIs, HT.getItem_tuple_cut tu hs pl pu (hn ▸ hw) ?_ (hn ▸ zu)⟩
    have J := inv_tup I ((ru.drop (HT.sIx xs.length 0 lo)).take (HT.sIx xs.length xs.length hi - HT.sIx xs.length 0 lo)) (Nat.le_trans (cutV_length xs lo hi) zu)
    rw [hn]
    exact ⟨.ref s.heap.objs.size, _, J, rfl, q2 hw _ _ (I.hok.fresh (Nat.le_refl _)) rfl⟩
def rSlAll (K : PySem.W.Frag) : V → Option Int → Option Int → Hp → VK → Prop := fun x lo hi H Q => rSlL K x lo hi H Q ∨ rSlF K x lo hi H Q ∨ rSlS x lo hi H Q
theorem sl_all : L2.SlR X (rSlAll X.K) := L2.SlR.or sl_list (L2.SlR.or sl_tupF sl_str)
theorem DrA.cut {D : Hp} {vs : List V} {ds : List PyData} (h : DrA K D vs ds) (lo hi : Option Int) : DrA K D (cutV vs lo hi) (cut ds lo hi) := by
  unfold cutV DL.cut
  rw [h.length]
  exact (h.drop _).take _
theorem SlA.cut {D : Hp} {vs : List V} {ds : List Sl} (h : SlA K D vs ds) (lo hi : Option Int) : SlA K D (cutV vs lo hi) (cut ds lo hi) := by
  unfold cutV DL.cut
  rw [Paired.length h]
  exact SlA.take _ (SlA.drop _ h)
theorem cut_whole {α : Type} {xs : List α} {lo hi : Option Int} (h : HT.sIx xs.length 0 lo = 0 ∧ HT.sIx xs.length xs.length hi = xs.length) : cut xs lo hi = xs := by
  unfold cut
  rw [h.1, h.2, List.drop_zero, Nat.sub_zero, List.take_length]
theorem sl_v {x : Sl} {v : V} {w : Om} {D H : Hp} {lo hi : Option Int} {o : Ou} {R : DQ} {Q : VK} (st : StOk K w D H) (rx : Vr K D v x) (e : slS w x lo hi = some o) (ho : ret o w R) (f : Fin K w D H R Q) : rSlAll K v lo hi H Q := by
  have lc : ((sqL w x).map fun xs => Ou.nl (cut xs lo hi)) = some o → rSlAll K v lo hi H Q := fun e => by
    cases q : sqL w x with
    | none => rw [q] at e; cases e
    | some xs =>
      rw [q] at e
      cases e
      obtain ⟨p, vs, rfl, hq, hv⟩ := sqL_ok st rx q
      exact .inl ⟨p, vs, rfl, SqL.of hq, f.nl st ho.2 (SlA.cut hv lo hi)⟩
  unfold slS at e
  cases x with
  | adr p => exact lc e
  | scr ns => exact lc e
  | wt ns => exact lc e
  | dat dx =>
    cases dx with
    | str z =>
      have e' : (if z.length ≤ sizeLine then some (Ou.v (.dat (.str (cutS z lo hi)))) else none) = some o := e
      by_cases hz : z.length ≤ sizeLine
      · rw [if_pos hz] at e'
        cases e'
        cases (show v = .str z from dr_str rx)
        exact .inr (.inr ⟨z, rfl, hz, f.d st ho (.str _)⟩)
      · rw [if_neg hz] at e'; cases e'
    | tuple ds =>
      cases e
      obtain ⟨p, vs, rfl, hq, hv⟩ := tup_ok st rx
      refine .inr (.inl ⟨p, vs, rfl, hq, fun hw => ?_, fun hw => f.nt st ho (hv.cut lo hi)⟩)
      rw [hv.length] at hw
      have ho' : R (.dat (.tuple (cut ds lo hi))) w := ho
      rw [cut_whole hw] at ho'
      exact f.d st ho' rx
    | none => exact lc e
    | bool _ => exact lc e
    | int _ => exact lc e
    | list _ => exact lc e
    | dict _ => exact lc e
variable {lo hi : Option Expr} {tl th : DTO} {p2 : Pos}
theorem de_slice (he : DE X W Z a ta) (hl : DO X W Z lo tl) (hu : DO X W Z hi th) : DE X W Z (.Subscript a (.Slice lo hi none p2) pos) (dSl ta tl th) :=
  pe_weak (pe_slice sl_all he hl hu) fun σ H Q ⟨ρ, w, D, R, rp, xo, h, f⟩ => ⟨ρ, w, D, _, rp, xo, h, fun x w1 v D1 H1 h1 g1 s1 rx =>
    ⟨ρ, w1, D1, _, rp.next g1.dd s1, xo.next g1, h1, fun l w2 D2 H2 h2 g2 s2 =>
      ⟨ρ, w2, D2, _, rp.next (g1.trans g2).dd s2, xo.next (g1.trans g2), h2, fun u w3 D3 H3 h3 g3 s3 => by
        obtain ⟨o, e, ho⟩ := h3
        exact sl_v s3 (rx.mono (g2.trans g3).dd) e ho (f.next ((g1.trans g2).trans g3))⟩⟩⟩
/-- xs[::-1] of a list -/
def dRev (te : DTE) : DTE := fun ρ w R => te ρ w fun x w1 => ∃ xs, sqL w1 x = some xs ∧ xs.length ≤ sizeLine ∧ ∀ p, w1 p = none → R (.adr p) (put w1 p (.lst xs.reverse))
theorem de_rev {k : Nat} {p1 p2 p3 : Pos} (he : DE X W Z a ta) : DE X W Z (.Subscript a (.Slice none none (some (.UnaryOp .USub (.Constant (.int 1) k p1) p2)) p3) pos) (dRev ta) :=
  pe_weak (pe_revL he) fun σ H Q ⟨ρ, w, D, R, rp, xo, h, f⟩ => ⟨ρ, w, D, _, rp, xo, h, fun x w1 v D1 H1 h1 g1 s1 rx => by
    obtain ⟨xs, e, hz, h1⟩ := h1
    obtain ⟨p, vs, rfl, hq, hv⟩ := sqL_ok s1 rx e
    exact ⟨p, vs, rfl, SqL.of hq, (f.next g1).nl s1 h1 (SlA.reverse hv)⟩⟩
/-! ### arithmetic -/
def liftI (C : Int → Int → Bool) (g : Int → Int → PyData) : G2 := fun _ x y => match x, y with
  | .dat (.int i), .dat (.int j) => if C i j = true then some (.v (.dat (g i j))) else none
  | _, _ => none
theorem liftI_ok {C : Int → Int → Bool} {g : Int → Int → PyData} {w : Om} {i j : Int} (h : C i j = true) : liftI C g w (.dat (.int i)) (.dat (.int j)) = some (.v (.dat (g i j))) := by
  show (if C i j = true then some (Ou.v (.dat (g i j))) else none) = _
  rw [if_pos h]
theorem liftI_inv {C : Int → Int → Bool} {g : Int → Int → PyData} {w : Om} {x y : Sl} {o : Ou} (e : liftI C g w x y = some o) : ∃ i j, x = .dat (.int i) ∧ y = .dat (.int j) ∧ C i j = true ∧ o = .v (.dat (g i j)) := by
  unfold liftI at e
  split at e
  · rename_i i j
    by_cases h : C i j = true
    · rw [if_pos h] at e; cases e; exact ⟨i, j, rfl, rfl, h, rfl⟩
    · rw [if_neg h] at e; cases e
  · cases e
theorem ov_I {C : Int → Int → Prop} {C' : Int → Int → Bool} {g : Int → Int → V} {g' : Int → Int → PyData} (hC : ∀ i j, C' i j = true → C i j) (hg : ∀ i j D, Dr K D (g i j) (g' i j)) : OpV K (rI C g) (liftI C' g') := fun x y v u w D H o R Q st rx ry e ho f => by
  obtain ⟨i, j, rfl, rfl, hc, rfl⟩ := liftI_inv e
  exact ⟨i, j, dr_int rx, dr_int ry, hC i j hc, f.d st ho (hg i j D)⟩
theorem ov_I0 {g : Int → Int → V} {g' : Int → Int → PyData} (hg : ∀ i j D, Dr K D (g i j) (g' i j)) : OpV K (rI0 g) (liftI (fun _ _ => true) g') := fun x y v u w D H o R Q st rx ry e ho f => by
  obtain ⟨i, j, rfl, rfl, hc, rfl⟩ := liftI_inv e
  exact ⟨i, j, dr_int rx, dr_int ry, f.d st ho (hg i j D)⟩
abbrev gSub : G2 := liftI (fun _ _ => true) fun i j => .int (i - j)
def cMul (i j : Int) : Bool := decide (i.natAbs.log2 + j.natAbs.log2 < 1000000)
abbrev gMul : G2 := liftI cMul fun i j => .int (i * j)
def cDiv (_ j : Int) : Bool := decide (0 < j ∧ j.natAbs.log2 < 9000)
abbrev gDiv : G2 := liftI cDiv fun i j => .int (i / j)
abbrev gMod : G2 := liftI (fun _ j => decide (0 < j)) fun i j => .int (i % j)
def cPow (i j : Int) : Bool := decide (0 ≤ j ∧ (Builtin.Int.intBits i : Int) * j ≤ 2 ^ 27)
abbrev gPow : G2 := liftI cPow fun i j => .int (i ^ j.toNat)
theorem op_powW : OpR X (binaryOp .Pow) (rI (fun i j => 0 ≤ j ∧ (Builtin.Int.intBits i : Int) * j ≤ 2 ^ 27) fun i j => .int (i ^ j.toNat)) := opI fun _ _ _ _ _ _ _ hc q => pow_int hc.1 hc.2 q
theorem de_sub (ha : DE X W Z a ta) (hb : DE X W Z b tb) : DE X W Z (.BinOp a .Sub b pos) (dOp gSub ta tb) := de_op op_sub (ov_I0 fun i j _ => .int _) ha hb
theorem de_mul (ha : DE X W Z a ta) (hb : DE X W Z b tb) : DE X W Z (.BinOp a .Mult b pos) (dOp gMul ta tb) := de_op op_mulW (ov_I (C := CMulW) (C' := cMul) (fun i j h => show i.natAbs.log2 + j.natAbs.log2 < 1000000 from of_decide_eq_true h) fun i j _ => .int _) ha hb
theorem de_div (ha : DE X W Z a ta) (hb : DE X W Z b tb) : DE X W Z (.BinOp a .FloorDiv b pos) (dOp gDiv ta tb) := de_op op_fdivW (ov_I (C := CDivW) (C' := cDiv) (fun i j h => show 0 < j ∧ j.natAbs.log2 < 9000 from of_decide_eq_true h) fun i j _ => .int _) ha hb
theorem de_mod (ha : DE X W Z a ta) (hb : DE X W Z b tb) : DE X W Z (.BinOp a .Mod b pos) (dOp gMod ta tb) := de_op op_mod (ov_I (fun _ _ h => of_decide_eq_true h) fun i j _ => .int _) ha hb
theorem de_pow (ha : DE X W Z a ta) (hb : DE X W Z b tb) : DE X W Z (.BinOp a .Pow b pos) (dOp gPow ta tb) := de_op op_powW (ov_I (fun _ _ h => of_decide_eq_true h) fun i j _ => .int _) ha hb
def dNeg (te : DTE) : DTE := fun ρ w R => te ρ w fun x w1 => ∃ i, x = .dat (.int i) ∧ R (.dat (.int (-i))) w1
theorem de_neg (ha : DE X W Z a ta) : DE X W Z (.UnaryOp .USub a pos) (dNeg ta) :=
  pe_weak (pe_un un_neg ha) fun σ H Q ⟨ρ, w, D, R, rp, xo, h, f⟩ => ⟨ρ, w, D, _, rp, xo, h, fun x w1 v D1 H1 h1 g1 s1 rx => by
    obtain ⟨i, rfl, h1⟩ := h1
    exact ⟨i, dr_int rx, (f.next g1).d s1 h1 (.int _)⟩⟩
/-- + of ints, texts, lists, tuples -/
def addS : G2 := fun w x y => match x, y with
  | .dat (.int i), .dat (.int j) => some (.v (.dat (.int (i + j))))
  | .dat (.str i), .dat (.str j) => if i.length + j.length ≤ sizeLine then some (.v (.dat (.str (i ++ j)))) else none
  | .dat (.tuple i), .dat (.tuple j) => if i.length + j.length ≤ sizeLine then some (.v (.dat (.tuple (i ++ j)))) else none
  | x, y => (sqL w x).bind fun xs => (sqL w y).bind fun ys => some (.nl (xs ++ ys))
def rCatF (K : PySem.W.Frag) : R2 := fun x y H Q => ∃ a b xs ys, x = .ref a ∧ y = .ref b ∧ SqT K H a xs ∧ SqT K H b ys ∧ xs.length + ys.length ≤ sizeLine ∧
  (xs = [] → Q (.ref b) H) ∧ (xs ≠ [] → ys = [] → Q (.ref a) H) ∧ (xs ≠ [] → ys ≠ [] → ∀ p o, H p = none → o.dict = none → Q (.ref p) (upd H p (.frz o (.tup (xs ++ ys)))))
theorem op_catF : OpR X (binaryOp .Add) (rCatF X.K) := by
  intro pins s σ H x y v u Q I rx ry ⟨a, b, xs, ys, ex, ey, ha, hb, hz, q0, q1, q2⟩
  subst ex ey
  by_cases hx : xs = []
  · exact op_catA pins s σ H _ _ v u Q I rx ry ⟨a, b, xs, ys, rfl, rfl, ha, hb, hz, q0, fun h => absurd hx h, fun h => absurd hx h⟩
  · by_cases hy : ys = []
    · exact op_catA pins s σ H _ _ v u Q I rx ry ⟨a, b, xs, ys, rfl, rfl, ha, hb, hz, q0, q1, fun _ h => absurd hy h⟩
    · cases rx
      cases ry
      obtain ⟨us, r1, t1, _⟩ := I.tuple ha
      obtain ⟨ws, r2, t2, _⟩ := I.tuple hb
      have J := inv_tup I (r1.append r2) (by rw [List.length_append]; exact hz)
      exact HT.cat_tup t1 t2 (fun e => hx ((Vals.nil_iff r1).mp e)) (fun e => absurd ((Vals.nil_iff r2).mp e) hy) (fun _ => ⟨.ref s.heap.objs.size, _, J, rfl, q2 hx hy _ _ (I.hok.fresh (Nat.le_refl _)) rfl⟩) (by rw [← r1.length, ← r2.length]; exact hz)
def rAddAll (K : PySem.W.Frag) : R2 := fun x y H Q => (rI0 (fun i j => V.int (i + j)) x y H Q) ∨ (∃ i j, x = .str i ∧ y = .str j ∧ i.length + j.length ≤ sizeLine ∧ Q (.str (i ++ j)) H) ∨ rCat x y H Q ∨ rCatF K x y H Q
theorem op_addAll : OpR X (binaryOp .Add) (rAddAll X.K) := OpR.or op_add (OpR.or op_add_str (OpR.or op_cat op_catF))
theorem sum_length {D : Hp} {vs us : List V} {xs ys : List Sl} (h1 : SlA K D vs xs) (h2 : SlA K D us ys) : vs.length + us.length = (xs ++ ys).length := by rw [List.length_append, Paired.length h1, Paired.length h2]
theorem ov_add : OpV K (rAddAll K) addS := fun x y v u w D H o R Q st rx ry e ho f => by
  have lc : ((sqL w x).bind fun xs => (sqL w y).bind fun ys => some (Ou.nl (xs ++ ys))) = some o → rAddAll K v u H Q := fun e => by
    cases q1 : sqL w x with
    | none => rw [q1] at e; cases e
    | some xs =>
      rw [q1] at e
      cases q2 : sqL w y with
      | none => have e' : ((sqL w y).bind fun ys => some (Ou.nl (xs ++ ys))) = some o := e; rw [q2] at e'; cases e'
      | some ys =>
        have e' : ((sqL w y).bind fun ys => some (Ou.nl (xs ++ ys))) = some o := e
        rw [q2] at e'
        cases e'
        obtain ⟨p, vs, rfl, hp, hv⟩ := sqL_ok st rx q1
        obtain ⟨q, us, rfl, hq, hu⟩ := sqL_ok st ry q2
        have hz := ho.1
        exact .inr (.inr (.inl ⟨p, q, vs, us, rfl, rfl, hp, hq, by rw [sum_length hv hu]; exact hz, f.nl st ho.2 (SlA.append hv hu)⟩))
  unfold addS at e
  split at e
  · cases e
    exact .inl ⟨_, _, dr_int rx, dr_int ry, f.d st ho (.int _)⟩
  · rename_i i j
    by_cases hz : i.length + j.length ≤ sizeLine
    · rw [if_pos hz] at e
      cases e
      exact .inr (.inl ⟨_, _, dr_str rx, dr_str ry, hz, f.d st ho (.str _)⟩)
    · rw [if_neg hz] at e; cases e
  · rename_i i j
    by_cases hz : i.length + j.length ≤ sizeLine
    · rw [if_pos hz] at e
      cases e
      obtain ⟨p, vs, rfl, hp, hv⟩ := tup_ok st rx
      obtain ⟨q, us, rfl, hq, hu⟩ := tup_ok st ry
      have ho' : R (.dat (.tuple (i ++ j))) w := ho
      refine .inr (.inr (.inr ⟨p, q, vs, us, rfl, rfl, hp, hq, by rw [hv.length, hu.length]; exact hz, fun hx => ?_, fun _ hy => ?_, fun _ _ => f.nt st ho' (hv.append hu)⟩))
      · subst hx
        cases hv
        exact f.d st ho' ry
      · subst hy
        cases hu
        rw [List.append_nil] at ho'
        exact f.d st ho' rx
    · rw [if_neg hz] at e; cases e
  · exact lc e
theorem de_add (ha : DE X W Z a ta) (hb : DE X W Z b tb) : DE X W Z (.BinOp a .Add b pos) (dOp addS ta tb) := de_op op_addAll ov_add ha hb
/-! ### comparisons -/
def datOf : Sl → Option PyData
  | .dat d => some d
  | _ => none
def rs (w : Om) : Sl → Option PyData
  | .dat d => some d
  | .adr a => match w a with
    | some (.lst xs) => (xs.mapM datOf).map .list
    | _ => none
  | .scr _ => none
  | .wt _ => none
def plainEq : PyData → PyData → Option Bool
  | .int i, .int j => some (i == j)
  | .str i, .str j => some (i == j)
  | .bool i, .bool j => some (i == j)
  | d, e => if (SeqAt.shaped d && SeqAt.shaped e) = true then some (PyData.eqv d e) else none
def eqS (n : Bool) : G2 := fun w x y => (rs w x).bind fun d => (rs w y).bind fun e => (plainEq d e).map fun k => .v (.dat (.bool (k != n)))
def rEqAll (K : PySem.W.Frag) : R2 := fun x y H Q => rEq x y H Q ∨ rEqD K x y H Q
def rNeAll (K : PySem.W.Frag) : R2 := fun x y H Q => rNe x y H Q ∨ rNeD K x y H Q
theorem op_eqAll (hu : X.A.units + 64 < cLine) : OpR X (compareOp .Eq) (rEqAll X.K) := OpR.or op_eq (op_eqD hu)
theorem op_neAll (hu : X.A.units + 64 < cLine) : OpR X (compareOp .NotEq) (rNeAll X.K) := OpR.or op_ne (op_neD hu)
theorem canLay_all {d : PyData} {ds : List PyData} (h : PyData.canLayAll0 ds = true) (m : d ∈ ds) : d.canLay0 = true := by
  induction ds with
  | nil => cases m
  | cons e r ih =>
    unfold PyData.canLayAll0 at h
    rw [Bool.and_eq_true] at h
    rcases List.mem_cons.mp m with rfl | m
    · exact h.1
    · exact ih h.2 m
mutual
theorem Dr.dp {D H : Hp} (e : Same D H) : ∀ {v : V} {d : PyData}, Dr K D v d → d.canLay0 = true → Dp K H v d
  | _, _, .non, _ => .non
  | _, _, .bl b, _ => .bl b
  | _, _, .int i, _ => .int i
  | _, _, .str x, _ => .str x
  | _, _, .lst h hs, c => .lst (SqL.of (e _ _ h)) (DrA.dp e hs (by unfold PyData.canLay0 at c; exact c))
  | _, _, .tup h hs, c => .tup (sqT_mono e h.sq) (DrA.dp e hs (by unfold PyData.canLay0 at c; exact c))
  | _, _, .dct h, c => by unfold PyData.canLay0 at c; cases c
theorem DrA.dp {D H : Hp} (e : Same D H) : ∀ {vs : List V} {ds : List PyData}, DrA K D vs ds → PyData.canLayAll0 ds = true → DpAll K H vs ds
  | _, _, .nil, _ => .nil
  | _, _, .cons h hs, c => by
    unfold PyData.canLayAll0 at c
    rw [Bool.and_eq_true] at c
    exact .cons (Dr.dp e h c.1) (DrA.dp e hs c.2)
end
theorem mapM_dat : ∀ {xs : List Sl} {ds : List PyData}, xs.mapM datOf = some ds → xs = ds.map .dat := by
  intro xs
  induction xs with
  | nil => intro ds h; simp at h; subst h; rfl
  | cons x r ih =>
    intro ds h
    rw [List.mapM_cons] at h
    cases x with
    | adr _ => cases h
    | scr _ => cases h
    | wt _ => cases h
    | dat d =>
      cases q : r.mapM datOf with
      | none => simp [q] at h
      | some es =>
        simp [q, datOf] at h
        subst h
        rw [ih q]
        rfl
theorem mapM_dat' (ds : List PyData) : (ds.map Sl.dat).mapM datOf = some ds := by
  induction ds with
  | nil => rfl
  | cons d r ih => rw [List.map_cons, List.mapM_cons, ih]; rfl
theorem rs_adr {w : Om} {a : Addr} {ds : List PyData} (h : w a = some (.lst (ds.map .dat))) : rs w (.adr a) = some (.list ds) := by
  show (match w a with | some (.lst xs) => (xs.mapM datOf).map PyData.list | _ => none) = _
  rw [h]
  show Option.map PyData.list _ = _
  rw [mapM_dat']; rfl
/-- the data of a slot as it stands in the heap now -/
theorem rs_ok {w : Om} {D H : Hp} {s : Sl} {z : V} {d : PyData} (st : StOk K w D H) (r : Vr K D z s) (h : rs w s = some d) : ∃ D', Same D' H ∧ Dr K D' z d := by
  cases s with
  | dat e => cases h; exact ⟨D, st.dh, r⟩
  | scr _ => cases h
  | wt _ => cases h
  | adr a =>
    have h' : (match w a with | some (.lst xs) => (xs.mapM datOf).map PyData.list | _ => none) = some d := h
    have h := h'
    cases e : w a with
    | none => rw [e] at h; cases h
    | some o =>
      rw [e] at h
      cases o with
      | dic _ => cases h
      | ins _ _ => cases h
      | lst xs =>
        have h2 : (xs.mapM datOf).map PyData.list = some d := h
        cases q : xs.mapM datOf with
        | none => rw [q] at h2; cases h2
        | some ds =>
          rw [q] at h2
          cases h2
          have ex := mapM_dat q
          subst ex
          obtain ⟨vs, hH, hv⟩ := st.own a _ e
          have r' : z = .ref a := r
          subst r'
          exact ⟨upd D a (.lst vs), (st.freeze e hH).dh, .lst upd_same ((SlA.dat hv).mono (Gr.freeze (o := .lst vs) (H := H) st e).dd)⟩
theorem eq_bool {α : Type} [BEq α] [LawfulBEq α] [DecidableEq α] (a b : α) : (a == b) = decide (a = b) := by
  by_cases h : a = b
  · subst h; simp
  · rw [decide_eq_false h]; exact beq_eq_false_iff_ne.mpr h
theorem plainEq_ok {D D' H : Hp} {v u : V} {d e : PyData} {k : Bool} (s : Same D H) (s' : Same D' H) (r : Dr K D v d) (r' : Dr K D' u e) (h : plainEq d e = some k) :
    (scal v u = true ∧ decide (v = u) = k) ∨ (∃ d e, Dp K H v d ∧ Dp K H u e ∧ SeqAt.shaped d = true ∧ SeqAt.shaped e = true ∧ PyData.eqv d e = k) := by
  unfold plainEq at h
  split at h
  · cases h; cases r; cases r'; exact .inl ⟨rfl, by rw [dec_int]⟩
  · cases h; cases r; cases r'; exact .inl ⟨rfl, by rw [dec_str]⟩
  · cases h; cases r; cases r'; exact .inl ⟨rfl, by rw [dec_bl]⟩
  · by_cases c : (SeqAt.shaped d && SeqAt.shaped e) = true
    · rw [if_pos c] at h
      cases h
      rw [Bool.and_eq_true] at c
      exact .inr ⟨d, e, r.dp s (SeqAt.canLay_of_shaped c.1), r'.dp s' (SeqAt.canLay_of_shaped c.2), c.1, c.2, rfl⟩
    · rw [if_neg c] at h; cases h
theorem eqS_inv {n : Bool} {w : Om} {x y : Sl} {o : Ou} (e : eqS n w x y = some o) : ∃ d e k, rs w x = some d ∧ rs w y = some e ∧ plainEq d e = some k ∧ o = .v (.dat (.bool (k != n))) := by
  unfold eqS at e
  cases q1 : rs w x with
  | none => rw [q1] at e; cases e
  | some d =>
    rw [q1] at e
    have e1 : ((rs w y).bind fun e => (plainEq d e).map fun k => Ou.v (.dat (.bool (k != n)))) = some o := e
    cases q2 : rs w y with
    | none => rw [q2] at e1; cases e1
    | some d' =>
      rw [q2] at e1
      have e2 : ((plainEq d d').map fun k => Ou.v (.dat (.bool (k != n)))) = some o := e1
      cases q3 : plainEq d d' with
      | none => rw [q3] at e2; cases e2
      | some k =>
        rw [q3] at e2
        cases e2
        exact ⟨d, d', k, rfl, rfl, q3, rfl⟩
theorem eqS_ok {n : Bool} {w : Om} {x y : Sl} {d e : PyData} {k : Bool} (h1 : rs w x = some d) (h2 : rs w y = some e) (h3 : plainEq d e = some k) : eqS n w x y = some (.v (.dat (.bool (k != n)))) := by
  unfold eqS
  rw [h1]
  show ((rs w y).bind fun e => (plainEq d e).map fun k => Ou.v (.dat (.bool (k != n)))) = _
  rw [h2]
  show ((plainEq d e).map fun k => Ou.v (.dat (.bool (k != n)))) = _
  rw [h3]; rfl
theorem ov_eq : OpV K (rEqAll K) (eqS false) := fun x y v u w D H o R Q st rx ry e ho f => by
  obtain ⟨d, e, k, q1, q2, q3, rfl⟩ := eqS_inv e
  obtain ⟨D1, s1, r1⟩ := rs_ok st rx q1
  obtain ⟨D2, s2, r2⟩ := rs_ok st ry q2
  have ho' : R (.dat (.bool (k != false))) w := ho
  rw [Bool.bne_false] at ho'
  rcases plainEq_ok s1 s2 r1 r2 q3 with ⟨h1, h2⟩ | ⟨d, e, h1, h2, h3, h4, h5⟩
  · refine .inl ⟨h1, ?_⟩; rw [h2]; exact f.d st ho' (.bl k)
  · refine .inr ⟨d, e, h1, h2, h3, h4, ?_⟩; rw [h5]; exact f.d st ho' (.bl k)
theorem ov_ne : OpV K (rNeAll K) (eqS true) := fun x y v u w D H o R Q st rx ry e ho f => by
  obtain ⟨d, e, k, q1, q2, q3, rfl⟩ := eqS_inv e
  obtain ⟨D1, s1, r1⟩ := rs_ok st rx q1
  obtain ⟨D2, s2, r2⟩ := rs_ok st ry q2
  have ho' : R (.dat (.bool (k != true))) w := ho
  rw [Bool.bne_true] at ho'
  rcases plainEq_ok s1 s2 r1 r2 q3 with ⟨h1, h2⟩ | ⟨d, e, h1, h2, h3, h4, h5⟩
  · refine .inl ⟨h1, ?_⟩; rw [h2]; exact f.d st ho' (.bl _)
  · refine .inr ⟨d, e, h1, h2, h3, h4, ?_⟩; rw [h5]; exact f.d st ho' (.bl _)
theorem de_eq (hu : X.A.units + 64 < cLine) (ha : DE X W Z a ta) (hb : DE X W Z b tb) : DE X W Z (.Compare a [.Eq] [b] pos) (dOp (eqS false) ta tb) := de_cmp (op_eqAll hu) ov_eq ha hb (nomark _)
theorem de_ne (hu : X.A.units + 64 < cLine) (ha : DE X W Z a ta) (hb : DE X W Z b tb) : DE X W Z (.Compare a [.NotEq] [b] pos) (dOp (eqS true) ta tb) := de_cmp (op_neAll hu) ov_ne ha hb (nomark _)
theorem dt_eq (hu : X.A.units + 64 < cLine) (ha : DE X W Z a ta) (hb : DE X W Z b tb) : DT X W Z (.Compare a [.Eq] [b] pos) (dTst (dOp (eqS false) ta tb)) := dt_cmp (op_eqAll hu) ov_eq ha hb (nomark _)
theorem dt_ne (hu : X.A.units + 64 < cLine) (ha : DE X W Z a ta) (hb : DE X W Z b tb) : DT X W Z (.Compare a [.NotEq] [b] pos) (dTst (dOp (eqS true) ta tb)) := dt_cmp (op_neAll hu) ov_ne ha hb (nomark _)
end
end DL

set_option Elab.async false
set_option linter.all false
set_option maxRecDepth 100000
set_option maxHeartbeats 4000000
namespace DL
open PySem PySem.Spec PyProof.Rows L2
/-! ### statements -/
structure DEnds where
  nx : DEnv → Om → Prop
  rt : DQ
  bk : DEnv → Om → Prop := fun _ _ => False
  ct : DEnv → Om → Prop := fun _ _ => False
abbrev DTS := DEnds → DEnv → Om → Prop
def NxOk (K : PySem.W.Frag) (w : Om) (D H : Hp) (f : DEnv → Om → Prop) (q : L2.St → Hp → Prop) : Prop := ∀ ρ' w' σ' D' H', f ρ' w' → Gr w D H w' D' H' → Rp K σ' ρ' w' D' H' → q σ' H'
theorem NxOk.next {K : PySem.W.Frag} {w w1 : Om} {D D1 H H1 : Hp} {f : DEnv → Om → Prop} {q : L2.St → Hp → Prop} (n : NxOk K w D H f q) (g : Gr w D H w1 D1 H1) : NxOk K w1 D1 H1 f q := fun ρ' w' σ' D' H' h g' r => n ρ' w' σ' D' H' h (g.trans g') r
structure EndsOk (K : PySem.W.Frag) (w : Om) (D H : Hp) (F : DEnds) (E : Ends) : Prop where
  nx : NxOk K w D H F.nx E.nx
  rt : Fin K w D H F.rt E.rt
  bk : NxOk K w D H F.bk E.bk
  ct : NxOk K w D H F.ct E.ct
theorem EndsOk.next {K : PySem.W.Frag} {w w1 : Om} {D D1 H H1 : Hp} {F : DEnds} {E : Ends} (e : EndsOk K w D H F E) (g : Gr w D H w1 D1 H1) : EndsOk K w1 D1 H1 F E := ⟨e.nx.next g, e.rt.next g, e.bk.next g, e.ct.next g⟩
def ups (K : PySem.W.Frag) (W : WX) (Z : DX) (t : DTS) : TS := fun E σ H => ∃ ρ w D F, Rp K σ ρ w D H ∧ XOk K W Z w D H ∧ t F ρ w ∧ EndsOk K w D H F E
abbrev DS (X : Cx) (W : WX) (Z : DX) (st : Stmt) (t : DTS) : Prop := PS X st (ups X.K W Z t)
abbrev DB (X : Cx) (W : WX) (Z : DX) (sts : List Stmt) (t : DTS) : Prop := PSs X sts (ups X.K W Z t)
theorem ps_weak {X : Cx} {st : Stmt} {t t' : TS} (h : PS X st t) (i : ∀ E σ H, t' E σ H → t E σ H) : PS X st t' := ⟨fun pins s σ H D I q => h.run pins s σ H D I (i D σ H q)⟩
theorem pss_weak {X : Cx} {st : List Stmt} {t t' : TS} (h : PSs X st t) (i : ∀ E σ H, t' E σ H → t E σ H) : PSs X st t' := ⟨fun pins s σ H D I q => h.run pins s σ H D I (i D σ H q)⟩
theorem pg_weak {X : Cx} {e : Expr} {t t' : TG} (h : PG X e t) (i : ∀ v σ H Q, t' v σ H Q → t v σ H Q) : PG X e t' := ⟨fun pins s σ H v u Q I r q => h.run pins s σ H v u Q I r (i v σ H Q q)⟩
theorem pgs_weak {X : Cx} {e : List Expr} {t t' : TGs} (h : PGs X e t) (i : ∀ v σ H Q, t' v σ H Q → t v σ H Q) : PGs X e t' := ⟨fun pins s σ H v u Q I r q => h.run pins s σ H v u Q I r (i v σ H Q q)⟩
theorem pg_or {X : Cx} {e : Expr} {t t' : TG} (h : PG X e t) (h' : PG X e t') : PG X e (fun v σ H Q => t v σ H Q ∨ t' v σ H Q) := ⟨fun pins s σ H v u Q I r q => q.elim (fun q => h.run pins s σ H v u Q I r q) (fun q => h'.run pins s σ H v u Q I r q)⟩

section
variable {X : Cx} {W : WX} {Z : DX} {K : PySem.W.Frag} {a b c e : Expr} {ta tb te : DTE} {pos : Pos} {st : Stmt} {sts : List Stmt} {t u : DTS}
def dNext : DTS := fun F ρ w => F.nx ρ w
def dSeq (t u : DTS) : DTS := fun F ρ w => t { F with nx := u F } ρ w
theorem ds_nil : DB X W Z [] dNext := pss_weak pss_nil fun E σ H ⟨ρ, w, D, F, rp, xo, h, eo⟩ => eo.nx ρ w σ D H h (Gr.refl _ _ _) rp
theorem ds_one (h1 : DS X W Z st t) : DB X W Z [st] t := pss_one h1
theorem ds_cons (h1 : DS X W Z st t) (h2 : DB X W Z sts u) : DB X W Z (st :: sts) (dSeq t u) :=
  pss_weak (pss_cons h1 h2) fun E σ H ⟨ρ, w, D, F, rp, xo, h, eo⟩ => ⟨ρ, w, D, { F with nx := u F }, rp, xo, h, fun ρ' w' σ' D' H' hu g r => ⟨ρ', w', D', F, r, xo.next g, hu, eo.next g⟩, eo.rt, eo.bk, eo.ct⟩
theorem ds_pass : DS X W Z (.Pass pos) dNext := ps_weak ps_pass fun E σ H ⟨ρ, w, D, F, rp, xo, h, eo⟩ => eo.nx ρ w σ D H h (Gr.refl _ _ _) rp
def dBreak : DTS := fun F ρ w => F.bk ρ w
def dCont : DTS := fun F ρ w => F.ct ρ w
theorem ds_break : DS X W Z (.Break pos) dBreak := ps_weak ps_break fun E σ H ⟨ρ, w, D, F, rp, xo, h, eo⟩ => eo.bk ρ w σ D H h (Gr.refl _ _ _) rp
theorem ds_cont : DS X W Z (.Continue pos) dCont := ps_weak ps_continue fun E σ H ⟨ρ, w, D, F, rp, xo, h, eo⟩ => eo.ct ρ w σ D H h (Gr.refl _ _ _) rp
def dDrop (te : DTE) : DTS := fun F ρ w => te ρ w fun _ w1 => F.nx ρ w1
theorem ds_expr (he : DE X W Z e te) (hs : swapsWith e none pos.line X.env = pure false := by rfl) : DS X W Z (.Expr e pos) (dDrop te) :=
  ps_weak (ps_expr he hs) fun E σ H ⟨ρ, w, D, F, rp, xo, h, eo⟩ => ⟨ρ, w, D, _, rp, xo, h, fun s w1 v D1 H1 h1 g1 s1 _ => eo.nx ρ w1 σ D1 H1 h1 g1 (rp.next g1.dd s1)⟩
def dRet (te : DTE) : DTS := fun F ρ w => te ρ w F.rt
def dRetN : DTS := fun F _ w => F.rt (.dat .none) w
theorem ds_ret (he : DE X W Z e te) : DS X W Z (.Return (some e) pos) (dRet te) := ps_weak (ps_ret he) fun E σ H ⟨ρ, w, D, F, rp, xo, h, eo⟩ => ⟨ρ, w, D, _, rp, xo, h, eo.rt⟩
theorem ds_retN : DS X W Z (.Return none pos) dRetN := ps_weak ps_retN fun E σ H ⟨ρ, w, D, F, rp, xo, h, eo⟩ => eo.rt.d rp.st h .non
def dIfS (c : DTT) (t u : DTS) : DTS := fun F ρ w => c ρ w fun k w1 => if k = true then t F ρ w1 else u F ρ w1
theorem ds_if {sa sb : List Stmt} {tc : DTT} (hc : DT X W Z c tc) (ha : DB X W Z sa t) (hb : DB X W Z sb u) : DS X W Z (.If c sa sb pos) (dIfS tc t u) :=
  ps_weak (ps_if hc ha hb) fun E σ H ⟨ρ, w, D, F, rp, xo, h, eo⟩ => ⟨ρ, w, D, _, rp, xo, h, fun k w1 D1 H1 h1 g1 s1 => by
    cases k with
    | true => rw [if_pos rfl] at h1 ⊢; exact ⟨ρ, w1, D1, F, rp.next g1.dd s1, xo.next g1, h1, eo.next g1⟩
    | false => rw [if_neg Bool.false_ne_true] at h1 ⊢; exact ⟨ρ, w1, D1, F, rp.next g1.dd s1, xo.next g1, h1, eo.next g1⟩⟩
/-! ### targets -/
abbrev DTG := Sl → DEnv → Om → (DEnv → Om → Prop) → Prop
abbrev DTGs := List Sl → DEnv → Om → (DEnv → Om → Prop) → Prop
def upG (K : PySem.W.Frag) (W : WX) (Z : DX) (g : DTG) : TG := fun v σ H Q => ∃ s ρ w D R, Rp K σ ρ w D H ∧ XOk K W Z w D H ∧ Vr K D v s ∧ g s ρ w R ∧ NxOk K w D H R Q
def upGs (K : PySem.W.Frag) (W : WX) (Z : DX) (g : DTGs) : TGs := fun vs σ H Q => ∃ ss ρ w D R, Rp K σ ρ w D H ∧ XOk K W Z w D H ∧ SlA K D vs ss ∧ g ss ρ w R ∧ NxOk K w D H R Q
abbrev DG (X : Cx) (W : WX) (Z : DX) (e : Expr) (g : DTG) : Prop := PG X e (upG X.K W Z g)
abbrev DGs (X : Cx) (W : WX) (Z : DX) (es : List Expr) (g : DTGs) : Prop := PGs X es (upGs X.K W Z g)
def dName (i : Nat) : DTG := fun s ρ w R => R (ρ.set i (some s)) w
theorem dg_name {i : Nat} {x : Str} (hN : X.N.Nodup) (hi : X.N[i]? = some x) (hx : Loc X.env.scope x) (hf : X.fn x = true ∨ X.env.scope.names.lookup x = some .local := by first | exact .inl rfl | exact .inr rfl | assumption) : DG X W Z (.Name x pos) (dName i) :=
  pg_weak (pg_name hN hi hx hf) fun v σ H Q ⟨s, ρ, w, D, R, rp, xo, r, h, n⟩ => n _ w _ D H h (Gr.refl _ _ _) (rp.set i r)
def dGNil : DTGs := fun ss ρ w R => ss = [] ∧ R ρ w
def dGCons (t : DTG) (u : DTGs) : DTGs := fun ss ρ w R => ∃ s r, ss = s :: r ∧ t s ρ w fun ρ' w' => u r ρ' w' R
theorem dgs_nil : DGs X W Z [] dGNil := pgs_weak pgs_nil fun vs σ H Q ⟨ss, ρ, w, D, R, rp, xo, r, ⟨h0, h⟩, n⟩ => by
  subst h0
  cases r
  exact ⟨rfl, n ρ w σ D H h (Gr.refl _ _ _) rp⟩
variable {es : List Expr} {tg : DTG} {tgs : DTGs}
theorem dgs_cons (h1 : DG X W Z e tg) (h2 : DGs X W Z es tgs) (hs : (assignEach (e :: es) X.env).map (·.2) = assign e X.env :: (assignEach es X.env).map (·.2) := by rfl) : DGs X W Z (e :: es) (dGCons tg tgs) :=
  pgs_weak (pgs_cons h1 h2 hs) fun vs σ H Q ⟨ss, ρ, w, D, R, rp, xo, r, h, n⟩ => by
    obtain ⟨s, sr, rfl, h⟩ := h
    cases r with
    | cons r0 rr =>
      exact ⟨_, _, rfl, s, ρ, w, D, _, rp, xo, r0, h, fun ρ1 w1 σ1 D1 H1 h1 g1 r1 => ⟨sr, ρ1, w1, D1, R, r1, xo.next g1, SlA.mono g1.dd rr, h1, n.next g1⟩⟩
/-- (a, b, ..) = a list or a tuple of that length -/
def dGTup (n : Nat) (t : DTGs) : DTG := fun s ρ w R => ∃ xs, sq w s = some xs ∧ xs.length = n ∧ t xs ρ w R
theorem dg_tup {k n : Nat} (hc : X.calm = true) (h : DGs X W Z es tgs) (hn : (assignEach es X.env).length = n := by rfl) (hst : (assignEach es X.env).findIdx? (·.1) = none := by rfl) : DG X W Z (.Tuple es k pos) (dGTup n tgs) :=
  pg_weak (pg_or (pg_lst hc h hn hst) (pg_tup hc h hn hst)) fun v σ H Q ⟨s, ρ, w, D, R, rp, xo, r, ⟨xs, e, hl, h⟩, n⟩ => by
    obtain ⟨p, vs, rfl, hq, hv⟩ := sq_ok rp.st r e
    have hlen : vs.length = _ := (Paired.length hv).trans hl
    rcases hq with hq | hq
    · exact .inl ⟨p, vs, rfl, hq, hlen, xs, ρ, w, D, R, rp, xo, hv, h, n⟩
    · exact .inr ⟨p, vs, rfl, hq, hlen, xs, ρ, w, D, R, rp, xo, hv, h, n⟩
def dAsg (te : DTE) (g : DTG) : DTS := fun F ρ w => te ρ w fun s w1 => g s ρ w1 F.nx
theorem ds_asg {tgt : Expr} (he : DE X W Z e te) (hg : DG X W Z tgt tg) (hs : swapsWithSole [tgt] e pos.line X.env = pure false := by rfl) (hw : swappedStores [tgt] e X.env = pure none := by rfl) (h1 : (assignEach [tgt] X.env).map (·.2) = [assign tgt X.env] := by rfl) : DS X W Z (.Assign [tgt] e pos) (dAsg te tg) :=
  ps_weak (ps_asg he hg hs hw h1) fun E σ H ⟨ρ, w, D, F, rp, xo, h, eo⟩ => ⟨ρ, w, D, _, rp, xo, h, fun s w1 v D1 H1 h1 g1 s1 r1 => ⟨s, ρ, w1, D1, F.nx, rp.next g1.dd s1, xo.next g1, r1, h1, eo.nx.next g1⟩⟩
theorem ds_set {i : Nat} {x : Str} {pos' : Pos} (hN : X.N.Nodup) (hi : X.N[i]? = some x) (hx : Loc X.env.scope x) (he : DE X W Z e te) (hs : swapsWith e (some (.Name x pos')) pos.line X.env = pure false := by rfl) (hf : X.fn x = true ∨ X.env.scope.names.lookup x = some .local := by first | exact .inl rfl | exact .inr rfl | assumption) :
    DS X W Z (.Assign [.Name x pos'] e pos) (dAsg te (dName i)) :=
  ps_weak (ps_set hN hi hx he hs hf) fun E σ H ⟨ρ, w, D, F, rp, xo, h, eo⟩ => ⟨ρ, w, D, _, rp, xo, h, fun s w1 v D1 H1 h1 g1 s1 r1 => eo.nx _ w1 _ D1 H1 h1 g1 ((rp.next g1.dd s1).set i r1)⟩
/-- o[i] = e, of a list of the store -/
def dSetL (to ti : DTE) : DTG := fun s ρ w R => to ρ w fun o w1 => ti ρ w1 fun i w2 => ∃ p xs k j, o = .adr p ∧ i = .dat (.int k) ∧ w2 p = some (.lst xs) ∧ ixN xs.length k = some j ∧ R ρ (put w2 p (.lst (xs.set j s)))
theorem dg_sub (ho : DE X W Z a ta) (hi : DE X W Z b tb)
    (hh : ∀ v, assign (.Subscript a b pos) X.env v = (do
      let ov ← holding [v] (eval a X.env)
      let iv ← holding [v, ov] (eval b X.env)
      standAt pos
      holding [v, ov, iv] (setItem ov iv v)
      release [v, ov, iv] []) := by intro _; rfl) : DG X W Z (.Subscript a b pos) (dSetL ta tb) :=
  pg_weak (pg_sub ho hi set_list hh) fun v σ H Q ⟨s, ρ, w, D, R, rp, xo, r, h, n⟩ => ⟨ρ, w, D, _, rp, xo, h, fun o w1 z1 D1 H1 h1 g1 s1 r1 => ⟨ρ, w1, D1, _, rp.next g1.dd s1, xo.next g1, h1, fun i w2 z2 D2 H2 h2 g2 s2 r2 => by
    obtain ⟨p, xs, k, j, rfl, rfl, hw, hj, hR⟩ := h2
    obtain ⟨vs, hH, hv⟩ := s2.own p _ hw
    have r1' : z1 = .ref p := r1
    have rv := r.mono (g1.trans g2).dd
    refine ⟨p, vs, k, j, r1', dr_int r2, hH, by rw [Paired.length hv]; exact hj, ?_⟩
    have g3 : Gr w2 D2 H2 (put w2 p (.lst (xs.set j s))) D2 (upd H2 p (.lst (vs.set j v))) := Gr.write hw
    have s3 := s2.write (o := .lst (vs.set j v)) (u' := .lst (xs.set j s)) hw ⟨_, upd_same, SlA.set rv j hv⟩
    have g := (g1.trans g2).trans g3
    exact n ρ _ σ D2 _ hR g (rp.next g.dd s3)⟩⟩
/-! ### a, *b, c = a tuple or a list -/
theorem ite_no {M : Model} {A : Around} {E : Value → Shared → Prop} {s : Shared} {α : Type} {Q : α → Shared → Prop} {p : Prop} [Decidable p] {x y : Sem α} (h : ¬ p) (hy : wpAny M A y Q E s) : wpAny M A (if p then x else y) Q E s := by
  rw [if_neg h]
  exact hy
theorem star_items {prog : Program} {w : World} {A : Around} {E : Value → Shared → Prop} {s : Shared} {l : Addr} {items : Array Value} {n i : Nat} {Q : List Value → Shared → Prop}
    (hl : IsTup s.heap l items ∨ s.heap.IsList l items) (hh : A.handled = none) (hi : i < n) (hn : n ≤ items.size + 1) (hz : items.size ≤ 16384)
    (h : ∀ (h' : Heap) (tk : Nat), (∀ b o, s.heap.get? b = some o → h'.get? b = some o) →
      Q (items.toList.take i ++ [.ref h'.objs.size] ++ (items.toList.drop i).drop (items.size + 1 - n)) { s with heap := h'.push { cls := .type "list", data := .seq ((items.toList.drop i).take (items.size + 1 - n)).toArray }, toks := tk }) :
    wpAny (model prog w) A (unpackItems (.ref l) n (some i)) Q E s := by
  have fl : (items.toList.take i).length = i := by
    rw [List.length_take, Array.length_toList]
    omega
  have rl : (items.toList.drop i).length = items.size - i := by
    rw [List.length_drop, Array.length_toList]
  have ml : (items.toList.drop i).length - (n - 1 - i) = items.size + 1 - n := by
    rw [rl]
    omega
  -- behind the walk
  have tail : ∀ (h2 : Heap) (tk : Nat), (∀ b o, b ≠ s.heap.objs.size → s.heap.get? b = some o → h2.get? b = some o) →
      wpAny (model prog w) A (newList ((items.toList.drop i).take ((items.toList.drop i).length - (n - 1 - i))) >>= fun d =>
        pure (items.toList.take i ++ [d] ++ (items.toList.drop i).drop ((items.toList.drop i).length - (n - 1 - i)))) Q E { s with heap := h2, toks := tk } := by
    intro h2 tk hk
    rw [ml]
    refine wpAny_bind (wpAny_newList (wpAny_pure ?_) ?_)
    · exact h h2 tk fun b o e => hk b o (Nat.ne_of_lt (Heap.lt_size e)) e
    · rw [List.length_take, rl, sizeLine_eq]
      omega
  unfold unpackItems
  refine wpAny_bind ?_
  unfold notIterableAtAll
  rcases hl with hl | hl
  · have ne : l ≠ s.heap.objs.size := by
      obtain ⟨o, ho, _⟩ := hl
      exact Nat.ne_of_lt (Heap.lt_size ho)
    refine wpAny_bind (wpAny_specialOf hl.typeIs slot_tuple_iter.lookup (wpAny_pure ?_))
    simp only [Bool.false_eq_true, if_false]
    refine wpAny_bind (wpAny_holding (iter_tuple hl (wpAny_bind (wpAny_holding ?_))))
    refine draw_tuple ne i 0 _ _ ⟨_, Heap.get?_push_size _ rfl, rfl, rfl⟩ (hl.push _) (by omega) fun h1 it1 k1 => ?_
    have hl1 : IsTup h1 l items := (hl.push _).extBut k1.extBut ne
    rw [Nat.zero_add] at it1
    obtain ⟨oi, hoi, _⟩ := id it1
    obtain ⟨ol, hol, _⟩ := id hl1
    rw [List.drop_zero, if_neg (show ¬ ((items.toList.take i).length < i) by omega)]
    refine wpAny_bind (wpAny_holding ?_)
    refine PySem.W.kun_collect (s := { s with heap := h1 }) (T := "tuple_iterator") (.inr (.inr (.inr rfl))) (Walks.tuple (A := A.in1) hh s.heap.objs.size l ne items) (fun j u z => z.1.typeIs) (k := i) (by omega) ⟨it1, hl1⟩ (Heap.lt_size hoi) (Heap.lt_size hol) (fun h2 tk hk => ?_) (by rw [sizeLine_eq]; omega)
    refine ite_no (by rw [rl]; omega) ?_
    exact tail h2 tk fun b o hb q => hk b o hb (k1.extBut b o hb (Heap.get?_push_of_some _ q))
  · have ne : l ≠ s.heap.objs.size := by
      obtain ⟨o, ho, _⟩ := hl
      exact Nat.ne_of_lt (Heap.lt_size ho)
    refine wpAny_bind (wpAny_specialOf hl.typeIs slot_list_iter.lookup (wpAny_pure ?_))
    simp only [Bool.false_eq_true, if_false]
    refine wpAny_bind (wpAny_holding (wpAny_pyIter_list hl (wpAny_bind (wpAny_holding ?_))))
    refine PySem.W.kun_draw ne i 0 _ _ ⟨_, Heap.get?_push_size _ rfl, rfl, rfl⟩ (hl.push _) (by omega) fun h1 it1 k1 => ?_
    have hl1 : h1.IsList l items := (hl.push _).extBut k1.extBut ne
    rw [Nat.zero_add] at it1
    obtain ⟨oi, hoi, _⟩ := id it1
    obtain ⟨ol, hol, _⟩ := id hl1
    rw [List.drop_zero, if_neg (show ¬ ((items.toList.take i).length < i) by omega)]
    refine wpAny_bind (wpAny_holding ?_)
    refine PySem.W.kun_collect (s := { s with heap := h1 }) (T := "list_iterator") (.inr (.inr (.inl rfl))) (Walks.list (A := A.in1) hh s.heap.objs.size l ne items) (fun j u z => z.1.typeIs) (k := i) (by omega) ⟨it1, hl1⟩ (Heap.lt_size hoi) (Heap.lt_size hol) (fun h2 tk hk => ?_) (by rw [sizeLine_eq]; omega)
    refine ite_no (by rw [rl]; omega) ?_
    exact tail h2 tk fun b o hb q => hk b o hb (k1.extBut b o hb (Heap.get?_push_of_some _ q))
def gStar (K : PySem.W.Frag) (n i : Nat) (t : TGs) : TG := fun v σ H Q => ∃ a xs, v = .ref a ∧ (SqL K H a xs ∨ SqT K H a xs) ∧ i < n ∧ n ≤ xs.length + 1 ∧ xs.length ≤ 16384 ∧
  ∀ p, H p = none → t (xs.take i ++ [.ref p] ++ (xs.drop i).drop (xs.length + 1 - n)) σ (upd H p (.lst ((xs.drop i).take (xs.length + 1 - n)))) Q
theorem pg_star {es : List Expr} {k n i : Nat} {t : TGs} (hc : X.calm = true) (h : PGs X es t) (hn : (assignEach es X.env).length = n := by rfl) (hst : (assignEach es X.env).findIdx? (·.1) = some i := by rfl) : PG X (.Tuple es k pos) (gStar X.K n i t) := by
  refine ⟨fun pins s σ H v u Q I r hw => ?_⟩
  obtain ⟨a, xs, rfl, hq, hi, hl, hz, hw⟩ := hw
  cases r
  have ex : ∃ its : List Value, Vals xs its ∧ (IsTup s.heap a its.toArray ∨ s.heap.IsList a its.toArray) := by
    rcases hq with hq | hq
    · obtain ⟨its, rv, pl, _⟩ := I.list hq
      exact ⟨its, rv, .inr pl.isList⟩
    · obtain ⟨its, rv, pl, _⟩ := I.tuple hq
      exact ⟨its, rv, .inl pl⟩
  obtain ⟨its, rv, hp⟩ := ex
  have le := rv.length
  rw [PyProof.Rows.assign_Tuple]
  refine wpAny_bind (wpAny_standAt ?_)
  unfold unpack
  rw [hn, hst]
  refine wpAny_bind (wpAny_holding (star_items hp (I.ok.hd hc) hi (by simp; omega) (by simp; omega) fun h' tk hk => ?_))
  have I1 : Inv X pins σ H { s with heap := h', toks := tk } := I.kept (t' := tk) hk
  have I2 := I1.lnew (t' := tk) (its := (its.drop i).take (its.length + 1 - n)) ((rv.drop i).take (its.length + 1 - n)) (by rw [List.length_take, List.length_drop, sizeLine_eq]; omega)
  have q := hw _ I1.fresh
  rw [le] at q
  have q2 := h.run pins _ σ _ _ ((its.take i) ++ [.ref h'.objs.size] ++ (its.drop i).drop (its.length + 1 - n)) Q I2 (Vals.append (Vals.append (rv.take i) (.cons (show L2.RelV (.ref _) (.ref _) from rfl) .nil)) ((rv.drop i).drop _)) q
  simpa using q2
def dGStar (n i : Nat) (t : DTGs) : DTG := fun s ρ w R => ∃ xs, sq w s = some xs ∧ i < n ∧ n ≤ xs.length + 1 ∧ xs.length ≤ 16384 ∧
  ∀ p, w p = none → t (xs.take i ++ [.adr p] ++ (xs.drop i).drop (xs.length + 1 - n)) ρ (put w p (.lst ((xs.drop i).take (xs.length + 1 - n)))) R
theorem dg_star {k n i : Nat} (hc : X.calm = true) (h : DGs X W Z es tgs) (hn : (assignEach es X.env).length = n := by rfl) (hst : (assignEach es X.env).findIdx? (·.1) = some i := by rfl) : DG X W Z (.Tuple es k pos) (dGStar n i tgs) :=
  pg_weak (pg_star hc h hn hst) fun v σ H Q ⟨s, ρ, w, D, R, rp, xo, r, ⟨xs, e, hi, hl, hz, h⟩, nx⟩ => by
    obtain ⟨p, vs, rfl, hq, hv⟩ := sq_ok rp.st r e
    have le : vs.length = xs.length := Paired.length hv
    refine ⟨p, vs, rfl, hq, hi, by rw [le]; exact hl, by rw [le]; exact hz, fun a ha => ?_⟩
    have hm : SlA X.K D ((vs.drop i).take (xs.length + 1 - n)) ((xs.drop i).take (xs.length + 1 - n)) := SlA.take _ (SlA.drop i hv)
    have s2 := rp.st.newW (o := .lst ((vs.drop i).take (xs.length + 1 - n))) (u := .lst ((xs.drop i).take (xs.length + 1 - n))) ha ⟨_, upd_same, hm⟩
    have g2 : Gr w D H (put w a (.lst ((xs.drop i).take (xs.length + 1 - n)))) D (upd H a (.lst ((vs.drop i).take (xs.length + 1 - n)))) := Gr.newW rp.st ha
    rw [le]
    exact ⟨_, ρ, _, D, R, rp.next g2.dd s2, xo.next g2, SlA.append (SlA.append (SlA.take i hv) (.cons (show Vr X.K D (.ref a) (.adr a) from rfl) .nil)) (SlA.drop _ (SlA.drop i hv)), h a (rp.st.freeW ha), nx.next g2⟩
end
end DL

set_option Elab.async false
set_option linter.all false
set_option maxRecDepth 100000
set_option maxHeartbeats 4000000
namespace DL
open PySem PySem.Spec PyProof.Rows L2
section
variable {X : Cx} {W : WX} {Z : DX} {K : PySem.W.Frag} {a b c e : Expr} {ta tb te : DTE} {pos : Pos} {st : Stmt} {sts : List Stmt} {t u : DTS} {es : List Expr} {tr : DTA} {tg : DTG} {tgs : DTGs}
/-! ### ghost steps -/
def dFz (te : DTE) : DTE := fun ρ w R => te ρ w fun s w1 => frz s w1 fun d w2 => R (.dat d) w2
theorem de_fz (h : DE X W Z e te) : DE X W Z e (dFz te) := pe_weak h fun σ H Q ⟨ρ, w, D, R, rp, xo, h, f⟩ => ⟨ρ, w, D, _, rp, xo, h, fun s w1 z D1 H1 h1 g1 s1 r1 => by
  obtain ⟨d, w', D', hk, g', s', rd⟩ := frz_ok s1 r1 h1
  exact ((f.next g1).next g').d s' hk rd⟩
/-- what stands neither in the store nor among the data may change -/
theorem StOk.junk {w : Om} {D H : Hp} {p : Addr} {o : HO} (s : StOk K w D H) (hw : w p = none) (hd : D p = none) : StOk K w D (upd H p o) where
  dh := fun a u q => by rw [upd_ne (fun z => by rw [z, hd] at q; cases q)]; exact s.dh a u q
  own := fun a u q => (s.own a u q).mono (Same.refl D) fun x r => by rw [upd_ne (fun z => by rw [z, hw] at q; cases q)]; exact r
  sep := s.sep
theorem Gr.junk {w w' : Om} {D H D' H' : Hp} {p : Addr} {o : HO} (g : Gr w D H w' D' H') (hp : H p = none) : Gr w D H w' D' (upd H' p o) where
  dd := g.dd
  fr := fun a u q n => by rw [upd_ne (ne_of_none q hp)]; exact g.fr a u q n
  nw := g.nw
  nd := g.nd
  dm := fun a q => by
    by_cases z : a = p
    · subst z; rw [upd_same]; intro y; cases y
    · rw [upd_ne z]; exact g.dm a q
/-! ### calls of built-ins by values -/
abbrev GN := Om → List Sl → Option Ou
def dCB (g : GN) (ta : DTA) : DTE := fun ρ w R => ta ρ w fun ss w1 => ∃ o, g w1 ss = some o ∧ ret o w1 R
def CV (K : PySem.W.Frag) (r : List V → Hp → VK → Prop) (g : GN) : Prop := ∀ ss vs w D H o R Q, StOk K w D H → SlA K D vs ss → g w ss = some o → ret o w R → Fin K w D H R Q → r vs H Q
theorem up_cb {r : List V → Hp → VK → Prop} {g : GN} (hv : CV X.K r g) (σ : L2.St) (H : Hp) (Q : VK) (h : up X.K W Z (dCB g tr) σ H Q) : tCB r (upA X.K W Z tr) σ H Q := by
  obtain ⟨ρ, w, D, R, rp, xo, h, f⟩ := h
  refine ⟨ρ, w, D, _, rp, xo, h, fun ss w1 vs D1 H1 h1 g1 s1 rs => ?_⟩
  obtain ⟨o, e, ho⟩ := h1
  exact hv ss vs w1 D1 H1 o R Q s1 rs e ho (f.next g1)
variable {x : Str} {p : Pos} {idn T : String}
theorem de_callB {r : List V → Hp → VK → Prop} {g : GN} (hc : CallR X (.builtin idn) r) (hv : CV X.K r g) (hg : Gl X x) (hm : X.mg x = none) (hb : bootBuiltins x = some (.builtin idn)) (ha : DA X W Z (e :: es) tr) (hn : x ≠ "__name__" := by decide) (hdb : (x == ("__debug__" : Str)) = false := by decide)
    (hs : starEach (e :: es) X.env = (false, eval e X.env) :: starEach es X.env := by rfl) (hpl : (backTo pos (starEach es X.env)).any (·.1) = false := by rfl) : DE X W Z (.Call (.Name x p) (e :: es) [] pos) (dCB g tr) :=
  pe_weak (pe_callB hc hg hm hb ha hn hdb hs hpl) fun σ H Q h => up_cb hv σ H Q h
theorem de_callTy {r : List V → Hp → VK → Prop} {g : GN} (hc : CallR X (.type T) r) (hv : CV X.K r g) (hg : Gl X x) (hm : X.mg x = none) (hb : bootBuiltins x = some (.type T)) (ha : DA X W Z (e :: es) tr) (hn : x ≠ "__name__" := by decide) (hdb : (x == ("__debug__" : Str)) = false := by decide)
    (hs : starEach (e :: es) X.env = (false, eval e X.env) :: starEach es X.env := by rfl) (hpl : (backTo pos (starEach es X.env)).any (·.1) = false := by rfl) : DE X W Z (.Call (.Name x p) (e :: es) [] pos) (dCB g tr) :=
  pe_weak (pe_callTy hc hg hm hb ha hn hdb hs hpl) fun σ H Q h => up_cb hv σ H Q h
theorem sla1 {D : Hp} {vs : List V} {s : Sl} (h : SlA K D vs [s]) : ∃ v, vs = [v] ∧ Vr K D v s := by
  cases h with
  | cons r t => cases t; exact ⟨_, rfl, r⟩
theorem sla2 {D : Hp} {vs : List V} {s s' : Sl} (h : SlA K D vs [s, s']) : ∃ v v', vs = [v, v'] ∧ Vr K D v s ∧ Vr K D v' s' := by
  cases h with
  | cons r t =>
    obtain ⟨v, rfl, r'⟩ := sla1 t
    exact ⟨_, v, rfl, r, r'⟩
/-- len -/
def lenS : GN := fun w ss => match ss with
  | [.dat (.str z)] => if z.length ≤ sizeLine then some (.v (.dat (.int z.length))) else none
  | [s] => (sq w s).map fun xs => .v (.dat (.int xs.length))
  | _ => none
def rLenA (K : PySem.W.Frag) : List V → Hp → VK → Prop := fun xs H Q => (∃ p ys, xs = [.ref p] ∧ (SqL K H p ys ∨ SqT K H p ys) ∧ Q (.int ys.length) H) ∨ (∃ z, xs = [.str z] ∧ z.length ≤ sizeLine ∧ Q (.int z.length) H)
theorem lenS_sq {w : Om} {s : Sl} {xs : List Sl} (h : sq w s = some xs) : lenS w [s] = some (.v (.dat (.int xs.length))) := by
  have k : ((sq w s).map fun xs => Ou.v (.dat (.int xs.length))) = some (.v (.dat (.int xs.length))) := by rw [h]; rfl
  cases s with
  | adr a => exact k
  | scr ns => exact k
  | wt ns => exact k
  | dat d => cases d <;> first | exact k | cases h
theorem lenS_str {w : Om} {z : Str} (h : z.length ≤ sizeLine) : lenS w [.dat (.str z)] = some (.v (.dat (.int z.length))) := by
  show (if z.length ≤ sizeLine then some (Ou.v (.dat (.int z.length))) else none) = _
  rw [if_pos h]
theorem cv_len : CV K (rLenA K) lenS := fun ss vs w D H o R Q st rv e ho f => by
  have sc : ∀ s, ss = [s] → ((sq w s).map fun xs => Ou.v (.dat (.int xs.length))) = some o → rLenA K vs H Q := fun s es e2 => by
    clear e
    subst es
    obtain ⟨v, rfl, r⟩ := sla1 rv
    cases q : sq w s with
    | none => rw [q] at e2; cases e2
    | some xs =>
      rw [q] at e2
      cases e2
      obtain ⟨p, us, rfl, hq, hv⟩ := sq_ok st r q
      refine .inl ⟨p, us, rfl, hq, ?_⟩
      rw [Paired.length hv]
      exact f.d st ho (.int _)
  unfold lenS at e
  split at e
  · rename_i z
    by_cases hz : z.length ≤ sizeLine
    · rw [if_pos hz] at e
      cases e
      obtain ⟨v, rfl, r⟩ := sla1 rv
      cases (show v = .str z from dr_str r)
      exact .inr ⟨z, rfl, hz, f.d st ho (.int _)⟩
    · rw [if_neg hz] at e; cases e
  · exact sc _ rfl e
  · cases e
theorem de_len (hg : Gl X "len") (hm : X.mg "len" = none) (ha : DA X W Z [a] tr) (hs : starEach [a] X.env = (false, eval a X.env) :: starEach [] X.env := by rfl) (hpl : (backTo pos (starEach [] X.env)).any (·.1) = false := by rfl) :
    DE X W Z (.Call (.Name "len" p) [a] [] pos) (dCB lenS tr) := de_callB (CallR.or call_len_seq call_len_str) cv_len hg hm PySem.boot_len ha (by decide) (by decide) hs hpl
/-- max, min of two whole numbers -/
def maxS : GN := fun _ ss => match ss with
  | [.dat (.int i), .dat (.int j)] => some (.v (.dat (.int (if j > i then j else i))))
  | _ => none
def minS : GN := fun _ ss => match ss with
  | [.dat (.int i), .dat (.int j)] => some (.v (.dat (.int (if j < i then j else i))))
  | _ => none
theorem cv_max : CV K (fun xs H Q => ∃ i j, xs = [.int i, .int j] ∧ Q (.int (if j > i then j else i)) H) maxS := fun ss vs w D H o R Q st rv e ho f => by
  unfold maxS at e
  split at e
  · cases e
    obtain ⟨v, v', rfl, r, r'⟩ := sla2 rv
    cases dr_int r; cases dr_int r'
    exact ⟨_, _, rfl, f.d st ho (.int _)⟩
  · cases e
theorem cv_min : CV K (fun xs H Q => ∃ i j, xs = [.int i, .int j] ∧ Q (.int (if j < i then j else i)) H) minS := fun ss vs w D H o R Q st rv e ho f => by
  unfold minS at e
  split at e
  · cases e
    obtain ⟨v, v', rfl, r, r'⟩ := sla2 rv
    cases dr_int r; cases dr_int r'
    exact ⟨_, _, rfl, f.d st ho (.int _)⟩
  · cases e
theorem de_max (hc : X.calm = true) (hg : Gl X "max") (hm : X.mg "max" = none) (ha : DA X W Z [a, b] tr) (hs : starEach [a, b] X.env = (false, eval a X.env) :: starEach [b] X.env := by rfl) (hpl : (backTo pos (starEach [b] X.env)).any (·.1) = false := by rfl) :
    DE X W Z (.Call (.Name "max" p) [a, b] [] pos) (dCB maxS tr) := de_callB (call_max2 hc) cv_max hg hm (by decide +kernel) ha (by decide) (by decide) hs hpl
theorem de_min (hc : X.calm = true) (hg : Gl X "min") (hm : X.mg "min" = none) (ha : DA X W Z [a, b] tr) (hs : starEach [a, b] X.env = (false, eval a X.env) :: starEach [b] X.env := by rfl) (hpl : (backTo pos (starEach [b] X.env)).any (·.1) = false := by rfl) :
    DE X W Z (.Call (.Name "min" p) [a, b] [] pos) (dCB minS tr) := de_callB (call_min2 hc) cv_min hg hm (by decide +kernel) ha (by decide) (by decide) hs hpl
/-- all, any of a list of truths -/
def blOf : Sl → Option Bool
  | .dat (.bool b) => some b
  | _ => none
def allS : GN := fun w ss => match ss with
  | [s] => (sqL w s).bind fun xs => (xs.mapM blOf).map fun bs => .v (.dat (.bool (bs.all id)))
  | _ => none
def anyS : GN := fun w ss => match ss with
  | [s] => (sqL w s).bind fun xs => (xs.mapM blOf).map fun bs => .v (.dat (.bool (bs.any id)))
  | _ => none
theorem mapM_bl : ∀ {xs : List Sl} {bs : List Bool}, xs.mapM blOf = some bs → xs = bs.map fun b => .dat (.bool b) := by
  intro xs
  induction xs with
  | nil => intro ds h; simp at h; subst h; rfl
  | cons x r ih =>
    intro ds h
    rw [List.mapM_cons] at h
    cases q0 : blOf x with
    | none => simp [q0] at h
    | some b =>
      cases q : r.mapM blOf with
      | none => simp [q0, q] at h
      | some es =>
        simp [q0, q] at h
        subst h
        rw [ih q]
        have : x = .dat (.bool b) := by
          cases x with
          | adr _ => cases q0
          | scr _ => cases q0
          | wt _ => cases q0
          | dat d => cases d <;> cases q0; rfl
        rw [this]; rfl
theorem mapM_bl' : ∀ (bs : List Bool), (bs.map fun b => Sl.dat (.bool b)).mapM blOf = some bs
  | [] => rfl
  | b :: r => by rw [List.map_cons, List.mapM_cons, mapM_bl' r]; rfl
theorem bls_sl {D : Hp} : ∀ {bs : List Bool} {vs : List V}, SlA K D vs (bs.map fun b => .dat (.bool b)) → vs = bs.map V.bl
  | [], _, .nil => rfl
  | b :: r, _, .cons h t => by rw [bls_sl t, dr_bool h]; rfl
theorem allS_ok {w : Om} {s : Sl} {bs : List Bool} (h : sqL w s = some (bs.map fun b => .dat (.bool b))) : allS w [s] = some (.v (.dat (.bool (bs.all id)))) := by
  show ((sqL w s).bind fun xs => (xs.mapM blOf).map fun bs => Ou.v (.dat (.bool (bs.all id)))) = _
  rw [h]
  show ((bs.map fun b => Sl.dat (.bool b)).mapM blOf).map (fun bs => Ou.v (.dat (.bool (bs.all id)))) = _
  rw [mapM_bl']; rfl
theorem anyS_ok {w : Om} {s : Sl} {bs : List Bool} (h : sqL w s = some (bs.map fun b => .dat (.bool b))) : anyS w [s] = some (.v (.dat (.bool (bs.any id)))) := by
  show ((sqL w s).bind fun xs => (xs.mapM blOf).map fun bs => Ou.v (.dat (.bool (bs.any id)))) = _
  rw [h]
  show ((bs.map fun b => Sl.dat (.bool b)).mapM blOf).map (fun bs => Ou.v (.dat (.bool (bs.any id)))) = _
  rw [mapM_bl']; rfl
theorem bools_inv {w : Om} {s : Sl} {o : Ou} {f : List Bool → Ou} (e : ((sqL w s).bind fun xs => (xs.mapM blOf).map f) = some o) : ∃ bs : List Bool, sqL w s = some (bs.map fun b => .dat (.bool b)) ∧ o = f bs := by
  cases q : sqL w s with
  | none => rw [q] at e; cases e
  | some xs =>
    rw [q] at e
    have e1 : (xs.mapM blOf).map f = some o := e
    cases q2 : xs.mapM blOf with
    | none => rw [q2] at e1; cases e1
    | some bs =>
      rw [q2] at e1
      cases e1
      exact ⟨bs, by rw [mapM_bl q2], rfl⟩
theorem cv_all : CV K (rAll K) allS := fun ss vs w D H o R Q st rv e ho f => by
  unfold allS at e
  split at e
  · obtain ⟨bs, q, rfl⟩ := bools_inv e
    obtain ⟨v, rfl, r⟩ := sla1 rv
    obtain ⟨p, us, rfl, hq, hv⟩ := sqL_ok st r q
    rw [bls_sl hv] at hq
    exact ⟨p, bs, rfl, SqL.of hq, f.d st ho (.bl _)⟩
  · cases e
theorem cv_any : CV K (rAny K) anyS := fun ss vs w D H o R Q st rv e ho f => by
  unfold anyS at e
  split at e
  · obtain ⟨bs, q, rfl⟩ := bools_inv e
    obtain ⟨v, rfl, r⟩ := sla1 rv
    obtain ⟨p, us, rfl, hq, hv⟩ := sqL_ok st r q
    rw [bls_sl hv] at hq
    exact ⟨p, bs, rfl, SqL.of hq, f.d st ho (.bl _)⟩
  · cases e
theorem de_all (hc : X.calm = true) (hg : Gl X "all") (hm : X.mg "all" = none) (ha : DA X W Z [a] tr) (hs : starEach [a] X.env = (false, eval a X.env) :: starEach [] X.env := by rfl) (hpl : (backTo pos (starEach [] X.env)).any (·.1) = false := by rfl) :
    DE X W Z (.Call (.Name "all" p) [a] [] pos) (dCB allS tr) := de_callB (cr_all hc) cv_all hg hm (by decide +kernel) ha (by decide) (by decide) hs hpl
theorem de_any (hc : X.calm = true) (hg : Gl X "any") (hm : X.mg "any" = none) (ha : DA X W Z [a] tr) (hs : starEach [a] X.env = (false, eval a X.env) :: starEach [] X.env := by rfl) (hpl : (backTo pos (starEach [] X.env)).any (·.1) = false := by rfl) :
    DE X W Z (.Call (.Name "any" p) [a] [] pos) (dCB anyS tr) := de_callB (cr_any hc) cv_any hg hm (by decide +kernel) ha (by decide) (by decide) hs hpl
/-- list(x), tuple(x) -/
def listS : GN := fun w ss => match ss with
  | [s] => (sq w s).map .nl
  | _ => none
def tupS : GN := fun w ss => match ss with
  | [.dat (.tuple ds)] => some (.v (.dat (.tuple ds)))
  | [s] => (sqL w s).bind fun xs => (xs.mapM datOf).map fun ds => .v (.dat (.tuple ds))
  | _ => none
theorem listS_ok {w : Om} {s : Sl} {xs : List Sl} (h : sq w s = some xs) : listS w [s] = some (.nl xs) := by
  show (sq w s).map Ou.nl = _
  rw [h]; rfl
theorem tupS_ok {w : Om} {s : Sl} {ds : List PyData} (h : sqL w s = some (ds.map .dat)) : tupS w [s] = some (.v (.dat (.tuple ds))) := by
  have k : ((sqL w s).bind fun xs => (xs.mapM datOf).map fun ds => Ou.v (.dat (.tuple ds))) = some (.v (.dat (.tuple ds))) := by
    rw [h]
    show ((ds.map Sl.dat).mapM datOf).map (fun ds => Ou.v (.dat (.tuple ds))) = _
    rw [mapM_dat']; rfl
  cases s with
  | adr a => exact k
  | scr ns => cases h
  | wt ns => cases h
  | dat d => cases d <;> first | exact k | cases h
theorem cv_list : CV K (fun xs H Q => ∃ p ys, xs = [.ref p] ∧ (SqL K H p ys ∨ SqT K H p ys) ∧ ∀ l, H l = none → Q (.ref l) (upd H l (.lst ys))) listS := fun ss vs w D H o R Q st rv e ho f => by
  unfold listS at e
  split at e
  · rename_i s
    obtain ⟨v, rfl, r⟩ := sla1 rv
    cases q : sq w s with
    | none => rw [q] at e; cases e
    | some xs =>
      rw [q] at e
      cases e
      obtain ⟨p, us, rfl, hq, hv⟩ := sq_ok st r q
      exact ⟨p, us, rfl, hq, f.nl st ho.2 hv⟩
  · cases e
def rTupF (K : PySem.W.Frag) : List V → Hp → VK → Prop := fun xs H Q => ∃ p ys, xs = [.ref p] ∧ ((SqL K H p ys ∧ ∀ l o, H l = none → o.dict = none → Q (.ref l) (upd H l (.frz o (.tup ys)))) ∨ (SqT K H p ys ∧ Q (.ref p) H))
theorem call_tupF : CallR X (.type "tuple") (rTupF X.K) := by
  intro pins s σ H xs us Q I r ⟨p, ys, ex, h⟩
  subst ex
  rcases h with ⟨hl, q⟩ | ⟨ht, q⟩
  · obtain ⟨u, eu, ru⟩ := vals1 r
    subst eu
    cases ru
    obtain ⟨its, rv, pl, hz⟩ := I.list hl
    refine call_tuple_list pl.isList (fun h' kp => ?_) (by rw [List.size_toArray, ← rv.length]; exact hz)
    have I1 : Inv X pins σ H { s with heap := h' } := I.kept (t' := s.toks) kp
    exact ⟨.ref h'.objs.size, _, inv_tup I1 rv hz, rfl, q _ _ (I1.hok.fresh (Nat.le_refl _)) rfl⟩
  · exact call_tuple_of pins s σ H _ us Q I r ⟨p, ys, rfl, .inr ⟨ht, q⟩⟩
theorem cv_tup : CV K (rTupF K) tupS := fun ss vs w D H o R Q st rv e ho f => by
  unfold tupS at e
  split at e
  · cases e
    obtain ⟨v, rfl, r⟩ := sla1 rv
    obtain ⟨p, us, rfl, hq, hv⟩ := tup_ok st r
    exact ⟨p, us, rfl, .inr ⟨hq, f.d st ho r⟩⟩
  · rename_i s _
    obtain ⟨v, rfl, r⟩ := sla1 rv
    cases q : sqL w s with
    | none => rw [q] at e; cases e
    | some xs =>
      rw [q] at e
      have e1 : (xs.mapM datOf).map (fun ds => Ou.v (.dat (.tuple ds))) = some o := e
      cases q2 : xs.mapM datOf with
      | none => rw [q2] at e1; cases e1
      | some ds =>
        rw [q2] at e1
        cases e1
        have ex := mapM_dat q2
        subst ex
        obtain ⟨p, us, rfl, hq, hv⟩ := sqL_ok st r q
        exact ⟨p, us, rfl, .inl ⟨SqL.of hq, f.nt st ho (SlA.dat hv)⟩⟩
  · cases e
theorem de_list (hg : Gl X "list") (hm : X.mg "list" = none) (ha : DA X W Z [a] tr) (hs : starEach [a] X.env = (false, eval a X.env) :: starEach [] X.env := by rfl) (hpl : (backTo pos (starEach [] X.env)).any (·.1) = false := by rfl) :
    DE X W Z (.Call (.Name "list" p) [a] [] pos) (dCB listS tr) := de_callTy call_list_of cv_list hg hm (by decide +kernel) ha (by decide) (by decide) hs hpl
theorem de_tuple (hg : Gl X "tuple") (hm : X.mg "tuple" = none) (ha : DA X W Z [a] tr) (hs : starEach [a] X.env = (false, eval a X.env) :: starEach [] X.env := by rfl) (hpl : (backTo pos (starEach [] X.env)).any (·.1) = false := by rfl) :
    DE X W Z (.Call (.Name "tuple" p) [a] [] pos) (dCB tupS tr) := de_callTy call_tupF cv_tup hg hm (by decide +kernel) ha (by decide) (by decide) hs hpl
/-- str(n) -/
def strS : GN := fun _ ss => match ss with
  | [.dat (.int i)] => if i.natAbs.log2 < 1920 then some (.v (.dat (.str (toString i)))) else none
  | _ => none
theorem strS_ok {w : Om} {i : Int} (h : i.natAbs.log2 < 1920) : strS w [.dat (.int i)] = some (.v (.dat (.str (toString i)))) := by
  show (if i.natAbs.log2 < 1920 then some (Ou.v (.dat (.str (toString i)))) else none) = _
  rw [if_pos h]
theorem cv_str : CV K (fun xs H Q => ∃ i, xs = [.int i] ∧ i.natAbs.log2 < 1920 ∧ Q (.str (toString i)) H) strS := fun ss vs w D H o R Q st rv e ho f => by
  unfold strS at e
  split at e
  · rename_i i
    by_cases hz : i.natAbs.log2 < 1920
    · rw [if_pos hz] at e
      cases e
      obtain ⟨v, rfl, r⟩ := sla1 rv
      cases dr_int r
      exact ⟨i, rfl, hz, f.d st ho (.str _)⟩
    · rw [if_neg hz] at e; cases e
  · cases e
theorem de_strI (hg : Gl X "str") (hm : X.mg "str" = none) (ha : DA X W Z [a] tr) (hs : starEach [a] X.env = (false, eval a X.env) :: starEach [] X.env := by rfl) (hpl : (backTo pos (starEach [] X.env)).any (·.1) = false := by rfl) :
    DE X W Z (.Call (.Name "str" p) [a] [] pos) (dCB strS tr) := de_callTy call_str_int cv_str hg hm (by decide +kernel) ha (by decide) (by decide) hs hpl
/-! ### isinstance -/
inductive Ty6 where
  | str | int | bool | tuple | list | dict
  deriving DecidableEq
def Ty6.name : Ty6 → String
  | .str => "str" | .int => "int" | .bool => "bool" | .tuple => "tuple" | .list => "list" | .dict => "dict"
def isD : Ty6 → PyData → Bool
  | .str, .str _ => true
  | .int, .int _ => true
  | .int, .bool _ => true
  | .bool, .bool _ => true
  | .tuple, .tuple _ => true
  | .list, .list _ => true
  | .dict, .dict _ => true
  | _, _ => false
def isS (T : Ty6) (w : Om) : Sl → Option Bool
  | .dat d => some (isD T d)
  | .scr _ => none
  | .wt _ => none
  | .adr a => match w a with
    | some (.lst _) => some (T == .list)
    | some (.dic _) => some (T == .dict)
    | _ => none
def tyN : PyData → String
  | .none => "NoneType" | .bool _ => "bool" | .int _ => "int" | .str _ => "str" | .list _ => "list" | .tuple _ => "tuple" | .dict _ => "dict"
theorem kit_all : ∀ T : Ty6, kitB "NoneType" T.name = some false ∧ kitB "bool" T.name = some (T == .bool || T == .int) ∧ kitB "int" T.name = some (T == .int) ∧ kitB "str" T.name = some (T == .str) ∧ kitB "list" T.name = some (T == .list) ∧ kitB "tuple" T.name = some (T == .tuple) ∧ kitB "dict" T.name = some (T == .dict)
  | .str => by decide +kernel
  | .int => by decide +kernel
  | .bool => by decide +kernel
  | .tuple => by decide +kernel
  | .list => by decide +kernel
  | .dict => by decide +kernel
theorem kit_is (T : Ty6) (d : PyData) : kitB (tyN d) T.name = some (isD T d) := by
  obtain ⟨h1, h2, h3, h4, h5, h6, h7⟩ := kit_all T
  cases d with
  | none => exact h1.trans (by cases T <;> rfl)
  | bool _ => exact h2.trans (by cases T <;> rfl)
  | int _ => exact h3.trans (by cases T <;> rfl)
  | str _ => exact h4.trans (by cases T <;> rfl)
  | list _ => exact h5.trans (by cases T <;> rfl)
  | tuple _ => exact h6.trans (by cases T <;> rfl)
  | dict _ => exact h7.trans (by cases T <;> rfl)
theorem tyx_of {w : Om} {D H : Hp} {v : V} {d : PyData} (st : StOk K w D H) (r : Dr K D v d) : TyX K H v (.type (tyN d)) := by
  cases r with
  | non => exact .base .non
  | bl b => exact .base (.bl b)
  | int i => exact .base (.int i)
  | str x => exact .base (.str x)
  | lst h _ => exact .base (.lst (st.dh _ _ h))
  | tup h _ =>
    rcases h with ⟨o, _, h⟩ | ⟨o, its, n, h1, h2, _⟩
    · exact .fTuple (st.dh _ _ h)
    · exact .kTuple h1 h2
  | dct h => exact .base (.dK (st.dh _ _ h))
def tyS (w : Om) : Sl → String
  | .dat d => tyN d
  | .scr _ => "list"
  | .wt _ => "tuple"
  | .adr a => match w a with
    | some (.lst _) => "list"
    | _ => "dict"
theorem isS_ok {w : Om} {D H : Hp} {v : V} {s : Sl} {T : Ty6} {k : Bool} (st : StOk K w D H) (r : Vr K D v s) (h : isS T w s = some k) : TyX K H v (.type (tyS w s)) ∧ kitB (tyS w s) T.name = some k := by
  cases s with
  | dat d => cases h; exact ⟨tyx_of st r, kit_is T d⟩
  | scr _ => cases h
  | wt _ => cases h
  | adr a =>
    have h' : (match w a with | some (.lst _) => some (T == .list) | some (.dic _) => some (T == .dict) | _ => none) = some k := h
    have r' : v = .ref a := r
    subst r'
    obtain ⟨h1, h2, h3, h4, h5, h6, h7⟩ := kit_all T
    show TyX K H _ (.type (match w a with | some (.lst _) => "list" | _ => "dict")) ∧ kitB (match w a with | some (.lst _) => "list" | _ => "dict") T.name = some k
    cases q : w a with
    | none => rw [q] at h'; cases h'
    | some o =>
      rw [q] at h'
      cases o with
      | ins _ _ => cases h'
      | lst xs =>
        cases h'
        obtain ⟨vs, hH, _⟩ := st.own a _ q
        exact ⟨.base (.lst hH), h5⟩
      | dic kvs =>
        cases h'
        obtain ⟨vs, hH, _⟩ := st.own a _ q
        exact ⟨.base (.dK hH), h7⟩
def dIsi (T : Ty6) (te : DTE) : DTE := fun ρ w R => te ρ w fun s w1 => ∃ k, isS T w1 s = some k ∧ R (.dat (.bool k)) w1
theorem de_isi (T : Ty6) {tn : Str} {p1 p2 : Pos} (he : DE X W Z e te) (hg : Gl X "isinstance") (hm : X.mg "isinstance" = none) (hgT : Gl X tn) (hmT : X.mg tn = none) (hT : bootBuiltins tn = some (.type T.name)) (hn : tn ≠ "__name__" := by decide) (hd : (tn == ("__debug__" : Str)) = false := by decide)
    (hs : starEach [e, .Name tn p2] X.env = (false, eval e X.env) :: starEach [.Name tn p2] X.env := by rfl) (hpl : (backTo pos (starEach [.Name tn p2] X.env)).any (·.1) = false := by rfl) :
    DE X W Z (.Call (.Name "isinstance" p1) [e, .Name tn p2] [] pos) (dIsi T te) :=
  pe_weak (pe_callB call_isi hg hm (by decide +kernel) (pa_cons he (pa_cons (pe_bltn (v := .ty T.name) hgT hmT hT rfl hn hd) pa_nil) hs) (by decide) (by decide) hs hpl) fun σ H Q ⟨ρ, w, D, R, rp, xo, h, f⟩ => ⟨ρ, w, D, _, rp, xo, h, fun s w1 v D1 H1 h1 g1 s1 r1 => by
    obtain ⟨k, hk, h1⟩ := h1
    obtain ⟨ty, kb⟩ := isS_ok s1 r1 hk
    exact ⟨v, .ty T.name, .type (tyS w1 s), .type T.name, k, rfl, .ty _, ty, kit_ty kb, (f.next g1).d s1 h1 (.bl k)⟩⟩
/-- isinstance(e, (T, U)) -/
def dIsi2 (T U : Ty6) (te : DTE) : DTE := fun ρ w R => te ρ w fun s w1 => ∃ k k', isS T w1 s = some k ∧ isS U w1 s = some k' ∧ R (.dat (.bool (k || k'))) w1
theorem de_isi2 (T U : Ty6) {tn un : Str} {p1 p2 p3 p4 : Pos} {kk : Nat} (he : DE X W Z e te) (hg : Gl X "isinstance") (hm : X.mg "isinstance" = none) (hgT : Gl X tn) (hmT : X.mg tn = none) (hT : bootBuiltins tn = some (.type T.name)) (hgU : Gl X un) (hmU : X.mg un = none) (hU : bootBuiltins un = some (.type U.name))
    (hn : tn ≠ "__name__" := by decide) (hd : (tn == ("__debug__" : Str)) = false := by decide) (hn' : un ≠ "__name__" := by decide) (hd' : (un == ("__debug__" : Str)) = false := by decide)
    (hs : starEach [e, .Tuple [.Name tn p2, .Name un p3] kk p4] X.env = (false, eval e X.env) :: starEach [.Tuple [.Name tn p2, .Name un p3] kk p4] X.env := by rfl) (hpl : (backTo pos (starEach [.Tuple [.Name tn p2, .Name un p3] kk p4] X.env)).any (·.1) = false := by rfl) :
    DE X W Z (.Call (.Name "isinstance" p1) [e, .Tuple [.Name tn p2, .Name un p3] kk p4] [] pos) (dIsi2 T U te) :=
  pe_weak (pe_callB call_isiT hg hm (by decide +kernel) (pa_cons he (pa_cons (pe_tup (pa_cons (pe_bltn (v := .ty T.name) hgT hmT hT rfl hn hd) (pa_cons (pe_bltn (v := .ty U.name) hgU hmU hU rfl hn' hd') pa_nil))) pa_nil) hs) (by decide) (by decide) hs hpl)
    fun σ H Q ⟨ρ, w, D, R, rp, xo, h, f⟩ => ⟨ρ, w, D, _, rp, xo, h, fun s w1 v D1 H1 h1 g1 s1 r1 => ⟨by show 2 ≤ sizeLine; decide, fun q hq => by
      obtain ⟨k, k', hk, hk', h1⟩ := h1
      have s2 : StOk X.K w1 D1 (upd H1 q (.tup [.ty T.name, .ty U.name])) := s1.junk (s1.freeW hq) (s1.freeD hq)
      have g2 : Gr w1 D1 H1 w1 D1 (upd H1 q (.tup [.ty T.name, .ty U.name])) := (Gr.refl w1 D1 H1).junk hq
      obtain ⟨ty, kb⟩ := isS_ok s2 r1 hk
      obtain ⟨_, kb'⟩ := isS_ok s2 r1 hk'
      exact ⟨v, q, [.ty T.name, .ty U.name], .type (tyS w1 s), [.type T.name, .type U.name], k || k', rfl, upd_same, .cons (.ty _) (.cons (.ty _) .nil), ty, kitAny_cons (kit_ty kb) (fun hf => by
        rw [hf, Bool.false_or]
        exact kitAny_cons (kit_ty kb') (fun h0 => by rw [h0]; exact kitAny_nil) (fun ht => ht)) (fun ht => by rw [ht, Bool.true_or]), ((f.next g1).next g2).d s2 h1 (.bl _)⟩⟩⟩
end
end DL

set_option Elab.async false
set_option linter.all false
set_option maxRecDepth 100000
set_option maxHeartbeats 4000000
namespace DL
open PySem PySem.Spec PyProof.Rows L2
/-! ### defs by contracts: c ss w R tells what is asked of the arguments ss and the store w so that the def hands back an r, leaving w', of which R r w' holds -/
abbrev Ct := List Sl → Om → DQ → Prop
def spN (K : PySem.W.Frag) (c : Ct) : Sp := fun vs H Q _ => ∃ ss w D R, SlA K D vs ss ∧ StOk K w D H ∧ c ss w R ∧ Fin K w D H R Q
/-- .. one that may raise: Y tells what is wanted of the exception -/
abbrev CtX := List Sl → Om → DQ → (Addr → Option (List (Str × Sl)) → Om → Prop) → Prop
def spX (K : PySem.W.Frag) (c : CtX) : Sp := fun vs H Q E => ∃ ss w D R Y, SlA K D vs ss ∧ StOk K w D H ∧ c ss w R Y ∧ Fin K w D H R Q ∧ ∀ C x w' D' H' d, Y C x w' → Gr w D H w' D' H' → StOk K w' D' H' → XR K D' H' d x → E (.ref C) d H'
def startD (N : List Str) (ss : List Sl) : DEnv := ss.map some ++ List.replicate (N.length - ss.length) none
theorem rp_start {K : PySem.W.Frag} {N : List Str} {vs : List V} {ss : List Sl} {w : Om} {D H : Hp} (h : SlA K D vs ss) (st : StOk K w D H) : Rp K (L2.start N vs) (startD N ss) w D H := by
  have hl := Paired.length h
  refine ⟨st, by simp [startD, L2.start, hl], fun i s e => ?_⟩
  unfold startD at e
  unfold L2.start
  by_cases hi : i < ss.length
  · rw [List.getElem?_append_left (by simpa using hi), List.getElem?_map] at e
    rw [List.getElem?_append_left (by simpa [hl] using hi), List.getElem?_map]
    cases q : ss[i]? with
    | none => rw [q] at e; cases e
    | some s' =>
      rw [q] at e
      cases e
      obtain ⟨v, h1, h2⟩ := SlA.get h q
      exact ⟨v, by rw [h1]; rfl, h2⟩
  · rw [List.getElem?_append_right (by simpa using hi)] at e
    rw [List.getElem?_replicate] at e
    split at e <;> cases e
/-- the ends of a def's body: the store may be left smaller -/
def endsN (R : DQ) : DEnds := { nx := fun _ w => ∃ u, Sub u w ∧ R (.dat .none) u, rt := fun s w => ∃ u, Sub u w ∧ R s u }
theorem endsN_ok {K : PySem.W.Frag} {w : Om} {D H : Hp} {R : DQ} {Q : VK} (f : Fin K w D H R Q) : EndsOk K w D H (endsN R) { nx := fun _ H' => Q .non H', rt := Q } where
  nx := fun ρ' w' σ' D' H' ⟨u, su, h⟩ g r => f (.dat .none) u .non D' H' h (g.sub su) (r.st.sub su) .non
  rt := fun s w' z D' H' ⟨u, su, h⟩ g st r => f s u z D' H' h (g.sub su) (st.sub su) r
  bk := fun _ _ _ _ _ h => h.elim
  ct := fun _ _ _ _ _ h => h.elim
section
variable {P : Program} {wd : World} {K : PySem.W.Frag} {mg : Str → Option Value} {base : Heap}
abbrev WT : WX := fun _ _ _ _ => True
abbrev ZT : DX := fun _ _ _ _ => True
theorem xok_T {w : Om} {D H : Hp} : XOk K WT ZT w D H := fun _ _ _ _ _ _ _ _ _ _ _ _ => trivial
/-- THE RULE for a def that raises nothing -/
theorem Fun.okD {x qual : Str} {st : Stmt} {f : Addr} {fd : FuncData} {N ps : List Str} {k : Nat} {c : Ct} {tb : DTS} (F : L2.Fun K x qual st f fd) (S : FnScope N ps (defScope st)) (len : ∀ ss w R, c ss w R → ss.length = ps.length)
    (hb : ∀ (cdv : Value) (A : Around) (outer : List Env) (s : Shared) (H : Hp) (E : XK), Room k (A.deeper (envOfC qual (defScope st) s.heap.objs.size f cdv)) → DB (cxOf CX0 P wd K mg base N qual (defScope st) f cdv A outer s H E).nox WT ZT (defBody st) tb)
    (rd : ∀ ss w R, c ss w R → tb (endsN R) (startD N ss) w) : FnOk P wd K mg base CX0 (k + 1) f fd ps (spN K c) := by
  refine L2.Fun.ok F S (fun vs H Q E h => ?_) (fun cdv A outer s H vs Q E hr h => ?_)
  · obtain ⟨ss, w, D, R, hs, _, hc, _⟩ := h
    rw [Paired.length hs]
    exact len ss w R hc
  · obtain ⟨ss, w, D, R, hs, so, hc, fi⟩ := h
    exact ⟨_, hb cdv A outer s H E hr, startD N ss, w, D, endsN R, rp_start hs so, xok_T, rd ss w R hc, endsN_ok fi⟩
end
section
variable {X : Cx} {W : WX} {Z : DX} {e : Expr} {es : List Expr} {tr : DTA} {pos p : Pos}
/-- a call of a def that raises nothing -/
def dCall (c : Ct) (dss : List Sl) (ta : DTA) : DTE := fun ρ w R => ta ρ w fun ss w1 => c (ss ++ dss) w1 R
variable {k : Nat} {f : Addr} {fd : FuncData} {ps : List Str} {c : Ct} {x : Str} {ds : List Value} {dvs : List V} {dss : List Sl}
theorem de_call (F : FnOk X.prog X.w X.K X.mg X.base CX0 k f fd ps (spN X.K c)) (hr : Room k X.A) (hg : Gl X x) (hm : X.mg x = some (.ref f)) (hk : PySem.W.keepIn X.K (.ref f) = true) (hb : Binds X.K fd ps ds) (hd : Vals dvs ds) (hds : ∀ D, SlA X.K D dvs dss) (ha : DA X W Z (e :: es) tr)
    (hdb : (x == ("__debug__" : Str)) = false := by decide) (hs : starEach (e :: es) X.env = (false, eval e X.env) :: starEach es X.env := by rfl) (hpl : (backTo pos (starEach es X.env)).any (·.1) = false := by rfl) :
    DE X W Z (.Call (.Name x p) (e :: es) [] pos) (dCall c dss tr) :=
  pe_weak (pe_call F hr hg hm hk hb hd pass0 ha hdb hs hpl) fun σ H Q ⟨ρ, w, D, R, rp, xo, h, fi⟩ => ⟨ρ, w, D, _, rp, xo, h, fun ss w1 vs D1 H1 h1 g1 s1 rs =>
    ⟨ss ++ dss, w1, D1, R, SlA.append rs (hds D1), s1, h1, fi.next g1⟩⟩
end
/-! ### what is walked -/
abbrev DTI := DEnv → Om → (List Sl → (Om → Prop) → Om → Prop) → Prop
/-- J yields xs, one by one, as long as ok holds of the store -/
structure DWalk (K : PySem.W.Frag) (J : It) (xs : List Sl) (ok : Om → Prop) (D0 : Hp) : Prop where
  goes : ∀ i w D H, i < xs.length → StOk K w D H → Same D0 D → ok w → J.go i H
  stops : ∀ w D H, StOk K w D H → Same D0 D → ok w → J.stop xs.length H
  yields : ∀ i w D H x H', i < xs.length → StOk K w D H → Same D0 D → ok w → J.yld i H x H' → ∃ D' s, Gr w D H w D' H' ∧ StOk K w D' H' ∧ xs[i]? = some s ∧ Vr K D' x s
def upI (K : PySem.W.Frag) (W : WX) (Z : DX) (t : DTI) : TI := fun σ H R => ∃ ρ w D R', Rp K σ ρ w D H ∧ XOk K W Z w D H ∧ t ρ w R' ∧ ∀ xs ok w' D' H' J, R' xs ok w' → Gr w D H w' D' H' → StOk K w' D' H' → DWalk K J xs ok D' → R J H'
abbrev DI (X : Cx) (W : WX) (Z : DX) (tg iter : Expr) (t : DTI) : Prop := PI X tg iter (upI X.K W Z t)
theorem pi_weak {X : Cx} {tg e : Expr} {t t' : TI} (h : PI X tg e t) (i : ∀ σ H R, t' σ H R → t σ H R) : PI X tg e t' := ⟨fun pins s σ H R I q => h.run pins s σ H R I (i σ H R q)⟩
section
variable {X : Cx} {W : WX} {Z : DX} {K : PySem.W.Frag} {e tge : Expr} {te : DTE} {ta : DTA} {pos p : Pos}
/-- over a walk whose items are there already -/
theorem dwalk_at {J : It} {vs : List V} {xs : List Sl} {ok : Om → Prop} {D0 : Hp} {G : Hp → Prop} (wk : Walk J vs.length G (YAt vs)) (hv : SlA K D0 vs xs) (hG : ∀ w D H, StOk K w D H → Same D0 D → ok w → G H) : DWalk K J xs ok D0 := by
  have hl : vs.length = xs.length := Paired.length hv
  refine ⟨fun i w D H hi st sd o => wk.goes i H (by omega) (hG w D H st sd o), fun w D H st sd o => by rw [← hl]; exact wk.stops H (hG w D H st sd o), fun i w D H x H' hi st sd o y => ?_⟩
  obtain ⟨rfl, hx⟩ := wk.yields i H x H' (by omega) (hG w D H st sd o) y
  obtain ⟨s, hs⟩ : ∃ s, xs[i]? = some s := ⟨xs[i], List.getElem?_eq_getElem hi⟩
  obtain ⟨v, h1, h2⟩ := SlA.get hv hs
  rw [hx] at h1
  cases h1
  exact ⟨D, s, Gr.refl _ _ _, st, hs, h2.mono sd⟩
/-- a list or a tuple: one of the store must stand still -/
def okOf (w : Om) : Sl → List Sl → Om → Prop
  | .adr a, xs => fun w' => w' a = some (.lst xs)
  | _, _ => fun _ => True
def dSeqI (te : DTE) : DTI := fun ρ w R => te ρ w fun s w1 => ∃ xs, sq w1 s = some xs ∧ R xs (okOf w1 s xs) w1
theorem pi_or {tg e : Expr} {t t' : TI} (h : PI X tg e t) (h' : PI X tg e t') : PI X tg e (fun σ H R => t σ H R ∨ t' σ H R) := ⟨fun pins s σ H R I q => q.elim (fun q => h.run pins s σ H R I q) (fun q => h'.run pins s σ H R I q)⟩
def iSeq (K : PySem.W.Frag) (te : TE) : TI := fun σ H R => te σ H fun x H1 => ∃ a, x = .ref a ∧ (((∃ xs, SqL K H1 a xs) ∧ R (Itl K a) H1) ∨ ((∃ xs, SqT K H1 a xs) ∧ R (Itt K a) H1))
theorem pi_seq {te : TE} (he : PE X e te) : PI X tge e (iSeq X.K te) := by
  refine ⟨fun pins s σ H R I h => ?_⟩
  refine thn (he.run pins s σ H _ I h) fun u s1 ⟨x, H1, I1, rx, a, ex, q⟩ => ?_
  subst ex
  cases rx
  rcases q with ⟨⟨xs, hx⟩, q⟩ | ⟨⟨xs, hx⟩, q⟩
  · obtain ⟨its, _, pl, _⟩ := I1.list hx
    exact wpAny_pyIter_list pl.isList (pi_one (tk := s1.toks) I1 _ (turn_list a _) ⟨_, Heap.get?_push_size _ rfl, rfl, rfl⟩ q)
  · obtain ⟨its, _, pl, _⟩ := I1.tuple hx
    exact wpAny_pyIter_tuple (show s1.heap.IsTuple a its.toArray from pl) (pi_one (tk := s1.toks) I1 _ (turn_tuple a _) ⟨_, Heap.get?_push_size _ rfl, rfl, rfl⟩ q)
theorem seq_walk {w : Om} {D H : Hp} {s : Sl} {z : V} {xs : List Sl} (st : StOk K w D H) (r : Vr K D z s) (h : sq w s = some xs) :
    ∃ a, z = .ref a ∧ (((∃ vs, SqL K H a vs) ∧ DWalk K (Itl K a) xs (okOf w s xs) D) ∨ ((∃ vs, SqT K H a vs) ∧ DWalk K (Itt K a) xs (okOf w s xs) D)) := by
  cases s with
  | scr ns =>
    cases h
    obtain ⟨a, rfl, q⟩ := r
    exact ⟨a, rfl, .inl ⟨⟨_, Same.seq st.dh q⟩, dwalk_at walk_list (ints_sl ns) fun w' D' H' st' sd _ => Same.seq (sd.trans st'.dh) q⟩⟩
  | wt ds =>
    cases h
    obtain ⟨a, us, rfl, q, hv⟩ := r
    exact ⟨a, rfl, .inr ⟨⟨_, sqT_mono st.dh q⟩, dwalk_at walk_tup hv.sl fun w' D' H' st' sd _ => sqT_mono (sd.trans st'.dh) q⟩⟩
  | adr a =>
    have hw := adr_inv h
    obtain ⟨vs, hH, hv⟩ := st.own a _ hw
    have r' : z = .ref a := r
    subst r'
    refine ⟨a, rfl, .inl ⟨⟨vs, SqL.of hH⟩, ?_⟩⟩
    -- the list's own values may be other ones that say the same
    refine ⟨fun i w' D' H' hi st' sd o => ?_, fun w' D' H' st' sd o => ?_, fun i w' D' H' x H2 hi st' sd o y => ?_⟩
    · obtain ⟨us, hU, hu⟩ := st'.own a _ o
      exact walk_list.goes i H' (by rw [Paired.length hu]; exact hi) (SqL.of (xs := us) hU)
    · obtain ⟨us, hU, hu⟩ := st'.own a _ o
      have := (walk_list (K := K) (a := a) (xs := us)).stops H' (SqL.of hU)
      rw [Paired.length hu] at this
      exact this
    · obtain ⟨us, hU, hu⟩ := st'.own a _ o
      obtain ⟨rfl, hx⟩ := (walk_list (K := K) (a := a) (xs := us)).yields i H' x H2 (by rw [Paired.length hu]; exact hi) (SqL.of hU) y
      obtain ⟨s, hs⟩ : ∃ s, xs[i]? = some s := ⟨xs[i], List.getElem?_eq_getElem hi⟩
      obtain ⟨v, h1, h2⟩ := SlA.get hu hs
      rw [hx] at h1
      cases h1
      exact ⟨D', s, Gr.refl _ _ _, st', hs, h2⟩
  | dat d =>
    cases d with
    | list ds =>
      cases h
      cases r with
      | lst hD hs => exact ⟨_, rfl, .inl ⟨⟨_, SqL.of (st.dh _ _ hD)⟩, dwalk_at walk_list hs.sl fun w' D' H' st' sd _ => SqL.of (st'.dh _ _ (sd _ _ hD))⟩⟩
    | tuple ds =>
      cases h
      cases r with
      | tup hD hs => exact ⟨_, rfl, .inr ⟨⟨_, sqT_mono st.dh hD.sq⟩, dwalk_at walk_tup hs.sl fun w' D' H' st' sd _ => sqT_mono (sd.trans st'.dh) hD.sq⟩⟩
    | none => cases h
    | bool _ => cases h
    | int _ => cases h
    | str _ => cases h
    | dict _ => cases h
theorem di_seq (he : DE X W Z e te) : DI X W Z tge e (dSeqI te) :=
  pi_weak (pi_seq he) fun σ H R ⟨ρ, w, D, R', rp, xo, h, f⟩ => ⟨ρ, w, D, _, rp, xo, h, fun s w1 z D1 H1 h1 g1 s1 r1 => by
    obtain ⟨xs, e, h1⟩ := h1
    obtain ⟨a, rfl, q⟩ := seq_walk s1 r1 e
    rcases q with ⟨q1, q2⟩ | ⟨q1, q2⟩
    · exact ⟨a, rfl, .inl ⟨q1, f xs _ w1 D1 H1 _ h1 g1 s1 q2⟩⟩
    · exact ⟨a, rfl, .inr ⟨q1, f xs _ w1 D1 H1 _ h1 g1 s1 q2⟩⟩⟩
/-- a text, sign by sign -/
def signs (z : Str) : List Sl := z.cps.toList.map fun c => .dat (.str ⟨#[c]⟩)
def dStrI (te : DTE) : DTI := fun ρ w R => te ρ w fun s w1 => ∃ z, s = .dat (.str z) ∧ R (signs z) (fun _ => True) w1
theorem di_str (he : DE X W Z e te) : DI X W Z tge e (dStrI te) :=
  pi_weak (pi_str he) fun σ H R ⟨ρ, w, D, R', rp, xo, h, f⟩ => ⟨ρ, w, D, _, rp, xo, h, fun s w1 v D1 H1 h1 g1 s1 r1 => by
    obtain ⟨z, rfl, h1⟩ := h1
    refine ⟨z, dr_str r1, f _ _ w1 D1 H1 _ h1 g1 s1 ?_⟩
    have hl : (signs z).length = z.cps.size := by simp [signs]
    refine ⟨fun i w' D' H' hi _ _ _ => walk_str.goes i H' (by omega) trivial, fun w' D' H' _ _ _ => by rw [hl]; exact walk_str.stops H' trivial, fun i w' D' H' x H2 hi st' sd o y => ?_⟩
    obtain ⟨rfl, c, hc, rfl⟩ := (walk_str (z := z)).yields i H' x H2 (by omega) trivial y
    exact ⟨D', .dat (.str ⟨#[c]⟩), Gr.refl _ _ _, st', by unfold signs; rw [List.getElem?_map, Array.getElem?_toList, hc]; rfl, .str _⟩⟩
/-- range(n), range(a, b) -/
def irange (lo : Int) (n : Nat) : List Sl := (List.range n).map fun i => .dat (.int (lo + (i : Nat)))
theorem dwalk_range {lo : Int} {n : Nat} {D : Hp} : DWalk K (Itr lo n) (irange lo n) (fun _ => True) D := by
  have hl : (irange lo n).length = n := by simp [irange]
  refine ⟨fun i w' D' H' hi _ _ _ => walk_range.goes i H' (by omega) trivial, fun w' D' H' _ _ _ => by rw [hl]; exact walk_range.stops H' trivial, fun i w' D' H' x H2 hi st' sd o y => ?_⟩
  obtain ⟨rfl, rfl⟩ := (walk_range (lo := lo) (n := n)).yields i H' x H2 (by omega) trivial y
  exact ⟨D', .dat (.int (lo + (i : Nat))), Gr.refl _ _ _, st', by unfold irange; rw [List.getElem?_map, List.getElem?_range (by omega)]; rfl, .int _⟩
def dRng1 (ta : DTA) : DTI := fun ρ w R => ta ρ w fun ss w1 => ∃ j : Int, ss = [.dat (.int j)] ∧ -(2 ^ 62) ≤ j ∧ j < 2 ^ 62 ∧ R (irange 0 j.toNat) (fun _ => True) w1
theorem di_range1 {a : Expr} (hg : Gl X "range") (hm : X.mg "range" = none) (ha : DA X W Z [a] ta) (hs : starEach [a] X.env = [(false, eval a X.env)] := by rfl) : DI X W Z tge (.Call (.Name "range" p) [a] [] pos) (dRng1 ta) :=
  pi_weak (pi_range1 hg hm ha hs) fun σ H R ⟨ρ, w, D, R', rp, xo, h, f⟩ => ⟨ρ, w, D, _, rp, xo, h, fun ss w1 vs D1 H1 h1 g1 s1 rs => by
    obtain ⟨j, rfl, h2, h3, h1⟩ := h1
    obtain ⟨v, rfl, r⟩ := sla1 rs
    cases dr_int r
    exact ⟨j, rfl, h2, h3, f _ _ w1 D1 H1 _ h1 g1 s1 dwalk_range⟩⟩
def dRng2 (ta : DTA) : DTI := fun ρ w R => ta ρ w fun ss w1 => ∃ i j : Int, ss = [.dat (.int i), .dat (.int j)] ∧ (-(2 ^ 62) ≤ i ∧ i < 2 ^ 62 ∧ -(2 ^ 62) ≤ j ∧ j < 2 ^ 62) ∧ R (irange i (j - i).toNat) (fun _ => True) w1
theorem di_range2 {a b : Expr} (hg : Gl X "range") (hm : X.mg "range" = none) (ha : DA X W Z [a, b] ta) (hs : starEach [a, b] X.env = [(false, eval a X.env), (false, eval b X.env)] := by rfl) (hs2 : starEach [b] X.env = [(false, eval b X.env)] := by rfl) : DI X W Z tge (.Call (.Name "range" p) [a, b] [] pos) (dRng2 ta) :=
  pi_weak (pi_range2 hg hm ha hs hs2) fun σ H R ⟨ρ, w, D, R', rp, xo, h, f⟩ => ⟨ρ, w, D, _, rp, xo, h, fun ss w1 vs D1 H1 h1 g1 s1 rs => by
    obtain ⟨i, j, rfl, h2, h1⟩ := h1
    obtain ⟨v, v', rfl, r, r'⟩ := sla2 rs
    cases dr_int r; cases dr_int r'
    exact ⟨i, j, rfl, h2, f _ _ w1 D1 H1 _ h1 g1 s1 dwalk_range⟩⟩
/-! ### for -/
def dLoop (ok : Om → Prop) (g : DTG) (tb : DTS) (F : DEnds) : List Sl → DEnv → Om → Prop
  | [] => fun ρ w => ok w ∧ F.nx ρ w
  | x :: xs => fun ρ w => ok w ∧ g x ρ w fun ρ' w' => tb { F with nx := dLoop ok g tb F xs, ct := dLoop ok g tb F xs, bk := F.nx } ρ' w'
def dFor (wi : DTI) (g : DTG) (tb : DTS) : DTS := fun F ρ w => wi ρ w fun xs ok w1 => dLoop ok g tb F xs ρ w1
theorem ds_for {tg iter : Expr} {body : List Stmt} {wi : DTI} {g : DTG} {tb : DTS} (hp : PassesOwn (model X.prog X.w) X.A X.env X.xe) (hc : X.calm = true) (hi : DI X W Z tg iter wi) (hg : DG X W Z tg g) (hb : DB X W Z body tb)
    (hs : ∀ x, foldedSetIterable iter X.env x = pure x := by intro _; rfl) : DS X W Z (.For tg iter body [] pos) (dFor wi g tb) :=
  ps_weak (ps_for hp hc hi hg hb hs) fun E σ H ⟨ρ, w, D, F, rp, xo, h, eo⟩ => ⟨ρ, w, D, _, rp, xo, h, fun xs ok w1 D1 H1 J h1 g1 s1 wk => by
    refine ⟨fun i m σ' H' => m = xs.length - i ∧ i ≤ xs.length ∧ ∃ ρ' w' D', Rp X.K σ' ρ' w' D' H' ∧ Gr w D H w' D' H' ∧ Same D1 D' ∧ dLoop ok g tb F (xs.drop i) ρ' w', ⟨xs.length, by simp, Nat.zero_le _, ρ, w1, D1, rp.next g1.dd s1, g1, Same.refl _, by rw [List.drop_zero]; exact h1⟩, ?_⟩
    rintro i m σ' H' ⟨rfl, hi, ρ', w', D', rp', g', sd, hl⟩
    by_cases hlt : i < xs.length
    · rw [List.drop_eq_getElem_cons hlt] at hl
      obtain ⟨ho, hl⟩ := hl
      refine .inr ⟨wk.goes i w' D' H' hlt rp'.st sd ho, fun σ2 H2 => ∃ ρ2 w2 D2, Rp X.K σ2 ρ2 w2 D2 H2 ∧ Gr w D H w2 D2 H2 ∧ Same D1 D2 ∧ dLoop ok g tb F (xs.drop (i + 1)) ρ2 w2, fun σ2 H2 ⟨ρ2, w2, D2, r2, g2, sd2, h2⟩ => ⟨xs.length - (i + 1), by omega, rfl, hlt, ρ2, w2, D2, r2, g2, sd2, h2⟩, fun x H2 y => ?_⟩
      obtain ⟨D2, s, g2, st2, hs, r2⟩ := wk.yields i w' D' H' x H2 hlt rp'.st sd ho y
      have es : s = xs[i] := by
        rw [List.getElem?_eq_getElem hlt] at hs
        exact (Option.some.inj hs).symm
      subst es
      refine ⟨xs[i], ρ', w', D2, _, rp'.next g2.dd st2, xo.next (g'.trans g2), r2, hl, fun ρ3 w3 σ3 D3 H3 h3 g3 r3 => ?_⟩
      have gg := (g'.trans g2).trans g3
      have sdd := (sd.trans g2.dd).trans g3.dd
      refine ⟨ρ3, w3, D3, _, r3, xo.next gg, h3, ?_, (eo.next gg).rt, (eo.next gg).nx, ?_⟩
      · exact fun ρ4 w4 σ4 D4 H4 h4 g4 r4 => ⟨ρ4, w4, D4, r4, gg.trans g4, sdd.trans g4.dd, h4⟩
      · exact fun ρ4 w4 σ4 D4 H4 h4 g4 r4 => ⟨ρ4, w4, D4, r4, gg.trans g4, sdd.trans g4.dd, h4⟩
    · have e : i = xs.length := by omega
      subst e
      rw [List.drop_length] at hl
      exact .inl ⟨wk.stops w' D' H' rp'.st sd hl.1, eo.nx ρ' w' σ' D' H' hl.2 g' rp'⟩⟩
/-- a loop by its invariant -/
theorem loop_inv {ok : Om → Prop} {g : DTG} {tb : DTS} {F : DEnds} {xs : List Sl} {ρ : DEnv} {w : Om} (I : List Sl → DEnv → Om → Prop) (h0 : I xs ρ w) (hok : ∀ r ρ w, I r ρ w → ok w)
    (hs : ∀ x r ρ w, I (x :: r) ρ w → (∀ ρ' w', I r ρ' w' → dLoop ok g tb F r ρ' w') → g x ρ w fun ρ' w' => tb { F with nx := dLoop ok g tb F r, ct := dLoop ok g tb F r, bk := F.nx } ρ' w') (hd : ∀ ρ w, I [] ρ w → F.nx ρ w) : dLoop ok g tb F xs ρ w := by
  induction xs generalizing ρ w with
  | nil => exact ⟨hok _ _ _ h0, hd ρ w h0⟩
  | cons x r ih => exact ⟨hok _ _ _ h0, hs x r ρ w h0 fun ρ' w' h => ih h⟩
/-! ### while -/
def dWhile (c : DTT) (tb : DTS) : DTS := fun F ρ w => ∃ I : Nat → DEnv → Om → Prop, (∃ m, I m ρ w) ∧ ∀ m ρ w, I m ρ w →
  c ρ w fun b w1 => if b = true then tb { F with nx := fun ρ' w' => ∃ m', m' < m ∧ I m' ρ' w', ct := fun ρ' w' => ∃ m', m' < m ∧ I m' ρ' w', bk := F.nx } ρ w1 else F.nx ρ w1
theorem ds_while {c : Expr} {body : List Stmt} {tc : DTT} {tb : DTS} (hp : PassesOwn (model X.prog X.w) X.A X.env X.xe) (hc : DT X W Z c tc) (hb : DB X W Z body tb) : DS X W Z (.While c body [] pos) (dWhile tc tb) :=
  ps_weak (ps_while hp hc hb) fun E σ H ⟨ρ, w, D, F, rp, xo, ⟨I, ⟨m0, h0⟩, h⟩, eo⟩ => by
    refine ⟨fun m σ' H' => ∃ ρ' w' D', Rp X.K σ' ρ' w' D' H' ∧ Gr w D H w' D' H' ∧ I m ρ' w', ⟨m0, ρ, w, D, rp, Gr.refl _ _ _, h0⟩, ?_⟩
    rintro m σ' H' ⟨ρ', w', D', rp', g', hI⟩
    refine ⟨ρ', w', D', _, rp', xo.next g', h m ρ' w' hI, fun b w2 D2 H2 h2 g2 s2 => ?_⟩
    have gg := g'.trans g2
    have rp2 := rp'.next g2.dd s2
    cases b with
    | false =>
      rw [if_neg Bool.false_ne_true] at h2
      exact iteF (eo.nx ρ' w2 σ' D2 H2 h2 gg rp2)
    | true =>
      rw [if_pos rfl] at h2
      refine iteT ?_
      refine ⟨fun σ3 H3 => ∃ m', m' < m ∧ ∃ ρ3 w3 D3, Rp X.K σ3 ρ3 w3 D3 H3 ∧ Gr w D H w3 D3 H3 ∧ I m' ρ3 w3, fun σ3 H3 q => q, ρ', w2, D2, _, rp2, xo.next gg, h2, ?_, (eo.next gg).rt, (eo.next gg).nx, ?_⟩
      · exact fun ρ4 w4 σ4 D4 H4 ⟨m', hm, h4⟩ g4 r4 => ⟨m', hm, ρ4, w4, D4, r4, gg.trans g4, h4⟩
      · exact fun ρ4 w4 σ4 D4 H4 ⟨m', hm, h4⟩ g4 r4 => ⟨m', hm, ρ4, w4, D4, r4, gg.trans g4, h4⟩
end
end DL

set_option Elab.async false
set_option linter.all false
set_option maxRecDepth 100000
set_option maxHeartbeats 4000000
namespace DL
open PySem PySem.Spec PyProof.Rows L2
/-! ### targets of a comprehension: they touch the block's own slots alone -/
def wipeD (ρ : DEnv) : List Nat → DEnv
  | [] => ρ
  | v :: vs => (wipeD ρ vs).set v none
theorem wipeD_length (ρ : DEnv) : ∀ vs : List Nat, (wipeD ρ vs).length = ρ.length
  | [] => rfl
  | v :: vs => by unfold wipeD; rw [List.length_set, wipeD_length ρ vs]
theorem wipe_at {σ : L2.St} {i : Nat} : ∀ {vs : List Nat}, i ∈ vs → (wipe σ vs)[i]? = if i < σ.length then some none else none
  | v :: vs, h => by
    unfold wipe
    by_cases e : v = i
    · subst e
      by_cases hl : v < σ.length
      · rw [List.getElem?_set_self (by rw [wipe_length]; exact hl), if_pos hl]
      · rw [List.getElem?_eq_none (by rw [List.length_set, wipe_length]; omega), if_neg hl]
    · rw [List.getElem?_set_ne e]
      exact wipe_at ((List.mem_cons.mp h).resolve_left fun z => e z.symm)
theorem wipe_set {σ : L2.St} {i : Nat} {x : Option V} {vs : List Nat} (h : i ∈ vs) : wipe (σ.set i x) vs = wipe σ vs := by
  apply List.ext_getElem?
  intro j
  by_cases hj : j ∈ vs
  · rw [wipe_at hj, wipe_at hj, List.length_set]
  · rw [wipe_out hj, wipe_out hj, List.getElem?_set_ne (fun e => hj (by rw [← e]; exact h))]
theorem wipe_wipe {σ : L2.St} {vs : List Nat} : wipe (wipe σ vs) vs = wipe σ vs := by
  apply List.ext_getElem?
  intro j
  by_cases hj : j ∈ vs
  · rw [wipe_at hj, wipe_at hj, wipe_length]
  · rw [wipe_out hj, wipe_out hj]
theorem Rp.wipe {K : PySem.W.Frag} {σ : L2.St} {ρ : DEnv} {w : Om} {D H : Hp} (r : Rp K σ ρ w D H) : ∀ vs : List Nat, Rp K (L2.wipe σ vs) (wipeD ρ vs) w D H
  | [] => r
  | v :: vs => by
    have ih := Rp.wipe r vs
    refine ⟨ih.st, by unfold wipeD L2.wipe; rw [List.length_set, List.length_set]; exact ih.len, fun i s e => ?_⟩
    unfold wipeD at e
    unfold L2.wipe
    by_cases z : v = i
    · subst z
      by_cases hl : v < (wipeD ρ vs).length
      · rw [List.getElem?_set_self hl] at e; cases e
      · rw [List.getElem?_eq_none (by rw [List.length_set]; omega)] at e; cases e
    · rw [List.getElem?_set_ne z] at e ⊢
      exact ih.slot i s e
def NxV (K : PySem.W.Frag) (vs : List Nat) (σ : L2.St) (w : Om) (D H : Hp) (f : DEnv → Om → Prop) (q : L2.St → Hp → Prop) : Prop := ∀ ρ' w' σ' D' H', f ρ' w' → Gr w D H w' D' H' → Rp K σ' ρ' w' D' H' → wipe σ' vs = wipe σ vs → q σ' H'
def upV (K : PySem.W.Frag) (W : WX) (Z : DX) (vs : List Nat) (g : DTG) : TG := fun v σ H Q => ∃ s ρ w D R, Rp K σ ρ w D H ∧ XOk K W Z w D H ∧ Vr K D v s ∧ g s ρ w R ∧ NxV K vs σ w D H R Q
def upVs (K : PySem.W.Frag) (W : WX) (Z : DX) (vs : List Nat) (g : DTGs) : TGs := fun us σ H Q => ∃ ss ρ w D R, Rp K σ ρ w D H ∧ XOk K W Z w D H ∧ SlA K D us ss ∧ g ss ρ w R ∧ NxV K vs σ w D H R Q
abbrev DV (X : Cx) (W : WX) (Z : DX) (vs : List Nat) (e : Expr) (g : DTG) : Prop := PG X e (upV X.K W Z vs g)
abbrev DVs (X : Cx) (W : WX) (Z : DX) (vs : List Nat) (es : List Expr) (g : DTGs) : Prop := PGs X es (upVs X.K W Z vs g)
section
variable {X : Cx} {W : WX} {Z : DX} {K : PySem.W.Frag} {vs : List Nat} {a e tge : Expr} {te : DTE} {pos : Pos} {es : List Expr} {tg : DTG} {tgs : DTGs}
theorem dvt_name {i : Nat} {x : Str} (hv : i ∈ vs) (hN : X.N.Nodup) (hi : X.N[i]? = some x) (hx : Loc X.env.scope x) (hf : X.fn x = true ∨ X.env.scope.names.lookup x = some .local := by first | exact .inl rfl | exact .inr rfl | assumption) : DV X W Z vs (.Name x pos) (dName i) :=
  pg_weak (pg_name hN hi hx hf) fun v σ H Q ⟨s, ρ, w, D, R, rp, xo, r, h, n⟩ => n _ w _ D H h (Gr.refl _ _ _) (rp.set i r) (wipe_set hv)
theorem dvs_nil : DVs X W Z vs [] dGNil := pgs_weak pgs_nil fun us σ H Q ⟨ss, ρ, w, D, R, rp, xo, r, ⟨h0, h⟩, n⟩ => by
  subst h0
  cases r
  exact ⟨rfl, n ρ w σ D H h (Gr.refl _ _ _) rp rfl⟩
theorem dvs_cons (h1 : DV X W Z vs e tg) (h2 : DVs X W Z vs es tgs) (hs : (assignEach (e :: es) X.env).map (·.2) = assign e X.env :: (assignEach es X.env).map (·.2) := by rfl) : DVs X W Z vs (e :: es) (dGCons tg tgs) :=
  pgs_weak (pgs_cons h1 h2 hs) fun us σ H Q ⟨ss, ρ, w, D, R, rp, xo, r, h, n⟩ => by
    obtain ⟨s, sr, rfl, h⟩ := h
    cases r with
    | cons r0 rr =>
      exact ⟨_, _, rfl, s, ρ, w, D, _, rp, xo, r0, h, fun ρ1 w1 σ1 D1 H1 h1 g1 r1 ew => ⟨sr, ρ1, w1, D1, R, r1, xo.next g1, SlA.mono g1.dd rr, h1, fun ρ2 w2 σ2 D2 H2 h2 g2 r2 ew2 => n ρ2 w2 σ2 D2 H2 h2 (g1.trans g2) r2 (ew2.trans ew)⟩⟩
theorem dvt_tup {k n : Nat} (hc : X.calm = true) (h : DVs X W Z vs es tgs) (hn : (assignEach es X.env).length = n := by rfl) (hst : (assignEach es X.env).findIdx? (·.1) = none := by rfl) : DV X W Z vs (.Tuple es k pos) (dGTup n tgs) :=
  pg_weak (pg_or (pg_lst hc h hn hst) (pg_tup hc h hn hst)) fun v σ H Q ⟨s, ρ, w, D, R, rp, xo, r, ⟨xs, e, hl, h⟩, n⟩ => by
    obtain ⟨p, us, rfl, hq, hv⟩ := sq_ok rp.st r e
    have hlen : us.length = _ := (Paired.length hv).trans hl
    rcases hq with hq | hq
    · exact .inl ⟨p, us, rfl, hq, hlen, xs, ρ, w, D, R, rp, xo, hv, h, n⟩
    · exact .inr ⟨p, us, rfl, hq, hlen, xs, ρ, w, D, R, rp, xo, hv, h, n⟩
/-- the star's own target within a list of targets -/
theorem dgs_starred {p : Pos} (h : DGs X W Z (a :: es) tgs) (e : (assignEach (.Starred a p :: es) X.env).map (·.2) = (assignEach (a :: es) X.env).map (·.2) := by rfl) : DGs X W Z (.Starred a p :: es) tgs :=
  ⟨fun pins s σ H us vs Q I r q => by rw [e]; exact h.run pins s σ H us vs Q I r q⟩
/-! ### list comprehensions -/
def dYes : DTT := fun _ w R => R true w
abbrev DTs (X : Cx) (W : WX) (Z : DX) (ifs : List Expr) (t : DTT) : Prop := PTs X ifs (upT X.K W Z t)
theorem pts_weak {ifs : List Expr} {t t' : TT} (h : PTs X ifs t) (i : ∀ σ H Q, t' σ H Q → t σ H Q) : PTs X ifs t' := ⟨fun pins s σ H Q I q => h.run pins s σ H Q I (i σ H Q q)⟩
theorem dts_nil : DTs X W Z [] dYes := pts_weak pts_nil fun σ H Q ⟨ρ, w, D, R, rp, xo, h, f⟩ => f true w D H h (Gr.refl _ _ _) rp.st
theorem dts_one {c : Expr} {t : DTT} (h : DT X W Z c t) : DTs X W Z [c] t := pts_one h
def dLcL (ok : Om → Prop) (g : DTG) (tt : DTT) (te : DTE) (ρ : DEnv) (k : List Sl → Om → Prop) : List Sl → List Sl → Om → Prop
  | [] => fun acc w => ok w ∧ k acc w
  | x :: xs => fun acc w => ok w ∧ g x ρ w fun ρ2 w2 => tt ρ2 w2 fun b w3 => if b = true then te ρ2 w3 fun y w4 => acc.length < sizeLine ∧ dLcL ok g tt te ρ k xs (acc ++ [y]) w4 else dLcL ok g tt te ρ k xs acc w3
def dLc (wi : DTI) (g : DTG) (tt : DTT) (te : DTE) (vs : List Nat) : DTE := fun ρ w R => wi ρ w fun xs ok w1 => dLcL ok g tt te (wipeD ρ vs) (fun acc w2 => ∀ p, w2 p = none → R (.adr p) (put w2 p (.lst acc))) xs [] w1
theorem up_lc {wi : DTI} {g : DTG} {tt : DTT} {te : DTE} (σ : L2.St) (H : Hp) (Q : VK) (h : up K W Z (dLc wi g tt te vs) σ H Q) : tLc (upI K W Z wi) (upV K W Z vs g) (upT K W Z tt) (up K W Z te) vs σ H Q := by
  obtain ⟨ρ, w, D, R, rp, xo, h, f⟩ := h
  refine ⟨ρ, w, D, _, rp, xo, h, fun xs ok w1 D1 H1 J h1 g1 s1 wk L hL => ?_⟩
  have wL : w1 L = none := s1.freeW hL
  have dL : D1 L = none := s1.freeD hL
  have HL : H L = none := by
    cases e : H L with
    | none => rfl
    | some o => exact absurd hL (g1.dm L (by rw [e]; intro z; cases z))
  refine ⟨fun i m H' => m = xs.length - i ∧ i ≤ xs.length ∧ ∃ w' D' acc vacc, StOk K w' D' H' ∧ Gr w D H w' D' H' ∧ Same D1 D' ∧ w' L = none ∧ D' L = none ∧ H' L = some (.lst vacc) ∧ SlA K D' vacc acc ∧ dLcL ok g tt te (wipeD ρ vs) (fun acc w2 => ∀ p, w2 p = none → R (.adr p) (put w2 p (.lst acc))) (xs.drop i) acc w',
    ⟨xs.length, by simp, Nat.zero_le _, w1, D1, [], [], s1.junk wL dL, g1.junk HL, Same.refl _, wL, dL, upd_same, .nil, by rw [List.drop_zero]; exact h1⟩, ?_⟩
  rintro i m H' ⟨rfl, hi, w', D', acc, vacc, st', g', sd, nw, nd, hl, hv, hq⟩
  by_cases hlt : i < xs.length
  · rw [List.drop_eq_getElem_cons hlt] at hq
    obtain ⟨ho, hq⟩ := hq
    refine .inr ⟨wk.goes i w' D' H' hlt st' sd ho, fun H2 => ∃ w2 D2 acc vacc, StOk K w2 D2 H2 ∧ Gr w D H w2 D2 H2 ∧ Same D1 D2 ∧ w2 L = none ∧ D2 L = none ∧ H2 L = some (.lst vacc) ∧ SlA K D2 vacc acc ∧ dLcL ok g tt te (wipeD ρ vs) (fun acc w2 => ∀ p, w2 p = none → R (.adr p) (put w2 p (.lst acc))) (xs.drop (i + 1)) acc w2,
      fun H2 q => ⟨xs.length - (i + 1), by omega, rfl, hlt, q⟩, fun x H2 y => ?_⟩
    obtain ⟨D2, s, g2, st2, hs, r2⟩ := wk.yields i w' D' H' x H2 hlt st' sd ho y
    have es : s = xs[i] := by
      rw [List.getElem?_eq_getElem hlt] at hs
      exact (Option.some.inj hs).symm
    subst es
    have nn : ∀ {wx : Om} {Dx Hx : Hp}, Gr w' D' H' wx Dx Hx → wx L = none ∧ Dx L = none ∧ Hx L = some (.lst vacc) := fun gx =>
      have hne : H' L ≠ none := by rw [hl]; intro z; cases z
      ⟨gx.nw L hne nw, gx.nd L hne nw nd, gx.fr L _ hl nw⟩
    have rpw : Rp K (L2.wipe σ vs) (wipeD ρ vs) w' D2 H2 := (rp.wipe vs).next (g'.dd.trans g2.dd) st2
    refine ⟨xs[i], wipeD ρ vs, w', D2, _, rpw, xo.next (g'.trans g2), r2, hq, fun ρ3 w3 σ3 D3 H3 h3 g3 r3 ew => ⟨ew.trans wipe_wipe, ?_⟩⟩
    have g23 := g2.trans g3
    refine ⟨ρ3, w3, D3, _, r3, xo.next (g'.trans g23), h3, fun b w4 D4 H4 h4 g4 s4 => ?_⟩
    have g24 := g23.trans g4
    cases b with
    | false =>
      rw [if_neg Bool.false_ne_true] at h4
      obtain ⟨n1, n2, n3⟩ := nn g24
      exact iteF ⟨w4, D4, acc, vacc, s4, g'.trans g24, sd.trans g24.dd, n1, n2, n3, SlA.mono g24.dd hv, h4⟩
    | true =>
      rw [if_pos rfl] at h4
      refine iteT ⟨ρ3, w4, D4, _, r3.next g4.dd s4, xo.next (g'.trans g24), h4, fun y w5 z D5 H5 h5 g5 s5 r5 => ?_⟩
      have g25 := g24.trans g5
      obtain ⟨n1, n2, n3⟩ := nn g25
      have hlen : vacc.length = acc.length := Paired.length hv
      exact ⟨vacc, n3, by rw [hlen]; exact h5.1, w5, D5, acc ++ [y], vacc ++ [z], s5.junk n1 n2, (g'.trans g25).junk HL, sd.trans g25.dd, n1, n2, upd_same, SlA.snoc (SlA.mono g25.dd hv) r5, h5.2⟩
  · have e : i = xs.length := by omega
    subst e
    rw [List.drop_length] at hq
    refine .inl ⟨wk.stops w' D' H' st' sd hq.1, ?_⟩
    have st2 : StOk K (put w' L (.lst acc)) D' H' := by
      refine ⟨st'.dh, fun a o q => ?_, fun a o q => ?_⟩
      · by_cases z : a = L
        · subst z; rw [put_same] at q; cases q; exact ⟨vacc, hl, hv⟩
        · rw [put_ne z] at q; exact st'.own a o q
      · by_cases z : a = L
        · subst z; exact nd
        · rw [put_ne z] at q; exact st'.sep a o q
    have g2 : Gr w D H (put w' L (.lst acc)) D' H' := ⟨g'.dd, g'.fr, fun a q n => by
      have : a ≠ L := fun z => q (by rw [z]; exact HL)
      rw [put_ne this]; exact g'.nw a q n, g'.nd, g'.dm⟩
    exact f (.adr L) _ (.ref L) D' H' (hq.2 L nw) g2 st2 rfl
theorem de_lc {elt tg iter : Expr} {ifs : List Expr} {scope : Scope} {own : List (Str × Nat)} {wi : DTI} {g : DTG} {tt : DTT} {te : DTE} (hc : X.calm = true) (hN : X.N.Nodup) (hi : DI X W Z tg iter wi) (ok : BlkOk X.N X.env.scope scope own)
    (hg : ∀ (s : Shared) (H : Hp) (C : Addr) (cl : List (Str × Addr)) (fp : List Addr), DV (X.blk s H scope (compEnvC scope cl C X.env) fp) W Z (own.map (·.2)) tg g) (ht : ∀ (s : Shared) (H : Hp) (C : Addr) (cl : List (Str × Addr)) (fp : List Addr), DTs (X.blk s H scope (compEnvC scope cl C X.env) fp) W Z ifs tt)
    (he : ∀ (s : Shared) (H : Hp) (C : Addr) (cl : List (Str × Addr)) (fp : List Addr), DE (X.blk s H scope (compEnvC scope cl C X.env) fp) W Z elt te) (hs : ∀ x, foldedSetIterable iter X.env x = pure x := by intro _; rfl) :
    DE X W Z (.ListComp elt [⟨tg, iter, ifs, 0⟩] scope pos) (dLc wi g tt te (own.map (·.2))) := pe_weak (pe_lc hc hN hi ok hg ht he hs) fun σ H Q h => up_lc σ H Q h
theorem ds_setLc {i : Nat} {y : Str} {py spos : Pos} {elt tg iter : Expr} {ifs : List Expr} {scope : Scope} {own : List (Str × Nat)} {wi : DTI} {g : DTG} {tt : DTT} {te : DTE} (hc : X.calm = true) (hN : X.N.Nodup) (hy : X.N[i]? = some y) (hyl : X.env.scope.names.lookup y = some .local)
    (hsw : swapsWith (.ListComp elt [⟨tg, iter, ifs, 0⟩] scope pos) (some (.Name y py)) spos.line X.env = pure true) (hi : DI X W Z tg iter wi) (ok : BlkOk X.N X.env.scope scope own)
    (hg : ∀ (s : Shared) (H : Hp) (C : Addr) (cl : List (Str × Addr)) (fp : List Addr), DV (X.blk s H scope (compEnvC scope cl C X.env) fp) W Z (own.map (·.2)) tg g) (ht : ∀ (s : Shared) (H : Hp) (C : Addr) (cl : List (Str × Addr)) (fp : List Addr), DTs (X.blk s H scope (compEnvC scope cl C X.env) fp) W Z ifs tt)
    (he : ∀ (s : Shared) (H : Hp) (C : Addr) (cl : List (Str × Addr)) (fp : List Addr), DE (X.blk s H scope (compEnvC scope cl C X.env) fp) W Z elt te) (hs : ∀ x, foldedSetIterable iter X.env x = pure x := by intro _; rfl) :
    DS X W Z (.Assign [.Name y py] (.ListComp elt [⟨tg, iter, ifs, 0⟩] scope pos) spos) (dAsg (dLc wi g tt te (own.map (·.2))) (dName i)) :=
  ps_weak (ps_setLc hc hN hy hyl hsw hi ok hg ht he hs) fun E σ H ⟨ρ, w, D, F, rp, xo, h, eo⟩ => up_lc σ H _ ⟨ρ, w, D, _, rp, xo, h, fun s w1 v D1 H1 h1 g1 s1 r1 => eo.nx _ w1 _ D1 H1 h1 g1 ((rp.next g1.dd s1).set i r1)⟩
end
end DL

set_option Elab.async false
set_option linter.all false
set_option maxRecDepth 100000
set_option maxHeartbeats 4000000
namespace DL
open PySem PySem.Spec PyProof.Rows L2
section
variable {X : Cx} {W : WX} {Z : DX} {K : PySem.W.Frag} {a b c e : Expr} {ta tb te : DTE} {pos : Pos} {es : List Expr} {tr : DTA}
/-! ### order: whole numbers, texts -/
def ordS (ci : Int → Int → Bool) (cs : List Nat → List Nat → Bool) : G2 := fun _ x y => match x, y with
  | .dat (.int i), .dat (.int j) => some (.v (.dat (.bool (ci i j))))
  | .dat (.str i), .dat (.str j) => some (.v (.dat (.bool (cs i.cps.toList j.cps.toList))))
  | _, _ => none
abbrev ltS : G2 := ordS (fun i j => decide (i < j)) fun i j => decide (i < j)
abbrev leS : G2 := ordS (fun i j => decide (i ≤ j)) fun i j => !decide (j < i)
abbrev gtS : G2 := ordS (fun i j => decide (j < i)) fun i j => decide (j < i)
abbrev geS : G2 := ordS (fun i j => decide (j ≤ i)) fun i j => !decide (i < j)
def rOrd (ci : Int → Int → Bool) (cs : List Nat → List Nat → Bool) : R2 := fun x y H Q => (rI0 (fun i j => V.bl (ci i j)) x y H Q) ∨ (∃ i j, x = .str i ∧ y = .str j ∧ Q (.bl (cs i.cps.toList j.cps.toList)) H)
theorem ov_ord {ci : Int → Int → Bool} {cs : List Nat → List Nat → Bool} : OpV K (rOrd ci cs) (ordS ci cs) := fun x y v u w D H o R Q st rx ry e ho f => by
  unfold ordS at e
  split at e
  · cases e
    exact .inl ⟨_, _, dr_int rx, dr_int ry, f.d st ho (.bl _)⟩
  · cases e
    exact .inr ⟨_, _, dr_str rx, dr_str ry, f.d st ho (.bl _)⟩
  · cases e
theorem op_ltO : OpR X (compareOp .Lt) (rOrd (fun i j => decide (i < j)) fun i j => decide (i < j)) := OpR.or op_lt op_lt_str
theorem op_leO : OpR X (compareOp .LtE) (rOrd (fun i j => decide (i ≤ j)) fun i j => !decide (j < i)) := OpR.or op_le op_le_str
theorem op_gtO : OpR X (compareOp .Gt) (rOrd (fun i j => decide (j < i)) fun i j => decide (j < i)) := OpR.or op_gt op_gt_str
theorem op_geO : OpR X (compareOp .GtE) (rOrd (fun i j => decide (j ≤ i)) fun i j => !decide (i < j)) := OpR.or op_ge op_ge_str
theorem de_lt (ha : DE X W Z a ta) (hb : DE X W Z b tb) : DE X W Z (.Compare a [.Lt] [b] pos) (dOp ltS ta tb) := de_cmp op_ltO ov_ord ha hb (nomark _)
theorem de_le (ha : DE X W Z a ta) (hb : DE X W Z b tb) : DE X W Z (.Compare a [.LtE] [b] pos) (dOp leS ta tb) := de_cmp op_leO ov_ord ha hb (nomark _)
theorem de_gt (ha : DE X W Z a ta) (hb : DE X W Z b tb) : DE X W Z (.Compare a [.Gt] [b] pos) (dOp gtS ta tb) := de_cmp op_gtO ov_ord ha hb (nomark _)
theorem de_ge (ha : DE X W Z a ta) (hb : DE X W Z b tb) : DE X W Z (.Compare a [.GtE] [b] pos) (dOp geS ta tb) := de_cmp op_geO ov_ord ha hb (nomark _)
theorem dt_lt (ha : DE X W Z a ta) (hb : DE X W Z b tb) : DT X W Z (.Compare a [.Lt] [b] pos) (dTst (dOp ltS ta tb)) := dt_cmp op_ltO ov_ord ha hb (nomark _)
theorem dt_le (ha : DE X W Z a ta) (hb : DE X W Z b tb) : DT X W Z (.Compare a [.LtE] [b] pos) (dTst (dOp leS ta tb)) := dt_cmp op_leO ov_ord ha hb (nomark _)
theorem dt_gt (ha : DE X W Z a ta) (hb : DE X W Z b tb) : DT X W Z (.Compare a [.Gt] [b] pos) (dTst (dOp gtS ta tb)) := dt_cmp op_gtO ov_ord ha hb (nomark _)
theorem dt_ge (ha : DE X W Z a ta) (hb : DE X W Z b tb) : DT X W Z (.Compare a [.GtE] [b] pos) (dTst (dOp geS ta tb)) := dt_cmp op_geO ov_ord ha hb (nomark _)
/-! ### in, not in: a flat thing in a list or tuple of flat ones; a sign in a text -/
def flatD : PyData → Bool
  | .none => true
  | .bool _ => true
  | .int _ => true
  | .str _ => true
  | _ => false
def inD (n : Bool) (d : PyData) (ds : List PyData) : Bool := if n then !(ds.any fun y => PyData.eqv y d) else ds.any fun y => PyData.eqv y d
def inS (n : Bool) : G2 := fun w x y => match x, y with
  | .dat (.str z), .dat (.str t) => match z.cps.toList with
    | [c] => some (.v (.dat (.bool (if n then !decide (c ∈ t.cps.toList) else decide (c ∈ t.cps.toList)))))
    | _ => none
  | .dat d, y => (sq w y).bind fun xs => (xs.mapM datOf).bind fun ds => if flatD d && ds.all flatD then some (.v (.dat (.bool (inD n d ds)))) else none
  | _, _ => none
def rInAll (K : PySem.W.Frag) (n : Bool) : R2 := fun x y H Q => rIn K n x y H Q ∨ (∃ (c : Nat) (z : Str), x = .str ⟨#[c]⟩ ∧ y = .str z ∧ Q (.bl (if n then !decide (c ∈ z.cps.toList) else decide (c ∈ z.cps.toList))) H)
theorem op_inAll : OpR X (compareOp .In) (rInAll X.K false) := OpR.or op_in_seq (fun pins s σ H x y v u Q I rx ry h => op_in_sign pins s σ H x y v u Q I rx ry h)
theorem op_notInAll : OpR X (compareOp .NotIn) (rInAll X.K true) := OpR.or op_notIn_seq (fun pins s σ H x y v u Q I rx ry h => op_notIn_sign pins s σ H x y v u Q I rx ry h)
theorem flat_of {D : Hp} {v : V} {d : PyData} (r : Dr K D v d) (h : flatD d = true) : flatV v = true := by
  cases r <;> first | rfl | cases h
theorem eqV_of {D : Hp} {v u : V} {d e : PyData} (r : Dr K D v d) (s : Dr K D u e) (h : flatD d = true) (h' : flatD e = true) : eqV v u = PyData.eqv d e := by
  cases r <;> first | (cases h; done) | (cases s <;> first | (cases h'; done) | (unfold PyData.eqv; rfl) | rfl)
theorem inV_of {D : Hp} {v : V} {d : PyData} (r : Dr K D v d) (h : flatD d = true) : ∀ {vs : List V} {ds : List PyData}, DrA K D vs ds → ds.all flatD = true → vs.all flatV = true ∧ inV v vs = ds.any fun y => PyData.eqv y d
  | _, _, .nil, _ => ⟨rfl, rfl⟩
  | _, _, .cons q t, ha => by
    rw [List.all_cons, Bool.and_eq_true] at ha
    obtain ⟨h1, h2⟩ := inV_of r h t ha.2
    refine ⟨by rw [List.all_cons, flat_of q ha.1, h1]; rfl, ?_⟩
    unfold inV at h2 ⊢
    rw [List.any_cons, List.any_cons, h2, eqV_of q r ha.1 h]
theorem str_one {z : Str} {c : Nat} (h : z.cps.toList = [c]) : z = ⟨#[c]⟩ := by
  obtain ⟨cps⟩ := z
  have : cps = #[c] := by
    apply Array.toList_inj.mp
    rw [h]
  rw [this]
theorem ov_in {n : Bool} : OpV K (rInAll K n) (inS n) := fun x y v u w D H o R Q st rx ry e ho f => by
  have sc : ∀ d, x = .dat d → ((sq w y).bind fun xs => (xs.mapM datOf).bind fun ds => if flatD d && ds.all flatD then some (Ou.v (.dat (.bool (inD n d ds)))) else none) = some o → rInAll K n v u H Q := fun d ex e2 => by
    clear e
    subst ex
    cases q : sq w y with
    | none => rw [q] at e2; cases e2
    | some xs =>
      rw [q] at e2
      have e3 : ((xs.mapM datOf).bind fun ds => if flatD d && ds.all flatD then some (Ou.v (.dat (.bool (inD n d ds)))) else none) = some o := e2
      cases q2 : xs.mapM datOf with
      | none => rw [q2] at e3; cases e3
      | some ds =>
        rw [q2] at e3
        have e4 : (if flatD d && ds.all flatD then some (Ou.v (.dat (.bool (inD n d ds)))) else none) = some o := e3
        by_cases hf : (flatD d && ds.all flatD) = true
        · rw [if_pos hf] at e4
          cases e4
          rw [Bool.and_eq_true] at hf
          have ex := mapM_dat q2
          subst ex
          obtain ⟨p, us, rfl, hq, hv⟩ := sq_ok st ry q
          obtain ⟨h1, h2⟩ := inV_of rx hf.1 (SlA.dat hv) hf.2
          refine .inl ⟨p, us, rfl, hq, flat_of rx hf.1, h1, ?_⟩
          rw [h2]
          exact f.d st ho (.bl _)
        · rw [if_neg hf] at e4; cases e4
  unfold inS at e
  split at e
  · rename_i z t
    split at e
    · rename_i cc hz
      cases e
      cases dr_str rx; cases dr_str ry
      exact .inr ⟨_, t, by rw [str_one hz], rfl, f.d st ho (.bl _)⟩
    · cases e
  · exact sc _ rfl e
  · cases e
theorem de_in (ha : DE X W Z a ta) (hb : DE X W Z b tb) (hm : behindInMarks .In b = false := by rfl) : DE X W Z (.Compare a [.In] [b] pos) (dOp (inS false) ta tb) := de_cmp op_inAll ov_in ha hb hm
theorem de_notIn (ha : DE X W Z a ta) (hb : DE X W Z b tb) (hm : behindInMarks .NotIn b = false := by rfl) : DE X W Z (.Compare a [.NotIn] [b] pos) (dOp (inS true) ta tb) := de_cmp op_notInAll ov_in ha hb hm
theorem dt_in (ha : DE X W Z a ta) (hb : DE X W Z b tb) (hm : behindInMarks .In b = false := by rfl) : DT X W Z (.Compare a [.In] [b] pos) (dTst (dOp (inS false) ta tb)) := dt_cmp op_inAll ov_in ha hb hm
theorem dt_notIn (ha : DE X W Z a ta) (hb : DE X W Z b tb) (hm : behindInMarks .NotIn b = false := by rfl) : DT X W Z (.Compare a [.NotIn] [b] pos) (dTst (dOp (inS true) ta tb)) := dt_cmp op_notInAll ov_in ha hb hm
/-! ### is, is not: None, truths -/
def isNone : Sl → Bool
  | .dat .none => true
  | _ => false
def isS' (n : Bool) : G2 := fun _ x y => match y with
  | .dat .none => some (.v (.dat (.bool (isNone x != n))))
  | .dat (.bool k) => match x with
    | .dat (.bool j) => some (.v (.dat (.bool (decide (j = k) != n))))
    | _ => none
  | _ => none
theorem isNone_of {D : Hp} {v : V} {s : Sl} (r : Vr K D v s) : decide (v = .non) = isNone s := by
  cases s with
  | adr a => have r' : v = .ref a := r; subst r'; rfl
  | scr ns => obtain ⟨a, rfl, _⟩ := r; rfl
  | wt ns => obtain ⟨a, xs, rfl, _⟩ := r; rfl
  | dat d => cases r <;> rfl
def rIsA : R2 := fun x y H Q => (y = .non ∧ Q (.bl (decide (x = .non))) H) ∨ rIsB x y H Q
def rNotA : R2 := fun x y H Q => (y = .non ∧ Q (.bl (!decide (x = .non))) H) ∨ rNotB x y H Q
theorem op_isA : OpR X (compareOp .Is) rIsA := OpR.or op_isN op_isBl
theorem op_notA : OpR X (compareOp .IsNot) rNotA := OpR.or op_notN op_notBl
theorem ov_is : OpV K rIsA (isS' false) := fun x y v u w D H o R Q st rx ry e ho f => by
  unfold isS' at e
  split at e
  · cases e
    refine .inl ⟨dr_none ry, ?_⟩
    rw [isNone_of rx]
    have h : R (.dat (.bool (isNone x != false))) w := ho
    rw [Bool.bne_false] at h
    exact f.d st h (.bl _)
  · rename_i k
    split at e
    · rename_i j
      cases e
      cases dr_bool rx; cases dr_bool ry
      refine .inr ⟨j, k, rfl, rfl, ?_⟩
      have h : R (.dat (.bool (decide (j = k) != false))) w := ho
      rw [Bool.bne_false] at h
      exact f.d st h (.bl _)
    · cases e
  · cases e
theorem ov_isNot : OpV K rNotA (isS' true) := fun x y v u w D H o R Q st rx ry e ho f => by
  unfold isS' at e
  split at e
  · cases e
    refine .inl ⟨dr_none ry, ?_⟩
    rw [isNone_of rx]
    have h : R (.dat (.bool (isNone x != true))) w := ho
    rw [Bool.bne_true] at h
    exact f.d st h (.bl _)
  · rename_i k
    split at e
    · rename_i j
      cases e
      cases dr_bool rx; cases dr_bool ry
      refine .inr ⟨j, k, rfl, rfl, ?_⟩
      have h : R (.dat (.bool (decide (j = k) != true))) w := ho
      rw [Bool.bne_true] at h
      exact f.d st h (.bl _)
    · cases e
  · cases e
theorem de_is (ha : DE X W Z a ta) (hb : DE X W Z b tb) : DE X W Z (.Compare a [.Is] [b] pos) (dOp (isS' false) ta tb) := de_cmp op_isA ov_is ha hb (nomark _)
theorem de_isNot (ha : DE X W Z a ta) (hb : DE X W Z b tb) : DE X W Z (.Compare a [.IsNot] [b] pos) (dOp (isS' true) ta tb) := de_cmp op_notA ov_isNot ha hb (nomark _)
theorem dt_is (ha : DE X W Z a ta) (hb : DE X W Z b tb) : DT X W Z (.Compare a [.Is] [b] pos) (dTst (dOp (isS' false) ta tb)) := dt_cmp op_isA ov_is ha hb (nomark _)
theorem dt_isNot (ha : DE X W Z a ta) (hb : DE X W Z b tb) : DT X W Z (.Compare a [.IsNot] [b] pos) (dTst (dOp (isS' true) ta tb)) := dt_cmp op_notA ov_isNot ha hb (nomark _)
/-! ### {}: data -/
def dDic0 : DTE := fun _ w R => R (.dat (.dict [])) w
theorem de_dic0 : DE X W Z (.Dict [] [] pos) dDic0 := pe_weak pe_dnewK fun σ H Q ⟨ρ, w, D, R, rp, xo, h, f⟩ p hp => f (.dat (.dict [])) w (.ref p) (upd D p (.dK [])) (upd H p (.dK [])) h (Gr.newD rp.st hp) (rp.st.newD hp) (.dct upd_same)
/-! ### texts: upper -/
def dUpper (te : DTE) : DTE := fun ρ w R => te ρ w fun s w1 => ∃ z, s = .dat (.str z) ∧ z.length ≤ 5592405 ∧ R (.dat (.str (Txt.upper z))) w1
theorem de_upper {apos : Pos} (he : DE X W Z e te) (hbase : attributeBase e "upper" X.env (eval e X.env) = eval e X.env := by rfl) (hline : (apos.endLine == pos.line) = true := by rfl) : DE X W Z (.Call (.Attribute e "upper" apos) [] [] pos) (dUpper te) :=
  pe_weak (pe_upper he hbase hline) fun σ H Q ⟨ρ, w, D, R, rp, xo, h, f⟩ => ⟨ρ, w, D, _, rp, xo, h, fun s w1 v D1 H1 h1 g1 s1 r1 => by
    obtain ⟨z, rfl, hz, h1⟩ := h1
    cases dr_str r1
    exact ⟨⟨z, rfl⟩, z, rfl, rfl, hz, (f.next g1).d s1 h1 (.str _)⟩⟩
/-! ### a dict of the written part, with texts for keys -/
structure KDic (K : PySem.W.Frag) (wd : World) (d : Addr) (kvs : List (Str × Sl)) : Prop where
  ex : ∃ (es : Array DictEntry) (n : Nat), K.lookup d = some ⟨.type "dict", none, .dict es n, #[]⟩ ∧ PySem.W.KeysLit wd.params es.toList ∧
    Paired (fun (p : Str × Sl) (e : DictEntry) => (∃ t, e.key = .str p.1 t) ∧ ∃ v, RelV v e.val ∧ ∀ D, Vr K D v p.2) kvs es.toList
  low : (d == sysModules) = false
theorem kdic_find {d : Addr} {kvs : List (Str × Sl)} : ∀ {l : List DictEntry}, Paired (fun (p : Str × Sl) (e : DictEntry) => (∃ t, e.key = .str p.1 t) ∧ ∃ v, RelV v e.val ∧ ∀ D, Vr K D v p.2) kvs l → ∀ z : Str,
    match kvs.lookup z with
    | some s => ∃ u v, (l.find? fun e => Value.isStrOf z e.key).map (·.val) = some u ∧ RelV v u ∧ ∀ D, Vr K D v s
    | none => (l.find? fun e => Value.isStrOf z e.key).map (·.val) = none := by
  intro l h
  induction h with
  | nil => intro z; rfl
  | @cons p e ps es q t ih =>
    intro z
    obtain ⟨k, s⟩ := p
    obtain ⟨⟨tk, hk⟩, v, rv, hv⟩ := q
    by_cases hz : z = k
    · subst hz
      have e1 : List.lookup z ((z, s) :: ps) = some s := by simp [List.lookup]
      rw [e1]
      refine ⟨e.val, v, ?_, rv, hv⟩
      have e2 : Value.isStrOf z e.key = true := by rw [hk]; simp [Value.isStrOf]
      rw [List.find?_cons_of_pos (by simpa using e2)]
      rfl
    · have e0 : (z == k) = false := beq_eq_false_iff_ne.mpr hz
      have e1 : List.lookup z ((k, s) :: ps) = List.lookup z ps := by simp [List.lookup, e0]
      rw [e1]
      have e2 : ¬ Value.isStrOf z e.key = true := by
        rw [hk]
        simp [Value.isStrOf]
        intro q
        first | exact hz q | exact hz q.symm
      rw [List.find?_cons_of_neg (by simpa using e2)]
      exact ih z
/-- d.get(k) of a written dict -/
def dKGet (kvs : List (Str × Sl)) (te : DTE) : DTE := fun ρ w R => te ρ w fun s w1 => ∃ z, s = .dat (.str z) ∧ R ((kvs.lookup z).getD (.dat .none)) w1
theorem de_kget {d : Addr} {kvs : List (Str × Sl)} {x : Str} {p apos : Pos} (D : KDic X.K X.w d kvs) (hg : Gl X x) (hm : X.mg x = some (.ref d)) (he : DE X W Z e te) (m : M1 X (.Name x p) "get" apos e pos) (hd : (x == ("__debug__" : Str)) = false := by decide) :
    DE X W Z (.Call (.Attribute (.Name x p) "get" apos) [e] [] pos) (dKGet kvs te) := by
  obtain ⟨⟨ar, n, hl, hk, hp⟩, low⟩ := D
  refine ⟨fun pins s σ H Q I h => ?_⟩
  obtain ⟨ρ, w, D, R, rp, xo, h, f⟩ := h
  have mp := PySem.W.mapOf_K (prog := X.prog) (w := X.w) I.kIn hl hk
  refine wpAny_Call_method m.base m.few m.line PySem.F.plainAttrs_dict PySem.F.slot_dict_get PySem.F.type_dict_get (ld_glob I hg hm ?_ hd)
  refine ⟨mp.typeIs, fun b q => ⟨_, I.kIn _ _ (by cases q; exact hl), rfl⟩, ?_⟩
  rw [m.trees]
  refine Calls.callWith_builtin rfl (Calls.evalArgs_plain (Calls.spliced_cons (thn (he.run pins s σ H (fun v H1 => ∃ z, v = .str z ∧ ∀ u, (∀ D1, Vr X.K D1 u ((kvs.lookup z).getD (.dat .none))) → Q u H1) I ⟨ρ, w, D, _, rp, xo, h, fun s w1 v D1 H1 h1 g1 s1 r1 => ?_⟩) fun iv s2 ⟨y, H2, I2, ry, z, ey, q2⟩ => Calls.spliced_nil ?_)))
  · obtain ⟨z, rfl, h1⟩ := h1
    exact ⟨z, dr_str r1, fun u hu => (f.next g1).v s1 h1 (hu D1)⟩
  · subst ey
    obtain ⟨t, rfl⟩ := ry
    have mp2 := PySem.W.mapOf_K (prog := X.prog) (w := X.w) I2.kIn hl hk
    refine call_meetsIn PySem.F.slot_dict_get mp2.typeIs PySem.F.entry_dict_get (PySem.F.args_dict_get_2 _ _) (meets_dict_get (strKind X.prog X.w) d (strKind_is X.prog X.w z t) low) ⟨_, mp2, ?_⟩
    have kf := kdic_find (K := X.K) (d := d) hp z
    have ff : findBy Value.isStrOf ar z = (ar.toList.find? fun e => Value.isStrOf z e.key).map (·.val) := by
      unfold findBy
      rw [← List.find?_toArray, Array.toArray_toList]
    rw [ff]
    cases q : kvs.lookup z with
    | none =>
      rw [q] at kf
      rw [kf]
      exact ⟨.non, H2, I2.tok _, rfl, q2 .non (by rw [q]; exact fun _ => .non)⟩
    | some s =>
      rw [q] at kf
      obtain ⟨u, v, h1, h2, h3⟩ := kf
      rw [h1]
      exact ⟨v, H2, I2.tok _, h2, q2 v (by rw [q]; exact h3)⟩
/-- d[k] of a written dict -/
def dKIx (kvs : List (Str × Sl)) (te : DTE) : DTE := fun ρ w R => te ρ w fun s w1 => ∃ z r, s = .dat (.str z) ∧ kvs.lookup z = some r ∧ R r w1
theorem de_kix {d : Addr} {kvs : List (Str × Sl)} {x : Str} {p : Pos} (D : KDic X.K X.w d kvs) (hg : Gl X x) (hm : X.mg x = some (.ref d)) (he : DE X W Z e te) (hs : PlainIx e) (hd : (x == ("__debug__" : Str)) = false := by decide) :
    DE X W Z (.Subscript (.Name x p) e pos) (dKIx kvs te) := by
  obtain ⟨⟨ar, n, hl, hk, hp⟩, low⟩ := D
  refine pe_weak (pe_ix ix_kdict (pe_glob (v := .ref d) hg hm rfl hd) he hs) fun σ H Q ⟨ρ, w, D, R, rp, xo, h, f⟩ => ?_
  refine ⟨ρ, w, D, _, rp, xo, h, fun s w1 v D1 H1 h1 g1 s1 r1 => ?_⟩
  obtain ⟨z, r, rfl, hz, h1⟩ := h1
  cases dr_str r1
  have kf := kdic_find (K := X.K) (d := d) hp z
  rw [hz] at kf
  obtain ⟨u, v, k1, k2, k3⟩ := kf
  refine ⟨d, z, v, rfl, rfl, ⟨ar, n, u, hl, hk, ?_, k2⟩, (f.next g1).v s1 h1 (k3 D1)⟩
  unfold PySem.W.nsIn
  rw [hl]
  have qf : (fun d : DictEntry => Value.isStrOf z d.key) = fun d => d.key.isStr z := funext fun d => (PySem.W.isStr_of z d.key).symm
  rw [qf] at k1
  show (match ar.toList.find? (fun d => d.key.isStr z) with | some e => some (some e.val) | none => if ar.toList.any (·.refKey) then none else some none) = _
  cases q : ar.toList.find? (fun d => d.key.isStr z) with
  | none => rw [q] at k1; cases k1
  | some en =>
    rw [q] at k1
    have : en.val = u := Option.some.inj k1
    show some (some en.val) = some (some u)
    rw [this]
end
end DL

set_option Elab.async false
set_option linter.all false
set_option maxRecDepth 100000
set_option maxHeartbeats 4000000
namespace DL
open PySem PySem.Spec PyProof.Rows L2
section
variable {X : Cx} {W : WX} {Z : DX} {K : PySem.W.Frag} {a b c e : Expr} {ta tb te : DTE} {pos : Pos}
/-! ### == and != beside an empty list or tuple: whatever the other one holds -/
def rEqE (K : PySem.W.Frag) (n : Bool) : R2 := fun x y H Q => ∃ a b xs, x = .ref a ∧ y = .ref b ∧ ((SqL K H a xs ∧ SqL K H b []) ∨ (SqT K H a xs ∧ SqT K H b [])) ∧ Q (.bl (xs.isEmpty != n)) H
theorem size0 {xs : List V} {its : List Value} (r : Vals xs its) : (its.toArray.size == 0) = xs.isEmpty := by cases r <;> simp
theorem op_eqE (hu : X.A.units + 64 < cLine) : OpR X (compareOp .Eq) (rEqE X.K false) := by
  intro pins s σ H x y v u Q I rx ry h
  obtain ⟨a, b, xs, rfl, rfl, hq, q⟩ := h
  cases rx
  cases ry
  have hu' : X.A.units < cLine := by omega
  rw [Bool.bne_false] at q
  rcases hq with ⟨ha, hb⟩ | ⟨ha, hb⟩
  · obtain ⟨its, rv, pl, _⟩ := I.list ha
    obtain ⟨its2, rv2, pl2, _⟩ := I.list hb
    cases rv2
    by_cases hs : its.toArray.size = 0
    · refine SeqAt.eq_listAt (e := fun _ => true) pl.isList pl2.isList (by simpa using hs) hu' (fun j h1 _ => absurd h1 (by omega)) ?_
      refine ⟨.bl xs.isEmpty, H, I, ?_, q⟩
      rw [← size0 rv, hs]; rfl
    · refine SeqAt.eq_list_lengthsAt pl.isList pl2.isList (by simpa using hs) hu' ⟨.bl xs.isEmpty, H, I, ?_, q⟩
      rw [← size0 rv, beq_eq_false_iff_ne.mpr hs]; rfl
  · obtain ⟨its, rv, pl, _⟩ := I.tuple ha
    obtain ⟨its2, rv2, pl2, _⟩ := I.tuple hb
    cases rv2
    refine SeqAt.eq_tupleAt (e := fun _ => true) (show s.heap.IsTuple a its.toArray from pl) (show s.heap.IsTuple b #[] from pl2) hu' (fun j _ h2 => absurd h2 (by simp)) ⟨.bl xs.isEmpty, H, I, ?_, q⟩
    rw [← size0 rv]
    show Value.bool _ = Value.bool _
    simp
theorem op_neE (hu : X.A.units + 64 < cLine) : OpR X (compareOp .NotEq) (rEqE X.K true) := by
  intro pins s σ H x y v u Q I rx ry h
  obtain ⟨a, b, xs, rfl, rfl, hq, q⟩ := h
  cases rx
  cases ry
  have hu' : X.A.units < cLine := by omega
  rw [Bool.bne_true] at q
  rcases hq with ⟨ha, hb⟩ | ⟨ha, hb⟩
  · obtain ⟨its, rv, pl, _⟩ := I.list ha
    obtain ⟨its2, rv2, pl2, _⟩ := I.list hb
    cases rv2
    by_cases hs : its.toArray.size = 0
    · refine SeqAt.RcNeAt.lists (e := fun _ => true) pl.isList pl2.isList (by simpa using hs) hu' (fun j h1 _ => absurd h1 (by omega)) _ _ _ _ ⟨.bl (!xs.isEmpty), H, I, ?_, q⟩
      rw [← size0 rv, hs]; rfl
    · refine SeqAt.RcNeAt.lists_lengths pl.isList pl2.isList (by simpa using hs) hu' _ _ _ _ ⟨.bl (!xs.isEmpty), H, I, ?_, q⟩
      rw [← size0 rv, beq_eq_false_iff_ne.mpr hs]; rfl
  · obtain ⟨its, rv, pl, _⟩ := I.tuple ha
    obtain ⟨its2, rv2, pl2, _⟩ := I.tuple hb
    cases rv2
    refine SeqAt.RcNeAt.tuples (e := fun _ => true) (show s.heap.IsTuple a its.toArray from pl) (show s.heap.IsTuple b #[] from pl2) hu' (fun j _ h2 => absurd h2 (by simp)) _ _ _ _ ⟨.bl (!xs.isEmpty), H, I, ?_, q⟩
    rw [← size0 rv]
    show Value.bool _ = Value.bool _
    simp
def eqE (n : Bool) : G2 := fun w x y => match x, y with
  | .dat (.tuple ds), .dat (.tuple []) => some (.v (.dat (.bool (ds.isEmpty != n))))
  | x, y => (sqL w x).bind fun xs => (sqL w y).bind fun ys => if ys.isEmpty = true then some (.v (.dat (.bool (xs.isEmpty != n)))) else none
theorem eqE_l {n : Bool} {w : Om} {x y : Sl} {xs : List Sl} (h : sqL w x = some xs) (h' : sqL w y = some []) : eqE n w x y = some (.v (.dat (.bool (xs.isEmpty != n)))) := by
  have k : ((sqL w x).bind fun xs => (sqL w y).bind fun ys => if ys.isEmpty = true then some (Ou.v (.dat (.bool (xs.isEmpty != n)))) else none) = some (.v (.dat (.bool (xs.isEmpty != n)))) := by
    rw [h]
    show ((sqL w y).bind fun ys => if ys.isEmpty = true then some (Ou.v (.dat (.bool (xs.isEmpty != n)))) else none) = _
    rw [h']; rfl
  unfold eqE
  split
  · cases h
  · exact k
theorem ov_eqE {n : Bool} : OpV K (rEqE K n) (eqE n) := fun x y v u w D H o R Q st rx ry e ho f => by
  unfold eqE at e
  split at e
  · cases e
    obtain ⟨p, vs, rfl, hq, hv⟩ := tup_ok st rx
    obtain ⟨p2, vs2, rfl, hq2, hv2⟩ := tup_ok st ry
    cases hv2
    refine ⟨p, p2, vs, rfl, rfl, .inr ⟨hq, hq2⟩, ?_⟩
    rename_i ds
    have : vs.isEmpty = ds.isEmpty := by cases hv <;> rfl
    rw [this]
    exact f.d st ho (.bl _)
  · cases q1 : sqL w x with
    | none => rw [q1] at e; cases e
    | some xs =>
      rw [q1] at e
      have e2 : ((sqL w y).bind fun ys => if ys.isEmpty = true then some (Ou.v (.dat (.bool (xs.isEmpty != n)))) else none) = some o := e
      cases q2 : sqL w y with
      | none => rw [q2] at e2; cases e2
      | some ys =>
        rw [q2] at e2
        have e3 : (if ys.isEmpty = true then some (Ou.v (.dat (.bool (xs.isEmpty != n)))) else none) = some o := e2
        cases ys with
        | cons _ _ => cases e3
        | nil =>
          cases e3
          obtain ⟨p, vs, rfl, hq, hv⟩ := sqL_ok st rx q1
          obtain ⟨p2, vs2, rfl, hq2, hv2⟩ := sqL_ok st ry q2
          cases hv2
          refine ⟨p, p2, vs, rfl, rfl, .inl ⟨SqL.of hq, SqL.of hq2⟩, ?_⟩
          have : vs.isEmpty = xs.isEmpty := by cases hv <;> rfl
          rw [this]
          exact f.d st ho (.bl _)
theorem de_eqE (hu : X.A.units + 64 < cLine) (ha : DE X W Z a ta) (hb : DE X W Z b tb) : DE X W Z (.Compare a [.Eq] [b] pos) (dOp (eqE false) ta tb) := de_cmp (op_eqE hu) ov_eqE ha hb (nomark _)
theorem de_neE (hu : X.A.units + 64 < cLine) (ha : DE X W Z a ta) (hb : DE X W Z b tb) : DE X W Z (.Compare a [.NotEq] [b] pos) (dOp (eqE true) ta tb) := de_cmp (op_neE hu) ov_eqE ha hb (nomark _)
theorem dt_eqE (hu : X.A.units + 64 < cLine) (ha : DE X W Z a ta) (hb : DE X W Z b tb) : DT X W Z (.Compare a [.Eq] [b] pos) (dTst (dOp (eqE false) ta tb)) := dt_cmp (op_eqE hu) ov_eqE ha hb (nomark _)
theorem dt_neE (hu : X.A.units + 64 < cLine) (ha : DE X W Z a ta) (hb : DE X W Z b tb) : DT X W Z (.Compare a [.NotEq] [b] pos) (dTst (dOp (eqE true) ta tb)) := dt_cmp (op_neE hu) ov_eqE ha hb (nomark _)
end
/-! ### the two ways of a test -/
theorem iteB {k : Bool} {A B : Prop} (h1 : k = true → A) (h2 : k = false → B) : if k = true then A else B := by
  cases k with
  | true => exact iteT (h1 rfl)
  | false => exact iteF (h2 rfl)
theorem iteD {p : Prop} [Decidable p] {A B : Prop} (h1 : p → A) (h2 : ¬ p → B) : if decide p = true then A else B := iteB (fun h => h1 (of_decide_eq_true h)) (fun h => h2 (of_decide_eq_false h))
theorem iteNo {p : Prop} [Decidable p] {A B : Prop} (h : ¬ p) (hb : B) : if decide p = true then A else B := by rw [decide_eq_false h]; exact iteF hb
theorem iteYes {p : Prop} [Decidable p] {A B : Prop} (h : p) (ha : A) : if decide p = true then A else B := by rw [decide_eq_true h]; exact iteT ha
/-! ### defs with defaults; a promise that is never asked; the law's end -/
section
variable {P : Program} {wd : World} {K : PySem.W.Frag} {mg : Str → Option Value} {base : Heap}
theorem FunD.okD {x qual : Str} {params : Arguments} {body : List Stmt} {scope : Scope} {dvs : List V} {kws : List (Str × V)} {f : Addr} {fd : FuncData} {N ps : List Str} {k : Nat} {c : Ct} {tb : DTS} (F : L2.FunD K x qual params body scope dvs kws f fd) (S : FnScope N ps scope) (len : ∀ ss w R, c ss w R → ss.length = ps.length)
    (hb : ∀ (cdv : Value) (A : Around) (outer : List Env) (s : Shared) (H : Hp) (E : XK), Room k (A.deeper (envOfC qual scope s.heap.objs.size f cdv)) → DB (cxOf CX0 P wd K mg base N qual scope f cdv A outer s H E).nox WT ZT body tb)
    (rd : ∀ ss w R, c ss w R → tb (endsN R) (startD N ss) w) : FnOk P wd K mg base CX0 (k + 1) f fd ps (spN K c) := by
  refine L2.FunD.ok F S (fun vs H Q E h => ?_) (fun cdv A outer s H vs Q E hr h => ?_)
  · obtain ⟨ss, w, D, R, hs, _, hc, _⟩ := h
    rw [Paired.length hs]
    exact len ss w R hc
  · obtain ⟨ss, w, D, R, hs, so, hc, fi⟩ := h
    exact ⟨_, (hb cdv A outer s H E hr).nox, startD N ss, w, D, endsN R, rp_start hs so, xok_T, rd ss w R hc, endsN_ok fi⟩
def cNo : Ct := fun _ _ _ => False
theorem fnok_no {CX : CXT} {k : Nat} {f : Addr} {fd : FuncData} {ps : List Str} : FnOk P wd K mg base CX k f fd ps (spN K cNo) :=
  ⟨fun vs H Q E ⟨ss, w, D, R, _, _, h, _⟩ => h.elim, fun A outer s H args us vs Q E hr e0 hb r ⟨ss, w, D, R, _, _, h, _⟩ => h.elim⟩
/-- a contract by depth: below 0 nothing is promised -/
def prev (c : Nat → Ct) : Nat → Ct
  | 0 => cNo
  | n + 1 => c n
theorem rec_ok {CX : CXT} {b : Nat} {f : Addr} {fd : FuncData} {ps : List Str} (c : Nat → Ct) (step : ∀ n, FnOk P wd K mg base CX (b + n) f fd ps (spN K (prev c n)) → FnOk P wd K mg base CX (b + n + 1) f fd ps (spN K (c n))) :
    ∀ n, FnOk P wd K mg base CX (b + n + 1) f fd ps (spN K (c n))
  | 0 => step 0 fnok_no
  | n + 1 => step (n + 1) (rec_ok c step n)
def cLaw : Ct := fun ss w R => ∃ ns : List Int, ss = [.scr ns] ∧ ns.length ≤ 63 ∧ ∀ w', R (.dat (.bool true)) w'
theorem law_end {H : Hp} {a : Addr} {ns : List Int} (hl : ns.length ≤ 63) (hS : SqL K H a (ns.map V.int)) : spN K cLaw [.ref a] H (fun v _ => v = .bl true) fun _ _ _ => False :=
  ⟨[.scr ns], fun _ => none, H, fun s _ => s = .dat (.bool true), .cons ⟨a, rfl, hS⟩ .nil, ⟨Same.refl H, (fun _ _ h => nomatch h), (fun _ _ h => nomatch h)⟩, ⟨ns, rfl, hl, fun _ => rfl⟩, fun s w' z D' H' h g st r => by
    subst h
    exact dr_bool r⟩
end
theorem walk {l : PySem.W.OpenLaw} {k : Nat} {q : Program} {loose : List Str} {XP : (Str → Option Value) → Heap → Prop} {YP : World → Heap → Prop} {d : DefRec} {K : Params → PySem.W.Frag} (hr : Room k callerA) (hn : l.most = some 63) (hdf : d.params.defaults = [])
    (hY : ∀ (w : World) (h : Heap), YP w h → (K w.params).In h)
    (F : ∀ (w : World) (mg : Str → Option Value) (fa : Addr) (h : Heap), (K w.params).In h → h.Ns mainGlobals mg → mg d.name = some (.ref fa) →
      ∃ fd : FuncData, (∀ (s : Shared) (u : Value), BindsTo s fd ⟨[u], []⟩ [("script", u)]) ∧ ∀ base : Heap, (K w.params).In base → base.Ns mainGlobals mg → FnOk l.prog w (K w.params) mg base CX0 k fa fd ["script"] (spN (K w.params) cLaw)) :
    PySem.W.WalkO q loose XP YP l.row.toRowW d [] (fun f vs => PySem.call f vs) :=
  L2.walk_of (n := 63) (k := k) (x := "script") (CX := fun _ => CX0) (sp := fun w => spN (K w.params) cLaw) hn (by decide) hdf hr hY F (fun _ _ a ns hl _ hS => law_end hl hS) fun _ _ _ _ _ z => z
end DL

set_option Elab.async false
set_option linter.all false
set_option maxRecDepth 100000
set_option maxHeartbeats 4000000
namespace DL
open PySem PySem.Spec PyProof.Rows L2
/-! ### instances of the store -/
def putS (f : Str) (v : Sl) : List (Str × Sl) → List (Str × Sl)
  | [] => [(f, v)]
  | (g, x) :: r => if g = f then (g, v) :: r else (g, x) :: putS f v r
section
variable {K : PySem.W.Frag} {D : Hp}
abbrev FlA (K : PySem.W.Frag) (D : Hp) : List (Str × V) → List (Str × Sl) → Prop := Paired (fun (p : Str × V) (q : Str × Sl) => p.1 = q.1 ∧ Vr K D p.2 q.2)
theorem fl_get {f : Str} : ∀ {gs : List (Str × V)} {fs : List (Str × Sl)} {s : Sl}, FlA K D gs fs → fs.lookup f = some s → ∃ v, gs.lookup f = some v ∧ Vr K D v s
  | _, _, _, .nil, e => by cases e
  | (g, x) :: gs, (g', x') :: fs, s, .cons ⟨h1, h2⟩ r, e => by
    have h1' : g = g' := h1
    subst h1'
    by_cases z : f = g
    · subst z
      have : List.lookup f ((f, x') :: fs) = some x' := by simp [List.lookup]
      rw [this] at e
      cases e
      exact ⟨x, by simp [List.lookup], h2⟩
    · have hb : (f == g) = false := beq_eq_false_iff_ne.mpr z
      have e1 : List.lookup f ((g, x') :: fs) = List.lookup f fs := by simp [List.lookup, hb]
      rw [e1] at e
      obtain ⟨v, q1, q2⟩ := fl_get r e
      exact ⟨v, by rw [← q1]; simp [List.lookup, hb], q2⟩
theorem fl_none {f : Str} : ∀ {gs : List (Str × V)} {fs : List (Str × Sl)}, FlA K D gs fs → fs.lookup f = none → gs.lookup f = none
  | _, _, .nil, e => rfl
  | (g, x) :: gs, (g', x') :: fs, .cons ⟨h1, h2⟩ r, e => by
    have h1' : g = g' := h1
    subst h1'
    by_cases z : f = g
    · subst z
      have : List.lookup f ((f, x') :: fs) = some x' := by simp [List.lookup]
      rw [this] at e
      cases e
    · have hb : (f == g) = false := beq_eq_false_iff_ne.mpr z
      have e1 : List.lookup f ((g, x') :: fs) = List.lookup f fs := by simp [List.lookup, hb]
      rw [e1] at e
      rw [← fl_none r e]; simp [List.lookup, hb]
theorem fl_put {f : Str} {v : V} {s : Sl} (hv : Vr K D v s) : ∀ {gs : List (Str × V)} {fs : List (Str × Sl)}, FlA K D gs fs → FlA K D (putF f v gs) (putS f s fs)
  | _, _, .nil => .cons ⟨rfl, hv⟩ .nil
  | (g, x) :: gs, (g', x') :: fs, .cons ⟨h1, h2⟩ r => by
    have h1' : g = g' := h1
    subst h1'
    unfold putF putS
    by_cases z : g = f
    · rw [if_pos z, if_pos z]; exact .cons ⟨rfl, hv⟩ r
    · rw [if_neg z, if_neg z]; exact .cons ⟨rfl, h2⟩ (fl_put hv r)
end
section
variable {X : Cx} {W : WX} {Z : DX} {o e value : Expr} {es : List Expr} {f : Str} {C : Addr} {pos pos' tpos apos p : Pos} {to te tv : DTE} {ta : DTA}
/-- o.f -/
def dFld (C : Addr) (f : Str) (to : DTE) : DTE := fun ρ w R => to ρ w fun s w1 => ∃ a fs v, s = .adr a ∧ w1 a = some (.ins C fs) ∧ fs.lookup f = some v ∧ R v w1
theorem de_fld (c : Cls X.K C) (n : NoAttr X.K C f) (ho : DE X W Z o to) (hb : attributeBase o f X.env (eval o X.env) = eval o X.env := by rfl) : DE X W Z (.Attribute o f pos) (dFld C f to) :=
  pe_weak (pe_fld ho hb) fun σ H Q ⟨ρ, w, D, R, rp, xo, h, fi⟩ => ⟨ρ, w, D, _, rp, xo, h, fun s w1 v D1 H1 h1 g1 s1 r1 => by
    obtain ⟨a, fs, y, rfl, hw, hl, hR⟩ := h1
    obtain ⟨dx, gs, hH, hf⟩ := s1.own a _ hw
    obtain ⟨z, q1, q2⟩ := fl_get hf hl
    exact ⟨a, C, dx, gs, z, r1, hH, c, n, q1, (fi.next g1).v s1 hR q2⟩⟩
/-- o.f = value -/
def dSetF (C : Addr) (f : Str) (to tv : DTE) : DTS := fun F ρ w => tv ρ w fun s w1 => to ρ w1 fun x w2 => ∃ a fs, x = .adr a ∧ w2 a = some (.ins C fs) ∧ fs.length < 1000 ∧ F.nx ρ (put w2 a (.ins C (putS f s fs)))
theorem ds_fld (c : Cls X.K C) (n : NoAttr X.K C f) (ho : DE X W Z o to) (hv : DE X W Z value tv) (hs : swapsWith value (some (.Attribute o f pos')) pos.line X.env = pure false := by rfl) : DS X W Z (.Assign [.Attribute o f pos'] value pos) (dSetF C f to tv) :=
  ps_weak (ps_fld ho hv hs) fun E σ H ⟨ρ, w, D, F, rp, xo, h, eo⟩ => ⟨ρ, w, D, _, rp, xo, h, fun s w1 v D1 H1 h1 g1 s1 r1 => ⟨ρ, w1, D1, _, rp.next g1.dd s1, xo.next g1, h1, fun x w2 z D2 H2 h2 g2 s2 r2 => by
    obtain ⟨a, fs, rfl, hw, hl, hR⟩ := h2
    obtain ⟨dx, gs, hH, hf⟩ := s2.own a _ hw
    refine ⟨a, C, dx, gs, r2, hH, c, n, by rw [Paired.length hf]; exact hl, ?_⟩
    have ok : OwnOk X.K D2 (upd H2 a (.ins C dx (putF f v gs))) a (.ins C (putS f s fs)) := ⟨dx, _, upd_same, fl_put (r1.mono g2.dd) hf⟩
    have g3 : Gr w2 D2 H2 (put w2 a (.ins C (putS f s fs))) D2 (upd H2 a (.ins C dx (putF f v gs))) := Gr.write hw
    have gg := (g1.trans g2).trans g3
    exact eo.nx ρ _ σ D2 _ hR gg (rp.next gg.dd (s2.write hw ok))⟩⟩
/-- o.f += value, of ints -/
def dAddF (C : Addr) (f : Str) (to tv : DTE) : DTS := fun F ρ w => to ρ w fun x w1 => ∃ a fs i, x = .adr a ∧ w1 a = some (.ins C fs) ∧ fs.lookup f = some (.dat (.int i)) ∧
  tv ρ w1 fun y w2 => ∃ j fs2, y = .dat (.int j) ∧ w2 a = some (.ins C fs2) ∧ fs2.length < 1000 ∧ F.nx ρ (put w2 a (.ins C (putS f (.dat (.int (i + j))) fs2)))
theorem ds_fldadd (c : Cls X.K C) (n : NoAttr X.K C f) (ho : DE X W Z o to) (hv : DE X W Z value tv) : DS X W Z (.AugAssign (.Attribute o f tpos) .Add value pos) (dAddF C f to tv) :=
  ps_weak (ps_fldaug ho hv in_add) fun E σ H ⟨ρ, w, D, F, rp, xo, h, eo⟩ => ⟨ρ, w, D, _, rp, xo, h, fun x w1 v D1 H1 h1 g1 s1 r1 => by
    obtain ⟨a, fs, i, rfl, hw, hl, h1⟩ := h1
    obtain ⟨dx, gs, hH, hf⟩ := s1.own a _ hw
    obtain ⟨z, q1, q2⟩ := fl_get hf hl
    refine ⟨a, C, dx, gs, z, r1, hH, c, n, q1, ρ, w1, D1, _, rp.next g1.dd s1, xo.next g1, h1, fun y w2 u D2 H2 h2 g2 s2 r2 => ?_⟩
    obtain ⟨j, fs2, rfl, hw2, hl2, hR⟩ := h2
    obtain ⟨dx2, gs2, hH2, hf2⟩ := s2.own a _ hw2
    refine ⟨i, j, dr_int q2, dr_int r2, dx2, gs2, hH2, by rw [Paired.length hf2]; exact hl2, ?_⟩
    have ok : OwnOk X.K D2 (upd H2 a (.ins C dx2 (putF f (.int (i + j)) gs2))) a (.ins C (putS f (.dat (.int (i + j))) fs2)) := ⟨dx2, _, upd_same, fl_put (show Vr X.K D2 (.int (i + j)) (.dat (.int (i + j))) from .int _) hf2⟩
    have g3 : Gr w2 D2 H2 (put w2 a (.ins C (putS f (.dat (.int (i + j))) fs2))) D2 (upd H2 a (.ins C dx2 (putF f (.int (i + j)) gs2))) := Gr.write hw2
    have gg := (g1.trans g2).trans g3
    exact eo.nx ρ _ σ D2 _ hR gg (rp.next gg.dd (s2.write hw2 ok))⟩
variable {k : Nat} {g : Addr} {fd : FuncData} {ps : List Str} {c : Ct} {m x : Str} {ds : List Value} {dvs : List V} {dss : List Sl}
/-- o.m(e, ..) -/
def dMeth (C : Addr) (m : Str) (c : Ct) (dss : List Sl) (to : DTE) (ta : DTA) : DTE := fun ρ w R => to ρ w fun s w1 => ∃ a fs, s = .adr a ∧ w1 a = some (.ins C fs) ∧ fs.lookup m = none ∧ ta ρ w1 fun ss w2 => c (.adr a :: (ss ++ dss)) w2 R
theorem de_meth {pl : Sem Bool} (cl : Cls X.K C) (hm : Meth X.K C m g) (F : FnOk X.prog X.w X.K X.mg X.base CX0 k g fd ps (spN X.K c)) (hr : Room k X.A) (hb : Binds X.K fd ps ds) (hd : Vals dvs ds) (hds : ∀ D, SlA X.K D dvs dss) (ho : DE X W Z o to) (ha : DA X W Z (e :: es) ta)
    (hst : starEach (e :: es) X.env = (false, eval e X.env) :: starEach es X.env := by rfl) (hpl : (backTo pos (starEach es X.env)).any (·.1) = false := by rfl)
    (ht : eval (.Call (.Attribute o m apos) (e :: es) [] pos) X.env = (do
      let ov ← eval o X.env
      standAt apos.atName
      let (f, first) ← holding [ov] (getMethod ov m pl)
      callWith pos f first (backTo pos (starEach (e :: es) X.env)) (backToKw pos (keywordEach [] X.env))) := by rfl) :
    DE X W Z (.Call (.Attribute o m apos) (e :: es) [] pos) (dMeth C m c dss to ta) :=
  pe_weak (pe_meth ho cl hm F hr hb hd pass0 ha hst hpl ht) fun σ H Q ⟨ρ, w, D, R, rp, xo, h, fi⟩ => ⟨ρ, w, D, _, rp, xo, h, fun s w1 v D1 H1 h1 g1 s1 r1 => by
    obtain ⟨a, fs, rfl, hw, hl, h1⟩ := h1
    obtain ⟨dx, gs, hH, hf⟩ := s1.own a _ hw
    have r1' : v = .ref a := r1
    refine ⟨a, dx, gs, r1', hH, fl_none hf hl, ρ, w1, D1, _, rp.next g1.dd s1, xo.next g1, h1, fun ss w2 vs D2 H2 h2 g2 s2 rs => ?_⟩
    exact ⟨_, w2, D2, R, .cons (show Vr X.K D2 v (.adr a) from r1') (SlA.append rs (hds D2)), s2, h2, fi.next (g1.trans g2)⟩⟩
theorem de_meth0 {pl : Sem Bool} (cl : Cls X.K C) (hm : Meth X.K C m g) (F : FnOk X.prog X.w X.K X.mg X.base CX0 k g fd ps (spN X.K c)) (hr : Room k X.A) (hb : Binds X.K fd ps ds) (hd : Vals dvs ds) (hds : ∀ D, SlA X.K D dvs dss) (ho : DE X W Z o to)
    (ht : eval (.Call (.Attribute o m apos) [] [] pos) X.env = (do
      let ov ← eval o X.env
      standAt apos.atName
      let (f, first) ← holding [ov] (getMethod ov m pl)
      callWith pos f first (backTo pos (starEach [] X.env)) (backToKw pos (keywordEach [] X.env))) := by rfl) :
    DE X W Z (.Call (.Attribute o m apos) [] [] pos) (dMeth C m c dss to dNil) :=
  pe_weak (pe_meth0 ho cl hm F hr hb hd pass0 ht) fun σ H Q ⟨ρ, w, D, R, rp, xo, h, fi⟩ => ⟨ρ, w, D, _, rp, xo, h, fun s w1 v D1 H1 h1 g1 s1 r1 => by
    obtain ⟨a, fs, rfl, hw, hl, h1⟩ := h1
    obtain ⟨dx, gs, hH, hf⟩ := s1.own a _ hw
    have r1' : v = .ref a := r1
    exact ⟨a, dx, gs, r1', hH, fl_none hf hl, _, w1, D1, R, .cons r1 (hds D1), s1, h1, fi.next g1⟩⟩
/-- C(e, ..) -/
def dMake (C : Addr) (c : Ct) (dss : List Sl) (ta : DTA) : DTE := fun ρ w R => ta ρ w fun ss w1 => ∀ x, w1 x = none → c (.adr x :: (ss ++ dss)) (put w1 x (.ins C [])) fun s w2 => s = .dat .none ∧ R (.adr x) w2
theorem make_ok {Q : VK} {R : DQ} {w1 : Om} {D1 H1 : Hp} {ss : List Sl} {vs : List V} (h1 : ∀ x, w1 x = none → c (.adr x :: (ss ++ dss)) (put w1 x (.ins C [])) fun s w2 => s = .dat .none ∧ R (.adr x) w2) (s1 : StOk X.K w1 D1 H1) (rs : SlA X.K D1 vs ss) (hds : ∀ D, SlA X.K D dvs dss) (fi : Fin X.K w1 D1 H1 R Q) :
    ∀ x dx, H1 x = none → H1 dx = none → dx ≠ x → spN X.K c (.ref x :: (vs ++ dvs)) (upd (upd H1 dx (.own x)) x (.ins C dx [])) (fun v H2 => v = .non ∧ Q (.ref x) H2) E := by
  intro x dx hx hdx ne
  have s2 : StOk X.K w1 D1 (upd H1 dx (.own x)) := s1.junk (s1.freeW hdx) (s1.freeD hdx)
  have g2 : Gr w1 D1 H1 w1 D1 (upd H1 dx (.own x)) := (Gr.refl w1 D1 H1).junk hdx
  have hx2 : (upd H1 dx (.own x)) x = none := by rw [upd_ne (Ne.symm ne)]; exact hx
  have s3 : StOk X.K (put w1 x (.ins C [])) D1 (upd (upd H1 dx (.own x)) x (.ins C dx [])) := s2.newW hx2 ⟨dx, [], upd_same, .nil⟩
  have g3 : Gr w1 D1 (upd H1 dx (.own x)) (put w1 x (.ins C [])) D1 (upd (upd H1 dx (.own x)) x (.ins C dx [])) := Gr.newW s2 hx2
  refine ⟨_, _, D1, _, .cons (show Vr X.K D1 (.ref x) (.adr x) from rfl) (SlA.append rs (hds D1)), s3, h1 x (s1.freeW hx), ?_⟩
  intro s w' z D' H' ⟨e1, hR⟩ g st r
  subst e1
  cases r
  exact ⟨rfl, fi (.adr x) w' (.ref x) D' H' hR ((g2.trans g3).trans g) st rfl⟩
theorem de_make (M : Mk X.K C g) (F : FnOk X.prog X.w X.K X.mg X.base CX0 k g fd ps (spN X.K c)) (hr : Room (k + 1) X.A) (hg : Gl X x) (hm : X.mg x = some (.ref C)) (hb : Binds X.K fd ps ds) (hd : Vals dvs ds) (hds : ∀ D, SlA X.K D dvs dss) (ha : DA X W Z (e :: es) ta)
    (hdb : (x == ("__debug__" : Str)) = false := by decide) (he : starEach (e :: es) X.env = (false, eval e X.env) :: starEach es X.env := by rfl) (hpl : (backTo pos (starEach es X.env)).any (·.1) = false := by rfl) :
    DE X W Z (.Call (.Name x p) (e :: es) [] pos) (dMake C c dss ta) :=
  pe_weak (pe_make M F hr hg hm hb hd pass0 ha hdb he hpl) fun σ H Q ⟨ρ, w, D, R, rp, xo, h, fi⟩ => ⟨ρ, w, D, _, rp, xo, h, fun ss w1 vs D1 H1 h1 g1 s1 rs => make_ok h1 s1 rs hds (fi.next g1)⟩
/-! ### never reached -/
def dNever : DTS := fun _ _ _ => False
theorem ds_never {st : Stmt} : DS X W Z st dNever := ps_weak ps_never fun E σ H ⟨ρ, w, D, F, rp, xo, h, eo⟩ => h
/-! ### what is assigned becomes data at once -/
def dAsgZ (i : Nat) (te : DTE) : DTS := fun F ρ w => i < ρ.length ∧ te ρ w fun s w1 => frz s w1 fun d w2 => F.nx (ρ.set i (some (.dat d))) w2
def nxZ (i : Nat) (ρ : DEnv) (f : DEnv → Om → Prop) : DEnv → Om → Prop := fun ρ' w' => ∃ s, ρ' = ρ.set i (some s) ∧ frz s w' fun d w2 => f (ρ.set i (some (.dat d))) w2
theorem nxZ_set {i : Nat} {ρ : DEnv} {f : DEnv → Om → Prop} (hi : i < ρ.length) : (fun s w1 => nxZ i ρ f (ρ.set i (some s)) w1) = fun (s : Sl) w1 => frz s w1 fun d w2 => f (ρ.set i (some (.dat d))) w2 := by
  funext s w1
  apply propext
  constructor
  · rintro ⟨s', e, q⟩
    have : (ρ.set i (some s))[i]? = (ρ.set i (some s'))[i]? := by rw [e]
    rw [List.getElem?_set_self hi, List.getElem?_set_self hi] at this
    cases this
    exact q
  · exact fun q => ⟨s, rfl, q⟩
theorem ds_fzset {st : Stmt} {i : Nat} (h : DS X W Z st (dAsg te (dName i))) : DS X W Z st (dAsgZ i te) :=
  ps_weak h fun E σ H ⟨ρ, w, D, F, rp, xo, ⟨hi, hh⟩, eo⟩ => by
    refine ⟨ρ, w, D, { F with nx := nxZ i ρ F.nx }, rp, xo, ?_, ⟨?_, eo.rt, eo.bk, eo.ct⟩⟩
    · show te ρ w fun s w1 => nxZ i ρ F.nx (ρ.set i (some s)) w1
      rw [nxZ_set hi]
      exact hh
    · rintro ρ' w' σ' D' H' ⟨s, rfl, q⟩ g r
      obtain ⟨v, h1, h2⟩ := r.slot i s (List.getElem?_set_self hi)
      obtain ⟨d, w2, D2, hk, g2, s2, rd⟩ := frz_ok r.st h2 q
      refine eo.nx _ w2 σ' D2 H' hk (g.trans g2) ⟨s2, by rw [← r.len, List.length_set, List.length_set], fun j t e => ?_⟩
      by_cases z : j = i
      · subst z
        rw [List.getElem?_set_self hi] at e
        cases e
        exact ⟨v, h1, rd⟩
      · rw [List.getElem?_set_ne (Ne.symm z)] at e
        obtain ⟨v', q1, q2⟩ := r.slot j t (by rw [List.getElem?_set_ne (Ne.symm z)]; exact e)
        exact ⟨v', q1, q2.mono g2.dd⟩
/-! ### f-strings -/
def dFmt (te : DTE) : DTE := fun ρ w R => te ρ w fun s w1 => (∃ y : Str, s = .dat (.str y) ∧ y.length ≤ sizeLine ∧ R (.dat (.str y)) w1) ∨ ∃ i : Int, s = .dat (.int i) ∧ i.natAbs.log2 < 1920 ∧ R (.dat (.str (toString i))) w1
theorem de_fmt (he : DE X W Z e te) : DE X W Z (.FormattedValue e (-1) none pos) (dFmt te) :=
  pe_weak (pe_fmt he) fun σ H Q ⟨ρ, w, D, R, rp, xo, h, fi⟩ => ⟨ρ, w, D, _, rp, xo, h, fun s w1 v D1 H1 h1 g1 s1 r1 => by
    rcases h1 with ⟨y, rfl, hl, h1⟩ | ⟨i, rfl, hl, h1⟩
    · exact .inl ⟨y, dr_str r1, hl, (fi.next g1).d s1 h1 (.str y)⟩
    · exact .inr ⟨i, dr_int r1, hl, (fi.next g1).d s1 h1 (.str _)⟩⟩
/-- the parts of an f-string -/
inductive DJ (X : Cx) (W : WX) (Z : DX) : List Expr → List DTE → Prop where
  | nil : DJ X W Z [] []
  | cons {e : Expr} {t : DTE} {es : List Expr} {ts : List DTE} (h : DE X W Z e t) (r : DJ X W Z es ts) : DJ X W Z (e :: es) (t :: ts)
def dJs : List DTE → Str → DEnv → Om → (Str → Om → Prop) → Prop
  | [], acc, _, w, R => R acc w
  | t :: ts, acc, ρ, w, R => t ρ w fun s w1 => ∃ y : Str, s = .dat (.str y) ∧ (acc ++ y).length ≤ sizeLine ∧ dJs ts (acc ++ y) ρ w1 R
theorem DJ.pj {es : List Expr} {ts : List DTE} (h : DJ X W Z es ts) : PJ X es (ts.map (up X.K W Z)) := by
  induction h with
  | nil => exact .nil
  | cons h r ih => exact .cons h ih
theorem js_ok {σ : L2.St} {ρ : DEnv} {Q : Str → Hp → Prop} : ∀ (ts : List DTE) (acc : Str) (w : Om) (D H : Hp) (R : Str → Om → Prop), Rp X.K σ ρ w D H → XOk X.K W Z w D H → dJs ts acc ρ w R → (∀ y w' D' H', R y w' → Gr w D H w' D' H' → StOk X.K w' D' H' → Q y H') → tJs (ts.map (up X.K W Z)) acc σ H Q
  | [], acc, w, D, H, R, rp, xo, h, k => k acc w D H h (Gr.refl _ _ _) rp.st
  | t :: ts, acc, w, D, H, R, rp, xo, h, k => ⟨ρ, w, D, _, rp, xo, h, fun s w1 v D1 H1 h1 g1 s1 r1 => by
    obtain ⟨y, rfl, hl, h1⟩ := h1
    exact ⟨y, dr_str r1, hl, js_ok ts (acc ++ y) w1 D1 H1 R (rp.next g1.dd s1) (xo.next g1) h1 fun z w' D' H' hz g s => k z w' D' H' hz (g1.trans g) s⟩⟩
def dJoin (ts : List DTE) : DTE := fun ρ w R => dJs ts Str.empty ρ w fun y w1 => R (.dat (.str y)) w1
theorem de_joined {v1 v2 : Expr} {rest : List Expr} {ts : List DTE} (h : DJ X W Z (v1 :: v2 :: rest) ts) : DE X W Z (.JoinedStr (v1 :: v2 :: rest) pos) (dJoin ts) :=
  pe_weak (pe_joined h.pj) fun σ H Q ⟨ρ, w, D, R, rp, xo, h, fi⟩ => js_ok ts Str.empty w D H _ rp xo h fun y w' D' H' hR g s => fi (.dat (.str y)) w' (.str y) D' H' hR g s (.str y)
/-! ### methods of texts with arguments -/
abbrev GM := Sl → List Sl → Option Sl
def dTM (g : GM) (to : DTE) (ta : DTA) : DTE := fun ρ w R => to ρ w fun s w1 => ∃ z, s = .dat (.str z) ∧ ta ρ w1 fun ss w2 => ∃ y, g s ss = some y ∧ R y w2
def sw3S : GM := fun s ss => match s, ss with
  | .dat (.str a), [.dat (.str b), .dat (.int i)] => some (.dat (.bool (Txt.startswith3 a b i)))
  | _, _ => none
theorem de_startswith3 {e2 : Expr} {cpos : Pos} (ho : DE X W Z o to) (ha : DA X W Z [e, e2] ta)
    (hbase : attributeBase o "startswith" X.env (eval o X.env) = eval o X.env := by rfl)
    (hfew : ((backTo cpos (starEach [e, e2] X.env)).all (fun x => !x.1) && (backToKw cpos (keywordEach [] X.env)).all (fun x => x.1.isSome)
      && decide ([e, e2].length + ([] : List Keyword).length + (if ([] : List Keyword).isEmpty then 0 else 1) < 30)) = true := by rfl)
    (hline : (apos.endLine == cpos.line) = true := by rfl) (hs : starEach [e, e2] X.env = (false, eval e X.env) :: starEach [e2] X.env := by rfl) (hplain : (backTo cpos (starEach [e2] X.env)).any (·.1) = false := by rfl) :
    DE X W Z (.Call (.Attribute o "startswith" apos) [e, e2] [] cpos) (dTM sw3S to ta) :=
  pe_weak (pe_bm F.plainAttrs_str F.slot_str_startswith F.type_str_startswith mt_startswith3 ho ha hbase hfew hline hs hplain) fun σ H Q ⟨ρ, w, D, R, rp, xo, h, fi⟩ => ⟨ρ, w, D, _, rp, xo, h, fun s w1 v D1 H1 h1 g1 s1 r1 => by
    obtain ⟨z, rfl, h1⟩ := h1
    have rv := dr_str r1
    subst rv
    refine ⟨rfl, ρ, w1, D1, _, rp.next g1.dd s1, xo.next g1, h1, fun ss w2 vs D2 H2 h2 g2 s2 rs => ?_⟩
    obtain ⟨y, e1, hR⟩ := h2
    unfold sw3S at e1
    split at e1
    · rename_i a b i ea
      cases ea
      cases e1
      cases rs with
      | cons q1 rs =>
        cases rs with
        | cons q2 rs =>
          cases rs
          exact ⟨z, b, i, rfl, by rw [dr_str q1, dr_int q2], (fi.next (g1.trans g2)).d s2 hR (.bl _)⟩
    · cases e1⟩
end
end DL

set_option Elab.async false
set_option linter.all false
set_option maxRecDepth 100000
set_option maxHeartbeats 4000000
/-! what may raise: Z tells what is wanted of an exception that leaves -/
namespace DL
open PySem PySem.Spec PyProof.Rows L2
abbrev WF (E : XK) : WX := fun cls d _ H => E cls d H
abbrev XY := Addr → Option (List (Str × Sl)) → Om → Prop
def ZF (Y : XY) : DX := fun _ C x w => ∃ u, Sub u w ∧ Y C x u
section
variable {P : Program} {wd : World} {K : PySem.W.Frag} {mg : Str → Option Value} {base : Heap}
theorem xok_F {w : Om} {D H : Hp} {E : XK} {Y : XY} (h : ∀ C x w' D' H' d, Y C x w' → Gr w D H w' D' H' → StOk K w' D' H' → XR K D' H' d x → E (.ref C) d H') : XOk K (WF E) (ZF Y) w D H :=
  fun σ' ρ' C x w' D' H' d ⟨u, su, hy⟩ g r q => h C x u D' H' d hy (g.sub su) (r.st.sub su) q
/-- THE RULE for a def that may raise -/
theorem Fun.okDX {x qual : Str} {st : Stmt} {f : Addr} {fd : FuncData} {N ps : List Str} {k : Nat} {c : CtX} {tb : DX → DTS} (F : L2.Fun K x qual st f fd) (S : FnScope N ps (defScope st)) (len : ∀ ss w R Y, c ss w R Y → ss.length = ps.length)
    (hb : ∀ (cdv : Value) (A : Around) (outer : List Env) (s : Shared) (H : Hp) (E : XK) (Z : DX), Room k (A.deeper (envOfC qual (defScope st) s.heap.objs.size f cdv)) → DB (cxOf (L2.CX P wd) P wd K mg base N qual (defScope st) f cdv A outer s H E) (WF E) Z (defBody st) (tb Z))
    (rd : ∀ ss w R Y, c ss w R Y → tb (ZF Y) (endsN R) (startD N ss) w) : FnOk P wd K mg base (L2.CX P wd) (k + 1) f fd ps (spX K c) := by
  refine L2.Fun.okX F S (fun vs H Q E h => ?_) (fun cdv A outer s H vs Q E hr h => ?_)
  · obtain ⟨ss, w, D, R, Y, hs, _, hc, _⟩ := h
    rw [Paired.length hs]
    exact len ss w R Y hc
  · obtain ⟨ss, w, D, R, Y, hs, so, hc, fi, hy⟩ := h
    exact ⟨_, hb cdv A outer s H E (ZF Y) hr, startD N ss, w, D, endsN R, rp_start hs so, xok_F hy, rd ss w R Y hc, endsN_ok fi⟩
def cNoX : CtX := fun _ _ _ _ => False
theorem fnok_noX {CX : CXT} {k : Nat} {f : Addr} {fd : FuncData} {ps : List Str} : FnOk P wd K mg base CX k f fd ps (spX K cNoX) :=
  ⟨fun vs H Q E ⟨ss, w, D, R, Y, _, _, h, _⟩ => h.elim, fun A outer s H args us vs Q E hr e0 hb r ⟨ss, w, D, R, Y, _, _, h, _⟩ => h.elim⟩
def prevX (c : Nat → CtX) : Nat → CtX
  | 0 => cNoX
  | n + 1 => c n
theorem rec_okX {CX : CXT} {b : Nat} {f : Addr} {fd : FuncData} {ps : List Str} (c : Nat → CtX) (step : ∀ n, FnOk P wd K mg base CX (b + n) f fd ps (spX K (prevX c n)) → FnOk P wd K mg base CX (b + n + 1) f fd ps (spX K (c n))) :
    ∀ n, FnOk P wd K mg base CX (b + n + 1) f fd ps (spX K (c n))
  | 0 => step 0 fnok_noX
  | n + 1 => step (n + 1) (rec_okX c step n)
end
section
variable {X : Cx} {W : WX} {Z : DX} {o e value : Expr} {es : List Expr} {C : Addr} {pos apos p : Pos} {to te tv : DTE} {ta : DTA}
variable {k : Nat} {f g : Addr} {fd : FuncData} {ps : List Str} {c : CtX} {m x : Str} {ds : List Value} {dvs : List V} {dss : List Sl} {E : XK}
def dCallX (Z : DX) (c : CtX) (ta : DTA) : DTE := fun ρ w R => ta ρ w fun ss w1 => c ss w1 R fun C x w2 => Z ρ C x w2
theorem de_callX (tk : Takes X W) (F : FnOk X.prog X.w X.K X.mg X.base (L2.CX X.prog X.w) k f fd ps (spX X.K c)) (hr : Room k X.A) (hg : Gl X x) (hm : X.mg x = some (.ref f)) (hk : PySem.W.keepIn X.K (.ref f) = true) (hb : Binds X.K fd ps []) (ha : DA X W Z (e :: es) ta)
    (hdb : (x == ("__debug__" : Str)) = false := by decide) (hs : starEach (e :: es) X.env = (false, eval e X.env) :: starEach es X.env := by rfl) (hpl : (backTo pos (starEach es X.env)).any (·.1) = false := by rfl) :
    DE X W Z (.Call (.Name x p) (e :: es) [] pos) (dCallX Z c ta) :=
  pe_weak (pe_callS F hr hg hm hk hb (fun σ => passAt tk σ) ha hdb hs hpl) fun σ H Q ⟨ρ, w, D, R, rp, xo, h, fi⟩ => ⟨ρ, w, D, _, rp, xo, h, fun ss w1 vs D1 H1 h1 g1 s1 rs =>
    ⟨ss, w1, D1, R, _, rs, s1, h1, fi.next g1, fun C x w' D' H' d hz g st q => xo σ ρ C x w' D' H' d hz (g1.trans g) (rp.next (g1.trans g).dd st) q⟩⟩
def dMethX (Z : DX) (C : Addr) (m : Str) (c : CtX) (to : DTE) (ta : DTA) : DTE := fun ρ w R => to ρ w fun s w1 => ∃ a fs, s = .adr a ∧ w1 a = some (.ins C fs) ∧ fs.lookup m = none ∧ ta ρ w1 fun ss w2 => c (.adr a :: ss) w2 R fun C x w3 => Z ρ C x w3
theorem de_methX {pl : Sem Bool} (tk : Takes X (WF E)) (cl : Cls X.K C) (hm : Meth X.K C m g) (F : FnOk X.prog X.w X.K X.mg X.base (L2.CX X.prog X.w) k g fd ps (spX X.K c)) (hr : Room k X.A) (hb : Binds X.K fd ps []) (ho : DE X (WF E) Z o to) (ha : DA X (WF E) Z (e :: es) ta)
    (hst : starEach (e :: es) X.env = (false, eval e X.env) :: starEach es X.env := by rfl) (hpl : (backTo pos (starEach es X.env)).any (·.1) = false := by rfl)
    (ht : eval (.Call (.Attribute o m apos) (e :: es) [] pos) X.env = (do
      let ov ← eval o X.env
      standAt apos.atName
      let (f, first) ← holding [ov] (getMethod ov m pl)
      callWith pos f first (backTo pos (starEach (e :: es) X.env)) (backToKw pos (keywordEach [] X.env))) := by rfl) :
    DE X (WF E) Z (.Call (.Attribute o m apos) (e :: es) [] pos) (dMethX Z C m c to ta) :=
  pe_weak (pe_meth ho cl hm F hr hb .nil (passes_call tk fun _ _ _ _ h => h) ha hst hpl ht) fun σ H Q ⟨ρ, w, D, R, rp, xo, h, fi⟩ => ⟨ρ, w, D, _, rp, xo, h, fun s w1 v D1 H1 h1 g1 s1 r1 => by
    obtain ⟨a, fs, rfl, hw, hl, h1⟩ := h1
    obtain ⟨dx, gs, hH, hf⟩ := s1.own a _ hw
    have r1' : v = .ref a := r1
    refine ⟨a, dx, gs, r1', hH, fl_none hf hl, ρ, w1, D1, _, rp.next g1.dd s1, xo.next g1, h1, fun ss w2 vs D2 H2 h2 g2 s2 rs => ?_⟩
    show spX X.K c (v :: (vs ++ [])) H2 Q E
    rw [List.append_nil]
    exact ⟨_, w2, D2, R, _, .cons (show Vr X.K D2 v (.adr a) from r1') rs, s2, h2, fi.next (g1.trans g2), fun C x w' D' H' d hz g st q => xo σ ρ C x w' D' H' d hz ((g1.trans g2).trans g) (rp.next ((g1.trans g2).trans g).dd st) q⟩⟩
theorem de_meth0X {pl : Sem Bool} (tk : Takes X (WF E)) (cl : Cls X.K C) (hm : Meth X.K C m g) (F : FnOk X.prog X.w X.K X.mg X.base (L2.CX X.prog X.w) k g fd ps (spX X.K c)) (hr : Room k X.A) (hb : Binds X.K fd ps []) (ho : DE X (WF E) Z o to)
    (ht : eval (.Call (.Attribute o m apos) [] [] pos) X.env = (do
      let ov ← eval o X.env
      standAt apos.atName
      let (f, first) ← holding [ov] (getMethod ov m pl)
      callWith pos f first (backTo pos (starEach [] X.env)) (backToKw pos (keywordEach [] X.env))) := by rfl) :
    DE X (WF E) Z (.Call (.Attribute o m apos) [] [] pos) (dMethX Z C m c to dNil) :=
  pe_weak (pe_meth0 ho cl hm F hr hb .nil (passes_call tk fun _ _ _ _ h => h) ht) fun σ H Q ⟨ρ, w, D, R, rp, xo, h, fi⟩ => ⟨ρ, w, D, _, rp, xo, h, fun s w1 v D1 H1 h1 g1 s1 r1 => by
    obtain ⟨a, fs, rfl, hw, hl, h1⟩ := h1
    obtain ⟨dx, gs, hH, hf⟩ := s1.own a _ hw
    have r1' : v = .ref a := r1
    exact ⟨a, dx, gs, r1', hH, fl_none hf hl, _, w1, D1, R, _, .cons r1 .nil, s1, h1, fi.next g1, fun C x w' D' H' d hz g st q => xo σ ρ C x w' D' H' d hz (g1.trans g) (rp.next (g1.trans g).dd st) q⟩⟩
def dMakeX (Z : DX) (C : Addr) (c : CtX) (ta : DTA) : DTE := fun ρ w R => ta ρ w fun ss w1 => ∀ x, w1 x = none → c (.adr x :: ss) (put w1 x (.ins C [])) (fun s w2 => s = .dat .none ∧ R (.adr x) w2) fun C x w2 => Z ρ C x w2
theorem de_makeX (tk : Takes X (WF E)) (M : Mk X.K C g) (F : FnOk X.prog X.w X.K X.mg X.base (L2.CX X.prog X.w) k g fd ps (spX X.K c)) (hr : Room (k + 1) X.A) (hg : Gl X x) (hm : X.mg x = some (.ref C)) (hb : Binds X.K fd ps []) (ha : DA X (WF E) Z (e :: es) ta)
    (hdb : (x == ("__debug__" : Str)) = false := by decide) (he : starEach (e :: es) X.env = (false, eval e X.env) :: starEach es X.env := by rfl) (hpl : (backTo pos (starEach es X.env)).any (·.1) = false := by rfl) :
    DE X (WF E) Z (.Call (.Name x p) (e :: es) [] pos) (dMakeX Z C c ta) :=
  pe_weak (pe_make M F hr hg hm hb .nil (passes_call tk fun _ _ _ _ h => h) ha hdb he hpl) fun σ H Q ⟨ρ, w, D, R, rp, xo, h, fi⟩ => ⟨ρ, w, D, _, rp, xo, h, fun ss w1 vs D1 H1 h1 g1 s1 rs => by
    intro x dx hx hdx ne
    have s2 : StOk X.K w1 D1 (upd H1 dx (.own x)) := s1.junk (s1.freeW hdx) (s1.freeD hdx)
    have g2 : Gr w1 D1 H1 w1 D1 (upd H1 dx (.own x)) := (Gr.refl w1 D1 H1).junk hdx
    have hx2 : (upd H1 dx (.own x)) x = none := by rw [upd_ne (Ne.symm ne)]; exact hx
    have s3 : StOk X.K (put w1 x (.ins C [])) D1 (upd (upd H1 dx (.own x)) x (.ins C dx [])) := s2.newW hx2 ⟨dx, [], upd_same, .nil⟩
    have g3 : Gr w1 D1 (upd H1 dx (.own x)) (put w1 x (.ins C [])) D1 (upd (upd H1 dx (.own x)) x (.ins C dx [])) := Gr.newW s2 hx2
    have gg := (g1.trans g2).trans g3
    rw [List.append_nil]
    refine ⟨_, _, D1, _, _, .cons (show Vr X.K D1 (.ref x) (.adr x) from rfl) rs, s3, h1 x (s1.freeW hx), ?_, fun C x w' D' H' d hz g st q => xo σ ρ C x w' D' H' d hz (gg.trans g) (rp.next (gg.trans g).dd st) q⟩
    intro s w' z D' H' ⟨e1, hR⟩ g st r
    subst e1
    cases r
    exact ⟨rfl, fi (.adr x) w' (.ref x) D' H' hR (gg.trans g) st rfl⟩⟩
/-- raise X('m'), an own class without an own __init__ -/
def dRaise (Z : DX) (C : Addr) : DTS := fun _ ρ w => Z ρ C none w
theorem ds_raise {bmB : List Value} {B newId initId : String} {mm : Str} {j : Nat} {p2 p3 : Pos} (hc : X.calm = true) (tk : Takes X W) (Fx : ExcBaseFacts B newId initId bmB) (q : PySem.W.excIn X.K C bmB newId = true) (gC : X.mg x = some (.ref C)) (kC : PySem.W.keepIn X.K (.ref C) = true) (r : Raises X (.ref C)) (hg : Gl X x)
    (hdb : (x == ("__debug__" : Str)) = false := by decide) : DS X W Z (.Raise (some (.Call (.Name x p) [.Constant (.str mm) j p2] [] pos)) none p3) (dRaise Z C) :=
  ps_weak (ps_raise hc tk (pmk_own Fx q gC kC r hg hdb)) fun E σ H ⟨ρ, w, D, F, rp, xo, h, eo⟩ => xo σ ρ C none w D H none h (Gr.refl _ _ _) rp rfl
/-! ### try .. except x as n, all that is raised is of the class CN -/
def endsT (i : Nat) (F : DEnds) : DEnds := { nx := fun ρ w => F.nx (ρ.set i none) w, rt := F.rt, bk := fun ρ w => F.bk (ρ.set i none) w, ct := fun ρ w => F.ct (ρ.set i none) w }
def zTry (CN : Addr) (i : Nat) (ts : Addr → DTS) (F : DEnds) : DX := fun ρ C x w => C = CN ∧ x = none ∧ ∀ a, w a = none → ts a (endsT i F) (ρ.set i (some (.adr a))) w
def dTry (CN : Addr) (i : Nat) (tb : DX → DTS) (ts : Addr → DTS) : DTS := fun F ρ w => tb (zTry CN i ts F) F ρ w
theorem Rp.unset {K : PySem.W.Frag} {σ : L2.St} {ρ : DEnv} {w : Om} {D H : Hp} (r : Rp K σ ρ w D H) (i : Nat) : Rp K (σ.set i none) (ρ.set i none) w D H := by
  refine ⟨r.st, by rw [List.length_set, List.length_set]; exact r.len, fun j t e => ?_⟩
  by_cases z : j = i
  · subst z
    by_cases hl : j < ρ.length
    · rw [List.getElem?_set_self hl] at e; cases e
    · rw [List.getElem?_eq_none (by rw [List.length_set]; omega)] at e; cases e
  · rw [List.getElem?_set_ne (Ne.symm z)] at e ⊢
    exact r.slot j t e
theorem ds_try {n xc : Str} {cv : Value} {CN : Addr} {i : Nat} {body suite : List Stmt} {b₀ : Stmt} {np pos pos' : Pos} {tb : DX → DTS} {ts : Addr → DTS} {Wo : WX} {Zo : DX} (hs : X.stack = X.env :: X.outer) (hf : X.env.frame = some X.env.locals) (hN : X.N.Nodup) (hi : X.N[i]? = some n) (hln : X.env.kindOf n = some .local)
    (hc : Names X xc cv) (hx : PySem.W.exmOne X.K (.ref CN) cv = some true)
    (hb : ∀ (W : WX) (Z : DX) (pn : List (Addr × Obj)) (xe : Value → Shared → Prop), Takes (X.tr pn xe) W → PassesOwn (model X.prog X.w) X.A X.env xe → DB (X.tr pn xe) W Z body (tb Z))
    (hsu : ∀ (a : Addr) (oe : Obj) (pn : List (Addr × Obj)), Zc (.ref CN) none oe → (∃ vs, oe.data = .fields vs) → DB (X.suite a ((a, oe) :: pn)) WT ZT (b₀ :: suite) (ts a)) :
    DS X Wo Zo (.Try body [.ExceptHandler (some (.Name xc np)) (some n) (b₀ :: suite) pos'] [] [] pos) (dTry CN i tb ts) := by
  refine ps_weak (ps_try_as (i := i) (tb := fun W => fun D σ H => ∃ Z, ups X.K W Z (tb Z) D σ H) (ts := fun a cls d => fun D σ H => cls = .ref CN ∧ d = none ∧ ups X.K WT ZT (ts a) D σ H) (Wout := fun _ _ _ _ => False) hs hf hN hi hln hc takes0 (fun W pn xe tk po => ?_) (fun a oe cls d pn hz hd => ?_)) fun E σ H ⟨ρ, w, D, F, rp, xo, h, eo⟩ => ?_
  · exact ⟨fun pins s σ H D I ⟨Z, q⟩ => (hb W Z pn xe tk po).run pins s σ H D I q⟩
  · refine ⟨fun pins s σ H D I ⟨e1, e2, q⟩ => ?_⟩
    subst e1 e2
    exact (hsu a oe pn hz hd).run pins s σ H D I q
  · refine ⟨zTry CN i ts F, ρ, w, D, F, rp, ?_, h, eo⟩
    rintro σ' ρ' C x w' D' H' d ⟨rfl, rfl, hh⟩ g r q
    have q' : d = none := q
    subst q'
    refine ⟨true, hx, fun _ a ha => ⟨rfl, rfl, ρ'.set i (some (.adr a)), w', D', endsT i F, r.set i rfl, xok_T, hh a (r.st.freeW ha), ?_⟩, fun z => nomatch z⟩
    exact ⟨fun ρ2 w2 σ2 D2 H2 hn g2 r2 => eo.nx _ w2 _ D2 H2 hn (g.trans g2) (r2.unset i), eo.rt.next g, fun ρ2 w2 σ2 D2 H2 hn g2 r2 => eo.bk _ w2 _ D2 H2 hn (g.trans g2) (r2.unset i), fun ρ2 w2 σ2 D2 H2 hn g2 r2 => eo.ct _ w2 _ D2 H2 hn (g.trans g2) (r2.unset i)⟩
end
end DL

set_option Elab.async false
set_option linter.all false
set_option maxRecDepth 100000
set_option maxHeartbeats 4000000
namespace DL
open PySem PySem.Spec PyProof.Rows L2
section
variable {X : Cx} {W : WX} {Z : DX} {K : PySem.W.Frag} {o e a b : Expr} {es : List Expr} {pos apos cpos p : Pos} {to te : DTE} {ta tb : DTE} {tr : DTA}
/-- never reached -/
def dNeverE : DTE := fun _ _ _ => False
theorem de_never : DE X W Z e dNeverE := ⟨fun pins s σ H Q I ⟨ρ, w, D, R, rp, xo, h, f⟩ => h.elim⟩
/-! ### xs.append(e), of a list of the store -/
def dApp (to : DTE) (te : DTE) : DTE := fun ρ w R => to ρ w fun s w1 => ∃ q xs0, s = .adr q ∧ w1 q = some (.lst xs0) ∧ te ρ w1 fun y w2 => ∃ xs, w2 q = some (.lst xs) ∧ xs.length < sizeLine ∧ R (.dat .none) (put w2 q (.lst (xs ++ [y])))
theorem de_append (ho : DE X W Z o to) (he : DE X W Z e te) (hbase : attributeBase o "append" X.env (eval o X.env) = eval o X.env := by rfl)
    (hfew : ((backTo cpos (starEach [e] X.env)).all (fun x => !x.1) && (backToKw cpos (keywordEach [] X.env)).all (fun x => x.1.isSome)
      && decide ([e].length + ([] : List Keyword).length + (if ([] : List Keyword).isEmpty then 0 else 1) < 30)) = true := by rfl)
    (hline : (apos.endLine == cpos.line) = true := by rfl) (hs : starEach [e] X.env = (false, eval e X.env) :: starEach [] X.env := by rfl) (hplain : (backTo cpos (starEach [] X.env)).any (·.1) = false := by rfl) :
    DE X W Z (.Call (.Attribute o "append" apos) [e] [] cpos) (dApp to te) :=
  pe_weak (pe_bm PySem.F.plainAttrs_list PySem.F.slot_list_append PySem.F.type_list_append mt_append ho (pa_cons he pa_nil hs) hbase hfew hline hs hplain) fun σ H Q ⟨ρ, w, D, R, rp, xo, h, fi⟩ => ⟨ρ, w, D, _, rp, xo, h, fun s w1 v D1 H1 h1 g1 s1 r1 => by
    obtain ⟨q, xs0, rfl, hw, h1⟩ := h1
    obtain ⟨vs0, hH, hv⟩ := s1.own q _ hw
    have r1' : v = .ref q := r1
    subst r1'
    refine ⟨.inl ⟨rfl, vs0, SqL.of hH⟩, ρ, w1, D1, _, rp.next g1.dd s1, xo.next g1, h1, fun y w2 u D2 H2 h2 g2 s2 r2 => ?_⟩
    obtain ⟨xs, hw2, hl, hR⟩ := h2
    obtain ⟨vs, hH2, hv2⟩ := s2.own q _ hw2
    refine ⟨q, vs, u, rfl, rfl, hH2, by rw [Paired.length hv2]; exact hl, ?_⟩
    have ok : OwnOk X.K D2 (upd H2 q (.lst (vs ++ [u]))) q (.lst (xs ++ [y])) := ⟨_, upd_same, SlA.snoc hv2 r2⟩
    have g3 : Gr w2 D2 H2 (put w2 q (.lst (xs ++ [y]))) D2 (upd H2 q (.lst (vs ++ [u]))) := Gr.write hw2
    exact fi (.dat .none) _ .non D2 _ hR ((g1.trans g2).trans g3) (s2.write hw2 ok) .non⟩
/-! ### t.join(xs) -/
def strOf : Sl → Option Str
  | .dat (.str z) => some z
  | _ => none
def dJoinL (to te : DTE) : DTE := fun ρ w R => to ρ w fun s w1 => ∃ z, s = .dat (.str z) ∧ te ρ w1 fun y w2 => ∃ xs ys, sq w2 y = some xs ∧ xs = ys.map (fun t => Sl.dat (.str t)) ∧ (ys.map (·.length)).sum + ys.length * z.length ≤ 16777216 ∧ R (.dat (.str (Txt.join z ys))) w2
theorem sla_strs {D : Hp} : ∀ {ys : List Str} {vs : List V}, SlA K D vs (ys.map fun t => Sl.dat (.str t)) → vs = ys.map V.str
  | [], _, .nil => rfl
  | y :: ys, _, .cons h hs => by
    rw [sla_strs hs]
    have := dr_str h
    rw [this]
    rfl
theorem de_join (ho : DE X W Z o to) (he : DE X W Z e te) (hs : starEach [e] X.env = [(false, eval e X.env)] := by rfl) (hbase : attributeBase o "join" X.env (eval o X.env) = eval o X.env := by rfl) (hline : (apos.endLine == pos.line) = true := by rfl) :
    DE X W Z (.Call (.Attribute o "join" apos) [e] [] pos) (dJoinL to te) :=
  pe_weak (pe_join ho he hs hbase hline) fun σ H Q ⟨ρ, w, D, R, rp, xo, h, fi⟩ => ⟨ρ, w, D, _, rp, xo, h, fun s w1 v D1 H1 h1 g1 s1 r1 => by
    obtain ⟨z, rfl, h1⟩ := h1
    refine ⟨⟨z, dr_str r1⟩, ρ, w1, D1, _, rp.next g1.dd s1, xo.next g1, h1, fun y w2 u D2 H2 h2 g2 s2 r2 => ?_⟩
    obtain ⟨xs, ys, e1, e2, hz, hR⟩ := h2
    subst e2
    obtain ⟨q, vs, rfl, hq, hv⟩ := sq_ok s2 r2 e1
    have ev := sla_strs hv
    subst ev
    exact ⟨z, q, ys, dr_str r1, rfl, hq, hz, (fi.next (g1.trans g2)).d s2 hR (.str _)⟩⟩
/-! ### int(True) -/
def intBS : GN := fun _ ss => match ss with
  | [.dat (.bool k)] => some (.v (.dat (.int (if k then 1 else 0))))
  | [.dat (.int i)] => some (.v (.dat (.int i)))
  | _ => none
theorem cv_intB : CV K (fun xs H Q => (∃ i, xs = [.int i] ∧ Q (.int i) H) ∨ ∃ k, xs = [.bl k] ∧ Q (.int (if k then 1 else 0)) H) intBS := fun ss vs w D H o R Q st rv e ho f => by
  unfold intBS at e
  split at e
  · cases e
    obtain ⟨v, rfl, r⟩ := sla1 rv
    exact .inr ⟨_, by rw [dr_bool r], f.d st ho (.int _)⟩
  · cases e
    obtain ⟨v, rfl, r⟩ := sla1 rv
    exact .inl ⟨_, by rw [dr_int r], f.d st ho (.int _)⟩
  · cases e
theorem de_int1 (hg : Gl X "int") (hm : X.mg "int" = none) (ha : DA X W Z [a] tr) (hs : starEach [a] X.env = (false, eval a X.env) :: starEach [] X.env := by rfl) (hpl : (backTo pos (starEach [] X.env)).any (·.1) = false := by rfl) :
    DE X W Z (.Call (.Name "int" p) [a] [] pos) (dCB intBS tr) := de_callTy call_int1 cv_intB hg hm (by decide +kernel) ha (by decide) (by decide) hs hpl
/-! ### x in xs, of data without dicts, xs a list -/
def inDS (n : Bool) : G2 := fun w x y => (rs w x).bind fun d => (rs w y).bind fun e => match e with
  | .list ds => if (SeqAt.shaped d && SeqAt.shaped (.list ds)) = true then some (.v (.dat (.bool ((ds.any fun z => PyData.eqv z d) != n)))) else none
  | _ => none
theorem inDS_ok {n : Bool} {w : Om} {x y : Sl} {d : PyData} {ds : List PyData} (h1 : rs w x = some d) (h2 : rs w y = some (.list ds)) (h3 : SeqAt.shaped d = true) (h4 : SeqAt.shaped (.list ds) = true) : inDS n w x y = some (.v (.dat (.bool ((ds.any fun z => PyData.eqv z d) != n)))) := by
  unfold inDS
  rw [h1]
  show ((rs w y).bind _) = _
  rw [h2]
  show (if (SeqAt.shaped d && SeqAt.shaped (.list ds)) = true then _ else _) = _
  rw [h3, h4]; rfl
theorem inDS_inv {n : Bool} {w : Om} {x y : Sl} {o : Ou} (e : inDS n w x y = some o) : ∃ d ds, rs w x = some d ∧ rs w y = some (.list ds) ∧ SeqAt.shaped d = true ∧ SeqAt.shaped (.list ds) = true ∧ o = .v (.dat (.bool ((ds.any fun z => PyData.eqv z d) != n))) := by
  unfold inDS at e
  cases q1 : rs w x with
  | none => rw [q1] at e; cases e
  | some d =>
    rw [q1] at e
    cases q2 : rs w y with
    | none => rw [q2] at e; cases e
    | some d' =>
      rw [q2] at e
      cases d' with
      | list ds =>
        have e2 : (if (SeqAt.shaped d && SeqAt.shaped (.list ds)) = true then some (Ou.v (.dat (.bool ((ds.any fun z => PyData.eqv z d) != n)))) else none) = some o := e
        by_cases c : (SeqAt.shaped d && SeqAt.shaped (.list ds)) = true
        · rw [if_pos c] at e2
          cases e2
          rw [Bool.and_eq_true] at c
          exact ⟨d, ds, rfl, rfl, c.1, c.2, rfl⟩
        · rw [if_neg c] at e2; cases e2
      | _ => cases e
theorem ov_inD : OpV K (rInD K) (inDS false) := fun x y v u w D H o R Q st rx ry e ho f => by
  obtain ⟨d, ds, q1, q2, h1, h2, rfl⟩ := inDS_inv e
  obtain ⟨D1, s1, r1⟩ := rs_ok st rx q1
  obtain ⟨D2, s2, r2⟩ := rs_ok st ry q2
  refine ⟨d, ds, Dr.dp s1 r1 (SeqAt.canLay_of_shaped h1), Dr.dp s2 r2 (SeqAt.canLay_of_shaped h2), h1, h2, ?_⟩
  rw [Bool.bne_false] at ho
  exact f.d st ho (.bl _)
theorem de_inD (hu : X.A.units + 65 < cLine) (ha : DE X W Z a ta) (hb : DE X W Z b tb) (hm : behindInMarks .In b = false := by rfl) : DE X W Z (.Compare a [.In] [b] pos) (dOp (inDS false) ta tb) := de_cmp (op_inD hu) ov_inD ha hb hm
theorem dt_inD (hu : X.A.units + 65 < cLine) (ha : DE X W Z a ta) (hb : DE X W Z b tb) (hm : behindInMarks .In b = false := by rfl) : DT X W Z (.Compare a [.In] [b] pos) (dTst (dOp (inDS false) ta tb)) := dt_cmp (op_inD hu) ov_inD ha hb hm
/-! ### text * int -/
def repS (z : Str) (n : Int) : Str := ⟨(List.replicate n.toNat z.cps.toList).flatten.toArray⟩
def gMulS : G2 := fun _ x y => match x, y with
  | .dat (.str z), .dat (.int n) => if 0 ≤ n ∧ n < 2 ^ 40 ∧ z.length * n.toNat ≤ sizeLine then some (.v (.dat (.str (repS z n)))) else none
  | _, _ => none
theorem foldl_app (z : Array Nat) : ∀ (m : Nat) (acc : Array Nat), ((List.replicate m z).foldl (· ++ ·) acc).toList = acc.toList ++ (List.replicate m z.toList).flatten
  | 0, acc => by simp
  | m + 1, acc => by
    rw [List.replicate_succ, List.foldl_cons, foldl_app z m, List.replicate_succ, List.flatten_cons, Array.toList_append, List.append_assoc]
theorem op_mulS : OpR X (binaryOp .Mult) (fun x y H Q => ∃ z n, x = .str z ∧ y = .int n ∧ 0 ≤ n ∧ n < 2 ^ 40 ∧ z.length * n.toNat ≤ sizeLine ∧ Q (.str (repS z n)) H) := by
  intro pins s σ H x y v u Q I rx ry h
  obtain ⟨z, n, rfl, rfl, h0, h1, h2, q⟩ := h
  obtain ⟨t, rfl⟩ := rx
  obtain ⟨t', rfl⟩ := ry
  have sl : sizeLine = 16777216 := by decide
  refine PySem.P.mul_str ?_ ?_ ?_ ?_
  · rw [decide_eq_false (by omega), decide_eq_false (by omega)]; rfl
  · intro n1 hx hgt
    have hn : 0 < n := by omega
    have hz : (z.length : Int) ≤ 16777216 := by
      have : z.length * 1 ≤ z.length * n.toNat := Nat.mul_le_mul_left _ (by omega)
      omega
    have h3 : (2 : Int) ^ 22 ≤ (2 ^ 63 - 1) / n := by
      rw [Int.le_ediv_iff_mul_le hn]
      have : (2 : Int) ^ 22 * n ≤ 2 ^ 22 * 2 ^ 40 := Int.mul_le_mul_of_nonneg_left (by omega) (by decide)
      omega
    have h4 : (z.length : Int) * n ≤ 16777216 := by
      have e : n = ((n.toNat : Nat) : Int) := by omega
      rw [e, ← Int.natCast_mul]
      omega
    have h5 : (z.length : Int) ≤ (2 ^ 63 - 1) / n := by
      rw [Int.le_ediv_iff_mul_le hn]
      omega
    omega
  · intro _ _
    show decide (z.length * n.toNat > sizeLine) = false
    rw [decide_eq_false_iff_not]
    omega
  · by_cases hn : n < 1
    · rw [if_pos hn]
      have e : n.toNat = 0 := by omega
      refine ⟨by decide, .str (repS z n), H, I.tok _, ⟨s.toks, ?_⟩, q⟩
      unfold repS
      rw [e]
      rfl
    · rw [if_neg hn]
      by_cases hc : (n == 1 || z.length == 0) = true
      · rw [if_pos hc]
        refine ⟨.str (repS z n), H, I, ⟨t, ?_⟩, q⟩
        have : repS z n = z := by
          rw [Bool.or_eq_true] at hc
          obtain ⟨⟨zl⟩⟩ := z
          unfold repS
          rcases hc with hc | hc
          · have : n = 1 := by simpa using hc
            subst this
            simp
          · have : zl = [] := by simpa [Str.length] using hc
            subst this
            simp
        rw [this]
      · rw [if_neg hc]
        have e : (⟨(List.replicate n.toNat z.cps).foldl (· ++ ·) #[]⟩ : Str) = repS z n := by
          unfold repS
          congr 1
          apply Array.toList_inj.mp
          rw [foldl_app]
          simp
        rw [e]
        refine ⟨?_, .str (repS z n), H, I.tok _, ⟨_, rfl⟩, q⟩
        have : (repS z n).length = z.length * n.toNat := by
          unfold repS
          simp [Str.length, Nat.mul_comm]
        omega
theorem ov_mulS : OpV K (fun x y H Q => ∃ z n, x = .str z ∧ y = .int n ∧ 0 ≤ n ∧ n < 2 ^ 40 ∧ z.length * n.toNat ≤ sizeLine ∧ Q (.str (repS z n)) H) gMulS := fun x y v u w D H o R Q st rx ry e ho f => by
  unfold gMulS at e
  split at e
  · split at e
    · rename_i h
      cases e
      exact ⟨_, _, dr_str rx, dr_int ry, h.1, h.2.1, h.2.2, f.d st ho (.str _)⟩
    · cases e
  · cases e
theorem de_mulS (ha : DE X W Z a ta) (hb : DE X W Z b tb) : DE X W Z (.BinOp a .Mult b pos) (dOp gMulS ta tb) := de_op op_mulS ov_mulS ha hb
end
end DL

set_option Elab.async false
set_option linter.all false
set_option maxRecDepth 100000
set_option maxHeartbeats 4000000
namespace DL
open PySem PySem.Spec PyProof.Rows L2
/-! ### isinstance of the caught exception -/
section
variable {X : Cx} {W : WX} {Z : DX} {e : Expr} {te : DTE} {pos p1 p2 p4 : Pos} {a D : Addr} {oe : Obj} {pn : List (Addr × Obj)}
def dIsEx (a : Addr) (b : Bool) (te : DTE) : DTE := fun ρ w R => te ρ w fun s w1 => s = .adr a ∧ R (.dat (.bool b)) w1
theorem de_isE {tn : Str} {C : Addr} {b : Bool} (cD : ExcC X.K D) (hz : Zc (.ref D) none oe) (hf : ∃ vs, oe.data = .fields vs) (he : DE (X.suite a ((a, oe) :: pn)) W Z e te) (hg : Gl X "isinstance") (hm : X.mg "isinstance" = none) (hgT : Gl X tn) (hmT : X.mg tn = some (.ref C)) (hk : PySem.W.kitOne X.K (.ref D) (.ref C) = some b) (hd : (tn == ("__debug__" : Str)) = false := by decide)
    (hs : starEach [e, .Name tn p2] (X.suite a ((a, oe) :: pn)).env = (false, eval e (X.suite a ((a, oe) :: pn)).env) :: starEach [.Name tn p2] (X.suite a ((a, oe) :: pn)).env := by rfl) (hpl : (backTo pos (starEach [.Name tn p2] (X.suite a ((a, oe) :: pn)).env)).any (·.1) = false := by rfl) :
    DE (X.suite a ((a, oe) :: pn)) W Z (.Call (.Name "isinstance" p1) [e, .Name tn p2] [] pos) (dIsEx a b te) :=
  pe_weak (pe_callB (X := X.suite a ((a, oe) :: pn)) (call_isE cD hz hf) hg hm (by decide +kernel) (pa_cons he (pa_cons (pe_glob (X := X.suite a ((a, oe) :: pn)) (v := .ref C) hgT hmT rfl hd) pa_nil) hs) (by decide) (by decide) hs hpl) fun σ H Q ⟨ρ, w, D, R, rp, xo, h, f⟩ => ⟨ρ, w, D, _, rp, xo, h, fun s w1 v D1 H1 h1 g1 s1 r1 => by
    obtain ⟨rfl, h1⟩ := h1
    have r1' : v = .ref a := r1
    exact ⟨.ref C, .ref C, b, by rw [r1'], fun u hu => hu, hk, (f.next g1).d s1 h1 (.bl b)⟩⟩
theorem de_isEB {tn : Str} {T : String} {b : Bool} (cD : ExcC X.K D) (hz : Zc (.ref D) none oe) (hf : ∃ vs, oe.data = .fields vs) (he : DE (X.suite a ((a, oe) :: pn)) W Z e te) (hg : Gl X "isinstance") (hm : X.mg "isinstance" = none) (hgT : Gl X tn) (hmT : X.mg tn = none) (hT : bootBuiltins tn = some (.type T)) (hk : PySem.W.kitOne X.K (.ref D) (.type T) = some b) (hn : tn ≠ "__name__" := by decide) (hd : (tn == ("__debug__" : Str)) = false := by decide)
    (hs : starEach [e, .Name tn p2] (X.suite a ((a, oe) :: pn)).env = (false, eval e (X.suite a ((a, oe) :: pn)).env) :: starEach [.Name tn p2] (X.suite a ((a, oe) :: pn)).env := by rfl) (hpl : (backTo pos (starEach [.Name tn p2] (X.suite a ((a, oe) :: pn)).env)).any (·.1) = false := by rfl) :
    DE (X.suite a ((a, oe) :: pn)) W Z (.Call (.Name "isinstance" p1) [e, .Name tn p2] [] pos) (dIsEx a b te) :=
  pe_weak (pe_callB (X := X.suite a ((a, oe) :: pn)) (call_isE cD hz hf) hg hm (by decide +kernel) (pa_cons he (pa_cons (pe_bltn (X := X.suite a ((a, oe) :: pn)) (v := .ty T) hgT hmT hT rfl hn hd) pa_nil) hs) (by decide) (by decide) hs hpl) fun σ H Q ⟨ρ, w, D, R, rp, xo, h, f⟩ => ⟨ρ, w, D, _, rp, xo, h, fun s w1 v D1 H1 h1 g1 s1 r1 => by
    obtain ⟨rfl, h1⟩ := h1
    have r1' : v = .ref a := r1
    exact ⟨.ty T, .type T, b, by rw [r1'], fun u hu => hu, hk, (f.next g1).d s1 h1 (.bl b)⟩⟩
/-- names of own classes, one behind another -/
inductive CNs (X : Cx) : List Expr → List Addr → Prop
  | nil : CNs X [] []
  | cons {x : Str} {p : Pos} {C : Addr} {es : List Expr} {Cs : List Addr} (hg : Gl X x) (hm : X.mg x = some (.ref C)) (hd : (x == ("__debug__" : Str)) = false) (r : CNs X es Cs) : CNs X (.Name x p :: es) (C :: Cs)
theorem CNs.pa {X : Cx} {es : List Expr} {Cs : List Addr} (h : CNs X es Cs) : PA X es (fun _ H Q => Q (Cs.map V.ref) H) := by
  induction h with
  | nil => exact pa_nil
  | cons hg hm hd r ih => exact pa_cons (pe_glob (v := .ref _) hg hm rfl hd) ih
theorem cls_all : ∀ Cs : List Addr, Paired ClsV (Cs.map V.ref) (Cs.map Value.ref)
  | [] => .nil
  | C :: Cs => .cons (.own C) (cls_all Cs)
def rIsET (K : PySem.W.Frag) (D a : Addr) : List V → Hp → VK → Prop := fun xs H Q => ∃ (tp : Addr) (cs : List V) (us : List Value) (b : Bool), xs = [.ref a, .ref tp] ∧ H tp = some (.tup cs) ∧ Paired ClsV cs us ∧ PySem.W.kitAny K (.ref D) us = some b ∧ Q (.bl b) H
theorem call_isET (C : ExcC X.K D) (hz : Zc (.ref D) none oe) (hf : ∃ vs, oe.data = .fields vs) : CallR (X.suite a ((a, oe) :: pn)) (.builtin "isinstance") (rIsET X.K D a) := by
  intro pins s σ H xs us Q I r hh
  obtain ⟨tp, cs, ws, b, rfl, hT, hk, hb, q⟩ := hh
  obtain ⟨v1, v2, rfl, q1, q2⟩ := vals2 r
  obtain rfl : v1 = Value.ref a := q1
  obtain rfl : v2 = Value.ref tp := q2
  obtain ⟨got, _⟩ := I.pin (a, oe) (List.mem_append.mpr (.inl List.mem_cons_self))
  obtain ⟨fl, hfl⟩ := hf
  have at_ : PySem.W.InstAt s.heap a oe D none := by
    obtain ⟨x1, x2, x3, x4⟩ := oe
    obtain ⟨z1, z2⟩ := hz
    dsimp only at z1 z2 hfl
    subst z1 z2 hfl
    exact ⟨got, rfl, rfl, trivial⟩
  obtain ⟨_, its, rv, ob, o1, o2, n, o3⟩ := (show ObjOk X.prog X.w H s.heap tp (.tup cs) from I.hok tp _ hT)
  have ew := ClsV.all hk rv
  subst ew
  obtain ⟨y1, y2, y3, y4⟩ := ob
  simp only at o2 o3
  subst o2 o3
  exact PySem.W.kia_tup (PySem.W.handS_kitx_exc C.hg C.hk C.hs C.hd C.ha C.hn C.ht C.hm) I.kIn at_ o1 hb (fun z => nomatch z) fun tk => ⟨.bl b, H, I.kept (t' := tk) fun _ _ z => z, rfl, q⟩
theorem de_isET {es : List Expr} {Cs : List Addr} {b : Bool} {kk : Nat} (cD : ExcC X.K D) (hz : Zc (.ref D) none oe) (hf : ∃ vs, oe.data = .fields vs) (he : DE (X.suite a ((a, oe) :: pn)) W Z e te) (hg : Gl X "isinstance") (hm : X.mg "isinstance" = none) (hC : CNs (X.suite a ((a, oe) :: pn)) es Cs) (hl : Cs.length ≤ 1000) (hk : PySem.W.kitAny X.K (.ref D) (Cs.map Value.ref) = some b)
    (hs : starEach [e, .Tuple es kk p4] (X.suite a ((a, oe) :: pn)).env = (false, eval e (X.suite a ((a, oe) :: pn)).env) :: starEach [.Tuple es kk p4] (X.suite a ((a, oe) :: pn)).env := by rfl) (hpl : (backTo pos (starEach [.Tuple es kk p4] (X.suite a ((a, oe) :: pn)).env)).any (·.1) = false := by rfl) :
    DE (X.suite a ((a, oe) :: pn)) W Z (.Call (.Name "isinstance" p1) [e, .Tuple es kk p4] [] pos) (dIsEx a b te) :=
  pe_weak (pe_callB (X := X.suite a ((a, oe) :: pn)) (call_isET cD hz hf) hg hm (by decide +kernel) (pa_cons he (pa_cons (pe_tup hC.pa) pa_nil) hs) (by decide) (by decide) hs hpl) fun σ H Q ⟨ρ, w, D, R, rp, xo, h, f⟩ => ⟨ρ, w, D, _, rp, xo, h, fun s w1 v D1 H1 h1 g1 s1 r1 => by
    obtain ⟨rfl, h1⟩ := h1
    have r1' : v = .ref a := r1
    refine ⟨by rw [List.length_map]; exact Nat.le_trans hl (by decide), fun q hq => ?_⟩
    have s2 : StOk X.K w1 D1 (upd H1 q (.tup (Cs.map V.ref))) := s1.junk (s1.freeW hq) (s1.freeD hq)
    have g2 : Gr w1 D1 H1 w1 D1 (upd H1 q (.tup (Cs.map V.ref))) := (Gr.refl w1 D1 H1).junk hq
    exact ⟨q, Cs.map V.ref, Cs.map Value.ref, b, by rw [r1'], upd_same, cls_all Cs, hk, ((f.next g1).next g2).d s2 h1 (.bl b)⟩⟩
end
/-! ### text[::-1]: some text, no longer -/
section
variable {X : Cx} {W : WX} {Z : DX} {e : Expr} {te : DTE} {pos : Pos}
def dRevS (te : DTE) : DTE := fun ρ w R => te ρ w fun s w1 => ∃ z, s = .dat (.str z) ∧ z.length ≤ sizeLine ∧ ∀ y : Str, y.length ≤ z.length → R (.dat (.str y)) w1
theorem back_len (n : Nat) : (Builtin.Str.strSliceIndices none none (-1) n).length ≤ n := by
  show (sliceRange ((n : Int) - 1) (-1) (-1)).length ≤ n
  unfold sliceRange
  simp only [List.length_map, List.length_range]
  rw [if_neg (by decide)]
  by_cases h : ((n : Int) - 1) > -1
  · rw [if_pos h]
    have : ((n : Int) - 1 - -1 - -1 - 1) / (- -1) = n := by
      rw [show ((n : Int) - 1 - -1 - -1 - 1) = n by omega, show (- -1 : Int) = 1 by decide, Int.ediv_one]
    rw [this]
    omega
  · rw [if_neg h]; simp
theorem pe_back {t0 : TE} {k : Nat} {q1 q2 q3 : Pos} (he : PE X e t0) : PE X (.Subscript e (.Slice none none (some (.UnaryOp .USub (.Constant (.int 1) k q1) q2)) q3) pos)
    (fun σ H Q => t0 σ H fun x H1 => ∃ z, x = .str z ∧ z.length ≤ sizeLine ∧ ∀ y : Str, y.length ≤ z.length → Q (.str y) H1) := by
  refine ⟨fun pins s σ H Q I hh => ?_⟩
  refine Subscript_ (thn (he.run pins s σ H _ I hh) fun v s1 ⟨x, G1, J1, rx, z, ez, hz, hq⟩ => ?_)
  subst ez
  obtain ⟨tz, rfl⟩ := rx
  have step : PO X (some (.UnaryOp .USub (.Constant (.int 1) k q1) q2)) (tPart (tUn (rU fun i => .int (-i)) (tC (.int 1)))) := po_some (pe_un un_neg pe_int)
  refine wpAny_Slice (thn (po_none.run pins s1 σ G1 (fun o G => o = none ∧ G = G1) J1 ⟨rfl, rfl⟩) fun v2 s2 ⟨o2, G2, J2, y2, z2, w2⟩ => ?_)
  subst z2 w2
  refine thn (po_none.run pins s2 σ G2 (fun o G => o = none ∧ G = G2) J2 ⟨rfl, rfl⟩) fun v3 s3 ⟨o3, G3, J3, y3, z3, w3⟩ => ?_
  subst z3 w3
  refine thn (step.run pins s3 σ G3 (fun o G => o = some (-1) ∧ G = G3) J3 ⟨1, rfl, -1, rfl, rfl, rfl⟩) fun v4 s4 ⟨o4, G4, J4, y4, z4, w4⟩ => ?_
  subst z4 w4
  have J5 : Inv X pins σ G4 { s4 with heap := s4.heap.push { cls := .type "slice", data := .fields #[v2, v3, v4] } } := J4.kept (t' := s4.toks) fun b ob q => Heap.get?_push_of_some _ q
  obtain ⟨a2, rfl, b2⟩ := IsPart.raw y2
  obtain ⟨a3, rfl, b3⟩ := IsPart.raw y3
  obtain ⟨a4, rfl, b4⟩ := IsPart.raw y4
  refine tail_any (ops := [.str z tz, .ref s4.heap.objs.size]) (typeIs_str _ _ _) F.slot_str_getitem.lookup ?_ (by with_unfolding_all rfl)
  refine wpAny_getItem_str_slice (l := a2) (u := a3) (st := a4) ⟨_, Heap.get?_push_size _ rfl, rfl, rfl⟩ (by rw [b4]; rfl) ?_
  have hne : (((a4.map (·.1)).getD 1 == 1) && (slicePicked z a2 a3 a4).length == z.length) = false := by rw [b4]; rfl
  unfold sliceMade
  rw [hne, if_neg Bool.false_ne_true]
  have hle : (⟨((slicePicked z a2 a3 a4).filterMap (z.cps[·]?)).toArray⟩ : Str).length ≤ z.length := by
    have h1 : (slicePicked z a2 a3 a4).length ≤ z.length := by
      unfold slicePicked
      rw [b2, b3, b4]
      exact back_len z.length
    have h2 := List.length_filterMap_le (fun i => z.cps[i]?) (slicePicked z a2 a3 a4)
    show (((slicePicked z a2 a3 a4).filterMap (z.cps[·]?)).toArray).size ≤ _
    rw [List.size_toArray]
    omega
  exact ⟨Nat.le_trans hle hz, .str _, G4, J5.tok _, ⟨_, rfl⟩, hq _ hle⟩
theorem de_revS {k : Nat} {q1 q2 q3 : Pos} (he : DE X W Z e te) : DE X W Z (.Subscript e (.Slice none none (some (.UnaryOp .USub (.Constant (.int 1) k q1) q2)) q3) pos) (dRevS te) :=
  pe_weak (pe_back he) fun σ H Q ⟨ρ, w, D, R, rp, xo, h, f⟩ => ⟨ρ, w, D, _, rp, xo, h, fun s w1 v D1 H1 h1 g1 s1 r1 => by
    obtain ⟨z, rfl, hz, h1⟩ := h1
    exact ⟨z, dr_str r1, hz, fun y hy => (f.next g1).d s1 (h1 y hy) (.str y)⟩⟩
end
theorem un65 {k : Nat} {A : Around} (h : Room k A) : A.units + 65 < cLine := by
  have := h.un
  omega
end DL

set_option Elab.async false
set_option linter.all false
set_option maxRecDepth 100000
set_option maxHeartbeats 4000000
/-! DS1: the tables of sets, any power of two: every slot is met, a laying never fails -/
namespace DS
open PySem PySem.Spec PyProof.Rows L2
def S5 : Nat → Nat
  | 0 => 0
  | d + 1 => 5 * S5 d + 1
theorem S5_pow : ∀ n, 4 * S5 n + 1 = 5 ^ n
  | 0 => rfl
  | n + 1 => by
    have := S5_pow n
    unfold S5
    rw [Nat.pow_succ]
    omega
theorem S5_add (a : Nat) : ∀ b, S5 (a + b) = 5 ^ b * S5 a + S5 b
  | 0 => by simp [S5]
  | b + 1 => by
    have ih := S5_add a b
    show 5 * S5 (a + b) + 1 = _
    rw [ih]
    show _ = 5 ^ (b + 1) * S5 a + (5 * S5 b + 1)
    rw [Nat.pow_succ, Nat.mul_add, Nat.mul_comm (5 ^ b) 5, Nat.mul_assoc]
    omega
theorem S5_par : ∀ d, S5 d % 2 = d % 2
  | 0 => rfl
  | d + 1 => by
    have := S5_par d
    show (5 * S5 d + 1) % 2 = (d + 1) % 2
    omega
theorem cop2 (k s : Nat) : Nat.Coprime (2 ^ k) (2 * s + 1) := by
  apply Nat.Coprime.pow_left
  show Nat.gcd 2 (2 * s + 1) = 1
  rw [Nat.gcd_rec, Nat.mul_add_mod]
  rfl
theorem S5_dvd : ∀ (k d : Nat), 2 ^ k ∣ S5 d → 2 ^ k ∣ d
  | 0, d, _ => by simp
  | k + 1, d, h => by
    have h2 : 2 ∣ S5 d := Nat.dvd_trans ⟨2 ^ k, by rw [Nat.pow_succ, Nat.mul_comm]⟩ h
    have hp := S5_par d
    obtain ⟨e, rfl⟩ : ∃ e, d = 2 * e := ⟨d / 2, by omega⟩
    have e1 : S5 (2 * e) = 2 * ((2 * S5 e + 1) * S5 e) := by
      have := S5_add e e
      rw [← Nat.two_mul] at this
      rw [this, ← S5_pow e, Nat.add_mul, Nat.add_mul, Nat.one_mul, Nat.mul_add]
      have : 4 * S5 e * S5 e = 2 * (2 * S5 e * S5 e) := by rw [← Nat.mul_assoc, ← Nat.mul_assoc]
      omega
    rw [e1, Nat.pow_succ, Nat.mul_comm (2 ^ k) 2] at h
    have h3 : 2 ^ k ∣ (2 * S5 e + 1) * S5 e := Nat.dvd_of_mul_dvd_mul_left (by decide) h
    have h4 : 2 ^ k ∣ S5 e := (cop2 k (S5 e)).dvd_of_dvd_mul_left h3
    have h5 := S5_dvd k e h4
    rw [Nat.pow_succ, Nat.mul_comm (2 ^ k) 2]
    exact Nat.mul_dvd_mul_left 2 h5
theorem lcgI_eq (m i : Nat) (hi : i ≤ m) : ∀ n, lcgI m i n = (5 ^ n * i + S5 n) % (m + 1)
  | 0 => by
    show i = (5 ^ 0 * i + 0) % (m + 1)
    rw [Nat.pow_zero, Nat.one_mul, Nat.add_zero, Nat.mod_eq_of_lt (by omega)]
  | n + 1 => by
    show (lcgI m i n * 5 + 1) % (m + 1) = _
    rw [lcgI_eq m i hi n]
    show _ = (5 ^ (n + 1) * i + (5 * S5 n + 1)) % (m + 1)
    have e : 5 ^ (n + 1) * i + (5 * S5 n + 1) = (5 ^ n * i + S5 n) * 5 + 1 := by
      rw [Nat.pow_succ, Nat.add_mul, Nat.mul_assoc, Nat.mul_assoc, Nat.mul_comm 5 i]
      omega
    rw [e, Nat.add_mod, Nat.mul_mod, Nat.mod_mod, ← Nat.mul_mod, ← Nat.add_mod]
theorem lcg_inj {m k i a b : Nat} (hm : m + 1 = 2 ^ k) (hi : i ≤ m) (hab : a < b) (hb : b ≤ m) : lcgI m i a ≠ lcgI m i b := by
  intro h
  rw [lcgI_eq m i hi, lcgI_eq m i hi] at h
  obtain ⟨d, rfl⟩ : ∃ d, b = a + d := ⟨b - a, by omega⟩
  have e : 5 ^ (a + d) * i + S5 (a + d) = (5 ^ a * i + S5 a) + S5 d * (2 * (2 * (5 ^ a * i + S5 a)) + 1) := by
    rw [S5_add, Nat.pow_add, ← S5_pow d]
    have h1 : 5 ^ a * (4 * S5 d + 1) * i = 4 * (S5 d * (5 ^ a * i)) + 5 ^ a * i := by rw [Nat.mul_comm (5 ^ a), Nat.mul_assoc, Nat.add_mul, Nat.one_mul, Nat.mul_assoc]
    have h2 : (4 * S5 d + 1) * S5 a = 4 * (S5 d * S5 a) + S5 a := by rw [Nat.add_mul, Nat.one_mul, Nat.mul_assoc]
    have h3 : S5 d * (2 * (2 * (5 ^ a * i + S5 a)) + 1) = 4 * (S5 d * (5 ^ a * i)) + 4 * (S5 d * S5 a) + S5 d := by
      rw [Nat.mul_add, Nat.mul_one, Nat.mul_left_comm, Nat.mul_left_comm (S5 d) 2, Nat.mul_add (S5 d)]
      omega
    rw [h1, h2, h3]
    omega
  rw [e] at h
  have h2 := Nat.sub_mod_eq_zero_of_mod_eq h.symm
  rw [Nat.add_sub_cancel_left, hm] at h2
  have h3 : 2 ^ k ∣ S5 d * (2 * (2 * (5 ^ a * i + S5 a)) + 1) := Nat.dvd_of_mod_eq_zero h2
  have h4 : 2 ^ k ∣ S5 d := (cop2 k _).dvd_of_dvd_mul_right h3
  have h5 := Nat.le_of_dvd (by omega) (S5_dvd k d h4)
  omega
theorem lcg_full {m k i j : Nat} (hm : m + 1 = 2 ^ k) (hi : i ≤ m) (hj : j ≤ m) : ∃ n, n ≤ m ∧ lcgI m i n = j := by
  rcases Classical.em (∃ n, n ≤ m ∧ lcgI m i n = j) with h | h
  · exact h
  · exfalso
    have le : ∀ n, lcgI m i n ≤ m := fun n => by
      cases n with
      | zero => exact hi
      | succ n => exact Nat.le_of_lt_succ (Nat.mod_lt _ (Nat.succ_pos _))
    have nd : ((List.range (m + 1)).map (lcgI m i)).Nodup := by
      refine List.Pairwise.map _ (R := fun a b => a < b ∧ b ≤ m) (fun a b hab => lcg_inj hm hi hab.1 hab.2) ?_
      refine List.Pairwise.imp_of_mem (R := fun a b => a < b) (fun {a b} _ hb hab => ⟨hab, Nat.le_of_lt_succ (List.mem_range.mp hb)⟩) List.pairwise_lt_range
    have q := nat_nodup_len (j :: (List.range (m + 1)).map (lcgI m i)) (List.range (m + 1)) (List.nodup_cons.mpr ⟨fun hz => ?_, nd⟩) fun x hx => ?_
    · simp at q
      omega
    · obtain ⟨n, hn, e⟩ := List.mem_map.mp hz
      exact h ⟨n, Nat.le_of_lt_succ (List.mem_range.mp hn), e⟩
    · rcases List.mem_cons.mp hx with rfl | hx
      · exact List.mem_range.mpr (by omega)
      · obtain ⟨n, _, e⟩ := List.mem_map.mp hx
        rw [← e]
        exact List.mem_range.mpr (Nat.lt_succ_of_le (le n))
theorem run_all {m k : Nat} (hm : m + 1 = 2 ^ k) (h : Int) {j : Nat} (hj : j ≤ m) : ∃ n, n ≤ m + 12 ∧ runI m (SetTable.bits h) n = j := by
  obtain ⟨n, hn, e⟩ := lcg_full hm (runI_le m (SetTable.bits h) 12) hj
  exact ⟨12 + n, by omega, by rw [runI_tail (bits_lt h)]; exact e⟩
/-- a free slot is found -/
theorem free_go {m : Nat} {owner : Array (Option Nat)} : ∀ (f n i b : Nat), n < f → i ≤ m → oAt owner (itL m i b n).1 = none → ∃ j, SetTable.layClean.free m owner f i b = some j ∧ j ≤ m ∧ oAt owner j = none
  | 0, n, i, b, hn, _, _ => absurd hn (Nat.not_lt_zero _)
  | f + 1, n, i, b, hn, hi, ho => by
    obtain ⟨r1, r2, _⟩ := runEnd_bd hi
    rw [free_succ]
    cases q : (List.range (SetTable.runEnd m i + 1 - i)).find? fun k => (oAt owner (i + k)).isNone with
    | some k =>
      have h1 := List.find?_some q
      have h2 := List.mem_range.mp (List.mem_of_find?_eq_some q)
      exact ⟨i + k, rfl, by omega, Option.isNone_iff_eq_none.mp h1⟩
    | none =>
      cases n with
      | zero =>
        exfalso
        have := List.find?_eq_none.mp q 0 (List.mem_range.mpr (by omega))
        have ho' : oAt owner i = none := ho
        rw [Nat.add_zero, ho'] at this
        exact this rfl
      | succ n =>
        exact free_go f n _ _ (by omega) (Nat.le_of_lt_succ (Nat.mod_lt _ (Nat.succ_pos _))) ho
structure OwnS (m : Nat) (n : Nat) (owner : Array (Option Nat)) : Prop where
  sz : owner.size = m + 1
  all : ∀ k, k < n → ∃ j, j ≤ m ∧ oAt owner j = some k
  ps : ∃ ps : List Nat, ps.length = n ∧ ∀ j, j ≤ m → oAt owner j ≠ none → j ∈ ps
theorem OwnS.init (m : Nat) : OwnS m 0 (Array.replicate (m + 1) none) := ⟨by simp, fun k hk => absurd hk (Nat.not_lt_zero _), ⟨[], rfl, fun j hj e => absurd (oAt_init hj) e⟩⟩
theorem OwnS.step {m k n : Nat} (hm : m + 1 = 2 ^ k) {owner : Array (Option Nat)} (W : OwnS m n owner) (hl : n ≤ m) (h : Int) :
    ∃ j, SetTable.layClean.free m owner (SetTable.turns m) (SetTable.bits h % (m + 1)) (SetTable.bits h) = some j ∧ OwnS m (n + 1) (owner.setIfInBounds j (some n)) := by
  obtain ⟨ps, hps, hin⟩ := W.ps
  obtain ⟨j0, h0, hn0⟩ := st_missing ps (m + 1) (by omega)
  have hj0 : oAt owner j0 = none := by
    cases z : oAt owner j0 with
    | none => rfl
    | some k => exact absurd (hin j0 (Nat.le_of_lt_succ h0) (by rw [z]; exact fun e => nomatch e)) hn0
  obtain ⟨r, hr, er⟩ := run_all hm h (Nat.le_of_lt_succ h0)
  obtain ⟨j, e1, jm, e2⟩ := free_go (owner := owner) (SetTable.turns m) r (SetTable.bits h % (m + 1)) (SetTable.bits h) (by unfold SetTable.turns; omega) (Nat.le_of_lt_succ (Nat.mod_lt _ (Nat.succ_pos _))) (by rw [itL_run, er]; exact hj0)
  have js : j < owner.size := by rw [W.sz]; omega
  refine ⟨j, e1, by rw [Array.size_setIfInBounds]; exact W.sz, fun k hk => ?_, ⟨j :: ps, by rw [List.length_cons, hps], fun i hi e => ?_⟩⟩
  · by_cases c : k = n
    · subst c
      exact ⟨j, jm, oAt_set_self _ js⟩
    · obtain ⟨i, hi, e⟩ := W.all k (by omega)
      refine ⟨i, hi, ?_⟩
      rw [oAt_set_ne _ (fun z => by rw [z, e2] at e; cases e)]
      exact e
  · by_cases c : i = j
    · rw [c]; exact List.mem_cons_self
    · rw [oAt_set_ne _ c] at e
      exact List.mem_cons_of_mem _ (hin i hi e)
theorem fold_all {m k : Nat} (hm : m + 1 = 2 ^ k) : ∀ (rest : List Int) (n : Nat) (owner : Array (Option Nat)), OwnS m n owner → n + rest.length ≤ m →
    ∃ owner', rest.foldl (stepF m) (some (owner, n)) = some (owner', n + rest.length) ∧ OwnS m (n + rest.length) owner'
  | [], n, owner, W, _ => ⟨owner, rfl, W⟩
  | h :: rest, n, owner, W, hl => by
    rw [List.length_cons] at hl
    obtain ⟨j, e, W'⟩ := W.step hm (by omega) h
    obtain ⟨owner', f, W2⟩ := fold_all hm rest (n + 1) _ W' (by omega)
    have ea : n + 1 + rest.length = n + (h :: rest).length := by rw [List.length_cons]; omega
    rw [ea] at f W2
    exact ⟨owner', by rw [List.foldl_cons, stepF_some e]; exact f, W2⟩
/-- a table laid anew -/
theorem laid_all {m k finger moves : Nat} {led plain : Bool} (hm : m + 1 = 2 ^ k) {hs : Array Int} (hn : hs.size ≤ m) :
    ∃ t order, SetTable.laid m finger moves led plain hs = some (t, order) ∧ order.toList.Perm (List.range hs.size) ∧ Ris t.place.toList ∧ t.place.size = hs.size ∧ t.mask = m ∧ t.dummies = #[] ∧ t.led = led ∧ t.plain = plain := by
  obtain ⟨owner, f, W⟩ := fold_all hm hs.toList 0 _ (OwnS.init m) (by rw [Array.length_toList]; omega)
  rw [Nat.zero_add, Array.length_toList] at W
  have e : SetTable.layClean m hs = some owner := by
    rw [layClean_eq, f]
    rfl
  have hl : SetTable.laid m finger moves led plain hs = some ({ mask := m, place := ((liveOf m owner).map (·.1)).toArray, dummies := #[], finger, led, moves, plain }, ((liveOf m owner).map (·.2)).toArray) := by
    unfold SetTable.laid
    rw [e]
    rfl
  have ris := ris_live (fun j => owner.getD j none) (List.range (m + 1)) List.pairwise_lt_range
  have r1 : Ris ((liveOf m owner).map (·.1)) := ris.1
  have nd : ((liveOf m owner).map (·.1)).Nodup := List.Pairwise.imp (fun h => Nat.ne_of_lt h) r1
  have hlen : (liveOf m owner).length = hs.size := by
    obtain ⟨ps, p1, p2⟩ := W.ps
    have a := nat_nodup_len ((liveOf m owner).map (·.1)) ps nd fun x hx => by
      obtain ⟨⟨y, k⟩, hq, rfl⟩ := List.mem_map.mp hx
      obtain ⟨b1, b2⟩ := (mem_live W.sz).1 hq
      exact p2 y b1 (by rw [b2]; exact fun z => nomatch z)
    have b := nat_nodup_len (List.range hs.size) ((liveOf m owner).map (·.2)) List.nodup_range fun k hk => by
      obtain ⟨j, b1, b2⟩ := W.all k (List.mem_range.mp hk)
      exact List.mem_map.mpr ⟨(j, k), (mem_live W.sz).2 ⟨b1, b2⟩, rfl⟩
    rw [List.length_map, p1] at a
    rw [List.length_map, List.length_range] at b
    omega
  refine ⟨_, _, hl, ?_, r1, by rw [List.size_toArray, List.length_map, hlen], rfl, rfl, rfl, rfl⟩
  refine perm_range hs.size _ ?_ fun k hk => ?_
  · show ((liveOf m owner).map (·.2)).length = hs.size
    rw [List.length_map, hlen]
  · obtain ⟨j, b1, b2⟩ := W.all k hk
    exact List.mem_map.mpr ⟨(j, k), (mem_live W.sz).2 ⟨b1, b2⟩, rfl⟩
theorem above_go : ∀ (f s n : Nat), (∃ k, s = 2 ^ k) → n < s * 2 ^ f → ∃ k, SetTable.sizeAbove.go n f s = 2 ^ k ∧ n < SetTable.sizeAbove.go n f s ∧ SetTable.sizeAbove.go n f s ≤ max s (2 * n)
  | 0, s, n, hs, h => ⟨hs.choose, hs.choose_spec, by show n < s; simpa using h, by show s ≤ _; omega⟩
  | f + 1, s, n, ⟨k, hk⟩, h => by
    unfold SetTable.sizeAbove.go
    by_cases c : s ≤ n
    · rw [if_pos c]
      obtain ⟨k', a, b, d⟩ := above_go f (s * 2) n ⟨k + 1, by rw [hk, Nat.pow_succ]⟩ (by rw [Nat.pow_succ] at h; rw [Nat.mul_assoc, Nat.mul_comm 2]; exact h)
      exact ⟨k', a, b, by omega⟩
    · rw [if_neg c]
      exact ⟨k, hk, by omega, by omega⟩
theorem above {n : Nat} (h : n < 1000000) : ∃ k, SetTable.sizeAbove n = 2 ^ k ∧ n < SetTable.sizeAbove n ∧ SetTable.sizeAbove n ≤ max 8 (2 * n) :=
  above_go 64 8 n ⟨3, rfl⟩ (Nat.lt_of_lt_of_le h (by decide))
end DS

set_option Elab.async false
set_option linter.all false
set_option maxRecDepth 100000
set_option maxHeartbeats 4000000
/-! DS2: a set of texts in the heap: what it is, adding, laying anew, merging -/
namespace DS
open PySem PySem.Spec PyProof.Rows L2
def keyS (e : Int × Value) : Str := match e.2 with
  | .str k _ => k
  | _ => Str.empty
def GoodS (w : World) (e : Int × Value) : Prop := ∃ k tk, e.2 = Value.str k tk ∧ e.1 = hashStr w k
/-- the entries es, laid by t, are the texts S -/
structure SOk (w : World) (es : Array (Int × Value)) (t : SetTable) (S : Str → Bool) : Prop where
  good : ∀ e ∈ es.toList, GoodS w e
  nd : (es.toList.map keyS).Nodup
  mem : ∀ k, S k = true ↔ k ∈ es.toList.map keyS
  bd : es.size < scanBound
  fit : t.fits es.size = true
  ris : Ris t.place.toList
  led : w.params.followText "set-order" = true ∨ t.led = true
  pow : es.size = 0 → ∃ k, t.mask + 1 = 2 ^ k
/-- the set of texts at a -/
def SetS (w : World) (h : Heap) (a : Addr) (S : Str → Bool) (n : Nat) : Prop :=
  ∃ o es ep t, h.get? a = some o ∧ o.ExactSet ∧ o.data = .set es ep t ∧ SOk w es t S ∧ es.size = n
section
variable {P : Program} {w : World} {h h' : Heap} {a : Addr} {S S' : Str → Bool} {n : Nat} {es es' : Array (Int × Value)} {t t' : SetTable}
theorem SetS.keep (R : SetS w h a S n) (k : ∀ o, h.get? a = some o → h'.get? a = some o) : SetS w h' a S n := by
  obtain ⟨o, es, ep, t, ho, r⟩ := R
  exact ⟨o, es, ep, t, k o ho, r⟩
theorem SetS.congr (R : SetS w h a S n) (e : ∀ k, S' k = S k) : SetS w h a S' n := by
  have q : S' = S := funext e
  rw [q]; exact R
theorem SOk.elems (k : SOk w es t S) : ElemsOf (strKind P w) es.toList := fun e he => by
  obtain ⟨x, tk, h1, h2⟩ := k.good e he
  exact ⟨⟨x, by rw [h1]; exact strKind_is P w x tk, h2⟩, by rw [h1] <;> rfl⟩
theorem is_key {e : Int × Value} (g : GoodS w e) (k : Str) : (strKind P w).is k e.2 = true ↔ keyS e = k := by
  obtain ⟨x, tk, h1, _⟩ := g
  unfold keyS
  rw [h1]
  constructor
  · intro h
    have h' : Value.isStrOf k (Value.str x tk) = true := h
    obtain ⟨u, hu⟩ := Value.isStrOf_shape h'
    injection hu
  · rintro rfl
    exact strKind_is P w _ tk
theorem SOk.has (k : SOk w es t S) (x : Str) : S x = true ↔ ∃ e ∈ es.toList, (strKind P w).is x e.2 = true := by
  rw [k.mem x, List.mem_map]
  exact ⟨fun ⟨e, he, q⟩ => ⟨e, he, (is_key (k.good e he) x).2 q⟩, fun ⟨e, he, q⟩ => ⟨e, he, (is_key (k.good e he) x).1 q⟩⟩
theorem SetS.setOf (R : SetS w h a S n) : h.SetOf (strKind P w) a S n := by
  obtain ⟨o, es, ep, t, ho, hx, hd, k, hn⟩ := R
  exact ⟨o, es, ep, t, ho, hx, hd, k.elems, k.has, k.bd, k.fit, hn⟩
/-- the same entries in another order, on another table -/
theorem SOk.perm (k : SOk w es t S) (p : es'.toList.Perm es.toList) (hf : t'.fits es'.size = true) (hr : Ris t'.place.toList) (hl : t'.led = t.led) (hp : es'.size = 0 → ∃ j, t'.mask + 1 = 2 ^ j) : SOk w es' t' S where
  good := fun e he => k.good e (p.mem_iff.mp he)
  nd := (p.map keyS).nodup_iff.mpr k.nd
  mem := fun x => (k.mem x).trans (p.map keyS).mem_iff.symm
  bd := by
    have : es'.size = es.size := by rw [← Array.length_toList, p.length_eq, Array.length_toList]
    rw [this]; exact k.bd
  fit := hf
  ris := hr
  led := k.led.imp id fun z => by rw [hl]; exact z
  pow := hp
/-- one more -/
theorem SOk.more {k : Str} {tk : Tok} (h : SOk w es t S) (hk : S k = false) (p : es'.toList.Perm (es.push (hashStr w k, Value.str k tk)).toList) (hf : t'.fits es'.size = true) (hr : Ris t'.place.toList) (hl : t'.led = t.led) (room : es.size + 1 < scanBound) : SOk w es' t' (fun j => S j || decide (j = k)) := by
  rw [Array.toList_push] at p
  have pc := p.trans (List.perm_append_singleton _ _)
  have pk : (es'.toList.map keyS).Perm (k :: es.toList.map keyS) := pc.map keyS
  have sz : es'.size = es.size + 1 := by rw [← Array.length_toList, pc.length_eq, List.length_cons, Array.length_toList]
  refine ⟨fun e he => ?_, pk.nodup_iff.mpr (List.nodup_cons.mpr ⟨fun z => ?_, h.nd⟩), fun i => ?_, by rw [sz]; exact room, hf, hr, h.led.imp id fun z => by rw [hl]; exact z, fun z => by rw [sz] at z; cases z⟩
  · rcases List.mem_cons.mp (pc.mem_iff.mp he) with z | z
    · rw [z]; exact ⟨k, tk, rfl, rfl⟩
    · exact h.good e z
  · rw [(h.mem k).2 z] at hk; cases hk
  · rw [Bool.or_eq_true, decide_eq_true_eq, h.mem i, pk.mem_iff, List.mem_cons]
    exact Or.comm
theorem fits_led {t : SetTable} {b : Bool} {n : Nat} (h : t.fits n = true) : ({ t with plain := b } : SetTable).fits n = true := h
end
section
variable {P : Program} {w : World} {A : Around} {E : Value → Shared → Prop} {s : Shared} {a : Addr} {S : Str → Bool} {n : Nat}
/-- stored -/
theorem put_set {h : Heap} {o : Obj} {es es' : Array (Int × Value)} {ep : Nat} {t t' : SetTable} (ho : h.get? a = some o) (hex : o.ExactSet) (hd : o.data = .set es ep t) (k : SOk w es' t' S) : SetS w (h.update a (Obj.putSet es' t')) a S es'.size :=
  ⟨_, es', _, t', store_at ho hd, hex, rfl, k, rfl⟩
theorem gave_ok {b : Bool} {Q : Unit → Shared → Prop} (q : Q () s) : wpAny (model P w) A (match b with | true => rule "set.scan.the-table-gave-way" | false => pure ()) Q E s := by
  cases b
  · exact wpAny_pure q
  · exact wpAny_rule q
theorem add_tail {gw : Bool → Sem Unit} (hg : ∀ (b : Bool) (s₁ : Shared) (Q' : Unit → Shared → Prop), Q' () s₁ → wpAny (model P w) A (gw b) Q' E s₁) {o : Obj} {es es1 : Array (Int × Value)} {ep : Nat} {t t2 : SetTable} (ho : s.heap.get? a = some o) (hex : o.ExactSet)
    (hd : o.data = .set es ep t) (k1 : SOk w es1 t2 S) (h0 : es1.size ≠ 0) {wd : Bool} {R : Option Bool → Shared → Prop} (hR : ∀ h', Heap.SameBut a s.heap h' → SetS w h' a S es1.size → R (some true) { s with heap := h' }) :
    wpAny (model P w) A (do
      storeSet a es1 t2
      if (!wd && t2.tooFull) = true then do
          gw (relayAll t2 es1 (SetTable.grown es1.size)).2.2
          storeSet a (relayAll t2 es1 (SetTable.grown es1.size)).1 (relayAll t2 es1 (SetTable.grown es1.size)).2.1
          pure (some true)
        else pure (some true)) R E s := by
  have sb := Heap.SameBut.update s.heap a (Obj.putSet es1 t2)
  refine wpAny_bind (wpAny_storeSet_of ho hd ?_ (fits_of_scanBound k1.bd))
  by_cases c : (!wd && t2.tooFull) = true
  · rw [if_pos c]
    have pm := relayAll_perm t2 es1 (SetTable.grown es1.size)
    have sz : (relayAll t2 es1 (SetTable.grown es1.size)).1.size = es1.size := by rw [← Array.length_toList, pm.length_eq, Array.length_toList]
    have k2 := k1.perm pm (relayAll_fits _ _ _) (relayAll_ris t2 es1 _) (relayAll_led t2 es1 _) fun z => absurd (sz.symm.trans z) h0
    refine wpAny_bind (hg _ _ _ (wpAny_bind (wpAny_storeSet_of (store_at ho hd) rfl (wpAny_pure (hR _ (sb.trans (Heap.SameBut.update _ a _)) ?_)) (fits_of_scanBound k2.bd))))
    have := put_set (w := w) (store_at (es' := es1) (t' := t2) ho hd) hex rfl k2
    rw [sz] at this
    exact this
  · rw [if_neg c]
    exact wpAny_pure (hR _ sb (put_set ho hex hd k1))
/-- a text is added -/
theorem add_str {k : Str} {tk : Tok} {Q : Bool → Shared → Prop} (R : SetS w s.heap a S n) (room : n + 1 < scanBound)
    (hQ : ∀ h', Heap.SameBut a s.heap h' → SetS w h' a (fun j => S j || decide (j = k)) (if S k = true then n else n + 1) → Q (!S k) { s with heap := h' }) :
    wpAny (model P w) A (setAddHashed a (.str k tk) (hashStr w k)) Q E s := by
  obtain ⟨o, es, ep, t, ho, hex, hd, ok, rfl⟩ := R
  have hel : ElemsOf (strKind P w) es.toList := ok.elems
  have hsc : (Value.str k tk).scannable = true := rfl
  unfold setAddHashed setAddHashedIn
  refine wpAny_holding (wpAny_bind (wpAny_setState_of ho hd ok.fit ?_))
  dsimp only
  rw [byScan_of hsc ok.bd hel]
  simp only [↓reduceIte]
  unfold setAddByScan
  refine wpAny_bind (wpAny_bind (wpAny_rule (wpAny_bind (wpAny_setScan_of (knd := strKind P w) (strKind_is P w k tk) ho hd ok.fit hel ?_))))
  have hidx := (ok.has (P := P) k)
  cases hfi : List.findIdx? (fun e => (strKind P w).is k e.2) es.toList with
  | some j =>
    dsimp only
    obtain ⟨hj, pj, _⟩ := List.findIdx?_eq_some_iff_getElem.mp hfi
    have hS : S k = true := hidx.2 ⟨_, List.getElem_mem hj, pj⟩
    have q := hQ s.heap (Heap.SameBut.refl a s.heap)
    rw [if_pos hS, hS] at q
    have e : (fun j => S j || decide (j = k)) = S := funext fun i => by
      by_cases c : i = k
      · rw [c, hS]; rfl
      · rw [decide_eq_false c, Bool.or_false]
    rw [e] at q
    exact wpAny_pure (wpAny_pure (q ⟨o, es, ep, t, ho, hex, hd, ok, rfl⟩))
  | none =>
    dsimp only
    have hS : S k = false := by
      cases q : S k with
      | false => rfl
      | true =>
        obtain ⟨e, he, z⟩ := hidx.1 q
        rw [List.findIdx?_eq_none_iff.mp hfi e he] at z
        cases z
    have pm := layNew_perm t es (hashStr w k) (.str k tk)
    have hf1 := layNew_fits t es (hashStr w k) (.str k tk)
    have hr1 := layNew_ris t es (hashStr w k) (.str k tk) ok.ris
    have hl1 := layNew_led t es (hashStr w k) (.str k tk)
    generalize layNew t es (hashStr w k) (.str k tk) = Z at pm hf1 hr1 hl1
    obtain ⟨es1, t1, wasDummy, gave⟩ := Z
    dsimp only at pm hf1 hr1 hl1 ⊢
    have sz : es1.size = es.size + 1 := by
      rw [← Array.length_toList, pm.length_eq, Array.length_toList, Array.size_push]
    have k1 := ok.more hS pm hf1 hr1 hl1 room
    have fin : ∀ h', Heap.SameBut a s.heap h' → SetS w h' a (fun j => S j || decide (j = k)) es1.size → wpAny (model P w) A (pure true) Q E { s with heap := h' } := fun h' sb r => by
      have q := hQ h' sb
      rw [hS, if_neg Bool.false_ne_true, ← sz] at q
      exact wpAny_pure (q r)
    refine wpAny_bind (gave_ok ?_)
    have hz : es1.size ≠ 0 := by omega
    by_cases hp : t1.plain = true
    · rw [if_pos hp]
      refine wpAny_bind ?_
      rw [hashByValue_scannable 8 hsc]
      refine wpAny_pure (add_tail (fun b s₁ Q' q => gave_ok q) ho hex hd (S := fun j => S j || decide (j = k)) ?_ hz fun h' sb r => fin h' sb r)
      exact ⟨k1.good, k1.nd, k1.mem, k1.bd, k1.fit, k1.ris, k1.led, k1.pow⟩
    · rw [if_neg hp]
      refine wpAny_bind (wpAny_pure ?_)
      exact add_tail (fun b s₁ Q' q => gave_ok q) ho hex hd k1 hz fun h' sb r => fin h' sb r
end
end DS

set_option Elab.async false
set_option linter.all false
set_option maxRecDepth 100000
set_option maxHeartbeats 4000000
namespace DS
open PySem PySem.Spec PyProof.Rows L2
theorem get_all {α : Type} : ∀ l : List α, (List.range l.length).filterMap (fun i => l[i]?) = l
  | [] => rfl
  | x :: l => by
    rw [List.length_cons, List.range_succ_eq_map, List.filterMap_cons, List.filterMap_map]
    show x :: (List.range l.length).filterMap (fun i => l[i]?) = x :: l
    rw [get_all l]
theorem order_perm {es : Array (Int × Value)} {order : Array Nat} (h : order.toList.Perm (List.range es.size)) : (order.filterMap (es[·]?)).toList.Perm es.toList := by
  rw [Array.toList_filterMap]
  have := List.Perm.filterMap (fun i => es[i]?) h
  refine this.trans ?_
  have e := get_all es.toList
  rw [Array.length_toList] at e
  have e2 : (fun i : Nat => es.toList[i]?) = fun i => es[i]? := funext fun i => Array.getElem?_toList
  rw [e2] at e
  rw [e]
/-- the set of texts at a, its rows and table -/
structure SetX (w : World) (h : Heap) (a : Addr) (S : Str → Bool) (es : Array (Int × Value)) (ep : Nat) (t : SetTable) : Prop where
  obj : ∃ o, h.get? a = some o ∧ o.ExactSet ∧ o.data = .set es ep t
  ok : SOk w es t S
section
variable {P : Program} {w : World} {A : Around} {E : Value → Shared → Prop} {s : Shared} {a b : Addr} {S T : Str → Bool} {n : Nat} {es eb : Array (Int × Value)} {ep epb : Nat} {t tb : SetTable}
theorem SetX.set {h : Heap} (x : SetX w h a S es ep t) : SetS w h a S es.size := by
  obtain ⟨⟨o, ho, hx, hd⟩, k⟩ := x
  exact ⟨o, es, ep, t, ho, hx, hd, k, rfl⟩
theorem SetS.x {h : Heap} (x : SetS w h a S n) : ∃ es ep t, SetX w h a S es ep t ∧ es.size = n := by
  obtain ⟨o, es, ep, t, ho, hx, hd, k, hn⟩ := x
  exact ⟨es, ep, t, ⟨⟨o, ho, hx, hd⟩, k⟩, hn⟩
theorem SetX.keep {h h' : Heap} (x : SetX w h a S es ep t) (k : ∀ o, h.get? a = some o → h'.get? a = some o) : SetX w h' a S es ep t := by
  obtain ⟨⟨o, ho, hx⟩, r⟩ := x
  exact ⟨⟨o, k o ho, hx⟩, r⟩
theorem SetX.put {h : Heap} {es' : Array (Int × Value)} {t' : SetTable} (x : SetX w h a S es ep t) (k : SOk w es' t' T) : SetX w (h.update a (Obj.putSet es' t')) a T es' (ep + 1) t' := by
  obtain ⟨⟨o, ho, hx, hd⟩, _⟩ := x
  exact ⟨⟨_, store_at ho hd, hx, rfl⟩, k⟩
theorem state_x {Q : (Array (Int × Value) × Nat × SetTable) → Shared → Prop} (x : SetX w s.heap a S es ep t) (h : Q (es, ep, t) s) : wpAny (model P w) A (setState a) Q E s := by
  obtain ⟨⟨o, ho, hx, hd⟩, k⟩ := x
  exact wpAny_setState_of ho hd k.fit h
theorem store_x {es' : Array (Int × Value)} {t' : SetTable} {Q : Unit → Shared → Prop} (x : SetX w s.heap a S es ep t) (hz : es'.size ≤ sizeLine) (h : Q () { s with heap := s.heap.update a (Obj.putSet es' t') }) : wpAny (model P w) A (storeSet a es' t') Q E s := by
  obtain ⟨⟨o, ho, hx, hd⟩, k⟩ := x
  exact wpAny_storeSet_of ho hd h hz
/-- laid anew -/
theorem relay_x {wanted : Nat} {Q : Unit → Shared → Prop} (x : SetX w s.heap a S es ep t) (hw : es.size ≤ wanted) (hb : wanted < 1000000)
    (hQ : ∀ h' es' ep' t', Heap.SameBut a s.heap h' → SetX w h' a S es' ep' t' → es'.size = es.size → wanted ≤ t'.mask → Q () { s with heap := h' }) : wpAny (model P w) A (setRelay a wanted) Q E s := by
  obtain ⟨k, ek, e1, e2⟩ := above hb
  have hm : SetTable.sizeAbove wanted - 1 + 1 = 2 ^ k := by omega
  obtain ⟨t', order, el, hp, hr, hs, hmk, hd, hl, hpl⟩ := laid_all (finger := t.finger) (moves := t.movedTo (SetTable.sizeAbove wanted - 1)) (led := t.led) (plain := t.plain) hm (hs := es.map (·.1)) (by rw [Array.size_map]; omega)
  rw [Array.size_map] at hp hs
  have pm := order_perm hp
  have sz : (order.filterMap (es[·]?)).size = es.size := by rw [← Array.length_toList, pm.length_eq, Array.length_toList]
  have er : t.relaid (es.map (·.1)) wanted = some (t', order) := el
  rw [setRelay_eq]
  refine wpAny_bind (state_x x ?_)
  dsimp only
  refine wp_if_neg (by rw [sizeLine_eq]; omega) ?_
  try refine wpAny_bind (wpAny_pure ?_)
  rw [er]
  dsimp only
  refine wpAny_bind ?_
  refine wp_if_neg (by rw [sz]; simp) ?_
  try refine wpAny_bind (wpAny_pure ?_)
  refine wpAny_pure ?_
  dsimp only
  have k2 : SOk w (order.filterMap (es[·]?)) t' S := x.ok.perm pm (by
    unfold SetTable.fits SetTable.fill
    rw [hd, Bool.and_eq_true, beq_iff_eq, decide_eq_true_eq, sz, hs, hmk]
    exact ⟨rfl, by show es.size + 0 ≤ _; omega⟩) hr hl fun _ => ⟨k, by rw [hmk]; exact hm⟩
  exact store_x x (fits_of_scanBound k2.bd) (hQ _ _ _ t' (Heap.SameBut.update _ a _) (x.put k2) sz (by rw [hmk]; omega))
theorem room_x {more : Nat} {Q : Unit → Shared → Prop} (x : SetX w s.heap a S es ep t) (hb : more < 4096)
    (hQ : ∀ h' es' ep' t', Heap.SameBut a s.heap h' → SetX w h' a S es' ep' t' → es'.size = es.size → more ≤ t'.mask → Q () { s with heap := h' }) : wpAny (model P w) A (setRoomFor a more) Q E s := by
  have bd : es.size < 4096 := x.ok.bd
  have fs : t.place.size = es.size := by
    have := x.ok.fit
    unfold SetTable.fits at this
    rw [Bool.and_eq_true, beq_iff_eq] at this
    exact this.1
  unfold setRoomFor
  refine wpAny_bind (state_x x ?_)
  dsimp only
  unfold SetTable.roomFor
  by_cases c : (t.fill + more) * 5 ≥ t.mask * 3
  · rw [if_pos c]
    dsimp only
    refine relay_x x (by rw [fs]; omega) (by rw [fs]; omega) fun h' es' ep' t' sb x' e1 e2 => hQ h' es' ep' t' sb x' e1 (by omega)
  · rw [if_neg c]
    dsimp only
    exact wpAny_pure (hQ s.heap es ep t (Heap.SameBut.refl a s.heap) x rfl (by omega))
end
end DS

set_option Elab.async false
set_option linter.all false
set_option maxRecDepth 100000
set_option maxHeartbeats 4000000
namespace DS
open PySem PySem.Spec PyProof.Rows L2
section
variable {P : Program} {w : World} {A : Around} {E : Value → Shared → Prop} {s : Shared} {a b : Addr} {S T : Str → Bool} {n : Nat} {es eb : Array (Int × Value)} {ep epb : Nat} {t tb : SetTable}
/-- the rows of a set in some order -/
theorem walk_x {Q : Array (Int × Value) → Shared → Prop} (x : SetX w s.heap a S es ep t) (hQ : ∀ xs d, xs.toList.Perm es.toList → Q xs { s with drawn := d }) : wpAny (model P w) A (setWalk a) Q E s := by
  have self : Q es s := hQ es s.drawn (List.Perm.refl _)
  unfold setWalk
  refine wpAny_bind (state_x x ?_)
  dsimp only
  refine wpAny_bind (wpAny_byText ?_)
  cases hb : w.params.followText "set-order" with
  | true =>
    refine wp_if_pos rfl ?_
    refine wpAny_bind (wpAny_askSetting ?_)
    exact wpAny_pure (hQ _ s.drawn (pick_perm _ es))
  | false =>
    refine wp_if_neg (by simp) ?_
    have led : t.led = true := x.ok.led.resolve_left (by rw [hb]; exact Bool.false_ne_true)
    by_cases hdr : (!t.plain && decide (es.size > 1)) = true
    · refine wp_if_pos hdr ?_
      refine wpAny_bind (drawOrder_at _ _ _ _ (by rw [Array.length_toList]; exact Nat.le_refl _) fun ys d hp => wpAny_pure (hQ _ d hp))
    · refine wp_if_neg hdr ?_
      refine wpAny_bind ?_
      refine wp_if_neg (by rw [led]; simp) (wpAny_pure (wpAny_pure self))
theorem quiet_x {Q : Bool → Shared → Prop} (x : SetX w s.heap a S es ep t) (y : SetX w s.heap b T eb epb tb) (hQ : Q true s) : wpAny (model P w) A (setsQuiet [b, a]) Q E s := by
  unfold setsQuiet
  refine wpAny_bind (wpAny_forIn_list _ (fun rest r s' => r = (none, ()) ∧ s' = s ∧ ∀ c ∈ rest, c = b ∨ c = a) _ ?_ ?_ _ _ ⟨rfl, rfl, fun c hc => by simpa using hc⟩)
  · rintro c rest r s' ⟨rfl, rfl, hc⟩
    have inner : ∀ {U : Str → Bool} {ec : Array (Int × Value)} {ec' : Nat} {tc : SetTable}, SetX w s'.heap c U ec ec' tc → wpAny (model P w) A (setEntries c) (fun r s2 => r = ec ∧ s2 = s' ∧ ∀ e ∈ ec.toList, GoodS w e) E s' := fun z => by
      unfold setEntries
      exact wpAny_bind (state_x z (wpAny_pure ⟨rfl, rfl, z.ok.good⟩))
    have all : wpAny (model P w) A (setEntries c) (fun r s2 => s2 = s' ∧ ∀ e ∈ r.toList, GoodS w e) E s' := by
      rcases hc c List.mem_cons_self with rfl | rfl
      · exact wpAny_mono (inner y) (fun r s2 ⟨h1, h2, h3⟩ => ⟨h2, by rw [h1]; exact h3⟩) fun _ _ h => h
      · exact wpAny_mono (inner x) (fun r s2 ⟨h1, h2, h3⟩ => ⟨h2, by rw [h1]; exact h3⟩) fun _ _ h => h
    refine wpAny_bind (wpAny_mono all (fun ec s2 ⟨h1, h2⟩ => ?_) fun _ _ h => h)
    subst h1
    refine wpAny_bind (MeetsSeq2.wpAny_forIn_array _ (fun rest r s3 => r = (none, ()) ∧ s3 = s2 ∧ ∀ e ∈ rest, GoodS w e) _ ?_ ?_ _ _ ⟨rfl, rfl, h2⟩)
    · rintro e rest2 r s3 ⟨rfl, rfl, hg⟩
      obtain ⟨k, tk, h1, _⟩ := hg e List.mem_cons_self
      obtain ⟨e1, e2⟩ := e
      have h1' : e2 = Value.str k tk := h1
      subst h1'
      exact wpAny_pure ⟨rfl, rfl, fun e he => hg e (List.mem_cons_of_mem _ he)⟩
    · rintro r s3 ⟨rfl, rfl, _⟩
      exact wpAny_pure ⟨rfl, rfl, fun c hc' => hc c (List.mem_cons_of_mem _ hc')⟩
  · rintro r s' ⟨rfl, rfl, _⟩
    exact wpAny_pure hQ
/-- the rows of b, on the way into a -/
theorem unseen_x {Q : Array (Int × Value) → Shared → Prop} (hne : a ≠ b) (x : SetX w s.heap a S es ep t) (y : SetX w s.heap b T eb epb tb)
    (hQ : ∀ xs h' d, xs.toList.Perm eb.toList → Heap.SameBut a s.heap h' → SetS w h' a S es.size → Q xs { s with heap := h', drawn := d }) : wpAny (model P w) A (setWalkUnseen b [a] (some a)) Q E s := by
  have walk : wpAny (model P w) A (setWalk b) Q E s := walk_x y fun xs d hp => hQ xs s.heap d hp (Heap.SameBut.refl a s.heap) x.set
  unfold setWalkUnseen
  refine wpAny_bind (state_x y ?_)
  dsimp only
  refine wpAny_bind (wpAny_byText ?_)
  by_cases c1 : (w.params.followText "set-order" || (tb.led && tb.plain) || decide (eb.size ≤ 1)) = true
  · exact wp_if_pos c1 walk
  · refine wp_if_neg c1 ?_
    try refine wpAny_bind (wpAny_pure ?_)
    refine wpAny_bind (quiet_x x y ?_)
    refine wp_if_neg (by simp) ?_
    try refine wpAny_bind (wpAny_pure ?_)
    refine wpAny_bind (wpAny_rule ?_)
    refine wpAny_bind (state_x x ?_)
    dsimp only
    have hb : w.params.followText "set-order" = false := by
      cases q : w.params.followText "set-order" with
      | false => rfl
      | true => rw [q] at c1; simp at c1
    have la : t.led = true := x.ok.led.resolve_left (by rw [hb]; exact Bool.false_ne_true)
    have lb : tb.led = true := y.ok.led.resolve_left (by rw [hb]; exact Bool.false_ne_true)
    split
    · refine wpAny_bind (store_x x (fits_of_scanBound x.ok.bd) (wpAny_pure (hQ eb _ s.drawn (List.Perm.refl _) (Heap.SameBut.update _ a _) ?_)))
      refine (x.put (T := S) ?_).set
      exact ⟨x.ok.good, x.ok.nd, x.ok.mem, x.ok.bd, x.ok.fit, x.ok.ris, .inr (by show (t.led && tb.led) = true; rw [la, lb]; rfl), x.ok.pow⟩
    · exact wpAny_pure (hQ eb s.heap s.drawn (List.Perm.refl _) (Heap.SameBut.refl a s.heap) x.set)
theorem setMerge_eq (s o : Addr) (each : Sem Unit) : setMerge s o each = (do
  if s == o then return
  let (eo, epoch, to) ← setState o
  if eo.isEmpty then return
  setRoomFor s eo.size
  let (_, _, ts) ← setState s
  match ts.road to with
  | .slotForSlot => storeSet s eo { to with finger := ts.finger, led := ts.led && to.led, moves := ts.moves, plain := ts.plain && to.plain }
  | .clean =>
    let (es, t) ← (do
      let some (t, order) := SetTable.laid ts.mask ts.finger ts.moves (led := ts.led && to.led) (plain := ts.plain && to.plain) (eo.map (·.1)) | unsupported "internal:set-table-without-room"
      let es' := order.filterMap (eo[·]?)
      if es'.size != eo.size then unsupported "internal:set-table-lost-an-element"
      pure (es', t) : Sem (Array (Int × Value) × SetTable))
    storeSet s es t
  | .oneByOne =>
    for (h, x) in ← setWalkUnseen o [s] (some s) do
      let _ ← holding [x] (setAddHashed s x h)
      each
      if (← setState o).2.1 != epoch then unsupported "set.changed-during-merge") := by rfl
end
end DS

set_option Elab.async false
set_option linter.all false
set_option maxRecDepth 100000
set_option maxHeartbeats 4000000
namespace DS
open PySem PySem.Spec PyProof.Rows L2
section
variable {P : Program} {w : World} {A : Around} {E : Value → Shared → Prop} {s : Shared} {a b : Addr} {S T : Str → Bool} {n : Nat} {es eb : Array (Int × Value)} {ep epb : Nat} {t tb : SetTable}
theorem SOk.empty (k : SOk w es t S) (h : es.size = 0) : ∀ x, S x = false := fun x => by
  cases q : S x with
  | false => rfl
  | true =>
    have := (k.mem x).1 q
    have e : es.toList = [] := List.eq_nil_of_length_eq_zero (by rw [Array.length_toList]; exact h)
    rw [e] at this
    cases this
theorem merge_x {each : Sem Unit} {Q : Unit → Shared → Prop} (hne : a ≠ b) (x : SetX w s.heap a S es ep t) (y : SetX w s.heap b T eb epb tb) (hn : es.size + eb.size + 2 < scanBound)
    (heach : ∀ (s₁ : Shared) (Q' : Unit → Shared → Prop), SetX w s₁.heap b T eb epb tb → Q' () s₁ → wpAny (model P w) A each Q' E s₁)
    (hQ : ∀ h' d m, Heap.SameBut a s.heap h' → SetS w h' a (fun k => S k || T k) m → m ≤ es.size + eb.size → Q () { s with heap := h', drawn := d }) : wpAny (model P w) A (setMerge a b each) Q E s := by
  rw [setMerge_eq]
  refine wp_if_neg (by simpa using hne) ?_
  try refine wpAny_bind (wpAny_pure ?_)
  refine wpAny_bind (state_x y ?_)
  dsimp only
  by_cases c0 : eb.isEmpty = true
  · refine wp_if_pos c0 (wpAny_pure (hQ s.heap s.drawn es.size (Heap.SameBut.refl a s.heap) (x.set.congr fun k => ?_) (by omega)))
    rw [y.ok.empty (by simpa [Array.isEmpty] using c0), Bool.or_false]
  refine wp_if_neg c0 ?_
  try refine wpAny_bind (wpAny_pure ?_)
  have h0 : eb.size ≠ 0 := fun z => c0 (by simpa [Array.isEmpty] using z)
  refine wpAny_bind (room_x x y.ok.bd fun h1 e1 p1 t1 sb1 x1 sz1 hm1 => ?_)
  have y1 : SetX w h1 b T eb epb tb := y.keep fun o ho => by rw [sb1.2 b (Ne.symm hne)]; exact ho
  refine wpAny_bind (state_x (s := { s with heap := h1 }) x1 ?_)
  dsimp only
  have fs : t1.place.size = e1.size := by
    have := x1.ok.fit
    unfold SetTable.fits at this
    rw [Bool.and_eq_true, beq_iff_eq] at this
    exact this.1
  have led2 : w.params.followText "set-order" = true ∨ (t1.led && tb.led) = true := by
    rcases x1.ok.led with z | z
    · exact .inl z
    · rcases y1.ok.led with z' | z'
      · exact .inl z'
      · exact .inr (by rw [z, z']; rfl)
  have none1 : t1.fill = 0 → e1.size = 0 := fun z => by
    unfold SetTable.fill at z
    omega
  have fin : ∀ {h' : Heap} {m : Nat} {d : Drawn}, Heap.SameBut a h1 h' → e1.size = 0 → SetS w h' a T m → m ≤ eb.size → Q () { s with heap := h', drawn := d } := fun {h' m d} sb z r hm => by
    refine hQ h' d m (sb1.trans sb) (r.congr fun k => ?_) (by omega)
    rw [x1.ok.empty z, Bool.false_or]
  cases hr : t1.road tb with
  | slotForSlot =>
    dsimp only
    have z : e1.size = 0 := by
      refine none1 ?_
      unfold SetTable.road at hr
      split at hr
      · cases hr
      · rename_i c; simpa using c
    refine store_x (s := { s with heap := h1 }) x1 (fits_of_scanBound y1.ok.bd) (fin (d := s.drawn) (Heap.SameBut.update h1 a _) z ((x1.put (T := T) ?_).set) (Nat.le_refl _))
    exact ⟨y1.ok.good, y1.ok.nd, y1.ok.mem, y1.ok.bd, y1.ok.fit, y1.ok.ris, led2, fun q => absurd q h0⟩
  | clean =>
    dsimp only
    have z : e1.size = 0 := by
      refine none1 ?_
      unfold SetTable.road at hr
      split at hr
      · cases hr
      · rename_i c; simpa using c
    obtain ⟨k, hk⟩ := x1.ok.pow z
    obtain ⟨t', order, el, hp, hri, hs, hmk, hd, hl, hpl⟩ := laid_all (finger := t1.finger) (moves := t1.moves) (led := t1.led && tb.led) (plain := t1.plain && tb.plain) hk (hs := eb.map (·.1)) (by rw [Array.size_map]; exact hm1)
    rw [Array.size_map] at hp hs
    have pm := order_perm hp
    have sz : (order.filterMap (eb[·]?)).size = eb.size := by rw [← Array.length_toList, pm.length_eq, Array.length_toList]
    rw [el]
    dsimp only
    refine wpAny_bind ?_
    refine wp_if_neg (by rw [sz]; simp) ?_
    try refine wpAny_bind (wpAny_pure ?_)
    refine wpAny_pure ?_
    dsimp only
    have k2 : SOk w (order.filterMap (eb[·]?)) t' T := by
      refine ⟨fun e he => y1.ok.good e (pm.mem_iff.mp he), (pm.map keyS).nodup_iff.mpr y1.ok.nd, fun x => (y1.ok.mem x).trans (pm.map keyS).mem_iff.symm, by rw [sz]; exact y1.ok.bd, ?_, hri, by rw [hl]; exact led2, fun q => absurd (sz.symm.trans q) h0⟩
      unfold SetTable.fits SetTable.fill
      rw [hd, Bool.and_eq_true, beq_iff_eq, decide_eq_true_eq, sz, hs, hmk]
      exact ⟨rfl, by show eb.size + 0 ≤ _; omega⟩
    have r := (x1.put k2).set
    rw [sz] at r
    exact store_x (s := { s with heap := h1 }) x1 (fits_of_scanBound k2.bd) (fin (d := s.drawn) (Heap.SameBut.update h1 a _) z r (Nat.le_refl _))
  | oneByOne =>
    dsimp only
    refine wpAny_bind (unseen_x (s := { s with heap := h1 }) hne x1 y1 fun xs h2 d hp sb2 r2 => ?_)
    have y2 : SetX w h2 b T eb epb tb := y1.keep fun o ho => by rw [sb2.2 b (Ne.symm hne)]; exact ho
    have good : ∀ e ∈ xs.toList, GoodS w e := fun e he => y1.ok.good e (hp.mem_iff.mp he)
    have memT : ∀ k, T k = true ↔ k ∈ xs.toList.map keyS := fun k => (y1.ok.mem k).trans (hp.map keyS).mem_iff.symm
    have len : xs.toList.length = eb.size := by rw [hp.length_eq, Array.length_toList]
    refine wpAny_bind (MeetsSeq2.wpAny_forIn_array _ (fun rest _ s' => ∃ (h' : Heap) (m : Nat) (U : Str → Bool), s' = { s with heap := h', drawn := d } ∧ Heap.SameBut a h2 h' ∧ SetS w h' a U m ∧ m + rest.length ≤ e1.size + eb.size ∧ (∀ k, (U k = true ∨ k ∈ rest.map keyS) ↔ (S k || T k) = true) ∧ ∀ e ∈ rest, GoodS w e) _ ?_ ?_ _ _
      ⟨h2, e1.size, S, rfl, Heap.SameBut.refl a h2, r2, by rw [len]; exact Nat.le_refl _, fun k => by rw [Bool.or_eq_true, memT k], good⟩)
    · rintro e rest r s' ⟨h', m, U, rfl, sb, R, hm, hU, hg⟩
      obtain ⟨k, tk, h1', h2'⟩ := hg e List.mem_cons_self
      obtain ⟨ha, va⟩ := e
      have h1' : va = Value.str k tk := h1'
      have h2' : ha = hashStr w k := h2'
      subst h1' h2'
      dsimp only
      rw [List.length_cons] at hm
      refine wpAny_bind (wpAny_holding (add_str (s := { s with heap := h', drawn := d }) R (by omega) fun h3 sb3 R3 => ?_))
      have y3 : SetX w h3 b T eb epb tb := y2.keep fun o ho => by rw [sb3.2 b (Ne.symm hne), sb.2 b (Ne.symm hne)]; exact ho
      refine wpAny_bind (heach _ _ y3 ?_)
      refine wpAny_bind (state_x (s := { s with heap := h3, drawn := d }) y3 ?_)
      refine wp_if_neg (by simp) ?_
      refine wpAny_pure ⟨h3, _, _, rfl, sb.trans sb3, R3, by split <;> omega, fun j => ?_, fun e he => hg e (List.mem_cons_of_mem _ he)⟩
      rw [← hU j, Bool.or_eq_true, decide_eq_true_eq, List.map_cons, List.mem_cons]
      constructor
      · rintro ((q | q) | q)
        · exact .inl q
        · exact .inr (.inl q)
        · exact .inr (.inr q)
      · rintro (q | q | q)
        · exact .inl (.inl q)
        · exact .inl (.inr q)
        · exact .inr q
    · rintro r s' ⟨h', m, U, rfl, sb, R, hm, hU, _⟩
      refine wpAny_pure (hQ h' d m ((sb1.trans sb2).trans sb) (R.congr fun k => ?_) (by simp at hm; omega))
      have := hU k
      simp only [List.map_nil, List.not_mem_nil, or_false] at this
      cases q1 : (S k || T k) <;> cases q2 : U k <;> simp_all
end
end DS

set_option Elab.async false
set_option linter.all false
set_option maxRecDepth 100000
set_option maxHeartbeats 4000000
/-! DS6: sorting texts; sorted(set), set | set, set(xs) -/
namespace DS
open PySem PySem.Spec PyProof.Rows L2
def sv : Value → List Nat
  | .str k _ => k.cps.toList
  | _ => []
def ltSv (v u : Value) : Bool := decide (sv v < sv u)
theorem swo_sv : SrtO.Swo ltSv := by
  refine ⟨fun x y h => ?_, fun x y z h1 h2 => ?_⟩
  · have a : sv x < sv y := of_decide_eq_true h
    exact decide_eq_false fun b => List.lt_irrefl _ (List.lt_trans a b)
  · have a : ¬ sv y < sv x := of_decide_eq_false h1
    have b : ¬ sv z < sv y := of_decide_eq_false h2
    refine decide_eq_false fun c => ?_
    rcases Classical.em (sv z < sv y) with q | q
    · exact b q
    · exact a (List.lt_of_le_of_lt (List.not_lt.mp q) c)
section
variable {P : Program} {w : World} {A : Around} {E : Value → Shared → Prop} {s : Shared}
theorem str_cmp {vs : List Value} (hI : ∀ v ∈ vs, ∃ k t, v = Value.str k t) : SrtO.Cmp P w A s oneType' (fun p => p.1 ∈ vs) (SrtO.lt2 ltSv) := by
  intro p q hm hm'
  obtain ⟨a, t, e⟩ := hI _ hm
  obtain ⟨b, u, e'⟩ := hI _ hm'
  show wpAny (model P w) A (keyLt' oneType' p.1 q.1) (fun r s' => s' = s ∧ r = ltSv p.1 q.1) (fun _ _ => False) s
  rw [e, e', keyLt'_oneType]
  exact oneLt_str ⟨rfl, rfl⟩
theorem strs_sortable {a : Addr} {vs : List Value} (hI : ∀ v ∈ vs, ∃ k t, v = Value.str k t) (h2 : 2 ≤ vs.length) : SrtO.SortableO P w A s a vs ltSv := by
  intro h' _
  refine ⟨oneType', fun Q E hq => ?_, str_cmp hI⟩
  match vs, hI, h2 with
  | v1 :: v2 :: rest, hI, _ =>
    rw [keyKind_strs (strsAre_map _ hI)]
    exact wpAny_pure hq
  | [], _, h => exact absurd h (by decide)
  | [v], _, h => exact absurd h (by simp)
def txOf : Value → Str
  | .str k _ => k
  | _ => Str.empty
theorem vals_strs : ∀ {vs : List Value}, (∀ v ∈ vs, ∃ k t, v = Value.str k t) → Vals ((vs.map txOf).map V.str) vs
  | [], _ => .nil
  | v :: vs, h => by
    obtain ⟨k, t, rfl⟩ := h v List.mem_cons_self
    exact .cons ⟨t, rfl⟩ (vals_strs fun u hu => h u (List.mem_cons_of_mem _ hu))
theorem strs_vals : ∀ {ks : List Str} {vs : List Value}, Vals (ks.map V.str) vs → (∀ v ∈ vs, ∃ k t, v = Value.str k t) ∧ vs.map txOf = ks
  | [], _, .nil => ⟨fun v h => (by cases h), rfl⟩
  | k :: ks, _, .cons r t => by
    obtain ⟨tk, rfl⟩ := r
    obtain ⟨h1, h2⟩ := strs_vals t
    refine ⟨fun v h => ?_, by rw [List.map_cons, h2]; rfl⟩
    rcases List.mem_cons.mp h with rfl | h
    · exact ⟨_, _, rfl⟩
    · exact h1 v h
/-- texts in order -/
abbrev LeT (x y : Str) : Prop := ¬ y.cps.toList < x.cps.toList
abbrev LtT (x y : Str) : Prop := x.cps.toList < y.cps.toList
theorem out_le {vs out : List Value} (hI : ∀ v ∈ vs, ∃ k t, v = Value.str k t) (hs : SrtO.Srtd ltSv out) (hb : SrtO.Stb ltSv out vs) : (∀ v ∈ out, ∃ k t, v = Value.str k t) ∧ (out.map txOf).Perm (vs.map txOf) ∧ (out.map txOf).Pairwise LeT := by
  have hO : ∀ v ∈ out, ∃ k t, v = Value.str k t := fun v hv => hI v (hb.perm.mem_iff.mp hv)
  refine ⟨hO, hb.perm.map txOf, List.pairwise_map.mpr ?_⟩
  refine hs.imp_of_mem fun {x y} hx hy h => ?_
  obtain ⟨k, t, rfl⟩ := hO x hx
  obtain ⟨j, u, rfl⟩ := hO y hy
  exact of_decide_eq_false (p := j.cps.toList < k.cps.toList) h
theorem lt_of_nodup : ∀ {l : List Str}, l.Pairwise LeT → l.Nodup → l.Pairwise LtT
  | [], _, _ => .nil
  | x :: l, h, d => by
    obtain ⟨h1, h2⟩ := List.pairwise_cons.mp h
    obtain ⟨d1, d2⟩ := List.nodup_cons.mp d
    refine List.pairwise_cons.mpr ⟨fun y hy => ?_, lt_of_nodup h2 d2⟩
    have a := h1 y hy
    rcases Classical.em (x.cps.toList < y.cps.toList) with c | c
    · exact c
    · exfalso
      have e : x.cps.toList = y.cps.toList := List.le_antisymm (List.not_lt.mp a) (List.not_lt.mp c)
      have : x = y := by
        obtain ⟨p⟩ := x
        obtain ⟨q⟩ := y
        have : p = q := Array.toList_inj.mp e
        rw [this]
      exact d1 (this ▸ hy)
/-- sorted(set) -/
theorem sorted_setS {a : Addr} {S : Str → Bool} {n : Nat} {Q : Value → Shared → Prop} (R : SetS w s.heap a S n) (hh : A.handled = none)
    (hQ : ∀ s' p (out : List Value) (c : Nat) (ks : List Str), (∀ b o, s.heap.get? b = some o → s'.heap.get? b = some o) → s'.gens = s.gens → s'.os = s.os → s.heap.objs.size ≤ p →
      s'.heap.get? p = some (seqObj "list" out.toArray c) → Vals (ks.map V.str) out → ks.Pairwise LtT → (∀ k, k ∈ ks ↔ S k = true) → ks.length = n → Q (.ref p) s') :
    wpAny (model P w) A (call (.builtin "sorted") [.ref a]) Q E s := by
  obtain ⟨o, es, ep, t, ho, hex, hd, ok, hn⟩ := R
  refine Calls.call_function_entry kind_sorted plain_sorted entry_sorted (args_sorted1 _) ?_
  unfold Builtin.«sorted»
  refine wpAny_bind (m := checkCount "sorted" 1 1 _) (wpAny_pure ?_)
  refine wpAny_bind (collect_set (A := A.in1) hh ⟨o, ho, hex.1, hd⟩ ok.fit ok.bd ok.ris ok.led fun s1 vs k1 hz g1 o1 pm => ?_)
  have hvl : vs.length = n := by rw [pm.length_eq, List.length_map, Array.length_toList]; exact hn
  have hl : vs.length ≤ sizeLine := by rw [hvl, ← hn]; exact fits_of_scanBound ok.bd
  have hI : ∀ v ∈ vs, ∃ k t, v = Value.str k t := fun v hv => by
    obtain ⟨e, he, q⟩ := List.mem_map.mp (pm.mem_iff.mp hv)
    obtain ⟨k, tk, h1, _⟩ := ok.good e he
    exact ⟨k, tk, by rw [← q]; exact h1⟩
  have pk : (vs.map txOf).Perm (es.toList.map keyS) := by
    have q := pm.map txOf
    rw [List.map_map] at q
    have e : (txOf ∘ fun x : Int × Value => x.2) = keyS := rfl
    rw [e] at q
    exact q
  refine wpAny_bind (wpAny_newList ?_ hl)
  have hoL : (s1.heap.push (seqObj "list" vs.toArray 0)).get? s1.heap.objs.size = some (seqObj "list" vs.toArray 0) := Heap.get?_push_size _ rfl
  refine wpAny_bind (wpAny_holding (wpAny_call_entry slot_list_sort ⟨_, hoL, rfl⟩ entry_list_sort (SrtO.list_sort_ord swo_sv hoL hl (fun h2 => strs_sortable hI h2) fun out hs hb => ⟨_, rfl, ?_⟩) (args_list_sort _)))
  obtain ⟨c, hc⟩ := sortedHeap_at (vs := vs) (out := out.toArray) hoL
  obtain ⟨a1, a2, a3⟩ := out_le hI hs hb
  have pn := a2.trans pk
  refine wpAny_pure ⟨_, rfl, hQ _ s1.heap.objs.size out c (out.map txOf) (fun b u e => ?_) g1 o1 hz hc (vals_strs a1) (lt_of_nodup a3 (pn.nodup_iff.mpr ok.nd)) (fun k => by rw [pn.mem_iff, ← ok.mem k]) ?_⟩
  · have q := k1 b u e
    have hlt := Heap.lt_size q
    show (sortedHeap (s1.heap.push (seqObj "list" vs.toArray 0)) s1.heap.objs.size vs out.toArray).get? b = some u
    rw [sortedHeap_old (Nat.ne_of_lt hlt) (by rw [size_push']; exact Nat.lt_succ_of_lt hlt)]
    exact Heap.get?_push_of_some _ q
  · rw [pn.length_eq, List.length_map, Array.length_toList]; exact hn
end
/-- the set of texts at a, as an object of the abstract heap -/
def SetSO (w : World) (a : Addr) (S : Str → Bool) (n : Nat) : HO := .ext fun h => SetS w h a S n
theorem setSO_new {P : Program} {w : World} {H : Hp} {h : Heap} {a : Addr} {S : Str → Bool} {n : Nat} (R : SetS w h a S n) : ObjOk P w H h a (SetSO w a S n) := by
  have ⟨o, _, _, _, ho, _⟩ := R
  exact ⟨R, ⟨o, ho⟩, fun h1 h2 p k => p.keep k⟩
section
variable {X : Cx}
theorem setS_get {pins : List (Addr × Obj)} {σ : L2.St} {H : Hp} {s : Shared} {a : Addr} {S : Str → Bool} {n : Nat} (I : Inv X pins σ H s) (ha : H a = some (SetSO X.w a S n)) : SetS X.w s.heap a S n := (I.hok a _ ha).1
/-- a new object laid, whatever was drawn -/
theorem lay_in {pins : List (Addr × Obj)} {σ : L2.St} {H : Hp} {s s' : Shared} {p : Addr} {o : HO} {Q : VK} (I : Inv X pins σ H s) (k : ∀ b u, s.heap.get? b = some u → s'.heap.get? b = some u) (g : s'.gens = s.gens) (eo : s'.os = s.os) (hp : s.heap.objs.size ≤ p) (new : ObjOk X.prog X.w (upd H p o) s'.heap p o) (q : Q (.ref p) (upd H p o)) :
    ∃ v H', Inv X pins σ H' s' ∧ L2.RelV v (.ref p) ∧ Q v H' := by
  have J : Inv X pins σ (upd H p o) { s with heap := s'.heap, gens := s'.gens, drawn := s'.drawn, toks := s'.toks } :=
    I.call (ch := []) (Un.laid k hp (I.hok.fresh hp)) (I.hok.laid k hp new) (by rw [g]; exact I.bare) (fun _ z => nomatch z)
  have e : s' = { s with heap := s'.heap, gens := s'.gens, drawn := s'.drawn, toks := s'.toks } := by
    cases s'
    cases s
    cases eo
    rfl
  rw [e]
  exact ⟨.ref p, _, J, rfl, q⟩
def rSortedS (w : World) : List V → Hp → VK → Prop := fun vs H Q => ∃ (a : Addr) (S : Str → Bool) (n : Nat), vs = [V.ref a] ∧ H a = some (SetSO w a S n) ∧
  ∀ (ks : List Str) (p : Addr), ks.Pairwise LtT → (∀ k, k ∈ ks ↔ S k = true) → ks.length = n → H p = none → Q (.ref p) (upd H p (.lst (ks.map V.str)))
theorem cr_sortedS (hc : X.calm = true) : CallR X (.builtin "sorted") (rSortedS X.w) := by
  intro pins s σ H vs us Q I r h
  obtain ⟨a, S, n, rfl, ha, q⟩ := h
  rw [Vals.ref1 r]
  refine sorted_setS (setS_get I ha) (I.ok.hd hc) fun s' p out c ks k1 g1 o1 hp hl rv hlt hm hn => ?_
  have hz : (ks.map V.str).length ≤ sizeLine := by
    rw [List.length_map, hn]
    have ⟨_, es, _, _, _, _, _, ok, e⟩ := setS_get I ha
    rw [← e]
    exact fits_of_scanBound ok.bd
  exact lay_in (o := .lst (ks.map V.str)) I k1 g1 o1 hp ⟨hz, out, c, rv, hl⟩ (q ks p hlt hm hn (I.hok.fresh hp))
end
end DS

set_option Elab.async false
set_option linter.all false
set_option maxRecDepth 100000
set_option maxHeartbeats 4000000
namespace DS
open PySem PySem.Spec PyProof.Rows L2
section
variable {P : Program} {w : World} {A : Around} {E : Value → Shared → Prop} {s : Shared} {a b : Addr} {S T : Str → Bool} {n m : Nat}
abbrev freshS (w : World) : Obj := { cls := .type "set", dict := none, data := .set #[] 0 (.fresh 0 0 (!w.params.followText "set-order")) }
theorem new_ok (w : World) : SOk w #[] (.fresh 0 0 (!w.params.followText "set-order")) (fun _ => false) where
  good := fun e he => by simp at he
  nd := by simp
  mem := fun k => by simp
  bd := by decide
  fit := rfl
  ris := List.Pairwise.nil
  led := by
    show _ ∨ (!w.params.followText "set-order") = true
    cases w.params.followText "set-order"
    · exact .inr rfl
    · exact .inl rfl
  pow := fun _ => ⟨3, rfl⟩
theorem new_at {h : Heap} (ho : h.get? a = some (freshS w)) : SetX w h a (fun _ => false) #[] 0 (.fresh 0 0 (!w.params.followText "set-order")) := ⟨⟨_, ho, ⟨rfl, rfl, rfl⟩, rfl⟩, new_ok w⟩
theorem SetS.typeIs (R : SetS w s.heap a S n) : s.TypeIs (.ref a) "set" := by
  obtain ⟨o, _, _, _, ho, hx, _⟩ := R
  exact ⟨o, ho, hx.1⟩
theorem SetX.typeIs {es : Array (Int × Value)} {ep : Nat} {t : SetTable} (R : SetX w s.heap a S es ep t) : s.TypeIs (.ref a) "set" := R.set.typeIs
theorem any_set {Q : Bool → Shared → Prop} (hT : s.TypeIs (.ref a) "set") (h : Q true s) : wpAny (model P w) A (Builtin.Frozenset.isAnySet (.ref a)) Q E s := by
  unfold Builtin.Frozenset.isAnySet
  refine wpAny_bind (wpAny_isInstance (b := true) hT sub_set_self ?_)
  exact wpAny_pure h
theorem or_eq (args : Args) : Builtin.«frozenset.__or__» args = (do
  let (self, other) ← Builtin.Frozenset.slot1 "__or__" args
  let (l, r) := if false then (other, self) else (self, other)
  if !(← Builtin.Frozenset.isAnySet l <&&> Builtin.Frozenset.isAnySet r) then rule s!"frozenset.{"__or__"}.declined"; return ← ret .notImplemented
  ret (← (fun (id : String) (l : Addr) (r : Value) => (do
    let result ← Builtin.Frozenset.copyOf l
    if r != .ref l then holding [result] (Builtin.Frozenset.updateFrom id (← Builtin.Frozenset.addrOf result) r)
    return result : Sem Value)) s!"frozenset.{"__or__"}" (← Builtin.Frozenset.addrOf l) r)) := rfl
theorem entry_or : entryFor table "set.__or__" = some Builtin.«frozenset.__or__» := entryFor_alias (id' := "frozenset.__or__") (by kernel_rfl) rfl (by decide +kernel) (by kernel_rfl)
theorem copy_x {es : Array (Int × Value)} {ep : Nat} {t : SetTable} {Q : Value → Shared → Prop} (x : SetX w s.heap a S es ep t) (hn : es.size + 2 < scanBound)
    (hQ : ∀ h' d k, (∀ b o, s.heap.get? b = some o → h'.get? b = some o) → SetS w h' s.heap.objs.size S k → k ≤ es.size → Q (.ref s.heap.objs.size) { s with heap := h', drawn := d }) : wpAny (model P w) A (Builtin.Frozenset.copyOf a) Q E s := by
  unfold Builtin.Frozenset.copyOf Builtin.Frozenset.baseOf newSet
  refine wpAny_bind (wpAny_bind (wpAny_isInstance (b := true) x.typeIs sub_set_self (wpAny_pure ?_)))
  refine wpAny_bind (wpAny_bind (wpAny_byText ?_))
  dsimp only
  show wpAny (model P w) A (newObj (.type "set") _) _ _ _
  refine wpAny_newObj_type ?_
  refine wpAny_bind (wpAny_pure ?_)
  have hN : (s.heap.push (freshS w)).get? s.heap.objs.size = some (freshS w) := Heap.get?_push_size _ rfl
  have ha : a ≠ s.heap.objs.size := by
    obtain ⟨⟨o, ho, _⟩, _⟩ := x
    exact Nat.ne_of_lt (Heap.lt_size ho)
  have x' : SetX w (s.heap.push (freshS w)) a S es ep t := x.keep fun o ho => Heap.get?_push_of_some _ ho
  refine wpAny_bind (merge_x (s := { s with heap := s.heap.push (freshS w) }) (Ne.symm ha) (new_at hN) x' (by show 0 + es.size + 2 < _; omega) (fun s₁ Q' _ q => wpAny_pure q) fun h' d k sb R hk => ?_)
  refine wpAny_pure (hQ h' d k (fun b o e => ?_) (R.congr fun k => rfl) (by simpa using hk))
  rw [sb.2 b (Nat.ne_of_lt (Heap.lt_size e))]
  exact Heap.get?_push_of_some _ e
/-- a | b -/
theorem or_s {Q : Value → Shared → Prop} (x : SetS w s.heap a S n) (y : SetS w s.heap b T m) (hn : n + m + 4 < scanBound)
    (hQ : ∀ h' d k, (∀ b o, s.heap.get? b = some o → h'.get? b = some o) → SetS w h' s.heap.objs.size (fun k => S k || T k) k → k ≤ n + m → Q (.ref s.heap.objs.size) { s with heap := h', drawn := d }) : wpAny (model P w) A (binaryOp .BitOr (.ref a) (.ref b)) Q E s := by
  refine wpAny_binaryOp_same x.typeIs y.typeIs F.fills_set_or F.slot_set_or (wpAny_call_entry F.slot_set_or x.typeIs entry_or ?_ (F.args_set_or_2 _ _))
  rw [or_eq]
  refine wpAny_bind (m := Builtin.Frozenset.slot1 "__or__" _) (wpAny_of_eq (a := (.ref a, .ref b)) (by rfl) ?_)
  dsimp only
  refine wpAny_bind (wpAny_bind (any_set x.typeIs ?_))
  refine any_set y.typeIs ?_
  refine wp_if_neg (by simp) ?_
  try refine wpAny_bind (wpAny_pure ?_)
  obtain ⟨es, ep, t, X, rfl⟩ := SetS.x x
  obtain ⟨eb, epb, tb, Y, rfl⟩ := SetS.x y
  refine wpAny_bind (wpAny_bind (copy_x X (by omega) fun h1 d1 k1 keep1 R1 hk1 => ?_))
  have Y1 : SetX w h1 b T eb epb tb := Y.keep fun o ho => keep1 b o ho
  have hb : s.heap.objs.size ≠ b := by
    obtain ⟨⟨o, ho, _⟩, _⟩ := Y
    exact Nat.ne_of_gt (Heap.lt_size ho)
  have fin : ∀ {h' d k}, (∀ c o, s.heap.get? c = some o → h'.get? c = some o) → SetS w h' s.heap.objs.size (fun k => S k || T k) k → k ≤ es.size + eb.size → wpAny (model P w) A.in1 (ret (Value.ref s.heap.objs.size)) (fun r s₁ => ∃ v, r = .done (.ret v) ∧ (v ≠ .notImplemented ∧ Q v s₁)) E { s with heap := h', drawn := d } := fun {h' d k} kp R hk =>
    wpAny_pure ⟨_, rfl, (by intro z; cases z), hQ h' d k kp R hk⟩
  show wpAny (model P w) A.in1 (if (Value.ref b != Value.ref a) = true then _ else _) _ _ _
  by_cases c : a = b
  · subst c
    refine wp_if_neg (by simp) (wpAny_pure (fin keep1 (R1.congr fun k => ?_) (by omega)))
    have : S k = T k := by
      have e1 := X.ok.mem k
      have e2 := Y.ok.mem k
      obtain ⟨⟨o1, ho1, _, hd1⟩, _⟩ := X
      obtain ⟨⟨o2, ho2, _, hd2⟩, _⟩ := Y
      rw [ho1] at ho2
      cases ho2
      rw [hd1] at hd2
      cases hd2
      have e3 := e1.trans e2.symm
      cases q1 : S k <;> cases q2 : T k <;> simp [q1, q2] at e3 ⊢
    rw [this, Bool.or_self]
  · refine wp_if_pos (by simpa using Ne.symm c) ?_
    obtain ⟨e1, p1, t1, X1, hs1⟩ := SetS.x R1
    refine wpAny_bind (wpAny_of_eq (a := s.heap.objs.size) (by rfl) ?_)
    refine wpAny_bind (wpAny_holding ?_)
    unfold Builtin.Frozenset.updateFrom
    refine wpAny_bind (any_set (s := { s with heap := h1, drawn := d1 }) Y1.typeIs ?_)
    refine wp_if_pos rfl ?_
    refine wpAny_bind (wpAny_of_eq (a := b) (by rfl) ?_)
    unfold Builtin.Frozenset.merge
    refine wpAny_bind ?_
    obtain ⟨⟨ob, hob, hxb, hdb⟩, okb⟩ := id Y1
    refine wpAny_setEpoch_of (s := { s with heap := h1, drawn := d1 }) hob hdb okb.fit ?_
    refine merge_x (s := { s with heap := h1, drawn := d1 }) hb X1 Y1 (by omega) (fun s₁ Q' y q => ?_) fun h' d k sb R hk => ?_
    · unfold Builtin.Frozenset.unchanged
      obtain ⟨⟨oc, hoc, _, hdc⟩, okc⟩ := y
      refine wpAny_bind (wpAny_setEpoch_of hoc hdc okc.fit ?_)
      exact wp_if_neg (by simp) (wpAny_pure q)
    · refine wpAny_pure (fin (fun c o e => ?_) R (by omega))
      rw [sb.2 c (Nat.ne_of_lt (Heap.lt_size e))]
      exact keep1 c o e
/-- the texts that an iterator gives, one by one into the set -/
theorem fill_strs {I : Addr} {fp wr : List Addr} {G : Array GenState → Array GenState → Prop} {n : Nat} {Pv : Nat → Value → Prop} {St : Nat → Shared → Prop} {R : Result → Shared → Prop}
    (W : WalksS P w A.in1 I fp wr G n Pv St) (hf : a ∉ fp) (ks : List Str) (hn : n = ks.length) (hb : ks.length + 1 < scanBound) (hval : ∀ i v, Pv i v → ∃ k t, ks[i]? = some k ∧ v = Value.str k t) :
    ∀ (j i : Nat) (s : Shared), n - i = j → i ≤ n → St i s → (∃ c, c ≤ i ∧ SetS w s.heap a (fun k => decide (k ∈ ks.take i)) c) →
      (∀ s' c, Moved (a :: wr) G s s' → c ≤ n → SetS w s'.heap a (fun k => decide (k ∈ ks)) c → R (.ok (.ret .none)) s') → codeAny (model P w) A (.builtin "set.update.loop" ⟨[.ref a, .ref I], []⟩) R s := by
  have hw : a ∉ wr := fun h => hf (W.sub _ h)
  have up : ∀ c ∈ wr, c ∈ a :: wr := fun c hc => List.mem_cons_of_mem _ hc
  intro j
  induction j with
  | zero =>
    intro i s hj hi st ⟨c, hc, hS⟩ hR
    obtain rfl : i = n := by omega
    refine codeAny_builtin F.entry_set_update_loop ?_
    rw [Around.under_plainId F.plain_set_update_loop _]
    refine wpAny_bind (m := pyNext (.ref I)) (W.done s _ _ st fun s' hm => ?_)
    have e : ks.take i = ks := List.take_of_length_le (by omega)
    rw [e] at hS
    exact wpAny_pure (hR s' c (hm.mono up) hc (hS.keep fun o e => hm.heap a o hw e))
  | succ j ih =>
    intro i s hj hi st ⟨c, hc, hS⟩ hR
    have hlt : i < n := by omega
    refine codeAny_builtin F.entry_set_update_loop ?_
    rw [Around.under_plainId F.plain_set_update_loop _]
    refine wpAny_bind (m := pyNext (.ref I)) (W.item i s _ _ hlt st fun v s1 hP st1 hm => ?_)
    obtain ⟨k, t, hk, rfl⟩ := hval i v hP
    have S1 : SetS w s1.heap a (fun k => decide (k ∈ ks.take i)) c := hS.keep fun o e => hm.heap a o hw e
    refine wpAny_bind (m := holding [Value.str k t] (setAdd a (.str k t))) (wpAny_holding ?_)
    unfold setAdd
    refine wpAny_holding (wpAny_bind ((PySem.strKind P w).pyHash (strKind_is P w k t) ?_))
    refine add_str (s := { s1 with toks := s1.toks + 1 }) S1 (by omega) fun h2 sb S2 => ?_
    have S3 : SetS w h2 a (fun k => decide (k ∈ ks.take (i + 1))) (if decide (k ∈ ks.take i) = true then c else c + 1) := S2.congr fun x => by
      rw [List.take_add_one, hk]
      simp [List.mem_append]
    refine wpAny_pure ⟨plainId_quiet F.plain_set_update_loop _, ih (i + 1) _ (by omega) hlt (W.frame _ s1 _ _ st1 (Nat.le_succ _) fun b hb o e => ?_) ⟨_, by split <;> omega, S3⟩ fun s'' c2 m2 hc2 R2 => ?_⟩
    · rw [sb.2 b (fun z : b = a => hf (z ▸ hb))]; exact e
    · refine hR s'' c2 (Moved.trans W.gtrans ((hm.mono up).then_heap (Nat.le_succ _) fun b o hb e => ?_) m2) hc2 R2
      rw [sb.2 b (fun z : b = a => hb (z ▸ List.mem_cons_self))]; exact e
end
end DS

set_option Elab.async false
set_option linter.all false
set_option maxRecDepth 100000
set_option maxHeartbeats 4000000
namespace DS
open PySem PySem.Spec PyProof.Rows L2
section
variable {P : Program} {w : World} {A : Around} {E : Value → Shared → Prop} {s : Shared} {a b : Addr} {S T : Str → Bool} {n m : Nat}
/-- set(x), by what its __init__ does to the new set -/
theorem call_set_by {v : Value} {Q : Value → Shared → Prop}
    (hi : ∀ A' : Around, A'.handled = A.handled → wpAny (model P w) A' (Builtin.«set.__init__» ⟨[.ref s.heap.objs.size, v], []⟩) (fun f s₁ => f = .done (.ret .none) ∧ Q (.ref s.heap.objs.size) s₁) E { s with heap := s.heap.push (freshS w) }) :
    wpAny (model P w) A (call (.type "set") [v]) Q E s := by
  obtain ⟨c, tl, hmro⟩ := F.called_set.mro
  have hmade := F.called_set.made
  have hsub := F.called_set.sub
  refine wpAny_call (codeAny_of_tree ?_)
  show wpAny _ _ (callAny (.type "set") _) _ _ _
  refine wpAny_pure ⟨Code.quiet_builtin _ (by decide +kernel), codeAny_builtin F.entry_type_call ?_⟩
  rw [Around.under_plain (weight_type_call_type "set" [v] []) rfl]
  have h1 := F.called_set.notType
  have h2 := F.called_set.canCreate
  have hct := F.typeCall_set_1 v
  repeat (any_goals (first | assumption | wp_step))
  refine codeAny_mono (code_set_led1 v (E := E) (Q₁ := fun obj s₁ => obj = .ref s.heap.objs.size ∧ s₁ = { s with heap := s.heap.push (freshS w) }) ⟨rfl, rfl⟩) fun r s₁ hr => ?_
  cases r with
  | error e => exact hr
  | ok fl =>
    cases fl with
    | ret obj =>
      obtain ⟨rfl, rfl⟩ := hr
      have hT : Shared.TypeIs { s with heap := s.heap.push (freshS w) } (.ref s.heap.objs.size) "set" := ⟨_, Heap.get?_push_size _ rfl, rfl⟩
      have hli := F.called_set.init.lookup
      have hbi := F.called_set.init.bind (.ref s.heap.objs.size)
      repeat (any_goals (first | assumption | wp_step))
      refine codeAny_mono (codeAny_call_builtin (R := wants (fun r s₂ => r = .none ∧ Q (.ref s.heap.objs.size) s₂) E) F.called_set.init.plain F.entry_set_init (check_set_init_1 hT ?_)) fun r₂ s₂ hr₂ => ?_
      · refine wpAny_mono (hi _ rfl) (fun f s₁ ⟨e, q⟩ => ?_) fun _ _ h => h
        subst e
        exact ⟨rfl, q⟩
      · cases r₂ with
        | error e => exact hr₂
        | ok fl₂ =>
          cases fl₂ with
          | ret r =>
            obtain ⟨rfl, hq⟩ := hr₂
            repeat (any_goals (first | assumption | wp_step))
          | _ => exact hr₂.elim
    | _ => exact hr.elim
theorem init_seq {l : Addr} {items : Array Value} {ks : List Str} {Q : Value → Shared → Prop} (hh : A.handled = none) (hl : s.heap.IsList l items ∨ s.heap.IsTuple l items) (hit : Vals (ks.map V.str) items.toList) (hb : ks.length + 1 < scanBound)
    (h : ∀ (h' : Heap) (tk c : Nat), SetS w h' s.heap.objs.size (fun k => decide (k ∈ ks)) c → c ≤ ks.length → (∀ b o, s.heap.get? b = some o → h'.get? b = some o) → Q (.ref s.heap.objs.size) { s with heap := h', toks := tk }) :
    wpAny (model P w) A (Builtin.«set.__init__» ⟨[.ref s.heap.objs.size, .ref l], []⟩) (fun f s₁ => f = .done (.ret .none) ∧ Q (.ref s.heap.objs.size) s₁) E { s with heap := s.heap.push (freshS w) } := by
  have hS : (s.heap.push (freshS w)).get? s.heap.objs.size = some (freshS w) := Heap.get?_push_size _ rfl
  have hT : Shared.TypeIs { s with heap := s.heap.push (freshS w) } (.ref s.heap.objs.size) "set" := ⟨_, hS, rfl⟩
  have hval : ∀ (i : Nat) (v : Value), items[i]? = some v → ∃ k t, ks[i]? = some k ∧ v = Value.str k t := fun i v hv => by
    obtain ⟨h1, h2⟩ := strs_vals hit
    rw [← Array.getElem?_toList] at hv
    obtain ⟨k, t, rfl⟩ := h1 v (List.mem_of_getElem? hv)
    refine ⟨k, t, ?_, rfl⟩
    rw [← h2, List.getElem?_map, hv]
    rfl
  have hisz : items.size = ks.length := by
    have := hit.length
    rw [List.length_map, Array.length_toList] at this
    exact this.symm
  have fin : ∀ {it : Obj} {St : Nat → Shared → Prop}, it.isFreed = false → l ≠ s.heap.objs.size + 1 → l < s.heap.objs.size →
      (∀ B : Around, B.handled = none → WalksS P w B (s.heap.push (freshS w)).objs.size [(s.heap.push (freshS w)).objs.size, l] [(s.heap.push (freshS w)).objs.size] (fun g g' => g' = g) items.size (fun i v => items[i]? = some v) St) →
      St 0 { s with heap := (s.heap.push (freshS w)).push it } →
      wpAny (model P w) A (runValue (Code.builtin "set.update.loop" ⟨[.ref s.heap.objs.size, .ref (s.heap.push (freshS w)).objs.size], []⟩) >>= fun _ => pure ())
        (fun a s' => wpAny (model P w) A (ret Value.none) (fun f s₁ => f = .done (.ret .none) ∧ Q (.ref s.heap.objs.size) s₁) E s') E { s with heap := (s.heap.push (freshS w)).push it } := fun {it St} hf hn hlt W st => by
    refine wpAny_bind (wpAny_runValue ?_)
    have hz : (s.heap.push (freshS w)).objs.size = s.heap.objs.size + 1 := Heap.size_push ..
    refine fill_strs (W _ (by simp [hh])) (by rw [hz]; simp only [List.mem_cons, List.not_mem_nil, or_false, not_or]; exact ⟨Nat.ne_of_lt (Nat.lt_succ_self _), Nat.ne_of_gt hlt⟩) ks hisz hb hval (items.size - 0) 0 _ (by omega) (Nat.zero_le _) st ?_ fun s' c hm hc R => ?_
    · have := (new_at (w := w) (h := (s.heap.push (freshS w)).push it) (Heap.get?_push_of_some _ hS)).set
      exact ⟨0, Nat.le_refl 0, this.congr fun k => by simp⟩
    · obtain ⟨h', g2, d', tk', os'⟩ := s'
      have eg : g2 = s.gens := hm.gens
      have ed : d' = s.drawn := hm.drawn
      have eo : os' = s.os := hm.os
      subst eg; subst ed; subst eo
      refine wpAny_pure (wpAny_pure ⟨rfl, h h' tk' c R (by rw [← hisz]; exact hc) fun b o e => ?_⟩)
      have hb0 : b < s.heap.objs.size := Heap.lt_size e
      exact hm.heap b o (by rw [hz]; simp only [List.mem_cons, List.not_mem_nil, or_false, not_or]; exact ⟨Nat.ne_of_lt hb0, Nat.ne_of_lt (Nat.lt_succ_of_lt hb0)⟩) (Heap.get?_push_of_some _ (Heap.get?_push_of_some _ e))
  rcases hl with hl | hl
  · obtain ⟨ol, hol, hcl, nl, hdl⟩ := id hl
    obtain ⟨ocls, odict, odata, oslots⟩ := ol
    simp only at hcl hdl
    subst hcl; subst hdl
    have hol' : (s.heap.push (freshS w)).get? l = some { cls := .type "list", dict := odict, data := .seq items nl, slots := oslots } := Heap.get?_push_of_some _ hol
    have k1 := F.sub_list_set
    have k2 := F.sub_list_frozenset
    have k3 : (Value.type "list" == Value.type "dict") = false := by decide
    have hl1 : (s.heap.push (freshS w)).IsList l items := ⟨_, hol', rfl, nl, rfl⟩
    have hlt : l < s.heap.objs.size := Heap.lt_size hol
    have hz : (s.heap.push (freshS w)).objs.size = s.heap.objs.size + 1 := Heap.size_push ..
    have hne : l ≠ (s.heap.push (freshS w)).objs.size := by rw [hz]; exact Nat.ne_of_lt (Nat.lt_succ_of_lt hlt)
    unfold Builtin.«set.__init__» noKeywords Builtin.Frozenset.updateFrom
    generalize hPI : pyIter = PI
    wp_walk
    subst hPI
    refine wpAny_pyIter_list hl1 ?_
    exact fin rfl (Nat.ne_of_lt (Nat.lt_succ_of_lt hlt)) hlt (fun B hB => (Walks.list hB _ l hne items).toS) ⟨⟨_, Heap.get?_push_size _ rfl, rfl, rfl⟩, (hl1.push _)⟩
  · obtain ⟨ol, hol, hcl, nl, hdl⟩ := id hl
    obtain ⟨ocls, odict, odata, oslots⟩ := ol
    simp only at hcl hdl
    subst hcl; subst hdl
    have hol' : (s.heap.push (freshS w)).get? l = some { cls := .type "tuple", dict := odict, data := .seq items nl, slots := oslots } := Heap.get?_push_of_some _ hol
    have k1 := F.sub_tuple_set
    have k2 := F.sub_tuple_frozenset
    have k3 : (Value.type "tuple" == Value.type "dict") = false := by decide
    have hl1 : (s.heap.push (freshS w)).IsTuple l items := ⟨_, hol', rfl, nl, rfl⟩
    have hlt : l < s.heap.objs.size := Heap.lt_size hol
    have hz : (s.heap.push (freshS w)).objs.size = s.heap.objs.size + 1 := Heap.size_push ..
    have hne : l ≠ (s.heap.push (freshS w)).objs.size := by rw [hz]; exact Nat.ne_of_lt (Nat.lt_succ_of_lt hlt)
    unfold Builtin.«set.__init__» noKeywords Builtin.Frozenset.updateFrom
    generalize hPI : pyIter = PI
    wp_walk
    subst hPI
    refine wpAny_pyIter_tuple hl1 ?_
    exact fin rfl (Nat.ne_of_lt (Nat.lt_succ_of_lt hlt)) hlt (fun B hB => (Walks.tuple hB _ l hne items).toS) ⟨⟨_, Heap.get?_push_size _ rfl, rfl, rfl⟩, (hl1.push _)⟩
end
section
variable {X : Cx}
/-- set(xs), xs a list or a tuple of texts -/
def rSetS (K : PySem.W.Frag) (w : World) : List V → Hp → VK → Prop := fun vs H Q => ∃ (l : Addr) (ks : List Str), vs = [.ref l] ∧ (SqL K H l (ks.map V.str) ∨ SqT K H l (ks.map V.str)) ∧ ks.length + 1 < scanBound ∧
  ∀ p n, H p = none → n ≤ ks.length → Q (.ref p) (upd H p (SetSO w p (fun k => decide (k ∈ ks)) n))
theorem cr_setS (hc : X.calm = true) : CallR X (.type "set") (rSetS X.K X.w) := by
  intro pins s σ H vs us Q I r h
  obtain ⟨l, ks, rfl, hq, hb, q⟩ := h
  rw [Vals.ref1 r]
  have ex : ∃ its : List Value, Vals (ks.map V.str) its ∧ (s.heap.IsList l its.toArray ∨ s.heap.IsTuple l its.toArray) := by
    rcases hq with hq | hq
    · obtain ⟨its, rv, pl, _⟩ := I.list hq
      exact ⟨its, rv, .inl pl.isList⟩
    · obtain ⟨its, rv, pl, _⟩ := I.tuple hq
      exact ⟨its, rv, .inr pl⟩
  obtain ⟨its, rv, hl⟩ := ex
  refine call_set_by fun A' hA => init_seq (by rw [hA]; exact I.ok.hd hc) hl (by simpa using rv) hb fun h' tk c R hc' kp => ?_
  have hp : s.heap.objs.size ≤ s.heap.objs.size := Nat.le_refl _
  exact ⟨.ref _, _, I.laid (t' := tk) (fun b u e => kp b u e) hp (setSO_new R), rfl, q _ c (I.hok.fresh hp) hc'⟩
/-- a | b, sets of texts -/
def rOrS (w : World) : R2 := fun x y H Q => ∃ (a b : Addr) (S T : Str → Bool) (n m : Nat), x = .ref a ∧ y = .ref b ∧ H a = some (SetSO w a S n) ∧ H b = some (SetSO w b T m) ∧ n + m + 4 < scanBound ∧
  ∀ p k, H p = none → k ≤ n + m → Q (.ref p) (upd H p (SetSO w p (fun j => S j || T j) k))
theorem op_orS : OpR X (binaryOp .BitOr) (rOrS X.w) := by
  intro pins s σ H x y v u Q I rx ry h
  obtain ⟨a, b, S, T, n, m, rfl, rfl, ha, hb, hn, q⟩ := h
  cases rx
  cases ry
  refine or_s (setS_get I ha) (setS_get I hb) hn fun h' d k kp R hk => ?_
  have hp : s.heap.objs.size ≤ s.heap.objs.size := Nat.le_refl _
  exact lay_in (s' := { s with heap := h', drawn := d }) I (fun b u e => kp b u e) rfl rfl hp (setSO_new R) (q _ k (I.hok.fresh hp) hk)
/-- sorted(xs), a list of texts -/
def rSortedT (K : PySem.W.Frag) : List V → Hp → VK → Prop := fun vs H Q => ∃ (a : Addr) (ks : List Str), vs = [V.ref a] ∧ SqL K H a (ks.map V.str) ∧
  ∀ (ks' : List Str) (p : Addr), ks'.Perm ks → ks'.Pairwise LeT → H p = none → Q (.ref p) (upd H p (.lst (ks'.map V.str)))
theorem cr_sortedT : CallR X (.builtin "sorted") (rSortedT X.K) := by
  intro pins s σ H vs us Q I r h
  obtain ⟨a, ks, rfl, hs, q⟩ := h
  obtain ⟨its, rv, hl, hz⟩ := I.list hs
  rw [Vals.ref1 r]
  obtain ⟨hi, ei⟩ := strs_vals rv
  refine SrtO.sorted_ord swo_sv hl.isList (by rw [← rv.length]; exact hz) (fun h2 h₁ a' _ _ => strs_sortable hi h2) fun out h1 h2 => ?_
  obtain ⟨k1, k2, k3⟩ := out_le hi h1 h2
  rw [ei] at k2
  obtain ⟨ep, he'⟩ := PyProof.Rows.sortedAll_at s.heap its out.toArray
  have hlen : ((out.map txOf).map V.str).length ≤ sizeLine := by
    rw [List.length_map, k2.length_eq]
    rw [List.length_map] at hz
    exact hz
  exact ⟨.ref _, upd H (s.heap.objs.size + 1) (.lst ((out.map txOf).map V.str)), I.laid (t' := s.toks) (fun _ _ => PyProof.Rows.sortedAll_old) (Nat.le_succ _) ⟨hlen, out, ep, vals_strs k1, he'⟩, rfl, q _ _ k2 k3 (I.hok.fresh (Nat.le_succ _))⟩
end
end DS

set_option Elab.async false
set_option linter.all false
set_option maxRecDepth 100000
set_option maxHeartbeats 4000000
/-! DL14: sorted(set(..)), sorted of texts, calls of a local name that holds a def, zip -/
namespace DL
open PySem PySem.Spec PyProof.Rows L2
abbrev LtT := DS.LtT
abbrev LeT := DS.LeT
abbrev tS (ks : List Str) : List Sl := ks.map fun k => .dat (.str k)
section
variable {X : Cx} {W : WX} {Z : DX} {K : PySem.W.Frag} {a b c e e2 : Expr} {ta tb te : DTE} {pos p p2 pos2 p3 pos3 : Pos} {es : List Expr} {tr : DTA}
theorem tS_sl {D : Hp} : ∀ {ys : List Str} {vs : List V}, SlA K D vs (tS ys) → vs = ys.map V.str
  | [], _, .nil => rfl
  | y :: ys, _, .cons h t => by rw [tS_sl t, dr_str h]; rfl
theorem sl_tS {D : Hp} : ∀ (ys : List Str), SlA K D (ys.map V.str) (tS ys)
  | [] => .nil
  | y :: ys => .cons (Dr.str y) (sl_tS ys)
/-- sorted(set(e)) -/
def dSortSet (te : DTE) : DTE := fun ρ w R => te ρ w fun s w1 => ∃ ks : List Str, sq w1 s = some (tS ks) ∧ ks.length ≤ 4000 ∧ ∀ ks' p, ks'.Pairwise LtT → (∀ k, k ∈ ks' ↔ k ∈ ks) → w1 p = none → R (.adr p) (put w1 p (.lst (tS ks')))
theorem de_sortSet (hc : X.calm = true) (hg1 : Gl X "sorted") (hm1 : X.mg "sorted" = none) (hg2 : Gl X "set") (hm2 : X.mg "set" = none) (he : DE X W Z e te)
    (hs : starEach [.Call (.Name "set" p2) [e] [] pos2] X.env = (false, eval (.Call (.Name "set" p2) [e] [] pos2) X.env) :: starEach [] X.env := by rfl) (hpl : (backTo pos (starEach [] X.env)).any (·.1) = false := by rfl)
    (hs2 : starEach [e] X.env = (false, eval e X.env) :: starEach [] X.env := by rfl) (hpl2 : (backTo pos2 (starEach [] X.env)).any (·.1) = false := by rfl) :
    DE X W Z (.Call (.Name "sorted" p) [.Call (.Name "set" p2) [e] [] pos2] [] pos) (dSortSet te) :=
  pe_weak (pe_callB (DS.cr_sortedS hc) hg1 hm1 (by decide +kernel) (pa_cons (pe_callTy (DS.cr_setS hc) hg2 hm2 (by decide +kernel) (pa_cons he pa_nil hs2) (by decide) (by decide) hs2 hpl2) pa_nil hs) (by decide) (by decide) hs hpl)
    fun σ H Q ⟨ρ, w, D, R, rp, xo, h, f⟩ => ⟨ρ, w, D, _, rp, xo, h, fun s w1 v D1 H1 h1 g1 s1 r1 => by
      obtain ⟨ks, hq, hl, h1⟩ := h1
      obtain ⟨q, vs, rfl, hsq, hv⟩ := sq_ok s1 r1 hq
      have ev := tS_sl hv
      subst ev
      refine ⟨q, ks, rfl, hsq, Nat.lt_of_lt_of_le (Nat.lt_succ_of_le (Nat.succ_le_succ hl)) (by decide), fun a n ha hn => ⟨a, _, n, rfl, upd_same, fun ks' r hlt hm hlen hr => ?_⟩⟩
      have s2 : StOk X.K w1 D1 (upd H1 a (DS.SetSO X.w a (fun k => decide (k ∈ ks)) n)) := s1.junk (s1.freeW ha) (s1.freeD ha)
      have g2 : Gr w1 D1 H1 w1 D1 (upd H1 a (DS.SetSO X.w a (fun k => decide (k ∈ ks)) n)) := (Gr.refl w1 D1 H1).junk ha
      exact ((f.next g1).next g2).nl s2 (fun p hp => h1 ks' p hlt (fun k => (hm k).trans (by simp)) hp) (sl_tS ks') r hr⟩
/-- sorted(set(a) | set(b)) -/
def dSortOr (ta tb : DTE) : DTE := fun ρ w R => ta ρ w fun s w1 => ∃ ks : List Str, sq w1 s = some (tS ks) ∧ ks.length ≤ 1000 ∧ tb ρ w1 fun s' w2 => ∃ ms : List Str, sq w2 s' = some (tS ms) ∧ ms.length ≤ 1000 ∧
  ∀ ks' p, ks'.Pairwise LtT → (∀ k, k ∈ ks' ↔ k ∈ ks ∨ k ∈ ms) → w2 p = none → R (.adr p) (put w2 p (.lst (tS ks')))
theorem de_sortOr (hc : X.calm = true) (hg1 : Gl X "sorted") (hm1 : X.mg "sorted" = none) (hg2 : Gl X "set") (hm2 : X.mg "set" = none) (ha : DE X W Z a ta) (hb : DE X W Z b tb)
    (hs : starEach [.BinOp (.Call (.Name "set" p2) [a] [] pos2) .BitOr (.Call (.Name "set" p3) [b] [] pos3) c.pos] X.env = (false, eval (.BinOp (.Call (.Name "set" p2) [a] [] pos2) .BitOr (.Call (.Name "set" p3) [b] [] pos3) c.pos) X.env) :: starEach [] X.env := by rfl) (hpl : (backTo pos (starEach [] X.env)).any (·.1) = false := by rfl)
    (hsa : starEach [a] X.env = (false, eval a X.env) :: starEach [] X.env := by rfl) (hpa : (backTo pos2 (starEach [] X.env)).any (·.1) = false := by rfl)
    (hsb : starEach [b] X.env = (false, eval b X.env) :: starEach [] X.env := by rfl) (hpb : (backTo pos3 (starEach [] X.env)).any (·.1) = false := by rfl) :
    DE X W Z (.Call (.Name "sorted" p) [.BinOp (.Call (.Name "set" p2) [a] [] pos2) .BitOr (.Call (.Name "set" p3) [b] [] pos3) c.pos] [] pos) (dSortOr ta tb) :=
  pe_weak (pe_callB (DS.cr_sortedS hc) hg1 hm1 (by decide +kernel) (pa_cons (pe_op DS.op_orS (pe_callTy (DS.cr_setS hc) hg2 hm2 (by decide +kernel) (pa_cons ha pa_nil hsa) (by decide) (by decide) hsa hpa) (pe_callTy (DS.cr_setS hc) hg2 hm2 (by decide +kernel) (pa_cons hb pa_nil hsb) (by decide) (by decide) hsb hpb)) pa_nil hs) (by decide) (by decide) hs hpl)
    fun σ H Q ⟨ρ, w, D, R, rp, xo, h, f⟩ => ⟨ρ, w, D, _, rp, xo, h, fun s w1 v D1 H1 h1 g1 s1 r1 => by
      obtain ⟨ks, hq, hl, h1⟩ := h1
      obtain ⟨q, vs, rfl, hsq, hv⟩ := sq_ok s1 r1 hq
      have ev := tS_sl hv
      subst ev
      refine ⟨q, ks, rfl, hsq, Nat.lt_of_lt_of_le (Nat.lt_succ_of_le (Nat.succ_le_succ hl)) (by decide), fun x n hx hn => ?_⟩
      generalize hO : DS.SetSO X.w x (fun k => decide (k ∈ ks)) n = oX
      have s2 : StOk X.K w1 D1 (upd H1 x oX) := s1.junk (s1.freeW hx) (s1.freeD hx)
      have g2 : Gr w1 D1 H1 w1 D1 (upd H1 x oX) := (Gr.refl w1 D1 H1).junk hx
      have gg := g1.trans g2
      refine ⟨ρ, w1, D1, _, rp.next gg.dd s2, xo.next gg, h1, fun s' w2 v' D2 H2 h2 g3 s3 r2 => ?_⟩
      obtain ⟨ms, hq2, hl2, h2⟩ := h2
      obtain ⟨q', vs', rfl, hsq', hv'⟩ := sq_ok s3 r2 hq2
      have ev' := tS_sl hv'
      subst ev'
      have kx : H2 x = some oX := g3.fr x oX upd_same (s1.freeW hx)
      refine ⟨q', ms, rfl, hsq', Nat.lt_of_lt_of_le (Nat.lt_succ_of_le (Nat.succ_le_succ hl2)) (by decide), fun y m hy hm => ?_⟩
      have nxy : x ≠ y := fun z => by rw [z] at kx; rw [hy] at kx; cases kx
      generalize hO2 : DS.SetSO X.w y (fun k => decide (k ∈ ms)) m = oY
      have s4 : StOk X.K w2 D2 (upd H2 y oY) := s3.junk (s3.freeW hy) (s3.freeD hy)
      have g4 : Gr w2 D2 H2 w2 D2 (upd H2 y oY) := (Gr.refl w2 D2 H2).junk hy
      have hb1 : n + m + 4 < scanBound := Nat.lt_of_le_of_lt (Nat.add_le_add_right (Nat.add_le_add (Nat.le_trans hn hl) (Nat.le_trans hm hl2)) 4) (by decide)
      refine ⟨x, y, _, _, n, m, rfl, rfl, by rw [upd_ne nxy, hO]; exact kx, by rw [hO2]; exact upd_same, hb1, fun z k hz hk => ⟨z, _, k, rfl, upd_same, fun ks' r hlt hmm hlen hr => ?_⟩⟩
      generalize DS.SetSO X.w z (fun j => decide (j ∈ ks) || decide (j ∈ ms)) k = oZ at hr ⊢
      have s5 : StOk X.K w2 D2 (upd (upd H2 y oY) z oZ) := s4.junk (s4.freeW hz) (s4.freeD hz)
      have g5 : Gr w2 D2 (upd H2 y oY) w2 D2 (upd (upd H2 y oY) z oZ) := (Gr.refl w2 D2 _).junk hz
      exact (f.next (((gg.trans g3).trans g4).trans g5)).nl s5 (fun p hp => h2 ks' p hlt (fun k => (hmm k).trans (by simp)) hp) (sl_tS ks') r hr⟩
/-- sorted(e), a list of texts -/
def dSortT (te : DTE) : DTE := fun ρ w R => te ρ w fun s w1 => ∃ ks : List Str, sqL w1 s = some (tS ks) ∧ ∀ ks' p, ks'.Perm ks → ks'.Pairwise LeT → w1 p = none → R (.adr p) (put w1 p (.lst (tS ks')))
theorem de_sortT (hg1 : Gl X "sorted") (hm1 : X.mg "sorted" = none) (he : DE X W Z e te) (hs : starEach [e] X.env = (false, eval e X.env) :: starEach [] X.env := by rfl) (hpl : (backTo pos (starEach [] X.env)).any (·.1) = false := by rfl) :
    DE X W Z (.Call (.Name "sorted" p) [e] [] pos) (dSortT te) :=
  pe_weak (pe_callB DS.cr_sortedT hg1 hm1 (by decide +kernel) (pa_cons he pa_nil hs) (by decide) (by decide) hs hpl)
    fun σ H Q ⟨ρ, w, D, R, rp, xo, h, f⟩ => ⟨ρ, w, D, _, rp, xo, h, fun s w1 v D1 H1 h1 g1 s1 r1 => by
      obtain ⟨ks, hq, h1⟩ := h1
      obtain ⟨q, vs, rfl, hsq, hv⟩ := sqL_ok s1 r1 hq
      have ev := tS_sl hv
      subst ev
      exact ⟨q, ks, rfl, SqL.of hsq, fun ks' r hp hle hr => (f.next g1).nl s1 (fun p hp' => h1 ks' p hp hle hp') (sl_tS ks') r hr⟩⟩
/-! ### either of two readings -/
def dEither (t t' : DTE) : DTE := fun ρ w R => t ρ w R ∨ t' ρ w R
theorem de_either {t t' : DTE} (h : DE X W Z e t) (h' : DE X W Z e t') : DE X W Z e (dEither t t') := ⟨fun pins s σ H Q I ⟨ρ, w, D, R, rp, xo, hh, f⟩ => hh.elim (fun q => h.run pins s σ H Q I ⟨ρ, w, D, R, rp, xo, q, f⟩) fun q => h'.run pins s σ H Q I ⟨ρ, w, D, R, rp, xo, q, f⟩⟩
/-! ### a call of a local name that holds a def -/
def dCallL (i : Nat) (f : Addr) (c : Ct) (ta : DTA) : DTE := fun ρ w R => ρ[i]? = some (some (.adr f)) ∧ ta ρ w fun ss w1 => c ss w1 R
theorem de_callL {k i : Nat} {f : Addr} {fd : FuncData} {ps : List Str} {c : Ct} {x : Str} (F : FnOk X.prog X.w X.K X.mg X.base CX0 k f fd ps (spN X.K c)) (hr : Room k X.A) (hN : X.N[i]? = some x) (hk : PySem.W.keepIn X.K (.ref f) = true) (hb : Binds X.K fd ps []) (ha : DA X W Z (e :: es) tr)
    (hv : Vis X.env.scope x := by first | exact Or.inl rfl | exact Or.inr (Or.inl rfl) | exact Or.inr (Or.inr rfl))
    (hdb : (x == ("__debug__" : Str)) = false := by decide) (hcd : (x == ("__classdict__" : Str)) = false := by decide) (hs : starEach (e :: es) X.env = (false, eval e X.env) :: starEach es X.env := by rfl) (hpl : (backTo pos (starEach es X.env)).any (·.1) = false := by rfl) :
    DE X W Z (.Call (.Name x p) (e :: es) [] pos) (dCallL i f c tr) :=
  pe_weak (pe_callL F hr hN hv hk hb .nil pass0 ha hdb hcd hs hpl) fun σ H Q ⟨ρ, w, D, R, rp, xo, ⟨h0, h⟩, fi⟩ => by
    obtain ⟨v, h1, h2⟩ := rp.slot i _ h0
    have h2' : v = .ref f := h2
    subst h2'
    exact ⟨h1, ρ, w, D, _, rp, xo, h, fun ss w1 vs D1 H1 h1 g1 s1 rs => ⟨ss, w1, D1, R, by rw [List.append_nil]; exact rs, s1, h1, fi.next g1⟩⟩
/-- .. one that may raise -/
def dCallLX (Z : DX) (i : Nat) (f : Addr) (c : CtX) (ta : DTA) : DTE := fun ρ w R => ρ[i]? = some (some (.adr f)) ∧ ta ρ w fun ss w1 => c ss w1 R fun C x w2 => Z ρ C x w2
theorem de_callLX {E : XK} {k i : Nat} {f : Addr} {fd : FuncData} {ps : List Str} {c : CtX} {x : Str} (tk : Takes X (WF E)) (F : FnOk X.prog X.w X.K X.mg X.base (L2.CX X.prog X.w) k f fd ps (spX X.K c)) (hr : Room k X.A) (hN : X.N[i]? = some x) (hk : PySem.W.keepIn X.K (.ref f) = true) (hb : Binds X.K fd ps []) (ha : DA X (WF E) Z (e :: es) tr)
    (hv : Vis X.env.scope x := by first | exact Or.inl rfl | exact Or.inr (Or.inl rfl) | exact Or.inr (Or.inr rfl))
    (hdb : (x == ("__debug__" : Str)) = false := by decide) (hcd : (x == ("__classdict__" : Str)) = false := by decide) (hs : starEach (e :: es) X.env = (false, eval e X.env) :: starEach es X.env := by rfl) (hpl : (backTo pos (starEach es X.env)).any (·.1) = false := by rfl) :
    DE X (WF E) Z (.Call (.Name x p) (e :: es) [] pos) (dCallLX Z i f c tr) :=
  pe_weak (pe_callL F hr hN hv hk hb .nil (passes_call tk fun _ _ _ _ h => h) ha hdb hcd hs hpl) fun σ H Q ⟨ρ, w, D, R, rp, xo, ⟨h0, h⟩, fi⟩ => by
    obtain ⟨v, h1, h2⟩ := rp.slot i _ h0
    have h2' : v = .ref f := h2
    subst h2'
    exact ⟨h1, ρ, w, D, _, rp, xo, h, fun ss w1 vs D1 H1 h1 g1 s1 rs => ⟨ss, w1, D1, R, _, by rw [List.append_nil]; exact rs, s1, h1, fi.next g1, fun C x w' D' H' d hz g st q => xo σ ρ C x w' D' H' d hz (g1.trans g) (rp.next (g1.trans g).dd st) q⟩⟩
/-! ### int(text) -/
def intT : GN := fun _ ss => match ss with
  | [.dat (.str z)] => if z.length ≤ 640 then (PySem.intText? z).map fun n => .v (.dat (.int n)) else none
  | _ => none
theorem intT_ok {w : Om} {z : Str} {n : Int} (h : z.length ≤ 640) (e : PySem.intText? z = some n) : intT w [.dat (.str z)] = some (.v (.dat (.int n))) := by
  show (if z.length ≤ 640 then (PySem.intText? z).map fun n => Ou.v (.dat (.int n)) else none) = _
  rw [if_pos h, e]; rfl
theorem cv_intT : CV K (fun xs H Q => ∃ a n, xs = [.str a] ∧ PySem.intText? a = some n ∧ a.length ≤ 640 ∧ Q (.int n) H) intT := fun ss vs w D H o R Q st rv e ho f => by
  unfold intT at e
  split at e
  · rename_i z
    by_cases hz : z.length ≤ 640
    · rw [if_pos hz] at e
      cases q : PySem.intText? z with
      | none => rw [q] at e; cases e
      | some n =>
        rw [q] at e
        cases e
        obtain ⟨v, rfl, r⟩ := sla1 rv
        cases dr_str r
        exact ⟨z, n, rfl, q, hz, f.d st ho (.int _)⟩
    · rw [if_neg hz] at e; cases e
  · cases e
theorem de_intT (hg : Gl X "int") (hm : X.mg "int" = none) (ha : DA X W Z [a] tr) (hs : starEach [a] X.env = (false, eval a X.env) :: starEach [] X.env := by rfl) (hpl : (backTo pos (starEach [] X.env)).any (·.1) = false := by rfl) :
    DE X W Z (.Call (.Name "int" p) [a] [] pos) (dCB intT tr) := de_callTy call_int_str cv_intT hg hm (by decide +kernel) ha (by decide) (by decide) hs hpl
end
end DL

set_option Elab.async false
set_option linter.all false
set_option maxRecDepth 100000
set_option maxHeartbeats 4000000
/-! DL15: zip over data; dict displays, d[k] -/
namespace DL
open PySem PySem.Spec PyProof.Rows L2
section
variable {X : Cx} {W : WX} {Z : DX} {K : PySem.W.Frag} {a b c e e2 : Expr} {ta tb te : DTE} {pos p tpos : Pos} {es elts : List Expr} {tr : DTA} {kk : Nat}
/-- a list at a, later -/
theorem lst_later {w1 w : Om} {D0 D H H0 : Hp} {s : Sl} {q : Addr} {xs : List Sl} (st0 : StOk K w1 D0 H0) (r : Vr K D0 (.ref q) s) (h : sqL w1 s = some xs) (st : StOk K w D H) (sd : Same D0 D) (ok : okOf w1 s xs w) : ∃ vs, H q = some (.lst vs) ∧ SlA K D vs xs := by
  cases s with
  | scr ns => cases h
  | wt ns => cases h
  | adr a =>
    have r' : V.ref q = .ref a := r
    cases r'
    obtain ⟨vs, hH, hv⟩ := st.own q _ ok
    exact ⟨vs, hH, hv⟩
  | dat d =>
    cases d with
    | list ds =>
      cases h
      cases r with
      | lst hD hs => exact ⟨_, st.dh _ _ (sd _ _ hD), SlA.mono sd hs.sl⟩
    | none => cases h
    | bool _ => cases h
    | int _ => cases h
    | str _ => cases h
    | tuple _ => cases h
    | dict _ => cases h
theorem tup_later {w : Om} {D0 D H : Hp} {q : Addr} {ds : List PyData} (r : Dr K D0 (.ref q) (.tuple ds)) (st : StOk K w D H) (sd : Same D0 D) : ∃ vs, SqT K H q vs ∧ DrA K D vs ds := by
  cases r with
  | tup hD hs => exact ⟨_, sqT_mono (sd.trans st.dh) hD.sq, hs.mono sd⟩
def zipD (xs ys : List PyData) : List Sl := (xs.zip ys).map fun p => .wt [p.1, p.2]
theorem zipD_len (xs ys : List PyData) : (zipD xs ys).length = min xs.length ys.length := by unfold zipD; rw [List.length_map, List.length_zip]
theorem zipD_get {xs ys : List PyData} {i : Nat} {x y : PyData} (h1 : xs[i]? = some x) (h2 : ys[i]? = some y) : (zipD xs ys)[i]? = some (.wt [x, y]) := by
  unfold zipD
  rw [List.getElem?_map]
  have : (xs.zip ys)[i]? = some (x, y) := by
    rw [List.getElem?_zip_eq_some]; exact ⟨h1, h2⟩
  rw [this]; rfl
/-- one pair out of a zip -/
theorem zip_pair {w : Om} {D H : Hp} {T : Addr} {x y : V} {dx dy : PyData} (st : StOk K w D H) (hT : H T = none) (rx : Dr K D x dx) (ry : Dr K D y dy) : Gr w D H w (upd D T (.tup [x, y])) (upd H T (.tup [x, y])) ∧ StOk K w (upd D T (.tup [x, y])) (upd H T (.tup [x, y])) ∧ Vr K (upd D T (.tup [x, y])) (.ref T) (.wt [dx, dy]) := by
  have g : Gr w D H w (upd D T (.tup [x, y])) (upd H T (.tup [x, y])) := Gr.newD st hT
  exact ⟨g, st.newD hT, T, _, rfl, SqT.of upd_same, .cons (rx.mono g.dd) (.cons (ry.mono g.dd) .nil)⟩
theorem sl_get {D : Hp} {vs : List V} {xs : List PyData} {i : Nat} {x : V} (h : SlA K D vs (xs.map .dat)) (hx : vs[i]? = some x) : ∃ d, xs[i]? = some d ∧ Dr K D x d := by
  have hl := Paired.length h
  rw [List.length_map] at hl
  have hi : i < vs.length := (List.getElem?_eq_some_iff.mp hx).1
  obtain ⟨d, hd⟩ : ∃ d, xs[i]? = some d := ⟨_, List.getElem?_eq_getElem (by omega)⟩
  obtain ⟨v, h1, h2⟩ := SlA.get h (i := i) (s := .dat d) (by rw [List.getElem?_map, hd]; rfl)
  rw [hx] at h1
  cases h1
  exact ⟨d, hd, h2⟩
def dZip (ta : DTA) : DTI := fun ρ w R => ta ρ w fun ss w1 => ∃ s1 s2 xs ys, ss = [s1, s2] ∧ ((sqL w1 s1 = some (xs.map .dat) ∧ sqL w1 s2 = some (ys.map .dat)) ∨ (s1 = .dat (.tuple xs) ∧ s2 = .dat (.tuple ys))) ∧
  R (zipD xs ys) (fun w' => okOf w1 s1 (xs.map .dat) w' ∧ okOf w1 s2 (ys.map .dat) w') w1
theorem di_zip {ta : DTA} (hg : Gl X "zip") (hm : X.mg "zip" = none) (ha : DA X W Z [e, e2] ta) (hs : starEach [e, e2] X.env = (false, eval e X.env) :: starEach [e2] X.env := by rfl) (hpl : (backTo pos (starEach [e2] X.env)).any (·.1) = false := by rfl) :
    DI X W Z (.Tuple elts kk tpos) (.Call (.Name "zip" p) [e, e2] [] pos) (dZip ta) :=
  pi_weak (RZ.pi_zipA hg hm ha hs hpl) fun σ H R ⟨ρ, w, D, R', rp, xo, h, f⟩ => ⟨ρ, w, D, _, rp, xo, h, fun ss w1 vs D1 H1 h1 g1 s1 rs => by
    obtain ⟨z1, z2, xs, ys, rfl, hq, h1⟩ := h1
    obtain ⟨v, v', rfl, r, r'⟩ := sla2 rs
    rcases hq with ⟨q1, q2⟩ | ⟨rfl, rfl⟩
    · obtain ⟨a, us, rfl, ha, hu⟩ := sqL_ok s1 r q1
      obtain ⟨b, us', rfl, hb, hu'⟩ := sqL_ok s1 r' q2
      refine ⟨a, b, us, us', rfl, .inl ⟨SqL.of ha, SqL.of hb, f _ _ w1 D1 H1 _ h1 g1 s1 ⟨fun i w' D' H' hi st sd o => ?_, fun w' D' H' st sd o => ?_, fun i w' D' H' x H2 hi st sd o y => ?_⟩⟩⟩
      · obtain ⟨ws, e1, e2⟩ := lst_later s1 r q1 st sd o.1
        obtain ⟨ws', e1', e2'⟩ := lst_later s1 r' q2 st sd o.2
        have l1 := Paired.length e2
        have l2 := Paired.length e2'
        rw [List.length_map] at l1 l2
        rw [zipD_len] at hi
        exact ⟨ws, ws', ws[i]'(by omega), ws'[i]'(by omega), SqL.of e1, SqL.of e1', List.getElem?_eq_getElem _, List.getElem?_eq_getElem _⟩
      · obtain ⟨ws, e1, e2⟩ := lst_later s1 r q1 st sd o.1
        obtain ⟨ws', e1', e2'⟩ := lst_later s1 r' q2 st sd o.2
        have l1 := Paired.length e2
        have l2 := Paired.length e2'
        rw [List.length_map] at l1 l2
        rw [zipD_len]
        exact ⟨ws, ws', SqL.of e1, SqL.of e1', by omega⟩
      · obtain ⟨ws, e1, e2⟩ := lst_later s1 r q1 st sd o.1
        obtain ⟨ws', e1', e2'⟩ := lst_later s1 r' q2 st sd o.2
        obtain ⟨T, x0, y0, rfl, hT, rfl, hx, hy⟩ := y
        obtain ⟨dx, k1, k2⟩ := sl_get e2 (hx ws (SqL.of e1))
        obtain ⟨dy, k1', k2'⟩ := sl_get e2' (hy ws' (SqL.of e1'))
        obtain ⟨m1, m2, m3⟩ := zip_pair st hT k2 k2'
        exact ⟨_, _, m1, m2, zipD_get k1 k1', m3⟩
    · obtain ⟨a, us, rfl, ha, hu⟩ := tup_ok s1 r
      obtain ⟨b, us', rfl, hb, hu'⟩ := tup_ok s1 r'
      refine ⟨a, b, us, us', rfl, .inr ⟨ha, hb, f _ _ w1 D1 H1 _ h1 g1 s1 ⟨fun i w' D' H' hi st sd o => ?_, fun w' D' H' st sd o => ?_, fun i w' D' H' x H2 hi st sd o y => ?_⟩⟩⟩
      · obtain ⟨ws, e1, e2⟩ := tup_later r st sd
        obtain ⟨ws', e1', e2'⟩ := tup_later r' st sd
        have l1 := e2.length
        have l2 := e2'.length
        rw [zipD_len] at hi
        exact ⟨ws, ws', ws[i]'(by omega), ws'[i]'(by omega), e1, e1', List.getElem?_eq_getElem _, List.getElem?_eq_getElem _⟩
      · obtain ⟨ws, e1, e2⟩ := tup_later r st sd
        obtain ⟨ws', e1', e2'⟩ := tup_later r' st sd
        have l1 := e2.length
        have l2 := e2'.length
        rw [zipD_len]
        exact ⟨ws, ws', e1, e1', by omega⟩
      · obtain ⟨ws, e1, e2⟩ := tup_later r st sd
        obtain ⟨ws', e1', e2'⟩ := tup_later r' st sd
        obtain ⟨T, x0, y0, rfl, hT, rfl, hx, hy⟩ := y
        obtain ⟨dx, k1, k2⟩ := sl_get e2.sl (hx ws e1)
        obtain ⟨dy, k1', k2'⟩ := sl_get e2'.sl (hy ws' e1')
        obtain ⟨m1, m2, m3⟩ := zip_pair st hT k2 k2'
        exact ⟨_, _, m1, m2, zipD_get k1 k1', m3⟩⟩
/-! ### dicts of the store -/
def valS (kvs : List (Key × Sl)) (k : Key) : Option Sl := (kvs.find? fun kv => decide (kv.1 = k)).map (·.2)
def putA (kvs : List (Key × Sl)) (k : Key) (v : Sl) : List (Key × Sl) := if (kvs.any fun kv => decide (kv.1 = k)) = true then kvs.map (fun kv => if kv.1 = k then (kv.1, v) else kv) else kvs ++ [(k, v)]
def dropA (kvs : List (Key × Sl)) (k : Key) : List (Key × Sl) := kvs.filter fun kv => decide (kv.1 ≠ k)
def keyOfS : Sl → Option Key
  | .dat (.int i) => some (.inl i)
  | .dat (.str z) => some (.inr z)
  | _ => none
abbrev KvA (K : PySem.W.Frag) (D : Hp) : List (Key × V) → List (Key × Sl) → Prop := Paired (fun (p : Key × V) (q : Key × Sl) => p.1 = q.1 ∧ Vr K D p.2 q.2)
theorem key_rel {D : Hp} {v : V} {y : Sl} {k : Key} (r : Vr K D v y) (h : keyOfS y = some k) : v = kV k := by
  cases y with
  | adr _ => cases h
  | scr _ => cases h
  | wt _ => cases h
  | dat d =>
    cases d with
    | int i => cases h; exact dr_int r
    | str z => cases h; exact dr_str r
    | none => cases h
    | bool _ => cases h
    | list _ => cases h
    | tuple _ => cases h
    | dict _ => cases h
theorem kva_val {D : Hp} {k : Key} : ∀ {ks : List (Key × V)} {kvs : List (Key × Sl)}, KvA K D ks kvs → match valS kvs k with
    | some s => ∃ v, valV ks k = some v ∧ Vr K D v s
    | none => valV ks k = none
  | _, _, .nil => rfl
  | (g, x) :: ks, (g', x') :: kvs, .cons ⟨h1, h2⟩ r => by
    have h1' : g = g' := h1
    subst h1'
    by_cases z : g = k
    · have e1 : valS ((g, x') :: kvs) k = some x' := by simp [valS, List.find?_cons, z]
      rw [e1]
      exact ⟨x, by simp [valV, List.find?_cons, z], h2⟩
    · have e1 : valS ((g, x') :: kvs) k = valS kvs k := by simp [valS, List.find?_cons, z]
      have e2 : valV ((g, x) :: ks) k = valV ks k := by simp [valV, List.find?_cons, z]
      rw [e1, e2]
      exact kva_val r
theorem kva_get {D : Hp} {k : Key} {s : Sl} {ks : List (Key × V)} {kvs : List (Key × Sl)} (h : KvA K D ks kvs) (e : valS kvs k = some s) : ∃ v, valV ks k = some v ∧ Vr K D v s := by
  have := kva_val (k := k) h
  rw [e] at this
  exact this
theorem kva_no {D : Hp} {k : Key} {ks : List (Key × V)} {kvs : List (Key × Sl)} (h : KvA K D ks kvs) (e : valS kvs k = none) : valV ks k = none := by
  have := kva_val (k := k) h
  rw [e] at this
  exact this
theorem kva_any {D : Hp} {k : Key} : ∀ {ks : List (Key × V)} {kvs : List (Key × Sl)}, KvA K D ks kvs → (ks.any fun kv => decide (kv.1 = k)) = kvs.any fun kv => decide (kv.1 = k)
  | _, _, .nil => rfl
  | (g, x) :: ks, (g', x') :: kvs, .cons ⟨h1, h2⟩ r => by
    have h1' : g = g' := h1
    subst h1'
    rw [List.any_cons, List.any_cons, kva_any r]
theorem kva_app {D : Hp} : ∀ {ks ms : List (Key × V)} {kvs mvs : List (Key × Sl)}, KvA K D ks kvs → KvA K D ms mvs → KvA K D (ks ++ ms) (kvs ++ mvs)
  | _, _, _, _, .nil, h => h
  | _, _, _, _, .cons q r, h => .cons q (kva_app r h)
theorem kva_map {D : Hp} {k : Key} {v : V} {s : Sl} (hv : Vr K D v s) : ∀ {ks : List (Key × V)} {kvs : List (Key × Sl)}, KvA K D ks kvs → KvA K D (ks.map fun kv => if kv.1 = k then (kv.1, v) else kv) (kvs.map fun kv => if kv.1 = k then (kv.1, s) else kv)
  | _, _, .nil => .nil
  | (g, x) :: ks, (g', x') :: kvs, .cons ⟨h1, h2⟩ r => by
    have h1' : g = g' := h1
    subst h1'
    rw [List.map_cons, List.map_cons]
    refine .cons ?_ (kva_map hv r)
    by_cases z : g = k
    · rw [if_pos z, if_pos z]; exact ⟨rfl, hv⟩
    · rw [if_neg z, if_neg z]; exact ⟨rfl, h2⟩
theorem kva_put {D : Hp} {k : Key} {v : V} {s : Sl} (hv : Vr K D v s) {ks : List (Key × V)} {kvs : List (Key × Sl)} (h : KvA K D ks kvs) : KvA K D (putK ks k v) (putA kvs k s) := by
  unfold putK putA
  rw [kva_any h]
  split
  · exact kva_map hv h
  · exact kva_app h (.cons ⟨rfl, hv⟩ .nil)
theorem kva_drop {D : Hp} {k : Key} : ∀ {ks : List (Key × V)} {kvs : List (Key × Sl)}, KvA K D ks kvs → KvA K D (dropK ks k) (dropA kvs k)
  | _, _, .nil => .nil
  | (g, x) :: ks, (g', x') :: kvs, .cons ⟨h1, h2⟩ r => by
    have h1' : g = g' := h1
    subst h1'
    have ih := kva_drop (k := k) r
    unfold dropK dropA at ih ⊢
    by_cases z : g ≠ k
    · rw [List.filter_cons_of_pos (by simpa using z), List.filter_cons_of_pos (by simpa using z)]; exact .cons ⟨rfl, h2⟩ ih
    · rw [List.filter_cons_of_neg (by simpa using z), List.filter_cons_of_neg (by simpa using z)]; exact ih
/-- o[i], o a dict of the store -/
def dDGet (to ti : DTE) : DTE := fun ρ w R => to ρ w fun s w1 => ti ρ w1 fun y w2 => ∃ a kvs k v, s = .adr a ∧ w2 a = some (.dic kvs) ∧ keyOfS y = some k ∧ valS kvs k = some v ∧ R v w2
theorem de_dget (hu : X.A.units + 64 < cLine) (ha : DE X W Z a ta) (hb : DE X W Z b tb) (hs : NoSl b) : DE X W Z (.Subscript a b pos) (dDGet ta tb) :=
  pe_weak (pe_dget (by omega) ha hb hs) fun σ H Q ⟨ρ, w, D, R, rp, xo, h, f⟩ => ⟨ρ, w, D, _, rp, xo, h, fun s w1 v D1 H1 h1 g1 s1 r1 => ⟨ρ, w1, D1, _, rp.next g1.dd s1, xo.next g1, h1, fun y w2 u D2 H2 h2 g2 s2 r2 => by
    obtain ⟨q, kvs, k, x, rfl, hw, hk, hx, hR⟩ := h2
    obtain ⟨ks, hH, hv⟩ := s2.own q _ hw
    obtain ⟨x0, e1, e2⟩ := kva_get hv hx
    refine ⟨q, x0, r1, ?_, (f.next (g1.trans g2)).v s2 hR e2⟩
    rw [key_rel r2 hk, ← e1]
    exact DGet.k hH⟩⟩
/-- {"k": v, ..}: the values become data -/
inductive DPs (X : Cx) (W : WX) (Z : DX) : List (Option Expr) → List Expr → List Str → List DTE → Prop
  | nil : DPs X W Z [] [] [] []
  | cons {k : Str} {j : Nat} {p : Pos} {v : Expr} {t : DTE} {ks : List (Option Expr)} {vs : List Expr} {zs : List Str} {ts : List DTE} (hv : DE X W Z v t) (r : DPs X W Z ks vs zs ts) : DPs X W Z (some (.Constant (.str k) j p) :: ks) (v :: vs) (k :: zs) (t :: ts)
def dVals : List DTE → DEnv → Om → (List PyData → Om → Prop) → Prop
  | [], _, w, R => R [] w
  | t :: ts, ρ, w, R => t ρ w fun x w1 => frz x w1 fun d w2 => dVals ts ρ w2 fun ds w3 => R (d :: ds) w3
theorem DPs.len {ks : List (Option Expr)} {vs : List Expr} {zs : List Str} {ts : List DTE} (h : DPs X W Z ks vs zs ts) : ks.length = vs.length ∧ ks.length = zs.length ∧ ks.all (·.isSome) = true := by
  induction h with
  | nil => exact ⟨rfl, rfl, rfl⟩
  | cons hv r ih => exact ⟨by simp [ih.1], by simp [ih.2.1], by simp [ih.2.2]⟩
theorem DPs.pps {ks : List (Option Expr)} {vs : List Expr} {zs : List Str} {ts : List DTE} (h : DPs X W Z ks vs zs ts) : PPs X pos ks vs ((zs.zip ts).map fun p => (tC (.str p.1), up X.K W Z p.2)) := by
  induction h with
  | nil => exact pps_nil
  | cons hv r ih => exact pps_cons pe_str hv ih
theorem vals_ok {σ : L2.St} {ρ : DEnv} {Q : List (V × V) → Hp → Prop} : ∀ (zs : List Str) (ts : List DTE) (w : Om) (D H : Hp) (R : List PyData → Om → Prop), zs.length = ts.length → Rp X.K σ ρ w D H → XOk X.K W Z w D H → dVals ts ρ w R →
    (∀ ds vs w' D' H', R ds w' → Gr w D H w' D' H' → StOk X.K w' D' H' → DrA X.K D' vs ds → vs.length = zs.length → Q ((zs.zip vs).map fun p => (.str p.1, p.2)) H') → tPairs ((zs.zip ts).map fun p => (tC (.str p.1), up X.K W Z p.2)) σ H Q
  | [], [], w, D, H, R, _, rp, xo, h, k => k [] [] w D H h (Gr.refl _ _ _) rp.st .nil rfl
  | z :: zs, t :: ts, w, D, H, R, hl, rp, xo, h, k => ⟨ρ, w, D, _, rp, xo, h, fun s w1 v D1 H1 h1 g1 s1 r1 => by
    obtain ⟨d, w1', D1', hk, g1', s1', rd⟩ := frz_ok s1 r1 h1
    have g := g1.trans g1'
    refine vals_ok zs ts w1' D1' H1 _ (by simpa using hl) (rp.next g.dd s1') (xo.next g) hk fun ds vs w' D' H' hR gg st rv hn => ?_
    have := k (d :: ds) (v :: vs) w' D' H' hR (g.trans gg) st (.cons (rd.mono gg.dd) rv) (by simp [hn])
    exact this⟩
  | [], _ :: _, _, _, _, _, hl, _, _, _, _ => absurd hl (by simp)
  | _ :: _, [], _, _, _, _, hl, _, _, _, _ => absurd hl (by simp)
theorem putK_new {kvs : List (Key × V)} {k : Key} {v : V} (h : k ∉ kvs.map (·.1)) : putK kvs k v = kvs ++ [(k, v)] := by
  unfold putK
  rw [if_neg]
  intro z
  rw [List.any_eq_true] at z
  obtain ⟨x, hx, e⟩ := z
  exact h (List.mem_map.mpr ⟨x, hx, by simpa using e⟩)
theorem mergeK_new : ∀ (more kvs : List (Key × V)), ((kvs ++ more).map (·.1)).Nodup → mergeK kvs more = kvs ++ more
  | [], kvs, _ => by simp [mergeK]
  | q :: r, kvs, h => by
    have e : kvs ++ q :: r = (kvs ++ [q]) ++ r := by simp
    have hq : q.1 ∉ kvs.map (·.1) := fun z => by
      rw [List.map_append, List.nodup_append] at h
      exact h.2.2 _ z _ (by simp) rfl
    show mergeK (putK kvs q.1 q.2) r = _
    rw [putK_new hq, e]
    exact mergeK_new r (kvs ++ [q]) (by rw [← e]; exact h)
def dDisp (zs : List Str) (ts : List DTE) : DTE := fun ρ w R => dVals ts ρ w fun ds w1 => ∀ p, w1 p = none → R (.adr p) (put w1 p (.dic ((zs.zip ds).map fun q => (.inr q.1, .dat q.2))))
theorem kva_zip {D : Hp} : ∀ {zs : List Str} {vs : List V} {ds : List PyData}, DrA K D vs ds → KvA K D ((zs.zip vs).map fun q => (Sum.inr q.1, q.2)) ((zs.zip ds).map fun q => (Sum.inr q.1, .dat q.2))
  | [], _, _, _ => by simp; exact .nil
  | _ :: _, _, _, .nil => by simp; exact .nil
  | _ :: zs, _, _, .cons h r => .cons ⟨rfl, h⟩ (kva_zip r)
theorem de_disp {k1 : Option Expr} {kr : List (Option Expr)} {vals : List Expr} {zs : List Str} {ts : List DTE} (h : DPs X W Z (k1 :: kr) vals zs ts) (hn : zs.Nodup) (h15 : zs.length ≤ 15) (hts : zs.length = ts.length) : DE X W Z (.Dict (k1 :: kr) vals pos) (dDisp zs ts) := by
  obtain ⟨l1, l2, l3⟩ := h.len
  refine pe_weak (pe_disp h.pps l3 l1 (by simp) (by rw [l2]; exact h15)) fun σ H Q ⟨ρ, w, D, R, rp, xo, hh, f⟩ p hp => ?_
  have s2 : StOk X.K w D (upd H p (.dK [])) := rp.st.junk (rp.st.freeW hp) (rp.st.freeD hp)
  have g2 : Gr w D H w D (upd H p (.dK [])) := (Gr.refl w D H).junk hp
  refine vals_ok zs ts w D _ _ hts (rp.next g2.dd s2) (xo.next g2) hh fun ds vs w' D' H' hR g st rv hl => ?_
  have wp : w p = none := rp.st.freeW hp
  have hne : upd H p (.dK []) p ≠ none := by rw [upd_same]; intro z; cases z
  have k1 : H' p = some (.dK []) := g.fr p _ upd_same wp
  have k2 : w' p = none := g.nw p hne wp
  have k3 : D' p = none := g.nd p hne wp (rp.st.freeD hp)
  have ed : (((zs.zip vs).map fun q => ((Sum.inr q.1 : Key), q.2)).map (·.1)) = zs.map Sum.inr := by
    rw [List.map_map]
    have : (fun q : Str × V => (Sum.inr q.1 : Key)) = Sum.inr ∘ Prod.fst := rfl
    show (zs.zip vs).map (Sum.inr ∘ Prod.fst) = _
    rw [← List.map_map, List.map_fst_zip (by omega)]
  have hnd : (zs.map (Sum.inr : Str → Key)).Nodup := List.Pairwise.map _ (fun a b hab z => hab (by injection z)) hn
  refine ⟨k1, (zs.zip vs).map fun q => (Sum.inr q.1, q.2), by rw [List.map_map]; rfl, by rw [List.length_map, List.length_zip]; omega, ?_⟩
  rw [mergeK_new _ [] (by rw [List.nil_append, ed]; exact hnd), List.nil_append]
  have ok : OwnOk X.K D' (upd H' p (.dK ((zs.zip vs).map fun q => (Sum.inr q.1, q.2)))) p (.dic ((zs.zip ds).map fun q => (.inr q.1, .dat q.2))) := ⟨_, upd_same, kva_zip rv⟩
  have s3 : StOk X.K (put w' p (.dic ((zs.zip ds).map fun q => (.inr q.1, .dat q.2)))) D' (upd H' p (.dK ((zs.zip vs).map fun q => (Sum.inr q.1, q.2)))) := by
    refine ⟨fun a u q => ?_, fun a u q => ?_, fun a u q => ?_⟩
    · have : a ≠ p := fun z => by rw [z, k3] at q; cases q
      rw [upd_ne this]; exact st.dh a u q
    · by_cases z : a = p
      · subst z; rw [put_same] at q; cases q; exact ok
      · rw [put_ne z] at q
        exact (st.own a u q).mono (Same.refl D') fun x r => by rw [upd_ne z]; exact r
    · by_cases z : a = p
      · subst z; exact k3
      · rw [put_ne z] at q; exact st.sep a u q
  have g3 : Gr w D H (put w' p (.dic ((zs.zip ds).map fun q => (.inr q.1, .dat q.2)))) D' (upd H' p (.dK ((zs.zip vs).map fun q => (Sum.inr q.1, q.2)))) := by
    have gg := g2.trans g
    refine ⟨gg.dd, fun a u q n => ?_, fun a q n => ?_, gg.nd, fun a q => ?_⟩
    · rw [upd_ne (ne_of_none q hp)]; exact gg.fr a u q n
    · have : a ≠ p := fun z => q (by rw [z]; exact hp)
      rw [put_ne this]; exact gg.nw a q n
    · by_cases z : a = p
      · subst z; rw [upd_same]; intro y; cases y
      · rw [upd_ne z]; exact gg.dm a q
  exact f (.adr p) _ (.ref p) D' _ (hR p k2) g3 s3 rfl
end
end DL

set_option Elab.async false
set_option linter.all false
set_option maxRecDepth 100000
set_option maxHeartbeats 4000000
/-! DL16: try .. except X:; recursions of several levels; data of the written part -/
namespace DL
open PySem PySem.Spec PyProof.Rows L2
section
variable {X : Cx}
def zTryO (CN : Addr) (ts : DTS) (F : DEnds) : DX := fun ρ C x w => C = CN ∧ x = none ∧ ts F ρ w
def dTryO (CN : Addr) (tb : DX → DTS) (ts : DTS) : DTS := fun F ρ w => tb (zTryO CN ts F) F ρ w
theorem ds_tryO {xc : Str} {cv : Value} {CN : Addr} {body suite : List Stmt} {b₀ : Stmt} {np pos pos' : Pos} {tb : DX → DTS} {ts : DTS} {Wo : WX} {Zo : DX} (hs : X.stack = X.env :: X.outer) (hf : X.env.frame = some X.env.locals)
    (hc : Names X xc cv) (hx : PySem.W.exmOne X.K (.ref CN) cv = some true)
    (hb : ∀ (W : WX) (Z : DX) (pn : List (Addr × Obj)) (xe : Value → Shared → Prop), Takes (X.tr pn xe) W → PassesOwn (model X.prog X.w) X.A X.env xe → DB (X.tr pn xe) W Z body (tb Z))
    (hsu : ∀ (a : Addr) (oe : Obj) (pn : List (Addr × Obj)), DB (X.suite a ((a, oe) :: pn)) WT ZT (b₀ :: suite) ts) :
    DS X Wo Zo (.Try body [.ExceptHandler (some (.Name xc np)) none (b₀ :: suite) pos'] [] [] pos) (dTryO CN tb ts) := by
  refine ps_weak (ps_try_only (tb := fun W => fun D σ H => ∃ Z, ups X.K W Z (tb Z) D σ H) (ts := fun a cls d => fun D σ H => ups X.K WT ZT ts D σ H) (Wout := fun _ _ _ _ => False) hs hf hc takes0 (fun W pn xe tk po => ?_) (fun a oe cls d pn hz hd => ?_)) fun E σ H ⟨ρ, w, D, F, rp, xo, h, eo⟩ => ?_
  · exact ⟨fun pins s σ H D I ⟨Z, q⟩ => (hb W Z pn xe tk po).run pins s σ H D I q⟩
  · exact ⟨fun pins s σ H D I q => (hsu a oe pn).run pins s σ H D I q⟩
  · refine ⟨zTryO CN ts F, ρ, w, D, F, rp, ?_, h, eo⟩
    rintro σ' ρ' C x w' D' H' d ⟨rfl, rfl, hh⟩ g r q
    exact ⟨true, hx, fun _ a ha => ⟨ρ', w', D', F, r, xok_T, hh, eo.next g⟩, fun z => nomatch z⟩
end
section
variable {P : Program} {wd : World} {K : PySem.W.Frag} {mg : Str → Option Value} {base : Heap}
theorem rec_okM {CX : CXT} {b m : Nat} {f : Addr} {fd : FuncData} {ps : List Str} (c : Nat → Ct) (step : ∀ n, FnOk P wd K mg base CX (b + m * n) f fd ps (spN K (prev c n)) → FnOk P wd K mg base CX (b + m * n + m) f fd ps (spN K (c n))) :
    ∀ n, FnOk P wd K mg base CX (b + m * n + m) f fd ps (spN K (c n))
  | 0 => step 0 fnok_no
  | n + 1 => step (n + 1) (by
    have := rec_okM c step n
    rw [Nat.mul_succ, ← Nat.add_assoc]
    exact this)
theorem rec_okMX {CX : CXT} {b m : Nat} {f : Addr} {fd : FuncData} {ps : List Str} (c : Nat → CtX) (step : ∀ n, FnOk P wd K mg base CX (b + m * n) f fd ps (spX K (prevX c n)) → FnOk P wd K mg base CX (b + m * n + m) f fd ps (spX K (c n))) :
    ∀ n, FnOk P wd K mg base CX (b + m * n + m) f fd ps (spX K (c n))
  | 0 => step 0 fnok_noX
  | n + 1 => step (n + 1) (by
    have := rec_okMX c step n
    rw [Nat.mul_succ, ← Nat.add_assoc]
    exact this)
end
section
variable {K : PySem.W.Frag} {a : Addr} {o : Option Addr} {n : Nat} {s : Array (Option Value)}
theorem kt_nil (h : K.lookup a = some ⟨.type "tuple", none, .seq #[] n, s⟩) : ∀ D, Dr K D (.ref a) (.tuple []) := fun D => .tup (.inr ⟨_, #[], n, h, rfl, rfl, rfl, by decide, .nil⟩) .nil
theorem kt_int2 {i j : Int} {t u : Tok} (h : K.lookup a = some ⟨.type "tuple", none, .seq #[.int i t, .int j u] n, s⟩) : ∀ D, Dr K D (.ref a) (.tuple [.int i, .int j]) := fun D => .tup (.inr ⟨_, #[.int i t, .int j u], n, h, rfl, rfl, rfl, by show 2 ≤ sizeLine; decide, .cons (a := V.int i) ⟨t, rfl⟩ (.cons (a := V.int j) ⟨u, rfl⟩ .nil)⟩) (.cons (.int i) (.cons (.int j) .nil))
end
end DL

set_option Elab.async false
set_option linter.all false
set_option maxRecDepth 100000
set_option maxHeartbeats 4000000
/-! the law's bag of digits: a list of three whole numbers -/
namespace G
open PySem PySem.Spec PyProof.Rows L2 DL
def bagO (x y z : Int) : OO := .lst [.dat (.int x), .dat (.int y), .dat (.int z)]
/-- w' is w with a good bag at b, its counter at most n -/
def Bg (b : Addr) (n : Nat) (w w' : Om) : Prop := ∃ x y z, w' = put w b (bagO x y z) ∧ 0 ≤ y ∧ y < 2 ^ 200 ∧ 0 ≤ z ∧ z ≤ n
theorem Bg.mono {b : Addr} {n m : Nat} {w w' : Om} (h : Bg b n w w') (hn : n ≤ m) : Bg b m w w' := by
  obtain ⟨x, y, z, e, h1, h2, h3, h4⟩ := h
  exact ⟨x, y, z, e, h1, h2, h3, by omega⟩
theorem Bg.at {b : Addr} {n : Nat} {w w' : Om} (h : Bg b n w w') : ∃ x y z, w' b = some (bagO x y z) := by
  obtain ⟨x, y, z, e, _⟩ := h
  exact ⟨x, y, z, by rw [e, put_same]⟩
theorem Bg.ne {b a : Addr} {n : Nat} {w w' : Om} (h : Bg b n w w') (ha : w' a = none) : a ≠ b := fun z => by
  obtain ⟨x, y, c, e⟩ := h.at
  rw [z, e] at ha; cases ha
theorem Bg.get {b a : Addr} {n : Nat} {w w' : Om} (h : Bg b n w w') (ha : a ≠ b) : w' a = w a := by
  obtain ⟨x, y, z, e, _⟩ := h
  rw [e, put_ne ha]
/-- beside a new object -/
theorem Bg.put {b a : Addr} {n : Nat} {w w' : Om} {o : OO} (h : Bg b n w w') (ha : a ≠ b) : Bg b n (put w a o) (put w' a o) := by
  obtain ⟨x, y, z, e, h1⟩ := h
  exact ⟨x, y, z, by rw [e, put_comm (Ne.symm ha)], h1⟩
/-- the new object forgotten -/
theorem Bg.drop {b a : Addr} {n : Nat} {w w' : Om} {o : OO} (h : Bg b n (DL.put w a o) w') (hw : w a = none) (ha : a ≠ b) : ∃ u, Sub u w' ∧ Bg b n w u := by
  obtain ⟨x, y, z, e, h1⟩ := h
  refine ⟨DL.put w b (bagO x y z), ?_, x, y, z, rfl, h1⟩
  rw [e]
  exact Sub.put (Sub.new hw)
def c_law_cell_at : Ct := fun ss w R => ∃ (ns : List Int) (k : Nat), ss = [.scr ns, .dat (.int k)] ∧ ns.length ≤ 63 ∧ ∀ c : Int, R (.dat (.int c)) w
def c_law_bag : Ct := fun ss w R => ∃ (c : Int) (k : Nat), ss = [.dat (.int c), .dat (.int k)] ∧ k ≤ 100 ∧ ∀ b w', w b = none → Bg b 0 w w' → R (.adr b) w'
/-- a draw below m -/
def c_law_draw : Ct := fun ss w R => ∃ (b : Addr) (m : Int) (n : Nat) (w0 : Om), ss = [.adr b, .dat (.int m)] ∧ Bg b n w0 w ∧ 0 < m ∧ m < 2 ^ 100 ∧ n < 2 ^ 60 ∧ ∀ r w', 0 ≤ r → r < m → Bg b (n + 1) w0 w' → R (.dat (.int r)) w'
theorem len_law_cell_at {ss w R} (h : c_law_cell_at ss w R) : ss.length = 2 := by obtain ⟨_, _, rfl, _⟩ := h; rfl
theorem len_law_bag {ss w R} (h : c_law_bag ss w R) : ss.length = 2 := by obtain ⟨_, _, rfl, _⟩ := h; rfl
theorem len_law_draw {ss w R} (h : c_law_draw ss w R) : ss.length = 2 := by obtain ⟨_, _, _, _, rfl, _⟩ := h; rfl
end G

set_option Elab.async false
set_option linter.all false
set_option maxRecDepth 100000
set_option maxHeartbeats 4000000
namespace G
open PySem PySem.Spec PyProof.Rows L2 DL
def N_law_cell_at : List Str := ["script", "k"]
def t_law_cell_at : DTS :=
  (dSeq (dIfS (dTst (dOp ltS (dVar 1) (dCB lenS (dCons (dVar 0) dNil)))) (dRet (dOp ixS (dVar 0) (dVar 1))) dNext)
  (dRet (dC (.int 0))))

def N_law_bag : List Str := ["cell", "place"]
def t_law_bag : DTS :=
  (dRet (dLstD (dDats (dCB maxS (dCons (dC (.int 0)) (dCons (dOp gSub (dVar 0) (dOp gPow (dC (.int 10)) (dC (.int 18)))) dNil))) (dDats (dOp addS (dOp gMod (dVar 0) (dC (.int 170141183460469231731687303715884105727))) (dOp gMul (dC (.int 198491317)) (dVar 1))) (dDats (dC (.int 0)) dNilD)))))

def N_law_draw : List Str := ["bag", "many", "found", "mixed"]
def t_law_draw : DTS :=
  (dSeq (dIfS (dTst (dOp gtS (dOp ixS (dVar 0) (dC (.int 0))) (dC (.int 1)))) (dSeq (dAsg (dOp gMod (dOp ixS (dVar 0) (dC (.int 0))) (dVar 1)) (dName 2))
  (dSeq (dAsg (dOp gDiv (dOp ixS (dVar 0) (dC (.int 0))) (dVar 1)) (dSetL (dVar 0) (dC (.int 0))))
  (dRet (dVar 2)))) dNext)
  (dSeq (dAsg (dOp addS (dOp ixS (dVar 0) (dC (.int 2))) (dC (.int 1))) (dSetL (dVar 0) (dC (.int 2))))
  (dSeq (dAsg (dOp gMod (dOp gPow (dOp addS (dOp ixS (dVar 0) (dC (.int 1))) (dOp gMul (dC (.int 86028121)) (dOp ixS (dVar 0) (dC (.int 2))))) (dC (.int 3))) (dC (.int 170141183460469231731687303715884105727))) (dName 3))
  (dSeq (dAsg (dOp gMod (dOp gPow (dOp addS (dVar 3) (dOp gMul (dC (.int 32452867)) (dOp ixS (dVar 0) (dC (.int 2))))) (dC (.int 3))) (dC (.int 162259276829213363391578010288127))) (dName 3))
  (dRet (dOp gMod (dOp gDiv (dVar 3) (dC (.int 2048))) (dVar 1)))))))

theorem atI_lt {α : Type} {xs : List α} {k : Nat} (h : k < xs.length) : atI xs (k : Int) = some xs[k] := atI_nat (List.getElem?_eq_getElem h)
theorem rd_law_cell_at {ss w R} (h : c_law_cell_at ss w R) : t_law_cell_at (endsN R) (startD N_law_cell_at ss) w := by
  obtain ⟨ns, k, rfl, hl, q⟩ := h
  refine ⟨_, rfl, _, rfl, _, lenS_sq rfl, ?_⟩
  refine ⟨_, rfl, _, rfl, iteD (fun c => ?_) fun c => ?_⟩
  · rw [List.length_map] at c
    exact ⟨_, rfl, _, rfl, _, ixS_scr (atI_lt (by omega)), w, Sub.refl _, q _⟩
  · exact ⟨w, Sub.refl _, q _⟩
theorem cMul_of {i j : Int} {a b : Nat} (ha : i.natAbs < 2 ^ a) (hb : j.natAbs < 2 ^ b) (h0 : 0 < a) (h1 : 0 < b) (h : a + b ≤ 1000000) : cMul i j = true := decide_eq_true (wide_mul ha hb h0 h1 h)
theorem cDiv_of {i j : Int} {b : Nat} (h : 0 < j) (hb : j.natAbs < 2 ^ b) (h0 : 0 < b) (h9 : b ≤ 9000) : cDiv i j = true := decide_eq_true (wide_div (i := i) h hb h0 h9)
theorem bits_le {i : Int} {a : Nat} (ha : i.natAbs < 2 ^ a) (h0 : 0 < a) : Builtin.Int.intBits i ≤ a := by
  have := PySem.Flt.log2_lt_of h0 ha
  unfold Builtin.Int.intBits
  split <;> omega
theorem cPow_of {i j : Int} {a : Nat} (ha : i.natAbs < 2 ^ a) (h0 : 0 < a) (hj : 0 ≤ j) (h : (a : Int) * j ≤ 2 ^ 27) : cPow i j = true := by
  refine decide_eq_true ⟨hj, Int.le_trans (Int.mul_le_mul_of_nonneg_right (Int.ofNat_le.mpr (bits_le ha h0)) hj) h⟩
theorem small_abs {i : Int} {a : Nat} (h0 : 0 ≤ i) (h : i < 2 ^ a) : i.natAbs < 2 ^ a := by
  have : ((i.natAbs : Nat) : Int) < ((2 ^ a : Nat) : Int) := by rw [Int.natAbs_of_nonneg h0]; exact_mod_cast h
  exact_mod_cast this
theorem rd_law_bag {ss w R} (h : c_law_bag ss w R) : t_law_bag (endsN R) (startD N_law_bag ss) w := by
  obtain ⟨c, k, rfl, hk, q⟩ := h
  refine ⟨_, rfl, _, liftI_ok (by decide), _, rfl, _, rfl, ?_⟩
  refine ⟨_, rfl, _, liftI_ok (by decide), _, rfl, _, liftI_ok (cMul_of (a := 64) (b := 64) (by decide) (small_abs (by omega) (by omega)) (by decide) (by decide) (by decide)), _, rfl, ?_⟩
  have e1 := Int.emod_nonneg c (show (170141183460469231731687303715884105727 : Int) ≠ 0 by decide)
  have e2 := Int.emod_lt_of_pos c (show (0 : Int) < 170141183460469231731687303715884105727 by decide)
  refine ⟨by show 3 ≤ sizeLine; decide, fun b hb => ⟨_, Sub.refl _, q b _ hb ⟨_, _, _, rfl, ?_, ?_, ?_, ?_⟩⟩⟩ <;> omega
theorem rd_law_draw {ss w R} (h : c_law_draw ss w R) : t_law_draw (endsN R) (startD N_law_draw ss) w := by
  obtain ⟨b, m, n, w0, rfl, ⟨x, y, z, rfl, hy, hy2, hz, hz2⟩, hm, hm2, hn, q⟩ := h
  have hb : put w0 b (bagO x y z) b = some (bagO x y z) := put_same
  have mb : m.natAbs < 2 ^ 100 := small_abs (by omega) hm2
  refine ⟨_, rfl, _, ixS_adr hb rfl, _, rfl, _, rfl, iteD (fun c => ?_) fun c => ?_⟩
  · refine ⟨_, rfl, _, ixS_adr hb rfl, _, rfl, _, liftI_ok (decide_eq_true hm), ?_⟩
    refine ⟨_, rfl, _, ixS_adr hb rfl, _, rfl, _, liftI_ok (cDiv_of hm mb (by decide) (by decide)), ?_⟩
    refine ⟨_, rfl, b, _, 0, 0, rfl, rfl, hb, rfl, ?_⟩
    refine ⟨_, rfl, _, Sub.refl _, q _ _ (Int.emod_nonneg _ (by omega)) (Int.emod_lt_of_pos _ hm) ⟨x / m, y, z, by rw [put_put]; rfl, hy, hy2, hz, by omega⟩⟩
  · refine ⟨_, rfl, _, ixS_adr hb rfl, _, rfl, ?_⟩
    refine ⟨_, rfl, b, _, 2, 2, rfl, rfl, hb, rfl, ?_⟩
    rw [put_put]
    have hb2 : put w0 b (bagO x y (z + 1)) b = some (bagO x y (z + 1)) := put_same
    show dSeq _ _ _ _ (put w0 b (bagO x y (z + 1)))
    refine ⟨_, rfl, _, ixS_adr hb2 rfl, _, rfl, _, ixS_adr hb2 rfl, _, liftI_ok (cMul_of (a := 64) (b := 64) (by decide) (small_abs (by omega) (by omega)) (by decide) (by decide) (by decide)), _, rfl, _, liftI_ok (cPow_of (a := 202) (small_abs (by omega) (by omega)) (by decide) (by decide) (by decide)), _, liftI_ok (by decide), ?_⟩
    generalize hmx : (y + 86028121 * (z + 1)) ^ (3 : Int).toNat % 170141183460469231731687303715884105727 = mx
    have e1 := Int.emod_nonneg ((y + 86028121 * (z + 1)) ^ (3 : Int).toNat) (show (170141183460469231731687303715884105727 : Int) ≠ 0 by decide)
    have e2 := Int.emod_lt_of_pos ((y + 86028121 * (z + 1)) ^ (3 : Int).toNat) (show (0 : Int) < 170141183460469231731687303715884105727 by decide)
    rw [hmx] at e1 e2
    refine ⟨_, rfl, _, rfl, _, ixS_adr hb2 rfl, _, liftI_ok (cMul_of (a := 64) (b := 64) (by decide) (small_abs (by omega) (by omega)) (by decide) (by decide) (by decide)), _, rfl, _, liftI_ok (cPow_of (a := 202) (small_abs (by omega) (by omega)) (by decide) (by decide) (by decide)), _, liftI_ok (by decide), ?_⟩
    refine ⟨_, rfl, _, liftI_ok (cDiv_of (b := 64) (by decide) (by decide) (by decide) (by decide)), _, rfl, _, liftI_ok (decide_eq_true hm), ?_⟩
    exact ⟨_, Sub.refl _, q _ _ (Int.emod_nonneg _ (by omega)) (Int.emod_lt_of_pos _ hm) ⟨x, y, z + 1, rfl, hy, hy2, by omega, by omega⟩⟩
end G

set_option Elab.async false
set_option linter.all false
set_option maxRecDepth 100000
set_option maxHeartbeats 4000000
namespace G
open PySem PySem.Spec PyProof.Rows L2 DL
def kv_PARTS : List (Str × Sl) := [("names", .dat (.int 0)), ("most", .dat (.int 0)), ("last", .dat (.int 0)), ("each", .dat (.int 1)), ("both", .dat (.int 2))]
/-! ### bounded data -/
mutual
def szB (n : Nat) : PyData → Bool
  | .none => true
  | .bool _ => true
  | .int i => decide (i.natAbs < 2 ^ (100 + n))
  | .str x => decide (x.length ≤ 4000 * 4 ^ n)
  | .list ds => decide (ds.length ≤ 40 + n) && szA n ds
  | .tuple ds => decide (ds.length ≤ 40 + n) && szA n ds
  | .dict kvs => kvs.isEmpty
def szA (n : Nat) : List PyData → Bool
  | [] => true
  | d :: ds => szB n d && szA n ds
end
theorem szA_all {n : Nat} : ∀ {ds : List PyData}, szA n ds = true ↔ ∀ d ∈ ds, szB n d = true
  | [] => ⟨fun _ _ h => by simp at h, fun _ => by unfold szA; rfl⟩
  | d :: r => by
    unfold szA
    rw [Bool.and_eq_true, szA_all (ds := r)]
    constructor
    · rintro ⟨h1, h2⟩ e he
      rcases List.mem_cons.mp he with rfl | he
      · exact h1
      · exact h2 e he
    · intro h
      exact ⟨h d List.mem_cons_self, fun e he => h e (List.mem_cons_of_mem _ he)⟩
mutual
theorem szB_mono {n m : Nat} (h : n ≤ m) : ∀ (d : PyData), szB n d = true → szB m d = true
  | .none, _ => by unfold szB; rfl
  | .bool _, _ => by unfold szB; rfl
  | .int i, q => by
    unfold szB at q ⊢
    have q := of_decide_eq_true q
    exact decide_eq_true (Nat.lt_of_lt_of_le q (Nat.pow_le_pow_right (by decide) (by omega)))
  | .str x, q => by
    unfold szB at q ⊢
    have q := of_decide_eq_true q
    exact decide_eq_true (Nat.le_trans q (Nat.mul_le_mul_left _ (Nat.pow_le_pow_right (by decide) h)))
  | .list ds, q => by
    unfold szB at q ⊢
    rw [Bool.and_eq_true] at q ⊢
    exact ⟨decide_eq_true (by have := of_decide_eq_true q.1; omega), szA_mono h ds q.2⟩
  | .tuple ds, q => by
    unfold szB at q ⊢
    rw [Bool.and_eq_true] at q ⊢
    exact ⟨decide_eq_true (by have := of_decide_eq_true q.1; omega), szA_mono h ds q.2⟩
  | .dict kvs, q => by unfold szB at q ⊢; exact q
theorem szA_mono {n m : Nat} (h : n ≤ m) : ∀ (ds : List PyData), szA n ds = true → szA m ds = true
  | [], _ => by unfold szA; rfl
  | d :: r, q => by
    unfold szA at q ⊢
    rw [Bool.and_eq_true] at q ⊢
    exact ⟨szB_mono h d q.1, szA_mono h r q.2⟩
end
theorem sz_tup {n : Nat} {ds : List PyData} (h : szB n (.tuple ds) = true) : ds.length ≤ 40 + n ∧ ∀ d ∈ ds, szB n d = true := by
  unfold szB at h
  rw [Bool.and_eq_true] at h
  exact ⟨of_decide_eq_true h.1, szA_all.mp h.2⟩
theorem sz_list {n : Nat} {ds : List PyData} (h : szB n (.list ds) = true) : ds.length ≤ 40 + n ∧ ∀ d ∈ ds, szB n d = true := by
  unfold szB at h
  rw [Bool.and_eq_true] at h
  exact ⟨of_decide_eq_true h.1, szA_all.mp h.2⟩
theorem tup_sz {n : Nat} {ds : List PyData} (h1 : ds.length ≤ 40 + n) (h2 : ∀ d ∈ ds, szB n d = true) : szB n (.tuple ds) = true := by
  unfold szB
  rw [Bool.and_eq_true]
  exact ⟨decide_eq_true h1, szA_all.mpr h2⟩
theorem list_sz {n : Nat} {ds : List PyData} (h1 : ds.length ≤ 40 + n) (h2 : ∀ d ∈ ds, szB n d = true) : szB n (.list ds) = true := by
  unfold szB
  rw [Bool.and_eq_true]
  exact ⟨decide_eq_true h1, szA_all.mpr h2⟩
theorem sz_str {n : Nat} {x : Str} : szB n (.str x) = true ↔ x.length ≤ 4000 * 4 ^ n := by
  unfold szB
  exact ⟨of_decide_eq_true, decide_eq_true⟩
theorem sz_int {n : Nat} {i : Int} : szB n (.int i) = true ↔ i.natAbs < 2 ^ (100 + n) := by
  unfold szB
  exact ⟨of_decide_eq_true, decide_eq_true⟩
/-! ### what is a kind: the program's look, and the law's -/
def partsOf (z : Str) : Option Nat := if z = "names" then some 0 else if z = "most" then some 0 else if z = "last" then some 0 else if z = "each" then some 1 else if z = "both" then some 2 else none
theorem lookup_cons_ne {α : Type} {z k : Str} {a : α} {l : List (Str × α)} (h : z ≠ k) : List.lookup z ((k, a) :: l) = List.lookup z l := by
  have : (z == k) = false := beq_eq_false_iff_ne.mpr h
  simp [List.lookup, this]
theorem lookup_cons_eq {α : Type} {z : Str} {a : α} {l : List (Str × α)} : List.lookup z ((z, a) :: l) = some a := by simp [List.lookup]
theorem lookup_PARTS (z : Str) : kv_PARTS.lookup z = (partsOf z).map fun i => .dat (.int (i : Nat)) := by
  unfold kv_PARTS partsOf
  by_cases h1 : z = "names"
  · subst h1; rw [lookup_cons_eq, if_pos rfl]; rfl
  rw [lookup_cons_ne h1, if_neg h1]
  by_cases h2 : z = "most"
  · subst h2; rw [lookup_cons_eq, if_pos rfl]; rfl
  rw [lookup_cons_ne h2, if_neg h2]
  by_cases h3 : z = "last"
  · subst h3; rw [lookup_cons_eq, if_pos rfl]; rfl
  rw [lookup_cons_ne h3, if_neg h3]
  by_cases h4 : z = "each"
  · subst h4; rw [lookup_cons_eq, if_pos rfl]; rfl
  rw [lookup_cons_ne h4, if_neg h4]
  by_cases h5 : z = "both"
  · subst h5; rw [lookup_cons_eq, if_pos rfl]; rfl
  rw [lookup_cons_ne h5, if_neg h5]
  rfl
def isKindD : Nat → PyData → Bool
  | n + 1, .tuple (.str z :: ks) => (partsOf z == some ks.length) && ks.all (isKindD n)
  | _, _ => false
def c_is_kind (n : Nat) : Ct := fun ss w R => ∃ d m k, ss = [.dat d, .dat (.int m)] ∧ m ≤ (n : Int) ∧ szB k d = true ∧ k ≤ 5 ∧ R (.dat (.bool (isKindD m.toNat d))) w
theorem len_is_kind {n ss w R} (h : c_is_kind n ss w R) : ss.length = 2 := by obtain ⟨_, _, _, rfl, _⟩ := h; rfl
def N_is_kind : List Str := ["thing", "most", "word", "kinds", "one"]
def t_is_kind (cr : Ct) : DTS :=
  (dSeq (dIfS (dOr (dTst (dOp ltS (dVar 1) (dC (.int 1)))) (dOr (dNot (dTst (dIsi .tuple (dVar 0)))) (dOr (dTst (dOp ltS (dCB lenS (dCons (dVar 0) dNil)) (dC (.int 1)))) (dNot (dTst (dIsi .str (dOp ixS (dVar 0) (dC (.int 0))))))))) (dRet (dC (.bool false))) dNext)
  (dSeq (dAsg (dVar 0) (dGStar 2 1 (dGCons (dName 2) (dGCons (dName 3) dGNil))))
  (dRet (dAndV (dOp (eqS false) (dKGet kv_PARTS (dVar 2)) (dCB lenS (dCons (dVar 3) dNil))) (dCB allS (dCons (dLc (dSeqI (dVar 3)) (dName 4) dYes (dCall cr [] (dCons (dVar 4) (dCons (dOp gSub (dVar 1) (dC (.int 1))) dNil))) [4]) dNil))))))

theorem sq_line {n : Nat} (h : n ≤ 1600000) : n ≤ sizeLine := Nat.le_trans h (by decide)
theorem ix_t0 {w : Om} {e : PyData} {ks : List PyData} : ixS w (.dat (.tuple (e :: ks))) (.dat (.int 0)) = some (.v (.dat e)) := ixS_tup (atI_nat (j := 0) rfl)
theorem ix_t1 {w : Om} {e f : PyData} {ks : List PyData} : ixS w (.dat (.tuple (e :: f :: ks))) (.dat (.int 1)) = some (.v (.dat f)) := ixS_tup (atI_nat (j := 1) rfl)
theorem ix_t2 {w : Om} {e f g : PyData} {ks : List PyData} : ixS w (.dat (.tuple (e :: f :: g :: ks))) (.dat (.int 2)) = some (.v (.dat g)) := ixS_tup (atI_nat (j := 2) rfl)
theorem in_3 {w : Om} {z a b c : Str} : inS false w (.dat (.str z)) (.dat (.tuple [.str a, .str b, .str c])) = some (.v (.dat (.bool (a == z || (b == z || (c == z || false)))))) := rfl
local macro_rules | `(tactic| walk_at "rr") => `(tactic| repeat (first | refine ⟨_, ix_t0, ?_⟩ | refine ⟨_, ix_t1, ?_⟩ | refine ⟨_, ix_t2, ?_⟩ | refine ⟨_, in_3, ?_⟩ | refine ⟨_, rfl, ?_⟩ | refine iteT ?_ | refine iteF ?_ | refine And.intro (sq_line (by simp)) ?_))
/-- a comprehension without a test whose element leaves the store -/
theorem lc_map {ok : Om → Prop} {g : DTG} {te : DTE} {ρ : DEnv} {k : List Sl → Om → Prop} {w : Om} (f : Sl → Sl) (hok : ok w) : ∀ (xs acc : List Sl), (∀ x ∈ xs, ∀ C : DQ, C (f x) w → g x ρ w fun ρ2 w2 => te ρ2 w2 C) → acc.length + xs.length ≤ sizeLine → k (acc ++ xs.map f) w → dLcL ok g dYes te ρ k xs acc w
  | [], acc, _, _, h => ⟨hok, by simpa using h⟩
  | x :: xs, acc, hs, hl, h => by
    refine ⟨hok, ?_⟩
    have q := hs x List.mem_cons_self (fun y w4 => acc.length < sizeLine ∧ dLcL ok g dYes te ρ k xs (acc ++ [y]) w4) ⟨by simp at hl; omega, lc_map f hok xs (acc ++ [f x]) (fun z hz => hs z (List.mem_cons_of_mem _ hz)) (by simp at hl ⊢; omega) (by simpa using h)⟩
    exact q
theorem gstar1 {t : DTGs} {x : Sl} {r : List Sl} {ρ : DEnv} {w : Om} {R : DEnv → Om → Prop} (hl : r.length ≤ 16000) (h : ∀ p, w p = none → t [x, .adr p] ρ (put w p (.lst r)) R) :
    1 < 2 ∧ 2 ≤ (x :: r).length + 1 ∧ (x :: r).length ≤ 16384 ∧ ∀ p, w p = none → t ((x :: r).take 1 ++ [.adr p] ++ ((x :: r).drop 1).drop ((x :: r).length + 1 - 2)) ρ (put w p (.lst (((x :: r).drop 1).take ((x :: r).length + 1 - 2)))) R := by
  refine ⟨by decide, by simp, by simp; omega, fun p hp => ?_⟩
  have := h p hp
  simpa using this
theorem all_map (f : PyData → Bool) (ks : List PyData) : (ks.map f).all id = ks.all f := by simp [List.all_map]
theorem rd_is_kind (n : Nat) {ss w R} (h : c_is_kind n ss w R) : t_is_kind (prev c_is_kind n) (endsN R) (startD N_is_kind ss) w := by
  obtain ⟨d, m, k, rfl, hm, hz, hk, q⟩ := h
  have no : isKindD m.toNat d = false → ∃ u, Sub u w ∧ R (.dat (.bool false)) u := fun e => ⟨w, Sub.refl _, by rw [e] at q; exact q⟩
  refine ⟨_, rfl, _, rfl, _, rfl, ?_⟩
  refine iteD (fun c => ?_) fun c => ?_
  · refine iteT (no ?_)
    have : m.toNat = 0 := by omega
    rw [this]; cases d <;> rfl
  obtain ⟨j, hj⟩ : ∃ j, m.toNat = j + 1 := ⟨m.toNat - 1, by omega⟩
  rw [hj] at no q
  obtain ⟨n', rfl⟩ : ∃ n', n = n' + 1 := ⟨n - 1, by omega⟩
  cases d with
  | tuple ds =>
    cases ds with
    | nil => walk_at "rr"; exact no rfl
    | cons e ks =>
      obtain ⟨hl, hd⟩ := sz_tup hz
      have hlen : ¬ (((e :: ks).map Sl.dat).length : Int) < 1 := by simp; omega
      have hlk : ks.length ≤ 45 := by simp at hl; omega
      walk_at "rr"
      cases e with
      | str z =>
        walk_at "rr"
        refine gstar1 (by simp; omega) fun p hp => ?_
        have hsq : put w p (.lst (ks.map Sl.dat)) p = some (.lst (ks.map Sl.dat)) := put_same
        have hw : Sub w (put w p (.lst (ks.map Sl.dat))) := Sub.new hp
        refine ⟨_, _, rfl, _, _, rfl, rfl, ?_⟩
        refine ⟨_, rfl, _, rfl, _, rfl, _, lenS_sq (sq_adr hsq), ?_⟩
        rw [lookup_PARTS]
        have fin : ∀ b : Bool, isKindD (j + 1) (.tuple (.str z :: ks)) = b → ∃ u, Sub u (put w p (.lst (ks.map Sl.dat))) ∧ R (.dat (.bool b)) u := fun b e => ⟨w, hw, by rw [← e]; exact q⟩
        cases hz2 : partsOf z with
        | none =>
          refine ⟨_, eqS_ok (k := false) rfl rfl rfl, false, rfl, fin false ?_⟩
          unfold isKindD; rw [hz2]; rfl
        | some i =>
          refine ⟨_, eqS_ok (k := ((i : Nat) : Int) == ((ks.map Sl.dat).length : Int)) rfl rfl rfl, _, rfl, ?_⟩
          refine iteB (fun c1 => ?_) fun c1 => ?_
          · have c3 : ((i : Nat) : Int) = (ks.length : Nat) := by simpa using c1
            have c2 : i = ks.length := by omega
            refine ⟨_, rfl, _, sq_adr hsq, ?_⟩
            refine lc_map (w := put w p (.lst (ks.map Sl.dat))) (fun s => match s with | .dat d => .dat (.bool (isKindD j d)) | s => s) hsq _ _ (fun x hx C hC => ?_) (sq_line (by simp; omega)) ?_
            · obtain ⟨d, hd2, rfl⟩ := List.mem_map.mp hx
              refine ⟨_, rfl, _, rfl, _, liftI_ok rfl, ?_⟩
              refine ⟨d, m - 1, k, rfl, by omega, hd d (List.mem_cons_of_mem _ hd2), hk, ?_⟩
              have : (m - 1).toNat = j := by omega
              rw [this]
              exact hC
            · intro p2 hp2
              refine ⟨_, allS_ok (bs := ks.map (isKindD j)) (sqL_adr (put_same.trans ?_)), w, hw.trans (Sub.new hp2), ?_⟩
              · simp
              · have : (true && ks.all (isKindD j)) = isKindD (j + 1) (.tuple (.str z :: ks)) := by
                  unfold isKindD; rw [hz2, c2]; simp
                rw [all_map, ← Bool.true_and (ks.all _), this]
                exact q
          · refine fin false ?_
            have c3 : ¬ ((i : Nat) : Int) = (ks.length : Nat) := by simpa using c1
            have c2 : ¬ i = ks.length := by omega
            unfold isKindD; rw [hz2]; simp [c2]
      | none => walk_at "rr"; exact no rfl
      | bool _ => walk_at "rr"; exact no rfl
      | int _ => walk_at "rr"; exact no rfl
      | list _ => walk_at "rr"; exact no rfl
      | tuple _ => walk_at "rr"; exact no rfl
      | dict _ => walk_at "rr"; exact no rfl
  | none => walk_at "rr"; exact no rfl
  | bool _ => walk_at "rr"; exact no rfl
  | int _ => walk_at "rr"; exact no rfl
  | str _ => walk_at "rr"; exact no rfl
  | list _ => walk_at "rr"; exact no rfl
  | dict _ => walk_at "rr"; exact no rfl
end G

set_option Elab.async false
set_option linter.all false
set_option maxRecDepth 100000
set_option maxHeartbeats 4000000
namespace G
open PySem PySem.Spec PyProof.Rows L2 DL
abbrev cp (x : Str) : List Nat := x.cps.toList
/-- a kind, at most n deep, and its text -/
inductive Kd : Nat → PyData → List Nat → Prop
  | pl {n : Nat} {z : Str} (h : z = "names" ∨ z = "most" ∨ z = "last") : Kd (n + 1) (.tuple [.str z]) (cp z)
  | ea {n : Nat} {k : PyData} {t : List Nat} (h : Kd n k t) : Kd (n + 1) (.tuple [.str "each", k]) (cp "each " ++ t)
  | bo {n : Nat} {k l : PyData} {t u : List Nat} (h : Kd n k t) (h' : Kd n l u) : Kd (n + 1) (.tuple [.str "both", k, l]) (cp "both(" ++ (t ++ (cp ", " ++ (u ++ cp ")"))))
theorem Kd.mono {n m : Nat} {d : PyData} {t : List Nat} (h : Kd n d t) (hm : n ≤ m) : Kd m d t := by
  induction h generalizing m with
  | pl h => obtain ⟨m', rfl⟩ : ∃ m', m = m' + 1 := ⟨m - 1, by omega⟩; exact .pl h
  | ea _ ih => obtain ⟨m', rfl⟩ : ∃ m', m = m' + 1 := ⟨m - 1, by omega⟩; exact .ea (ih (by omega))
  | bo _ _ ih ih' => obtain ⟨m', rfl⟩ : ∃ m', m = m' + 1 := ⟨m - 1, by omega⟩; exact .bo (ih (by omega)) (ih' (by omega))
theorem Kd.len {n : Nat} {d : PyData} {t : List Nat} (h : Kd n d t) : t.length + 8 ≤ 8 * 2 ^ n := by
  induction h with
  | @pl n z h =>
    have : 1 ≤ 2 ^ n := Nat.one_le_two_pow
    have : (cp z).length ≤ 5 := by rcases h with rfl | rfl | rfl <;> decide
    rw [Nat.pow_succ]; omega
  | @ea n _ _ _ ih =>
    have e : (cp "each ").length = 5 := by decide
    rw [Nat.pow_succ, List.length_append, e]
    have : 1 ≤ 2 ^ n := Nat.one_le_two_pow
    omega
  | bo _ _ ih ih' =>
    have e : (cp "both(").length = 5 := by decide
    have e2 : (cp ", ").length = 2 := by decide
    have e3 : (cp ")").length = 1 := by decide
    rw [Nat.pow_succ]
    simp only [List.length_append, e, e2, e3]
    omega
theorem Kd.sz {n : Nat} {d : PyData} {t : List Nat} (h : Kd n d t) : szB 0 d = true := by
  induction h with
  | @pl n z h => exact tup_sz (by simp) fun e he => by rw [List.mem_singleton] at he; rw [he, sz_str]; rcases h with rfl | rfl | rfl <;> decide
  | ea _ ih =>
    refine tup_sz (by simp) fun e he => ?_
    simp only [List.mem_cons, List.not_mem_nil, or_false] at he
    rcases he with rfl | rfl
    · decide
    · exact ih
  | bo _ _ ih ih' =>
    refine tup_sz (by simp) fun e he => ?_
    simp only [List.mem_cons, List.not_mem_nil, or_false] at he
    rcases he with rfl | rfl | rfl
    · decide
    · exact ih
    · exact ih'
theorem Kd.is {n : Nat} {d : PyData} {t : List Nat} (h : Kd n d t) : isKindD n d = true := by
  induction h with
  | @pl n z h => unfold isKindD; rcases h with rfl | rfl | rfl <;> rfl
  | ea _ ih => unfold isKindD; simp only [List.all_cons, List.all_nil, ih, List.length_cons, List.length_nil]; decide
  | bo _ _ ih ih' => unfold isKindD; simp only [List.all_cons, List.all_nil, ih, ih', List.length_cons, List.length_nil]; decide
/-! ### the texts tell the kinds -/
def isL (c : Nat) : Bool := decide (c ∈ cp "abcdefghijklmnopqrstuvwxyz")
/-- what stands behind a kind -/
def Stop (r : List Nat) : Prop := r = [] ∨ ∃ c s, r = c :: s ∧ isL c = false
theorem run_of_word {z r : List Nat} (hz : ∀ c ∈ z, isL c = true) (hr : Stop r) : (z ++ r).takeWhile isL = z := by
  induction z with
  | nil =>
    rcases hr with rfl | ⟨c, s, rfl, hc⟩
    · rfl
    · simp [List.takeWhile, hc]
  | cons c z ih =>
    rw [List.cons_append, List.takeWhile_cons_of_pos (hz c List.mem_cons_self), ih fun e he => hz e (List.mem_cons_of_mem _ he)]
theorem plain_L {z : Str} (h : z = "names" ∨ z = "most" ∨ z = "last") : ∀ c ∈ cp z, isL c = true := by
  rcases h with rfl | rfl | rfl <;> decide
theorem each_L : ∀ c ∈ cp "each", isL c = true := by decide
theorem both_L : ∀ c ∈ cp "both", isL c = true := by decide
theorem each_sp (t : List Nat) : cp "each " ++ t = cp "each" ++ (32 :: t) := by
  have : cp "each " = cp "each" ++ [32] := by decide
  rw [this, List.append_assoc]; rfl
theorem both_br (t : List Nat) : cp "both(" ++ t = cp "both" ++ (40 :: t) := by
  have : cp "both(" = cp "both" ++ [40] := by decide
  rw [this, List.append_assoc]; rfl
theorem stop_sp (t : List Nat) : Stop (32 :: t) := .inr ⟨32, t, rfl, by decide⟩
theorem stop_br (t : List Nat) : Stop (40 :: t) := .inr ⟨40, t, rfl, by decide⟩
theorem stop_co (t : List Nat) : Stop (cp ", " ++ t) := by
  have : cp ", " = [44, 32] := by decide
  exact .inr ⟨44, 32 :: t, by rw [this]; rfl, by decide⟩
theorem stop_cl (t : List Nat) : Stop (cp ")" ++ t) := by
  have : cp ")" = [41] := by decide
  exact .inr ⟨41, t, by rw [this]; rfl, by decide⟩
/-- the first word of a kind's text -/
def wd : PyData → Str
  | .tuple (.str z :: _) => z
  | _ => ""
theorem Kd.word {n : Nat} {d : PyData} {t r : List Nat} (h : Kd n d t) (hr : Stop r) : (t ++ r).takeWhile isL = cp (wd d) := by
  cases h with
  | pl h => exact run_of_word (plain_L h) hr
  | ea h => rw [List.append_assoc, each_sp]; exact run_of_word each_L (stop_sp _)
  | bo h h' => rw [List.append_assoc, both_br]; exact run_of_word both_L (stop_br _)
theorem cp_inj {x y : Str} (h : cp x = cp y) : x = y := by
  obtain ⟨⟨a⟩⟩ := x
  obtain ⟨⟨b⟩⟩ := y
  have : a = b := h
  rw [this]
theorem Kd.inj {n : Nat} {d : PyData} {t : List Nat} (h : Kd n d t) : ∀ {m : Nat} {d' : PyData} {t' r r' : List Nat}, Kd m d' t' → Stop r → Stop r' → t ++ r = t' ++ r' → d = d' ∧ t = t' := by
  induction h with
  | @pl n z h =>
    intro m d' t' r r' h' hr hr' e
    have w : cp z = cp (wd d') := by rw [← h'.word hr', ← e]; exact ((Kd.pl (n := n) h).word hr).symm
    have w := cp_inj w
    cases h' with
    | pl h2 => cases w; exact ⟨rfl, rfl⟩
    | ea h2 => have w' : z = "each" := w; subst w'; rcases h with h | h | h <;> exact absurd h (by decide)
    | bo h2 h3 => have w' : z = "both" := w; subst w'; rcases h with h | h | h <;> exact absurd h (by decide)
  | @ea n k t h ih =>
    intro m d' t' r r' h' hr hr' e
    have w : cp "each" = cp (wd d') := by rw [← h'.word hr', ← e]; exact ((Kd.ea h).word hr).symm
    have w := cp_inj w
    cases h' with
    | @pl _ z h2 => have w' : Str.ofString "each" = z := w; subst w'; rcases h2 with h | h | h <;> exact absurd h (by decide)
    | ea h2 =>
      rw [List.append_assoc, List.append_assoc] at e
      obtain ⟨e1, e2⟩ := ih h2 hr hr' (List.append_cancel_left e)
      exact ⟨by rw [e1], by rw [e2]⟩
    | bo h2 h3 => exact absurd (show Str.ofString "each" = Str.ofString "both" from w) (by decide)
  | @bo n k l t u h h0 ih ih0 =>
    intro m d' t' r r' h' hr hr' e
    have w : cp "both" = cp (wd d') := by rw [← h'.word hr', ← e]; exact ((Kd.bo h h0).word hr).symm
    have w := cp_inj w
    cases h' with
    | @pl _ z h2 => have w' : Str.ofString "both" = z := w; subst w'; rcases h2 with h | h | h <;> exact absurd h (by decide)
    | ea h2 => exact absurd (show Str.ofString "both" = Str.ofString "each" from w) (by decide)
    | bo h2 h3 =>
      simp only [List.append_assoc] at e
      have e := List.append_cancel_left e
      obtain ⟨e1, e2⟩ := ih h2 (stop_co _) (stop_co _) e
      subst e1 e2
      have e := List.append_cancel_left (List.append_cancel_left e)
      obtain ⟨e3, e4⟩ := ih0 h3 (stop_cl _) (stop_cl _) e
      exact ⟨by rw [e3], by rw [e4]⟩
theorem Kd.one {n m : Nat} {d d' : PyData} {t : List Nat} (h : Kd n d t) (h' : Kd m d' t) : d = d' := (h.inj h' (.inl rfl) (.inl rfl) rfl).1
theorem Kd.fn {n m : Nat} {d : PyData} {t t' : List Nat} (h : Kd n d t) (h' : Kd m d t') : t = t' := by
  induction h generalizing m t' with
  | pl h => cases h' with
    | pl h2 => rfl
  | ea h ih => cases h' with
    | ea h2 => rw [ih h2]
  | bo h h0 ih ih0 => cases h' with
    | bo h2 h3 => rw [ih h2, ih0 h3]
end G

set_option Elab.async false
set_option linter.all false
set_option maxRecDepth 100000
set_option maxHeartbeats 4000000
namespace G
open PySem PySem.Spec PyProof.Rows L2 DL
abbrev tx (t : List Nat) : Str := ⟨t.toArray⟩
theorem tx_cp (z : Str) : tx (cp z) = z := cp_inj rfl
theorem tx_len (t : List Nat) : (tx t).length = t.length := by simp [tx, Str.length]
theorem len_cp (z : Str) : z.length = (cp z).length := by simp [cp, Str.length]
theorem tx_app (t u : List Nat) : tx t ++ tx u = tx (t ++ u) := by
  apply cp_inj
  show ((tx t ++ tx u).cps).toList = _
  simp [Str.cps_append]
def srcF (z : Str) (i : Nat) : List (Str × Sl) := [("signs", .dat (.str z)), ("spot", .dat (.int (i : Nat)))]
def srcO (cS : Addr) (z : Str) (i : Nat) : OO := .ins cS (srcF z i)
theorem sp_ne : (("spot" : Str) == ("signs" : Str)) = false := by decide
theorem ss_ne : ¬ (("signs" : Str) = "spot") := by decide
theorem src_signs (z : Str) (i : Nat) : (srcF z i).lookup ("signs" : Str) = some (Sl.dat (.str z)) := by
  show List.lookup ("signs" : Str) ((("signs" : Str), Sl.dat (.str z)) :: _) = _
  simp [List.lookup]
theorem src_spot (z : Str) (i : Nat) : (srcF z i).lookup ("spot" : Str) = some (Sl.dat (.int (i : Nat))) := by
  show List.lookup ("spot" : Str) ((("signs" : Str), Sl.dat (.str z)) :: [(("spot" : Str), Sl.dat (.int (i : Nat)))]) = _
  rw [List.lookup, sp_ne]
  simp [List.lookup]
theorem src_no {z : Str} {i : Nat} {m : Str} (h1 : (m == ("signs" : Str)) = false) (h2 : (m == ("spot" : Str)) = false) : (srcF z i).lookup m = none := by
  show List.lookup m ((("signs" : Str), Sl.dat (.str z)) :: [(("spot" : Str), Sl.dat (.int (i : Nat)))]) = _
  rw [List.lookup, h1]
  show List.lookup m [(("spot" : Str), Sl.dat (.int (i : Nat)))] = _
  rw [List.lookup, h2]
  rfl
theorem src_put (z : Str) (i : Nat) (s : Int) {j : Nat} (h : s = (j : Nat)) : putS "spot" (.dat (.int s)) (srcF z i) = srcF z j := by
  subst h
  show (if (("signs" : Str) = "spot") then _ else (("signs" : Str), Sl.dat (.str z)) :: putS "spot" (.dat (.int (j : Nat))) [(("spot" : Str), Sl.dat (.int (i : Nat)))]) = _
  rw [if_neg ss_ne]
  show _ :: (if (("spot" : Str) = "spot") then _ else _) = _
  rw [if_pos rfl]
  rfl
theorem src_first (z : Str) : putS "spot" (.dat (.int 0)) (putS "signs" (.dat (.str z)) []) = srcF z 0 := by
  show (if (("signs" : Str) = "spot") then _ else (("signs" : Str), Sl.dat (.str z)) :: putS "spot" (.dat (.int 0)) []) = _
  rw [if_neg ss_ne]
  rfl
def c_Source_comes_next (cS : Addr) : Ct := fun ss w R => ∃ x z y i, ss = [.adr x, .dat (.str y)] ∧ w x = some (srcO cS z i) ∧ R (.dat (.bool (Txt.startswith3 z y i))) w
def c_Source_run_of (cS : Addr) : Ct := fun ss w R => ∃ x z al pre run rest, ss = [.adr x, .dat (.str al)] ∧ w x = some (srcO cS z pre.length) ∧ cp z = pre ++ (run ++ rest) ∧ z.length ≤ sizeLine ∧ (∀ c ∈ run, c ∈ cp al) ∧ (rest = [] ∨ ∃ c s, rest = c :: s ∧ ¬ c ∈ cp al) ∧ R (.dat (.str (tx run))) (put w x (srcO cS z (pre.length + run.length)))
def c_Source_at_end (cS : Addr) : Ct := fun ss w R => ∃ x z i, ss = [.adr x] ∧ w x = some (srcO cS z i) ∧ z.length ≤ sizeLine ∧ R (.dat (.bool (((i : Nat) : Int) == ((z.length : Nat) : Int)))) w
def c_law_shown_kind (n : Nat) : Ct := fun ss w R => ∃ d t, ss = [.dat d] ∧ Kd n d t ∧ n ≤ 8 ∧ R (.dat (.str (tx t))) w
def kc : Nat → Nat
  | 0 => 2
  | n + 1 => 1 + 2 * kc n
theorem kc_pos : ∀ n, 2 ≤ kc n
  | 0 => by decide
  | n + 1 => by unfold kc; have := kc_pos n; omega
def c_law_kind (n : Nat) : Ct := fun ss w R => ∃ (b : Addr) (m c : Nat) (w0 : Om), ss = [.adr b, .dat (.int ((m : Nat) : Int))] ∧ Bg b c w0 w ∧ 1 ≤ m ∧ m ≤ n + 1 ∧ c + kc n < 2 ^ 60 ∧ ∀ d t w', Kd m d t → Bg b (c + kc n) w0 w' → R (.dat d) w'
theorem len_Source_comes_next {cS ss w R} (h : c_Source_comes_next cS ss w R) : ss.length = 2 := by obtain ⟨_, _, _, _, rfl, _⟩ := h; rfl
theorem len_Source_run_of {cS ss w R} (h : c_Source_run_of cS ss w R) : ss.length = 2 := by obtain ⟨_, _, _, _, _, _, rfl, _⟩ := h; rfl
theorem len_Source_at_end {cS ss w R} (h : c_Source_at_end cS ss w R) : ss.length = 1 := by obtain ⟨_, _, _, rfl, _⟩ := h; rfl
theorem len_law_shown_kind {n ss w R} (h : c_law_shown_kind n ss w R) : ss.length = 1 := by obtain ⟨_, _, rfl, _⟩ := h; rfl
theorem len_law_kind {n ss w R} (h : c_law_kind n ss w R) : ss.length = 2 := by obtain ⟨_, _, _, _, rfl, _⟩ := h; rfl
theorem len_law {ss w R} (h : cLaw ss w R) : ss.length = 1 := by obtain ⟨_, rfl, _⟩ := h; rfl
def N_Source_comes_next : List Str := ["self", "sign"]
def t_Source_comes_next (cS : Addr) : DTS :=
  (dRet (dTM sw3S (dFld cS "signs" (dVar 0)) (dCons (dVar 1) (dCons (dFld cS "spot" (dVar 0)) dNil))))
def N_Source_run_of : List Str := ["self", "signs", "first"]
def t_Source_run_of (cS : Addr) : DTS :=
  (dSeq (dAsg (dFld cS "spot" (dVar 0)) (dName 2))
  (dSeq (dWhile (dAnd (dTst (dOp ltS (dFld cS "spot" (dVar 0)) (dCB lenS (dCons (dFld cS "signs" (dVar 0)) dNil)))) (dTst (dOp (inS false) (dOp ixS (dFld cS "signs" (dVar 0)) (dFld cS "spot" (dVar 0))) (dVar 1)))) (dAddF cS "spot" (dVar 0) (dC (.int 1))))
  (dRet (dSl (dFld cS "signs" (dVar 0)) (dPart (dVar 2)) (dPart (dFld cS "spot" (dVar 0)))))))
def N_Source_at_end : List Str := ["self"]
def t_Source_at_end (cS : Addr) : DTS :=
  (dRet (dOp (eqS false) (dFld cS "spot" (dVar 0)) (dCB lenS (dCons (dFld cS "signs" (dVar 0)) dNil))))
def N_law_kind : List Str := ["bag", "deep", "pick"]
def t_law_kind (cr : Ct) : DTS :=
  (dSeq (dAsg (dCall c_law_draw [] (dCons (dVar 0) (dCons (dC (.int 9)) dNil))) (dName 2))
  (dSeq (dIfS (dOr (dTst (dOp ltS (dVar 2) (dC (.int 4)))) (dTst (dOp ltS (dVar 1) (dC (.int 2))))) (dRet (dFz (dOp ixS (dFz (dLstD (dDats (dTup (dDats (dC (.str "names")) dNilD)) (dDats (dTup (dDats (dC (.str "most")) dNilD)) (dDats (dTup (dDats (dC (.str "last")) dNilD)) dNilD))))) (dCall c_law_draw [] (dCons (dVar 0) (dCons (dC (.int 3)) dNil)))))) dNext)
  (dSeq (dIfS (dTst (dOp ltS (dVar 2) (dC (.int 7)))) (dRet (dFz (dTup (dDats (dC (.str "each")) (dDats (dCall cr [] (dCons (dVar 0) (dCons (dOp gSub (dVar 1) (dC (.int 1))) dNil))) dNilD))))) dNext)
  (dRet (dFz (dTup (dDats (dC (.str "both")) (dDats (dCall cr [] (dCons (dVar 0) (dCons (dOp gSub (dVar 1) (dC (.int 1))) dNil))) (dDats (dCall cr [] (dCons (dVar 0) (dCons (dOp gSub (dVar 1) (dC (.int 1))) dNil))) dNilD)))))))))
def N_law_shown_kind : List Str := ["kind"]
def t_law_shown_kind (cr : Ct) : DTS :=
  (dSeq (dIfS (dTst (dOp (eqS false) (dOp ixS (dVar 0) (dC (.int 0))) (dC (.str "each")))) (dRet (dOp addS (dC (.str "each ")) (dCall cr [] (dCons (dOp ixS (dVar 0) (dC (.int 1))) dNil)))) dNext)
  (dSeq (dIfS (dTst (dOp (eqS false) (dOp ixS (dVar 0) (dC (.int 0))) (dC (.str "both")))) (dRet (dOp addS (dOp addS (dOp addS (dOp addS (dC (.str "both(")) (dCall cr [] (dCons (dOp ixS (dVar 0) (dC (.int 1))) dNil))) (dC (.str ", "))) (dCall cr [] (dCons (dOp ixS (dVar 0) (dC (.int 2))) dNil))) (dC (.str ")")))) dNext)
  (dRet (dOp ixS (dVar 0) (dC (.int 0))))))
theorem and_split {ta tb : DTT} {ρ : DEnv} {w : Om} {R : Bool → Om → Prop} (k1 k2 : Bool) (h1 : ∀ C : Bool → Om → Prop, C k1 w → ta ρ w C) (h2 : k1 = true → ∀ C : Bool → Om → Prop, C k2 w → tb ρ w C) (h : R (k1 && k2) w) : dAnd ta tb ρ w R := by
  refine h1 _ ?_
  cases k1 with
  | false => exact iteF h
  | true => exact iteT (h2 rfl _ h)
theorem seq_and {ta tb : DTT} {ρ : DEnv} {w : Om} {a b r : DTS} {E : DEnds} (k1 k2 : Bool) (h1 : ∀ C : Bool → Om → Prop, C k1 w → ta ρ w C) (h2 : k1 = true → ∀ C : Bool → Om → Prop, C k2 w → tb ρ w C) (hT : k1 = true → k2 = true → a { E with nx := r E } ρ w) (hF : (k1 && k2) = false → b { E with nx := r E } ρ w) : dSeq (dIfS (dAnd ta tb) a b) r E ρ w := by
  refine and_split (R := fun k w1 => if k = true then a { E with nx := r E } ρ w1 else b { E with nx := r E } ρ w1) k1 k2 h1 h2 ?_
  cases h : k1 && k2 with
  | false => exact iteF (hF h)
  | true => rw [Bool.and_eq_true] at h; exact iteT (hT h.1 h.2)
local macro_rules | `(tactic| walk_at "rr") => `(tactic| repeat (first | refine ⟨_, rfl, ?_⟩ | refine ⟨_, _, _, rfl, (by assumption), src_signs _ _, ?_⟩ | refine ⟨_, _, _, rfl, (by assumption), src_spot _ _, ?_⟩ | refine iteT ?_ | refine iteF ?_ | fail "stop"))
theorem slT {w : Om} {z : Str} {lo hi : Option Int} (h : z.length ≤ sizeLine) : slS w (.dat (.str z)) lo hi = some (.v (.dat (.str (cutS z lo hi)))) := by
  show (if z.length ≤ sizeLine then some (Ou.v (.dat (.str (cutS z lo hi)))) else none) = _
  rw [if_pos h]
theorem rd_Source_comes_next {cS ss w R} (h : c_Source_comes_next cS ss w R) : t_Source_comes_next cS (endsN R) (startD N_Source_comes_next ss) w := by
  obtain ⟨x, z, y, i, rfl, hw, q⟩ := h
  walk_at "rr"
  exact ⟨_, Sub.refl _, q⟩
theorem rd_Source_at_end {cS ss w R} (h : c_Source_at_end cS ss w R) : t_Source_at_end cS (endsN R) (startD N_Source_at_end ss) w := by
  obtain ⟨x, z, i, rfl, hw, hl, q⟩ := h
  walk_at "rr"
  refine ⟨_, lenS_str hl, ?_⟩
  walk_at "rr"
  refine ⟨_, Sub.refl _, ?_⟩
  rw [Bool.bne_false]
  exact q
theorem rd_Source_run_of {cS ss w R} (h : c_Source_run_of cS ss w R) : t_Source_run_of cS (endsN R) (startD N_Source_run_of ss) w := by
  obtain ⟨x, z, al, pre, run, rest, rfl, hw, hz, hl, hin, hout, q⟩ := h
  have zl : z.length = pre.length + (run.length + rest.length) := by rw [len_cp, hz]; simp
  walk_at "rr"
  refine ⟨fun m ρ w' => ∃ k, k ≤ run.length ∧ m = run.length - k ∧ ρ = [some (.adr x), some (.dat (.str al)), some (.dat (.int (pre.length : Nat)))] ∧ w' = put w x (srcO cS z (pre.length + k)), ⟨run.length, 0, Nat.zero_le _, rfl, rfl, ?_⟩, ?_⟩
  · rw [Nat.add_zero]; exact (put_get hw).symm
  rintro m ρ w' ⟨k, hk, rfl, rfl, rfl⟩
  have hw' : put w x (srcO cS z (pre.length + k)) x = some (srcO cS z (pre.length + k)) := put_same
  have body : ∀ {k2 : Bool}, k2 = decide (k < run.length) → (if k2 = true then dAddF cS "spot" (dVar 0) (dC (.int 1)) { nx := fun ρ' w' => ∃ m', m' < run.length - k ∧ ∃ k', k' ≤ run.length ∧ m' = run.length - k' ∧ ρ' = [some (.adr x), some (.dat (.str al)), some (.dat (.int (pre.length : Nat)))] ∧ w' = put w x (srcO cS z (pre.length + k')), rt := (endsN R).rt, bk := dRet (dSl (dFld cS "signs" (dVar 0)) (dPart (dVar 2)) (dPart (dFld cS "spot" (dVar 0)))) (endsN R), ct := fun ρ' w' => ∃ m', m' < run.length - k ∧ ∃ k', k' ≤ run.length ∧ m' = run.length - k' ∧ ρ' = [some (.adr x), some (.dat (.str al)), some (.dat (.int (pre.length : Nat)))] ∧ w' = put w x (srcO cS z (pre.length + k')) } [some (.adr x), some (.dat (.str al)), some (.dat (.int (pre.length : Nat)))] (put w x (srcO cS z (pre.length + k)))
      else dRet (dSl (dFld cS "signs" (dVar 0)) (dPart (dVar 2)) (dPart (dFld cS "spot" (dVar 0)))) (endsN R) [some (.adr x), some (.dat (.str al)), some (.dat (.int (pre.length : Nat)))] (put w x (srcO cS z (pre.length + k)))) := fun e => by
    rw [e]
    refine iteD (fun c => ?_) fun c => ?_
    · walk_at "rr"
      refine ⟨_, _, rfl, hw', by show 2 < 1000; decide, ?_⟩
      rw [src_put z _ _ (j := pre.length + (k + 1)) (by omega)]
      exact ⟨run.length - (k + 1), by omega, k + 1, by omega, rfl, rfl, put_put⟩
    · have : k = run.length := by omega
      subst this
      walk_at "rr"
      refine ⟨_, slT hl, _, Sub.refl _, ?_⟩
      have ec : cutS z (some ((pre.length : Nat) : Int)) (some ((pre.length + run.length : Nat) : Int)) = tx run := by
        unfold cutS
        rw [HT.sIx_nat, HT.sIx_nat, Nat.min_eq_left (by omega), Nat.min_eq_left (by omega)]
        show tx (((cp z).drop pre.length).take (pre.length + run.length - pre.length)) = _
        rw [hz, List.drop_left, Nat.add_sub_cancel_left, List.take_left]
      rw [ec]
      exact q
  refine and_split (decide (pre.length + k < z.length)) (decide (k < run.length)) (fun C hC => ?_) (fun h1 C hC => ?_) ?_
  · walk_at "rr"
    refine ⟨_, lenS_str hl, ?_⟩
    walk_at "rr"
    have : decide (((pre.length + k : Nat) : Int) < ((z.length : Nat) : Int)) = decide (pre.length + k < z.length) := by
      rw [decide_eq_decide]; omega
    show C (decide (((pre.length + k : Nat) : Int) < ((z.length : Nat) : Int))) _
    rw [this]; exact hC
  · have h1 := of_decide_eq_true h1
    walk_at "rr"
    obtain ⟨c, hc⟩ : ∃ c, (cp z)[pre.length + k]? = some c := ⟨_, List.getElem?_eq_getElem (by rw [← len_cp]; exact h1)⟩
    refine ⟨_, ixS_str hl (atI_nat hc), ?_⟩
    walk_at "rr"
    have : decide (c ∈ cp al) = decide (k < run.length) := by
      rw [hz, List.getElem?_append_right (by omega), Nat.add_sub_cancel_left] at hc
      by_cases hk2 : k < run.length
      · rw [List.getElem?_append_left hk2] at hc
        rw [decide_eq_true hk2, decide_eq_true (hin c (List.mem_of_getElem? hc))]
      · rw [List.getElem?_append_right (by omega), show k - run.length = 0 by omega] at hc
        rcases hout with rfl | ⟨c', s, rfl, hc'⟩
        · cases hc
        · simp at hc
          subst hc
          rw [decide_eq_false hk2, decide_eq_false hc']
    rw [this]; exact hC
  · refine body ?_
    by_cases hk2 : k < run.length
    · rw [decide_eq_true hk2, decide_eq_true (show pre.length + k < z.length by omega)]; rfl
    · rw [decide_eq_false hk2, Bool.and_false]
theorem seq_andN {ta tb : DTT} {ρ : DEnv} {w : Om} {a r : DTS} {E : DEnds} (k1 k2 : Bool) (h1 : ∀ C : Bool → Om → Prop, C k1 w → ta ρ w C) (h2 : k1 = true → ∀ C : Bool → Om → Prop, C k2 w → tb ρ w C) (hT : k1 = true → k2 = true → a { E with nx := r E } ρ w) (hF : (k1 && k2) = false → r E ρ w) : dSeq (dIfS (dAnd ta tb) a dNext) r E ρ w :=
  seq_and k1 k2 h1 h2 hT hF
theorem in3N {w : Om} {z a b c : Str} : inS true w (.dat (.str z)) (.dat (.tuple [.str a, .str b, .str c])) = some (.v (.dat (.bool (!(a == z || (b == z || (c == z || false))))))) := rfl
theorem each_ne (z : Str) (h : z = "names" ∨ z = "most" ∨ z = "last") : (z == "each") = false ∧ (z == "both") = false := by rcases h with rfl | rfl | rfl <;> exact ⟨by decide, by decide⟩
theorem frzL {ds : List PyData} {w : Om} {k : PyData → Om → Prop} (hl : ds.length ≤ sizeLine) (h : k (.list ds) w) : ds.length ≤ sizeLine ∧ ∀ p, w p = none → frz (.adr p) (put w p (.lst (ds.map .dat))) k :=
  ⟨hl, fun p hp => ⟨ds, put_same, by rw [del_put hp]; exact h⟩⟩
theorem atI_mem {α : Type} {xs : List α} {r : Int} (h0 : 0 ≤ r) (h1 : r < xs.length) : ∃ d, d ∈ xs ∧ atI xs r = some d := by
  obtain ⟨k, rfl⟩ := Int.eq_ofNat_of_zero_le h0
  have hk : k < xs.length := by omega
  exact ⟨xs[k], List.getElem_mem hk, atI_lt hk⟩
theorem addT {w : Om} {a b : Str} (h : a.length + b.length ≤ sizeLine) : addS w (.dat (.str a)) (.dat (.str b)) = some (.v (.dat (.str (a ++ b)))) := by
  show (if a.length + b.length ≤ sizeLine then some (Ou.v (.dat (.str (a ++ b)))) else none) = _
  rw [if_pos h]
local macro_rules | `(tactic| walk_at "rr") => `(tactic| repeat (first | refine ⟨_, ix_t0, ?_⟩ | refine ⟨_, ix_t1, ?_⟩ | refine ⟨_, ix_t2, ?_⟩ | refine ⟨_, rfl, ?_⟩ | refine ⟨_, _, rfl, rfl, ?_⟩ | refine frzL (sq_line (by simp)) ?_ | refine iteT ?_ | refine iteF ?_ | refine And.intro (sq_line (by simp)) ?_ | fail "stop"))
theorem cp_app (a b : Str) : cp (a ++ b) = cp a ++ cp b := by
  show ((a ++ b).cps).toList = _
  simp [Str.cps_append]
theorem ap_tx (a : Str) (t : List Nat) : a ++ tx t = tx (cp a ++ t) := by
  apply cp_inj
  rw [cp_app]
theorem empty_ap (a : Str) : Str.empty ++ a = a := by
  apply cp_inj
  rw [cp_app]
  rfl
theorem Kd.short {n : Nat} {d : PyData} {t : List Nat} (h : Kd n d t) (hn : n ≤ 8) : t.length ≤ 2040 := by
  have := h.len
  have h2 : 2 ^ n ≤ 2 ^ 8 := Nat.pow_le_pow_right (by decide) hn
  omega
theorem line_val : sizeLine = 16777216 := by decide
theorem rd_law_shown_kind (n : Nat) {ss w R} (h : c_law_shown_kind n ss w R) : t_law_shown_kind (prev c_law_shown_kind n) (endsN R) (startD N_law_shown_kind ss) w := by
  obtain ⟨d, t, rfl, hk, hn, q⟩ := h
  have lv := line_val
  cases hk with
  | @pl n z h =>
    obtain ⟨h1, h2⟩ := each_ne z h
    walk_at "rr"
    rw [h1]
    walk_at "rr"
    rw [h2]
    walk_at "rr"
    refine ⟨w, Sub.refl _, ?_⟩
    rw [← tx_cp z]
    exact q
  | @ea n k t' h =>
    have hs := h.short (by omega)
    have e1 := tx_len t'
    walk_at "rr"
    refine ⟨k, t', rfl, h, by omega, ?_⟩
    refine ⟨_, addT (by have : (Str.ofString "each ").length = 5 := by decide
                        omega), w, Sub.refl _, ?_⟩
    rw [ap_tx]
    exact q
  | @bo n k l t' u' h h' =>
    have hs := h.short (by omega)
    have e1 := tx_len t'
    have hs' := h'.short (by omega)
    have e2 := tx_len u'
    have l1 : (Str.ofString "both(").length = 5 := by decide
    have l2 : (Str.ofString ", ").length = 2 := by decide
    have l3 : (Str.ofString ")").length = 1 := by decide
    walk_at "rr"
    refine ⟨k, t', rfl, h, by omega, ?_⟩
    refine ⟨_, addT (by omega), ?_⟩
    walk_at "rr"
    refine ⟨_, addT (by rw [Str.length_append]; omega), ?_⟩
    walk_at "rr"
    refine ⟨l, u', rfl, h', by omega, ?_⟩
    refine ⟨_, addT (by rw [Str.length_append, Str.length_append]; omega), ?_⟩
    walk_at "rr"
    refine ⟨_, addT (by rw [Str.length_append, Str.length_append, Str.length_append]; omega), w, Sub.refl _, ?_⟩
    have e : Str.ofString "both(" ++ tx t' ++ Str.ofString ", " ++ tx u' ++ Str.ofString ")" = tx (cp "both(" ++ (t' ++ (cp ", " ++ (u' ++ cp ")")))) := by
      apply cp_inj
      simp only [cp_app, List.append_assoc]
    rw [e]
    exact q
theorem rd_law_kind (n : Nat) {ss w R} (h : c_law_kind n ss w R) : t_law_kind (prev c_law_kind n) (endsN R) (startD N_law_kind ss) w := by
  obtain ⟨b, m, c, w0, rfl, hB, hm1, hm, hc, q⟩ := h
  have kp := kc_pos n
  obtain ⟨m', rfl⟩ : ∃ m', m = m' + 1 := ⟨m - 1, by omega⟩
  refine ⟨_, rfl, b, 9, c, w0, rfl, hB, by decide, by decide, by omega, fun r w1 r0 r1 hB1 => ?_⟩
  walk_at "rr"
  have leaf : ∀ d, d ∈ [PyData.tuple [.str "names"], .tuple [.str "most"], .tuple [.str "last"]] → ∃ t, Kd (m' + 1) d t := fun d hd => by
    simp only [List.mem_cons, List.not_mem_nil, or_false] at hd
    rcases hd with rfl | rfl | rfl
    · exact ⟨_, .pl (.inl rfl)⟩
    · exact ⟨_, .pl (.inr (.inl rfl))⟩
    · exact ⟨_, .pl (.inr (.inr rfl))⟩
  refine iteD (fun c1 => ?_) fun c1 => ?_
  · walk_at "rr"
    refine ⟨b, 3, c + 1, w0, rfl, hB1, by decide, by decide, by omega, fun r w2 r0 r1 hB2 => ?_⟩
    obtain ⟨d, hd, hat⟩ := atI_mem (xs := [PyData.tuple [.str "names"], .tuple [.str "most"], .tuple [.str "last"]]) r0 r1
    refine ⟨_, ixS_list hat, w2, Sub.refl _, ?_⟩
    obtain ⟨t, ht⟩ := leaf d hd
    exact q d t w2 ht (hB2.mono (by omega))
  walk_at "rr"
  refine iteD (fun c2 => ?_) fun c2 => ?_
  · walk_at "rr"
    refine ⟨b, 3, c + 1, w0, rfl, hB1, by decide, by decide, by omega, fun r w2 r0 r1 hB2 => ?_⟩
    obtain ⟨d, hd, hat⟩ := atI_mem (xs := [PyData.tuple [.str "names"], .tuple [.str "most"], .tuple [.str "last"]]) r0 r1
    refine ⟨_, ixS_list hat, w2, Sub.refl _, ?_⟩
    obtain ⟨t, ht⟩ := leaf d hd
    exact q d t w2 ht (hB2.mono (by omega))
  obtain ⟨n', rfl⟩ : ∃ n', n = n' + 1 := ⟨n - 1, by omega⟩
  have kq : kc (n' + 1) = 1 + 2 * kc n' := rfl
  have em : ((m' + 1 : Nat) : Int) - 1 = ((m' : Nat) : Int) := by omega
  walk_at "rr"
  refine iteD (fun c3 => ?_) fun c3 => ?_
  · walk_at "rr"
    refine ⟨b, m', c + 1, w0, by rw [← em]; rfl, hB1, by omega, by omega, by omega, fun d t w2 hd hB2 => ?_⟩
    walk_at "rr"
    exact ⟨w2, Sub.refl _, q _ _ _ (.ea hd) (hB2.mono (by omega))⟩
  · walk_at "rr"
    refine ⟨b, m', c + 1, w0, by rw [← em]; rfl, hB1, by omega, by omega, by omega, fun d t w2 hd hB2 => ?_⟩
    walk_at "rr"
    refine ⟨b, m', c + 1 + kc n', w0, by rw [← em]; rfl, hB2, by omega, by omega, by omega, fun d' t' w3 hd' hB3 => ?_⟩
    walk_at "rr"
    exact ⟨w3, Sub.refl _, q _ _ _ (.bo hd hd') (hB3.mono (by omega))⟩
theorem Kd.eqv {n m : Nat} {d d' : PyData} {t t' : List Nat} (h : Kd n d t) (h' : Kd m d' t') : PyData.eqv d d' = true ↔ d = d' := by
  induction h generalizing m d' t' with
  | pl h => cases h' with
    | pl h2 => simp [PyData.eqv, PyData.eqvAll]
    | ea h2 => simp [PyData.eqv, PyData.eqvAll]
    | bo h2 h3 => simp [PyData.eqv, PyData.eqvAll]
  | ea h ih => cases h' with
    | pl h2 => simp [PyData.eqv, PyData.eqvAll]
    | ea h2 => simp [PyData.eqv, PyData.eqvAll, ih h2]
    | bo h2 h3 => simp [PyData.eqv, PyData.eqvAll]
  | bo h h0 ih ih0 => cases h' with
    | pl h2 => simp [PyData.eqv, PyData.eqvAll]
    | ea h2 => simp [PyData.eqv, PyData.eqvAll]
    | bo h2 h3 => simp [PyData.eqv, PyData.eqvAll, ih h2, ih0 h3]
theorem Kd.lay {n : Nat} {d : PyData} {t : List Nat} (h : Kd n d t) : d.canLay0 = true ∧ d.depth ≤ n := by
  induction h with
  | pl h => rcases h with rfl | rfl | rfl <;> exact ⟨by simp only [PyData.canLay0, PyData.canLayAll0, Bool.and_true]; decide +kernel, by simp [PyData.depth, PyData.depthAll]⟩
  | ea h ih =>
    have e : (PyData.str (Str.ofString "each")).canLay0 = true := by simp only [PyData.canLay0]; decide +kernel
    exact ⟨by simp [PyData.canLay0, PyData.canLayAll0, ih.1] at e ⊢; exact e, by simp [PyData.depth, PyData.depthAll]; exact ih.2⟩
  | bo h h' ih ih' =>
    have e : (PyData.str (Str.ofString "both")).canLay0 = true := by simp only [PyData.canLay0]; decide +kernel
    exact ⟨by simp [PyData.canLay0, PyData.canLayAll0, ih.1, ih'.1] at e ⊢; exact e, by simp only [PyData.depth, PyData.depthAll]; have := ih.2; have := ih'.2; omega⟩
theorem Kd.shaped {n : Nat} {d : PyData} {t : List Nat} (h : Kd n d t) (hn : n ≤ 60) : SeqAt.shaped d = true := by
  obtain ⟨h1, h2⟩ := h.lay
  unfold SeqAt.shaped
  rw [h1, decide_eq_true (by omega)]; rfl
theorem Kd.plainEq {n m : Nat} {d d' : PyData} {t t' : List Nat} (h : Kd n d t) (h' : Kd m d' t') (hn : n ≤ 60) (hm : m ≤ 60) : DL.plainEq d d' = some (PyData.eqv d d') := by
  have e : (SeqAt.shaped d && SeqAt.shaped d') = true := by rw [h.shaped hn, h'.shaped hm]; rfl
  have g : DL.plainEq d d' = if (SeqAt.shaped d && SeqAt.shaped d') = true then some (PyData.eqv d d') else none := by
    cases h <;> cases h' <;> rfl
  rw [g, if_pos e]
theorem irange_mem {n : Nat} {x : Sl} (h : x ∈ irange 0 n) : ∃ i : Nat, i < n ∧ x = .dat (.int (i : Nat)) := by
  unfold irange at h
  obtain ⟨i, hi, rfl⟩ := List.mem_map.mp h
  exact ⟨i, List.mem_range.mp hi, by rw [Int.zero_add]⟩
theorem irange_len {lo : Int} {n : Nat} : (irange lo n).length = n := by simp [irange]
end G

set_option Elab.async false
set_option linter.all false
set_option maxRecDepth 100000
set_option maxHeartbeats 4000000
namespace G
open PySem PySem.Spec PyProof.Rows L2 DL
/-! ### the program's reader, plainly -/
def cutP (y s : List Nat) : Option (List Nat) := if s.take y.length = y then some (s.drop y.length) else none
theorem cutP_app (y r : List Nat) : cutP y (y ++ r) = some r := by
  unfold cutP
  rw [List.take_left, if_pos rfl, List.drop_left]
theorem cutP_some {y s r : List Nat} (h : cutP y s = some r) : s = y ++ r := by
  unfold cutP at h
  by_cases c : s.take y.length = y
  · rw [if_pos c] at h
    cases h
    calc s = s.take y.length ++ s.drop y.length := (List.take_append_drop _ _).symm
      _ = y ++ s.drop y.length := by rw [c]
  · rw [if_neg c] at h; cases h
def plainW (z : List Nat) : Bool := decide (z = cp "names") || (decide (z = cp "most") || decide (z = cp "last"))
def rdK : Nat → List Nat → Option (PyData × List Nat)
  | 0, _ => none
  | n + 1, s =>
    if 1 ≤ n ∧ s.takeWhile isL = cp "each" then
      (cutP (cp " ") (s.dropWhile isL)).bind fun r1 => (rdK n r1).bind fun p => some (.tuple [.str "each", p.1], p.2)
    else if 1 ≤ n ∧ s.takeWhile isL = cp "both" then
      (cutP (cp "(") (s.dropWhile isL)).bind fun r1 => (rdK n r1).bind fun p => (cutP (cp ", ") p.2).bind fun r2 => (rdK n r2).bind fun q => (cutP (cp ")") q.2).bind fun r3 => some (.tuple [.str "both", p.1, q.1], r3)
    else if plainW (s.takeWhile isL) = true then some (.tuple [.str (tx (s.takeWhile isL))], s.dropWhile isL) else none
theorem bind_some {α β : Type} {x : Option α} {f : α → Option β} {b : β} (h : x.bind f = some b) : ∃ a, x = some a ∧ f a = some b := by
  cases x with
  | none => cases h
  | some a => exact ⟨a, rfl, h⟩
theorem plainW_iff {z : Str} : plainW (cp z) = true ↔ z = "names" ∨ z = "most" ∨ z = "last" := by
  unfold plainW
  simp only [Bool.or_eq_true, decide_eq_true_eq]
  constructor
  · rintro (h | h | h)
    · exact .inl (cp_inj h)
    · exact .inr (.inl (cp_inj h))
    · exact .inr (.inr (cp_inj h))
  · rintro (h | h | h)
    · exact .inl (by rw [h])
    · exact .inr (.inl (by rw [h]))
    · exact .inr (.inr (by rw [h]))
theorem rdK_sound : ∀ (n : Nat) {s : List Nat} {d : PyData} {r : List Nat}, rdK n s = some (d, r) → ∃ t, s = t ++ r ∧ Kd n d t := by
  intro n
  induction n with
  | zero => intro s d r h; cases h
  | succ n ih =>
    intro s d r h
    unfold rdK at h
    have hs : s = s.takeWhile isL ++ s.dropWhile isL := List.takeWhile_append_dropWhile.symm
    by_cases c1 : 1 ≤ n ∧ s.takeWhile isL = cp "each"
    · rw [if_pos c1] at h
      obtain ⟨r1, h1, h⟩ := bind_some h
      obtain ⟨⟨d', r'⟩, h2, h⟩ := bind_some h
      cases h
      obtain ⟨t, rfl, hk⟩ := ih h2
      refine ⟨_, ?_, .ea hk⟩
      rw [hs, c1.2, cutP_some h1, each_sp]
      simp only [List.append_assoc, List.cons_append]
      rfl
    rw [if_neg c1] at h
    by_cases c2 : 1 ≤ n ∧ s.takeWhile isL = cp "both"
    · rw [if_pos c2] at h
      obtain ⟨r1, h1, h⟩ := bind_some h
      obtain ⟨⟨d1, q1⟩, h2, h⟩ := bind_some h
      obtain ⟨r2, h3, h⟩ := bind_some h
      obtain ⟨⟨d2, q2⟩, h4, h⟩ := bind_some h
      obtain ⟨r3, h5, h⟩ := bind_some h
      cases h
      obtain ⟨t1, rfl, k1⟩ := ih h2
      obtain ⟨t2, rfl, k2⟩ := ih h4
      refine ⟨_, ?_, .bo k1 k2⟩
      have e3 : q1 = _ := cutP_some h3
      have e5 : q2 = _ := cutP_some h5
      rw [hs, c2.2, cutP_some h1, e3, e5, both_br]
      simp only [List.append_assoc, List.cons_append]
      rfl
    rw [if_neg c2] at h
    by_cases c3 : plainW (s.takeWhile isL) = true
    · rw [if_pos c3] at h
      cases h
      have : plainW (cp (tx (s.takeWhile isL))) = true := c3
      exact ⟨_, hs, .pl (plainW_iff.mp this)⟩
    · rw [if_neg c3] at h; cases h
theorem drop_word {z r : List Nat} (hz : ∀ c ∈ z, isL c = true) (hr : Stop r) : (z ++ r).dropWhile isL = r := by
  induction z with
  | nil =>
    rcases hr with rfl | ⟨c, s, rfl, hc⟩
    · rfl
    · simp [List.dropWhile, hc]
  | cons c z ih =>
    rw [List.cons_append, List.dropWhile_cons_of_pos (hz c List.mem_cons_self), ih fun e he => hz e (List.mem_cons_of_mem _ he)]
theorem rdK_full {n : Nat} {d : PyData} {t : List Nat} (h : Kd n d t) : ∀ {r : List Nat}, Stop r → rdK n (t ++ r) = some (d, r) := by
  induction h with
  | @pl n z h =>
    intro r hr
    obtain ⟨h1, h2⟩ := each_ne z h
    have e1 : ¬ (1 ≤ n ∧ cp z = cp "each") := fun q => by rw [cp_inj q.2] at h1; revert h1; decide
    have e2 : ¬ (1 ≤ n ∧ cp z = cp "both") := fun q => by rw [cp_inj q.2] at h2; revert h2; decide
    unfold rdK
    rw [run_of_word (plain_L h) hr, drop_word (plain_L h) hr, if_neg e1, if_neg e2, if_pos (plainW_iff.mpr h), tx_cp]
  | @ea n k t h ih =>
    intro r hr
    have n1 : 1 ≤ n := by cases h <;> omega
    unfold rdK
    rw [List.append_assoc, each_sp, run_of_word each_L (stop_sp _), drop_word each_L (stop_sp _), if_pos ⟨n1, rfl⟩]
    rw [show (32 :: (t ++ r)) = cp " " ++ (t ++ r) from rfl, cutP_app]
    show (rdK n (t ++ r)).bind _ = _
    rw [ih hr]
    rfl
  | @bo n k l t u h h' ih ih' =>
    intro r hr
    have n1 : 1 ≤ n := by cases h <;> omega
    have ne : cp "both" ≠ cp "each" := by decide
    unfold rdK
    rw [List.append_assoc, both_br, run_of_word both_L (stop_br _), drop_word both_L (stop_br _), if_neg (fun q => ne q.2), if_pos ⟨n1, rfl⟩]
    simp only [List.append_assoc]
    rw [show (40 :: (t ++ (cp ", " ++ (u ++ (cp ")" ++ r))))) = cp "(" ++ (t ++ (cp ", " ++ (u ++ (cp ")" ++ r)))) from rfl, cutP_app]
    simp only [Option.bind_some, ih (stop_co _), cutP_app, ih' (stop_cl _)]
/-! ### the law's own parts -/
def opn (c : Nat) : Int := if c ∈ cp "([{" then 1 else 0
def clo (c : Nat) : Int := if c ∈ cp ")]}" then 1 else 0
def prtGo : Option Nat → Int → List (List Nat) → List Nat → List Nat → List (List Nat)
  | _, _, i, l, [] => i ++ [l]
  | prev, dp, i, l, c :: s =>
    if dp + opn c - clo c = 0 ∧ c = 44 ∧ s.head? = some 32 then prtGo (some c) (dp + opn c - clo c) (i ++ [l]) [] s
    else if dp + opn c - clo c ≠ 0 ∨ prev = none ∨ ¬ (prev = some 44 ∧ c = 32) then prtGo (some c) (dp + opn c - clo c) i (l ++ [c]) s
    else prtGo (some c) (dp + opn c - clo c) i l s
def prt (u : List Nat) : List (List Nat) := if u = [] then [] else prtGo none 0 [] [] u
def jn : List (List Nat) → List Nat
  | [] => []
  | [l] => l
  | l :: m :: r => l ++ (44 :: 32 :: jn (m :: r))
theorem jn_snoc (l : List Nat) : ∀ (i : List (List Nat)), jn (i ++ [l] ++ [[]]) = jn (i ++ [l]) ++ [44, 32]
  | [] => by simp [jn]
  | [a] => by simp [jn]
  | a :: b :: r => by
    have := jn_snoc l (b :: r)
    simp only [List.cons_append] at this ⊢
    simp only [jn]
    rw [this]
    simp
theorem jn_last (l : List Nat) (c : Nat) : ∀ (i : List (List Nat)), jn (i ++ [l ++ [c]]) = jn (i ++ [l]) ++ [c]
  | [] => by simp [jn]
  | [a] => by simp [jn]
  | a :: b :: r => by
    have := jn_last l c (b :: r)
    simp only [List.cons_append] at this ⊢
    simp only [jn]
    rw [this]
    simp
theorem prt_join : ∀ (s : List Nat) (prev : Option Nat) (dp : Int) (i : List (List Nat)) (l : List Nat), jn (prtGo prev dp i l s) = jn (i ++ [l]) ++ (if prev = some 44 ∧ dp = 0 ∧ s.head? = some 32 then s.tail else s)
  | [], prev, dp, i, l => by
    unfold prtGo
    simp
  | c :: s, prev, dp, i, l => by
    unfold prtGo
    by_cases c1 : dp + opn c - clo c = 0 ∧ c = 44 ∧ s.head? = some 32
    · rw [if_pos c1, prt_join s, if_pos ⟨by rw [c1.2.1], c1.1, c1.2.2⟩, jn_snoc, if_neg (by rw [c1.2.1]; simp)]
      obtain ⟨_, rfl, h3⟩ := c1
      cases s with
      | nil => cases h3
      | cons a r =>
        simp at h3
        subst h3
        simp
    rw [if_neg c1]
    by_cases c2 : dp + opn c - clo c ≠ 0 ∨ prev = none ∨ ¬ (prev = some 44 ∧ c = 32)
    · rw [if_pos c2, prt_join s, jn_last]
      have n1 : ¬ (some c = some 44 ∧ dp + opn c - clo c = 0 ∧ s.head? = some 32) := fun q => c1 ⟨q.2.1, by injection q.1, q.2.2⟩
      have n2 : ¬ (prev = some 44 ∧ dp = 0 ∧ (c :: s).head? = some 32) := fun ⟨q1, q2, q3⟩ => by
        have q3 : c = 32 := by simpa using q3
        subst q3 q2 q1
        rcases c2 with h | h | h
        · exact h (by decide)
        · cases h
        · exact h ⟨rfl, rfl⟩
      rw [if_neg n1, if_neg n2]
      simp
    · rw [if_neg c2, prt_join s]
      have c3 : dp + opn c - clo c = 0 := Classical.byContradiction fun h => c2 (.inl h)
      have c4 : prev = some 44 ∧ c = 32 := Classical.byContradiction fun h => c2 (.inr (.inr h))
      obtain ⟨rfl, rfl⟩ := c4
      have dz : dp = 0 := by
        have : opn 32 = 0 := by decide
        have : clo 32 = 0 := by decide
        omega
      subst dz
      rw [if_neg (by simp), if_pos ⟨rfl, rfl, rfl⟩]
      rfl
theorem prt_jn {u : List Nat} (h : u ≠ []) : jn (prt u) = u := by
  unfold prt
  rw [if_neg h, prt_join]
  simp [jn]
theorem go_in {prev : Option Nat} {dp : Int} {i : List (List Nat)} {l s : List Nat} {c : Nat} (h : dp + opn c - clo c ≠ 0) : prtGo prev dp i l (c :: s) = prtGo (some c) (dp + opn c - clo c) i (l ++ [c]) s := by
  show (if _ then _ else _) = _
  rw [if_neg (fun q => h q.1), if_pos (.inl h)]
theorem go_w {prev : Option Nat} {dp : Int} {i : List (List Nat)} {l s : List Nat} {c : Nat} (h1 : opn c = 0) (h2 : clo c = 0) (h3 : c ≠ 44) (h4 : prev ≠ some 44 ∨ c ≠ 32) : prtGo prev dp i l (c :: s) = prtGo (some c) dp i (l ++ [c]) s := by
  have e : dp + opn c - clo c = dp := by omega
  show (if _ then _ else _) = _
  rw [if_neg (fun q => h3 q.2.1), if_pos (.inr (.inr fun q => h4.elim (fun h => h q.1) fun h => h q.2)), e]
theorem let_c {c : Nat} (h : isL c = true) : opn c = 0 ∧ clo c = 0 ∧ c ≠ 44 ∧ c ≠ 32 := by
  have h := of_decide_eq_true h
  have e : cp "abcdefghijklmnopqrstuvwxyz" = [97, 98, 99, 100, 101, 102, 103, 104, 105, 106, 107, 108, 109, 110, 111, 112, 113, 114, 115, 116, 117, 118, 119, 120, 121, 122] := by decide
  rw [e] at h
  simp only [List.mem_cons, List.not_mem_nil, or_false] at h
  rcases h with h | h | h | h | h | h | h | h | h | h | h | h | h | h | h | h | h | h | h | h | h | h | h | h | h | h <;> subst h <;> exact ⟨by decide, by decide, by decide, by decide⟩
theorem go_word : ∀ (z : List Nat), (∀ c ∈ z, isL c = true) → z ≠ [] → ∀ (prev : Option Nat) (dp : Int) (i : List (List Nat)) (l s : List Nat), ∃ p, isL p = true ∧ prtGo prev dp i l (z ++ s) = prtGo (some p) dp i (l ++ z) s
  | [], _, h, _, _, _, _, _ => absurd rfl h
  | [c], hz, _, prev, dp, i, l, s => by
    have hc := hz c List.mem_cons_self
    obtain ⟨h1, h2, h3, h4⟩ := let_c hc
    exact ⟨c, hc, go_w h1 h2 h3 (.inr h4)⟩
  | c :: b :: z, hz, _, prev, dp, i, l, s => by
    have hc := hz c List.mem_cons_self
    obtain ⟨h1, h2, h3, h4⟩ := let_c hc
    obtain ⟨p, hp, e⟩ := go_word (b :: z) (fun x hx => hz x (List.mem_cons_of_mem _ hx)) (by simp) (some c) dp i (l ++ [c]) s
    refine ⟨p, hp, ?_⟩
    have := go_w (prev := prev) (dp := dp) (i := i) (l := l) (s := (b :: z) ++ s) h1 h2 h3 (.inr h4)
    rw [show c :: b :: z ++ s = c :: ((b :: z) ++ s) from rfl, this, e]
    simp
theorem one40 : opn 40 = 1 ∧ clo 40 = 0 := by decide
theorem one41 : opn 41 = 0 ∧ clo 41 = 1 := by decide
theorem one32 : opn 32 = 0 ∧ clo 32 = 0 := by decide
theorem one44 : opn 44 = 0 ∧ clo 44 = 0 := by decide
theorem plain_ne {z : Str} (h : z = "names" ∨ z = "most" ∨ z = "last") : cp z ≠ [] := by rcases h with rfl | rfl | rfl <;> decide
theorem go_deep {n : Nat} {d : PyData} {t : List Nat} (h : Kd n d t) : ∀ (prev : Option Nat) (dp : Int) (i : List (List Nat)) (l s : List Nat), 0 < dp → ∃ p, prtGo prev dp i l (t ++ s) = prtGo (some p) dp i (l ++ t) s := by
  induction h with
  | pl h =>
    intro prev dp i l s _
    obtain ⟨p, _, e⟩ := go_word _ (plain_L h) (plain_ne h) prev dp i l s
    exact ⟨p, e⟩
  | @ea n k t h ih =>
    intro prev dp i l s hd
    obtain ⟨p, _, e⟩ := go_word (cp "each") each_L (by decide) prev dp i l (32 :: (t ++ s))
    obtain ⟨p2, e2⟩ := ih (some 32) dp i (l ++ cp "each" ++ [32]) s hd
    refine ⟨p2, ?_⟩
    rw [List.append_assoc, each_sp, e, go_in (by have := one32; omega), show dp + opn 32 - clo 32 = dp by have := one32; omega, e2, each_sp]
    simp
  | @bo n k m t u h h' ih ih' =>
    intro prev dp i l s hd
    obtain ⟨p, _, e⟩ := go_word (cp "both") both_L (by decide) prev dp i l (40 :: (t ++ (cp ", " ++ (u ++ (cp ")" ++ s)))))
    obtain ⟨p2, e2⟩ := ih (some 40) (dp + 1) i (l ++ cp "both" ++ [40]) (cp ", " ++ (u ++ (cp ")" ++ s))) (by omega)
    obtain ⟨p3, e3⟩ := ih' (some 32) (dp + 1) i (l ++ cp "both" ++ [40] ++ t ++ [44] ++ [32]) (cp ")" ++ s) (by omega)
    refine ⟨41, ?_⟩
    have c1 : cp ", " = [44, 32] := by decide
    have c2 : cp ")" = [41] := by decide
    rw [List.append_assoc, both_br]
    simp only [List.append_assoc]
    rw [e, go_in (by have := one40; omega), show dp + opn 40 - clo 40 = dp + 1 by have := one40; omega, e2, c1]
    show prtGo (some p2) (dp + 1) i (l ++ cp "both" ++ [40] ++ t) (44 :: 32 :: (u ++ (cp ")" ++ s))) = _
    rw [go_in (by have := one44; omega), show dp + 1 + opn 44 - clo 44 = dp + 1 by have := one44; omega, go_in (by have := one32; omega), show dp + 1 + opn 32 - clo 32 = dp + 1 by have := one32; omega, e3, c2]
    show prtGo (some p3) (dp + 1) i _ (41 :: s) = _
    rw [go_in (by have := one41; omega), show dp + 1 + opn 41 - clo 41 = dp by have := one41; omega, both_br]
    simp
theorem go_flat {n : Nat} {d : PyData} {t : List Nat} (h : Kd n d t) : ∀ (prev : Option Nat) (i : List (List Nat)) (l s : List Nat), prev ≠ some 44 → ∃ p, p ≠ 44 ∧ prtGo prev 0 i l (t ++ s) = prtGo (some p) 0 i (l ++ t) s := by
  induction h with
  | pl h =>
    intro prev i l s _
    obtain ⟨p, hp, e⟩ := go_word _ (plain_L h) (plain_ne h) prev 0 i l s
    exact ⟨p, (let_c hp).2.2.1, e⟩
  | @ea n k t h ih =>
    intro prev i l s _
    obtain ⟨p, hp, e⟩ := go_word (cp "each") each_L (by decide) prev 0 i l (32 :: (t ++ s))
    obtain ⟨p2, n2, e2⟩ := ih (some 32) i (l ++ cp "each" ++ [32]) s (by decide)
    refine ⟨p2, n2, ?_⟩
    rw [List.append_assoc, each_sp, e, go_w one32.1 one32.2 (by decide) (.inl fun q => (let_c hp).2.2.1 (by injection q)), e2, each_sp]
    simp
  | @bo n k m t u h h' ih ih' =>
    intro prev i l s _
    obtain ⟨p, _, e⟩ := go_word (cp "both") both_L (by decide) prev 0 i l (40 :: (t ++ (cp ", " ++ (u ++ (cp ")" ++ s)))))
    obtain ⟨p2, e2⟩ := go_deep h (some 40) 1 i (l ++ cp "both" ++ [40]) (cp ", " ++ (u ++ (cp ")" ++ s))) (by decide)
    obtain ⟨p3, e3⟩ := go_deep h' (some 32) 1 i (l ++ cp "both" ++ [40] ++ t ++ [44] ++ [32]) (cp ")" ++ s) (by decide)
    refine ⟨41, by decide, ?_⟩
    have c1 : cp ", " = [44, 32] := by decide
    have c2 : cp ")" = [41] := by decide
    rw [List.append_assoc, both_br]
    simp only [List.append_assoc]
    rw [e, go_in (by decide), show (0 : Int) + opn 40 - clo 40 = 1 by decide, e2, c1]
    show prtGo (some p2) 1 i (l ++ cp "both" ++ [40] ++ t) (44 :: 32 :: (u ++ (cp ")" ++ s))) = _
    rw [go_in (by decide), show (1 : Int) + opn 44 - clo 44 = 1 by decide, go_in (by decide), show (1 : Int) + opn 32 - clo 32 = 1 by decide, e3, c2]
    have e4 : ∀ L, prtGo (some p3) 1 i L (41 :: s) = prtGo (some 41) 0 i (L ++ [41]) s := fun L => by
      show (if _ then _ else _) = _
      rw [if_neg (fun q => absurd q.2.1 (by decide)), if_pos (.inr (.inr fun q => absurd q.2 (by decide)))]
      rfl
    show prtGo (some p3) 1 i _ (41 :: s) = _
    rw [e4, both_br]
    simp
theorem Kd.ne {n : Nat} {d : PyData} {t : List Nat} (h : Kd n d t) : t ≠ [] := by
  cases h with
  | pl h => exact plain_ne h
  | ea h => rw [each_sp]; exact fun q => by cases q
  | bo h h' => rw [both_br]; exact fun q => by cases q
theorem prt_two {n m : Nat} {d d' : PyData} {t u : List Nat} (h : Kd n d t) (h' : Kd m d' u) : prt (t ++ (cp ", " ++ u)) = [t, u] := by
  have c1 : cp ", " = [44, 32] := by decide
  unfold prt
  rw [if_neg (fun q => h.ne (List.append_eq_nil_iff.mp q).1)]
  obtain ⟨p, hp, e⟩ := go_flat h none [] [] (cp ", " ++ u) (by decide)
  obtain ⟨p2, hp2, e2⟩ := go_flat h' (some 32) [t] [] [] (by decide)
  rw [e, c1]
  show prtGo (some p) 0 [] t (44 :: 32 :: u) = _
  have e3 : prtGo (some p) 0 [] t (44 :: 32 :: u) = prtGo (some 44) 0 [t] [] (32 :: u) := by
    show (if _ then _ else _) = _
    rw [if_pos ⟨by decide, rfl, rfl⟩]
    rfl
  have e4 : prtGo (some 44) 0 [t] [] (32 :: u) = prtGo (some 32) 0 [t] [] u := by
    show (if _ then _ else _) = _
    rw [if_neg (fun q => absurd q.2.1 (by decide)), if_neg (fun q => q.elim (fun q => q (by decide)) fun q => q.elim (fun q => nomatch q) fun q => q ⟨rfl, rfl⟩)]
    rfl
  rw [e3, e4]
  have e5 := e2
  rw [List.append_nil] at e5
  rw [e5]
  rfl
end G

set_option Elab.async false
set_option linter.all false
set_option maxRecDepth 100000
set_option maxHeartbeats 4000000
namespace G
open PySem PySem.Spec PyProof.Rows L2 DL
def c_Sourceu_initu (cS cN : Addr) : CtX := fun ss w R Y => ∃ x d, ss = [.adr x, .dat d] ∧ w x = some (.ins cS []) ∧ (∀ z, d = .str z → R (.dat .none) (put w x (srcO cS z 0))) ∧ ((∀ z, d ≠ .str z) → Y cN none w)
def c_Source_goes_past (cS cN : Addr) : CtX := fun ss w R Y => ∃ x z y pre s, ss = [.adr x, .dat (.str y)] ∧ w x = some (srcO cS z pre.length) ∧ cp z = pre ++ s ∧ y.length ≤ sizeLine ∧ (∀ r, cutP (cp y) s = some r → R (.dat .none) (put w x (srcO cS z (pre ++ cp y).length))) ∧ (cutP (cp y) s = none → Y cN none w)
def c_kind_read (cS cN : Addr) (n : Nat) : CtX := fun ss w R Y => ∃ x z m pre s, ss = [.adr x, .dat (.int ((m : Nat) : Int))] ∧ 1 ≤ m ∧ m ≤ n ∧ w x = some (srcO cS z pre.length) ∧ cp z = pre ++ s ∧ z.length ≤ 100000 ∧
  (∀ d r pre', rdK m s = some (d, r) → cp z = pre' ++ r → R (.dat d) (put w x (srcO cS z pre'.length))) ∧ (rdK m s = none → ∀ p, Y cN none (put w x (srcO cS z p)))
def c_read_kind (cN : Addr) : CtX := fun ss w R Y => ∃ d, ss = [.dat d] ∧ (∀ z, d = .str z → z.length ≤ 100000) ∧ (∀ z k, d = .str z → Kd 4 k (cp z) → R (.dat k) w) ∧ ((∀ z k, d = .str z → ¬ Kd 4 k (cp z)) → Y cN none w)
def c_law_changed : Ct := fun ss w R => ∃ (b : Addr) (z : Str) (c : Nat) (w0 : Om), ss = [.adr b, .dat (.str z)] ∧ Bg b c w0 w ∧ c + 10 < 2 ^ 60 ∧ z.length ≤ 9000 ∧ ∀ y w', y.length ≤ z.length + 20 → Bg b (c + 10) w0 w' → R (.dat (.str y)) w'
theorem len_Sourceu_initu {cS cN ss w R Y} (h : c_Sourceu_initu cS cN ss w R Y) : ss.length = 2 := by obtain ⟨_, _, rfl, _⟩ := h; rfl
theorem len_Source_goes_past {cS cN ss w R Y} (h : c_Source_goes_past cS cN ss w R Y) : ss.length = 2 := by obtain ⟨_, _, _, _, _, rfl, _⟩ := h; rfl
theorem len_kind_read {cS cN n ss w R Y} (h : c_kind_read cS cN n ss w R Y) : ss.length = 2 := by obtain ⟨_, _, _, _, _, rfl, _⟩ := h; rfl
theorem len_read_kind {cN ss w R Y} (h : c_read_kind cN ss w R Y) : ss.length = 1 := by obtain ⟨_, rfl, _⟩ := h; rfl
theorem len_law_changed {ss w R} (h : c_law_changed ss w R) : ss.length = 2 := by obtain ⟨_, _, _, _, rfl, _⟩ := h; rfl
def N_Sourceu_initu : List Str := ["self", "text"]
def t_Sourceu_initu (cS cN : Addr) (Z : DX) : DTS :=
  (dSeq (dIfS (dNot (dTst (dIsi .str (dVar 1)))) (dRaise Z cN) dNext)
  (dSeq (dSetF cS "signs" (dVar 0) (dVar 1))
  (dSetF cS "spot" (dVar 0) (dC (.int 0)))))

def N_Source_goes_past : List Str := ["self", "sign"]
def t_Source_goes_past (cS cN : Addr) (Z : DX) : DTS :=
  (dSeq (dIfS (dNot (dTst (dMeth cS "comes_next" (c_Source_comes_next cS) [] (dVar 0) (dCons (dVar 1) dNil)))) (dRaise Z cN) dNext)
  (dAddF cS "spot" (dVar 0) (dCB lenS (dCons (dVar 1) dNil))))

def N_kind_read : List Str := ["source", "most", "word", "first", "second"]
def t_kind_read (cS cN : Addr) (cr : CtX) (Z : DX) : DTS :=
  (dSeq (dAsg (dMeth cS "run_of" (c_Source_run_of cS) [] (dVar 0) (dCons (dC (.str "abcdefghijklmnopqrstuvwxyz")) dNil)) (dName 2))
  (dSeq (dIfS (dAnd (dTst (dOp gtS (dVar 1) (dC (.int 1)))) (dTst (dOp (eqS false) (dVar 2) (dC (.str "each"))))) (dSeq (dDrop (dMethX Z cS "goes_past" (c_Source_goes_past cS cN) (dVar 0) (dCons (dC (.str " ")) dNil)))
  (dRet (dTup (dDats (dC (.str "each")) (dDats (dCallX Z cr (dCons (dVar 0) (dCons (dOp gSub (dVar 1) (dC (.int 1))) dNil))) dNilD))))) dNext)
  (dSeq (dIfS (dAnd (dTst (dOp gtS (dVar 1) (dC (.int 1)))) (dTst (dOp (eqS false) (dVar 2) (dC (.str "both"))))) (dSeq (dDrop (dMethX Z cS "goes_past" (c_Source_goes_past cS cN) (dVar 0) (dCons (dC (.str "(")) dNil)))
  (dSeq (dAsg (dCallX Z cr (dCons (dVar 0) (dCons (dOp gSub (dVar 1) (dC (.int 1))) dNil))) (dName 3))
  (dSeq (dDrop (dMethX Z cS "goes_past" (c_Source_goes_past cS cN) (dVar 0) (dCons (dC (.str ", ")) dNil)))
  (dSeq (dAsg (dCallX Z cr (dCons (dVar 0) (dCons (dOp gSub (dVar 1) (dC (.int 1))) dNil))) (dName 4))
  (dSeq (dDrop (dMethX Z cS "goes_past" (c_Source_goes_past cS cN) (dVar 0) (dCons (dC (.str ")")) dNil)))
  (dRet (dTup (dDats (dC (.str "both")) (dDats (dVar 3) (dDats (dVar 4) dNilD)))))))))) dNext)
  (dSeq (dIfS (dTst (dOp (inS true) (dVar 2) (dC (.tuple [.str "names", .str "most", .str "last"])))) (dRaise Z cN) dNext)
  (dRet (dTup (dDats (dVar 2) dNilD)))))))

def N_read_kind : List Str := ["text", "source", "found"]
def t_read_kind (cS cN : Addr) (Z : DX) : DTS :=
  (dSeq (dAsg (dMakeX Z cS (c_Sourceu_initu cS cN) (dCons (dVar 0) dNil)) (dName 1))
  (dSeq (dAsg (dCallX Z (c_kind_read cS cN 4) (dCons (dVar 1) (dCons (dC (.int 4)) dNil))) (dName 2))
  (dSeq (dIfS (dNot (dTst (dMeth cS "at_end" (c_Source_at_end cS) [] (dVar 1) dNil))) (dRaise Z cN) dNext)
  (dRet (dVar 2)))))

def N_law_changed : List Str := ["bag", "text", "lot", "at", "signs", "sign", "every", "many"]
def t_law_changed : DTS :=
  (dSeq (dAsg (dCall c_law_draw [] (dCons (dVar 0) (dCons (dC (.int 6)) dNil))) (dName 2))
  (dSeq (dAsg (dCall c_law_draw [] (dCons (dVar 0) (dCons (dOp addS (dCB lenS (dCons (dVar 1) dNil)) (dC (.int 1))) dNil))) (dName 3))
  (dSeq (dAsg (dC (.str "{}[](),: @-0123456789abeachbothnmsl")) (dName 4))
  (dSeq (dAsg (dJoinL (dC (.str "")) (dFz (dLc (dStrI (dVar 4)) (dName 5) dYes (dVar 5) [5]))) (dName 6))
  (dSeq (dIfS (dTst (dOp (eqS false) (dCall c_law_draw [] (dCons (dVar 0) (dCons (dC (.int 3)) dNil))) (dC (.int 0)))) (dAsg (dC (.str " !\"#$&'()*+,-./:;<=>?@ABCXYZ[\\]^_`abcxyz{|}~\n\t")) (dName 6)) dNext)
  (dSeq (dAsg (dOp ixS (dVar 6) (dCall c_law_draw [] (dCons (dVar 0) (dCons (dCB lenS (dCons (dVar 6) dNil)) dNil)))) (dName 5))
  (dSeq (dIfS (dTst (dOp ltS (dVar 2) (dC (.int 3)))) (dRet (dFz (dOp ixS (dFz (dLstD (dDats (dFz (dOp addS (dFz (dOp addS (dFz (dSl (dVar 1) dNoPart (dPart (dVar 3)))) (dVar 5))) (dFz (dSl (dVar 1) (dPart (dVar 3)) dNoPart)))) (dDats (dFz (dOp addS (dFz (dSl (dVar 1) dNoPart (dPart (dVar 3)))) (dFz (dSl (dVar 1) (dPart (dOp addS (dVar 3) (dC (.int 1)))) dNoPart)))) (dDats (dFz (dOp addS (dFz (dOp addS (dFz (dSl (dVar 1) dNoPart (dPart (dVar 3)))) (dVar 5))) (dFz (dSl (dVar 1) (dPart (dOp addS (dVar 3) (dC (.int 1)))) dNoPart)))) dNilD))))) (dVar 2)))) dNext)
  (dSeq (dIfS (dTst (dOp (eqS false) (dVar 2) (dC (.int 3)))) (dRet (dFz (dOp addS (dFz (dOp addS (dFz (dSl (dVar 1) dNoPart (dPart (dVar 3)))) (dRevS (dFz (dSl (dVar 1) (dPart (dVar 3)) (dPart (dOp addS (dVar 3) (dC (.int 2))))))))) (dFz (dSl (dVar 1) (dPart (dOp addS (dVar 3) (dC (.int 2)))) dNoPart))))) dNext)
  (dSeq (dAsg (dOp addS (dC (.int 1)) (dCall c_law_draw [] (dCons (dVar 0) (dCons (dC (.int 9)) dNil)))) (dName 7))
  (dRet (dFz (dOp ixS (dFz (dLstD (dDats (dFz (dOp addS (dFz (dSl (dVar 1) dNoPart (dPart (dVar 3)))) (dFz (dSl (dVar 1) (dPart (dOp addS (dVar 3) (dVar 7))) dNoPart)))) (dDats (dFz (dOp addS (dFz (dSl (dVar 1) dNoPart (dPart (dOp addS (dVar 3) (dVar 7))))) (dFz (dSl (dVar 1) (dPart (dVar 3)) dNoPart)))) dNilD)))) (dOp gSub (dVar 2) (dC (.int 4)))))))))))))))

def c_show_kind (n : Nat) : Ct := fun ss w R => ∃ d t, ss = [.dat d] ∧ Kd n d t ∧ n ≤ 8 ∧ R (.dat (.str (tx t))) w
theorem len_show_kind {n ss w R} (h : c_show_kind n ss w R) : ss.length = 1 := by obtain ⟨_, _, rfl, _⟩ := h; rfl
def N_show_kind : List Str := ["kind", "word", "kinds"]
def t_show_kind (cr : Ct) : DTS :=
  (dSeq (dAsg (dVar 0) (dGStar 2 1 (dGCons (dName 1) (dGCons (dName 2) dGNil))))
  (dSeq (dIfS (dTst (dOp (eqS false) (dVar 1) (dC (.str "each")))) (dRet (dJoin [(dC (.str "each ")), (dFmt (dCall cr [] (dCons (dOp ixS (dVar 2) (dC (.int 0))) dNil)))])) dNext)
  (dSeq (dIfS (dTst (dOp (eqS false) (dVar 1) (dC (.str "both")))) (dRet (dJoin [(dC (.str "both(")), (dFmt (dCall cr [] (dCons (dOp ixS (dVar 2) (dC (.int 0))) dNil))), (dC (.str ", ")), (dFmt (dCall cr [] (dCons (dOp ixS (dVar 2) (dC (.int 1))) dNil))), (dC (.str ")"))])) dNext)
  (dRet (dVar 1)))))

end G

set_option Elab.async false
set_option linter.all false
set_option maxRecDepth 100000
set_option maxHeartbeats 4000000
namespace G
open PySem PySem.Spec PyProof.Rows L2 DL
theorem starts3 {z y : Str} {pre s : List Nat} (h : cp z = pre ++ s) : Txt.startswith3 z y ((pre.length : Nat) : Int) = (cutP (cp y) s).isSome := by
  have zl : z.length = pre.length + s.length := by rw [len_cp, h]; simp
  have e : fromIndex z.length ((pre.length : Nat) : Int) = pre.length := by
    unfold fromIndex
    rw [if_neg (by omega)]
    omega
  unfold Txt.startswith3
  rw [e, StrLaws.subAt_eq]
  show (decide (pre.length + y.length ≤ z.length) && (((cp z).drop pre.length).take y.length == cp y)) = _
  rw [h, List.drop_left, len_cp y]
  unfold cutP
  by_cases c : s.take (cp y).length = cp y
  · rw [if_pos c]
    have l1 : (cp y).length ≤ s.length := by
      have := congrArg List.length c
      rw [List.length_take] at this
      omega
    rw [decide_eq_true (by omega), c]
    simp
  · rw [if_neg c]
    have : (s.take (cp y).length == cp y) = false := beq_eq_false_iff_ne.mpr c
    rw [this, Bool.and_false]
    rfl
local macro_rules | `(tactic| walk_at "rr") => `(tactic| repeat (first | refine ⟨_, rfl, ?_⟩ | refine ⟨_, _, _, rfl, (by assumption), src_signs _ _, ?_⟩ | refine ⟨_, _, _, rfl, (by assumption), src_spot _ _, ?_⟩ | refine iteT ?_ | refine iteF ?_ | refine And.intro (sq_line (by simp)) ?_ | fail "stop"))
theorem rd_Sourceu_initu {cS cN ss w R Y} (h : c_Sourceu_initu cS cN ss w R Y) : t_Sourceu_initu cS cN (ZF Y) (endsN R) (startD N_Sourceu_initu ss) w := by
  obtain ⟨x, d, rfl, hw, q1, q2⟩ := h
  cases d with
  | str z =>
    walk_at "rr"
    refine ⟨x, [], rfl, hw, by decide, ?_⟩
    walk_at "rr"
    refine ⟨x, _, rfl, put_same, by show 1 < 1000; decide, ?_⟩
    rw [put_put, src_first]
    exact ⟨_, Sub.refl _, q1 z rfl⟩
  | none => walk_at "rr"; exact ⟨_, Sub.refl _, q2 fun z e => by cases e⟩
  | bool _ => walk_at "rr"; exact ⟨_, Sub.refl _, q2 fun z e => by cases e⟩
  | int _ => walk_at "rr"; exact ⟨_, Sub.refl _, q2 fun z e => by cases e⟩
  | list _ => walk_at "rr"; exact ⟨_, Sub.refl _, q2 fun z e => by cases e⟩
  | tuple _ => walk_at "rr"; exact ⟨_, Sub.refl _, q2 fun z e => by cases e⟩
  | dict _ => walk_at "rr"; exact ⟨_, Sub.refl _, q2 fun z e => by cases e⟩
theorem rd_Source_goes_past {cS cN ss w R Y} (h : c_Source_goes_past cS cN ss w R Y) : t_Source_goes_past cS cN (ZF Y) (endsN R) (startD N_Source_goes_past ss) w := by
  obtain ⟨x, z, y, pre, s, rfl, hw, hz, hl, q1, q2⟩ := h
  walk_at "rr"
  refine ⟨x, _, rfl, hw, src_no (by decide) (by decide), ?_⟩
  walk_at "rr"
  refine ⟨x, z, y, _, rfl, hw, ?_⟩
  rw [starts3 hz]
  cases hc : cutP (cp y) s with
  | none =>
    walk_at "rr"
    exact ⟨_, Sub.refl _, q2 hc⟩
  | some r =>
    walk_at "rr"
    refine ⟨_, lenS_str hl, ?_⟩
    refine ⟨_, _, rfl, hw, by show 2 < 1000; decide, ?_⟩
    rw [src_put z _ _ (j := (pre ++ cp y).length) (by rw [List.length_append, len_cp y]; simp)]
    exact ⟨_, Sub.refl _, q1 r hc⟩
theorem stop_drop (s : List Nat) : s.dropWhile isL = [] ∨ ∃ c r, s.dropWhile isL = c :: r ∧ ¬ c ∈ cp "abcdefghijklmnopqrstuvwxyz" := by
  induction s with
  | nil => exact .inl rfl
  | cons c s ih =>
    by_cases h : isL c = true
    · rw [List.dropWhile_cons_of_pos h]; exact ih
    · rw [List.dropWhile_cons_of_neg h]
      exact .inr ⟨c, s, rfl, fun m => h (decide_eq_true m)⟩
theorem all_take (s : List Nat) : ∀ c ∈ s.takeWhile isL, c ∈ cp "abcdefghijklmnopqrstuvwxyz" := by
  induction s with
  | nil => intro c hc; cases hc
  | cons a s ih =>
    intro c hc
    by_cases h : isL a = true
    · rw [List.takeWhile_cons_of_pos h] at hc
      rcases List.mem_cons.mp hc with rfl | hc
      · exact of_decide_eq_true h
      · exact ih c hc
    · rw [List.takeWhile_cons_of_neg h] at hc; cases hc
theorem beq_cp (t : List Nat) (y : Str) : (tx t == y) = decide (t = cp y) := by
  by_cases h : t = cp y
  · rw [decide_eq_true h, h, tx_cp, beq_self_eq_true]
  · rw [decide_eq_false h, beq_eq_false_iff_ne]
    exact fun e => h (by rw [← e])
theorem pastX {cS cN x : Addr} {w : Om} {z y : Str} {pre s : List Nat} {p : Nat} {R : DQ} {Y : XY} (hz : cp z = pre ++ s) (hy : y.length ≤ sizeLine) (hp : p = pre.length) (q1 : ∀ r, cutP (cp y) s = some r → R (.dat .none) (put w x (srcO cS z (pre ++ cp y).length))) (q2 : cutP (cp y) s = none → Y cN none (put w x (srcO cS z p))) : c_Source_goes_past cS cN [.adr x, .dat (.str y)] (put w x (srcO cS z p)) R Y := by
  subst hp
  refine ⟨x, z, y, pre, s, rfl, put_same, hz, hy, fun r hr => ?_, q2⟩
  rw [put_put]
  exact q1 r hr
theorem readsX {cS cN x : Addr} {w : Om} {z : Str} {pre s : List Nat} {p n k : Nat} {m : Int} {R : DQ} {Y : XY} (hm : m = (k : Nat)) (h1 : 1 ≤ k) (hk : k ≤ n) (hz : cp z = pre ++ s) (hl : z.length ≤ 100000) (hp : p = pre.length) (q1 : ∀ d r pre', rdK k s = some (d, r) → cp z = pre' ++ r → R (.dat d) (put w x (srcO cS z pre'.length))) (q2 : rdK k s = none → ∀ p, Y cN none (put w x (srcO cS z p))) : c_kind_read cS cN n [.adr x, .dat (.int m)] (put w x (srcO cS z p)) R Y := by
  subst hp hm
  refine ⟨x, z, k, pre, s, rfl, h1, hk, put_same, hz, hl, fun d r pre' e1 e2 => ?_, fun e p => ?_⟩
  · rw [put_put]; exact q1 d r pre' e1 e2
  · rw [put_put]; exact q2 e p
theorem rd_kind_read (nn : Nat) {cS cN ss w R Y} (h : c_kind_read cS cN nn ss w R Y) : t_kind_read cS cN (prevX (c_kind_read cS cN) nn) (ZF Y) (endsN R) (startD N_kind_read ss) w := by
  obtain ⟨x, z, m, pre, s, rfl, hm1, hm, hw, hz, hl, q1, q2⟩ := h
  have hl' : z.length ≤ sizeLine := Nat.le_trans hl (by decide)
  obtain ⟨n, rfl⟩ : ∃ n, m = n + 1 := ⟨m - 1, by omega⟩
  have hst : ∀ p, put w x (srcO cS z p) x = some (srcO cS z p) := fun p => put_same
  have hs : s = s.takeWhile isL ++ s.dropWhile isL := List.takeWhile_append_dropWhile.symm
  have hz1 : cp z = (pre ++ s.takeWhile isL) ++ s.dropWhile isL := by rw [List.append_assoc, ← hs]; exact hz
  have hrd : rdK (n + 1) s = if 1 ≤ n ∧ s.takeWhile isL = cp "each" then
      (cutP (cp " ") (s.dropWhile isL)).bind fun r1 => (rdK n r1).bind fun p => some (.tuple [.str "each", p.1], p.2)
    else if 1 ≤ n ∧ s.takeWhile isL = cp "both" then
      (cutP (cp "(") (s.dropWhile isL)).bind fun r1 => (rdK n r1).bind fun p => (cutP (cp ", ") p.2).bind fun r2 => (rdK n r2).bind fun q => (cutP (cp ")") q.2).bind fun r3 => some (.tuple [.str "both", p.1, q.1], r3)
    else if plainW (s.takeWhile isL) = true then some (.tuple [.str (tx (s.takeWhile isL))], s.dropWhile isL) else none := rfl
  walk_at "rr"
  refine ⟨x, _, rfl, hw, src_no (by decide) (by decide), ?_⟩
  refine ⟨x, z, _, pre, s.takeWhile isL, s.dropWhile isL, rfl, hw, by rw [← hs]; exact hz, hl', all_take s, stop_drop s, ?_⟩
  generalize hd : s.dropWhile isL = dw at *
  generalize ht : s.takeWhile isL = tw at *
  unfold dName
  dsimp only
  have ek : ((n + 1 : Nat) : Int) - 1 = ((n : Nat) : Int) := by omega
  refine seq_andN (decide (((n + 1 : Nat) : Int) > 1)) (decide (tw = cp "each")) (fun C hC => ?_) (fun _ C hC => ?_) (fun c1 c2 => ?_) fun c1 => ?_
  · walk_at "rr"; exact hC
  · walk_at "rr"; rw [beq_cp, Bool.bne_false]; exact hC
  · have c1 := of_decide_eq_true c1
    have c2 := of_decide_eq_true c2
    obtain ⟨n', rfl⟩ : ∃ n', nn = n' + 1 := ⟨nn - 1, by omega⟩
    rw [if_pos ⟨by omega, c2⟩] at hrd
    walk_at "rr"
    refine ⟨x, _, rfl, hst _, src_no (by decide) (by decide), ?_⟩
    dsimp only [dCons, dC, dNil]
    refine pastX (y := " ") hz1 (by decide) (by rw [List.length_append]) (fun r1 h1 => ?_) fun h1 => ⟨_, Sub.refl _, q2 (by rw [hrd, h1]; rfl) _⟩
    walk_at "rr"
    dsimp only [DL.ret, dNil, prevX]
    refine readsX (n := n') ek (by omega) (by omega) (pre := pre ++ tw ++ cp " ") (s := r1) (by rw [hz1, cutP_some h1]; simp only [List.append_assoc]) hl rfl (fun d r pre' e1 e2 => ?_) fun e p => ⟨_, Sub.refl _, q2 (by rw [hrd, h1]; show (rdK n r1).bind _ = _; rw [e]; rfl) _⟩
    walk_at "rr"
    exact ⟨_, Sub.refl _, q1 _ r pre' (by rw [hrd, h1]; show (rdK n r1).bind _ = _; rw [e1]; rfl) e2⟩
  have ne1 : ¬ (1 ≤ n ∧ tw = cp "each") := fun ⟨a, b⟩ => by
    rw [decide_eq_true (show ((n + 1 : Nat) : Int) > 1 by omega), decide_eq_true b] at c1
    cases c1
  rw [if_neg ne1] at hrd
  refine seq_andN (decide (((n + 1 : Nat) : Int) > 1)) (decide (tw = cp "both")) (fun C hC => ?_) (fun _ C hC => ?_) (fun c1 c2 => ?_) fun c2 => ?_
  · walk_at "rr"; exact hC
  · walk_at "rr"; rw [beq_cp, Bool.bne_false]; exact hC
  · have c1 := of_decide_eq_true c1
    have c2 := of_decide_eq_true c2
    obtain ⟨n', rfl⟩ : ∃ n', nn = n' + 1 := ⟨nn - 1, by omega⟩
    rw [if_pos ⟨by omega, c2⟩] at hrd
    walk_at "rr"
    refine ⟨x, _, rfl, hst _, src_no (by decide) (by decide), ?_⟩
    dsimp only [dCons, dC, dNil]
    refine pastX (y := "(") hz1 (by decide) (by rw [List.length_append]) (fun r1 h1 => ?_) fun h1 => ⟨_, Sub.refl _, q2 (by rw [hrd, h1]; rfl) _⟩
    walk_at "rr"
    dsimp only [DL.ret, dNil, prevX]
    refine readsX (n := n') ek (by omega) (by omega) (pre := pre ++ tw ++ cp "(") (s := r1) (by rw [hz1, cutP_some h1]; simp only [List.append_assoc]) hl rfl (fun d r pre' e1 e2 => ?_) fun e p => ⟨_, Sub.refl _, q2 (by rw [hrd, h1]; show (rdK n r1).bind _ = _; rw [e]; rfl) _⟩
    walk_at "rr"
    refine ⟨x, _, rfl, hst _, src_no (by decide) (by decide), ?_⟩
    dsimp only [dCons, dC, dNil]
    refine pastX (y := ", ") e2 (by decide) rfl (fun r2 h3 => ?_) fun h3 => ⟨_, Sub.refl _, q2 (by rw [hrd, h1]; show (rdK n r1).bind _ = _; rw [e1]; show (cutP _ r).bind _ = _; rw [h3]; rfl) _⟩
    walk_at "rr"
    dsimp only [DL.ret, dNil, prevX]
    refine readsX (n := n') ek (by omega) (by omega) (pre := pre' ++ cp ", ") (s := r2) (by rw [e2, cutP_some h3, List.append_assoc]) hl rfl (fun d' r' pre2 e3 e4 => ?_) fun e p => ⟨_, Sub.refl _, q2 (by rw [hrd, h1]; show (rdK n r1).bind _ = _; rw [e1]; show (cutP _ r).bind _ = _; rw [h3]; show (rdK n r2).bind _ = _; rw [e]; rfl) _⟩
    walk_at "rr"
    refine ⟨x, _, rfl, hst _, src_no (by decide) (by decide), ?_⟩
    dsimp only [dCons, dC, dNil]
    refine pastX (y := ")") e4 (by decide) rfl (fun r3 h5 => ?_) fun h5 => ⟨_, Sub.refl _, q2 (by rw [hrd, h1]; show (rdK n r1).bind _ = _; rw [e1]; show (cutP _ r).bind _ = _; rw [h3]; show (rdK n r2).bind _ = _; rw [e3]; show (cutP _ r').bind _ = _; rw [h5]; rfl) _⟩
    walk_at "rr"
    exact ⟨_, Sub.refl _, q1 _ r3 (pre2 ++ cp ")") (by rw [hrd, h1]; show (rdK n r1).bind _ = _; rw [e1]; show (cutP _ r).bind _ = _; rw [h3]; show (rdK n r2).bind _ = _; rw [e3]; show (cutP _ r').bind _ = _; rw [h5]; rfl) (by rw [e4, cutP_some h5, List.append_assoc])⟩
  have ne2 : ¬ (1 ≤ n ∧ tw = cp "both") := fun ⟨a, b⟩ => by
    rw [decide_eq_true (show ((n + 1 : Nat) : Int) > 1 by omega), decide_eq_true b] at c2
    cases c2
  rw [if_neg ne2] at hrd
  refine ⟨_, rfl, _, in3N, _, rfl, ?_⟩
  have pw : ((Str.ofString "names") == tx tw || ((Str.ofString "most") == tx tw || ((Str.ofString "last") == tx tw || false))) = plainW tw := by
    have fl : ∀ a : Str, (a == tx tw) = decide (tw = cp a) := fun a => by
      rw [← beq_cp]
      by_cases h : tx tw = a
      · rw [h]
      · rw [beq_eq_false_iff_ne.mpr h, beq_eq_false_iff_ne.mpr (Ne.symm h)]
    rw [fl, fl, fl, Bool.or_false]
    rfl
  rw [pw]
  cases hp : plainW tw with
  | true =>
    rw [hp, if_pos rfl] at hrd
    walk_at "rr"
    exact ⟨_, Sub.refl _, by
      have := q1 _ dw (pre ++ tw) hrd hz1
      rw [List.length_append] at this
      exact this⟩
  | false =>
    rw [hp, if_neg Bool.false_ne_true] at hrd
    walk_at "rr"
    exact ⟨_, Sub.refl _, q2 hrd _⟩
end G

set_option Elab.async false
set_option linter.all false
set_option maxRecDepth 100000
set_option maxHeartbeats 4000000
namespace G
open PySem PySem.Spec PyProof.Rows L2 DL
local macro_rules | `(tactic| walk_at "rr") => `(tactic| repeat (first | refine ⟨_, ix_t0, ?_⟩ | refine ⟨_, ix_t1, ?_⟩ | refine ⟨_, rfl, ?_⟩ | refine ⟨_, _, rfl, rfl, ?_⟩ | refine frzL (sq_line (by simp)) ?_ | refine iteT ?_ | refine iteF ?_ | refine And.intro (sq_line (by simp)) ?_ | fail "stop"))
theorem rdK_iff {z : Str} {k : PyData} : rdK 4 (cp z) = some (k, []) ↔ Kd 4 k (cp z) := by
  constructor
  · intro h
    obtain ⟨t, e, hk⟩ := rdK_sound 4 h
    rw [e, List.append_nil]
    exact hk
  · intro h
    have := rdK_full h (r := []) (.inl rfl)
    rw [List.append_nil] at this
    exact this
theorem rd_read_kind {cS cN ss w R Y} (h : c_read_kind cN ss w R Y) : t_read_kind cS cN (ZF Y) (endsN R) (startD N_read_kind ss) w := by
  obtain ⟨d, rfl, hl, q1, q2⟩ := h
  walk_at "rr"
  intro x hx
  refine ⟨x, d, rfl, put_same, fun z hd => ⟨rfl, ?_⟩, fun hd => ⟨w, Sub.new hx, q2 fun z k e => absurd e (hd z)⟩⟩
  subst hd
  have hz := hl z rfl
  rw [put_put]
  walk_at "rr"
  dsimp only [dCons, dC, dNil]
  refine readsX (n := 4) (m := 4) (k := 4) rfl (by decide) (by decide) (pre := []) (s := cp z) rfl hz rfl (fun d r pre' e1 e2 => ?_) fun e p => ⟨w, Sub.new hx, q2 fun z' k e' hk => ?_⟩
  · walk_at "rr"
    refine ⟨x, _, rfl, put_same, src_no (by decide) (by decide), ?_⟩
    dsimp only [dNil, List.append_nil]
    refine ⟨x, z, _, rfl, put_same, Nat.le_trans hz (by decide), ?_⟩
    have zl : z.length = pre'.length + r.length := by rw [len_cp, e2]; simp
    cases r with
    | nil =>
      have e : (((pre'.length : Nat) : Int) == ((z.length : Nat) : Int)) = true := by rw [zl]; simp
      rw [e]
      walk_at "rr"
      exact ⟨w, Sub.new hx, q1 z d rfl (rdK_iff.mp e1)⟩
    | cons a r =>
      have e : (((pre'.length : Nat) : Int) == ((z.length : Nat) : Int)) = false := by
        rw [beq_eq_false_iff_ne]; rw [zl]; simp; omega
      rw [e]
      walk_at "rr"
      refine ⟨w, Sub.new hx, q2 fun z' k e' hk => ?_⟩
      cases e'
      rw [rdK_iff.mpr hk] at e1
      cases e1
  · cases e'
    rw [rdK_iff.mpr hk] at e
    cases e
theorem Kd.some {n : Nat} {d : PyData} {t : List Nat} (h : Kd n d t) : isNone (.dat d) = false := by cases h <;> rfl
local macro_rules | `(tactic| walk_at "rr") => `(tactic| repeat (first | refine ⟨_, ix_t0, ?_⟩ | refine ⟨_, ix_t1, ?_⟩ | refine ⟨_, ix_t2, ?_⟩ | refine ⟨_, rfl, ?_⟩ | refine ⟨_, _, rfl, rfl, ?_⟩ | refine frzL (sq_line (by simp)) ?_ | refine iteT ?_ | refine iteF ?_ | refine And.intro (sq_line (by simp)) ?_ | fail "stop"))
theorem rd_show_kind (n : Nat) {ss w R} (h : c_show_kind n ss w R) : t_show_kind (prev c_show_kind n) (endsN R) (startD N_show_kind ss) w := by
  obtain ⟨d, t, rfl, hk, hn, q⟩ := h
  have lv := line_val
  cases hk with
  | @pl n z h =>
    obtain ⟨h1, h2⟩ := each_ne z h
    walk_at "rr"
    refine gstar1 (by simp) fun p hp => ?_
    refine ⟨_, _, rfl, _, _, rfl, rfl, ?_⟩
    walk_at "rr"
    rw [h1]
    walk_at "rr"
    rw [h2]
    walk_at "rr"
    refine ⟨w, Sub.new hp, ?_⟩
    rw [← tx_cp z]
    exact q
  | @ea n k t' h =>
    have hs := h.short (by omega)
    have e1 := tx_len t'
    have l1 : (Str.ofString "each ").length = 5 := by decide
    walk_at "rr"
    refine gstar1 (by simp) fun p hp => ?_
    refine ⟨_, _, rfl, _, _, rfl, rfl, ?_⟩
    walk_at "rr"
    refine ⟨by rw [empty_ap]; omega, ?_⟩
    walk_at "rr"
    refine ⟨_, ixS_adr put_same (s := .dat k) rfl, ?_⟩
    refine ⟨k, t', rfl, h, by omega, ?_⟩
    refine .inl ⟨_, rfl, by omega, ?_⟩
    refine ⟨_, rfl, by rw [empty_ap, Str.length_append]; omega, ?_⟩
    refine ⟨w, Sub.new hp, ?_⟩
    rw [empty_ap, ap_tx]
    exact q
  | @bo n k l t' u' h h' =>
    have hs := h.short (by omega)
    have e1 := tx_len t'
    have hs' := h'.short (by omega)
    have e2 := tx_len u'
    have l1 : (Str.ofString "both(").length = 5 := by decide
    have l2 : (Str.ofString ", ").length = 2 := by decide
    have l3 : (Str.ofString ")").length = 1 := by decide
    walk_at "rr"
    refine gstar1 (by simp) fun p hp => ?_
    refine ⟨_, _, rfl, _, _, rfl, rfl, ?_⟩
    walk_at "rr"
    refine ⟨by rw [empty_ap]; omega, ?_⟩
    walk_at "rr"
    refine ⟨_, ixS_adr put_same (s := .dat k) rfl, ?_⟩
    refine ⟨k, t', rfl, h, by omega, ?_⟩
    refine .inl ⟨_, rfl, by omega, ?_⟩
    refine ⟨_, rfl, by rw [empty_ap, Str.length_append]; omega, ?_⟩
    refine ⟨_, rfl, by rw [empty_ap, Str.length_append, Str.length_append]; omega, ?_⟩
    walk_at "rr"
    refine ⟨_, ixS_adr put_same (s := .dat l) rfl, ?_⟩
    refine ⟨l, u', rfl, h', by omega, ?_⟩
    refine .inl ⟨_, rfl, by omega, ?_⟩
    refine ⟨_, rfl, by rw [empty_ap, Str.length_append, Str.length_append, Str.length_append]; omega, ?_⟩
    refine ⟨_, rfl, by rw [empty_ap, Str.length_append, Str.length_append, Str.length_append, Str.length_append]; omega, ?_⟩
    refine ⟨w, Sub.new hp, ?_⟩
    have e : Str.empty ++ Str.ofString "both(" ++ tx t' ++ Str.ofString ", " ++ tx u' ++ Str.ofString ")" = tx (cp "both(" ++ (t' ++ (cp ", " ++ (u' ++ cp ")")))) := by
      apply cp_inj
      rw [empty_ap]
      simp only [cp_app, List.append_assoc]
    rw [e]
    exact q
end G

set_option Elab.async false
set_option linter.all false
set_option maxRecDepth 100000
set_option maxHeartbeats 4000000
namespace G
open PySem PySem.Spec PyProof.Rows L2 DL
theorem frzM {ds : List PyData} {w : Om} {k : PyData → Om → Prop} (hl : ds.length ≤ sizeLine) (h : k (.list ds) w) : (ds.map Sl.dat).length ≤ sizeLine ∧ ∀ p, w p = none → frz (.adr p) (put w p (.lst (ds.map .dat))) k := by
  rw [List.length_map]; exact frzL hl h
theorem addL {w : Om} {a b : List PyData} : addS w (.dat (.list a)) (.dat (.list b)) = some (.nl ((a ++ b).map .dat)) := by
  rw [List.map_append]; rfl
theorem pick {α : Type} {xs : List α} {r : Int} (h0 : 0 ≤ r) (h1 : r < xs.length) : ∃ d, d ∈ xs ∧ atI xs r = some d := by
  obtain ⟨k, rfl⟩ := Int.eq_ofNat_of_zero_le h0
  have hk : k < xs.length := by omega
  exact ⟨xs[k], List.getElem_mem hk, atI_lt hk⟩
local macro_rules | `(tactic| walk_at "rr") => `(tactic| repeat (first | refine ⟨_, addL, ?_⟩ | refine ⟨_, rfl, ?_⟩ | refine ⟨_, _, rfl, rfl, ?_⟩ | refine frzL (sq_line (by simp)) ?_ | refine frzM (sq_line (by simp)) ?_ | refine iteT ?_ | refine iteF ?_ | refine And.intro (sq_line (by simp)) ?_ | fail "stop"))
theorem ix_pick {xs : List PyData} {r : Int} {w : Om} {C : Ou → Prop} (h0 : 0 ≤ r) (h1 : r < xs.length) (hC : ∀ d ∈ xs, C (.v (.dat d))) : ∃ o, ixS w (.dat (.list xs)) (.dat (.int r)) = some o ∧ C o := by
  obtain ⟨d, hd, e⟩ := atI_mem h0 h1
  exact ⟨_, ixS_list e, hC d hd⟩
theorem cut_pre {z : Str} {a : Nat} : (cutS z none (some ((a : Nat) : Int))).length ≤ a := by
  unfold cutS
  rw [HT.sIx_nat]
  show (tx _).length ≤ a
  rw [tx_len, List.length_take]
  omega
theorem cut_suf {z : Str} {a : Nat} : (cutS z (some ((a : Nat) : Int)) none).length ≤ z.length - a := by
  unfold cutS
  rw [HT.sIx_nat, HT.sIx_none]
  show (tx _).length ≤ _
  rw [tx_len, List.length_take, List.length_drop, ← len_cp]
  omega
theorem cut_two {z : Str} {a b : Nat} : (cutS z (some ((a : Nat) : Int)) (some ((b : Nat) : Int))).length ≤ b - a := by
  unfold cutS
  rw [HT.sIx_nat, HT.sIx_nat]
  show (tx _).length ≤ _
  rw [tx_len, List.length_take, List.length_drop, ← len_cp]
  omega
theorem app_len (a b : Str) : (a ++ b).length = a.length + b.length := by
  rw [← tx_cp a, ← tx_cp b, tx_app, tx_len, tx_len, tx_len, List.length_append]
theorem addT' {w : Om} {a b : Str} {C : Ou → Prop} (h : a.length + b.length ≤ 16000000) (hC : C (.v (.dat (.str (a ++ b))))) : ∃ o, addS w (.dat (.str a)) (.dat (.str b)) = some o ∧ C o := ⟨_, addT (Nat.le_trans h (by decide)), hC⟩
def ones (z : Str) : List Str := (cp z).map fun c => ⟨#[c]⟩
theorem signs_ones (z : Str) : DL.signs z = ((ones z).map fun t => PyData.str t).map .dat := by unfold DL.signs ones; rw [List.map_map, List.map_map]; rfl
theorem ones_len (z : Str) : (ones z).length = z.length := by unfold ones; rw [List.length_map, len_cp]
theorem ones_sum (z : Str) : ((ones z).map (·.length)).sum = z.length := by
  unfold ones
  rw [List.map_map, len_cp]
  induction cp z with
  | nil => rfl
  | cons a r ih => rw [List.map_cons, List.sum_cons, ih, List.length_cons]; show 1 + _ = _; omega
theorem ix_sign {z : Str} {r : Int} {w : Om} {C : Ou → Prop} (hz : z.length ≤ sizeLine) (h0 : 0 ≤ r) (h1 : r < z.length) (hC : ∀ c, C (.v (.dat (.str ⟨#[c]⟩)))) : ∃ o, ixS w (.dat (.str z)) (.dat (.int r)) = some o ∧ C o := by
  obtain ⟨c, _, e⟩ := atI_mem (xs := cp z) h0 (by rw [← len_cp]; exact h1)
  exact ⟨_, ixS_str hz e, hC c⟩
theorem sl_pre {z : Str} {w : Om} {a : Int} {C : Ou → Prop} (hz : z.length ≤ sizeLine) (ha : 0 ≤ a) (hC : ∀ y : Str, (y.length : Int) ≤ a → C (.v (.dat (.str y)))) : ∃ o, slS w (.dat (.str z)) none (some a) = some o ∧ C o := by
  obtain ⟨a, rfl⟩ := Int.eq_ofNat_of_zero_le ha
  exact ⟨_, slT hz, hC _ (Int.ofNat_le.mpr cut_pre)⟩
theorem sl_suf {z : Str} {w : Om} {a : Int} {C : Ou → Prop} (hz : z.length ≤ sizeLine) (ha : 0 ≤ a) (hC : ∀ y : Str, (y.length : Int) ≤ (z.length : Int) - a ∨ y.length = 0 → C (.v (.dat (.str y)))) : ∃ o, slS w (.dat (.str z)) (some a) none = some o ∧ C o := by
  obtain ⟨a, rfl⟩ := Int.eq_ofNat_of_zero_le ha
  refine ⟨_, slT hz, hC _ ?_⟩
  have := cut_suf (z := z) (a := a)
  omega
theorem sl_two {z : Str} {w : Om} {a b : Int} {C : Ou → Prop} (hz : z.length ≤ sizeLine) (ha : 0 ≤ a) (hb : a ≤ b) (hC : ∀ y : Str, (y.length : Int) ≤ b - a → C (.v (.dat (.str y)))) : ∃ o, slS w (.dat (.str z)) (some a) (some b) = some o ∧ C o := by
  obtain ⟨a, rfl⟩ := Int.eq_ofNat_of_zero_le ha
  obtain ⟨b, rfl⟩ := Int.eq_ofNat_of_zero_le (Int.le_trans ha hb)
  refine ⟨_, slT hz, hC _ ?_⟩
  have := cut_two (z := z) (a := a) (b := b)
  omega
theorem add_ab {w : Om} {a b : Str} {C : Ou → Prop} (h : a.length + b.length ≤ 16000000) (hC : ∀ y : Str, y.length = a.length + b.length → C (.v (.dat (.str y)))) : ∃ o, addS w (.dat (.str a)) (.dat (.str b)) = some o ∧ C o := ⟨_, addT (Nat.le_trans h (by decide)), hC _ (app_len a b)⟩
theorem one_len (c : Nat) : (⟨#[c]⟩ : Str).length = 1 := rfl
theorem rd_law_changed {ss w R} (h : c_law_changed ss w R) : t_law_changed (endsN R) (startD N_law_changed ss) w := by
  obtain ⟨b, z, c, w0, rfl, hB, hc, hz, q⟩ := h
  have lv := line_val
  have hz' : z.length ≤ sizeLine := by omega
  walk_at "rr"
  refine ⟨b, 6, c, w0, rfl, hB, by decide, by decide, by omega, fun lot w1 l0 l1 hB1 => ?_⟩
  walk_at "rr"
  refine ⟨_, lenS_str hz', ?_⟩
  walk_at "rr"
  refine ⟨b, _, c + 1, w0, rfl, hB1, by omega, by omega, by omega, fun at' w2 a0 a1 hB2 => ?_⟩
  obtain ⟨a, rfl⟩ := Int.eq_ofNat_of_zero_le a0
  walk_at "rr"
  refine lc_map id trivial _ _ (fun x hx C hC => ⟨_, rfl, hC⟩) (by decide) fun p hp => ?_
  refine ⟨(ones "{}[](),: @-0123456789abeachbothnmsl").map fun t => PyData.str t, by rw [put_same, List.map_id, List.nil_append, signs_ones], ?_⟩
  rw [del_put hp]
  refine ⟨_, ones "{}[](),: @-0123456789abeachbothnmsl", rfl, by rw [List.map_map]; rfl, by decide, ?_⟩
  have e0 : Txt.join (Str.ofString "") (ones "{}[](),: @-0123456789abeachbothnmsl") = "{}[](),: @-0123456789abeachbothnmsl" := by decide +kernel
  rw [e0]
  walk_at "rr"
  refine ⟨b, 3, _, w0, rfl, hB2, by decide, by decide, by omega, fun r3 w3 _ _ hB3 => ?_⟩
  walk_at "rr"
  have fin : ∀ {n : Nat} {w' : Om} {y : Str}, n ≤ c + 10 → Bg b n w0 w' → y.length ≤ z.length + 20 → ∃ u, Sub u w' ∧ R (.dat (.str y)) u := fun hn hB hy => ⟨_, Sub.refl _, q _ _ hy (hB.mono hn)⟩
  refine iteB (fun _ => ?_) (fun _ => ?_)
  all_goals
    walk_at "rr"
    dsimp only [DL.ret, dNil, List.append_nil]
    refine ⟨b, _, _, w0, rfl, hB3, by decide, by decide, by omega, fun r4 w4 r40 r41 hB4 => ?_⟩
    refine ix_sign (by decide) r40 r41 fun sg => ?_
    walk_at "rr"
    refine iteD (fun c1 => ?_) fun c1 => ?_
    · walk_at "rr"
      refine sl_pre hz' a0 fun y1 h1 => ?_
      walk_at "rr"
      refine add_ab (by rw [one_len]; omega) fun y2 h2 => ?_
      rw [one_len] at h2
      walk_at "rr"
      refine sl_suf hz' a0 fun y3 h3 => ?_
      refine add_ab (by omega) fun y4 h4 => ?_
      walk_at "rr"
      refine sl_pre hz' a0 fun y5 h5 => ?_
      walk_at "rr"
      refine sl_suf hz' (by omega) fun y6 h6 => ?_
      refine add_ab (by omega) fun y7 h7 => ?_
      walk_at "rr"
      refine sl_pre hz' a0 fun y8 h8 => ?_
      walk_at "rr"
      refine add_ab (by rw [one_len]; omega) fun y9 h9 => ?_
      rw [one_len] at h9
      walk_at "rr"
      refine sl_suf hz' (by omega) fun y10 h10 => ?_
      refine add_ab (by omega) fun y11 h11 => ?_
      walk_at "rr"
      refine ix_pick l0 (by show lot < 3; omega) fun d hd => ?_
      simp only [List.mem_cons, List.not_mem_nil, or_false] at hd
      rcases hd with rfl | rfl | rfl <;> exact fin (by omega) hB4 (by omega)
    · walk_at "rr"
      refine iteB (fun c2 => ?_) fun c2 => ?_
      · walk_at "rr"
        refine sl_pre hz' a0 fun y1 h1 => ?_
        walk_at "rr"
        refine sl_two hz' a0 (by omega) fun y2 h2 => ?_
        refine ⟨_, rfl, by omega, fun y3 h3 => ?_⟩
        refine add_ab (by omega) fun y4 h4 => ?_
        walk_at "rr"
        refine sl_suf hz' (by omega) fun y5 h5 => ?_
        refine add_ab (by omega) fun y6 h6 => ?_
        exact fin (by omega) hB4 (by omega)
      · walk_at "rr"
        refine ⟨b, 9, _, w0, rfl, hB4, by decide, by decide, by omega, fun r5 w5 r50 r51 hB5 => ?_⟩
        walk_at "rr"
        refine sl_pre hz' a0 fun y1 h1 => ?_
        walk_at "rr"
        refine sl_suf hz' (by omega) fun y2 h2 => ?_
        refine add_ab (by omega) fun y3 h3 => ?_
        walk_at "rr"
        refine sl_pre hz' (by omega) fun y4 h4 => ?_
        walk_at "rr"
        refine sl_suf hz' (by omega) fun y5 h5 => ?_
        refine add_ab (by omega) fun y6 h6 => ?_
        walk_at "rr"
        have c3 : lot ≠ 3 := fun e => by rw [e] at c2; exact absurd c2 (by decide)
        refine ix_pick (by omega) (by show lot - 4 < 2; omega) fun d hd => ?_
        simp only [List.mem_cons, List.not_mem_nil, or_false] at hd
        rcases hd with rfl | rfl <;> exact fin (by omega) hB5 (by omega)
local macro_rules | `(tactic| walk_at "rr") => `(tactic| repeat (first | refine ⟨_, rfl, ?_⟩ | refine ⟨_, _, rfl, rfl, ?_⟩ | refine frzL (sq_line (by simp)) ?_ | refine iteT ?_ | refine iteF ?_ | refine And.intro (sq_line (by simp)) ?_ | fail "stop"))
theorem cells {tb : DTS} {F : DEnds} {ns : List Int} {r : List (Option Sl)} {x1 : Option Sl} {w : Om} {j : Int} {m L : Nat} (hj : j ≤ m) (hs : ∀ (i : Nat) (r : List (Option Sl)) (w : Om) (E : DEnds), r.length = L → i < m → E.rt = F.rt → (∀ r w, r.length = L → E.nx (some (.scr ns) :: some (.dat (.int (i : Nat))) :: r) w) → tb E (some (.scr ns) :: some (.dat (.int (i : Nat))) :: r) w)
    (hd : ∀ x1 r w, r.length = L → F.nx (some (.scr ns) :: x1 :: r) w) (hr : r.length = L) : dLoop (fun _ => True) (dName 1) tb F (irange 0 j.toNat) (some (.scr ns) :: x1 :: r) w := by
  refine loop_inv (fun r' ρ w => (∀ x ∈ r', ∃ i : Nat, i < m ∧ x = .dat (.int (i : Nat))) ∧ ∃ x1 r, r.length = L ∧ ρ = some (.scr ns) :: x1 :: r) ⟨fun x hx => ?_, x1, r, hr, rfl⟩ (fun _ _ _ _ => trivial) ?_ ?_
  · obtain ⟨i, hi, e⟩ := irange_mem hx
    exact ⟨i, by omega, e⟩
  · rintro x r' ρ w ⟨hr', x1, r, hr, rfl⟩ ih
    obtain ⟨i, hi, rfl⟩ := hr' x List.mem_cons_self
    exact hs i r w _ hr hi rfl fun r2 w' h2 => ih _ _ ⟨fun z hz => hr' z (List.mem_cons_of_mem _ hz), _, _, h2, rfl⟩
  · rintro ρ w ⟨_, x1, r, hr, rfl⟩
    exact hd _ _ _ hr
theorem gMulS_ok {w : Om} {z : Str} {n : Int} (h0 : 0 ≤ n) (h1 : n < 2 ^ 40) (h2 : z.length * n.toNat ≤ sizeLine) : gMulS w (.dat (.str z)) (.dat (.int n)) = some (.v (.dat (.str (repS z n)))) := by
  show (if 0 ≤ n ∧ n < 2 ^ 40 ∧ z.length * n.toNat ≤ sizeLine then some (Ou.v (.dat (.str (repS z n)))) else none) = _
  rw [if_pos ⟨h0, h1, h2⟩]
theorem repS_len (z : Str) (n : Int) : (repS z n).length = n.toNat * z.length := by
  show (tx _).length = _
  rw [tx_len, List.length_flatten, List.map_replicate, List.sum_replicate_nat, len_cp]
end G

set_option Elab.async false
set_option linter.all false
set_option maxRecDepth 100000
set_option maxHeartbeats 4000000
/-! WorA: kinds as a type, worths, their writing and reading, plainly -/
namespace G
open PySem PySem.Spec PyProof.Rows L2 DL
inductive Kn where
  | names | most | last
  | each (k : Kn)
  | both (k l : Kn)
def Kn.d : Kn → PyData
  | .names => .tuple [.str "names"]
  | .most => .tuple [.str "most"]
  | .last => .tuple [.str "last"]
  | .each k => .tuple [.str "each", k.d]
  | .both k l => .tuple [.str "both", k.d, l.d]
def Kn.dep : Kn → Nat
  | .each k => k.dep + 1
  | .both k l => max k.dep l.dep + 1
  | _ => 1
theorem Kd.kn {n : Nat} {d : PyData} {t : List Nat} (h : Kd n d t) : ∃ k : Kn, d = k.d ∧ k.dep ≤ n := by
  induction h with
  | @pl n z h =>
    rcases h with rfl | rfl | rfl
    · exact ⟨.names, rfl, Nat.succ_le_succ (Nat.zero_le _)⟩
    · exact ⟨.most, rfl, Nat.succ_le_succ (Nat.zero_le _)⟩
    · exact ⟨.last, rfl, Nat.succ_le_succ (Nat.zero_le _)⟩
  | ea h ih => obtain ⟨k, rfl, hk⟩ := ih; exact ⟨.each k, rfl, Nat.succ_le_succ hk⟩
  | bo h h' ih ih' =>
    obtain ⟨k, rfl, hk⟩ := ih
    obtain ⟨l, rfl, hl⟩ := ih'
    exact ⟨.both k l, rfl, Nat.succ_le_succ (Nat.max_le.mpr ⟨hk, hl⟩)⟩
theorem Kn.kd : ∀ (k : Kn) {n : Nat}, k.dep ≤ n → ∃ t, Kd n k.d t
  | .names, n + 1, _ => ⟨_, .pl (.inl rfl)⟩
  | .most, n + 1, _ => ⟨_, .pl (.inr (.inl rfl))⟩
  | .last, n + 1, _ => ⟨_, .pl (.inr (.inr rfl))⟩
  | .each k, n + 1, h => by obtain ⟨t, ht⟩ := k.kd (Nat.le_of_succ_le_succ h); exact ⟨_, .ea ht⟩
  | .both k l, n + 1, h => by
    have h := Nat.le_of_succ_le_succ h
    obtain ⟨t, ht⟩ := k.kd (Nat.le_trans (Nat.le_max_left _ _) h)
    obtain ⟨u, hu⟩ := l.kd (Nat.le_trans (Nat.le_max_right _ _) h)
    exact ⟨_, .bo ht hu⟩
theorem Kn.dep_pos : ∀ k : Kn, 1 ≤ k.dep
  | .names => Nat.le_refl _
  | .most => Nat.le_refl _
  | .last => Nat.le_refl _
  | .each _ => Nat.le_add_left _ _
  | .both _ _ => Nat.le_add_left _ _
/-! ### data of bounded size -/
mutual
def bgB : PyData → Bool
  | .none => true
  | .bool _ => true
  | .int i => decide (i.natAbs < 2 ^ 1000)
  | .str x => decide (x.length ≤ 8000000)
  | .list ds => decide (ds.length ≤ 150000) && bgA ds
  | .tuple ds => decide (ds.length ≤ 150000) && bgA ds
  | .dict _ => true
def bgA : List PyData → Bool
  | [] => true
  | d :: ds => bgB d && bgA ds
end
theorem bgA_all : ∀ {ds : List PyData}, bgA ds = true ↔ ∀ d ∈ ds, bgB d = true
  | [] => ⟨fun _ _ h => by simp at h, fun _ => by unfold bgA; rfl⟩
  | d :: r => by
    unfold bgA
    rw [Bool.and_eq_true, bgA_all (ds := r)]
    constructor
    · rintro ⟨h1, h2⟩ e he
      rcases List.mem_cons.mp he with rfl | he
      · exact h1
      · exact h2 e he
    · intro h
      exact ⟨h d List.mem_cons_self, fun e he => h e (List.mem_cons_of_mem _ he)⟩
theorem bg_tup {ds : List PyData} : bgB (.tuple ds) = true ↔ ds.length ≤ 150000 ∧ ∀ d ∈ ds, bgB d = true := by
  have e : bgB (.tuple ds) = (decide (ds.length ≤ 150000) && bgA ds) := by unfold bgB; rfl
  rw [e, Bool.and_eq_true, bgA_all]
  exact ⟨fun h => ⟨of_decide_eq_true h.1, h.2⟩, fun h => ⟨decide_eq_true h.1, h.2⟩⟩
theorem bg_str {x : Str} : bgB (.str x) = true ↔ x.length ≤ 8000000 := by unfold bgB; exact ⟨of_decide_eq_true, decide_eq_true⟩
theorem bg_int {i : Int} : bgB (.int i) = true ↔ i.natAbs < 2 ^ 1000 := by unfold bgB; exact ⟨of_decide_eq_true, decide_eq_true⟩
mutual
theorem sz_bg {n : Nat} (hn : n ≤ 5) : ∀ (d : PyData), szB n d = true → bgB d = true
  | .none, _ => by unfold bgB; rfl
  | .bool _, _ => by unfold bgB; rfl
  | .int i, q => bg_int.mpr (Nat.lt_of_lt_of_le (sz_int.mp q) (Nat.pow_le_pow_right (by decide) (by omega)))
  | .str x, q => bg_str.mpr (by
    have q := sz_str.mp q
    have : 4 ^ n ≤ 4 ^ 5 := Nat.pow_le_pow_right (by decide) hn
    have e : 4 ^ 5 = 1024 := by decide
    omega)
  | .list ds, q => by
    unfold szB at q
    unfold bgB
    rw [Bool.and_eq_true] at q ⊢
    exact ⟨decide_eq_true (by have := of_decide_eq_true q.1; omega), sz_bgA hn ds q.2⟩
  | .tuple ds, q => by
    unfold szB at q
    unfold bgB
    rw [Bool.and_eq_true] at q ⊢
    exact ⟨decide_eq_true (by have := of_decide_eq_true q.1; omega), sz_bgA hn ds q.2⟩
  | .dict _, _ => by unfold bgB; rfl
theorem sz_bgA {n : Nat} (hn : n ≤ 5) : ∀ (ds : List PyData), szA n ds = true → bgA ds = true
  | [], _ => by unfold bgA; rfl
  | d :: r, q => by
    unfold szA at q
    unfold bgA
    rw [Bool.and_eq_true] at q ⊢
    exact ⟨sz_bg hn d q.1, sz_bgA hn r q.2⟩
end
/-! ### worths -/
def botD : Kn → PyData
  | .names => .tuple []
  | .most => .int 0
  | .last => .tuple [.int 0, .int 0]
  | .each _ => .tuple []
  | .both k l => .tuple [botD k, botD l]
def isNm : PyData → Bool
  | .str z => decide (1 ≤ z.length) && (decide (z.length ≤ 8) && (cp z).all isL)
  | _ => false
def isNo : PyData → Bool
  | .int _ => true
  | _ => false
def strD : PyData → Str
  | .str z => z
  | _ => ""
def risS (ys : List Str) : Bool := (ys.zip (ys.drop 1)).all fun p => decide (cp p.1 < cp p.2)
def fstD : PyData → PyData
  | .tuple (d :: _) => d
  | _ => .none
def sndD : PyData → PyData
  | .tuple (_ :: d :: _) => d
  | _ => .none
def isRow (f : PyData → Bool) (bot : PyData) : PyData → Bool
  | .tuple [n, x] => isNm n && (f x && !(PyData.eqv x bot))
  | _ => false
def isW : Kn → PyData → Bool
  | .names => fun d => match d with
    | .tuple ds => ds.all isNm && risS (ds.map strD)
    | _ => false
  | .most => fun d => match d with
    | .int i => decide (0 ≤ i)
    | _ => false
  | .last => fun d => match d with
    | .tuple [.int a, .int b] => decide (1 ≤ a) || (a == 0 && b == 0)
    | _ => false
  | .each k => fun d => match d with
    | .tuple ds => ds.all (isRow (isW k) (botD k)) && risS (ds.map fun r => strD (fstD r))
    | _ => false
  | .both k l => fun d => match d with
    | .tuple [a, b] => isW k a && isW l b
    | _ => false
/-! ### the writing of a worth -/
def intL (i : Int) : List Nat := if 0 ≤ i then TL.numL i.natAbs else 45 :: TL.numL i.natAbs
def jnL (sep : List Nat) : List (List Nat) → List Nat
  | [] => []
  | [l] => l
  | l :: m :: r => l ++ (sep ++ jnL sep (m :: r))
def intD : PyData → Int
  | .int i => i
  | _ => 0
def shW : Kn → PyData → List Nat
  | .names => fun d => match d with
    | .tuple ds => cp "{" ++ (jnL (cp " ") (ds.map fun n => cp (strD n)) ++ cp "}")
    | _ => []
  | .most => fun d => intL (intD d)
  | .last => fun d => intL (intD (fstD d)) ++ (cp "@" ++ intL (intD (sndD d)))
  | .each k => fun d => match d with
    | .tuple ds => cp "[" ++ (jnL (cp ", ") (ds.map fun r => cp (strD (fstD r)) ++ (cp ": " ++ shW k (sndD r))) ++ cp "]")
    | _ => []
  | .both k l => fun d => cp "(" ++ (shW k (fstD d) ++ (cp ", " ++ (shW l (sndD d) ++ cp ")")))
theorem ofS_app (a b : String) : Str.ofString (a ++ b) = Str.ofString a ++ Str.ofString b := by
  apply cp_inj
  rw [cp_app]
  simp [cp, Str.ofString_eq_toList, String.toList_append]
theorem txt_int (i : Int) : cp (Str.ofString (toString i)) = intL i := by
  unfold intL
  by_cases h : 0 ≤ i
  · rw [if_pos h]
    obtain ⟨n, rfl⟩ := Int.eq_ofNat_of_zero_le h
    exact TL.tl_num n
  · rw [if_neg h]
    obtain ⟨n, rfl⟩ : ∃ n : Nat, i = Int.negSucc n := ⟨i.natAbs - 1, by omega⟩
    have e : toString (Int.negSucc n) = "-" ++ toString (((n + 1 : Nat)) : Int) := rfl
    have e2 : Str.ofString ("-" ++ toString (((n + 1 : Nat)) : Int)) = Str.ofString "-" ++ Str.ofString (toString (((n + 1 : Nat)) : Int)) := ofS_app _ _
    rw [e, e2, cp_app]
    show [45] ++ cp (Str.ofString (toString (((n + 1 : Nat)) : Int))) = _
    rw [show cp (Str.ofString (toString (((n + 1 : Nat)) : Int))) = TL.numL (n + 1) from TL.tl_num (n + 1)]
    rfl
theorem int_txt (i : Int) : Str.ofString (toString i) = tx (intL i) := cp_inj (txt_int i)
end G

set_option Elab.async false
set_option linter.all false
set_option maxRecDepth 100000
set_option maxHeartbeats 4000000
/-! WorB: the reading of a worth, as a relation; what is read is written so -/
namespace G
open PySem PySem.Spec PyProof.Rows L2 DL
def isF (c : Nat) : Bool := decide (c ∈ cp "0123456789")
def FG : Str := "0123456789"
theorem isF_iff {c : Nat} : isF c = true ↔ 48 ≤ c ∧ c ≤ 57 := by
  unfold isF
  have e : cp "0123456789" = [48, 49, 50, 51, 52, 53, 54, 55, 56, 57] := by decide
  rw [e, decide_eq_true_eq]
  simp only [List.mem_cons, List.not_mem_nil, or_false]
  omega
/-- what run is no number -/
def badC (run : List Nat) : Prop := run = [] ∨ 60 < run.length ∨ (run.head? = some 48 ∧ run ≠ [48])
inductive RdC : List Nat → Option (Nat × List Nat) → Prop
  | no {s : List Nat} (h : badC (s.takeWhile isF)) : RdC s none
  | yes {s : List Nat} (h : ¬ badC (s.takeWhile isF)) : RdC s (some (NumText.digitsVal (s.takeWhile isF), s.dropWhile isF))
inductive RdI : List Nat → Option (Int × List Nat) → Prop
  | pos {s : List Nat} {o : Option (Nat × List Nat)} (h : cutP (cp "-") s = none) (hc : RdC s o) : RdI s (o.map fun p => ((p.1 : Nat), p.2))
  | bad {s r : List Nat} (h : cutP (cp "-") s = some r) (hc : RdC r none) : RdI s none
  | zero {s r r' : List Nat} (h : cutP (cp "-") s = some r) (hc : RdC r (some (0, r'))) : RdI s none
  | neg {s r r' : List Nat} {n : Nat} (h : cutP (cp "-") s = some r) (hc : RdC r (some (n, r'))) (hn : n ≠ 0) : RdI s (some (0 - (n : Nat), r'))
/-- what stands ahead of the next part -/
def Sep (sep : List Nat) (b : Bool) (s s1 : List Nat) : Prop := if b = true then s1 = s else cutP sep s = some s1
inductive LpN : Bool → List Nat → Option (List (List Nat) × List Nat) → Prop
  | done {b : Bool} {s r : List Nat} (h : cutP (cp "}") s = some r) : LpN b s (some ([], r))
  | noSep {s : List Nat} (h : cutP (cp "}") s = none) (hs : cutP (cp " ") s = none) : LpN false s none
  | noName {b : Bool} {s s1 : List Nat} (h : cutP (cp "}") s = none) (hs : Sep (cp " ") b s s1) (hn : s1.takeWhile isL = []) : LpN b s none
  | more {b : Bool} {s s1 : List Nat} {o : Option (List (List Nat) × List Nat)} (h : cutP (cp "}") s = none) (hs : Sep (cp " ") b s s1) (hn : s1.takeWhile isL ≠ []) (ho : LpN false (s1.dropWhile isL) o) : LpN b s (o.map fun q => (s1.takeWhile isL :: q.1, q.2))
inductive LpT (inn : List Nat → Option (PyData × List Nat) → Prop) : Bool → List Nat → Option (List PyData × List Nat) → Prop
  | done {b : Bool} {s r : List Nat} (h : cutP (cp "]") s = some r) : LpT inn b s (some ([], r))
  | noSep {s : List Nat} (h : cutP (cp "]") s = none) (hs : cutP (cp ", ") s = none) : LpT inn false s none
  | noCol {b : Bool} {s s1 : List Nat} (h : cutP (cp "]") s = none) (hs : Sep (cp ", ") b s s1) (hc : cutP (cp ": ") (s1.dropWhile isL) = none) : LpT inn b s none
  | noIn {b : Bool} {s s1 s2 : List Nat} (h : cutP (cp "]") s = none) (hs : Sep (cp ", ") b s s1) (hc : cutP (cp ": ") (s1.dropWhile isL) = some s2) (hi : inn s2 none) : LpT inn b s none
  | more {b : Bool} {s s1 s2 s3 : List Nat} {d : PyData} {o : Option (List PyData × List Nat)} (h : cutP (cp "]") s = none) (hs : Sep (cp ", ") b s s1) (hc : cutP (cp ": ") (s1.dropWhile isL) = some s2) (hi : inn s2 (some (d, s3))) (ho : LpT inn false s3 o) : LpT inn b s (o.map fun q => (.tuple [.str (tx (s1.takeWhile isL)), d] :: q.1, q.2))
inductive RdN : List Nat → Option (PyData × List Nat) → Prop
  | no {s : List Nat} (h : cutP (cp "{") s = none) : RdN s none
  | go {s r : List Nat} {o : Option (List (List Nat) × List Nat)} (h : cutP (cp "{") s = some r) (ho : LpN true r o) : RdN s (o.map fun q => (.tuple (q.1.map fun n => .str (tx n)), q.2))
inductive RdM : List Nat → Option (PyData × List Nat) → Prop
  | go {s : List Nat} {o : Option (Nat × List Nat)} (h : RdC s o) : RdM s (o.map fun p => (.int (p.1 : Nat), p.2))
inductive RdL : List Nat → Option (PyData × List Nat) → Prop
  | no1 {s : List Nat} (h : RdC s none) : RdL s none
  | no2 {s r : List Nat} {n : Nat} (h : RdC s (some (n, r))) (h2 : cutP (cp "@") r = none) : RdL s none
  | go {s r r2 : List Nat} {n : Nat} {o : Option (Int × List Nat)} (h : RdC s (some (n, r))) (h2 : cutP (cp "@") r = some r2) (ho : RdI r2 o) : RdL s (o.map fun p => (.tuple [.int (n : Nat), .int p.1], p.2))
inductive RdT (inn : List Nat → Option (PyData × List Nat) → Prop) : List Nat → Option (PyData × List Nat) → Prop
  | no {s : List Nat} (h : cutP (cp "[") s = none) : RdT inn s none
  | go {s r : List Nat} {o : Option (List PyData × List Nat)} (h : cutP (cp "[") s = some r) (ho : LpT inn true r o) : RdT inn s (o.map fun q => (.tuple q.1, q.2))
inductive RdB (i1 i2 : List Nat → Option (PyData × List Nat) → Prop) : List Nat → Option (PyData × List Nat) → Prop
  | no0 {s : List Nat} (h : cutP (cp "(") s = none) : RdB i1 i2 s none
  | no1 {s r : List Nat} (h : cutP (cp "(") s = some r) (h1 : i1 r none) : RdB i1 i2 s none
  | no2 {s r r1 : List Nat} {d : PyData} (h : cutP (cp "(") s = some r) (h1 : i1 r (some (d, r1))) (h2 : cutP (cp ", ") r1 = none) : RdB i1 i2 s none
  | no3 {s r r1 r2 : List Nat} {d : PyData} (h : cutP (cp "(") s = some r) (h1 : i1 r (some (d, r1))) (h2 : cutP (cp ", ") r1 = some r2) (h3 : i2 r2 none) : RdB i1 i2 s none
  | no4 {s r r1 r2 r3 : List Nat} {d e : PyData} (h : cutP (cp "(") s = some r) (h1 : i1 r (some (d, r1))) (h2 : cutP (cp ", ") r1 = some r2) (h3 : i2 r2 (some (e, r3))) (h4 : cutP (cp ")") r3 = none) : RdB i1 i2 s none
  | go {s r r1 r2 r3 r4 : List Nat} {d e : PyData} (h : cutP (cp "(") s = some r) (h1 : i1 r (some (d, r1))) (h2 : cutP (cp ", ") r1 = some r2) (h3 : i2 r2 (some (e, r3))) (h4 : cutP (cp ")") r3 = some r4) : RdB i1 i2 s (some (.tuple [d, e], r4))
def RdW : Kn → List Nat → Option (PyData × List Nat) → Prop
  | .names => RdN
  | .most => RdM
  | .last => RdL
  | .each k => RdT (RdW k)
  | .both k l => RdB (RdW k) (RdW l)
/-! ### numbers -/
theorem numL_back {cs : List Nat} (h : NumText.AllDigits cs) (h0 : ¬ badC cs) : TL.numL (NumText.digitsVal cs) = cs := by
  unfold TL.numL
  have ne : cs ≠ [] := fun e => h0 (.inl e)
  obtain ⟨n, hn⟩ : ∃ n, cs.length = n + 1 := ⟨cs.length - 1, by have := List.length_pos_iff.mpr ne; omega⟩
  rw [NumText.toDigits_digitsVal n cs hn h ?_]
  · rw [List.map_map]
    apply List.ext_getElem (by simp)
    intro i h1 h2
    have hc := h cs[i] (List.getElem_mem h2)
    simp only [List.getElem_map, Function.comp]
    generalize cs[i] = c at hc
    have : ∀ c : Nat, 48 ≤ c → c ≤ 57 → (Char.ofNat c).toNat = c := by
      intro c a b
      have : c = 48 ∨ c = 49 ∨ c = 50 ∨ c = 51 ∨ c = 52 ∨ c = 53 ∨ c = 54 ∨ c = 55 ∨ c = 56 ∨ c = 57 := by omega
      rcases this with rfl | rfl | rfl | rfl | rfl | rfl | rfl | rfl | rfl | rfl <;> decide
    exact this c hc.1 hc.2
  · cases cs with
    | nil => exact absurd rfl ne
    | cons c r =>
      by_cases e : c = 48
      · left
        cases r with
        | nil => simpa using hn.symm
        | cons a r => exact absurd (.inr (.inr ⟨by rw [e]; rfl, by simp⟩)) h0
      · right
        have := h.head
        exact ⟨c, r, rfl, by omega⟩
theorem take_F (s : List Nat) : NumText.AllDigits (s.takeWhile isF) := fun c hc => isF_iff.mp (by
  induction s with
  | nil => cases hc
  | cons a s ih =>
    by_cases h : isF a = true
    · rw [List.takeWhile_cons_of_pos h] at hc
      rcases List.mem_cons.mp hc with rfl | hc
      · exact h
      · exact ih hc
    · rw [List.takeWhile_cons_of_neg h] at hc; cases hc)
theorem digits_lt : ∀ (cs : List Nat) (a : Nat), NumText.AllDigits cs → cs.foldl (fun acc c => acc * 10 + (c - 48)) a < (a + 1) * 10 ^ cs.length
  | [], a, _ => by simp
  | c :: cs, a, h => by
    have := digits_lt cs (a * 10 + (c - 48)) h.tail
    have hc := h.head
    refine Nat.lt_of_lt_of_le this ?_
    rw [List.length_cons, Nat.pow_succ, Nat.mul_comm (10 ^ cs.length) 10, ← Nat.mul_assoc]
    exact Nat.mul_le_mul_right _ (by omega)
theorem val_lt {cs : List Nat} (h : NumText.AllDigits cs) (h0 : ¬ badC cs) : NumText.digitsVal cs < 10 ^ 60 := by
  have := digits_lt cs 0 h
  have hl : cs.length ≤ 60 := Nat.le_of_not_lt fun e => h0 (.inr (.inl e))
  refine Nat.lt_of_lt_of_le this ?_
  rw [Nat.zero_add, Nat.one_mul]
  exact Nat.pow_le_pow_right (by decide) hl
theorem RdC.sound {s : List Nat} {n : Nat} {r : List Nat} (h : RdC s (some (n, r))) : s = TL.numL n ++ r ∧ n < 10 ^ 60 := by
  cases h with
  | yes h => exact ⟨by rw [numL_back (take_F s) h, List.takeWhile_append_dropWhile], val_lt (take_F s) h⟩
theorem big60 : (10 : Nat) ^ 60 < 2 ^ 1000 := by decide +kernel
theorem RdI.sound {s : List Nat} {i : Int} {r : List Nat} (h : RdI s (some (i, r))) : s = intL i ++ r ∧ i.natAbs < 2 ^ 1000 := by
  generalize ho : some (i, r) = o at h
  cases h with
  | @pos o h hc =>
    cases o with
    | none => cases ho
    | some p =>
      cases ho
      obtain ⟨e, l⟩ := hc.sound
      refine ⟨?_, Nat.lt_trans (by rw [Int.natAbs_natCast]; exact l) big60⟩
      unfold intL
      rw [if_pos (by omega), Int.natAbs_natCast]
      exact e
  | bad h hc => cases ho
  | zero h hc => cases ho
  | @neg r0 r' n h hc hn =>
    cases ho
    obtain ⟨e, l⟩ := hc.sound
    have ea : (0 - ((n : Nat) : Int)).natAbs = n := by omega
    refine ⟨?_, Nat.lt_trans (by rw [ea]; exact l) big60⟩
    unfold intL
    rw [if_neg (by omega), ea, cutP_some h, e]
    rfl
theorem intL_nat (n : Nat) : intL (n : Nat) = TL.numL n := by
  unfold intL
  rw [if_pos (by omega), Int.natAbs_natCast]
/-! ### soundness -/
def pre1 (sep : List Nat) (b : Bool) : List Nat := if b = true then [] else sep
theorem Sep.app {sep : List Nat} {b : Bool} {s s1 : List Nat} (h : Sep sep b s s1) : s = pre1 sep b ++ s1 := by
  unfold Sep at h
  unfold pre1
  cases b with
  | true => rw [if_pos rfl] at h ⊢; exact h.symm
  | false => rw [if_neg Bool.false_ne_true] at h ⊢; exact cutP_some h
/-- parts behind one another -/
def tailL (sep : List Nat) (ls : List (List Nat)) : List Nat := (ls.map fun l => sep ++ l).flatten
theorem jnL_cons (sep l : List Nat) (ls : List (List Nat)) : jnL sep (l :: ls) = l ++ tailL sep ls := by
  induction ls generalizing l with
  | nil => simp [jnL, tailL]
  | cons m ls ih =>
    show l ++ (sep ++ jnL sep (m :: ls)) = _
    rw [ih]
    simp [tailL]
def bodyL (sep : List Nat) (b : Bool) (ls : List (List Nat)) : List Nat := if b = true then jnL sep ls else tailL sep ls
theorem body_cons (sep : List Nat) (b : Bool) (l : List Nat) (ls : List (List Nat)) : bodyL sep b (l :: ls) = pre1 sep b ++ (l ++ bodyL sep false ls) := by
  unfold bodyL pre1
  cases b with
  | true => simp [jnL_cons]
  | false => simp [tailL]
theorem body_nil (sep : List Nat) (b : Bool) : bodyL sep b [] = [] := by unfold bodyL; cases b <;> rfl
theorem LpN.sound {b : Bool} {s : List Nat} {o : Option (List (List Nat) × List Nat)} (h : LpN b s o) : ∀ {ns r}, o = some (ns, r) → s = bodyL (cp " ") b ns ++ (cp "}" ++ r) ∧ (∀ n ∈ ns, n ≠ []) ∧ ns.length ≤ s.length ∧ ∀ n ∈ ns, n.length ≤ s.length := by
  induction h with
  | done h =>
    intro ns r e
    cases e
    rw [body_nil, List.nil_append]
    exact ⟨cutP_some h, fun n hn => (by cases hn), Nat.zero_le _, fun n hn => (by cases hn)⟩
  | noSep h hs => intro _ _ e; cases e
  | noName h hs hn => intro _ _ e; cases e
  | @more b s s1 o h hs hn ho ih =>
    intro ns r e
    cases o with
    | none => cases e
    | some q =>
      cases e
      obtain ⟨i1, i2, i3, i4⟩ := ih rfl
      have es : s1 = s1.takeWhile isL ++ s1.dropWhile isL := List.takeWhile_append_dropWhile.symm
      have hl : 1 ≤ (s1.takeWhile isL).length := List.length_pos_iff.mpr hn
      have l1 : s1.length = (s1.takeWhile isL).length + (s1.dropWhile isL).length := by rw [← List.length_append, ← es]
      have l2 : s1.length ≤ s.length := by rw [hs.app, List.length_append]; omega
      refine ⟨?_, fun n hn' => ?_, ?_, fun n hn' => ?_⟩
      · rw [body_cons, hs.app]
        simp only [List.append_assoc]
        rw [← i1, ← es]
      · rcases List.mem_cons.mp hn' with rfl | hn'
        · exact hn
        · exact i2 n hn'
      · rw [List.length_cons]; omega
      · rcases List.mem_cons.mp hn' with rfl | hn'
        · omega
        · have := i4 n hn'; omega
theorem LpT.sound {inn : List Nat → Option (PyData × List Nat) → Prop} {f : PyData → List Nat} (hi : ∀ {s d r}, s.length ≤ 120000 → inn s (some (d, r)) → s = f d ++ r ∧ bgB d = true) {b : Bool} {s : List Nat} {o : Option (List PyData × List Nat)} (h : LpT inn b s o) :
    ∀ {ds r}, o = some (ds, r) → s.length ≤ 120000 → s = bodyL (cp ", ") b (ds.map fun r => cp (strD (fstD r)) ++ (cp ": " ++ f (sndD r))) ++ (cp "]" ++ r) ∧ ds.length ≤ s.length ∧ ∀ d ∈ ds, bgB d = true := by
  induction h with
  | done h =>
    intro ds r e _
    cases e
    rw [List.map_nil, body_nil, List.nil_append]
    exact ⟨cutP_some h, Nat.zero_le _, fun n hn => by cases hn⟩
  | noSep h hs => intro _ _ e; cases e
  | noCol h hs hn => intro _ _ e; cases e
  | noIn h hs hn hi => intro _ _ e; cases e
  | @more b s s1 s2 s3 d o h hs hc hin ho ih =>
    intro ds r e hl
    cases o with
    | none => cases e
    | some q =>
      cases e
      have es : s1 = s1.takeWhile isL ++ s1.dropWhile isL := List.takeWhile_append_dropWhile.symm
      have ec := cutP_some hc
      have l1 : s1.length = (s1.takeWhile isL).length + (s1.dropWhile isL).length := by rw [← List.length_append, ← es]
      have l2 : s1.length ≤ s.length := by rw [hs.app, List.length_append]; omega
      have l3 : (s1.dropWhile isL).length = 2 + s2.length := by rw [ec, List.length_append]; rfl
      obtain ⟨j1, j2⟩ := hi (by omega) hin
      have l4 : s3.length ≤ s2.length := by rw [j1, List.length_append]; omega
      obtain ⟨i1, i2, i3⟩ := ih rfl (by omega)
      refine ⟨?_, by rw [List.length_cons]; omega, fun e he => ?_⟩
      · rw [List.map_cons, body_cons, hs.app]
        simp only [List.append_assoc]
        show _ = pre1 (cp ", ") b ++ (s1.takeWhile isL ++ (cp ": " ++ (f d ++ (bodyL (cp ", ") false _ ++ (cp "]" ++ q.2)))))
        rw [← i1, ← j1, ← ec, ← es]
      · rcases List.mem_cons.mp he with rfl | he
        · refine bg_tup.mpr ⟨by show 2 ≤ 150000; decide, fun x hx => ?_⟩
          simp only [List.mem_cons, List.not_mem_nil, or_false] at hx
          rcases hx with rfl | rfl
          · exact bg_str.mpr (by rw [tx_len]; omega)
          · exact j2
        · exact i3 e he
theorem RdW.sound : ∀ (k : Kn) {s : List Nat} {d : PyData} {r : List Nat}, s.length ≤ 120000 → RdW k s (some (d, r)) → s = shW k d ++ r ∧ bgB d = true
  | .names, s, d, r, hl, hh => by
    have h : RdN s (some (d, r)) := hh
    clear hh
    generalize ho : some (d, r) = o at h
    cases h with
    | no h => cases ho
    | @go r0 o h hq =>
      cases o with
      | none => cases ho
      | some q =>
        cases ho
        obtain ⟨i1, i2, i3, i4⟩ := hq.sound rfl
        have e := cutP_some h
        have l1 : s.length = 1 + r0.length := by rw [e, List.length_append]; rfl
        refine ⟨?_, bg_tup.mpr ⟨by rw [List.length_map]; omega, fun x hx => ?_⟩⟩
        · have em : (q.1.map fun n => PyData.str (tx n)).map (fun n => cp (strD n)) = q.1 := by
            rw [List.map_map]
            show q.1.map (fun n => n) = _
            exact List.map_id' _
          show s = (cp "{" ++ (jnL (cp " ") ((q.1.map fun n => PyData.str (tx n)).map fun n => cp (strD n)) ++ cp "}")) ++ q.2
          rw [em]
          simp only [List.append_assoc]
          have i1' : r0 = jnL (cp " ") q.1 ++ (cp "}" ++ q.2) := i1
          rw [← i1']
          exact e
        · obtain ⟨n, hn, rfl⟩ := List.mem_map.mp hx
          exact bg_str.mpr (by rw [tx_len]; have := i4 n hn; omega)
  | .most, s, d, r, hl, hh => by
    have h : RdM s (some (d, r)) := hh
    clear hh
    generalize ho : some (d, r) = o at h
    cases h with
    | @go o h =>
      cases o with
      | none => cases ho
      | some q =>
        cases ho
        obtain ⟨e, l⟩ := h.sound
        refine ⟨?_, bg_int.mpr (by rw [Int.natAbs_natCast]; exact Nat.lt_trans l big60)⟩
        show s = intL (q.1 : Nat) ++ q.2
        rw [intL_nat]; exact e
  | .last, s, d, r, hl, hh => by
    have h : RdL s (some (d, r)) := hh
    clear hh
    generalize ho : some (d, r) = o at h
    cases h with
    | no1 h => cases ho
    | no2 h h2 => cases ho
    | @go r1 r2 n o h h2 hI =>
      cases o with
      | none => cases ho
      | some q =>
        cases ho
        obtain ⟨e, l⟩ := h.sound
        obtain ⟨e2, l2⟩ := hI.sound
        refine ⟨?_, bg_tup.mpr ⟨by show 2 ≤ 150000; decide, fun x hx => ?_⟩⟩
        · show s = (intL (n : Nat) ++ (cp "@" ++ intL q.1)) ++ q.2
          rw [intL_nat, e, cutP_some h2, e2]
          simp only [List.append_assoc]
        · simp only [List.mem_cons, List.not_mem_nil, or_false] at hx
          rcases hx with rfl | rfl
          · exact bg_int.mpr (by rw [Int.natAbs_natCast]; exact Nat.lt_trans l big60)
          · exact bg_int.mpr l2
  | .each k, s, d, r, hl, hh => by
    have h : RdT (RdW k) s (some (d, r)) := hh
    clear hh
    generalize ho : some (d, r) = o at h
    cases h with
    | no h => cases ho
    | @go r0 o h hq =>
      cases o with
      | none => cases ho
      | some q =>
        cases ho
        have e := cutP_some h
        have l1 : s.length = 1 + r0.length := by rw [e, List.length_append]; rfl
        obtain ⟨i1, i2, i3⟩ := hq.sound (f := shW k) (fun a b => RdW.sound k a b) rfl (by omega)
        refine ⟨?_, bg_tup.mpr ⟨by omega, i3⟩⟩
        show s = (cp "[" ++ (jnL (cp ", ") (q.1.map fun r => cp (strD (fstD r)) ++ (cp ": " ++ shW k (sndD r))) ++ cp "]")) ++ q.2
        simp only [List.append_assoc]
        have i1' : r0 = jnL (cp ", ") (q.1.map fun r => cp (strD (fstD r)) ++ (cp ": " ++ shW k (sndD r))) ++ (cp "]" ++ q.2) := i1
        rw [← i1']
        exact e
  | .both k l, s, d, r, hl, hh => by
    have h : RdB (RdW k) (RdW l) s (some (d, r)) := hh
    clear hh
    generalize ho : some (d, r) = o at h
    cases h with
    | no0 h => cases ho
    | no1 h h1 => cases ho
    | no2 h h1 h2 => cases ho
    | no3 h h1 h2 h3 => cases ho
    | no4 h h1 h2 h3 h4 => cases ho
    | @go r0 r1 r2 r3 r4 d1 d2 h h1 h2 h3 h4 =>
      cases ho
      have e := cutP_some h
      have e2 := cutP_some h2
      have e4 := cutP_some h4
      have l1 : s.length = 1 + r0.length := by rw [e, List.length_append]; rfl
      obtain ⟨i1, i2⟩ := RdW.sound k (by omega) h1
      have l2 : r1.length ≤ r0.length := by rw [i1, List.length_append]; omega
      have l3 : r1.length = 2 + r2.length := by rw [e2, List.length_append]; rfl
      obtain ⟨j1, j2⟩ := RdW.sound l (by omega) h3
      refine ⟨?_, bg_tup.mpr ⟨by show 2 ≤ 150000; decide, fun x hx => ?_⟩⟩
      · show s = (cp "(" ++ (shW k d1 ++ (cp ", " ++ (shW l d2 ++ cp ")")))) ++ r
        simp only [List.append_assoc]
        rw [← e4, ← j1, ← e2, ← i1]
        exact e
      · simp only [List.mem_cons, List.not_mem_nil, or_false] at hx
        rcases hx with rfl | rfl
        · exact i2
        · exact j2
end G

set_option Elab.async false
set_option linter.all false
set_option maxRecDepth 100000
set_option maxHeartbeats 4000000
namespace G
open PySem PySem.Spec PyProof.Rows L2 DL
/-! WorC: contracts and readings of the look at worths, of their writing and reading -/
def kv_LEAST : List (Str × Sl) := [("names", .dat (.tuple [])), ("most", .dat (.int 0)), ("last", .dat (.tuple [.int 0, .int 0])), ("each", .dat (.tuple []))]
def kv_JUDGES (fn fm fl ft fp : Addr) : List (Str × Sl) := [("names", .adr fn), ("most", .adr fm), ("last", .adr fl), ("each", .adr ft), ("both", .adr fp)]
def kv_READERS (fn fm fl ft fp : Addr) : List (Str × Sl) := [("names", .adr fn), ("most", .adr fm), ("last", .adr fl), ("each", .adr ft), ("both", .adr fp)]
def c_is_name : Ct := fun ss w R => ∃ d, ss = [.dat d] ∧ bgB d = true ∧ R (.dat (.bool (isNm d))) w
def c_is_number : Ct := fun ss w R => ∃ d, ss = [.dat d] ∧ R (.dat (.bool (isNo d))) w
def c_are_rising : Ct := fun ss w R => ∃ s ys, ss = [s] ∧ (s = .dat (.tuple (ys.map .str)) ∨ ∃ p, s = .adr p ∧ w p = some (.lst (tS ys))) ∧ ys.length ≤ 150000 ∧ R (.dat (.bool (risS ys))) w
def c_are_names : Ct := fun ss w R => ∃ k d, ss = [k, .dat d] ∧ bgB d = true ∧ R (.dat (.bool (isW .names d))) w
def c_is_most : Ct := fun ss w R => ∃ k d, ss = [k, .dat d] ∧ bgB d = true ∧ R (.dat (.bool (isW .most d))) w
def c_is_last : Ct := fun ss w R => ∃ k d, ss = [k, .dat d] ∧ bgB d = true ∧ R (.dat (.bool (isW .last d))) w
def c_is_row (n : Nat) : Ct := fun ss w R => ∃ (k : Kn) (d : PyData), ss = [.dat k.d, .dat d] ∧ k.dep + 1 ≤ n ∧ n ≤ 5 ∧ bgB d = true ∧ R (.dat (.bool (isRow (isW k) (botD k) d))) w
def c_is_table (n : Nat) : Ct := fun ss w R => ∃ (k : Kn) (d : PyData), ss = [.dat (Kn.each k).d, .dat d] ∧ k.dep + 1 ≤ n ∧ n ≤ 5 ∧ bgB d = true ∧ R (.dat (.bool (isW (.each k) d))) w
def c_is_pair (n : Nat) : Ct := fun ss w R => ∃ (k l : Kn) (d : PyData), ss = [.dat (Kn.both k l).d, .dat d] ∧ k.dep + 1 ≤ n ∧ l.dep + 1 ≤ n ∧ n ≤ 5 ∧ bgB d = true ∧ R (.dat (.bool (isW (.both k l) d))) w
def c_is_worth (n : Nat) : Ct := fun ss w R => ∃ (k : Kn) (d : PyData), ss = [.dat k.d, .dat d] ∧ k.dep ≤ n ∧ n ≤ 5 ∧ bgB d = true ∧ R (.dat (.bool (isW k d))) w
def c_bottom (n : Nat) : Ct := fun ss w R => ∃ k : Kn, ss = [.dat k.d] ∧ k.dep ≤ n ∧ R (.dat (botD k)) w
def c_show_worth (n : Nat) : Ct := fun ss w R => ∃ (k : Kn) (d : PyData), ss = [.dat k.d, .dat d] ∧ k.dep ≤ n ∧ isW k d = true ∧ bgB d = true ∧ (shW k d).length ≤ 100000 ∧ R (.dat (.str (tx (shW k d)))) w
/-- a source at x is read on -/
def RdCt {α : Type} (cS cN : Addr) (Rd : List Nat → Option (α × List Nat) → Prop) (f : α → PyData) (x : Addr) (w : Om) (R : DQ) (Y : XY) : Prop := ∃ z pre s, w x = some (srcO cS z pre.length) ∧ cp z = pre ++ s ∧ z.length ≤ 100000 ∧
  (∀ a r pre', Rd s (some (a, r)) → cp z = pre' ++ r → R (.dat (f a)) (put w x (srcO cS z pre'.length))) ∧ (Rd s none → ∀ p, Y cN none (put w x (srcO cS z p)))
def c_Source_read_count (cS cN : Addr) : CtX := fun ss w R Y => ∃ x, ss = [.adr x] ∧ RdCt cS cN RdC (fun n => .int ((n : Nat) : Int)) x w R Y
def c_Source_read_signed (cS cN : Addr) : CtX := fun ss w R Y => ∃ x, ss = [.adr x] ∧ RdCt cS cN RdI (fun i => .int i) x w R Y
def c_names_read (cS cN : Addr) : CtX := fun ss w R Y => ∃ k x, ss = [k, .adr x] ∧ RdCt cS cN RdN (fun d => d) x w R Y
def c_most_read (cS cN : Addr) : CtX := fun ss w R Y => ∃ k x, ss = [k, .adr x] ∧ RdCt cS cN RdM (fun d => d) x w R Y
def c_last_read (cS cN : Addr) : CtX := fun ss w R Y => ∃ k x, ss = [k, .adr x] ∧ RdCt cS cN RdL (fun d => d) x w R Y
def c_table_read (cS cN : Addr) (n : Nat) : CtX := fun ss w R Y => ∃ (k : Kn) (x : Addr), ss = [.dat (Kn.each k).d, .adr x] ∧ k.dep + 1 ≤ n ∧ RdCt cS cN (RdT (RdW k)) (fun d => d) x w R Y
def c_pair_read (cS cN : Addr) (n : Nat) : CtX := fun ss w R Y => ∃ (k l : Kn) (x : Addr), ss = [.dat (Kn.both k l).d, .adr x] ∧ k.dep + 1 ≤ n ∧ l.dep + 1 ≤ n ∧ RdCt cS cN (RdB (RdW k) (RdW l)) (fun d => d) x w R Y
def c_worth_read (cS cN : Addr) (n : Nat) : CtX := fun ss w R Y => ∃ (k : Kn) (x : Addr), ss = [.dat k.d, .adr x] ∧ k.dep ≤ n ∧ RdCt cS cN (RdW k) (fun d => d) x w R Y
/-- a text that is refused -/
def NoTx (k : Kn) (d : PyData) : Prop := (∀ z, d ≠ .str z) ∨ ∃ z, d = .str z ∧ (RdW k (cp z) none ∨ ∃ e r, RdW k (cp z) (some (e, r)) ∧ (r ≠ [] ∨ isW k e = false))
def c_read_worth (cN : Addr) : CtX := fun ss w R Y => ∃ (k : Kn) (d : PyData), ss = [.dat k.d, .dat d] ∧ k.dep ≤ 5 ∧ (∀ z, d = .str z → z.length ≤ 100000) ∧ (∀ z e, d = .str z → RdW k (cp z) (some (e, [])) → isW k e = true → R (.dat e) w) ∧ (NoTx k d → Y cN none w)
def c_law_name : Ct := fun ss w R => ∃ (b : Addr) (c : Nat) (w0 : Om), ss = [.adr b] ∧ Bg b c w0 w ∧ c + 12 < 2 ^ 60 ∧ ∀ z w', isNm (.str z) = true → Bg b (c + 12) w0 w' → R (.dat (.str z)) w'
def c_law_least (n : Nat) : Ct := fun ss w R => ∃ k : Kn, ss = [.dat k.d] ∧ k.dep ≤ n ∧ R (.dat (botD k)) w
def wc : Nat → Nat
  | 0 => 0
  | n + 1 => 50 + 3 * wc n
def wl : Nat → Nat
  | 0 => 0
  | n + 1 => 100 + 3 * (wl n + 20)
/-- few parts, no great numbers -/
def fw (r : Nat) : Kn → PyData → Bool
  | .names => fun d => match d with
    | .tuple ds => decide (ds.length ≤ r)
    | _ => false
  | .most => fun d => decide ((intD d).natAbs < 10 ^ 20 + r)
  | .last => fun d => decide ((intD (fstD d)).natAbs < 10 ^ 20 + r) && decide ((intD (sndD d)).natAbs < 10 ^ 20 + r)
  | .each k => fun d => match d with
    | .tuple ds => decide (ds.length ≤ r) && ds.all fun row => fw r k (sndD row)
    | _ => false
  | .both k l => fun d => fw r k (fstD d) && fw r l (sndD d)
def c_law_worth (n : Nat) : Ct := fun ss w R => ∃ (b : Addr) (k : Kn) (c : Nat) (w0 : Om), ss = [.adr b, .dat k.d] ∧ Bg b c w0 w ∧ k.dep ≤ n ∧ n ≤ 5 ∧ c + wc n < 2 ^ 60 ∧ ∀ d w', isW k d = true → szB 0 d = true → (shW k d).length ≤ wl n → fw 3 k d = true → Bg b (c + wc n) w0 w' → R (.dat d) w'
def c_law_kind_stays : Ct := fun ss w R => ∃ z : Str, ss = [.dat (.str z)] ∧ z.length ≤ 100000 ∧ R (.dat (.bool true)) w
def c_law_worth_stays : Ct := fun ss w R => ∃ (k : Kn) (z : Str), ss = [.dat k.d, .dat (.str z)] ∧ k.dep ≤ 5 ∧ z.length ≤ 100000 ∧ R (.dat (.bool true)) w
theorem len_is_name { ss w R} (h : c_is_name  ss w R) : ss.length = 1 := by obtain ⟨_, rfl, _⟩ := h; rfl
theorem len_is_number { ss w R} (h : c_is_number  ss w R) : ss.length = 1 := by obtain ⟨_, rfl, _⟩ := h; rfl
theorem len_are_rising { ss w R} (h : c_are_rising  ss w R) : ss.length = 1 := by obtain ⟨_, _, rfl, _⟩ := h; rfl
theorem len_are_names { ss w R} (h : c_are_names  ss w R) : ss.length = 2 := by obtain ⟨_, _, rfl, _⟩ := h; rfl
theorem len_is_most { ss w R} (h : c_is_most  ss w R) : ss.length = 2 := by obtain ⟨_, _, rfl, _⟩ := h; rfl
theorem len_is_last { ss w R} (h : c_is_last  ss w R) : ss.length = 2 := by obtain ⟨_, _, rfl, _⟩ := h; rfl
theorem len_is_row {n ss w R} (h : c_is_row n ss w R) : ss.length = 2 := by obtain ⟨_, _, rfl, _⟩ := h; rfl
theorem len_is_table {n ss w R} (h : c_is_table n ss w R) : ss.length = 2 := by obtain ⟨_, _, rfl, _⟩ := h; rfl
theorem len_is_pair {n ss w R} (h : c_is_pair n ss w R) : ss.length = 2 := by obtain ⟨_, _, _, rfl, _⟩ := h; rfl
theorem len_is_worth {n ss w R} (h : c_is_worth n ss w R) : ss.length = 2 := by obtain ⟨_, _, rfl, _⟩ := h; rfl
theorem len_bottom {n ss w R} (h : c_bottom n ss w R) : ss.length = 1 := by obtain ⟨_, rfl, _⟩ := h; rfl
theorem len_show_worth {n ss w R} (h : c_show_worth n ss w R) : ss.length = 2 := by obtain ⟨_, _, rfl, _⟩ := h; rfl
theorem len_Source_read_count {cS cN ss w R Y} (h : c_Source_read_count cS cN ss w R Y) : ss.length = 1 := by obtain ⟨_, rfl, _⟩ := h; rfl
theorem len_Source_read_signed {cS cN ss w R Y} (h : c_Source_read_signed cS cN ss w R Y) : ss.length = 1 := by obtain ⟨_, rfl, _⟩ := h; rfl
theorem len_names_read {cS cN ss w R Y} (h : c_names_read cS cN ss w R Y) : ss.length = 2 := by obtain ⟨_, _, rfl, _⟩ := h; rfl
theorem len_most_read {cS cN ss w R Y} (h : c_most_read cS cN ss w R Y) : ss.length = 2 := by obtain ⟨_, _, rfl, _⟩ := h; rfl
theorem len_last_read {cS cN ss w R Y} (h : c_last_read cS cN ss w R Y) : ss.length = 2 := by obtain ⟨_, _, rfl, _⟩ := h; rfl
theorem len_table_read {cS cN n ss w R Y} (h : c_table_read cS cN n ss w R Y) : ss.length = 2 := by obtain ⟨_, _, rfl, _⟩ := h; rfl
theorem len_pair_read {cS cN n ss w R Y} (h : c_pair_read cS cN n ss w R Y) : ss.length = 2 := by obtain ⟨_, _, _, rfl, _⟩ := h; rfl
theorem len_worth_read {cS cN n ss w R Y} (h : c_worth_read cS cN n ss w R Y) : ss.length = 2 := by obtain ⟨_, _, rfl, _⟩ := h; rfl
theorem len_read_worth {cN ss w R Y} (h : c_read_worth cN ss w R Y) : ss.length = 2 := by obtain ⟨_, _, rfl, _⟩ := h; rfl
theorem len_law_name { ss w R} (h : c_law_name  ss w R) : ss.length = 1 := by obtain ⟨_, _, _, rfl, _⟩ := h; rfl
theorem len_law_least {n ss w R} (h : c_law_least n ss w R) : ss.length = 1 := by obtain ⟨_, rfl, _⟩ := h; rfl
theorem len_law_worth {n ss w R} (h : c_law_worth n ss w R) : ss.length = 2 := by obtain ⟨_, _, _, _, rfl, _⟩ := h; rfl
theorem len_law_kind_stays { ss w R} (h : c_law_kind_stays  ss w R) : ss.length = 1 := by obtain ⟨_, rfl, _⟩ := h; rfl
theorem len_law_worth_stays { ss w R} (h : c_law_worth_stays  ss w R) : ss.length = 2 := by obtain ⟨_, _, rfl, _⟩ := h; rfl
def N_is_name : List Str := ["thing", "sign"]
def t_is_name : DTS :=
  (dSeq (dIfS (dOr (dNot (dTst (dIsi .str (dVar 0)))) (dOr (dTst (dOp ltS (dCB lenS (dCons (dVar 0) dNil)) (dC (.int 1)))) (dTst (dOp gtS (dCB lenS (dCons (dVar 0) dNil)) (dC (.int 8)))))) (dRet (dC (.bool false))) dNext)
  (dRet (dCB allS (dCons (dLc (dStrI (dVar 0)) (dName 1) dYes (dOp (inS false) (dVar 1) (dC (.str "abcdefghijklmnopqrstuvwxyz"))) [1]) dNil))))

def N_is_number : List Str := ["thing"]
def t_is_number : DTS :=
  (dRet (dAndV (dIsi .int (dVar 0)) (dNotV (dIsi .bool (dVar 0)))))

def N_are_rising : List Str := ["names", "one", "other"]
def t_are_rising : DTS :=
  (dRet (dCB allS (dCons (dLc (dZip (dCons (dVar 0) (dCons (dSl (dVar 0) (dPart (dC (.int 1))) dNoPart) dNil))) (dGTup 2 (dGCons (dName 1) (dGCons (dName 2) dGNil))) dYes (dOp ltS (dVar 1) (dVar 2)) [1, 2]) dNil)))

def N_are_names : List Str := ["kind", "thing", "one"]
def t_are_names : DTS :=
  (dRet (dAndV (dIsi .tuple (dVar 1)) (dAndV (dCB allS (dCons (dLc (dSeqI (dVar 1)) (dName 2) dYes (dCall c_is_name [] (dCons (dVar 2) dNil)) [2]) dNil)) (dCall c_are_rising [] (dCons (dVar 1) dNil)))))

def N_is_most : List Str := ["kind", "thing"]
def t_is_most : DTS :=
  (dRet (dAndV (dCall c_is_number [] (dCons (dVar 1) dNil)) (dOp geS (dVar 1) (dC (.int 0)))))

def N_is_last : List Str := ["kind", "thing", "one"]
def t_is_last : DTS :=
  (dSeq (dIfS (dOr (dNot (dTst (dIsi .tuple (dVar 1)))) (dOr (dTst (dOp (eqS true) (dCB lenS (dCons (dVar 1) dNil)) (dC (.int 2)))) (dNot (dTst (dCB allS (dCons (dLc (dSeqI (dVar 1)) (dName 2) dYes (dCall c_is_number [] (dCons (dVar 2) dNil)) [2]) dNil)))))) (dRet (dC (.bool false))) dNext)
  (dRet (dOrV (dOp geS (dOp ixS (dVar 1) (dC (.int 0))) (dC (.int 1))) (dOp (eqS false) (dVar 1) (dKIx kv_LEAST (dC (.str "last")))))))

def N_is_row : List Str := ["kind", "thing"]
def t_is_row (cr : Ct) : DTS :=
  (dSeq (dIfS (dOr (dNot (dTst (dIsi .tuple (dVar 1)))) (dOr (dTst (dOp (eqS true) (dCB lenS (dCons (dVar 1) dNil)) (dC (.int 2)))) (dNot (dTst (dCall c_is_name [] (dCons (dOp ixS (dVar 1) (dC (.int 0))) dNil)))))) (dRet (dC (.bool false))) dNext)
  (dRet (dAndV (dCall cr [] (dCons (dVar 0) (dCons (dOp ixS (dVar 1) (dC (.int 1))) dNil))) (dOp (eqS true) (dOp ixS (dVar 1) (dC (.int 1))) (dCall (c_bottom 5) [] (dCons (dVar 0) dNil))))))

def N_is_table : List Str := ["kind", "thing", "row"]
def t_is_table (cr : Ct) : DTS :=
  (dSeq (dIfS (dOr (dNot (dTst (dIsi .tuple (dVar 1)))) (dNot (dTst (dCB allS (dCons (dLc (dSeqI (dVar 1)) (dName 2) dYes (dCall cr [] (dCons (dOp ixS (dVar 0) (dC (.int 1))) (dCons (dVar 2) dNil))) [2]) dNil))))) (dRet (dC (.bool false))) dNext)
  (dRet (dCall c_are_rising [] (dCons (dLc (dSeqI (dVar 1)) (dName 2) dYes (dOp ixS (dVar 2) (dC (.int 0))) [2]) dNil))))

def N_is_pair : List Str := ["kind", "thing"]
def t_is_pair (cr : Ct) : DTS :=
  (dSeq (dIfS (dOr (dNot (dTst (dIsi .tuple (dVar 1)))) (dTst (dOp (eqS true) (dCB lenS (dCons (dVar 1) dNil)) (dC (.int 2))))) (dRet (dC (.bool false))) dNext)
  (dRet (dAndV (dCall cr [] (dCons (dOp ixS (dVar 0) (dC (.int 1))) (dCons (dOp ixS (dVar 1) (dC (.int 0))) dNil))) (dCall cr [] (dCons (dOp ixS (dVar 0) (dC (.int 2))) (dCons (dOp ixS (dVar 1) (dC (.int 1))) dNil))))))

def N_is_worth : List Str := ["kind", "thing", "judge"]
def t_is_worth (fn fm fl ft fp : Addr) (cT cP : Ct) : DTS :=
  (dSeq (dAsg (dKIx (kv_JUDGES fn fm fl ft fp) (dOp ixS (dVar 0) (dC (.int 0)))) (dName 2))
  (dRet (dEither (dCallL 2 fn c_are_names (dCons (dVar 0) (dCons (dVar 1) dNil))) (dEither (dCallL 2 fm c_is_most (dCons (dVar 0) (dCons (dVar 1) dNil))) (dEither (dCallL 2 fl c_is_last (dCons (dVar 0) (dCons (dVar 1) dNil))) (dEither (dCallL 2 ft cT (dCons (dVar 0) (dCons (dVar 1) dNil))) (dCallL 2 fp cP (dCons (dVar 0) (dCons (dVar 1) dNil)))))))))

def N_bottom : List Str := ["kind", "word", "kinds", "one"]
def t_bottom (cr : Ct) : DTS :=
  (dSeq (dAsg (dVar 0) (dGStar 2 1 (dGCons (dName 1) (dGCons (dName 2) dGNil))))
  (dSeq (dIfS (dTst (dOp (eqS false) (dVar 1) (dC (.str "both")))) (dRet (dCB tupS (dCons (dLc (dSeqI (dVar 2)) (dName 3) dYes (dCall cr [] (dCons (dVar 3) dNil)) [3]) dNil))) dNext)
  (dRet (dKIx kv_LEAST (dVar 1)))))

def N_show_worth : List Str := ["kind", "worth", "word", "name", "inner"]
def t_show_worth (cr : Ct) : DTS :=
  (dSeq (dAsg (dOp ixS (dVar 0) (dC (.int 0))) (dName 2))
  (dSeq (dIfS (dTst (dOp (eqS false) (dVar 2) (dC (.str "names")))) (dRet (dOp addS (dOp addS (dC (.str "{")) (dJoinL (dC (.str " ")) (dVar 1))) (dC (.str "}")))) dNext)
  (dSeq (dIfS (dTst (dOp (eqS false) (dVar 2) (dC (.str "each")))) (dRet (dOp addS (dOp addS (dC (.str "[")) (dJoinL (dC (.str ", ")) (dLc (dSeqI (dVar 1)) (dGTup 2 (dGCons (dName 3) (dGCons (dName 4) dGNil))) dYes (dOp addS (dOp addS (dVar 3) (dC (.str ": "))) (dCall cr [] (dCons (dOp ixS (dVar 0) (dC (.int 1))) (dCons (dVar 4) dNil)))) [3, 4]))) (dC (.str "]")))) dNext)
  (dSeq (dIfS (dTst (dOp (eqS false) (dVar 2) (dC (.str "both")))) (dRet (dJoin [(dC (.str "(")), (dFmt (dCall cr [] (dCons (dOp ixS (dVar 0) (dC (.int 1))) (dCons (dOp ixS (dVar 1) (dC (.int 0))) dNil)))), (dC (.str ", ")), (dFmt (dCall cr [] (dCons (dOp ixS (dVar 0) (dC (.int 2))) (dCons (dOp ixS (dVar 1) (dC (.int 1))) dNil)))), (dC (.str ")"))])) dNext)
  (dSeq (dIfS (dTst (dOp (eqS false) (dVar 2) (dC (.str "last")))) (dRet (dJoin [(dFmt (dOp ixS (dVar 1) (dC (.int 0)))), (dC (.str "@")), (dFmt (dOp ixS (dVar 1) (dC (.int 1))))])) dNext)
  (dRet (dCB strS (dCons (dVar 1) dNil))))))))

def N_Source_read_count : List Str := ["self", "found"]
def t_Source_read_count (cS cN : Addr) (Z : DX) : DTS :=
  (dSeq (dAsg (dMeth cS "run_of" (c_Source_run_of cS) [] (dVar 0) (dCons (dC (.str "0123456789")) dNil)) (dName 1))
  (dSeq (dIfS (dOr (dTst (dOp (eqS false) (dVar 1) (dC (.str "")))) (dOr (dTst (dOp gtS (dCB lenS (dCons (dVar 1) dNil)) (dC (.int 60)))) (dAnd (dTst (dOp (eqS false) (dOp ixS (dVar 1) (dC (.int 0))) (dC (.str "0")))) (dTst (dOp (eqS true) (dVar 1) (dC (.str "0"))))))) (dRaise Z cN) dNext)
  (dRet (dCB intT (dCons (dVar 1) dNil)))))

def N_Source_read_signed : List Str := ["self", "found"]
def t_Source_read_signed (cS cN : Addr) (Z : DX) : DTS :=
  (dSeq (dIfS (dNot (dTst (dMeth cS "comes_next" (c_Source_comes_next cS) [] (dVar 0) (dCons (dC (.str "-")) dNil)))) (dRet (dMethX Z cS "read_count" (c_Source_read_count cS cN) (dVar 0) dNil)) dNext)
  (dSeq (dDrop (dMethX Z cS "goes_past" (c_Source_goes_past cS cN) (dVar 0) (dCons (dC (.str "-")) dNil)))
  (dSeq (dAsg (dMethX Z cS "read_count" (c_Source_read_count cS cN) (dVar 0) dNil) (dName 1))
  (dSeq (dIfS (dTst (dOp (eqS false) (dVar 1) (dC (.int 0)))) (dRaise Z cN) dNext)
  (dRet (dOp gSub (dC (.int 0)) (dVar 1)))))))

def N_names_read : List Str := ["kind", "source", "found"]
def t_names_read (cS cN : Addr) (Z : DX) : DTS :=
  (dSeq (dDrop (dMethX Z cS "goes_past" (c_Source_goes_past cS cN) (dVar 1) (dCons (dC (.str "{")) dNil)))
  (dSeq (dAsg (dLstD dNilD) (dName 2))
  (dSeq (dWhile (dNot (dTst (dMeth cS "comes_next" (c_Source_comes_next cS) [] (dVar 1) (dCons (dC (.str "}")) dNil)))) (dSeq (dIfS (dTst (dOp (eqE true) (dVar 2) (dLstD dNilD))) (dDrop (dMethX Z cS "goes_past" (c_Source_goes_past cS cN) (dVar 1) (dCons (dC (.str " ")) dNil))) dNext)
  (dSeq (dDrop (dApp (dVar 2) (dMeth cS "run_of" (c_Source_run_of cS) [] (dVar 1) (dCons (dC (.str "abcdefghijklmnopqrstuvwxyz")) dNil))))
  (dIfS (dTst (dOp (eqS false) (dOp ixS (dVar 2) (dNeg (dC (.int 1)))) (dC (.str "")))) (dRaise Z cN) dNext))))
  (dSeq (dDrop (dMethX Z cS "goes_past" (c_Source_goes_past cS cN) (dVar 1) (dCons (dC (.str "}")) dNil)))
  (dRet (dCB tupS (dCons (dVar 2) dNil)))))))

def N_most_read : List Str := ["kind", "source"]
def t_most_read (cS cN : Addr) (Z : DX) : DTS :=
  (dRet (dMethX Z cS "read_count" (c_Source_read_count cS cN) (dVar 1) dNil))

def N_last_read : List Str := ["kind", "source", "stamp"]
def t_last_read (cS cN : Addr) (Z : DX) : DTS :=
  (dSeq (dAsg (dMethX Z cS "read_count" (c_Source_read_count cS cN) (dVar 1) dNil) (dName 2))
  (dSeq (dDrop (dMethX Z cS "goes_past" (c_Source_goes_past cS cN) (dVar 1) (dCons (dC (.str "@")) dNil)))
  (dRet (dTup (dDats (dVar 2) (dDats (dMethX Z cS "read_signed" (c_Source_read_signed cS cN) (dVar 1) dNil) dNilD))))))

def N_table_read : List Str := ["kind", "source", "found", "name"]
def t_table_read (cS cN : Addr) (cr : CtX) (Z : DX) : DTS :=
  (dSeq (dDrop (dMethX Z cS "goes_past" (c_Source_goes_past cS cN) (dVar 1) (dCons (dC (.str "[")) dNil)))
  (dSeq (dAsg (dLstD dNilD) (dName 2))
  (dSeq (dWhile (dNot (dTst (dMeth cS "comes_next" (c_Source_comes_next cS) [] (dVar 1) (dCons (dC (.str "]")) dNil)))) (dSeq (dIfS (dTst (dOp (eqE true) (dVar 2) (dLstD dNilD))) (dDrop (dMethX Z cS "goes_past" (c_Source_goes_past cS cN) (dVar 1) (dCons (dC (.str ", ")) dNil))) dNext)
  (dSeq (dAsg (dMeth cS "run_of" (c_Source_run_of cS) [] (dVar 1) (dCons (dC (.str "abcdefghijklmnopqrstuvwxyz")) dNil)) (dName 3))
  (dSeq (dDrop (dMethX Z cS "goes_past" (c_Source_goes_past cS cN) (dVar 1) (dCons (dC (.str ": ")) dNil)))
  (dDrop (dApp (dVar 2) (dTup (dDats (dVar 3) (dDats (dCallX Z cr (dCons (dOp ixS (dVar 0) (dC (.int 1))) (dCons (dVar 1) dNil))) dNilD)))))))))
  (dSeq (dDrop (dMethX Z cS "goes_past" (c_Source_goes_past cS cN) (dVar 1) (dCons (dC (.str "]")) dNil)))
  (dRet (dCB tupS (dCons (dVar 2) dNil)))))))

def N_pair_read : List Str := ["kind", "source", "first", "second"]
def t_pair_read (cS cN : Addr) (cr : CtX) (Z : DX) : DTS :=
  (dSeq (dDrop (dMethX Z cS "goes_past" (c_Source_goes_past cS cN) (dVar 1) (dCons (dC (.str "(")) dNil)))
  (dSeq (dAsg (dCallX Z cr (dCons (dOp ixS (dVar 0) (dC (.int 1))) (dCons (dVar 1) dNil))) (dName 2))
  (dSeq (dDrop (dMethX Z cS "goes_past" (c_Source_goes_past cS cN) (dVar 1) (dCons (dC (.str ", ")) dNil)))
  (dSeq (dAsg (dCallX Z cr (dCons (dOp ixS (dVar 0) (dC (.int 2))) (dCons (dVar 1) dNil))) (dName 3))
  (dSeq (dDrop (dMethX Z cS "goes_past" (c_Source_goes_past cS cN) (dVar 1) (dCons (dC (.str ")")) dNil)))
  (dRet (dTup (dDats (dVar 2) (dDats (dVar 3) dNilD)))))))))

def N_worth_read : List Str := ["kind", "source", "reader"]
def t_worth_read (cS cN : Addr) (fn fm fl ft fp : Addr) (cT cP : CtX) (Z : DX) : DTS :=
  (dSeq (dAsg (dKIx (kv_READERS fn fm fl ft fp) (dOp ixS (dVar 0) (dC (.int 0)))) (dName 2))
  (dRet (dEither (dCallLX Z 2 fn (c_names_read cS cN) (dCons (dVar 0) (dCons (dVar 1) dNil))) (dEither (dCallLX Z 2 fm (c_most_read cS cN) (dCons (dVar 0) (dCons (dVar 1) dNil))) (dEither (dCallLX Z 2 fl (c_last_read cS cN) (dCons (dVar 0) (dCons (dVar 1) dNil))) (dEither (dCallLX Z 2 ft cT (dCons (dVar 0) (dCons (dVar 1) dNil))) (dCallLX Z 2 fp cP (dCons (dVar 0) (dCons (dVar 1) dNil)))))))))

def N_read_worth : List Str := ["kind", "text", "source", "found"]
def t_read_worth (cS cN : Addr) (Z : DX) : DTS :=
  (dSeq (dAsg (dMakeX Z cS (c_Sourceu_initu cS cN) (dCons (dVar 1) dNil)) (dName 2))
  (dSeq (dAsg (dCallX Z (c_worth_read cS cN 5) (dCons (dVar 0) (dCons (dVar 2) dNil))) (dName 3))
  (dSeq (dIfS (dOr (dNot (dTst (dMeth cS "at_end" (c_Source_at_end cS) [] (dVar 2) dNil))) (dNot (dTst (dCall (c_is_worth 5) [] (dCons (dVar 0) (dCons (dVar 3) dNil)))))) (dRaise Z cN) dNext)
  (dRet (dVar 3)))))

def N_law_name : List Str := ["bag", "letters", "many", "k"]
def t_law_name : DTS :=
  (dSeq (dAsg (dOp ixS (dFz (dLstD (dDats (dC (.str "abcdefghijklmnopqrstuvwxyz")) (dDats (dC (.str "ab")) dNilD)))) (dCall c_law_draw [] (dCons (dVar 0) (dCons (dC (.int 2)) dNil)))) (dName 1))
  (dSeq (dAsg (dOp ixS (dFz (dLstD (dDats (dC (.int 1)) (dDats (dC (.int 2)) (dDats (dOp addS (dC (.int 1)) (dCall c_law_draw [] (dCons (dVar 0) (dCons (dC (.int 8)) dNil)))) dNilD))))) (dCall c_law_draw [] (dCons (dVar 0) (dCons (dC (.int 3)) dNil)))) (dName 2))
  (dRet (dFz (dJoinL (dC (.str "")) (dFz (dLc (dRng1 (dCons (dVar 2) dNil)) (dName 3) dYes (dOp ixS (dVar 1) (dCall c_law_draw [] (dCons (dVar 0) (dCons (dCB lenS (dCons (dVar 1) dNil)) dNil)))) [3])))))))

def N_law_least : List Str := ["kind"]
def t_law_least (cr : Ct) : DTS :=
  (dSeq (dIfS (dTst (dOp (eqS false) (dOp ixS (dVar 0) (dC (.int 0))) (dC (.str "both")))) (dRet (dTup (dDats (dCall cr [] (dCons (dOp ixS (dVar 0) (dC (.int 1))) dNil)) (dDats (dCall cr [] (dCons (dOp ixS (dVar 0) (dC (.int 2))) dNil)) dNilD)))) dNext)
  (dRet (dDGet (dDisp ["names", "most", "last", "each"] [(dTup dNilD), (dC (.int 0)), (dTup (dDats (dC (.int 0)) (dDats (dC (.int 0)) dNilD))), (dTup dNilD)]) (dOp ixS (dVar 0) (dC (.int 0))))))

def N_law_worth : List Str := ["bag", "kind", "word", "stamp", "names", "rows", "name", "row", "k"]
def t_law_worth (cr : Ct) : DTS :=
  (dSeq (dAsg (dOp ixS (dVar 1) (dC (.int 0))) (dName 2))
  (dSeq (dIfS (dTst (dOp (eqS false) (dVar 2) (dC (.str "most")))) (dRet (dFz (dCall c_law_draw [] (dCons (dVar 0) (dCons (dOp ixS (dFz (dLstD (dDats (dC (.int 6)) (dDats (dC (.int 6)) (dDats (dOp gPow (dC (.int 10)) (dC (.int 20))) dNilD))))) (dCall c_law_draw [] (dCons (dVar 0) (dCons (dC (.int 3)) dNil)))) dNil))))) dNext)
  (dSeq (dIfS (dTst (dOp (eqS false) (dVar 2) (dC (.str "last")))) (dSeq (dAsg (dCall c_law_draw [] (dCons (dVar 0) (dCons (dOp ixS (dFz (dLstD (dDats (dC (.int 4)) (dDats (dC (.int 4)) (dDats (dOp gPow (dC (.int 10)) (dC (.int 20))) dNilD))))) (dCall c_law_draw [] (dCons (dVar 0) (dCons (dC (.int 3)) dNil)))) dNil))) (dName 3))
  (dRet (dFz (dTup (dDats (dVar 3) (dDats (dOp gMul (dOp gSub (dCall c_law_draw [] (dCons (dVar 0) (dCons (dOp ixS (dFz (dLstD (dDats (dC (.int 4)) (dDats (dOp gPow (dC (.int 10)) (dC (.int 20))) dNilD)))) (dCall c_law_draw [] (dCons (dVar 0) (dCons (dC (.int 2)) dNil)))) dNil))) (dC (.int 2))) (dCB minS (dCons (dC (.int 1)) (dCons (dVar 3) dNil)))) dNilD)))))) dNext)
  (dSeq (dIfS (dTst (dOp (eqS false) (dVar 2) (dC (.str "both")))) (dRet (dFz (dTup (dDats (dCall cr [] (dCons (dVar 0) (dCons (dOp ixS (dVar 1) (dC (.int 1))) dNil))) (dDats (dCall cr [] (dCons (dVar 0) (dCons (dOp ixS (dVar 1) (dC (.int 2))) dNil))) dNilD))))) dNext)
  (dSeq (dAsg (dFz (dSortSet (dFz (dLc (dRng1 (dCons (dCall c_law_draw [] (dCons (dVar 0) (dCons (dC (.int 4)) dNil))) dNil)) (dName 8) dYes (dCall c_law_name [] (dCons (dVar 0) dNil)) [8])))) (dName 4))
  (dSeq (dIfS (dTst (dOp (eqS false) (dVar 2) (dC (.str "names")))) (dRet (dFz (dCB tupS (dCons (dVar 4) dNil)))) dNext)
  (dSeq (dAsgZ 5 (dLc (dSeqI (dVar 4)) (dName 6) dYes (dTup (dDats (dVar 6) (dDats (dCall cr [] (dCons (dVar 0) (dCons (dOp ixS (dVar 1) (dC (.int 1))) dNil))) dNilD))) [6]))
  (dRet (dFz (dCB tupS (dCons (dFz (dLc (dSeqI (dVar 5)) (dName 7) (dTst (dOp (eqS true) (dOp ixS (dVar 7) (dC (.int 1))) (dCall (c_law_least 5) [] (dCons (dOp ixS (dVar 1) (dC (.int 1))) dNil)))) (dVar 7) [7])) dNil)))))))))))

def N_law_kind_stays : List Str := ["text", "found"]
def t_law_kind_stays (cN : Addr) : DTS :=
  (dSeq (dTryO cN (fun Z => (dAsg (dCallX Z (c_read_kind cN) (dCons (dVar 0) dNil)) (dName 1))) (dRet (dC (.bool true))))
  (dRet (dAndV (dOp (isS' false) (dCall (c_is_kind 4) [.dat (.int 4)] (dCons (dVar 1) dNil)) (dC (.bool true))) (dOp (eqS false) (dCall (c_show_kind 4) [] (dCons (dVar 1) dNil)) (dVar 0)))))

def N_law_worth_stays : List Str := ["kind", "text", "found"]
def t_law_worth_stays (cN : Addr) : DTS :=
  (dSeq (dTryO cN (fun Z => (dAsg (dCallX Z (c_read_worth cN) (dCons (dVar 0) (dCons (dVar 1) dNil))) (dName 2))) (dRet (dC (.bool true))))
  (dRet (dAndV (dOp (isS' false) (dCall (c_is_worth 5) [] (dCons (dVar 0) (dCons (dVar 2) dNil))) (dC (.bool true))) (dOp (eqS false) (dCall (c_show_worth 5) [] (dCons (dVar 0) (dCons (dVar 2) dNil))) (dVar 1)))))

end G

set_option Elab.async false
set_option linter.all false
set_option maxRecDepth 100000
set_option maxHeartbeats 4000000
/-! WorD: the look at worths -/
namespace G
open PySem PySem.Spec PyProof.Rows L2 DL
local macro_rules | `(tactic| walk_at "rr") => `(tactic| repeat (first | refine ⟨_, ix_t0, ?_⟩ | refine ⟨_, ix_t1, ?_⟩ | refine ⟨_, ix_t2, ?_⟩ | refine ⟨_, rfl, ?_⟩ | refine ⟨_, _, rfl, rfl, ?_⟩ | refine iteT ?_ | refine iteF ?_ | refine And.intro (sq_line (by simp)) ?_ | fail "stop"))
theorem lc_signs {ok : Om → Prop} {te : DTE} {ρ : DEnv} {i : Nat} {k : List Sl → Om → Prop} {w : Om} (f : Nat → Bool) (hok : ok w) : ∀ (cs : List Nat) (acc : List Sl), (∀ c ∈ cs, ∀ C : DQ, C (.dat (.bool (f c))) w → te (ρ.set i (some (.dat (.str ⟨#[c]⟩)))) w C) → acc.length + cs.length ≤ sizeLine → k (acc ++ cs.map fun c => .dat (.bool (f c))) w → dLcL ok (dName i) dYes te ρ k (cs.map fun c => .dat (.str ⟨#[c]⟩)) acc w
  | [], acc, _, _, h => ⟨hok, by simpa using h⟩
  | c :: cs, acc, hs, hl, h => by
    refine ⟨hok, ?_⟩
    have q := hs c List.mem_cons_self (fun y w4 => acc.length < sizeLine ∧ dLcL ok (dName i) dYes te ρ k (cs.map fun c => .dat (.str ⟨#[c]⟩)) (acc ++ [y]) w4) ⟨by simp at hl; omega, lc_signs f hok cs _ (fun z hz => hs z (List.mem_cons_of_mem _ hz)) (by simp at hl ⊢; omega) (by simpa using h)⟩
    exact q
theorem inC {w : Om} {c : Nat} {z : Str} : inS false w (.dat (.str ⟨#[c]⟩)) (.dat (.str z)) = some (.v (.dat (.bool (decide (c ∈ cp z))))) := rfl
theorem isNm_str (z : Str) : isNm (.str z) = (decide (1 ≤ z.length) && (decide (z.length ≤ 8) && (cp z).all isL)) := rfl
theorem all_bools {α : Type} (f : α → Bool) (xs : List α) : (xs.map f).all id = xs.all f := by simp [List.all_map]
theorem rd_is_name {ss w R} (h : c_is_name ss w R) : t_is_name (endsN R) (startD N_is_name ss) w := by
  obtain ⟨d, rfl, hb, q⟩ := h
  have no : isNm d = false → ∃ u, Sub u w ∧ R (.dat (.bool false)) u := fun e => ⟨w, Sub.refl _, by rw [e] at q; exact q⟩
  cases d with
  | str z =>
    have hz := bg_str.mp hb
    have hl : z.length ≤ sizeLine := Nat.le_trans hz (by decide)
    walk_at "rr"
    refine ⟨_, lenS_str hl, ?_⟩
    refine ⟨_, rfl, _, rfl, ?_⟩
    refine iteD (fun c => ?_) fun c => ?_
    · refine iteT (no ?_)
      rw [isNm_str, decide_eq_false (show ¬ 1 ≤ z.length by omega)]; rfl
    refine ⟨_, rfl, _, lenS_str hl, ?_⟩
    refine ⟨_, rfl, _, rfl, ?_⟩
    refine iteD (fun c2 => ?_) fun c2 => ?_
    · refine no ?_
      rw [isNm_str, decide_eq_false (show ¬ z.length ≤ 8 by omega)]; simp
    refine ⟨_, rfl, z, rfl, ?_⟩
    refine lc_signs (w := w) (i := 1) (fun c => isL c) trivial (cp z) [] (fun c _ C hC => ?_) (by rw [List.length_nil, Nat.zero_add, ← len_cp]; exact hl) ?_
    · exact ⟨_, rfl, _, inC, hC⟩
    · intro p hp
      refine ⟨_, allS_ok (bs := (cp z).map isL) (sqL_adr (put_same.trans ?_)), w, Sub.new hp, ?_⟩
      · simp
      · rw [all_bools]
        have : isNm (.str z) = (cp z).all isL := by
          rw [isNm_str, decide_eq_true (show 1 ≤ z.length by omega), decide_eq_true (show z.length ≤ 8 by omega)]; rfl
        rw [← this]; exact q
  | none => walk_at "rr"; exact no rfl
  | bool _ => walk_at "rr"; exact no rfl
  | int _ => walk_at "rr"; exact no rfl
  | list _ => walk_at "rr"; exact no rfl
  | tuple _ => walk_at "rr"; exact no rfl
  | dict _ => walk_at "rr"; exact no rfl
theorem rd_is_number {ss w R} (h : c_is_number ss w R) : t_is_number (endsN R) (startD N_is_number ss) w := by
  obtain ⟨d, rfl, q⟩ := h
  cases d with
  | str z => walk_at "rr"; exact ⟨w, Sub.refl _, q⟩
  | none => walk_at "rr"; exact ⟨w, Sub.refl _, q⟩
  | bool _ => walk_at "rr"; exact ⟨w, Sub.refl _, q⟩
  | int _ => walk_at "rr"; exact ⟨w, Sub.refl _, q⟩
  | list _ => walk_at "rr"; exact ⟨w, Sub.refl _, q⟩
  | tuple _ => walk_at "rr"; exact ⟨w, Sub.refl _, q⟩
  | dict _ => walk_at "rr"; exact ⟨w, Sub.refl _, q⟩
theorem cut1 {α : Type} (xs : List α) : cut xs (some 1) none = xs.drop 1 := by
  unfold cut
  have e1 : HT.sIx xs.length 0 (some 1) = min 1 xs.length := HT.sIx_nat xs.length 0 1
  have e2 : HT.sIx xs.length xs.length none = xs.length := rfl
  rw [e1, e2]
  cases xs with
  | nil => rfl
  | cons a r =>
    have : min 1 (a :: r).length = 1 := by simp
    rw [this]
    simp
theorem zip_strs (ys zs : List Str) : zipD (ys.map .str) (zs.map .str) = (ys.zip zs).map fun p => .wt [.str p.1, .str p.2] := by
  unfold zipD
  rw [List.zip_map, List.map_map]
  rfl
theorem lc_rise {ok : Om → Prop} {ρ : DEnv} {i j : Nat} {k : List Sl → Om → Prop} {w : Om} (hok : ok w) (hij : i ≠ j) (hj : j < ρ.length) (hi : i < ρ.length) : ∀ (ps : List (Str × Str)) (acc : List Sl), acc.length + ps.length ≤ sizeLine → k (acc ++ ps.map fun p => .dat (.bool (decide (cp p.1 < cp p.2)))) w → dLcL ok (dGTup 2 (dGCons (dName i) (dGCons (dName j) dGNil))) dYes (dOp ltS (dVar i) (dVar j)) ρ k (ps.map fun p => .wt [.str p.1, .str p.2]) acc w
  | [], acc, _, h => ⟨hok, by simpa using h⟩
  | p :: ps, acc, hl, h => by
    refine ⟨hok, ?_⟩
    refine ⟨[.dat (.str p.1), .dat (.str p.2)], rfl, rfl, _, _, rfl, _, _, rfl, rfl, ?_⟩
    refine ⟨.dat (.str p.1), by rw [List.getElem?_set_ne (Ne.symm hij), List.getElem?_set_self hi], .dat (.str p.2), by rw [List.getElem?_set_self (by rw [List.length_set]; exact hj)], _, rfl, ?_⟩
    exact ⟨by simp at hl; omega, lc_rise hok hij hj hi ps _ (by simp at hl ⊢; omega) (by simpa using h)⟩
theorem rd_are_rising {ss w R} (h : c_are_rising ss w R) : t_are_rising (endsN R) (startD N_are_rising ss) w := by
  obtain ⟨s, ys, rfl, hs, hl, q⟩ := h
  have lz : (ys.zip (ys.drop 1)).length ≤ sizeLine := sq_line (by rw [List.length_zip]; omega)
  have bs : ((ys.zip (ys.drop 1)).map fun p => decide (cp p.1 < cp p.2)).all id = risS ys := by unfold risS; rw [all_bools]
  rcases hs with rfl | ⟨p, rfl, hp⟩
  · refine ⟨_, rfl, _, rfl, _, rfl, _, rfl, ?_⟩
    rw [cut1, ← List.map_drop]
    refine ⟨_, _, ys.map .str, (ys.drop 1).map .str, rfl, .inr ⟨rfl, rfl⟩, ?_⟩
    rw [zip_strs]
    refine lc_rise (w := w) (i := 1) (j := 2) ⟨trivial, trivial⟩ (by decide) (by show 2 < 3; decide) (by show 1 < 3; decide) _ [] (by simpa using lz) ?_
    intro p hp
    refine ⟨_, allS_ok (bs := (ys.zip (ys.drop 1)).map fun p => decide (cp p.1 < cp p.2)) (sqL_adr (put_same.trans ?_)), w, Sub.new hp, ?_⟩
    · simp
    · rw [bs]; exact q
  · have e0 : tS ys = (ys.map PyData.str).map Sl.dat := by rw [List.map_map]; rfl
    have e1 : cut (tS ys) (some 1) none = ((ys.drop 1).map PyData.str).map Sl.dat := by rw [cut1, ← List.map_drop, List.map_map]; rfl
    refine ⟨_, rfl, _, rfl, _, rfl, _, show slS w (.adr p) (some 1) none = some (.nl (cut (tS ys) (some 1) none)) by
      show (sqL w (.adr p)).map _ = _
      rw [sqL_adr hp]; rfl, ?_⟩
    refine ⟨by rw [e1]; exact sq_line (by rw [List.length_map, List.length_map, List.length_drop]; omega), fun p2 hp2 => ?_⟩
    have np : p ≠ p2 := fun z => by rw [z, hp2] at hp; cases hp
    have hp' : put w p2 (.lst (cut (tS ys) (some 1) none)) p = some (.lst (tS ys)) := by rw [put_ne np]; exact hp
    refine ⟨_, _, ys.map .str, (ys.drop 1).map .str, rfl, .inl ⟨by rw [sqL_adr hp', e0], by rw [sqL_adr put_same, e1]⟩, ?_⟩
    rw [zip_strs]
    refine lc_rise (w := put w p2 (.lst (cut (tS ys) (some 1) none))) (i := 1) (j := 2) ⟨by rw [← e0]; exact hp', by rw [← e1]; exact put_same⟩ (by decide) (by show 2 < 3; decide) (by show 1 < 3; decide) _ [] (by simpa using lz) ?_
    intro p3 hp3
    refine ⟨_, allS_ok (bs := (ys.zip (ys.drop 1)).map fun p => decide (cp p.1 < cp p.2)) (sqL_adr (put_same.trans ?_)), w, (Sub.new hp2).trans (Sub.new hp3), ?_⟩
    · simp
    · rw [bs]; exact q
/-- all([f(x) for x in data]) -/
theorem lc_data {ok : Om → Prop} {te : DTE} {ρ : DEnv} {i : Nat} {k : List Sl → Om → Prop} {w : Om} (f : PyData → Sl) (hok : ok w) : ∀ (ds : List PyData) (acc : List Sl), (∀ d ∈ ds, ∀ C : DQ, C (f d) w → te (ρ.set i (some (.dat d))) w C) → acc.length + ds.length ≤ sizeLine → k (acc ++ ds.map f) w → dLcL ok (dName i) dYes te ρ k (ds.map Sl.dat) acc w
  | [], acc, _, _, h => ⟨hok, by simpa using h⟩
  | d :: ds, acc, hs, hl, h => by
    refine ⟨hok, ?_⟩
    have q := hs d List.mem_cons_self (fun y w4 => acc.length < sizeLine ∧ dLcL ok (dName i) dYes te ρ k (ds.map Sl.dat) (acc ++ [y]) w4) ⟨by simp at hl; omega, lc_data f hok ds _ (fun z hz => hs z (List.mem_cons_of_mem _ hz)) (by simp at hl ⊢; omega) (by simpa using h)⟩
    exact q
theorem names_str {ds : List PyData} (h : ds.all isNm = true) : ds = (ds.map strD).map .str := by
  induction ds with
  | nil => rfl
  | cons d r ih =>
    rw [List.all_cons, Bool.and_eq_true] at h
    rw [List.map_cons, List.map_cons, ← ih h.2]
    cases d with
    | str z => rfl
    | none => cases h.1
    | bool _ => cases h.1
    | int _ => cases h.1
    | list _ => cases h.1
    | tuple _ => cases h.1
    | dict _ => cases h.1
theorem rd_are_names {ss w R} (h : c_are_names ss w R) : t_are_names (endsN R) (startD N_are_names ss) w := by
  obtain ⟨k, d, rfl, hb, q⟩ := h
  have no : isW .names d = false → ∃ u, Sub u w ∧ R (.dat (.bool false)) u := fun e => ⟨w, Sub.refl _, by rw [e] at q; exact q⟩
  cases d with
  | tuple ds =>
    obtain ⟨hl, hd⟩ := bg_tup.mp hb
    walk_at "rr"
    refine lc_data (w := w) (i := 2) (fun d => .dat (.bool (isNm d))) trivial ds [] (fun d hd2 C hC => ⟨_, rfl, d, rfl, hd d hd2, hC⟩) (sq_line (by rw [List.length_nil]; omega)) ?_
    intro p hp
    refine ⟨_, allS_ok (bs := ds.map isNm) (sqL_adr (put_same.trans (by simp))), ?_⟩
    refine ⟨_, rfl, ?_⟩
    rw [all_bools]
    have e : isW .names (.tuple ds) = (ds.all isNm && risS (ds.map strD)) := rfl
    rw [e] at q
    cases ha : ds.all isNm with
    | false => rw [ha] at q; exact iteF ⟨w, Sub.new hp, q⟩
    | true =>
      rw [ha] at q
      refine iteT ⟨_, rfl, _, ds.map strD, rfl, .inl ?_, by rw [List.length_map]; exact hl, w, Sub.new hp, q⟩
      rw [← names_str ha]
  | none => walk_at "rr"; exact no rfl
  | bool _ => walk_at "rr"; exact no rfl
  | int _ => walk_at "rr"; exact no rfl
  | str _ => walk_at "rr"; exact no rfl
  | list _ => walk_at "rr"; exact no rfl
  | dict _ => walk_at "rr"; exact no rfl
theorem rd_is_most {ss w R} (h : c_is_most ss w R) : t_is_most (endsN R) (startD N_is_most ss) w := by
  obtain ⟨k, d, rfl, hb, q⟩ := h
  refine ⟨_, rfl, d, rfl, ?_⟩
  cases d with
  | int i => walk_at "rr"; exact ⟨w, Sub.refl _, q⟩
  | none => walk_at "rr"; exact ⟨w, Sub.refl _, q⟩
  | bool _ => walk_at "rr"; exact ⟨w, Sub.refl _, q⟩
  | str _ => walk_at "rr"; exact ⟨w, Sub.refl _, q⟩
  | list _ => walk_at "rr"; exact ⟨w, Sub.refl _, q⟩
  | tuple _ => walk_at "rr"; exact ⟨w, Sub.refl _, q⟩
  | dict _ => walk_at "rr"; exact ⟨w, Sub.refl _, q⟩
theorem shaped_of {d : PyData} (h1 : d.canLay0 = true) (h2 : d.depth ≤ 60) : SeqAt.shaped d = true := by
  unfold SeqAt.shaped
  rw [h1, decide_eq_true (by omega)]; rfl
theorem layAll : ∀ {ds : List PyData}, (∀ d ∈ ds, d.canLay0 = true) → PyData.canLayAll0 ds = true
  | [], _ => by simp [PyData.canLayAll0]
  | d :: r, h => by
    simp only [PyData.canLayAll0, Bool.and_eq_true]
    exact ⟨h d List.mem_cons_self, layAll fun e he => h e (List.mem_cons_of_mem _ he)⟩
theorem depAll {n : Nat} : ∀ {ds : List PyData}, (∀ d ∈ ds, d.depth ≤ n) → PyData.depthAll ds ≤ n
  | [], _ => by simp [PyData.depthAll]
  | d :: r, h => by
    simp only [PyData.depthAll]
    exact Nat.max_le.mpr ⟨h d List.mem_cons_self, depAll fun e he => h e (List.mem_cons_of_mem _ he)⟩
theorem isL_lt {c : Nat} (h : isL c = true) : c < 128 := by
  have h := of_decide_eq_true h
  have e : cp "abcdefghijklmnopqrstuvwxyz" = [97, 98, 99, 100, 101, 102, 103, 104, 105, 106, 107, 108, 109, 110, 111, 112, 113, 114, 115, 116, 117, 118, 119, 120, 121, 122] := by decide
  rw [e] at h
  simp only [List.mem_cons, List.not_mem_nil, or_false] at h
  omega
theorem nm_lay {d : PyData} (h : isNm d = true) : d.canLay0 = true ∧ d.depth = 0 := by
  cases d with
  | str z =>
    rw [isNm_str, Bool.and_eq_true, Bool.and_eq_true] at h
    refine ⟨?_, by simp [PyData.depth]⟩
    simp only [PyData.canLay0]
    unfold PyData.strOk
    rw [← Array.all_toList, List.all_eq_true]
    intro c hc
    have := isL_lt (List.all_eq_true.mp h.2.2 c hc)
    exact decide_eq_true (by omega)
  | none => cases h
  | bool _ => cases h
  | int _ => cases h
  | list _ => cases h
  | tuple _ => cases h
  | dict _ => cases h
theorem tup_lay {ds : List PyData} {n : Nat} (h : ∀ d ∈ ds, d.canLay0 = true ∧ d.depth ≤ n) : (PyData.tuple ds).canLay0 = true ∧ (PyData.tuple ds).depth ≤ n + 1 := by
  refine ⟨by simp only [PyData.canLay0]; exact layAll fun d hd => (h d hd).1, ?_⟩
  simp only [PyData.depth]
  have := depAll fun d hd => (h d hd).2
  omega
theorem int_lay (i : Int) (n : Nat) : (PyData.int i).canLay0 = true ∧ (PyData.int i).depth ≤ n := ⟨by simp only [PyData.canLay0], by simp [PyData.depth]⟩
theorem two_all {P : PyData → Prop} {a b : PyData} (ha : P a) (hb : P b) : ∀ d ∈ [a, b], P d := fun d hd => by
  simp only [List.mem_cons, List.not_mem_nil, or_false] at hd
  rcases hd with rfl | rfl
  · exact ha
  · exact hb
theorem bot_lay : ∀ k : Kn, (botD k).canLay0 = true ∧ (botD k).depth ≤ 2 * k.dep
  | .names => tup_lay (n := 1) fun d hd => nomatch hd
  | .most => int_lay 0 _
  | .last => tup_lay (n := 1) (two_all (int_lay _ _) (int_lay _ _))
  | .each k => by
    have := tup_lay (n := 1) (ds := []) fun d hd => nomatch hd
    have kp := k.dep_pos
    exact ⟨this.1, Nat.le_trans this.2 (by show 2 ≤ 2 * (k.dep + 1); omega)⟩
  | .both k l => by
    have h1 := bot_lay k
    have h2 := bot_lay l
    have := tup_lay (n := 2 * max k.dep l.dep) (two_all (P := fun d => d.canLay0 = true ∧ d.depth ≤ 2 * max k.dep l.dep) ⟨h1.1, by omega⟩ ⟨h2.1, by omega⟩)
    exact ⟨this.1, Nat.le_trans this.2 (by show _ ≤ 2 * (max k.dep l.dep + 1); omega)⟩
/-! ### what a worth is made of -/
theorem isW_names {d : PyData} (h : isW .names d = true) : ∃ ys : List Str, d = .tuple (ys.map .str) ∧ (∀ y ∈ ys, isNm (.str y) = true) ∧ risS ys = true := by
  cases d with
  | tuple ds =>
    have h : (ds.all isNm && risS (ds.map strD)) = true := h
    rw [Bool.and_eq_true] at h
    refine ⟨ds.map strD, by rw [← names_str h.1], fun y hy => ?_, h.2⟩
    obtain ⟨d, hd, rfl⟩ := List.mem_map.mp hy
    have := List.all_eq_true.mp h.1 d hd
    cases d with
    | str z => exact this
    | none => cases this
    | bool _ => cases this
    | int _ => cases this
    | list _ => cases this
    | tuple _ => cases this
    | dict _ => cases this
  | none => cases h
  | bool _ => cases h
  | int _ => cases h
  | str _ => cases h
  | list _ => cases h
  | dict _ => cases h
theorem isW_most {d : PyData} (h : isW .most d = true) : ∃ i : Int, d = .int i ∧ 0 ≤ i := by
  cases d with
  | int i => exact ⟨i, rfl, of_decide_eq_true h⟩
  | none => cases h
  | bool _ => cases h
  | str _ => cases h
  | list _ => cases h
  | tuple _ => cases h
  | dict _ => cases h
theorem isW_last {d : PyData} (h : isW .last d = true) : ∃ a b : Int, d = .tuple [.int a, .int b] ∧ (1 ≤ a ∨ a = 0 ∧ b = 0) := by
  unfold isW at h
  split at h
  · rename_i a b
    refine ⟨a, b, rfl, ?_⟩
    simpa using h
  · cases h
theorem isRow_ok {f : PyData → Bool} {bot d : PyData} (h : isRow f bot d = true) : ∃ (z : Str) (x : PyData), d = .tuple [.str z, x] ∧ isNm (.str z) = true ∧ f x = true ∧ PyData.eqv x bot = false := by
  unfold isRow at h
  split at h
  · rename_i n x
    rw [Bool.and_eq_true, Bool.and_eq_true] at h
    cases n with
    | str z => exact ⟨z, x, rfl, h.1, h.2.1, by simpa using h.2.2⟩
    | none => cases h.1
    | bool _ => cases h.1
    | int _ => cases h.1
    | list _ => cases h.1
    | tuple _ => cases h.1
    | dict _ => cases h.1
  · cases h
theorem isW_each {k : Kn} {d : PyData} (h : isW (.each k) d = true) : ∃ ds : List PyData, d = .tuple ds ∧ (∀ r ∈ ds, isRow (isW k) (botD k) r = true) ∧ risS (ds.map fun r => strD (fstD r)) = true := by
  cases d with
  | tuple ds =>
    have h : (ds.all (isRow (isW k) (botD k)) && risS (ds.map fun r => strD (fstD r))) = true := h
    rw [Bool.and_eq_true] at h
    exact ⟨ds, rfl, List.all_eq_true.mp h.1, h.2⟩
  | none => cases h
  | bool _ => cases h
  | int _ => cases h
  | str _ => cases h
  | list _ => cases h
  | dict _ => cases h
theorem isW_both {k l : Kn} {d : PyData} (h : isW (.both k l) d = true) : ∃ a b : PyData, d = .tuple [a, b] ∧ isW k a = true ∧ isW l b = true := by
  unfold isW at h
  split at h
  · rename_i a b
    rw [Bool.and_eq_true] at h
    exact ⟨a, b, rfl, h.1, h.2⟩
  · cases h
theorem isW_lay : ∀ (k : Kn) {d : PyData}, isW k d = true → d.canLay0 = true ∧ d.depth ≤ 2 * k.dep
  | .names, d, h => by
    obtain ⟨ys, rfl, hy, _⟩ := isW_names h
    exact tup_lay (n := 1) fun d hd => by
      obtain ⟨y, hy', rfl⟩ := List.mem_map.mp hd
      have := nm_lay (hy y hy')
      exact ⟨this.1, by omega⟩
  | .most, d, h => by
    obtain ⟨i, rfl, _⟩ := isW_most h
    exact int_lay i _
  | .last, d, h => by
    obtain ⟨a, b, rfl, _⟩ := isW_last h
    exact tup_lay (n := 1) (two_all (int_lay _ _) (int_lay _ _))
  | .each k, d, h => by
    obtain ⟨ds, rfl, hr, _⟩ := isW_each h
    exact tup_lay (n := 2 * k.dep + 1) fun d hd => by
      obtain ⟨z, x, rfl, h1, h2, _⟩ := isRow_ok (hr d hd)
      have a := nm_lay h1
      have b := isW_lay k h2
      exact tup_lay (two_all (P := fun d => d.canLay0 = true ∧ d.depth ≤ 2 * k.dep) ⟨a.1, by omega⟩ b)
  | .both k l, d, h => by
    obtain ⟨x, y, rfl, h1, h2⟩ := isW_both h
    have a := isW_lay k h1
    have b := isW_lay l h2
    have := tup_lay (n := 2 * max k.dep l.dep) (two_all (P := fun d => d.canLay0 = true ∧ d.depth ≤ 2 * max k.dep l.dep) ⟨a.1, by omega⟩ ⟨b.1, by omega⟩)
    exact ⟨this.1, Nat.le_trans this.2 (by show _ ≤ 2 * (max k.dep l.dep + 1); omega)⟩
theorem plainEq_of {d e : PyData} (h1 : SeqAt.shaped d = true) (h2 : SeqAt.shaped e = true) : DL.plainEq d e = some (PyData.eqv d e) := by
  have g : (if (SeqAt.shaped d && SeqAt.shaped e) = true then some (PyData.eqv d e) else none) = some (PyData.eqv d e) := by rw [h1, h2]; rfl
  unfold DL.plainEq
  split
  · simp [PyData.eqv]
  · simp [PyData.eqv]
  · simp [PyData.eqv]
  · exact g
theorem eq_bot {k : Kn} {d : PyData} (h : isW k d = true) (hk : k.dep ≤ 20) : DL.plainEq d (botD k) = some (PyData.eqv d (botD k)) := by
  have a := isW_lay k h
  have b := bot_lay k
  exact plainEq_of (shaped_of a.1 (by omega)) (shaped_of b.1 (by omega))
theorem lookup_LEAST (k : Kn) (h : ∀ a b, k ≠ .both a b) : kv_LEAST.lookup (wd k.d) = some (.dat (botD k)) := by
  cases k with
  | names => rfl
  | most => rfl
  | last => rfl
  | each k => rfl
  | both a b => exact absurd rfl (h a b)
end G

set_option Elab.async false
set_option linter.all false
set_option maxRecDepth 100000
set_option maxHeartbeats 4000000
/-! WorE: the look at worths: last ones, tables, pairs; the bottom -/
namespace G
open PySem PySem.Spec PyProof.Rows L2 DL
local macro_rules | `(tactic| walk_at "rr") => `(tactic| repeat (first | refine ⟨_, ix_t0, ?_⟩ | refine ⟨_, ix_t1, ?_⟩ | refine ⟨_, ix_t2, ?_⟩ | refine ⟨_, rfl, ?_⟩ | refine ⟨_, _, rfl, rfl, ?_⟩ | refine iteT ?_ | refine iteF ?_ | refine And.intro (sq_line (by simp)) ?_ | fail "stop"))
theorem len2 {w : Om} {ds : List PyData} : lenS w [.dat (.tuple ds)] = some (.v (.dat (.int ds.length))) := by
  rw [lenS_sq (xs := ds.map Sl.dat) rfl, List.length_map]
theorem ne2 {w : Om} {n : Nat} : eqS true w (.dat (.int (n : Nat))) (.dat (.int 2)) = some (.v (.dat (.bool (!decide (n = 2))))) := by
  rw [eqS_ok (d := .int (n : Nat)) (e := .int 2) rfl rfl rfl]
  have : (((n : Nat) : Int) == 2) = decide (n = 2) := by
    rw [DL.eq_bool, decide_eq_decide]; omega
  rw [this, Bool.bne_true]
theorem bot_eq {a b : Int} {w : Om} : eqS false w (.dat (.tuple [.int a, .int b])) (.dat (.tuple [.int 0, .int 0])) = some (.v (.dat (.bool (a == 0 && b == 0)))) := by
  have l1 := tup_lay (n := 1) (two_all (int_lay a _) (int_lay b _))
  have l2 := tup_lay (n := 1) (two_all (int_lay 0 _) (int_lay 0 _))
  rw [eqS_ok rfl rfl (plainEq_of (shaped_of l1.1 (by omega)) (shaped_of l2.1 (by omega)))]
  simp [PyData.eqv, PyData.eqvAll]
theorem rd_is_last {ss w R} (h : c_is_last ss w R) : t_is_last (endsN R) (startD N_is_last ss) w := by
  obtain ⟨k, d, rfl, hb, q⟩ := h
  have no : isW .last d = false → ∃ u, Sub u w ∧ R (.dat (.bool false)) u := fun e => ⟨w, Sub.refl _, by rw [e] at q; exact q⟩
  cases d with
  | tuple ds =>
    obtain ⟨hl, hd⟩ := bg_tup.mp hb
    refine ⟨_, rfl, _, rfl, _, rfl, iteF ?_⟩
    refine ⟨_, rfl, _, len2, ?_⟩
    refine ⟨_, ne2, _, rfl, ?_⟩
    refine iteB (fun c => ?_) fun c => ?_
    · refine iteT (no ?_)
      have c : ds.length ≠ 2 := by simpa using c
      match ds, c with
      | [], _ => rfl
      | [a], _ => cases a <;> rfl
      | [a, b], c => exact absurd rfl c
      | a :: b :: e :: r, _ => cases a <;> cases b <;> rfl
    have c : ds.length = 2 := by simpa using c
    match ds, c with
    | [a, b], _ =>
    refine ⟨_, rfl, _, rfl, ?_⟩
    refine lc_data (w := w) (i := 2) (fun d => .dat (.bool (isNo d))) trivial [a, b] [] (fun d hd2 C hC => ⟨_, rfl, d, rfl, hC⟩) (sq_line (by simp)) ?_
    intro p hp
    refine ⟨_, allS_ok (bs := [a, b].map isNo) (sqL_adr (put_same.trans (by simp))), _, rfl, ?_⟩
    have no' : isW .last (.tuple [a, b]) = false → ∃ u, Sub u (put w p (.lst [.dat (.bool (isNo a)), .dat (.bool (isNo b))])) ∧ R (.dat (.bool false)) u := fun e => ⟨w, Sub.new hp, by rw [e] at q; exact q⟩
    rw [all_bools]
    cases a with
    | int a =>
      cases b with
      | int b =>
        refine iteF ?_
        refine ⟨_, rfl, _, ix_t0, _, rfl, _, rfl, ?_⟩
        have e : isW .last (.tuple [.int a, .int b]) = (decide (1 ≤ a) || (a == 0 && b == 0)) := rfl
        refine iteD (fun c1 => ?_) fun c1 => ?_
        · rw [e, decide_eq_true c1] at q
          exact ⟨w, Sub.new hp, q⟩
        · rw [e, decide_eq_false c1] at q
          refine ⟨_, rfl, _, _, rfl, rfl, _, bot_eq, w, Sub.new hp, q⟩
      | none => exact iteT (no' rfl)
      | bool _ => exact iteT (no' rfl)
      | str _ => exact iteT (no' rfl)
      | list _ => exact iteT (no' rfl)
      | tuple _ => exact iteT (no' rfl)
      | dict _ => exact iteT (no' rfl)
    | none => exact iteT (no' rfl)
    | bool _ => exact iteT (no' rfl)
    | str _ => exact iteT (no' rfl)
    | list _ => exact iteT (no' rfl)
    | tuple _ => exact iteT (no' rfl)
    | dict _ => exact iteT (no' rfl)
  | none => walk_at "rr"; exact no rfl
  | bool _ => walk_at "rr"; exact no rfl
  | int _ => walk_at "rr"; exact no rfl
  | str _ => walk_at "rr"; exact no rfl
  | list _ => walk_at "rr"; exact no rfl
  | dict _ => walk_at "rr"; exact no rfl
theorem ne_bot {k : Kn} {d : PyData} {w : Om} (h : isW k d = true) (hk : k.dep ≤ 20) : eqS true w (.dat d) (.dat (botD k)) = some (.v (.dat (.bool (!(PyData.eqv d (botD k)))))) := by
  rw [eqS_ok rfl rfl (eq_bot h hk), Bool.bne_true]
theorem rd_is_row (n : Nat) {ss w R} (h : c_is_row n ss w R) : t_is_row (prev c_is_worth n) (endsN R) (startD N_is_row ss) w := by
  obtain ⟨k, d, rfl, hk, hn, hb, q⟩ := h
  obtain ⟨n, rfl⟩ : ∃ n', n = n' + 1 := ⟨n - 1, by omega⟩
  have no : isRow (isW k) (botD k) d = false → ∃ u, Sub u w ∧ R (.dat (.bool false)) u := fun e => ⟨w, Sub.refl _, by rw [e] at q; exact q⟩
  cases d with
  | tuple ds =>
    obtain ⟨hl, hd⟩ := bg_tup.mp hb
    refine ⟨_, rfl, _, rfl, _, rfl, iteF ?_⟩
    refine ⟨_, rfl, _, len2, ?_⟩
    refine ⟨_, ne2, _, rfl, ?_⟩
    refine iteB (fun c => ?_) fun c => ?_
    · refine iteT (no ?_)
      have c : ds.length ≠ 2 := by simpa using c
      match ds, c with
      | [], _ => rfl
      | [a], _ => rfl
      | [a, b], c => exact absurd rfl c
      | a :: b :: e :: r, _ => rfl
    have c : ds.length = 2 := by simpa using c
    match ds, c with
    | [a, b], _ =>
    have ba := hd a (by simp)
    have bb := hd b (by simp)
    have e : isRow (isW k) (botD k) (.tuple [a, b]) = (isNm a && (isW k b && !(PyData.eqv b (botD k)))) := rfl
    rw [e] at q
    refine ⟨_, rfl, _, ix_t0, a, rfl, ba, _, rfl, ?_⟩
    cases h1 : isNm a with
    | false => rw [h1] at q; exact iteT ⟨w, Sub.refl _, q⟩
    | true =>
      rw [h1, Bool.true_and] at q
      refine iteF ?_
      refine ⟨_, rfl, _, rfl, _, ix_t1, k, b, rfl, by omega, by omega, bb, _, rfl, ?_⟩
      cases h2 : isW k b with
      | false => rw [h2] at q; exact iteF ⟨w, Sub.refl _, q⟩
      | true =>
        rw [h2, Bool.true_and] at q
        refine iteT ?_
        refine ⟨_, rfl, _, ix_t1, _, rfl, k, rfl, by omega, _, ne_bot h2 (by omega), w, Sub.refl _, q⟩
  | none => walk_at "rr"; exact no rfl
  | bool _ => walk_at "rr"; exact no rfl
  | int _ => walk_at "rr"; exact no rfl
  | str _ => walk_at "rr"; exact no rfl
  | list _ => walk_at "rr"; exact no rfl
  | dict _ => walk_at "rr"; exact no rfl
theorem rows_fst {f : PyData → Bool} {bot : PyData} {ds : List PyData} (h : ∀ d ∈ ds, isRow f bot d = true) : (ds.map fun r => Sl.dat (fstD r)) = tS (ds.map fun r => strD (fstD r)) := by
  show _ = (ds.map fun r => strD (fstD r)).map fun k => Sl.dat (.str k)
  rw [List.map_map]
  refine List.map_congr_left fun d hd => ?_
  obtain ⟨z, x, rfl, _⟩ := isRow_ok (h d hd)
  rfl
theorem rd_is_table (n : Nat) {ss w R} (h : c_is_table n ss w R) : t_is_table (c_is_row n) (endsN R) (startD N_is_table ss) w := by
  obtain ⟨k, d, rfl, hk, hn, hb, q⟩ := h
  have no : isW (.each k) d = false → ∃ u, Sub u w ∧ R (.dat (.bool false)) u := fun e => ⟨w, Sub.refl _, by rw [e] at q; exact q⟩
  cases d with
  | tuple ds =>
    obtain ⟨hl, hd⟩ := bg_tup.mp hb
    have hl2 : ([] : List Sl).length + ds.length ≤ sizeLine := sq_line (by rw [List.length_nil]; omega)
    refine ⟨_, rfl, _, rfl, _, rfl, iteF ?_⟩
    refine ⟨_, rfl, _, rfl, ?_⟩
    refine lc_data (w := w) (i := 2) (fun d => .dat (.bool (isRow (isW k) (botD k) d))) trivial ds [] (fun d hd2 C hC => ?_) hl2 ?_
    · exact ⟨_, rfl, _, ix_t1, _, rfl, k, d, rfl, hk, hn, hd d hd2, hC⟩
    intro p hp
    refine ⟨_, allS_ok (bs := ds.map (isRow (isW k) (botD k))) (sqL_adr (put_same.trans (by simp))), _, rfl, ?_⟩
    rw [all_bools]
    have e : isW (.each k) (.tuple ds) = (ds.all (isRow (isW k) (botD k)) && risS (ds.map fun r => strD (fstD r))) := rfl
    rw [e] at q
    cases ha : ds.all (isRow (isW k) (botD k)) with
    | false => rw [ha] at q; exact iteT ⟨w, Sub.new hp, q⟩
    | true =>
      rw [ha, Bool.true_and] at q
      have ha' := List.all_eq_true.mp ha
      refine iteF ?_
      refine ⟨_, rfl, _, rfl, ?_⟩
      refine lc_data (i := 2) (fun d => .dat (fstD d)) trivial ds [] (fun d hd2 C hC => ?_) hl2 ?_
      · obtain ⟨z, x, rfl, _⟩ := isRow_ok (ha' d hd2)
        exact ⟨_, rfl, _, ix_t0, hC⟩
      intro p2 hp2
      dsimp only [dNil]
      refine ⟨_, ds.map fun r => strD (fstD r), rfl, .inr ⟨p2, rfl, ?_⟩, by rw [List.length_map]; exact hl, w, (Sub.new hp).trans (Sub.new hp2), q⟩
      rw [← rows_fst ha']
      exact put_same
  | none => walk_at "rr"; exact no rfl
  | bool _ => walk_at "rr"; exact no rfl
  | int _ => walk_at "rr"; exact no rfl
  | str _ => walk_at "rr"; exact no rfl
  | list _ => walk_at "rr"; exact no rfl
  | dict _ => walk_at "rr"; exact no rfl
theorem rd_is_pair (n : Nat) {ss w R} (h : c_is_pair n ss w R) : t_is_pair (prev c_is_worth n) (endsN R) (startD N_is_pair ss) w := by
  obtain ⟨k, l, d, rfl, hk, hk2, hn, hb, q⟩ := h
  obtain ⟨n, rfl⟩ : ∃ n', n = n' + 1 := ⟨n - 1, by omega⟩
  have no : isW (.both k l) d = false → ∃ u, Sub u w ∧ R (.dat (.bool false)) u := fun e => ⟨w, Sub.refl _, by rw [e] at q; exact q⟩
  cases d with
  | tuple ds =>
    obtain ⟨hl, hd⟩ := bg_tup.mp hb
    refine ⟨_, rfl, _, rfl, _, rfl, iteF ?_⟩
    refine ⟨_, rfl, _, len2, ?_⟩
    refine ⟨_, ne2, _, rfl, ?_⟩
    refine iteB (fun c => ?_) fun c => ?_
    · refine no ?_
      have c : ds.length ≠ 2 := by simpa using c
      match ds, c with
      | [], _ => rfl
      | [a], _ => rfl
      | [a, b], c => exact absurd rfl c
      | a :: b :: e :: r, _ => rfl
    have c : ds.length = 2 := by simpa using c
    match ds, c with
    | [a, b], _ =>
    have ba := hd a (by simp)
    have bb := hd b (by simp)
    have e : isW (.both k l) (.tuple [a, b]) = (isW k a && isW l b) := rfl
    rw [e] at q
    refine ⟨_, rfl, _, ix_t1, _, rfl, _, ix_t0, k, a, rfl, by omega, by omega, ba, _, rfl, ?_⟩
    cases h1 : isW k a with
    | false => rw [h1] at q; exact iteF ⟨w, Sub.refl _, q⟩
    | true =>
      rw [h1, Bool.true_and] at q
      refine iteT ?_
      exact ⟨_, rfl, _, ix_t2, _, rfl, _, ix_t1, l, b, rfl, by omega, by omega, bb, w, Sub.refl _, q⟩
  | none => walk_at "rr"; exact no rfl
  | bool _ => walk_at "rr"; exact no rfl
  | int _ => walk_at "rr"; exact no rfl
  | str _ => walk_at "rr"; exact no rfl
  | list _ => walk_at "rr"; exact no rfl
  | dict _ => walk_at "rr"; exact no rfl
theorem rd_is_worth (n : Nat) {fn fm fl ft fp ss w R} (h : c_is_worth n ss w R) : t_is_worth fn fm fl ft fp (c_is_table n) (c_is_pair n) (endsN R) (startD N_is_worth ss) w := by
  obtain ⟨k, d, rfl, hk, hn, hb, q⟩ := h
  have fin : ∃ u, Sub u w ∧ R (.dat (.bool (isW k d))) u := ⟨w, Sub.refl _, q⟩
  cases k with
  | names => exact ⟨_, rfl, _, ix_t0, _, _, rfl, rfl, .inl ⟨rfl, _, rfl, _, rfl, _, d, rfl, hb, fin⟩⟩
  | most => exact ⟨_, rfl, _, ix_t0, _, _, rfl, rfl, .inr (.inl ⟨rfl, _, rfl, _, rfl, _, d, rfl, hb, fin⟩)⟩
  | last => exact ⟨_, rfl, _, ix_t0, _, _, rfl, rfl, .inr (.inr (.inl ⟨rfl, _, rfl, _, rfl, _, d, rfl, hb, fin⟩))⟩
  | each k => exact ⟨_, rfl, _, ix_t0, _, _, rfl, rfl, .inr (.inr (.inr (.inl ⟨rfl, _, rfl, _, rfl, k, d, rfl, hk, hn, hb, fin⟩)))⟩
  | both k l =>
    have hk : max k.dep l.dep + 1 ≤ n := hk
    exact ⟨_, rfl, _, ix_t0, _, _, rfl, rfl, .inr (.inr (.inr (.inr ⟨rfl, _, rfl, _, rfl, k, l, d, rfl, by omega, by omega, hn, hb, fin⟩)))⟩
theorem rd_bottom (n : Nat) {ss w R} (h : c_bottom n ss w R) : t_bottom (prev c_bottom n) (endsN R) (startD N_bottom ss) w := by
  obtain ⟨k, rfl, hk, q⟩ := h
  have kp := k.dep_pos
  obtain ⟨n, rfl⟩ : ∃ n', n = n' + 1 := ⟨n - 1, by omega⟩
  have leaf : ∀ {z : Str} {r : List PyData} {b : PyData}, k.d = .tuple (.str z :: r) → (z == ("both" : Str)) = false → r.length ≤ 2 → kv_LEAST.lookup z = some (.dat b) → b = botD k → t_bottom (prev c_bottom (n + 1)) (endsN R) (startD N_bottom [.dat k.d]) w := fun {z r b} e1 e2 e3 e4 e5 => by
    rw [e1]
    refine ⟨_, rfl, _, rfl, ?_⟩
    refine gstar1 (by rw [List.length_map]; omega) fun p hp => ?_
    refine ⟨_, _, rfl, _, _, rfl, rfl, ?_⟩
    refine ⟨_, rfl, _, rfl, ?_⟩
    refine ⟨_, rfl, ?_⟩
    rw [e2]
    refine iteF ⟨_, rfl, z, _, rfl, e4, w, Sub.new hp, ?_⟩
    rw [e5]; exact q
  cases k with
  | names => exact leaf rfl (by decide) (by simp) rfl rfl
  | most => exact leaf rfl (by decide) (by simp) rfl rfl
  | last => exact leaf rfl (by decide) (by simp) rfl rfl
  | each k => exact leaf (r := [k.d]) rfl (by decide) (by simp) rfl rfl
  | both k l =>
    have hk : max k.dep l.dep + 1 ≤ n + 1 := hk
    refine ⟨_, rfl, _, rfl, ?_⟩
    refine gstar1 (by simp) fun p hp => ?_
    refine ⟨_, _, rfl, _, _, rfl, rfl, ?_⟩
    refine ⟨_, rfl, _, rfl, ?_⟩
    refine ⟨_, rfl, ?_⟩
    refine iteT ?_
    have hsq : put w p (.lst [.dat k.d, .dat l.d]) p = some (.lst [.dat k.d, .dat l.d]) := put_same
    refine ⟨_, rfl, [.dat k.d, .dat l.d], sq_adr hsq, ?_⟩
    refine ⟨hsq, ⟨_, rfl, k, rfl, by omega, by decide, hsq, _, rfl, l, rfl, by omega, by show 1 < sizeLine; decide, hsq, ?_⟩⟩
    intro p2 hp2
    refine ⟨_, tupS_ok (ds := [botD k, botD l]) (sqL_adr put_same), w, (Sub.new hp).trans (Sub.new hp2), q⟩
end G

set_option Elab.async false
set_option linter.all false
set_option maxRecDepth 100000
set_option maxHeartbeats 4000000
/-! WorF: the writing of a worth -/
namespace G
open PySem PySem.Spec PyProof.Rows L2 DL
local macro_rules | `(tactic| walk_at "rr") => `(tactic| repeat (first | refine ⟨_, ix_t0, ?_⟩ | refine ⟨_, ix_t1, ?_⟩ | refine ⟨_, ix_t2, ?_⟩ | refine ⟨_, rfl, ?_⟩ | refine ⟨_, _, rfl, rfl, ?_⟩ | refine iteT ?_ | refine iteF ?_ | refine And.intro (sq_line (by simp)) ?_ | fail "stop"))
theorem join_cp (sep : Str) : ∀ ys : List Str, cp (Txt.join sep ys) = jnL (cp sep) (ys.map cp)
  | [] => by rw [TL.join_eq]; rfl
  | [y] => by rw [TL.join_eq]; rfl
  | y :: x :: r => by
    have ih := join_cp sep (x :: r)
    rw [TL.join_eq] at ih ⊢
    show cp (y ++ sep ++ Str.join sep (x :: r)) = cp y ++ (cp sep ++ jnL (cp sep) ((x :: r).map cp))
    rw [cp_app, cp_app, ih, List.append_assoc]
theorem jn_len (sep : List Nat) : ∀ ls : List (List Nat), (ls.map (·.length)).sum + ls.length * sep.length ≤ (jnL sep ls).length + sep.length
  | [] => by simp
  | [l] => by simp [jnL]
  | l :: m :: r => by
    have ih := jn_len sep (m :: r)
    show _ ≤ (l ++ (sep ++ jnL sep (m :: r))).length + sep.length
    rw [List.map_cons, List.sum_cons, List.length_append, List.length_append, List.length_cons, Nat.add_mul, Nat.one_mul]
    omega
theorem join_room {sep : Str} {ys : List Str} {n : Nat} (h : (jnL (cp sep) (ys.map cp)).length ≤ 100000) (hs : sep.length ≤ 10) : (ys.map (·.length)).sum + ys.length * sep.length ≤ 16777216 := by
  have := jn_len (cp sep) (ys.map cp)
  rw [List.map_map, List.length_map] at this
  have e : (ys.map ((fun l : List Nat => l.length) ∘ cp)) = ys.map (·.length) := List.map_congr_left fun y _ => (len_cp y).symm
  rw [e, ← len_cp] at this
  omega
theorem jn_part {sep : List Nat} : ∀ {ls : List (List Nat)} {l : List Nat}, l ∈ ls → l.length ≤ (jnL sep ls).length
  | [a], l, h => by rw [List.mem_singleton] at h; rw [h]; exact Nat.le_refl _
  | a :: b :: r, l, h => by
    show _ ≤ (a ++ (sep ++ jnL sep (b :: r))).length
    rw [List.length_append, List.length_append]
    rcases List.mem_cons.mp h with rfl | h
    · omega
    · have := jn_part (sep := sep) h; omega
theorem small_log {i : Int} (h : i.natAbs < 2 ^ 1000) : i.natAbs.log2 < 1920 := by
  have := PySem.Flt.log2_lt_of (show 0 < 1000 by decide) h
  omega
theorem fmtI {te : DTE} {ρ : DEnv} {w : Om} {R : DQ} {i : Int} (h : i.natAbs < 2 ^ 1000) (he : ∀ C : DQ, C (.dat (.int i)) w → te ρ w C) (q : R (.dat (.str (tx (intL i)))) w) : dFmt te ρ w R := by
  refine he _ (.inr ⟨i, rfl, small_log h, ?_⟩)
  rw [int_txt]; exact q
/-- a comprehension over pairs -/
theorem lc_rows {ok : Om → Prop} {te : DTE} {ρ : DEnv} {i j : Nat} {k : List Sl → Om → Prop} {w : Om} {g : PyData → Sl} (hok : ok w) : ∀ (ds : List PyData) (acc : List Sl), (∀ d ∈ ds, ∃ a b, d = .tuple [a, b] ∧ ∀ C : DQ, C (g d) w → te ((ρ.set i (some (.dat a))).set j (some (.dat b))) w C) → acc.length + ds.length ≤ sizeLine → k (acc ++ ds.map g) w → dLcL ok (dGTup 2 (dGCons (dName i) (dGCons (dName j) dGNil))) dYes te ρ k (ds.map Sl.dat) acc w
  | [], acc, _, _, h => ⟨hok, by simpa using h⟩
  | d :: ds, acc, hs, hl, h => by
    refine ⟨hok, ?_⟩
    obtain ⟨a, b, rfl, q⟩ := hs d List.mem_cons_self
    refine ⟨[.dat a, .dat b], rfl, rfl, _, _, rfl, _, _, rfl, rfl, ?_⟩
    exact q (fun y w4 => acc.length < sizeLine ∧ dLcL ok (dGTup 2 (dGCons (dName i) (dGCons (dName j) dGNil))) dYes te ρ k (ds.map Sl.dat) (acc ++ [y]) w4) ⟨by simp at hl; omega, lc_rows hok ds _ (fun z hz => hs z (List.mem_cons_of_mem _ hz)) (by simp at hl ⊢; omega) (by simpa using h)⟩
theorem rd_show_worth (n : Nat) {ss w R} (h : c_show_worth n ss w R) : t_show_worth (prev c_show_worth n) (endsN R) (startD N_show_worth ss) w := by
  obtain ⟨k, d, rfl, hk, hw, hb, hl, q⟩ := h
  have kp := k.dep_pos
  have lv := line_val
  obtain ⟨n, rfl⟩ : ∃ n', n = n' + 1 := ⟨n - 1, by omega⟩
  have fin : ∀ {y : Str}, cp y = shW k d → ∃ u, Sub u w ∧ R (.dat (.str y)) u := fun e => ⟨w, Sub.refl _, by
    have := cp_inj (x := tx (shW k d)) e.symm
    rw [← this]; exact q⟩
  cases k with
  | names =>
    obtain ⟨ys, rfl, hy, _⟩ := isW_names hw
    have es : shW .names (.tuple (ys.map .str)) = cp "{" ++ (jnL (cp " ") (ys.map cp) ++ cp "}") := by
      show cp "{" ++ (jnL (cp " ") ((ys.map PyData.str).map fun n => cp (strD n)) ++ cp "}") = _
      rw [List.map_map]; rfl
    rw [es] at hl
    have l1 : (cp "{").length = 1 := by decide
    have l2 : (cp "}").length = 1 := by decide
    rw [List.length_append, List.length_append, l1, l2] at hl
    have jl : (Txt.join " " ys).length = (jnL (cp " ") (ys.map cp)).length := by rw [len_cp, join_cp]
    walk_at "rr"
    refine ⟨_, ys, rfl, by rw [List.map_map]; rfl, join_room (n := 0) (by omega) (by decide), ?_⟩
    refine ⟨_, addT (by have : (Str.ofString "{").length = 1 := by decide
                        omega), ?_⟩
    refine ⟨_, addT (by have a1 : (Str.ofString "{").length = 1 := by decide
                        have a2 : (Str.ofString "}").length = 1 := by decide
                        rw [Str.length_append]; omega), ?_⟩
    refine fin ?_
    rw [es, cp_app, cp_app, join_cp, List.append_assoc]
  | most =>
    obtain ⟨i, rfl, _⟩ := isW_most hw
    have hi := bg_int.mp hb
    walk_at "rr"
    refine ⟨_, strS_ok (small_log hi), fin ?_⟩
    exact txt_int i
  | last =>
    obtain ⟨a, b, rfl, _⟩ := isW_last hw
    obtain ⟨_, hd⟩ := bg_tup.mp hb
    have ha := bg_int.mp (hd (.int a) (by simp))
    have hb := bg_int.mp (hd (.int b) (by simp))
    have es : shW .last (.tuple [.int a, .int b]) = intL a ++ (cp "@" ++ intL b) := rfl
    rw [es] at hl
    have l1 : (cp "@").length = 1 := by decide
    have l2 : (Str.ofString "@").length = 1 := by decide
    rw [List.length_append, List.length_append, l1] at hl
    have e1 := tx_len (intL a)
    have e2 := tx_len (intL b)
    walk_at "rr"
    refine .inr ⟨a, rfl, small_log ha, ?_⟩
    rw [int_txt]
    refine ⟨_, rfl, by rw [empty_ap]; omega, ?_⟩
    refine ⟨_, rfl, by rw [empty_ap, Str.length_append]; omega, ?_⟩
    refine fmtI hb (fun C hC => (⟨_, rfl, _, ix_t1, hC⟩ : ∃ s, _)) ?_
    refine ⟨_, rfl, by rw [empty_ap, Str.length_append, Str.length_append]; omega, ?_⟩
    refine fin ?_
    rw [es, empty_ap, cp_app, cp_app, List.append_assoc]
  | each k =>
    obtain ⟨ds, rfl, hr, _⟩ := isW_each hw
    obtain ⟨hn, hd⟩ := bg_tup.mp hb
    have hk : k.dep + 1 ≤ n + 1 := hk
    have es : shW (.each k) (.tuple ds) = cp "[" ++ (jnL (cp ", ") (ds.map fun r => cp (strD (fstD r)) ++ (cp ": " ++ shW k (sndD r))) ++ cp "]") := rfl
    rw [es] at hl
    have l1 : (cp "[").length = 1 := by decide
    have l2 : (cp "]").length = 1 := by decide
    rw [List.length_append, List.length_append, l1, l2] at hl
    walk_at "rr"
    have hrow : ∀ d ∈ ds, (cp (strD (fstD d)) ++ (cp ": " ++ shW k (sndD d))).length ≤ 100000 := fun d hd2 => by
      have := jn_part (sep := cp ", ") (List.mem_map.mpr ⟨d, hd2, rfl⟩ : cp (strD (fstD d)) ++ (cp ": " ++ shW k (sndD d)) ∈ ds.map fun r => cp (strD (fstD r)) ++ (cp ": " ++ shW k (sndD r)))
      omega
    refine lc_rows (w := w) (g := fun d => .dat (.str (tx (cp (strD (fstD d)) ++ (cp ": " ++ shW k (sndD d)))))) trivial ds [] (fun d hd2 => ?_) (sq_line (by rw [List.length_nil]; omega)) ?_
    · have hr' := hrow d hd2
      have hb' := hd d hd2
      obtain ⟨z, x, rfl, hz, hx, _⟩ := isRow_ok (hr d hd2)
      refine ⟨_, _, rfl, fun C hC => ?_⟩
      have hr2 : (cp z ++ (cp ": " ++ shW k x)).length ≤ 100000 := hr'
      have l3 : (cp ": ").length = 2 := by decide
      have m3 : (Str.ofString ": ").length = 2 := by decide
      rw [List.length_append, List.length_append, l3, ← len_cp] at hr2
      have e1 := tx_len (shW k x)
      refine ⟨_, rfl, _, addT (by omega), ?_⟩
      refine ⟨_, rfl, _, ix_t1, _, rfl, k, x, rfl, by omega, hx, (bg_tup.mp hb').2 x (by simp), by omega, ?_⟩
      refine ⟨_, addT (by rw [Str.length_append]; omega), ?_⟩
      have e : z ++ Str.ofString ": " ++ tx (shW k x) = tx (cp z ++ (cp ": " ++ shW k x)) := by
        apply cp_inj
        simp only [cp_app, List.append_assoc]
      rw [e]
      exact hC
    · intro p hp
      have em : (ds.map fun d => tx (cp (strD (fstD d)) ++ (cp ": " ++ shW k (sndD d)))).map cp = ds.map fun r => cp (strD (fstD r)) ++ (cp ": " ++ shW k (sndD r)) := by rw [List.map_map]; rfl
      have jl : (Txt.join ", " (ds.map fun d => tx (cp (strD (fstD d)) ++ (cp ": " ++ shW k (sndD d))))).length = (jnL (cp ", ") (ds.map fun r => cp (strD (fstD r)) ++ (cp ": " ++ shW k (sndD r)))).length := by rw [len_cp, join_cp, em]
      refine ⟨_, ds.map fun d => tx (cp (strD (fstD d)) ++ (cp ": " ++ shW k (sndD d))), sq_adr put_same, by rw [List.map_map]; rfl, join_room (n := 0) (by rw [em]; omega) (by decide), ?_⟩
      refine ⟨_, addT (by have : (Str.ofString "[").length = 1 := by decide
                          omega), ?_⟩
      refine ⟨_, addT (by have a1 : (Str.ofString "[").length = 1 := by decide
                          have a2 : (Str.ofString "]").length = 1 := by decide
                          rw [Str.length_append]; omega), ?_⟩
      have ef : cp (Str.ofString "[" ++ Txt.join ", " (ds.map fun d => tx (cp (strD (fstD d)) ++ (cp ": " ++ shW k (sndD d)))) ++ Str.ofString "]") = shW (.each k) (.tuple ds) := by
        rw [es, cp_app, cp_app, join_cp, em, List.append_assoc]
      have := cp_inj (x := tx (shW (.each k) (.tuple ds))) ef.symm
      refine ⟨w, Sub.new hp, ?_⟩
      rw [← this]; exact q
  | both k l =>
    obtain ⟨a, b, rfl, h1, h2⟩ := isW_both hw
    obtain ⟨_, hd⟩ := bg_tup.mp hb
    have ba := hd a (by simp)
    have bb := hd b (by simp)
    have hk : max k.dep l.dep + 1 ≤ n + 1 := hk
    have es : shW (.both k l) (.tuple [a, b]) = cp "(" ++ (shW k a ++ (cp ", " ++ (shW l b ++ cp ")"))) := rfl
    rw [es] at hl
    have l1 : (cp "(").length = 1 := by decide
    have l2 : (cp ", ").length = 2 := by decide
    have l3 : (cp ")").length = 1 := by decide
    have m1 : (Str.ofString "(").length = 1 := by decide
    have m2 : (Str.ofString ", ").length = 2 := by decide
    have m3 : (Str.ofString ")").length = 1 := by decide
    simp only [List.length_append, l1, l2, l3] at hl
    have e1 := tx_len (shW k a)
    have e2 := tx_len (shW l b)
    walk_at "rr"
    refine ⟨by rw [empty_ap]; omega, ?_⟩
    refine ⟨_, rfl, _, ix_t1, _, rfl, _, ix_t0, k, a, rfl, by omega, h1, ba, by omega, ?_⟩
    refine .inl ⟨_, rfl, by omega, ?_⟩
    refine ⟨_, rfl, by rw [empty_ap, Str.length_append]; omega, ?_⟩
    refine ⟨_, rfl, by rw [empty_ap, Str.length_append, Str.length_append]; omega, ?_⟩
    refine ⟨_, rfl, _, ix_t2, _, rfl, _, ix_t1, l, b, rfl, by omega, h2, bb, by omega, ?_⟩
    refine .inl ⟨_, rfl, by omega, ?_⟩
    refine ⟨_, rfl, by rw [empty_ap, Str.length_append, Str.length_append, Str.length_append]; omega, ?_⟩
    refine ⟨_, rfl, by rw [empty_ap, Str.length_append, Str.length_append, Str.length_append, Str.length_append]; omega, ?_⟩
    refine fin ?_
    rw [es, empty_ap]
    simp only [cp_app, List.append_assoc]
end G

set_option Elab.async false
set_option linter.all false
set_option maxRecDepth 100000
set_option maxHeartbeats 4000000
/-! WorG: the reading of numbers and of names -/
namespace G
open PySem PySem.Spec PyProof.Rows L2 DL
local macro_rules | `(tactic| walk_at "rr") => `(tactic| repeat (first | refine ⟨_, ix_t0, ?_⟩ | refine ⟨_, ix_t1, ?_⟩ | refine ⟨_, ix_t2, ?_⟩ | refine ⟨_, rfl, ?_⟩ | refine ⟨_, _, rfl, rfl, ?_⟩ | refine iteT ?_ | refine iteF ?_ | refine And.intro (sq_line (by simp)) ?_ | fail "stop"))
theorem stop_dropF (s : List Nat) : s.dropWhile isF = [] ∨ ∃ c r, s.dropWhile isF = c :: r ∧ ¬ c ∈ cp "0123456789" := by
  induction s with
  | nil => exact .inl rfl
  | cons c s ih =>
    by_cases h : isF c = true
    · rw [List.dropWhile_cons_of_pos h]; exact ih
    · rw [List.dropWhile_cons_of_neg h]
      exact .inr ⟨c, s, rfl, fun m => h (decide_eq_true m)⟩
theorem all_takeF (s : List Nat) : ∀ c ∈ s.takeWhile isF, c ∈ cp "0123456789" := by
  induction s with
  | nil => intro c hc; cases hc
  | cons a s ih =>
    intro c hc
    by_cases h : isF a = true
    · rw [List.takeWhile_cons_of_pos h] at hc
      rcases List.mem_cons.mp hc with rfl | hc
      · exact of_decide_eq_true h
      · exact ih c hc
    · rw [List.takeWhile_cons_of_neg h] at hc; cases hc
theorem if_or3 {t1 t2 t3 : DTT} {ρ : DEnv} {w : Om} {a b : DTS} {E : DEnds} (k1 k2 k3 : Bool) (h1 : ∀ C : Bool → Om → Prop, C k1 w → t1 ρ w C) (h2 : k1 = false → ∀ C : Bool → Om → Prop, C k2 w → t2 ρ w C) (h3 : k1 = false → k2 = false → ∀ C : Bool → Om → Prop, C k3 w → t3 ρ w C) (hT : (k1 = true ∨ k2 = true ∨ k3 = true) → a E ρ w) (hF : k1 = false → k2 = false → k3 = false → b E ρ w) : dIfS (dOr t1 (dOr t2 t3)) a b E ρ w := by
  refine h1 _ ?_
  cases k1 with
  | true => exact iteT (iteT (hT (.inl rfl)))
  | false =>
    refine iteF (h2 rfl _ ?_)
    cases k2 with
    | true => exact iteT (iteT (hT (.inr (.inl rfl))))
    | false =>
      refine iteF (h3 rfl rfl _ ?_)
      cases k3 with
      | true => exact iteT (hT (.inr (.inr rfl)))
      | false => exact iteF (hF rfl rfl rfl)
theorem seq_ret {t u : DTS} {F : DEnds} {ρ : DEnv} {w : Om} (h : t { F with nx := u F } ρ w) : dSeq t u F ρ w := h
theorem rd_Source_read_count {cS cN ss w R Y} (h : c_Source_read_count cS cN ss w R Y) : t_Source_read_count cS cN (ZF Y) (endsN R) (startD N_Source_read_count ss) w := by
  obtain ⟨x, rfl, z, pre, s, hw, hz, hl, q1, q2⟩ := h
  have hl' : z.length ≤ sizeLine := Nat.le_trans hl (by decide)
  have hs : s = s.takeWhile isF ++ s.dropWhile isF := List.takeWhile_append_dropWhile.symm
  have hz1 : cp z = (pre ++ s.takeWhile isF) ++ s.dropWhile isF := by rw [List.append_assoc, ← hs]; exact hz
  refine seq_ret ?_
  refine ⟨_, rfl, x, _, rfl, hw, src_no (by decide) (by decide), ?_⟩
  refine ⟨x, z, _, pre, s.takeWhile isF, s.dropWhile isF, rfl, hw, by rw [← hs]; exact hz, hl', all_takeF s, stop_dropF s, ?_⟩
  have rN : badC (s.takeWhile isF) → RdC s none := .no
  have rY : ¬ badC (s.takeWhile isF) → RdC s (some (NumText.digitsVal (s.takeWhile isF), s.dropWhile isF)) := .yes
  have hF := take_F s
  generalize hd : s.dropWhile isF = dw at *
  generalize ht : s.takeWhile isF = tw at *
  have ztw : tw.length ≤ z.length := by rw [len_cp, hz1]; simp; omega
  have htl : (tx tw).length ≤ sizeLine := by rw [tx_len]; omega
  unfold dName
  dsimp only
  refine seq_ret ?_
  refine if_or3 (decide (tw = [])) (decide (60 < tw.length)) (decide (tw.head? = some 48 ∧ tw ≠ [48])) (fun C hC => ?_) (fun _ C hC => ?_) (fun k1 _ C hC => ?_) (fun k => ?_) fun k1 k2 k3 => ?_
  · refine ⟨_, rfl, _, rfl, _, rfl, ?_⟩
    show C ((tx tw == "") != false) _
    rw [beq_cp, Bool.bne_false]
    exact hC
  · refine ⟨_, rfl, _, lenS_str htl, _, rfl, _, rfl, ?_⟩
    have : decide ((60 : Int) < ((tx tw).length : Nat)) = decide (60 < tw.length) := by rw [decide_eq_decide, tx_len]; omega
    show C (decide ((60 : Int) < ((tx tw).length : Nat))) _
    rw [this]
    exact hC
  · have k1 := of_decide_eq_false k1
    obtain ⟨c, r, e⟩ : ∃ c r, tw = c :: r := by cases tw with
      | nil => exact absurd rfl k1
      | cons c r => exact ⟨c, r, rfl⟩
    refine ⟨_, rfl, _, ixS_str htl (c := c) (by show atI tw 0 = _; rw [e]; exact atI_nat (j := 0) rfl), _, rfl, _, rfl, ?_⟩
    have e1 : ((⟨#[c]⟩ : Str) == "0") = decide (c = 48) := by
      have := beq_cp [c] "0"
      rw [show tx [c] = (⟨#[c]⟩ : Str) from rfl] at this
      rw [this, decide_eq_decide]
      have : cp "0" = [48] := by decide
      rw [this]; simp
    show if ((⟨#[c]⟩ : Str) == "0") != false then _ else _
    rw [e1, Bool.bne_false]
    refine iteD (fun c1 => ?_) fun c1 => ?_
    · refine ⟨_, rfl, _, rfl, _, rfl, ?_⟩
      have : (decide (tw.head? = some 48 ∧ tw ≠ [48])) = (!decide (tw = [48])) := by
        rw [e, c1]; simp
      rw [this] at hC
      show C ((tx tw == "0") != true) _
      rw [beq_cp, Bool.bne_true]
      have : cp "0" = [48] := by decide
      rw [this]
      exact hC
    · have : (decide (tw.head? = some 48 ∧ tw ≠ [48])) = false := by
        rw [e]; simp [c1]
      rw [this] at hC
      exact hC
  · refine ⟨_, Sub.refl _, q2 (rN ?_) _⟩
    rcases k with k | k | k
    · exact .inl (of_decide_eq_true k)
    · exact .inr (.inl (of_decide_eq_true k))
    · exact .inr (.inr (of_decide_eq_true k))
  · have nb : ¬ badC tw := fun b => by
      rcases b with b | b | b
      · exact of_decide_eq_false k1 b
      · exact of_decide_eq_false k2 b
      · exact of_decide_eq_false k3 b
    have k2 := of_decide_eq_false k2
    have it : intText? (tx tw) = some ((NumText.digitsVal tw : Nat) : Int) := intText_digits (x := tx tw) hF (of_decide_eq_false k1) (by rw [tx_len]; omega)
    refine ⟨_, rfl, _, intT_ok (by rw [tx_len]; omega) it, _, Sub.refl _, ?_⟩
    have := q1 _ dw (pre ++ tw) (rY nb) hz1
    rw [List.length_append] at this
    exact this
theorem rdct {α : Type} {cS cN : Addr} {Rd : List Nat → Option (α × List Nat) → Prop} {f : α → PyData} {x : Addr} {w : Om} {z : Str} {pre s : List Nat} {p : Nat} {R : DQ} {Y : XY} (hz : cp z = pre ++ s) (hl : z.length ≤ 100000) (hp : p = pre.length) (q1 : ∀ a r pre', Rd s (some (a, r)) → cp z = pre' ++ r → R (.dat (f a)) (put w x (srcO cS z pre'.length))) (q2 : Rd s none → ∀ p, Y cN none (put w x (srcO cS z p))) : RdCt cS cN Rd f x (put w x (srcO cS z p)) R Y := by
  subst hp
  refine ⟨z, pre, s, put_same, hz, hl, fun a r pre' h1 h2 => ?_, fun h p => ?_⟩
  · rw [put_put]; exact q1 a r pre' h1 h2
  · rw [put_put]; exact q2 h p
theorem rd_Source_read_signed {cS cN ss w R Y} (h : c_Source_read_signed cS cN ss w R Y) : t_Source_read_signed cS cN (ZF Y) (endsN R) (startD N_Source_read_signed ss) w := by
  obtain ⟨x, rfl, z, pre, s, hw, hz, hl, q1, q2⟩ := h
  refine ⟨_, rfl, x, _, rfl, hw, src_no (by decide) (by decide), ?_⟩
  refine ⟨x, z, _, _, rfl, hw, ?_⟩
  rw [starts3 hz]
  cases hc : cutP (cp "-") s with
  | none =>
    refine ⟨_, rfl, iteT ?_⟩
    refine ⟨_, rfl, x, _, rfl, hw, src_no (by decide) (by decide), ?_⟩
    refine ⟨x, rfl, z, pre, s, hw, hz, hl, fun n r pre' h1 h2 => ⟨_, Sub.refl _, ?_⟩, fun h1 p => ⟨_, Sub.refl _, q2 (.pos (o := none) hc h1) p⟩⟩
    exact q1 _ r pre' (.pos (o := some (n, r)) hc h1) h2
  | some r =>
    refine ⟨_, rfl, iteF ?_⟩
    refine ⟨_, rfl, x, _, rfl, hw, src_no (by decide) (by decide), ?_⟩
    refine ⟨x, z, _, pre, s, rfl, hw, hz, by decide, fun r' hr => ?_, fun hr => by rw [hc] at hr; cases hr⟩
    cases hc.symm.trans hr
    have hz1 : cp z = (pre ++ cp "-") ++ r := by rw [List.append_assoc, ← cutP_some hc]; exact hz
    refine ⟨_, rfl, x, _, rfl, put_same, src_no (by decide) (by decide), ?_⟩
    refine ⟨x, rfl, rdct hz1 hl rfl (fun n r2 pre' h1 h2 => ?_) fun h1 p => ⟨_, Sub.refl _, q2 (.bad hc h1) p⟩⟩
    refine ⟨_, rfl, _, rfl, ?_⟩
    refine ⟨_, rfl, ?_⟩
    have e : ((((n : Nat) : Int) == 0) != false) = decide (n = 0) := by
      rw [Bool.bne_false, DL.eq_bool, decide_eq_decide]; omega
    show if ((((n : Nat) : Int) == 0) != false) = true then _ else _
    rw [e]
    refine iteD (fun c => ?_) fun c => ?_
    · subst c
      exact ⟨_, Sub.refl _, q2 (.zero hc h1) _⟩
    · refine ⟨_, rfl, _, rfl, _, Sub.refl _, ?_⟩
      exact q1 _ r2 pre' (.neg hc h1 c) h2
theorem rd_most_read {cS cN ss w R Y} (h : c_most_read cS cN ss w R Y) : t_most_read cS cN (ZF Y) (endsN R) (startD N_most_read ss) w := by
  obtain ⟨k, x, rfl, z, pre, s, hw, hz, hl, q1, q2⟩ := h
  refine ⟨_, rfl, x, _, rfl, hw, src_no (by decide) (by decide), ?_⟩
  refine ⟨x, rfl, z, pre, s, hw, hz, hl, fun n r pre' h1 h2 => ⟨_, Sub.refl _, ?_⟩, fun h1 p => ⟨_, Sub.refl _, q2 (.go (o := none) h1) p⟩⟩
  exact q1 _ r pre' (.go (o := some (n, r)) h1) h2
theorem rd_last_read {cS cN ss w R Y} (h : c_last_read cS cN ss w R Y) : t_last_read cS cN (ZF Y) (endsN R) (startD N_last_read ss) w := by
  obtain ⟨k, x, rfl, z, pre, s, hw, hz, hl, q1, q2⟩ := h
  refine ⟨_, rfl, x, _, rfl, hw, src_no (by decide) (by decide), ?_⟩
  refine ⟨x, rfl, z, pre, s, hw, hz, hl, fun n r pre1 h1 h2 => ?_, fun h1 p => ⟨_, Sub.refl _, q2 (.no1 h1) p⟩⟩
  refine ⟨_, rfl, x, _, rfl, put_same, src_no (by decide) (by decide), ?_⟩
  dsimp only [dCons, dC, dNil]
  refine pastX (y := "@") h2 (by decide) rfl (fun r2 h3 => ?_) fun h3 => ⟨_, Sub.refl _, q2 (.no2 h1 h3) _⟩
  have hz2 : cp z = (pre1 ++ cp "@") ++ r2 := by rw [List.append_assoc, ← cutP_some h3]; exact h2
  refine ⟨_, rfl, ?_⟩
  refine ⟨_, rfl, x, _, rfl, put_same, src_no (by decide) (by decide), ?_⟩
  refine ⟨x, rfl, rdct hz2 hl rfl (fun i r3 pre3 h4 h5 => ?_) fun h4 p => ⟨_, Sub.refl _, q2 (.go (o := none) h1 h3 h4) p⟩⟩
  refine ⟨by show 2 ≤ sizeLine; decide, _, Sub.refl _, ?_⟩
  exact q1 _ r3 pre3 (.go (o := some (i, r3)) h1 h3 h4) h5
end G

set_option Elab.async false
set_option linter.all false
set_option maxRecDepth 100000
set_option maxHeartbeats 4000000
/-! WorH: the reading of names, tables, pairs -/
namespace G
open PySem PySem.Spec PyProof.Rows L2 DL
theorem sub_put_ne {A W : Om} {p : Addr} {o : OO} (h : Sub A W) (hp : A p = none) : Sub A (put W p o) := fun a u e => by
  have : a ≠ p := fun z => by rw [z, hp] at e; cases e
  rw [put_ne this]; exact h a u e
theorem sub_src {w W : Om} {x : Addr} {o o' : OO} (h : Sub (put w x o) W) : Sub (put w x o') (put W x o') := by
  have := h.put (a := x) (o := o')
  rw [put_put] at this
  exact this
theorem sub_at {w W : Om} {x : Addr} {o : OO} (h : Sub (put w x o) W) : W x = some o := h x o put_same
theorem eqE_no {n : Bool} {W : Om} {p q : Addr} {xs : List Sl} (h : W p = some (.lst xs)) (h' : W q = some (.lst [])) : eqE n W (.adr p) (.adr q) = some (.v (.dat (.bool (xs.isEmpty != n)))) := eqE_l (sqL_adr h) (sqL_adr h')
/-- past a sign, in any store -/
theorem pastW {cS cN x : Addr} {W : Om} {z y : Str} {pre s : List Nat} {R : DQ} {Y : XY} (hx : W x = some (srcO cS z pre.length)) (hz : cp z = pre ++ s) (hy : y.length ≤ sizeLine) (q1 : ∀ r, cutP (cp y) s = some r → R (.dat .none) (put W x (srcO cS z (pre ++ cp y).length))) (q2 : cutP (cp y) s = none → Y cN none W) : c_Source_goes_past cS cN [.adr x, .dat (.str y)] W R Y :=
  ⟨x, z, y, pre, s, rfl, hx, hz, hy, q1, q2⟩
theorem tS_tx (acc : List (List Nat)) (n : List Nat) : tS (acc.map tx) ++ [.dat (.str (tx n))] = tS ((acc ++ [n]).map tx) := by simp
theorem nat_lt_of_pos {a b : Nat} (h : a = b + 1) : b < a := by omega
theorem sp_len : (cp " ").length = 1 := by decide
theorem nx_goW {F : DEnds} {ρ : DEnv} {w : Om} (h : F.nx ρ w) : dNext F ρ w := h
theorem if_tst {te : DTE} {ρ : DEnv} {w : Om} {a b : DTS} {E : DEnds} {w1 : Om} (k : Bool) (h : ∀ C : DQ, C (.dat (.bool k)) w1 → te ρ w C) (hT : k = true → a E ρ w1) (hF : k = false → b E ρ w1) : dIfS (dTst te) a b E ρ w := by
  refine h _ ⟨k, rfl, ?_⟩
  cases k with
  | true => exact iteT (hT rfl)
  | false => exact iteF (hF rfl)
/-- what a loop over parts keeps -/
structure Inv {α : Type} (cS : Addr) (w : Om) (x p : Addr) (z : Str) (g : α → Sl) (Lp : Bool → List Nat → Option (List α × List Nat) → Prop) (r s' pre' : List Nat) (acc : List α) (W : Om) : Prop where
  hz : cp z = pre' ++ s'
  sub : Sub (put w x (srcO cS z pre'.length)) W
  lst : W p = some (.lst (acc.map g))
  room : acc.length + s'.length ≤ z.length
  lp : ∀ o, Lp acc.isEmpty s' o → Lp true r (o.map fun q => (acc ++ q.1, q.2))
abbrev gN (n : List Nat) : Sl := .dat (.str (tx n))
theorem names_body {cS cN x p : Addr} {w W1 : Om} {z : Str} {kd : Sl} {r s' s1 pre1 : List Nat} {acc : List (List Nat)} {Y : XY} {F : DEnds} (hl : z.length ≤ 100000) (npx : p ≠ x) (wp : ∀ o, put w x o p = none)
    (hc : cutP (cp "}") s' = none) (hsep : Sep (cp " ") acc.isEmpty s' s1) (hz : cp z = pre1 ++ s1) (hS : Sub (put w x (srcO cS z pre1.length)) W1) (hP : W1 p = some (.lst (acc.map gN))) (hA : acc.length + s'.length ≤ z.length) (hlen : s1.length ≤ s'.length)
    (hI : ∀ o, LpN acc.isEmpty s' o → LpN true r (o.map fun q => (acc ++ q.1, q.2))) (hno : LpN true r none → ∀ i, Y cN none (put w x (srcO cS z i)))
    (hnx : ∀ s'' pre'' acc' W, s''.length < s'.length → Inv cS w x p z gN LpN r s'' pre'' acc' W → F.nx [some kd, some (.adr x), some (.adr p)] W) :
    dSeq (dDrop (dApp (dVar 2) (dMeth cS "run_of" (c_Source_run_of cS) [] (dVar 1) (dCons (dC (.str "abcdefghijklmnopqrstuvwxyz")) dNil)))) (dIfS (dTst (dOp (eqS false) (dOp ixS (dVar 2) (dNeg (dC (.int 1)))) (dC (.str "")))) (dRaise (ZF Y) cN) dNext) F [some kd, some (.adr x), some (.adr p)] W1 := by
  have lv := line_val
  have hX : W1 x = some (srcO cS z pre1.length) := sub_at hS
  have hs : s1 = s1.takeWhile isL ++ s1.dropWhile isL := List.takeWhile_append_dropWhile.symm
  have l1 : s1.length = (s1.takeWhile isL).length + (s1.dropWhile isL).length := by rw [← List.length_append, ← hs]
  refine ⟨_, rfl, p, _, rfl, hP, ?_⟩
  refine ⟨_, rfl, x, _, rfl, hX, src_no (by decide) (by decide), ?_⟩
  refine ⟨x, z, _, pre1, s1.takeWhile isL, s1.dropWhile isL, rfl, hX, by rw [← hs]; exact hz, Nat.le_trans hl (by decide), all_take s1, stop_drop s1, ?_⟩
  have hP2 : put W1 x (srcO cS z (pre1.length + (s1.takeWhile isL).length)) p = some (.lst (acc.map gN)) := by rw [put_ne npx]; exact hP
  refine ⟨_, hP2, by rw [List.length_map]; omega, ?_⟩
  refine ⟨_, rfl, _, rfl, _, ixS_adr put_same (atI_last _ _), ?_⟩
  refine ⟨_, rfl, ?_⟩
  refine ⟨_, rfl, ?_⟩
  show if ((tx (s1.takeWhile isL) == "") != false) = true then _ else _
  rw [beq_cp, Bool.bne_false]
  have hS2 : Sub (put w x (srcO cS z (pre1.length + (s1.takeWhile isL).length))) (put (put W1 x (srcO cS z (pre1.length + (s1.takeWhile isL).length))) p (.lst (acc.map gN ++ [gN (s1.takeWhile isL)]))) := sub_put_ne (sub_src hS) (wp _)
  refine iteD (fun c => ?_) fun c => ?_
  · exact ⟨_, hS2, hno (hI none (.noName hc hsep c)) _⟩
  · have hpos : 0 < (s1.takeWhile isL).length := List.length_pos_iff.mpr c
    refine hnx (s1.dropWhile isL) (pre1 ++ s1.takeWhile isL) (acc ++ [s1.takeWhile isL]) _ (by omega) ⟨by rw [List.append_assoc, ← hs]; exact hz, by rw [List.length_append]; exact hS2, by rw [put_same, List.map_append]; rfl, by rw [List.length_append, List.length_singleton]; omega, fun o ho => ?_⟩
    have e : (acc ++ [s1.takeWhile isL]).isEmpty = false := by cases acc <;> rfl
    rw [e] at ho
    have := hI _ (.more hc hsep c ho)
    cases o with
    | none => exact this
    | some q => simpa using this
theorem cut_len {y s r : List Nat} (h : cutP y s = some r) : s.length = y.length + r.length := by rw [cutP_some h, List.length_append]
theorem rd_names_read {cS cN ss w R Y} (h : c_names_read cS cN ss w R Y) : t_names_read cS cN (ZF Y) (endsN R) (startD N_names_read ss) w := by
  obtain ⟨kd, x, rfl, z, pre, s, hw, hz, hl, q1, q2⟩ := h
  have lv := line_val
  refine ⟨_, rfl, x, _, rfl, hw, src_no (by decide) (by decide), ?_⟩
  dsimp only [dCons, dC, dNil]
  refine pastW (y := "{") hw hz (by decide) (fun r h0 => ?_) fun h0 => ⟨_, Sub.refl _, by
    have := q2 (.no h0) pre.length
    rw [put_get hw] at this
    exact this⟩
  have hz0 : cp z = (pre ++ cp "{") ++ r := by rw [List.append_assoc, ← cutP_some h0]; exact hz
  refine ⟨by show 0 ≤ sizeLine; omega, fun p hp => ?_⟩
  have npx : p ≠ x := fun e => by rw [e, put_same] at hp; cases hp
  have wp : ∀ o, put w x o p = none := fun o => by rw [put_ne npx] at hp ⊢; exact hp
  have hno : LpN true r none → ∀ i, Y cN none (put w x (srcO cS z i)) := fun hr i => q2 (.go (o := none) h0 hr) i
  refine ⟨fun m ρ W => ∃ s' pre' acc, m = s'.length ∧ ρ = [some kd, some (.adr x), some (.adr p)] ∧ Inv cS w x p z gN LpN r s' pre' acc W, ⟨r.length, r, pre ++ cp "{", [], rfl, rfl, hz0, Sub.new hp, put_same, by rw [len_cp, hz0, List.length_append]; simp, fun o ho => by
    have : (o.map fun q => (([] : List (List Nat)) ++ q.1, q.2)) = o := by cases o <;> rfl
    rw [this]; exact ho⟩, ?_⟩
  rintro m ρ W ⟨s', pre', acc, rfl, rfl, hz', hS, hP, hA, hI⟩
  have hX : W x = some (srcO cS z pre'.length) := sub_at hS
  refine ⟨_, rfl, x, _, rfl, hX, src_no (by decide) (by decide), ?_⟩
  refine ⟨x, z, _, _, rfl, hX, ?_⟩
  rw [starts3 hz']
  cases hc : cutP (cp "}") s' with
  | some r' =>
    refine ⟨_, rfl, iteF ?_⟩
    refine ⟨_, rfl, x, _, rfl, hX, src_no (by decide) (by decide), ?_⟩
    dsimp only [dCons, dC, dNil]
    refine pastW (y := "}") hX hz' (by decide) (fun r2 h2 => ?_) fun h2 => by rw [hc] at h2; cases h2
    cases hc.symm.trans h2
    have hz2 : cp z = (pre' ++ cp "}") ++ r' := by rw [List.append_assoc, ← cutP_some hc]; exact hz'
    refine ⟨_, rfl, _, tupS_ok (ds := acc.map fun n => .str (tx n)) (sqL_adr ?_), put w x (srcO cS z (pre' ++ cp "}").length), sub_src hS, ?_⟩
    · rw [put_ne npx, hP, List.map_map]; rfl
    · have := hI _ (.done hc)
      have := RdN.go h0 this
      simp only [Option.map_some, List.append_nil] at this
      exact q1 _ r' (pre' ++ cp "}") this hz2
  | none =>
    refine ⟨_, rfl, iteT ?_⟩
    refine seq_ret ?_
    refine ⟨_, rfl, by show 0 ≤ sizeLine; omega, fun p3 hp3 => ?_⟩
    have n3p : p ≠ p3 := fun e => by rw [← e, hP] at hp3; cases hp3
    have hP3 : put W p3 (.lst []) p = some (.lst (acc.map gN)) := by rw [put_ne n3p]; exact hP
    have hS3 : Sub (put w x (srcO cS z pre'.length)) (put W p3 (.lst [])) := hS.trans (Sub.new hp3)
    have hX3 := sub_at hS3
    refine ⟨_, eqE_no (n := true) hP3 put_same, _, rfl, ?_⟩
    cases acc with
    | nil =>
      refine iteF ?_
      refine nx_goW ?_
      dsimp only
      exact names_body (acc := []) hl npx wp hc (show Sep (cp " ") true s' s' by unfold Sep; rw [if_pos rfl]) hz' hS3 hP3 hA (Nat.le_refl _) hI hno fun s'' pre'' acc' W h1 h2 => ⟨_, h1, s'', pre'', acc', rfl, rfl, h2⟩
    | cons a acc =>
      refine iteT ?_
      refine ⟨_, rfl, x, _, rfl, hX3, src_no (by decide) (by decide), ?_⟩
      dsimp only [dCons, dC, dNil]
      refine pastW (y := " ") hX3 hz' (by decide) (fun s1 h1 => ?_) fun h1 => ⟨_, hS3, hno (hI none (.noSep hc h1)) _⟩
      have hl1 := cut_len h1
      exact names_body (acc := a :: acc) hl npx wp hc (show Sep (cp " ") false s' s1 by unfold Sep; rw [if_neg Bool.false_ne_true]; exact h1) (by rw [List.append_assoc, ← cutP_some h1]; exact hz') (sub_src hS3) (by rw [put_ne npx]; exact hP3) hA (by omega) hI hno fun s'' pre'' acc' W h1 h2 => ⟨_, h1, s'', pre'', acc', rfl, rfl, h2⟩
end G

set_option Elab.async false
set_option linter.all false
set_option maxRecDepth 100000
set_option maxHeartbeats 4000000
/-! WorI: the reading of tables, pairs, worths -/
namespace G
open PySem PySem.Spec PyProof.Rows L2 DL
theorem table_body {cS cN x p : Addr} {n : Nat} {k : Kn} {w W1 : Om} {z : Str} {nm : Option Sl} {r s' s1 pre1 : List Nat} {acc : List PyData} {Y : XY} {F : DEnds} (hk : k.dep ≤ n) (hl : z.length ≤ 100000) (npx : p ≠ x) (wp : ∀ o, put w x o p = none)
    (hc : cutP (cp "]") s' = none) (hsep : Sep (cp ", ") acc.isEmpty s' s1) (hz : cp z = pre1 ++ s1) (hS : Sub (put w x (srcO cS z pre1.length)) W1) (hP : W1 p = some (.lst (acc.map Sl.dat))) (hA : acc.length + s'.length ≤ z.length) (hlen : s1.length ≤ s'.length)
    (hI : ∀ o, LpT (RdW k) acc.isEmpty s' o → LpT (RdW k) true r (o.map fun q => (acc ++ q.1, q.2))) (hno : LpT (RdW k) true r none → ∀ i, Y cN none (put w x (srcO cS z i)))
    (hnx : ∀ s'' pre'' acc' W nm', s''.length < s'.length → Inv cS w x p z Sl.dat (LpT (RdW k)) r s'' pre'' acc' W → F.nx [some (.dat (Kn.each k).d), some (.adr x), some (.adr p), nm'] W) :
    dSeq (dAsg (dMeth cS "run_of" (c_Source_run_of cS) [] (dVar 1) (dCons (dC (.str "abcdefghijklmnopqrstuvwxyz")) dNil)) (dName 3))
      (dSeq (dDrop (dMethX (ZF Y) cS "goes_past" (c_Source_goes_past cS cN) (dVar 1) (dCons (dC (.str ": ")) dNil)))
      (dDrop (dApp (dVar 2) (dTup (dDats (dVar 3) (dDats (dCallX (ZF Y) (c_worth_read cS cN n) (dCons (dOp ixS (dVar 0) (dC (.int 1))) (dCons (dVar 1) dNil))) dNilD)))))) F [some (.dat (Kn.each k).d), some (.adr x), some (.adr p), nm] W1 := by
  have lv := line_val
  have hX : W1 x = some (srcO cS z pre1.length) := sub_at hS
  have hs : s1 = s1.takeWhile isL ++ s1.dropWhile isL := List.takeWhile_append_dropWhile.symm
  have l1 : s1.length = (s1.takeWhile isL).length + (s1.dropWhile isL).length := by rw [← List.length_append, ← hs]
  refine ⟨_, rfl, x, _, rfl, hX, src_no (by decide) (by decide), ?_⟩
  refine ⟨x, z, _, pre1, s1.takeWhile isL, s1.dropWhile isL, rfl, hX, by rw [← hs]; exact hz, Nat.le_trans hl (by decide), all_take s1, stop_drop s1, ?_⟩
  have hz1 : cp z = (pre1 ++ s1.takeWhile isL) ++ s1.dropWhile isL := by rw [List.append_assoc, ← hs]; exact hz
  have hS1 : Sub (put w x (srcO cS z (pre1 ++ s1.takeWhile isL).length)) (put W1 x (srcO cS z (pre1.length + (s1.takeWhile isL).length))) := by rw [List.length_append]; exact sub_src hS
  have hP1 : put W1 x (srcO cS z (pre1.length + (s1.takeWhile isL).length)) p = some (.lst (acc.map Sl.dat)) := by rw [put_ne npx]; exact hP
  generalize put W1 x (srcO cS z (pre1.length + (s1.takeWhile isL).length)) = W2 at hS1 hP1 ⊢
  have hX1 := sub_at hS1
  refine ⟨_, rfl, x, _, rfl, hX1, src_no (by decide) (by decide), ?_⟩
  dsimp only [dCons, dC, dNil]
  refine pastW (y := ": ") hX1 hz1 (by decide) (fun s2 h2 => ?_) fun h2 => ⟨_, hS1, hno (hI none (.noCol hc hsep h2)) _⟩
  have hl2 := cut_len h2
  have lc : (cp ": ").length = 2 := by decide
  have hz2 : cp z = (pre1 ++ s1.takeWhile isL ++ cp ": ") ++ s2 := by rw [List.append_assoc, ← cutP_some h2]; exact hz1
  have hS2 : Sub (put w x (srcO cS z (pre1 ++ s1.takeWhile isL ++ cp ": ").length)) (put W2 x (srcO cS z (pre1 ++ s1.takeWhile isL ++ cp ": ").length)) := sub_src hS1
  have hP2 : put W2 x (srcO cS z (pre1 ++ s1.takeWhile isL ++ cp ": ").length) p = some (.lst (acc.map Sl.dat)) := by rw [put_ne npx]; exact hP1
  generalize put W2 x (srcO cS z (pre1 ++ s1.takeWhile isL ++ cp ": ").length) = W3 at hS2 hP2 ⊢
  refine ⟨_, rfl, p, _, rfl, hP2, ?_⟩
  refine ⟨_, rfl, ?_⟩
  refine ⟨_, rfl, _, ix_t1, _, rfl, ?_⟩
  dsimp only [DL.ret, dNil, List.append_nil]
  refine ⟨k, x, rfl, hk, z, _, s2, sub_at hS2, hz2, hl, fun d s3 pre3 h3 h4 => ?_, fun h3 i => ⟨_, sub_src hS2, hno (hI none (.noIn hc hsep h2 h3)) i⟩⟩
  have l3 : s3.length ≤ s2.length := by
    have := (RdW.sound k (by rw [← len_cp] at *; have := congrArg List.length hz2; rw [← len_cp, List.length_append] at this; omega) h3).1
    rw [this, List.length_append]; omega
  have hP3 : put W3 x (srcO cS z pre3.length) p = some (.lst (acc.map Sl.dat)) := by rw [put_ne npx]; exact hP2
  refine ⟨by show 2 ≤ sizeLine; omega, _, hP3, by rw [List.length_map]; omega, ?_⟩
  refine hnx s3 pre3 (acc ++ [.tuple [.str (tx (s1.takeWhile isL)), d]]) _ _ (by omega) ⟨h4, sub_put_ne (sub_src hS2) (wp _), by rw [put_same, List.map_append]; rfl, by rw [List.length_append, List.length_singleton]; omega, fun o ho => ?_⟩
  have e : (acc ++ [PyData.tuple [.str (tx (s1.takeWhile isL)), d]]).isEmpty = false := by cases acc <;> rfl
  rw [e] at ho
  have := hI _ (.more hc hsep h2 h3 ho)
  cases o with
  | none => exact this
  | some q => simpa using this
theorem rd_table_read (n : Nat) {cS cN ss w R Y} (h : c_table_read cS cN n ss w R Y) : t_table_read cS cN (prevX (c_worth_read cS cN) n) (ZF Y) (endsN R) (startD N_table_read ss) w := by
  obtain ⟨k, x, rfl, hk, z, pre, s, hw, hz, hl, q1, q2⟩ := h
  obtain ⟨n, rfl⟩ : ∃ n', n = n' + 1 := ⟨n - 1, by omega⟩
  have lv := line_val
  refine ⟨_, rfl, x, _, rfl, hw, src_no (by decide) (by decide), ?_⟩
  dsimp only [dCons, dC, dNil]
  refine pastW (y := "[") hw hz (by decide) (fun r h0 => ?_) fun h0 => ⟨_, Sub.refl _, by
    have := q2 (.no h0) pre.length
    rw [put_get hw] at this
    exact this⟩
  have hz0 : cp z = (pre ++ cp "[") ++ r := by rw [List.append_assoc, ← cutP_some h0]; exact hz
  refine ⟨by show 0 ≤ sizeLine; omega, fun p hp => ?_⟩
  have npx : p ≠ x := fun e => by rw [e, put_same] at hp; cases hp
  have wp : ∀ o, put w x o p = none := fun o => by rw [put_ne npx] at hp ⊢; exact hp
  have hno : LpT (RdW k) true r none → ∀ i, Y cN none (put w x (srcO cS z i)) := fun hr i => q2 (.go (o := none) h0 hr) i
  refine ⟨fun m ρ W => ∃ s' pre' acc nm, m = s'.length ∧ ρ = [some (.dat (Kn.each k).d), some (.adr x), some (.adr p), nm] ∧ Inv cS w x p z Sl.dat (LpT (RdW k)) r s' pre' acc W, ⟨r.length, r, pre ++ cp "[", [], none, rfl, rfl, hz0, Sub.new hp, put_same, by rw [len_cp, hz0, List.length_append]; simp, fun o ho => by
    have : (o.map fun q => (([] : List PyData) ++ q.1, q.2)) = o := by cases o <;> rfl
    rw [this]; exact ho⟩, ?_⟩
  rintro m ρ W ⟨s', pre', acc, nm, rfl, rfl, hz', hS, hP, hA, hI⟩
  have hX : W x = some (srcO cS z pre'.length) := sub_at hS
  refine ⟨_, rfl, x, _, rfl, hX, src_no (by decide) (by decide), ?_⟩
  refine ⟨x, z, _, _, rfl, hX, ?_⟩
  rw [starts3 hz']
  cases hc : cutP (cp "]") s' with
  | some r' =>
    refine ⟨_, rfl, iteF ?_⟩
    refine ⟨_, rfl, x, _, rfl, hX, src_no (by decide) (by decide), ?_⟩
    dsimp only [dCons, dC, dNil]
    refine pastW (y := "]") hX hz' (by decide) (fun r2 h2 => ?_) fun h2 => by rw [hc] at h2; cases h2
    cases hc.symm.trans h2
    have hz2 : cp z = (pre' ++ cp "]") ++ r' := by rw [List.append_assoc, ← cutP_some hc]; exact hz'
    refine ⟨_, rfl, _, tupS_ok (ds := acc) (sqL_adr ?_), put w x (srcO cS z (pre' ++ cp "]").length), sub_src hS, ?_⟩
    · rw [put_ne npx, hP]
    · have := hI _ (.done hc)
      have := RdT.go h0 this
      simp only [Option.map_some, List.append_nil] at this
      exact q1 _ r' (pre' ++ cp "]") this hz2
  | none =>
    refine ⟨_, rfl, iteT ?_⟩
    refine seq_ret ?_
    refine ⟨_, rfl, by show 0 ≤ sizeLine; omega, fun p3 hp3 => ?_⟩
    have n3p : p ≠ p3 := fun e => by rw [← e, hP] at hp3; cases hp3
    have hP3 : put W p3 (.lst []) p = some (.lst (acc.map Sl.dat)) := by rw [put_ne n3p]; exact hP
    have hS3 : Sub (put w x (srcO cS z pre'.length)) (put W p3 (.lst [])) := hS.trans (Sub.new hp3)
    have hX3 := sub_at hS3
    refine ⟨_, eqE_no (n := true) hP3 put_same, _, rfl, ?_⟩
    cases acc with
    | nil =>
      refine iteF ?_
      refine nx_goW ?_
      dsimp only
      exact table_body (acc := []) (by omega) hl npx wp hc (show Sep (cp ", ") true s' s' by unfold Sep; rw [if_pos rfl]) hz' hS3 hP3 hA (Nat.le_refl _) hI hno fun s'' pre'' acc' W nm' h1 h2 => ⟨_, h1, s'', pre'', acc', nm', rfl, rfl, h2⟩
    | cons a acc =>
      refine iteT ?_
      refine ⟨_, rfl, x, _, rfl, hX3, src_no (by decide) (by decide), ?_⟩
      dsimp only [dCons, dC, dNil]
      refine pastW (y := ", ") hX3 hz' (by decide) (fun s1 h1 => ?_) fun h1 => ⟨_, hS3, hno (hI none (.noSep hc h1)) _⟩
      have hl1 := cut_len h1
      exact table_body (acc := a :: acc) (by omega) hl npx wp hc (show Sep (cp ", ") false s' s1 by unfold Sep; rw [if_neg Bool.false_ne_true]; exact h1) (by rw [List.append_assoc, ← cutP_some h1]; exact hz') (sub_src hS3) (by rw [put_ne npx]; exact hP3) hA (by omega) hI hno fun s'' pre'' acc' W nm' h1 h2 => ⟨_, h1, s'', pre'', acc', nm', rfl, rfl, h2⟩
theorem rd_pair_read (n : Nat) {cS cN ss w R Y} (h : c_pair_read cS cN n ss w R Y) : t_pair_read cS cN (prevX (c_worth_read cS cN) n) (ZF Y) (endsN R) (startD N_pair_read ss) w := by
  obtain ⟨k, l, x, rfl, hk, hk2, z, pre, s, hw, hz, hl, q1, q2⟩ := h
  obtain ⟨n, rfl⟩ : ∃ n', n = n' + 1 := ⟨n - 1, by omega⟩
  refine ⟨_, rfl, x, _, rfl, hw, src_no (by decide) (by decide), ?_⟩
  dsimp only [dCons, dC, dNil]
  refine pastW (y := "(") hw hz (by decide) (fun r h0 => ?_) fun h0 => ⟨_, Sub.refl _, by
    have := q2 (.no0 h0) pre.length
    rw [put_get hw] at this
    exact this⟩
  have hz0 : cp z = (pre ++ cp "(") ++ r := by rw [List.append_assoc, ← cutP_some h0]; exact hz
  refine ⟨_, rfl, _, ix_t1, _, rfl, ?_⟩
  dsimp only [DL.ret, dNil, List.append_nil]
  refine ⟨k, x, rfl, by omega, rdct hz0 hl rfl (fun d r1 pre1 h1 hz1 => ?_) fun h1 i => ⟨_, Sub.refl _, q2 (.no1 h0 h1) i⟩⟩
  refine ⟨_, rfl, x, _, rfl, put_same, src_no (by decide) (by decide), ?_⟩
  dsimp only [dCons, dC, dNil]
  refine pastX (y := ", ") hz1 (by decide) rfl (fun r2 h2 => ?_) fun h2 => ⟨_, Sub.refl _, q2 (.no2 h0 h1 h2) _⟩
  have hz2 : cp z = (pre1 ++ cp ", ") ++ r2 := by rw [List.append_assoc, ← cutP_some h2]; exact hz1
  refine ⟨_, rfl, _, ix_t2, _, rfl, ?_⟩
  dsimp only [DL.ret, dNil, List.append_nil]
  refine ⟨l, x, rfl, by omega, rdct hz2 hl rfl (fun e r3 pre3 h3 hz3 => ?_) fun h3 i => ⟨_, Sub.refl _, q2 (.no3 h0 h1 h2 h3) i⟩⟩
  refine ⟨_, rfl, x, _, rfl, put_same, src_no (by decide) (by decide), ?_⟩
  dsimp only [dCons, dC, dNil]
  refine pastX (y := ")") hz3 (by decide) rfl (fun r4 h4 => ?_) fun h4 => ⟨_, Sub.refl _, q2 (.no4 h0 h1 h2 h3 h4) _⟩
  have hz4 : cp z = (pre3 ++ cp ")") ++ r4 := by rw [List.append_assoc, ← cutP_some h4]; exact hz3
  refine ⟨_, rfl, _, rfl, by show 2 ≤ sizeLine; decide, _, Sub.refl _, ?_⟩
  exact q1 _ r4 _ (.go h0 h1 h2 h3 h4) hz4
theorem rd_worth_read (n : Nat) {fn fm fl ft fp cS cN ss w R Y} (h : c_worth_read cS cN n ss w R Y) : t_worth_read cS cN fn fm fl ft fp (c_table_read cS cN n) (c_pair_read cS cN n) (ZF Y) (endsN R) (startD N_worth_read ss) w := by
  obtain ⟨k, x, rfl, hk, z, pre, s, hw, hz, hl, q1, q2⟩ := h
  have fin : RdCt cS cN (RdW k) (fun d => d) x w (fun s w => ∃ u, Sub u w ∧ R s u) (fun C x w2 => ∃ u, Sub u w2 ∧ Y C x u) := ⟨z, pre, s, hw, hz, hl, fun a r pre' h1 h2 => ⟨_, Sub.refl _, q1 a r pre' h1 h2⟩, fun h i => ⟨_, Sub.refl _, q2 h i⟩⟩
  cases k with
  | names => exact ⟨_, rfl, _, ix_t0, _, _, rfl, rfl, .inl ⟨rfl, _, rfl, _, rfl, _, x, rfl, fin⟩⟩
  | most => exact ⟨_, rfl, _, ix_t0, _, _, rfl, rfl, .inr (.inl ⟨rfl, _, rfl, _, rfl, _, x, rfl, fin⟩)⟩
  | last => exact ⟨_, rfl, _, ix_t0, _, _, rfl, rfl, .inr (.inr (.inl ⟨rfl, _, rfl, _, rfl, _, x, rfl, fin⟩))⟩
  | each k => exact ⟨_, rfl, _, ix_t0, _, _, rfl, rfl, .inr (.inr (.inr (.inl ⟨rfl, _, rfl, _, rfl, k, x, rfl, hk, fin⟩)))⟩
  | both k l =>
    have hk : max k.dep l.dep + 1 ≤ n := hk
    exact ⟨_, rfl, _, ix_t0, _, _, rfl, rfl, .inr (.inr (.inr (.inr ⟨rfl, _, rfl, _, rfl, k, l, x, rfl, by omega, by omega, fin⟩)))⟩
theorem if_or2W {t1 t2 : DTT} {ρ : DEnv} {w : Om} {a b : DTS} {E : DEnds} (k1 k2 : Bool) (h1 : ∀ C : Bool → Om → Prop, C k1 w → t1 ρ w C) (h2 : k1 = false → ∀ C : Bool → Om → Prop, C k2 w → t2 ρ w C) (hT : (k1 || k2) = true → a E ρ w) (hF : k1 = false → k2 = false → b E ρ w) : dIfS (dOr t1 t2) a b E ρ w := by
  refine h1 _ ?_
  cases k1 with
  | true => exact iteT (iteT (hT rfl))
  | false =>
    refine iteF (h2 rfl _ ?_)
    cases k2 with
    | true => exact iteT (hT rfl)
    | false => exact iteF (hF rfl rfl)
theorem rd_read_worth {cS cN ss w R Y} (h : c_read_worth cN ss w R Y) : t_read_worth cS cN (ZF Y) (endsN R) (startD N_read_worth ss) w := by
  obtain ⟨k, d, rfl, hk, hl, q1, q2⟩ := h
  refine ⟨_, rfl, ?_⟩
  intro x hx
  refine ⟨x, d, rfl, put_same, fun z hd => ⟨rfl, ?_⟩, fun hd => ⟨w, Sub.new hx, q2 (.inl hd)⟩⟩
  subst hd
  have hz := hl z rfl
  rw [put_put]
  refine ⟨_, rfl, _, rfl, ?_⟩
  dsimp only [dNil]
  refine ⟨k, x, rfl, hk, rdct (pre := []) (s := cp z) rfl hz rfl (fun e r pre' h1 h2 => ?_) fun h1 p => ⟨w, Sub.new hx, q2 (.inr ⟨z, rfl, .inl h1⟩)⟩⟩
  have zl : z.length = pre'.length + r.length := by rw [len_cp, h2]; simp
  have hb : bgB e = true := (RdW.sound k (by rw [← len_cp]; omega) h1).2
  refine seq_ret ?_
  refine if_or2W (!decide (r = [])) (!(isW k e)) (fun C hC => ?_) (fun _ C hC => ?_) (fun c => ?_) fun c1 c2 => ?_
  · refine ⟨_, rfl, x, _, rfl, put_same, src_no (by decide) (by decide), ?_⟩
    dsimp only [dNil, List.append_nil]
    refine ⟨x, z, _, rfl, put_same, Nat.le_trans hz (by decide), _, rfl, ?_⟩
    have : (((pre'.length : Nat) : Int) == ((z.length : Nat) : Int)) = decide (r = []) := by
      rw [DL.eq_bool, decide_eq_decide, zl]
      cases r with
      | nil => simp
      | cons a r => simp; omega
    rw [this]; exact hC
  · exact ⟨_, rfl, _, rfl, k, e, rfl, hk, Nat.le_refl _, hb, _, rfl, hC⟩
  · refine ⟨w, Sub.new hx, q2 (.inr ⟨z, rfl, .inr ⟨e, r, h1, ?_⟩⟩)⟩
    cases hr : decide (r = []) with
    | false => exact .inl (of_decide_eq_false hr)
    | true => rw [hr] at c; exact .inr (by simpa using c)
  · have hr : r = [] := by simpa using c1
    subst hr
    exact ⟨_, rfl, w, Sub.new hx, q1 z e rfl h1 (by simpa using c2)⟩
end G

set_option Elab.async false
set_option linter.all false
set_option maxRecDepth 100000
set_option maxHeartbeats 4000000
/-! WorJ: the worths that the laws draw -/
namespace G
open PySem PySem.Spec PyProof.Rows L2 DL
local macro_rules | `(tactic| walk_at "rr") => `(tactic| repeat (first | refine ⟨_, ix_t0, ?_⟩ | refine ⟨_, ix_t1, ?_⟩ | refine ⟨_, ix_t2, ?_⟩ | refine ⟨_, rfl, ?_⟩ | refine ⟨_, _, rfl, rfl, ?_⟩ | refine frzL (sq_line (by simp)) ?_ | refine iteT ?_ | refine iteF ?_ | refine And.intro (sq_line (by simp)) ?_ | fail "stop"))
theorem rd_law_least (n : Nat) {ss w R} (h : c_law_least n ss w R) : t_law_least (prev c_law_least n) (endsN R) (startD N_law_least ss) w := by
  obtain ⟨k, rfl, hk, q⟩ := h
  have kp := k.dep_pos
  obtain ⟨n, rfl⟩ : ∃ n', n = n' + 1 := ⟨n - 1, by omega⟩
  cases k with
  | names =>
    walk_at "rr"
    exact fun p hp => ⟨_, rfl, _, ix_t0, p, _, _, _, rfl, put_same, rfl, rfl, w, Sub.new hp, q⟩
  | most =>
    walk_at "rr"
    exact fun p hp => ⟨_, rfl, _, ix_t0, p, _, _, _, rfl, put_same, rfl, rfl, w, Sub.new hp, q⟩
  | last =>
    walk_at "rr"
    exact fun p hp => ⟨_, rfl, _, ix_t0, p, _, _, _, rfl, put_same, rfl, rfl, w, Sub.new hp, q⟩
  | each k =>
    walk_at "rr"
    exact fun p hp => ⟨_, rfl, _, ix_t0, p, _, _, _, rfl, put_same, rfl, rfl, w, Sub.new hp, q⟩
  | both k l =>
    have hk : max k.dep l.dep + 1 ≤ n + 1 := hk
    walk_at "rr"
    refine ⟨by omega, ?_⟩
    walk_at "rr"
    refine ⟨by omega, ?_⟩
    walk_at "rr"
    exact ⟨w, Sub.refl _, q⟩
/-- a comprehension whose element draws -/
theorem lc_draws {ok : Om → Prop} {g : DTG} {te : DTE} {ρ : DEnv} {k : List Sl → Om → Prop} {b : Addr} {w0 : Om} {st B : Nat} {P : Sl → PyData → Prop} (hok : ∀ w, ok w) : ∀ (xs acc : List Sl) (c : Nat) (w : Om), Bg b c w0 w → c + st * xs.length ≤ B →
    (∀ x ∈ xs, ∀ (c : Nat) (w : Om) (C : DQ), Bg b c w0 w → c + st ≤ B → (∀ d w', P x d → Bg b (c + st) w0 w' → C (.dat d) w') → g x ρ w fun ρ2 w2 => te ρ2 w2 C) → acc.length + xs.length ≤ sizeLine →
    (∀ ds w', Paired P xs ds → Bg b (c + st * xs.length) w0 w' → k (acc ++ ds.map Sl.dat) w') → dLcL ok g dYes te ρ k xs acc w
  | [], acc, c, w, hB, _, _, _, h => ⟨hok w, by simpa using h [] w .nil (by simpa using hB)⟩
  | x :: xs, acc, c, w, hB, hc, hs, hl, h => by
    refine ⟨hok w, ?_⟩
    rw [List.length_cons, Nat.mul_succ] at hc
    refine hs x List.mem_cons_self c w (fun y w4 => acc.length < sizeLine ∧ dLcL ok g dYes te ρ k xs (acc ++ [y]) w4) hB (by omega) fun d w' hp hB' => ⟨by simp at hl; omega, ?_⟩
    refine lc_draws hok xs _ (c + st) w' hB' (by omega) (fun z hz => hs z (List.mem_cons_of_mem _ hz)) (by simp at hl ⊢; omega) fun ds w'' hds hB'' => ?_
    have := h (d :: ds) w'' (.cons hp hds) (by rw [List.length_cons, Nat.mul_succ]; exact hB''.mono (by omega))
    simpa using this
theorem pos60 : (10 : Int) ^ (20 : Int).toNat = 100000000000000000000 := by decide
theorem jn_nil (ls : List (List Nat)) : jnL [] ls = ls.flatten := by
  cases ls with
  | nil => rfl
  | cons l ls =>
    rw [jnL_cons]
    simp [tailL]
theorem onesL (cs : List Nat) : ((cs.map fun c => (⟨#[c]⟩ : Str)).map cp).flatten = cs := by
  induction cs with
  | nil => rfl
  | cons c cs ih =>
    rw [List.map_cons, List.map_cons, List.flatten_cons, ih]
    rfl
theorem chars_of {xs : List Sl} {ds : List PyData} (h : Paired (fun (_ : Sl) (d : PyData) => ∃ c, isL c = true ∧ d = .str ⟨#[c]⟩) xs ds) : ∃ cs : List Nat, ds = cs.map (fun c => .str ⟨#[c]⟩) ∧ cs.length = xs.length ∧ cs.all isL = true := by
  induction h with
  | nil => exact ⟨[], rfl, rfl, rfl⟩
  | cons q _ ih =>
    obtain ⟨c, hc, rfl⟩ := q
    obtain ⟨cs, rfl, h1, h2⟩ := ih
    exact ⟨c :: cs, rfl, by simp [h1], by simp [hc]; simpa using h2⟩
theorem isL_al {z : Str} (hz : z = "abcdefghijklmnopqrstuvwxyz" ∨ z = "ab") {c : Nat} (h : c ∈ cp z) : isL c = true := by
  rcases hz with rfl | rfl
  · exact decide_eq_true h
  · have : cp "ab" = [97, 98] := by decide
    rw [this] at h
    simp at h
    rcases h with rfl | rfl <;> decide
theorem rd_law_name {ss w R} (h : c_law_name ss w R) : t_law_name (endsN R) (startD N_law_name ss) w := by
  obtain ⟨b, c, w0, rfl, hB, hc, q⟩ := h
  have lv := line_val
  walk_at "rr"
  refine ⟨b, 2, c, w0, rfl, hB, by decide, by decide, by omega, fun r w1 r0 r1 hB1 => ?_⟩
  obtain ⟨d, hd, hat⟩ := atI_mem (xs := [PyData.str "abcdefghijklmnopqrstuvwxyz", .str "ab"]) r0 r1
  obtain ⟨al, rfl, hal⟩ : ∃ al : Str, d = .str al ∧ (al = "abcdefghijklmnopqrstuvwxyz" ∨ al = "ab") := by
    simp only [List.mem_cons, List.not_mem_nil, or_false] at hd
    rcases hd with rfl | rfl
    · exact ⟨_, rfl, .inl rfl⟩
    · exact ⟨_, rfl, .inr rfl⟩
  refine ⟨_, ixS_list hat, ?_⟩
  have all : 1 ≤ al.length ∧ al.length ≤ 26 := by rcases hal with rfl | rfl <;> decide
  walk_at "rr"
  refine ⟨b, 8, c + 1, w0, rfl, hB1, by decide, by decide, by omega, fun r2 w2 r20 r21 hB2 => ?_⟩
  walk_at "rr"
  refine ⟨b, 3, c + 1 + 1, w0, rfl, hB2, by decide, by decide, by omega, fun r3 w3 r30 r31 hB3 => ?_⟩
  obtain ⟨d, hd, hat⟩ := atI_mem (xs := [PyData.int 1, .int 2, .int (1 + r2)]) r30 r31
  obtain ⟨m, rfl, m1, m8⟩ : ∃ m : Nat, d = .int (m : Nat) ∧ 1 ≤ m ∧ m ≤ 8 := by
    simp only [List.mem_cons, List.not_mem_nil, or_false] at hd
    rcases hd with rfl | rfl | rfl
    · exact ⟨1, rfl, by decide, by decide⟩
    · exact ⟨2, rfl, by decide, by decide⟩
    · exact ⟨(1 + r2).toNat, by rw [Int.toNat_of_nonneg (by omega)], by omega, by omega⟩
  refine ⟨_, ixS_list hat, ?_⟩
  refine ⟨_, rfl, ?_⟩
  refine ⟨_, rfl, (m : Nat), rfl, by omega, by omega, ?_⟩
  rw [Int.toNat_natCast]
  refine lc_draws (b := b) (w0 := w0) (st := 1) (B := c + 12) (P := fun _ d => ∃ c, isL c = true ∧ d = .str ⟨#[c]⟩) (fun _ => trivial) _ [] (c + 1 + 1 + 1) w3 hB3 (by rw [irange_len]; omega) (fun x _ c' w' C hB' hc' hC => ?_) (sq_line (by rw [irange_len, List.length_nil]; omega)) ?_
  · refine ⟨_, rfl, _, rfl, _, rfl, _, lenS_str (by omega), ?_⟩
    dsimp only [DL.ret, dNil, List.append_nil]
    refine ⟨b, al.length, c', w0, rfl, hB', by omega, by omega, by omega, fun r w4 r0 r1 hB4 => ?_⟩
    obtain ⟨ch, hch, hat⟩ := atI_mem (xs := cp al) r0 (by rw [← len_cp]; exact r1)
    refine ⟨_, ixS_str (by omega) hat, ?_⟩
    exact hC _ w4 ⟨ch, isL_al hal hch, rfl⟩ hB4
  · intro ds w4 hds hB4
    obtain ⟨cs, rfl, hcl, hcs⟩ := chars_of hds
    rw [irange_len] at hcl hB4
    intro p hp
    refine ⟨cs.map fun c => .str ⟨#[c]⟩, put_same, ?_⟩
    rw [List.nil_append, del_put hp]
    refine ⟨_, cs.map fun c => ⟨#[c]⟩, rfl, by rw [List.map_map, List.map_map]; rfl, ?_, ?_⟩
    · have e : ((cs.map fun c => (⟨#[c]⟩ : Str)).map (·.length)).sum = cs.length := by
        rw [List.map_map]
        have : ((fun x : Str => x.length) ∘ fun c => (⟨#[c]⟩ : Str)) = fun _ : Nat => 1 := rfl
        rw [this, List.map_const', List.sum_replicate_nat]; omega
      have e2 : (Str.ofString "").length = 0 := by decide
      rw [e, e2, hcl]
      omega
    · have ej : Txt.join "" (cs.map fun c => ⟨#[c]⟩) = tx cs := by
        apply cp_inj
        rw [join_cp]
        show jnL [] _ = _
        rw [jn_nil, onesL]
      rw [ej]
      refine ⟨w4, Sub.refl _, q (tx cs) w4 ?_ (hB4.mono (by omega))⟩
      rw [isNm_str, tx_len, hcl, decide_eq_true m1, decide_eq_true m8]
      exact hcs
end G

set_option Elab.async false
set_option linter.all false
set_option maxRecDepth 100000
set_option maxHeartbeats 4000000
/-! WorK: the worths that the laws draw -/
namespace G
open PySem PySem.Spec PyProof.Rows L2 DL
local macro_rules | `(tactic| walk_at "rr") => `(tactic| repeat (first | refine ⟨_, ix_t0, ?_⟩ | refine ⟨_, ix_t1, ?_⟩ | refine ⟨_, ix_t2, ?_⟩ | refine ⟨_, rfl, ?_⟩ | refine ⟨_, _, rfl, rfl, ?_⟩ | refine frzL (sq_line (by simp)) ?_ | refine iteT ?_ | refine iteF ?_ | refine And.intro (sq_line (by simp)) ?_ | fail "stop"))
theorem risS_of : ∀ {ks : List Str}, ks.Pairwise LtT → risS ks = true
  | [], _ => rfl
  | [_], _ => rfl
  | a :: b :: r, h => by
    have ih := risS_of (List.Pairwise.tail h)
    have h1 : cp a < cp b := (List.pairwise_cons.mp h).1 b List.mem_cons_self
    unfold risS at ih ⊢
    show (decide (cp a < cp b) && ((b :: r).zip r).all _) = true
    rw [decide_eq_true h1, Bool.true_and]
    exact ih
theorem nodup_len {α : Type} [DecidableEq α] : ∀ {xs ys : List α}, xs.Nodup → (∀ x ∈ xs, x ∈ ys) → xs.length ≤ ys.length
  | [], _, _, _ => Nat.zero_le _
  | a :: r, ys, hn, hs => by
    have hn' := List.nodup_cons.mp hn
    have ha := hs a List.mem_cons_self
    have := nodup_len (ys := ys.erase a) hn'.2 fun x hx => by
      have : x ≠ a := fun e => hn'.1 (by rw [← e]; exact hx)
      exact (List.mem_erase_of_ne this).mpr (hs x (List.mem_cons_of_mem _ hx))
    rw [List.length_erase_of_mem ha] at this
    have := List.length_pos_of_mem ha
    rw [List.length_cons]; omega
theorem lt_nodup {ks : List Str} (h : ks.Pairwise LtT) : ks.Nodup := h.imp fun {a b} hab e => by
  rw [e] at hab
  exact (List.lt_irrefl (cp b)) hab
theorem jn_le {sep : List Nat} {m : Nat} : ∀ {ls : List (List Nat)}, (∀ l ∈ ls, l.length ≤ m) → (jnL sep ls).length ≤ ls.length * (m + sep.length)
  | [], _ => by simp [jnL]
  | [l], h => by have := h l (by simp); simp [jnL]; omega
  | l :: b :: r, h => by
    have ih := jn_le (sep := sep) (ls := b :: r) fun x hx => h x (List.mem_cons_of_mem _ hx)
    have := h l List.mem_cons_self
    show (l ++ (sep ++ jnL sep (b :: r))).length ≤ _
    rw [List.length_append, List.length_append, List.length_cons, Nat.add_mul, Nat.one_mul]
    omega
theorem intL_len {i : Int} (h : i.natAbs < 10 ^ 20) : (intL i).length ≤ 21 := by
  have := TL.numL_len (n := i.natAbs) (k := 20) (by decide) h
  unfold intL
  split
  · omega
  · rw [List.length_cons]; omega
theorem lc_filter {ok : Om → Prop} {tt : DTT} {ρ : DEnv} {i : Nat} {k : List Sl → Om → Prop} {w : Om} (f : PyData → Bool) (hok : ok w) (hi : i < ρ.length) : ∀ (ds : List PyData) (acc : List Sl), (∀ d ∈ ds, ∀ C : Bool → Om → Prop, C (f d) w → tt (ρ.set i (some (.dat d))) w C) → acc.length + ds.length ≤ sizeLine → k (acc ++ (ds.filter f).map Sl.dat) w → dLcL ok (dName i) tt (dVar i) ρ k (ds.map Sl.dat) acc w
  | [], acc, _, _, h => ⟨hok, by simpa using h⟩
  | d :: ds, acc, hs, hl, h => by
    refine ⟨hok, ?_⟩
    refine hs d List.mem_cons_self _ ?_
    cases hf : f d with
    | true =>
      refine iteT ⟨_, by rw [List.getElem?_set_self hi], by simp at hl; omega, lc_filter f hok hi ds _ (fun z hz => hs z (List.mem_cons_of_mem _ hz)) (by simp at hl ⊢; omega) ?_⟩
      rw [List.filter_cons_of_pos hf] at h
      simpa using h
    | false =>
      refine iteF (lc_filter f hok hi ds _ (fun z hz => hs z (List.mem_cons_of_mem _ hz)) (by simp at hl ⊢; omega) ?_)
      rw [List.filter_cons_of_neg (by rw [hf]; exact Bool.false_ne_true)] at h
      exact h
theorem nm_len {z : Str} (h : isNm (.str z) = true) : 1 ≤ z.length ∧ z.length ≤ 8 := by
  rw [isNm_str, Bool.and_eq_true, Bool.and_eq_true] at h
  exact ⟨of_decide_eq_true h.1, of_decide_eq_true h.2.1⟩
theorem nm_sz {z : Str} (h : isNm (.str z) = true) : szB 0 (.str z) = true := sz_str.mpr (by have := nm_len h; omega)
theorem int_sz {i : Int} (h : i.natAbs < 10 ^ 20) : szB 0 (.int i) = true := sz_int.mpr (Nat.lt_trans h (by decide))
theorem poss {d : PyData} {l : List Int} (hd : d ∈ l.map PyData.int) (h : ∀ i ∈ l, 0 < i ∧ i ≤ 10 ^ 20) : ∃ m : Int, d = .int m ∧ 0 < m ∧ m ≤ 10 ^ 20 := by
  obtain ⟨m, hm, rfl⟩ := List.mem_map.mp hd
  exact ⟨m, rfl, h m hm⟩
theorem names_of {P : Str → Prop} {xs : List Sl} {ds : List PyData} (h : Paired (fun (_ : Sl) (d : PyData) => ∃ z, P z ∧ d = .str z) xs ds) : ∃ zs : List Str, ds = zs.map .str ∧ zs.length = xs.length ∧ ∀ z ∈ zs, P z := by
  induction h with
  | nil => exact ⟨[], rfl, rfl, fun z hz => by cases hz⟩
  | cons q _ ih =>
    obtain ⟨z, hz, rfl⟩ := q
    obtain ⟨zs, rfl, h1, h2⟩ := ih
    refine ⟨z :: zs, rfl, by simp [h1], fun y hy => ?_⟩
    rcases List.mem_cons.mp hy with rfl | hy
    · exact hz
    · exact h2 y hy
theorem rows_of {k : Kn} {n : Nat} : ∀ {zs : List Str} {ds : List PyData}, Paired (fun (x : Sl) (d : PyData) => ∃ z e, x = .dat (.str z) ∧ d = .tuple [.str z, e] ∧ isW k e = true ∧ szB 0 e = true ∧ (shW k e).length ≤ n ∧ fw 3 k e = true) ((zs.map PyData.str).map Sl.dat) ds → (ds.map fun r => strD (fstD r)) = zs ∧ ds.length = zs.length ∧ ∀ d ∈ ds, ∃ z e, z ∈ zs ∧ d = .tuple [.str z, e] ∧ isW k e = true ∧ szB 0 e = true ∧ (shW k e).length ≤ n ∧ fw 3 k e = true
  | [], _, .nil => ⟨rfl, rfl, fun d hd => by cases hd⟩
  | z :: zs, _, .cons q r => by
    obtain ⟨z', e, e1, rfl, h1, h2, h3⟩ := q
    cases e1
    obtain ⟨i1, i2, i3⟩ := rows_of r
    refine ⟨by rw [List.map_cons, i1]; rfl, by simp [i2], fun d hd => ?_⟩
    rcases List.mem_cons.mp hd with rfl | hd
    · exact ⟨z, e, List.mem_cons_self, rfl, h1, h2, h3⟩
    · obtain ⟨z2, e2, m, r⟩ := i3 d hd
      exact ⟨z2, e2, List.mem_cons_of_mem _ m, r⟩
/-- sorted(set([_law_name(bag) for k in range(_law_draw(bag, 4))])) -/
theorem names_drawn {u : DTS} {F : DEnds} {b : Addr} {c : Nat} {w0 w : Om} {kd wd st : Option Sl} (hB : Bg b c w0 w) (hc : c + 40 < 2 ^ 60)
    (q : ∀ (ks : List Str) (w' : Om), ks.Pairwise LtT → (∀ z ∈ ks, isNm (.str z) = true) → ks.length ≤ 3 → Bg b (c + 37) w0 w' → u F [some (.adr b), kd, wd, st, some (.dat (.list (ks.map .str))), none, none, none, none] w') :
    dSeq (dAsg (dFz (dSortSet (dFz (dLc (dRng1 (dCons (dCall c_law_draw [] (dCons (dVar 0) (dCons (dC (.int 4)) dNil))) dNil)) (dName 8) dYes (dCall c_law_name [] (dCons (dVar 0) dNil)) [8])))) (dName 4)) u F [some (.adr b), kd, wd, st, none, none, none, none, none] w := by
  have lv := line_val
  refine ⟨_, rfl, b, 4, c, w0, rfl, hB, by decide, by decide, by omega, fun r w1 r0 r1 hB1 => ?_⟩
  refine ⟨r, rfl, by omega, by omega, ?_⟩
  refine lc_draws (b := b) (w0 := w0) (st := 12) (B := c + 37) (P := fun _ d => ∃ z, isNm (.str z) = true ∧ d = .str z) (fun _ => trivial) _ [] (c + 1) w1 hB1 (by rw [irange_len]; omega) (fun x _ c' w' C hB' hc' hC => ?_) (sq_line (by rw [irange_len, List.length_nil]; omega)) fun ds w2 hds hB2 p hp => ?_
  · exact ⟨_, rfl, b, c', w0, rfl, hB', by omega, fun z w4 h1 hB4 => hC _ w4 ⟨z, h1, rfl⟩ hB4⟩
  · obtain ⟨zs, rfl, hl, hz⟩ := names_of hds
    rw [irange_len] at hl hB2
    refine ⟨zs.map .str, put_same, ?_⟩
    rw [List.nil_append, del_put hp]
    refine ⟨zs, by show some ((zs.map PyData.str).map Sl.dat) = _; rw [List.map_map]; rfl, by omega, fun ks p2 h1 h2 hp2 => ?_⟩
    refine ⟨ks.map .str, by rw [put_same, List.map_map]; rfl, ?_⟩
    rw [del_put hp2]
    exact q ks w2 h1 (fun z hz' => hz z ((h2 z).mp hz')) (by have := nodup_len (lt_nodup h1) fun z hz' => (h2 z).mp hz'; omega) (hB2.mono (by omega))
theorem rd_law_worth (n : Nat) {ss w R} (h : c_law_worth n ss w R) : t_law_worth (prev c_law_worth n) (endsN R) (startD N_law_worth ss) w := by
  obtain ⟨b, k, c, w0, rfl, hB, hk, hn, hc, q⟩ := h
  have kp := k.dep_pos
  have lv := line_val
  obtain ⟨n, rfl⟩ : ∃ n', n = n' + 1 := ⟨n - 1, by omega⟩
  have ec : wc (n + 1) = 50 + 3 * wc n := rfl
  have el : wl (n + 1) = 100 + 3 * (wl n + 20) := rfl
  refine ⟨_, rfl, ?_⟩
  cases k with
  | most =>
    walk_at "rr"
    refine ⟨b, 3, c, w0, rfl, hB, by decide, by decide, by omega, fun r w1 r0 r1 hB1 => ?_⟩
    obtain ⟨d, hd, hat⟩ := atI_mem (xs := [PyData.int 6, .int 6, .int ((10 : Int) ^ (20 : Int).toNat)]) r0 r1
    obtain ⟨m, rfl, m0, m1⟩ := poss (l := [6, 6, (10 : Int) ^ (20 : Int).toNat]) hd (by decide)
    refine ⟨_, ixS_list hat, ?_⟩
    dsimp only [DL.ret, dNil, List.append_nil]
    refine ⟨b, m, c + 1, w0, rfl, hB1, m0, by omega, by omega, fun r2 w2 r20 r21 hB2 => ?_⟩
    have hr : r2.natAbs < 10 ^ 20 := by omega
    refine ⟨w2, Sub.refl _, q _ w2 (decide_eq_true r20) (int_sz hr) ?_ (decide_eq_true (by show r2.natAbs < _; omega)) (hB2.mono (by omega))⟩
    have := intL_len hr
    show (intL r2).length ≤ _
    omega
  | last =>
    walk_at "rr"
    refine ⟨b, 3, c, w0, rfl, hB, by decide, by decide, by omega, fun r w1 r0 r1 hB1 => ?_⟩
    obtain ⟨d, hd, hat⟩ := atI_mem (xs := [PyData.int 4, .int 4, .int ((10 : Int) ^ (20 : Int).toNat)]) r0 r1
    obtain ⟨m, rfl, m0, m1⟩ := poss (l := [4, 4, (10 : Int) ^ (20 : Int).toNat]) hd (by decide)
    refine ⟨_, ixS_list hat, ?_⟩
    dsimp only [DL.ret, dNil, List.append_nil]
    refine ⟨b, m, c + 1, w0, rfl, hB1, m0, by omega, by omega, fun st w2 r20 r21 hB2 => ?_⟩
    walk_at "rr"
    refine ⟨b, 2, c + 1 + 1, w0, rfl, hB2, by decide, by decide, by omega, fun r w3 r30 r31 hB3 => ?_⟩
    obtain ⟨d, hd, hat⟩ := atI_mem (xs := [PyData.int 4, .int ((10 : Int) ^ (20 : Int).toNat)]) r30 r31
    obtain ⟨m', rfl, m'0, m'1⟩ := poss (l := [4, (10 : Int) ^ (20 : Int).toNat]) hd (by decide)
    refine ⟨_, ixS_list hat, ?_⟩
    dsimp only [DL.ret, dNil, List.append_nil]
    refine ⟨b, m', c + 1 + 1 + 1, w0, rfl, hB3, m'0, by omega, by omega, fun v w4 r40 r41 hB4 => ?_⟩
    walk_at "rr"
    have hm : (if st < 1 then st else (1 : Int)) = 0 ∧ st = 0 ∨ (if st < 1 then st else (1 : Int)) = 1 ∧ 1 ≤ st := by split <;> omega
    have hm2 : (if st < 1 then st else (1 : Int)).natAbs < 2 ^ 64 := by rcases hm with ⟨e, _⟩ | ⟨e, _⟩ <;> rw [e] <;> decide
    refine ⟨_, liftI_ok (cMul_of (a := 100) (b := 64) (by have : (10 : Int) ^ 20 = 100000000000000000000 := by decide
                                                          omega) hm2 (by decide) (by decide) (by decide)), ?_⟩
    refine ⟨by show 2 ≤ sizeLine; omega, ?_⟩
    have e20 : (10 : Int) ^ 20 = 100000000000000000000 := by decide
    have e20n : (10 : Nat) ^ 20 = 100000000000000000000 := by decide
    have hs : st.natAbs < 10 ^ 20 := by omega
    generalize (if st < 1 then st else (1 : Int)) = mn at hm
    have hv : ((v - 2) * mn).natAbs < 10 ^ 20 ∧ (1 ≤ st ∨ st = 0 ∧ (v - 2) * mn = 0) := by
      rcases hm with ⟨rfl, h⟩ | ⟨rfl, h⟩
      · rw [Int.mul_zero]; exact ⟨by decide, .inr ⟨h, rfl⟩⟩
      · rw [Int.mul_one]; exact ⟨by omega, .inl h⟩
    refine ⟨w4, Sub.refl _, q _ w4 ?_ ?_ ?_ (by show (decide (st.natAbs < _) && decide (((v - 2) * mn).natAbs < _)) = true; rw [decide_eq_true (by omega), decide_eq_true (by omega)]; rfl) (hB4.mono (by omega))⟩
    · show (decide (1 ≤ st) || (st == 0 && (v - 2) * mn == 0)) = true
      rcases hv.2 with h | ⟨h1, h2⟩
      · rw [decide_eq_true h]; rfl
      · rw [h1, h2]; rfl
    · exact tup_sz (by simp) (two_all (int_sz hs) (int_sz hv.1))
    · show (intL st ++ (cp "@" ++ intL ((v - 2) * mn))).length ≤ _
      have l1 : (cp "@").length = 1 := by decide
      have := intL_len hs
      have := intL_len hv.1
      simp only [List.length_append, l1]
      omega
  | names =>
    refine ⟨_, ix_t0, ?_⟩
    refine ⟨_, rfl, _, rfl, _, rfl, iteF ?_⟩
    refine ⟨_, rfl, _, rfl, _, rfl, iteF ?_⟩
    refine ⟨_, rfl, _, rfl, _, rfl, iteF ?_⟩
    refine names_drawn hB (by omega) fun ks w1 h1 h2 h3 hB1 => ?_
    refine ⟨_, rfl, _, rfl, _, rfl, iteT ?_⟩
    refine ⟨_, rfl, _, tupS_ok (ds := ks.map .str) rfl, w1, Sub.refl _, q _ w1 ?_ ?_ ?_ (decide_eq_true (by rw [List.length_map]; exact h3)) (hB1.mono (by omega))⟩
    · show ((ks.map PyData.str).all isNm && risS ((ks.map PyData.str).map strD)) = true
      have e : (ks.map PyData.str).map strD = ks := by rw [List.map_map]; exact List.map_id' _
      rw [e, risS_of h1, Bool.and_true, List.all_eq_true]
      intro d hd
      obtain ⟨z, hz, rfl⟩ := List.mem_map.mp hd
      exact h2 z hz
    · exact tup_sz (by rw [List.length_map]; omega) fun d hd => by
        obtain ⟨z, hz, rfl⟩ := List.mem_map.mp hd
        exact nm_sz (h2 z hz)
    · show (cp "{" ++ (jnL (cp " ") ((ks.map PyData.str).map fun n => cp (strD n)) ++ cp "}")).length ≤ _
      have l1 : (cp "{").length = 1 := by decide
      have l2 : (cp "}").length = 1 := by decide
      have l3 : (cp " ").length = 1 := by decide
      have := jn_le (sep := cp " ") (m := 8) (ls := (ks.map PyData.str).map fun n => cp (strD n)) fun l hl => by
        rw [List.map_map] at hl
        obtain ⟨z, hz, rfl⟩ := List.mem_map.mp hl
        have := nm_len (h2 z hz)
        show (cp z).length ≤ 8
        rw [← len_cp]; omega
      rw [List.length_map, List.length_map, l3] at this
      have : ks.length * 9 ≤ 3 * 9 := Nat.mul_le_mul_right _ h3
      simp only [List.length_append, l1, l2]
      omega
  | each k =>
    have hk : k.dep + 1 ≤ n + 1 := hk
    refine ⟨_, ix_t0, ?_⟩
    refine ⟨_, rfl, _, rfl, _, rfl, iteF ?_⟩
    refine ⟨_, rfl, _, rfl, _, rfl, iteF ?_⟩
    refine ⟨_, rfl, _, rfl, _, rfl, iteF ?_⟩
    refine names_drawn hB (by omega) fun ks w1 h1 h2 h3 hB1 => ?_
    refine ⟨_, rfl, _, rfl, _, rfl, iteF ?_⟩
    refine ⟨by show 5 < 9; decide, ?_⟩
    refine ⟨_, rfl, _, rfl, ?_⟩
    have hl0 : ((ks.map PyData.str).map Sl.dat).length = ks.length := by rw [List.length_map, List.length_map]
    have hm3 : wc n * ks.length ≤ wc n * 3 := Nat.mul_le_mul_left _ h3
    refine lc_draws (b := b) (w0 := w0) (st := wc n) (B := c + wc (n + 1)) (P := fun x d => ∃ z e, x = .dat (.str z) ∧ d = .tuple [.str z, e] ∧ isW k e = true ∧ szB 0 e = true ∧ (shW k e).length ≤ wl n ∧ fw 3 k e = true) (fun _ => trivial) _ [] (c + 37) w1 hB1 (by rw [hl0]; omega) (fun x hx c' w' C hB' hc' hC => ?_) (sq_line (by rw [hl0, List.length_nil]; omega)) fun ds w2 hds hB2 p hp => ?_
    · obtain ⟨d, hd, rfl⟩ := List.mem_map.mp hx
      obtain ⟨z, hz, rfl⟩ := List.mem_map.mp hd
      refine ⟨_, rfl, _, rfl, _, rfl, _, ix_t1, ?_⟩
      dsimp only [DL.ret, dNil, List.append_nil]
      refine ⟨b, k, c', w0, rfl, hB', by omega, by omega, by omega, fun e w4 e1 e2 e3 e5 hB4 => ?_⟩
      exact ⟨by show 2 ≤ sizeLine; omega, hC _ w4 ⟨z, e, rfl, rfl, e1, e2, e3, e5⟩ hB4⟩
    · obtain ⟨i1, i2, i3⟩ := rows_of hds
      rw [hl0] at hB2
      refine ⟨ds, put_same, ?_⟩
      rw [List.nil_append, del_put hp]
      refine ⟨_, rfl, _, rfl, ?_⟩
      refine lc_filter (w := w2) (i := 7) (fun r => !(PyData.eqv (sndD r) (botD k))) trivial (by show 7 < 9; decide) ds [] (fun d hd C hC => ?_) (sq_line (by rw [List.length_nil]; omega)) fun p2 hp2 => ?_
      · obtain ⟨z, e, _, rfl, e1, e2, e3, e5⟩ := i3 d hd
        refine ⟨_, rfl, _, ix_t1, _, rfl, _, ix_t1, ?_⟩
        dsimp only [DL.ret, dNil, List.append_nil]
        exact ⟨k, rfl, by omega, _, ne_bot e1 (by omega), _, rfl, hC⟩
      refine ⟨ds.filter _, put_same, ?_⟩
      rw [List.nil_append, del_put hp2]
      have fs : ∀ d ∈ ds.filter (fun r => !(PyData.eqv (sndD r) (botD k))), ∃ z e, z ∈ ks ∧ d = .tuple [.str z, e] ∧ isW k e = true ∧ szB 0 e = true ∧ (shW k e).length ≤ wl n ∧ fw 3 k e = true ∧ PyData.eqv e (botD k) = false := fun d hd => by
        have := List.mem_filter.mp hd
        obtain ⟨z, e, hz, rfl, e1, e2, e3, e5⟩ := i3 d this.1
        exact ⟨z, e, hz, rfl, e1, e2, e3, e5, by simpa [sndD] using this.2⟩
      have fl : (ds.filter (fun r => !(PyData.eqv (sndD r) (botD k)))).length ≤ 3 := Nat.le_trans (List.length_filter_le _ _) (by omega)
      have fp : ((ds.filter (fun r => !(PyData.eqv (sndD r) (botD k)))).map fun r => strD (fstD r)).Pairwise LtT := List.Pairwise.sublist (List.Sublist.map _ List.filter_sublist) (by rw [i1]; exact h1)
      generalize ds.filter (fun r => !(PyData.eqv (sndD r) (botD k))) = fd at fs fl fp ⊢
      refine ⟨_, tupS_ok (ds := fd) rfl, w2, Sub.refl _, q _ w2 ?_ ?_ ?_ (by
        show (decide (fd.length ≤ 3) && fd.all fun row => fw 3 k (sndD row)) = true
        rw [decide_eq_true fl, Bool.true_and, List.all_eq_true]
        intro d hd
        obtain ⟨z, e, hz, rfl, e1, e2, e3, e5, e4⟩ := fs d hd
        exact e5) (hB2.mono (by omega))⟩
      · show (fd.all (isRow (isW k) (botD k)) && risS (fd.map fun r => strD (fstD r))) = true
        rw [risS_of fp, Bool.and_true, List.all_eq_true]
        intro d hd
        obtain ⟨z, e, hz, rfl, e1, e2, e3, e5, e4⟩ := fs d hd
        show (isNm (.str z) && (isW k e && !(PyData.eqv e (botD k)))) = true
        rw [h2 z hz, e1, e4]; rfl
      · refine tup_sz (by omega) fun d hd => ?_
        obtain ⟨z, e, hz, rfl, e1, e2, e3, e5, e4⟩ := fs d hd
        exact tup_sz (by simp) (two_all (nm_sz (h2 z hz)) e2)
      · show (cp "[" ++ (jnL (cp ", ") (fd.map fun r => cp (strD (fstD r)) ++ (cp ": " ++ shW k (sndD r))) ++ cp "]")).length ≤ _
        have l1 : (cp "[").length = 1 := by decide
        have l2 : (cp "]").length = 1 := by decide
        have l3 : (cp ", ").length = 2 := by decide
        have l4 : (cp ": ").length = 2 := by decide
        have := jn_le (sep := cp ", ") (m := 10 + wl n) (ls := fd.map fun r => cp (strD (fstD r)) ++ (cp ": " ++ shW k (sndD r))) fun l hl => by
          obtain ⟨d, hd, rfl⟩ := List.mem_map.mp hl
          obtain ⟨z, e, hz, rfl, e1, e2, e3, e5, e4⟩ := fs d hd
          show (cp z ++ (cp ": " ++ shW k e)).length ≤ _
          have := nm_len (h2 z hz)
          rw [List.length_append, List.length_append, l4, ← len_cp]; omega
        rw [List.length_map, l3] at this
        have : fd.length * (10 + wl n + 2) ≤ 3 * (10 + wl n + 2) := Nat.mul_le_mul_right _ fl
        simp only [List.length_append, l1, l2]
        omega
  | both k l =>
    have hk : max k.dep l.dep + 1 ≤ n + 1 := hk
    walk_at "rr"
    refine ⟨b, k, c, w0, rfl, hB, by omega, by omega, by omega, fun d w1 d1 d2 d3 d5 hB1 => ?_⟩
    walk_at "rr"
    refine ⟨b, l, c + wc n, w0, rfl, hB1, by omega, by omega, by omega, fun e w2 e1 e2 e3 e5 hB2 => ?_⟩
    walk_at "rr"
    refine ⟨w2, Sub.refl _, q _ w2 ?_ ?_ ?_ (by show (fw 3 k d && fw 3 l e) = true; rw [d5, e5]; rfl) (hB2.mono (by omega))⟩
    · show (isW k d && isW l e) = true
      rw [d1, e1]; rfl
    · exact tup_sz (by simp) (two_all d2 e2)
    · show (cp "(" ++ (shW k d ++ (cp ", " ++ (shW l e ++ cp ")")))).length ≤ _
      have l1 : (cp "(").length = 1 := by decide
      have l2 : (cp ", ").length = 2 := by decide
      have l3 : (cp ")").length = 1 := by decide
      simp only [List.length_append, l1, l2, l3]
      omega
end G

set_option Elab.async false
set_option linter.all false
set_option maxRecDepth 100000
set_option maxHeartbeats 4000000
/-! WorL: the reading of a worth tells one thing; what is written is read back -/
namespace G
open PySem PySem.Spec PyProof.Rows L2 DL
abbrev Fn1 {α : Type} (Rd : List Nat → Option (α × List Nat) → Prop) : Prop := ∀ {s o o'}, Rd s o → Rd s o' → o = o'
theorem some_fn {α : Type} {a : Option α} {x y : α} (h : a = some x) (h' : a = some y) : x = y := Option.some.inj (h.symm.trans h')
theorem some_no {α : Type} {a : Option α} {x : α} {P : Prop} (h : a = some x) (h' : a = none) : P := by rw [h] at h'; cases h'
theorem RdC.fn : Fn1 RdC := fun h h' => by
  cases h with
  | no h => cases h' with
    | no _ => rfl
    | yes h2 => exact absurd h h2
  | yes h => cases h' with
    | no h2 => exact absurd h2 h
    | yes _ => rfl
theorem RdI.fn : Fn1 RdI := fun h h' => by
  cases h with
  | pos e c => cases h' with
    | pos e' c' => rw [c.fn c']
    | bad e' c' => exact some_no e' e
    | zero e' c' => exact some_no e' e
    | neg e' c' _ => exact some_no e' e
  | bad e c => cases h' with
    | pos e' c' => exact some_no e e'
    | bad e' c' => rfl
    | zero e' c' => rfl
    | neg e' c' _ => rw [some_fn e' e] at c'; cases c.fn c'
  | zero e c => cases h' with
    | pos e' c' => exact some_no e e'
    | bad e' c' => rfl
    | zero e' c' => rfl
    | neg e' c' hn => rw [some_fn e' e] at c'; cases c.fn c'; exact absurd rfl hn
  | neg e c hn => cases h' with
    | pos e' c' => exact some_no e e'
    | bad e' c' => rw [some_fn e' e] at c'; cases c.fn c'
    | zero e' c' => rw [some_fn e' e] at c'; cases c.fn c'; exact absurd rfl hn
    | neg e' c' _ => rw [some_fn e' e] at c'; cases c.fn c'; rfl
theorem Sep.fn {sep : List Nat} {b : Bool} {s s1 s2 : List Nat} (h : Sep sep b s s1) (h' : Sep sep b s s2) : s1 = s2 := by
  unfold Sep at h h'
  cases b with
  | true => rw [if_pos rfl] at h h'; rw [h, h']
  | false => rw [if_neg Bool.false_ne_true] at h h'; exact some_fn h h'
theorem Sep.no {sep : List Nat} {s s1 : List Nat} {P : Prop} (h : Sep sep false s s1) (h' : cutP sep s = none) : P := by
  unfold Sep at h
  rw [if_neg Bool.false_ne_true] at h
  exact some_no h h'
theorem LpN.fn {b : Bool} {s : List Nat} {o : Option (List (List Nat) × List Nat)} (h : LpN b s o) : ∀ {o'}, LpN b s o' → o = o' := by
  induction h with
  | done h => intro o' h'; cases h' with
    | done h2 => rw [some_fn h h2]
    | noSep h2 _ => exact some_no h h2
    | noName h2 _ _ => exact some_no h h2
    | more h2 _ _ _ => exact some_no h h2
  | noSep h hs => intro o' h'; cases h' with
    | done h2 => exact some_no h2 h
    | noSep h2 _ => rfl
    | noName h2 hs2 _ => rfl
    | more h2 hs2 _ _ => exact hs2.no hs
  | noName h hs hn => intro o' h'; cases h' with
    | done h2 => exact some_no h2 h
    | noSep h2 _ => rfl
    | noName h2 hs2 _ => rfl
    | more h2 hs2 hn2 _ => rw [hs.fn hs2] at hn; exact absurd hn hn2
  | more h hs hn ho ih => intro o' h'; cases h' with
    | done h2 => exact some_no h2 h
    | noSep h2 hs2 => exact hs.no hs2
    | noName h2 hs2 hn2 => rw [hs.fn hs2] at hn; exact absurd hn2 hn
    | more h2 hs2 hn2 ho2 =>
      have e := hs.fn hs2
      subst e
      rw [ih ho2]
theorem LpT.fn {inn : List Nat → Option (PyData × List Nat) → Prop} (hi : Fn1 inn) {b : Bool} {s : List Nat} {o : Option (List PyData × List Nat)} (h : LpT inn b s o) : ∀ {o'}, LpT inn b s o' → o = o' := by
  induction h with
  | done h => intro o' h'; cases h' with
    | done h2 => rw [some_fn h h2]
    | noSep h2 _ => exact some_no h h2
    | noCol h2 _ _ => exact some_no h h2
    | noIn h2 _ _ _ => exact some_no h h2
    | more h2 _ _ _ _ => exact some_no h h2
  | noSep h hs => intro o' h'; cases h' with
    | done h2 => exact some_no h2 h
    | noSep h2 _ => rfl
    | noCol h2 hs2 _ => rfl
    | noIn h2 hs2 _ _ => rfl
    | more h2 hs2 _ _ _ => exact hs2.no hs
  | noCol h hs hc => intro o' h'; cases h' with
    | done h2 => exact some_no h2 h
    | noSep h2 _ => rfl
    | noCol h2 hs2 _ => rfl
    | noIn h2 hs2 _ _ => rfl
    | more h2 hs2 hc2 _ _ => rw [hs.fn hs2] at hc; exact some_no hc2 hc
  | noIn h hs hc hin => intro o' h'; cases h' with
    | done h2 => exact some_no h2 h
    | noSep h2 _ => rfl
    | noCol h2 hs2 _ => rfl
    | noIn h2 hs2 _ _ => rfl
    | more h2 hs2 hc2 hi2 _ =>
      rw [hs.fn hs2] at hc
      rw [some_fn hc hc2] at hin
      cases hi hin hi2
  | more h hs hc hin ho ih => intro o' h'; cases h' with
    | done h2 => exact some_no h2 h
    | noSep h2 hs2 => exact hs.no hs2
    | noCol h2 hs2 hc2 => rw [hs.fn hs2] at hc; exact some_no hc hc2
    | noIn h2 hs2 hc2 hi2 =>
      rw [hs.fn hs2] at hc
      rw [some_fn hc hc2] at hin
      cases hi hin hi2
    | more h2 hs2 hc2 hi2 ho2 =>
      have e := hs.fn hs2
      subst e
      have e := some_fn hc hc2
      subst e
      cases hi hin hi2
      rw [ih ho2]
theorem RdN.fn : Fn1 RdN := fun h h' => by
  cases h with
  | no e => cases h' with
    | no _ => rfl
    | go e' _ => exact some_no e' e
  | go e l => cases h' with
    | no e' => exact some_no e e'
    | go e' l' => rw [some_fn e' e] at l'; rw [l.fn l']
theorem RdM.fn : Fn1 RdM := fun h h' => by
  cases h with
  | go c => cases h' with
    | go c' => rw [c.fn c']
theorem RdL.fn : Fn1 RdL := fun h h' => by
  cases h with
  | no1 c => cases h' with
    | no1 c' => rfl
    | no2 c' _ => rfl
    | go c' _ _ => cases c.fn c'
  | no2 c e => cases h' with
    | no1 c' => rfl
    | no2 c' _ => rfl
    | go c' e' _ => cases c.fn c'; exact some_no e' e
  | go c e i => cases h' with
    | no1 c' => cases c.fn c'
    | no2 c' e' => cases c.fn c'; exact some_no e e'
    | go c' e' i' =>
      cases c.fn c'
      rw [some_fn e' e] at i'
      rw [i.fn i']
theorem RdT.fn {inn : List Nat → Option (PyData × List Nat) → Prop} (hi : Fn1 inn) : Fn1 (RdT inn) := fun h h' => by
  cases h with
  | no e => cases h' with
    | no _ => rfl
    | go e' _ => exact some_no e' e
  | go e l => cases h' with
    | no e' => exact some_no e e'
    | go e' l' => rw [some_fn e' e] at l'; rw [LpT.fn (inn := inn) hi l l']
theorem RdB.fn {i1 i2 : List Nat → Option (PyData × List Nat) → Prop} (f1 : Fn1 i1) (f2 : Fn1 i2) : Fn1 (RdB i1 i2) := fun h h' => by
  cases h with
  | no0 e => cases h' with
    | go e' _ _ _ _ => exact some_no e' e
    | _ => rfl
  | no1 e a => cases h' with
    | go e' a' _ _ _ => rw [some_fn e' e] at a'; cases f1 a a'
    | _ => rfl
  | no2 e a b => cases h' with
    | go e' a' b' _ _ => rw [some_fn e' e] at a'; cases f1 a a'; exact some_no b' b
    | _ => rfl
  | no3 e a b c => cases h' with
    | go e' a' b' c' _ => rw [some_fn e' e] at a'; cases f1 a a'; rw [some_fn b' b] at c'; cases f2 c c'
    | _ => rfl
  | no4 e a b c d => cases h' with
    | go e' a' b' c' d' => rw [some_fn e' e] at a'; cases f1 a a'; rw [some_fn b' b] at c'; cases f2 c c'; exact some_no d' d
    | _ => rfl
  | go e a b c d => cases h' with
    | no0 e' => exact some_no e e'
    | no1 e' a' => rw [some_fn e' e] at a'; cases f1 a a'
    | no2 e' a' b' => rw [some_fn e' e] at a'; cases f1 a a'; exact some_no b b'
    | no3 e' a' b' c' => rw [some_fn e' e] at a'; cases f1 a a'; rw [some_fn b' b] at c'; cases f2 c c'
    | no4 e' a' b' c' d' => rw [some_fn e' e] at a'; cases f1 a a'; rw [some_fn b' b] at c'; cases f2 c c'; exact some_no d d'
    | go e' a' b' c' d' => rw [some_fn e' e] at a'; cases f1 a a'; rw [some_fn b' b] at c'; cases f2 c c'; rw [some_fn d d']
theorem RdW.fn : ∀ k : Kn, Fn1 (RdW k)
  | .names => RdN.fn
  | .most => RdM.fn
  | .last => RdL.fn
  | .each k => RdT.fn (inn := RdW k) (RdW.fn k)
  | .both k l => RdB.fn (i1 := RdW k) (i2 := RdW l) (RdW.fn k) (RdW.fn l)
/-! ### what is written is read back -/
def StopF (r : List Nat) : Prop := r = [] ∨ ∃ c s, r = c :: s ∧ isF c = false
theorem run_of_num {z r : List Nat} (hz : ∀ c ∈ z, isF c = true) (hr : StopF r) : (z ++ r).takeWhile isF = z ∧ (z ++ r).dropWhile isF = r := by
  induction z with
  | nil =>
    rcases hr with rfl | ⟨c, s, rfl, hc⟩
    · exact ⟨rfl, rfl⟩
    · simp [List.takeWhile, List.dropWhile, hc]
  | cons c z ih =>
    obtain ⟨i1, i2⟩ := ih fun e he => hz e (List.mem_cons_of_mem _ he)
    rw [List.cons_append, List.takeWhile_cons_of_pos (hz c List.mem_cons_self), List.dropWhile_cons_of_pos (hz c List.mem_cons_self), i1, i2]
    exact ⟨rfl, rfl⟩
theorem drop_of_word {z r : List Nat} (hz : ∀ c ∈ z, isL c = true) (hr : Stop r) : (z ++ r).dropWhile isL = r := by
  induction z with
  | nil =>
    rcases hr with rfl | ⟨c, s, rfl, hc⟩
    · rfl
    · simp [List.dropWhile, hc]
  | cons c z ih =>
    rw [List.cons_append, List.dropWhile_cons_of_pos (hz c List.mem_cons_self), ih fun e he => hz e (List.mem_cons_of_mem _ he)]
theorem num_head : ∀ (n : Nat), n ≠ 0 → (TL.numL n).head? ≠ some 48 := by
  intro n
  induction n using Nat.strongRecOn with
  | ind n ih =>
    intro h0
    by_cases h : n < 10
    · rw [TL.numL_lt h]; simp; omega
    · rw [TL.numL_step (by omega), List.head?_append]
      have := ih (n / 10) (by omega) (by omega)
      cases e : (TL.numL (n / 10)).head? with
      | none => exact absurd (List.head?_eq_none_iff.mp e) (TL.numL_ne _)
      | some c => rw [e] at this; simpa using this
theorem num_good {n : Nat} (h : n < 10 ^ 60) : ¬ badC (TL.numL n) := by
  rintro (e | e | ⟨e, e'⟩)
  · exact TL.numL_ne n e
  · have := TL.numL_len (k := 60) (by decide) h; omega
  · by_cases h0 : n = 0
    · rw [h0, TL.numL_lt (by decide)] at e'; exact e' rfl
    · exact num_head n h0 e
theorem num_F (n : Nat) : ∀ c ∈ TL.numL n, isF c = true := fun c hc => isF_iff.mpr (TL.numL_digits n c hc)
theorem RdC.comp {n : Nat} {r : List Nat} (h : n < 10 ^ 60) (hr : StopF r) : RdC (TL.numL n ++ r) (some (n, r)) := by
  obtain ⟨e1, e2⟩ := run_of_num (num_F n) hr
  have := RdC.yes (s := TL.numL n ++ r) (by rw [e1]; exact num_good h)
  rw [e1, e2, TL.numL_val] at this
  exact this
theorem cutP_ne {a b : Nat} {y s : List Nat} (h : a ≠ b) : cutP (a :: y) (b :: s) = none := by
  unfold cutP
  rw [if_neg]
  intro e
  rw [List.length_cons, List.take_succ_cons] at e
  exact h (List.cons.inj e).1.symm
theorem cutP_nil {a : Nat} {y : List Nat} : cutP (a :: y) [] = none := rfl
theorem num_cons (n : Nat) : ∃ c s, TL.numL n = c :: s ∧ isF c = true := by
  cases e : TL.numL n with
  | nil => exact absurd e (TL.numL_ne n)
  | cons c s => exact ⟨c, s, rfl, num_F n c (by rw [e]; exact List.mem_cons_self)⟩
theorem RdI.comp {i : Int} {r : List Nat} (h : i.natAbs < 10 ^ 60) (hr : StopF r) : RdI (intL i ++ r) (some (i, r)) := by
  unfold intL
  by_cases h0 : 0 ≤ i
  · rw [if_pos h0]
    obtain ⟨c, s, e, hc⟩ := num_cons i.natAbs
    have := RdI.pos (s := TL.numL i.natAbs ++ r) (by
      rw [e, List.cons_append]
      refine cutP_ne (a := 45) (y := []) ?_
      rintro rfl
      exact absurd hc (by decide)) (RdC.comp h hr)
    have e : ((i.natAbs : Nat) : Int) = i := by omega
    rw [Option.map_some] at this
    simp only [e] at this
    exact this
  · rw [if_neg h0]
    have := RdI.neg (s := 45 :: TL.numL i.natAbs ++ r) (r := TL.numL i.natAbs ++ r) (cutP_app [45] _) (RdC.comp h hr) (by omega)
    have e : (0 : Int) - ((i.natAbs : Nat) : Int) = i := by omega
    rw [e] at this
    exact this
theorem stop_cons {c : Nat} {s : List Nat} (h : isL c = false) : Stop (c :: s) := .inr ⟨c, s, rfl, h⟩
theorem LpN.comp {r : List Nat} : ∀ (ns : List (List Nat)) (b : Bool), (∀ n ∈ ns, n ≠ [] ∧ ∀ c ∈ n, isL c = true) → LpN b (bodyL (cp " ") b ns ++ (cp "}" ++ r)) (some (ns, r))
  | [], b, _ => by rw [body_nil]; exact .done (cutP_app _ _)
  | n :: ns, b, h => by
    obtain ⟨h1, h2⟩ := h n List.mem_cons_self
    have ih := LpN.comp (r := r) ns false fun m hm => h m (List.mem_cons_of_mem _ hm)
    obtain ⟨c, z, rfl⟩ : ∃ c z, n = c :: z := by
      cases n with
      | nil => exact absurd rfl h1
      | cons c z => exact ⟨c, z, rfl⟩
    have hst : Stop (bodyL (cp " ") false ns ++ (cp "}" ++ r)) := by
      cases ns with
      | nil => rw [body_nil]; exact stop_cons (c := 125) (by decide)
      | cons m ms => rw [body_cons]; exact stop_cons (c := 32) (by decide)
    have e1 : ((c :: z) ++ (bodyL (cp " ") false ns ++ (cp "}" ++ r))).takeWhile isL = c :: z := run_of_word h2 hst
    have e2 := drop_of_word h2 hst
    rw [body_cons, List.append_assoc, List.append_assoc]
    have := LpN.more (b := b) (s := pre1 (cp " ") b ++ ((c :: z) ++ (bodyL (cp " ") false ns ++ (cp "}" ++ r)))) (s1 := (c :: z) ++ (bodyL (cp " ") false ns ++ (cp "}" ++ r))) (o := some (ns, r)) ?_ ?_ (by rw [e1]; simp) (by rw [e2]; exact ih)
    · rw [e1] at this; exact this
    · cases b with
      | true =>
        refine cutP_ne (a := 125) (y := []) fun e => ?_
        have := h2 c List.mem_cons_self
        rw [← e] at this
        exact absurd this (by decide)
      | false => exact cutP_ne (a := 125) (b := 32) (y := []) (by decide)
    · unfold Sep pre1
      cases b with
      | true => rfl
      | false => exact cutP_app _ _
theorem nm_L {z : Str} (h : isNm (.str z) = true) : cp z ≠ [] ∧ ∀ c ∈ cp z, isL c = true := by
  have := nm_len h
  rw [isNm_str, Bool.and_eq_true, Bool.and_eq_true] at h
  refine ⟨fun e => ?_, List.all_eq_true.mp h.2.2⟩
  have h1 := this.1
  rw [len_cp, e] at h1
  exact absurd h1 (by decide)
theorem LpT.comp {inn : List Nat → Option (PyData × List Nat) → Prop} {f : PyData → List Nat} {r : List Nat} : ∀ (ds : List PyData) (b : Bool), (∀ d ∈ ds, ∃ z x, d = .tuple [.str z, x] ∧ isNm (.str z) = true ∧ ∀ r', StopF r' → inn (f x ++ r') (some (x, r'))) →
    LpT inn b (bodyL (cp ", ") b (ds.map fun r => cp (strD (fstD r)) ++ (cp ": " ++ f (sndD r))) ++ (cp "]" ++ r)) (some (ds, r))
  | [], b, _ => by rw [List.map_nil, body_nil]; exact .done (cutP_app _ _)
  | d :: ds, b, h => by
    obtain ⟨z, x, rfl, hz, hx⟩ := h d List.mem_cons_self
    have ih := LpT.comp (f := f) (r := r) ds false fun m hm => h m (List.mem_cons_of_mem _ hm)
    obtain ⟨n1, n2⟩ := nm_L hz
    rw [List.map_cons, body_cons]
    generalize hB : bodyL (cp ", ") false (ds.map fun r => cp (strD (fstD r)) ++ (cp ": " ++ f (sndD r))) = B at ih ⊢
    have hst : StopF (B ++ (cp "]" ++ r)) := by
      rw [← hB]
      cases ds with
      | nil => rw [List.map_nil, body_nil]; exact .inr ⟨93, _, rfl, by decide⟩
      | cons m ms => rw [List.map_cons, body_cons]; exact .inr ⟨44, _, rfl, by decide⟩
    have es : pre1 (cp ", ") b ++ ((cp (strD (fstD (.tuple [.str z, x]))) ++ (cp ": " ++ f (sndD (.tuple [.str z, x])))) ++ B) ++ (cp "]" ++ r) = pre1 (cp ", ") b ++ (cp z ++ (cp ": " ++ (f x ++ (B ++ (cp "]" ++ r))))) := by
      simp only [List.append_assoc]; rfl
    rw [es]
    have hs2 : Stop (cp ": " ++ (f x ++ (B ++ (cp "]" ++ r)))) := stop_cons (c := 58) (by decide)
    have e1 := run_of_word n2 hs2
    have e2 := drop_of_word n2 hs2
    have := LpT.more (inn := inn) (b := b) (s := pre1 (cp ", ") b ++ (cp z ++ (cp ": " ++ (f x ++ (B ++ (cp "]" ++ r)))))) (s1 := cp z ++ (cp ": " ++ (f x ++ (B ++ (cp "]" ++ r))))) (s2 := f x ++ (B ++ (cp "]" ++ r))) (d := x) (s3 := B ++ (cp "]" ++ r)) (o := some (ds, r)) ?_ ?_ (by rw [e2]; exact cutP_app _ _) (hx _ hst) ih
    · rw [e1, tx_cp] at this; exact this
    · cases b with
      | true =>
        cases e : cp z with
        | nil => exact absurd e n1
        | cons c y =>
          refine cutP_ne (a := 93) (y := []) fun q => ?_
          have := n2 c (by rw [e]; exact List.mem_cons_self)
          rw [← q] at this
          exact absurd this (by decide)
      | false => exact cutP_ne (a := 93) (b := 44) (y := []) (by decide)
    · unfold Sep pre1
      cases b with
      | true => rfl
      | false => exact cutP_app _ _
theorem sz_fig {m : Nat} {i : Int} (hm : m ≤ 50) (h : szB m (.int i) = true) : i.natAbs < 10 ^ 60 := by
  have h := sz_int.mp h
  refine Nat.lt_of_lt_of_le h (Nat.le_trans (Nat.pow_le_pow_right (by decide) (show 100 + m ≤ 150 by omega)) ?_)
  decide +kernel
theorem RdW.comp : ∀ (k : Kn) {m : Nat} {d : PyData} {r : List Nat}, m ≤ 50 → isW k d = true → szB m d = true → StopF r → RdW k (shW k d ++ r) (some (d, r))
  | .names, m, d, r, hm, hw, hz, hr => by
    obtain ⟨ys, rfl, hy, _⟩ := isW_names hw
    have l := LpN.comp (r := r) (ys.map cp) true fun n hn => by
      obtain ⟨y, hy', rfl⟩ := List.mem_map.mp hn
      exact nm_L (hy y hy')
    have := RdN.go (s := cp "{" ++ (bodyL (cp " ") true (ys.map cp) ++ (cp "}" ++ r))) (cutP_app _ _) l
    have e : shW .names (.tuple (ys.map .str)) ++ r = cp "{" ++ (bodyL (cp " ") true (ys.map cp) ++ (cp "}" ++ r)) := by
      show (cp "{" ++ (jnL (cp " ") ((ys.map PyData.str).map fun n => cp (strD n)) ++ cp "}")) ++ r = _
      rw [List.map_map, List.append_assoc, List.append_assoc]
      rfl
    rw [e]
    have e2 : (ys.map cp).map (fun n => PyData.str (tx n)) = ys.map .str := by
      rw [List.map_map]; exact List.map_congr_left fun y _ => by show PyData.str (tx (cp y)) = _; rw [tx_cp]
    rw [Option.map_some, e2] at this
    exact this
  | .most, m, d, r, hm, hw, hz, hr => by
    obtain ⟨i, rfl, hi⟩ := isW_most hw
    have c := RdC.comp (sz_fig hm hz) hr
    have := RdM.go c
    have e : shW .most (.int i) = TL.numL i.natAbs := by show intL i = _; unfold intL; rw [if_pos hi]
    have e2 : ((i.natAbs : Nat) : Int) = i := by omega
    rw [Option.map_some] at this
    simp only [e2] at this
    rw [e]
    exact this
  | .last, m, d, r, hm, hw, hz, hr => by
    obtain ⟨a, b, rfl, hab⟩ := isW_last hw
    obtain ⟨_, hd⟩ := sz_tup hz
    have ha := sz_fig hm (hd (.int a) (by simp))
    have hb := sz_fig hm (hd (.int b) (by simp))
    have h0 : 0 ≤ a := by omega
    have c := RdC.comp (r := cp "@" ++ (intL b ++ r)) ha (.inr ⟨64, _, rfl, by decide⟩)
    have := RdL.go c (cutP_app _ _) (RdI.comp hb hr)
    have e : shW .last (.tuple [.int a, .int b]) ++ r = TL.numL a.natAbs ++ (cp "@" ++ (intL b ++ r)) := by
      show (intL a ++ (cp "@" ++ intL b)) ++ r = _
      have : intL a = TL.numL a.natAbs := by unfold intL; rw [if_pos h0]
      rw [this, List.append_assoc, List.append_assoc]
    have e2 : ((a.natAbs : Nat) : Int) = a := by omega
    rw [Option.map_some] at this
    simp only [e2] at this
    rw [e]
    exact this
  | .each k, m, d, r, hm, hw, hz, hr => by
    obtain ⟨ds, rfl, hrow, _⟩ := isW_each hw
    obtain ⟨_, hd⟩ := sz_tup hz
    have l := LpT.comp (inn := RdW k) (f := shW k) (r := r) ds true fun d hdm => by
      obtain ⟨z, x, rfl, hz', hx, _⟩ := isRow_ok (hrow d hdm)
      exact ⟨z, x, rfl, hz', fun r' hr' => RdW.comp k hm hx ((sz_tup (hd _ hdm)).2 x (by simp)) hr'⟩
    have := RdT.go (s := cp "[" ++ (bodyL (cp ", ") true (ds.map fun r => cp (strD (fstD r)) ++ (cp ": " ++ shW k (sndD r))) ++ (cp "]" ++ r))) (cutP_app _ _) l
    have e : shW (.each k) (.tuple ds) ++ r = cp "[" ++ (bodyL (cp ", ") true (ds.map fun r => cp (strD (fstD r)) ++ (cp ": " ++ shW k (sndD r))) ++ (cp "]" ++ r)) := by
      show (cp "[" ++ (jnL (cp ", ") (ds.map fun r => cp (strD (fstD r)) ++ (cp ": " ++ shW k (sndD r))) ++ cp "]")) ++ r = _
      rw [List.append_assoc, List.append_assoc]
      rfl
    rw [e]
    exact this
  | .both k l, m, d, r, hm, hw, hz, hr => by
    obtain ⟨a, b, rfl, h1, h2⟩ := isW_both hw
    obtain ⟨_, hd⟩ := sz_tup hz
    have c1 := RdW.comp k (r := cp ", " ++ (shW l b ++ (cp ")" ++ r))) hm h1 (hd a (by simp)) (.inr ⟨44, _, rfl, by decide⟩)
    have c2 := RdW.comp l (r := cp ")" ++ r) hm h2 (hd b (by simp)) (.inr ⟨41, _, rfl, by decide⟩)
    have := RdB.go (i1 := RdW k) (i2 := RdW l) (s := cp "(" ++ (shW k a ++ (cp ", " ++ (shW l b ++ (cp ")" ++ r))))) (cutP_app _ _) c1 (cutP_app _ _) c2 (cutP_app _ _)
    have e : shW (.both k l) (.tuple [a, b]) ++ r = cp "(" ++ (shW k a ++ (cp ", " ++ (shW l b ++ (cp ")" ++ r)))) := by
      show (cp "(" ++ (shW k a ++ (cp ", " ++ (shW l b ++ cp ")")))) ++ r = _
      simp only [List.append_assoc]
    rw [e]
    exact this
/-- two worths have one writing just where they are alike -/
theorem shW_inj {k : Kn} {m : Nat} {d e : PyData} (hm : m ≤ 50) (hd : isW k d = true) (he : isW k e = true) (zd : szB m d = true) (ze : szB m e = true) (h : shW k d = shW k e) : d = e := by
  have c1 := RdW.comp k (r := []) hm hd zd (.inl rfl)
  have c2 := RdW.comp k (r := []) hm he ze (.inl rfl)
  rw [h] at c1
  cases RdW.fn k c1 c2
  rfl
end G

set_option Elab.async false
set_option linter.all false
set_option maxRecDepth 100000
set_option maxHeartbeats 4000000
namespace G
open PySem PySem.Spec PyProof.Rows L2 DL
def smB : Nat → PyData → Bool
  | _, .bool _ => true
  | _, .int _ => true
  | _, .str _ => true
  | n + 1, .tuple ds => decide (ds.length ≤ 16000) && ds.all (smB n)
  | n + 1, .list ds => decide (ds.length ≤ 16000) && ds.all (smB n)
  | _, _ => false
def c_law_same (n : Nat) : Ct := fun ss w R => ∃ d, ss = [.dat d, .dat d] ∧ smB n d = true ∧ R (.dat (.bool true)) w
theorem len_law_same {n ss w R} (h : c_law_same n ss w R) : ss.length = 2 := by obtain ⟨_, rfl, _⟩ := h; rfl
def N_law_same : List Str := ["found", "due", "k"]
def t_law_same (cr : Ct) : DTS :=
  (dSeq (dIfS (dTst (dIsi2 .list .tuple (dVar 1))) (dSeq (dIfS (dOr (dTst (dOp (eqS true) (dIsi .list (dVar 0)) (dIsi .list (dVar 1)))) (dNot (dTst (dIsi2 .list .tuple (dVar 0))))) (dRet (dC (.bool false))) dNext)
  (dRet (dAndV (dOp (eqS false) (dCB lenS (dCons (dVar 0) dNil)) (dCB lenS (dCons (dVar 1) dNil))) (dCB allS (dCons (dLc (dRng1 (dCons (dCB lenS (dCons (dVar 1) dNil)) dNil)) (dName 2) dYes (dCall cr [] (dCons (dOp ixS (dVar 0) (dVar 2)) (dCons (dOp ixS (dVar 1) (dVar 2)) dNil))) [2]) dNil))))) dNext)
  (dRet (dAndV (dOp (eqS false) (dVar 0) (dVar 1)) (dOp (eqS false) (dIsi .bool (dVar 0)) (dIsi .bool (dVar 1))))))

local macro_rules | `(tactic| walk_at "rr") => `(tactic| repeat (first | refine ⟨_, rfl, ?_⟩ | refine ⟨_, _, rfl, rfl, ?_⟩ | refine frzL (sq_line (by simp)) ?_ | refine iteT ?_ | refine iteF ?_ | refine And.intro (sq_line (by simp)) ?_ | fail "stop"))
theorem rd_law_same (n : Nat) {ss w R} (h : c_law_same n ss w R) : t_law_same (prev c_law_same n) (endsN R) (startD N_law_same ss) w := by
  obtain ⟨d, rfl, hz, q⟩ := h
  have fin : ∃ u, Sub u w ∧ R (.dat (.bool true)) u := ⟨w, Sub.refl _, q⟩
  have seq : ∀ (ds : List PyData) (sl : Sl) (ρ : DEnv) (n' : Nat), sq w sl = some (ds.map .dat) → (∀ (i : Nat) (e : PyData), ds[i]? = some e → ixS w sl (.dat (.int (i : Nat))) = some (.v (.dat e))) → ds.length ≤ 16000 → (∀ e ∈ ds, smB n' e = true) → ρ = [some sl, some sl, none] →
      dCB allS (dCons (dLc (dRng1 (dCons (dCB lenS (dCons (dVar 1) dNil)) dNil)) (dName 2) dYes (dCall (c_law_same n') [] (dCons (dOp ixS (dVar 0) (dVar 2)) (dCons (dOp ixS (dVar 1) (dVar 2)) dNil))) [2]) dNil) ρ w (endsN R).rt := by
    intro ds sl ρ n' hsq hix hl hs hρ
    subst hρ
    refine ⟨_, rfl, _, lenS_sq hsq, _, rfl, by omega, by rw [List.length_map]; omega, ?_⟩
    refine lc_map (fun _ => .dat (.bool true)) trivial _ _ (fun x hx C hC => ?_) (by rw [irange_len, List.length_map]; exact sq_line (by simp; omega)) ?_
    · obtain ⟨i, hi, rfl⟩ := irange_mem hx
      rw [List.length_map] at hi
      have hi : i < ds.length := by omega
      have he := List.getElem?_eq_getElem hi
      refine ⟨_, rfl, _, rfl, _, hix i _ he, _, rfl, _, rfl, _, hix i _ he, ?_⟩
      exact ⟨ds[i], rfl, hs _ (List.getElem_mem hi), hC⟩
    · intro p hp
      refine ⟨_, allS_ok (bs := (irange 0 ((ds.map Sl.dat).length : Int).toNat).map fun _ => true) (sqL_adr (put_same.trans (by simp))), w, Sub.new hp, ?_⟩
      have : ((irange 0 ((ds.map Sl.dat).length : Int).toNat).map fun _ => true).all id = true := by simp
      rw [this]
      exact q
  cases d with
  | str z => walk_at "rr"; rw [beq_self_eq_true]; walk_at "rr"; exact fin
  | int z => walk_at "rr"; rw [beq_self_eq_true]; walk_at "rr"; exact fin
  | bool z => walk_at "rr"; rw [beq_self_eq_true]; walk_at "rr"; exact fin
  | none => cases n <;> cases hz
  | dict _ => cases n <;> cases hz
  | tuple ds =>
    cases n with
    | zero => cases hz
    | succ n' =>
      have hz' : (decide (ds.length ≤ 16000) && ds.all (smB n')) = true := hz
      rw [Bool.and_eq_true] at hz'
      walk_at "rr"
      rw [beq_self_eq_true]
      refine iteT ?_
      refine seq ds _ _ n' rfl (fun i e he => ixS_tup (atI_nat he)) (of_decide_eq_true hz'.1) (List.all_eq_true.mp hz'.2) rfl
  | list ds =>
    cases n with
    | zero => cases hz
    | succ n' =>
      have hz' : (decide (ds.length ≤ 16000) && ds.all (smB n')) = true := hz
      rw [Bool.and_eq_true] at hz'
      walk_at "rr"
      rw [beq_self_eq_true]
      refine iteT ?_
      refine seq ds _ _ n' rfl (fun i e he => ixS_list (atI_nat he)) (of_decide_eq_true hz'.1) (List.all_eq_true.mp hz'.2) rfl
end G

set_option Elab.async false
set_option linter.all false
set_option maxRecDepth 100000
set_option maxHeartbeats 4000000
/-! DL17: dict(pairs), d[k] = v, k in d, sorted(d), tuple * 0 or 1 -/
namespace DL
open PySem PySem.Spec PyProof.Rows L2
def kD : Key → PyData
  | .inl i => .int i
  | .inr z => .str z
def mergeA (kvs more : List (Key × Sl)) : List (Key × Sl) := more.foldl (fun acc kv => putA acc kv.1 kv.2) kvs
section
variable {X : Cx} {W : WX} {Z : DX} {K : PySem.W.Frag} {a b c e e2 : Expr} {ta tb tc te : DTE} {pos p p2 pos2 pos' : Pos} {es : List Expr} {tr : DTA}
theorem kva_merge {D : Hp} : ∀ {ms : List (Key × V)} {mvs : List (Key × Sl)} {ks : List (Key × V)} {kvs : List (Key × Sl)}, KvA K D ms mvs → KvA K D ks kvs → KvA K D (mergeK ks ms) (mergeA kvs mvs)
  | _, _, _, _, .nil, h => h
  | _, _, _, _, .cons (a := (g, u)) (b := (g', s)) ⟨h1, h2⟩ r, h => by
    cases h1
    have ih := kva_merge r (kva_put (k := g) h2 h)
    exact ih
theorem dr_key {D : Hp} {v : V} {k : Key} (r : Dr K D v (kD k)) : v = kV k := by
  cases k with
  | inl i => exact dr_int r
  | inr z => exact dr_str r
abbrev pairSl (q : Key × PyData) : Sl := .dat (.tuple [kD q.1, q.2])
theorem pairs_sl {w : Om} {D H : Hp} (st : StOk K w D H) : ∀ {kvs : List (Key × PyData)} {vs : List V}, SlA K D vs (kvs.map pairSl) → ∃ (ps : List Addr) (ms : List (Key × V)), vs = ps.map V.ref ∧ Paired (fun p kv => SqT K H p [kV kv.1, kv.2]) ps ms ∧ KvA K D ms (kvs.map fun q => (q.1, .dat q.2))
  | [], _, .nil => ⟨[], [], rfl, .nil, .nil⟩
  | q :: kvs, _, .cons h t => by
    obtain ⟨ps, ms, rfl, h1, h2⟩ := pairs_sl st t
    obtain ⟨p, vs, rfl, hT, hd⟩ := tup_ok st h
    cases hd with
    | cons a1 r1 =>
      cases r1 with
      | cons a2 r2 =>
        cases r2
        rename_i v1 v2
        have e := dr_key a1
        subst e
        exact ⟨p :: ps, (q.1, v2) :: ms, rfl, .cons hT h1, .cons ⟨rfl, a2⟩ h2⟩
/-- dict(e), e a list of pairs -/
def dDictL (te : DTE) : DTE := fun ρ w R => te ρ w fun s w1 => ∃ kvs : List (Key × PyData), sqL w1 s = some (kvs.map pairSl) ∧ ∀ p, w1 p = none → R (.adr p) (put w1 p (.dic (mergeA [] (kvs.map fun q => (q.1, .dat q.2)))))
theorem de_dictL (hc : X.calm = true) (hg : Gl X "dict") (hm : X.mg "dict" = none) (he : DE X W Z e te) (hs : starEach [e] X.env = (false, eval e X.env) :: starEach [] X.env := by rfl) (hpl : (backTo pos (starEach [] X.env)).any (·.1) = false := by rfl) :
    DE X W Z (.Call (.Name "dict" p) [e] [] pos) (dDictL te) :=
  pe_weak (pe_callTy (call_dictP hc) hg hm (by decide +kernel) (pa_cons he pa_nil hs) (by decide) (by decide) hs hpl)
    fun σ H Q ⟨ρ, w, D, R, rp, xo, h, f⟩ => ⟨ρ, w, D, _, rp, xo, h, fun s w1 v D1 H1 h1 g1 s1 r1 => by
      obtain ⟨kvs, hq, h1⟩ := h1
      obtain ⟨q, vs, rfl, hsq, hv⟩ := sqL_ok s1 r1 hq
      obtain ⟨ps, ms, rfl, hp, hk⟩ := pairs_sl s1 hv
      refine ⟨q, ps, ms, rfl, SqL.of hsq, hp, fun x hx => ?_⟩
      exact (f.next g1) (.adr x) (put w1 x (.dic (mergeA [] (kvs.map fun q => (q.1, .dat q.2))))) (.ref x) D1 (upd H1 x (.dK (mergeK [] ms))) (h1 x (s1.freeW hx)) (Gr.newW s1 hx) (s1.newW hx ⟨_, upd_same, kva_merge hk .nil⟩) rfl⟩
/-- o[i] = v, o a dict of the store -/
def dDPut (to ti tv : DTE) : DTS := fun F ρ w => tv ρ w fun v w1 => to ρ w1 fun s w2 => ti ρ w2 fun y w3 => ∃ q kvs k, s = .adr q ∧ w3 q = some (.dic kvs) ∧ keyOfS y = some k ∧ kvs.length < sizeLine ∧ F.nx ρ (put w3 q (.dic (putA kvs k v)))
theorem ds_dput (hu : X.A.units + 64 < cLine) (ho : DE X W Z a ta) (hi : DE X W Z b tb) (hv : DE X W Z c tc) (hs : swapsWith c (some (.Subscript a b pos')) pos.line X.env = pure false := by rfl) : DS X W Z (.Assign [.Subscript a b pos'] c pos) (dDPut ta tb tc) :=
  ps_weak (ps_dput (by omega) ho hi hv hs) fun E σ H ⟨ρ, w, D, F, rp, xo, h, eo⟩ => ⟨ρ, w, D, _, rp, xo, h, fun v w1 x D1 H1 h1 g1 s1 r1 => ⟨ρ, w1, D1, _, rp.next g1.dd s1, xo.next g1, h1, fun s w2 u D2 H2 h2 g2 s2 r2 =>
    ⟨ρ, w2, D2, _, rp.next (g1.trans g2).dd s2, xo.next (g1.trans g2), h2, fun y w3 t D3 H3 h3 g3 s3 r3 => by
      obtain ⟨q, kvs, k, rfl, hw, hk, hl, hn⟩ := h3
      obtain ⟨ks, hH, hv⟩ := s3.own q _ hw
      have r2' : u = .ref q := r2
      subst r2'
      have g := (g1.trans g2).trans g3
      have e := key_rel r3 hk
      refine ⟨q, _, rfl, by rw [e]; exact DPut.k hH (by rw [Paired.length hv]; exact hl), ?_⟩
      have st' := s3.write (o := .dK (putK ks k x)) (u' := .dic (putA kvs k v)) hw ⟨_, upd_same, kva_put (r1.mono (g2.trans g3).dd) hv⟩
      have gr := g.trans (Gr.write (D := D3) (H := H3) (o := .dK (putK ks k x)) (u' := .dic (putA kvs k v)) hw)
      exact eo.nx ρ _ σ D3 _ hn gr (rp.next gr.dd st')⟩⟩⟩
/-- k in o, k not in o, o a dict of the store -/
def dDIn (n : Bool) (ti to : DTE) : DTE := fun ρ w R => ti ρ w fun y w1 => to ρ w1 fun s w2 => ∃ q kvs k, s = .adr q ∧ w2 q = some (.dic kvs) ∧ keyOfS y = some k ∧ R (.dat (.bool ((valS kvs k).isSome != n))) w2
theorem kva_isSome {D : Hp} {k : Key} {ks : List (Key × V)} {kvs : List (Key × Sl)} (h : KvA K D ks kvs) : (valV ks k).isSome = (valS kvs k).isSome := by
  cases e : valS kvs k with
  | none => rw [kva_no h e]; rfl
  | some s => obtain ⟨v, e1, _⟩ := kva_get h e; rw [e1]; rfl
theorem up_din {σ : L2.St} {H : Hp} {Q : VK} (h : up X.K W Z (dDIn false ta tb) σ H Q) : tDIn (up X.K W Z ta) (up X.K W Z tb) σ H Q := by
  obtain ⟨ρ, w, D, R, rp, xo, h, f⟩ := h
  refine ⟨ρ, w, D, _, rp, xo, h, fun y w1 v D1 H1 h1 g1 s1 r1 => ⟨ρ, w1, D1, _, rp.next g1.dd s1, xo.next g1, h1, fun s w2 u D2 H2 h2 g2 s2 r2 => ?_⟩⟩
  obtain ⟨q, kvs, k, rfl, hw, hk, hR⟩ := h2
  obtain ⟨ks, hH, hv⟩ := s2.own q _ hw
  have e := key_rel (r1.mono g2.dd) hk
  refine ⟨q, valV ks k, r2, by rw [e]; exact DGet.k hH, (f.next (g1.trans g2)).d s2 (d := .bool _) hR ?_⟩
  rw [kva_isSome hv]
  cases (valS kvs k).isSome <;> exact .bl _
theorem up_dnotin {σ : L2.St} {H : Hp} {Q : VK} (h : up X.K W Z (dDIn true ta tb) σ H Q) : tDNotIn (up X.K W Z ta) (up X.K W Z tb) σ H Q := by
  obtain ⟨ρ, w, D, R, rp, xo, h, f⟩ := h
  refine ⟨ρ, w, D, _, rp, xo, h, fun y w1 v D1 H1 h1 g1 s1 r1 => ⟨ρ, w1, D1, _, rp.next g1.dd s1, xo.next g1, h1, fun s w2 u D2 H2 h2 g2 s2 r2 => ?_⟩⟩
  obtain ⟨q, kvs, k, rfl, hw, hk, hR⟩ := h2
  obtain ⟨ks, hH, hv⟩ := s2.own q _ hw
  have e := key_rel (r1.mono g2.dd) hk
  refine ⟨q, valV ks k, r2, by rw [e]; exact DGet.k hH, (f.next (g1.trans g2)).d s2 (d := .bool _) hR ?_⟩
  rw [kva_isSome hv]
  cases (valS kvs k).isSome <;> exact .bl _
theorem de_din (hu : X.A.units + 64 < cLine) (ha : DE X W Z a ta) (hb : DE X W Z b tb) (hm : behindInMarks .In b = false := by rfl) : DE X W Z (.Compare a [.In] [b] pos) (dDIn false ta tb) := pe_weak (pe_cmp (pc_din (by omega) ha hb) hm) fun _ _ _ h => up_din h
theorem de_dnotin (hu : X.A.units + 64 < cLine) (ha : DE X W Z a ta) (hb : DE X W Z b tb) (hm : behindInMarks .NotIn b = false := by rfl) : DE X W Z (.Compare a [.NotIn] [b] pos) (dDIn true ta tb) := pe_weak (pe_cmp (pc_dnotin (by omega) ha hb) hm) fun _ _ _ h => up_dnotin h
theorem dt_din (hu : X.A.units + 64 < cLine) (ha : DE X W Z a ta) (hb : DE X W Z b tb) (hm : behindInMarks .In b = false := by rfl) : DT X W Z (.Compare a [.In] [b] pos) (dTst (dDIn false ta tb)) :=
  pt_weak (pt_cmp (pc_din (by omega) ha hb) hm) fun σ H Q ⟨ρ, w, D, R, rp, xo, h, f⟩ => up_din ⟨ρ, w, D, _, rp, xo, h, fin_tst (Q := fun _ _ => True) f⟩
theorem dt_dnotin (hu : X.A.units + 64 < cLine) (ha : DE X W Z a ta) (hb : DE X W Z b tb) (hm : behindInMarks .NotIn b = false := by rfl) : DT X W Z (.Compare a [.NotIn] [b] pos) (dTst (dDIn true ta tb)) :=
  pt_weak (pt_cmp (pc_dnotin (by omega) ha hb) hm) fun σ H Q ⟨ρ, w, D, R, rp, xo, h, f⟩ => up_dnotin ⟨ρ, w, D, _, rp, xo, h, fin_tst (Q := fun _ _ => True) f⟩
/-! ### sorted(d) -/
theorem ltCps_iff : ∀ (x y : List Nat), ltCps x y = true ↔ x < y
  | [], [] => by simp [ltCps]
  | [], _ :: _ => by simp [ltCps]
  | _ :: _, [] => by simp [ltCps]
  | a :: x, b :: y => by
    have ih := ltCps_iff x y
    unfold ltCps
    rw [List.cons_lt_cons_iff]
    simp [ih]
theorem rising_le : ∀ (l : List Str) (p : Str), risingS p l = true → (∀ x ∈ l, LeT p x) ∧ l.Pairwise LeT
  | [], _, _ => ⟨fun _ h => (by cases h), .nil⟩
  | x :: r, p, h => by
    have h' : (!ltCps x.cps.toList p.cps.toList && risingS x r) = true := h
    rw [Bool.and_eq_true] at h'
    obtain ⟨i1, i2⟩ := rising_le r x h'.2
    have hp : LeT p x := fun q => by
      have := (ltCps_iff _ _).mpr q
      rw [this] at h'
      simp at h'
    refine ⟨fun y hy => ?_, List.pairwise_cons.mpr ⟨i1, i2⟩⟩
    rcases List.mem_cons.mp hy with rfl | hy
    · exact hp
    · intro q
      exact hp (List.lt_of_le_of_lt (List.not_lt.mp (i1 y hy)) q)
theorem sorted_le {l : List Str} (h : sortedS l = true) : l.Pairwise LeT := by
  cases l with
  | nil => exact .nil
  | cons x r =>
    obtain ⟨h1, h2⟩ := rising_le r x h
    exact List.pairwise_cons.mpr ⟨h1, h2⟩
theorem kva_keys {D : Hp} : ∀ {ks : List (Key × V)} {kvs : List (Key × Sl)}, KvA K D ks kvs → ks.map (·.1) = kvs.map (·.1)
  | _, _, .nil => rfl
  | _, _, .cons h r => by rw [List.map_cons, List.map_cons, h.1, kva_keys r]
def dSortD (te : DTE) : DTE := fun ρ w R => te ρ w fun s w1 => ∃ q kvs, s = .adr q ∧ w1 q = some (.dic kvs) ∧ ∃ ks : List Str, kvs.map (·.1) = ks.map Sum.inr ∧ ks.length < 64 ∧ ∀ ks' p, ks'.Perm ks → ks'.Pairwise LeT → w1 p = none → R (.adr p) (put w1 p (.lst (tS ks')))
theorem de_sortD (hc : X.calm = true) (hg1 : Gl X "sorted") (hm1 : X.mg "sorted" = none) (he : DE X W Z e te) (hs : starEach [e] X.env = (false, eval e X.env) :: starEach [] X.env := by rfl) (hpl : (backTo pos (starEach [] X.env)).any (·.1) = false := by rfl) :
    DE X W Z (.Call (.Name "sorted" p) [e] [] pos) (dSortD te) :=
  pe_weak (pe_callB (call_sortedD hc) hg1 hm1 (by decide +kernel) (pa_cons he pa_nil hs) (by decide) (by decide) hs hpl)
    fun σ H Q ⟨ρ, w, D, R, rp, xo, h, f⟩ => ⟨ρ, w, D, _, rp, xo, h, fun s w1 v D1 H1 h1 g1 s1 r1 => by
      obtain ⟨q, kvs, rfl, hw, ks, hk, hl, h1⟩ := h1
      obtain ⟨ms, hH, hv⟩ := s1.own q _ hw
      have r1' : v = .ref q := r1
      subst r1'
      exact ⟨q, ms, ks, rfl, .inl hH, (kva_keys hv).trans hk, hl, fun ks' r hp hle hr => (f.next g1).nl s1 (fun p hp' => h1 ks' p hp (sorted_le hle) hp') (sl_tS ks') r hr⟩⟩
/-! ### tuple * 0, tuple * 1 -/
theorem tuple_mul1 (l : Addr) (items : Array Value) (n : Nat) (dd : Option Addr) (sl : Array (Option Value)) (x : Int) (u : Tok) (c0 : (decide (x < -(2 ^ 63)) || decide (x ≥ 2 ^ 63)) = false) (c1 : (items.isEmpty || x == 1) = true) :
    Meets (Builtin.«tuple.__mul__» ⟨[.ref l, .int x u], []⟩) (fun _ R s => s.heap.get? l = some { cls := .type "tuple", dict := dd, data := .seq items n, slots := sl } ∧ R (.ok (.ret (Value.ref l))) s) :=
  .of_wp fun prog w A R s h => by
    obtain ⟨hp, g, d, tk, os⟩ := s
    obtain ⟨hl, h⟩ := h
    have f1 := AutoSeq1.idx_int
    wp_walk using wpAny_loadPart' hl
    repeat (first
      | (refine wpAny_ite_false (decide_eq_false (by rw [c0]; exact Bool.false_ne_true)) ?_; wp_walk using wpAny_loadPart' hl)
      | (refine wpAny_ite_true (decide_eq_true c1) ?_; wp_walk using wpAny_loadPart' hl))
    exact ⟨_, rfl, h⟩
theorem tuple_mul0 (l : Addr) (items : Array Value) (n : Nat) (dd : Option Addr) (sl : Array (Option Value)) (u : Tok) (c1 : (items.isEmpty || (0 : Int) == 1) = false) :
    Meets (Builtin.«tuple.__mul__» ⟨[.ref l, .int 0 u], []⟩) (fun _ R s => s.heap.get? l = some { cls := .type "tuple", dict := dd, data := .seq items n, slots := sl } ∧
      R (.ok (.ret (Value.ref s.heap.objs.size))) { s with heap := s.heap.push { cls := Value.type "tuple", data := Data.seq #[] }, toks := s.toks }) :=
  .of_wp fun prog w A R s h => by
    obtain ⟨hp, g, d, tk, os⟩ := s
    obtain ⟨hl, h⟩ := h
    have f1 := AutoSeq1.idx_int
    wp_walk using wpAny_loadPart' hl
    repeat (first
      | (refine wpAny_ite_false (decide_eq_false (by rw [c1]; exact Bool.false_ne_true)) ?_; wp_walk using wpAny_loadPart' hl))
    exact ⟨_, rfl, h⟩
def rMul01 (K : PySem.W.Frag) : R2 := fun x y H Q => ∃ l k xs, x = .ref l ∧ y = .int k ∧ SqT K H l xs ∧ ((k = 1 ∧ Q (.ref l) H) ∨ (k = 0 ∧ (xs = [] → Q (.ref l) H) ∧ ∀ p o, H p = none → o.dict = none → Q (.ref p) (upd H p (.frz o (.tup [])))))
theorem op_mul01 : OpR X (binaryOp .Mult) (rMul01 X.K) := by
  intro pins s σ H x y v u Q I rx ry h
  obtain ⟨l, k, xs, rfl, rfl, hT, h⟩ := h
  cases rx
  obtain ⟨t, rfl⟩ := ry
  obtain ⟨its, r, ⟨⟨cls, dd, data, sl⟩, ho, hc, n, hd⟩, hs⟩ := I.tuple hT
  simp only at hc hd
  subst hc hd
  have go : ∀ (k : Int) (t : Tok), (decide (k < -(2 ^ 63)) || decide (k ≥ 2 ^ 63)) = false → (its.toArray.isEmpty || k == 1) = true → Q (.ref l) H → wpAny (model X.prog X.w) X.A (binaryOp .Mult (.ref l) (.int k t)) (EP X pins σ Q) (fun _ _ => False) s := fun k t c0 c1 q =>
    wpAny_binaryOp_repeat_ref (T := "tuple") (U := "int") (by decide) ⟨_, ho, rfl⟩ (fun s' => typeIs_int s' k t) noFill_tuple_mul F.fills_int_mul F.slot_int_rmul repeat_tuple F.slot_int_index.lookup
    (call_meets F.slot_int_rmul (typeIs_int s k t) F.entry_int_rmul (F.args_int_rmul_2 _ _) (int_rmul_tuple k t l its.toArray n dd sl)
      ⟨ho, rfl, ⟨_, ho, rfl⟩, call_meets F.slot_tuple_mul ⟨_, ho, rfl⟩ F.entry_tuple_mul (F.args_tuple_mul_2 _ _) (tuple_mul1 l its.toArray n dd sl k t c0 c1) ⟨ho, ⟨.ref l, _, I, rfl, q⟩⟩⟩)
  rcases h with ⟨rfl, q⟩ | ⟨rfl, q1, q2⟩
  · exact wpAny_mono (go 1 t (by decide) (by simp) q) (fun _ _ h => h) fun _ _ h => h.elim
  · cases hi : its.toArray.isEmpty with
    | true =>
      have e : its = [] := by simpa using hi
      subst e
      cases r
      exact wpAny_mono (go 0 t (by decide) (by simp) (q1 rfl)) (fun _ _ h => h) fun _ _ h => h.elim
    | false =>
      refine wpAny_binaryOp_repeat_ref (T := "tuple") (U := "int") (by decide) ⟨_, ho, rfl⟩ (fun s' => typeIs_int s' 0 t) noFill_tuple_mul F.fills_int_mul F.slot_int_rmul repeat_tuple F.slot_int_index.lookup
        (call_meets F.slot_int_rmul (typeIs_int s 0 t) F.entry_int_rmul (F.args_int_rmul_2 _ _) (int_rmul_tuple 0 t l its.toArray n dd sl)
          ⟨ho, rfl, ⟨_, ho, rfl⟩, call_meets F.slot_tuple_mul ⟨_, ho, rfl⟩ F.entry_tuple_mul (F.args_tuple_mul_2 _ _) (tuple_mul0 l its.toArray n dd sl t (by rw [hi]; rfl)) ⟨ho, ?_⟩⟩)
      exact ⟨.ref s.heap.objs.size, _, inv_tup I .nil (Nat.zero_le _), rfl, q2 _ _ (I.hok.fresh (Nat.le_refl _)) rfl⟩
def gMulT : G2 := fun _ x y => match x, y with
  | .dat (.tuple ds), .dat (.int k) => if k = 1 then some (.v (.dat (.tuple ds))) else if k = 0 then some (.v (.dat (.tuple []))) else none
  | _, _ => none
theorem gMulT_1 {w : Om} {ds : List PyData} : gMulT w (.dat (.tuple ds)) (.dat (.int 1)) = some (.v (.dat (.tuple ds))) := rfl
theorem gMulT_0 {w : Om} {ds : List PyData} : gMulT w (.dat (.tuple ds)) (.dat (.int 0)) = some (.v (.dat (.tuple []))) := rfl
theorem ov_mulT : OpV K (rMul01 K) gMulT := fun x y v u w D H o R Q st rx ry e ho f => by
  unfold gMulT at e
  split at e
  · rename_i ds k
    obtain ⟨l, vs, rfl, hT, hd⟩ := tup_ok st rx
    cases dr_int ry
    by_cases h1 : k = 1
    · rw [if_pos h1] at e
      cases e
      exact ⟨l, k, vs, rfl, rfl, hT, .inl ⟨h1, f.d st ho rx⟩⟩
    · rw [if_neg h1] at e
      by_cases h0 : k = 0
      · rw [if_pos h0] at e
        cases e
        refine ⟨l, k, vs, rfl, rfl, hT, .inr ⟨h0, fun ev => ?_, f.nt st ho .nil⟩⟩
        subst ev
        cases hd
        exact f.d st ho rx
      · rw [if_neg h0] at e; cases e
  · cases e
theorem de_mulT (ha : DE X W Z a ta) (hb : DE X W Z b tb) : DE X W Z (.BinOp a .Mult b pos) (dOp gMulT ta tb) := de_op op_mul01 ov_mulT ha hb
end
end DL

set_option Elab.async false
set_option linter.all false
set_option maxRecDepth 100000
set_option maxHeartbeats 4000000
/-! BesA: a worth near another one -/
namespace G
open PySem PySem.Spec PyProof.Rows L2 DL
local macro_rules | `(tactic| walk_at "rr") => `(tactic| repeat (first | refine ⟨_, ix_t0, ?_⟩ | refine ⟨_, ix_t1, ?_⟩ | refine ⟨_, ix_t2, ?_⟩ | refine ⟨_, rfl, ?_⟩ | refine ⟨_, _, rfl, rfl, ?_⟩ | refine frzL (sq_line (by simp)) ?_ | refine iteT ?_ | refine iteF ?_ | refine And.intro (sq_line (by simp)) ?_ | fail "stop"))
theorem fw_mono {r r' : Nat} (h : r ≤ r') : ∀ (k : Kn) {d : PyData}, fw r k d = true → fw r' k d = true
  | .names, d, q => by
    unfold fw at q ⊢
    split at q
    · rename_i ds; exact decide_eq_true (Nat.le_trans (of_decide_eq_true q) h)
    · cases q
  | .most, d, q => decide_eq_true (Nat.lt_of_lt_of_le (of_decide_eq_true (p := (intD d).natAbs < 10 ^ 20 + r) q) (by omega))
  | .last, d, q => by
    have q : (decide ((intD (fstD d)).natAbs < 10 ^ 20 + r) && decide ((intD (sndD d)).natAbs < 10 ^ 20 + r)) = true := q
    rw [Bool.and_eq_true] at q
    have q1 := of_decide_eq_true q.1
    have q2 := of_decide_eq_true q.2
    show (decide ((intD (fstD d)).natAbs < 10 ^ 20 + r') && decide ((intD (sndD d)).natAbs < 10 ^ 20 + r')) = true
    rw [decide_eq_true (by omega), decide_eq_true (by omega)]; rfl
  | .each k, d, q => by
    unfold fw at q ⊢
    split at q
    · rename_i ds
      rw [Bool.and_eq_true, List.all_eq_true] at q
      show (decide (ds.length ≤ r') && ds.all fun row => fw r' k (sndD row)) = true
      rw [Bool.and_eq_true, List.all_eq_true]
      exact ⟨decide_eq_true (Nat.le_trans (of_decide_eq_true q.1) h), fun x hx => fw_mono h k (q.2 x hx)⟩
    · cases q
  | .both k l, d, q => by
    have q : (fw r k (fstD d) && fw r l (sndD d)) = true := q
    rw [Bool.and_eq_true] at q
    show (fw r' k (fstD d) && fw r' l (sndD d)) = true
    rw [fw_mono h k q.1, fw_mono h l q.2]; rfl
/-! ### tables of the store with texts for keys -/
abbrev kvX (xs : List (Str × PyData)) : List (Key × Sl) := xs.map fun p => (.inr p.1, .dat p.2)
def putX (xs : List (Str × PyData)) (z : Str) (e : PyData) : List (Str × PyData) := if (xs.any fun p => decide (p.1 = z)) = true then xs.map (fun p => if p.1 = z then (p.1, e) else p) else xs ++ [(z, e)]
def getX (xs : List (Str × PyData)) (z : Str) : Option PyData := (xs.find? fun p => decide (p.1 = z)).map (·.2)
theorem inr_eq {z y : Str} : ((Sum.inr z : Key) = .inr y) ↔ z = y := ⟨fun h => Sum.inr.inj h, fun h => by rw [h]⟩
theorem putA_X (xs : List (Str × PyData)) (z : Str) (e : PyData) : putA (kvX xs) (.inr z) (.dat e) = kvX (putX xs z e) := by
  unfold putA putX kvX
  have e1 : ((xs.map fun p => ((Sum.inr p.1 : Key), Sl.dat p.2)).any fun kv => decide (kv.1 = .inr z)) = xs.any fun p => decide (p.1 = z) := by
    rw [List.any_map]
    congr 1
    funext p
    exact decide_eq_decide.mpr inr_eq
  rw [e1]
  split
  · rw [List.map_map, List.map_map]
    refine List.map_congr_left fun p _ => ?_
    show (if (Sum.inr p.1 : Key) = .inr z then ((Sum.inr p.1 : Key), Sl.dat e) else (Sum.inr p.1, Sl.dat p.2)) = (Sum.inr (if p.1 = z then (p.1, e) else p).1, Sl.dat (if p.1 = z then (p.1, e) else p).2)
    by_cases h : p.1 = z
    · rw [if_pos (inr_eq.mpr h), if_pos h]
    · rw [if_neg (fun q => h (inr_eq.mp q)), if_neg h]
  · rw [List.map_append]; rfl
theorem getA_X (xs : List (Str × PyData)) (z : Str) : valS (kvX xs) (.inr z) = (getX xs z).map .dat := by
  unfold valS getX kvX
  rw [List.find?_map, Option.map_map, Option.map_map]
  have : ((fun kv : Key × Sl => decide (kv.1 = .inr z)) ∘ fun p : Str × PyData => ((Sum.inr p.1 : Key), Sl.dat p.2)) = fun p => decide (p.1 = z) := by
    funext p
    exact decide_eq_decide.mpr inr_eq
  rw [this]
  rfl
theorem putX_keys {xs : List (Str × PyData)} {z : Str} {e : PyData} : (putX xs z e).map (·.1) = if z ∈ xs.map (·.1) then xs.map (·.1) else xs.map (·.1) ++ [z] := by
  unfold putX
  have : (xs.any fun p => decide (p.1 = z)) = decide (z ∈ xs.map (·.1)) := by
    rw [Bool.eq_iff_iff, List.any_eq_true, decide_eq_true_eq, List.mem_map]
    constructor
    · rintro ⟨p, h1, h2⟩; exact ⟨p, h1, of_decide_eq_true h2⟩
    · rintro ⟨p, h1, h2⟩; exact ⟨p, h1, decide_eq_true h2⟩
  rw [this]
  by_cases h : z ∈ xs.map (·.1)
  · rw [if_pos (decide_eq_true h), if_pos h, List.map_map]
    refine List.map_congr_left fun p _ => ?_
    show (if p.1 = z then (p.1, e) else p).1 = p.1
    split <;> rfl
  · rw [if_neg (by rw [decide_eq_false h]; exact Bool.false_ne_true), if_neg h, List.map_append]; rfl
theorem putX_len (xs : List (Str × PyData)) (z : Str) (e : PyData) : (putX xs z e).length ≤ xs.length + 1 := by
  unfold putX; split <;> simp
theorem putX_nodup {xs : List (Str × PyData)} {z : Str} {e : PyData} (h : (xs.map (·.1)).Nodup) : ((putX xs z e).map (·.1)).Nodup := by
  rw [putX_keys]
  split
  · exact h
  · rename_i hz
    rw [List.nodup_append]
    refine ⟨h, by simp, fun a ha b hb => ?_⟩
    rw [List.mem_singleton] at hb
    rintro rfl
    rw [hb] at ha
    exact hz ha
theorem putX_all {P : Str → PyData → Prop} {xs : List (Str × PyData)} {z : Str} {e : PyData} (h : ∀ p ∈ xs, P p.1 p.2) (hz : P z e) : ∀ p ∈ putX xs z e, P p.1 p.2 := by
  unfold putX
  intro p hp
  split at hp
  · obtain ⟨q, hq, rfl⟩ := List.mem_map.mp hp
    split
    · rename_i e1; rw [e1]; exact hz
    · exact h q hq
  · rcases List.mem_append.mp hp with hp | hp
    · exact h p hp
    · rw [List.mem_singleton] at hp; rw [hp]; exact hz
theorem getX_mem {xs : List (Str × PyData)} {z : Str} (h : z ∈ xs.map (·.1)) : ∃ e, getX xs z = some e ∧ (z, e) ∈ xs := by
  unfold getX
  cases e : xs.find? fun p => decide (p.1 = z) with
  | none =>
    obtain ⟨p, hp, rfl⟩ := List.mem_map.mp h
    have := List.find?_eq_none.mp e p hp
    simp at this
  | some p =>
    have h1 := List.mem_of_find?_eq_some e
    have h2 := List.find?_some e
    have h3 : p.1 = z := of_decide_eq_true h2
    exact ⟨p.2, rfl, by rw [← h3]; exact h1⟩
def mergeX (xs more : List (Str × PyData)) : List (Str × PyData) := more.foldl (fun acc p => putX acc p.1 p.2) xs
theorem mergeA_X : ∀ (more xs : List (Str × PyData)), mergeA (kvX xs) (kvX more) = kvX (mergeX xs more)
  | [], _ => rfl
  | p :: r, xs => by
    show mergeA (putA (kvX xs) (.inr p.1) (.dat p.2)) (kvX r) = kvX (mergeX (putX xs p.1 p.2) r)
    rw [putA_X]
    exact mergeA_X r _
theorem mergeX_ok {P : Str → PyData → Prop} : ∀ (more xs : List (Str × PyData)), (xs.map (·.1)).Nodup → (∀ p ∈ xs, P p.1 p.2) → (∀ p ∈ more, P p.1 p.2) → ((mergeX xs more).map (·.1)).Nodup ∧ (∀ p ∈ mergeX xs more, P p.1 p.2) ∧ (mergeX xs more).length ≤ xs.length + more.length
  | [], xs, h1, h2, _ => ⟨h1, h2, by simp [mergeX]⟩
  | p :: r, xs, h1, h2, h3 => by
    have ih := mergeX_ok r (putX xs p.1 p.2) (putX_nodup h1) (putX_all h2 (h3 p List.mem_cons_self)) fun q hq => h3 q (List.mem_cons_of_mem _ hq)
    have l := putX_len xs p.1 p.2
    refine ⟨ih.1, ih.2.1, ?_⟩
    have : (mergeX xs (p :: r)).length ≤ (putX xs p.1 p.2).length + r.length := ih.2.2
    rw [List.length_cons]; omega
/-! ### comprehensions -/
theorem lc_sub {ok : Om → Prop} {tt : DTT} {ρ : DEnv} {i : Nat} {k : List Sl → Om → Prop} {b : Addr} {w0 : Om} {st B : Nat} (hok : ∀ w, ok w) (hi : i < ρ.length) : ∀ (ds : List PyData) (acc : List Sl) (c : Nat) (w : Om), Bg b c w0 w → c + st * ds.length ≤ B →
    (∀ d ∈ ds, ∀ (c : Nat) (w : Om) (C : Bool → Om → Prop), Bg b c w0 w → c + st ≤ B → (∀ kp w', Bg b (c + st) w0 w' → C kp w') → tt (ρ.set i (some (.dat d))) w C) → acc.length + ds.length ≤ sizeLine →
    (∀ (es : List PyData) (w' : Om), es.Sublist ds → Bg b (c + st * ds.length) w0 w' → k (acc ++ es.map Sl.dat) w') → dLcL ok (dName i) tt (dVar i) ρ k (ds.map Sl.dat) acc w
  | [], acc, c, w, hB, _, _, _, h => ⟨hok w, by simpa using h [] w (List.Sublist.refl _) (by simpa using hB)⟩
  | d :: ds, acc, c, w, hB, hc, hs, hl, h => by
    refine ⟨hok w, ?_⟩
    rw [List.length_cons, Nat.mul_succ] at hc
    refine hs d List.mem_cons_self c w _ hB (by omega) fun kp w' hB' => ?_
    have rest : ∀ (acc' : List Sl) (hd : List PyData), acc' = acc ++ hd.map Sl.dat → hd.Sublist [d] → acc'.length ≤ acc.length + 1 → dLcL ok (dName i) tt (dVar i) ρ k (ds.map Sl.dat) acc' w' := fun acc' hd ea hsub hl' => by
      refine lc_sub hok hi ds _ (c + st) w' hB' (by omega) (fun z hz => hs z (List.mem_cons_of_mem _ hz)) (by simp at hl; omega) fun es w'' hes hB'' => ?_
      have := h (hd ++ es) w'' (by rw [← List.singleton_append]; exact List.Sublist.append hsub hes) (by rw [List.length_cons, Nat.mul_succ]; exact hB''.mono (by omega))
      rw [ea]
      simpa using this
    cases kp with
    | true => exact iteT ⟨_, by rw [List.getElem?_set_self hi], by simp at hl; omega, rest _ [d] rfl (List.Sublist.refl _) (by simp)⟩
    | false => exact iteF (rest _ [] (by simp) (List.nil_sublist _) (by omega))
theorem lc_fm {ok : Om → Prop} {tt : DTT} {te : DTE} {ρ : DEnv} {i : Nat} {k : List Sl → Om → Prop} {w : Om} (f : Sl → Bool) (g : Sl → Sl) (hok : ok w) : ∀ (xs acc : List Sl), (∀ x ∈ xs, (∀ C : Bool → Om → Prop, C (f x) w → tt (ρ.set i (some x)) w C) ∧ (f x = true → ∀ C : DQ, C (g x) w → te (ρ.set i (some x)) w C)) → acc.length + xs.length ≤ sizeLine → k (acc ++ (xs.filter f).map g) w → dLcL ok (dName i) tt te ρ k xs acc w
  | [], acc, _, _, h => ⟨hok, by simpa using h⟩
  | x :: xs, acc, hs, hl, h => by
    refine ⟨hok, ?_⟩
    obtain ⟨h1, h2⟩ := hs x List.mem_cons_self
    refine h1 _ ?_
    cases hf : f x with
    | true =>
      refine iteT (h2 hf _ ⟨by simp at hl; omega, lc_fm f g hok xs _ (fun z hz => hs z (List.mem_cons_of_mem _ hz)) (by simp at hl ⊢; omega) ?_⟩)
      rw [List.filter_cons_of_pos hf] at h
      simpa using h
    | false =>
      refine iteF (lc_fm f g hok xs _ (fun z hz => hs z (List.mem_cons_of_mem _ hz)) (by simp at hl ⊢; omega) ?_)
      rw [List.filter_cons_of_neg (by rw [hf]; exact Bool.false_ne_true)] at h
      exact h
/-- a comprehension over pairs whose element draws -/
theorem lc_rowdraws {ok : Om → Prop} {te : DTE} {ρ : DEnv} {i j : Nat} {k : List Sl → Om → Prop} {b : Addr} {w0 : Om} {st B : Nat} {P : PyData → PyData → Prop} (hok : ∀ w, ok w) : ∀ (ds : List PyData) (acc : List Sl) (c : Nat) (w : Om), Bg b c w0 w → c + st * ds.length ≤ B →
    (∀ d ∈ ds, ∃ x y, d = .tuple [x, y] ∧ ∀ (c : Nat) (w : Om) (C : DQ), Bg b c w0 w → c + st ≤ B → (∀ e w', P d e → Bg b (c + st) w0 w' → C (.dat e) w') → te ((ρ.set i (some (.dat x))).set j (some (.dat y))) w C) → acc.length + ds.length ≤ sizeLine →
    (∀ es w', Paired P ds es → Bg b (c + st * ds.length) w0 w' → k (acc ++ es.map Sl.dat) w') → dLcL ok (dGTup 2 (dGCons (dName i) (dGCons (dName j) dGNil))) dYes te ρ k (ds.map Sl.dat) acc w
  | [], acc, c, w, hB, _, _, _, h => ⟨hok w, by simpa using h [] w .nil (by simpa using hB)⟩
  | d :: ds, acc, c, w, hB, hc, hs, hl, h => by
    refine ⟨hok w, ?_⟩
    rw [List.length_cons, Nat.mul_succ] at hc
    obtain ⟨x, y, rfl, q⟩ := hs d List.mem_cons_self
    refine ⟨[.dat x, .dat y], rfl, rfl, _, _, rfl, _, _, rfl, rfl, ?_⟩
    refine q c w (fun y w4 => acc.length < sizeLine ∧ dLcL ok (dGTup 2 (dGCons (dName i) (dGCons (dName j) dGNil))) dYes te ρ k (ds.map Sl.dat) (acc ++ [y]) w4) hB (by omega) fun e w' hp hB' => ⟨by simp at hl; omega, ?_⟩
    refine lc_rowdraws hok ds _ (c + st) w' hB' (by omega) (fun z hz => hs z (List.mem_cons_of_mem _ hz)) (by simp at hl ⊢; omega) fun es w'' hds hB'' => ?_
    have := h (e :: es) w'' (.cons hp hds) (by rw [List.length_cons, Nat.mul_succ]; exact hB''.mono (by omega))
    simpa using this
end G

set_option Elab.async false
set_option linter.all false
set_option maxRecDepth 100000
set_option maxHeartbeats 4000000
/-! BesB: a worth near another one; the law's own writing of a worth -/
namespace G
open PySem PySem.Spec PyProof.Rows L2 DL
local macro_rules | `(tactic| walk_at "rr") => `(tactic| repeat (first | refine ⟨_, ix_t0, ?_⟩ | refine ⟨_, ix_t1, ?_⟩ | refine ⟨_, ix_t2, ?_⟩ | refine ⟨_, rfl, ?_⟩ | refine ⟨_, _, rfl, rfl, ?_⟩ | refine frzL (sq_line (by simp)) ?_ | refine iteT ?_ | refine iteF ?_ | refine And.intro (sq_line (by simp)) ?_ | fail "stop"))
def bc : Nat → Nat
  | 0 => 0
  | n + 1 => 300 + wc 4 + 40 * bc n
def c_law_beside (n : Nat) : Ct := fun ss w R => ∃ (b : Addr) (k : Kn) (d : PyData) (r c : Nat) (w0 : Om), ss = [.adr b, .dat k.d, .dat d] ∧ Bg b c w0 w ∧ k.dep ≤ n ∧ n ≤ 4 ∧ r ≤ 30 ∧ c + bc n < 2 ^ 60 ∧ isW k d = true ∧ fw r k d = true ∧ ∀ d' w', isW k d' = true → fw (r + 3) k d' = true → Bg b (c + bc n) w0 w' → R (.dat d') w'
theorem len_law_beside {n ss w R} (h : c_law_beside n ss w R) : ss.length = 3 := by obtain ⟨_, _, _, _, _, _, rfl, _⟩ := h; rfl
def c_law_shown (n : Nat) : Ct := fun ss w R => ∃ (k : Kn) (d : PyData), ss = [.dat k.d, .dat d] ∧ k.dep ≤ n ∧ isW k d = true ∧ bgB d = true ∧ (shW k d).length ≤ 100000 ∧ R (.dat (.str (tx (shW k d)))) w
theorem len_law_shown {n ss w R} (h : c_law_shown n ss w R) : ss.length = 2 := by obtain ⟨_, _, rfl, _⟩ := h; rfl
def N_law_beside : List Str := ["bag", "kind", "worth", "word", "pick", "stamp", "rows", "name", "inner", "found", "row", "k"]
def t_law_beside (cr : Ct) : DTS :=
  (dSeq (dAsg (dOp ixS (dVar 1) (dC (.int 0))) (dName 3))
  (dSeq (dIfS (dTst (dOp (eqS false) (dVar 3) (dC (.str "both")))) (dRet (dFz (dTup (dDats (dCall cr [] (dCons (dVar 0) (dCons (dOp ixS (dVar 1) (dC (.int 1))) (dCons (dOp ixS (dVar 2) (dC (.int 0))) dNil)))) (dDats (dCall cr [] (dCons (dVar 0) (dCons (dOp ixS (dVar 1) (dC (.int 2))) (dCons (dOp ixS (dVar 2) (dC (.int 1))) dNil)))) dNilD))))) dNext)
  (dSeq (dAsg (dCall c_law_draw [] (dCons (dVar 0) (dCons (dC (.int 5)) dNil))) (dName 4))
  (dSeq (dIfS (dTst (dOp (eqS false) (dVar 4) (dC (.int 0)))) (dRet (dFz (dVar 2))) dNext)
  (dSeq (dIfS (dTst (dOp (eqS false) (dVar 3) (dC (.str "most")))) (dRet (dFz (dCB maxS (dCons (dC (.int 0)) (dCons (dOp gSub (dOp addS (dVar 2) (dCall c_law_draw [] (dCons (dVar 0) (dCons (dC (.int 3)) dNil)))) (dC (.int 1))) dNil))))) dNext)
  (dSeq (dIfS (dTst (dOp (eqS false) (dVar 3) (dC (.str "last")))) (dSeq (dAsg (dCB maxS (dCons (dC (.int 0)) (dCons (dOp gSub (dOp addS (dOp ixS (dVar 2) (dC (.int 0))) (dCall c_law_draw [] (dCons (dVar 0) (dCons (dC (.int 3)) dNil)))) (dC (.int 1))) dNil))) (dName 5))
  (dRet (dFz (dTup (dDats (dVar 5) (dDats (dOp gMul (dOp gSub (dOp addS (dOp ixS (dVar 2) (dC (.int 1))) (dCall c_law_draw [] (dCons (dVar 0) (dCons (dC (.int 3)) dNil)))) (dC (.int 1))) (dCB minS (dCons (dC (.int 1)) (dCons (dVar 5) dNil)))) dNilD)))))) dNext)
  (dSeq (dAsgZ 6 (dLc (dSeqI (dVar 2)) (dName 10) (dOr (dTst (dOp (eqS false) (dVar 4) (dC (.int 1)))) (dTst (dOp gtS (dCall c_law_draw [] (dCons (dVar 0) (dCons (dC (.int 3)) dNil))) (dC (.int 0))))) (dVar 10) [10]))
  (dSeq (dIfS (dTst (dOp (eqS false) (dVar 3) (dC (.str "names")))) (dRet (dFz (dCB tupS (dCons (dFz (dSortSet (dFz (dOp addS (dVar 6) (dFz (dLc (dRng1 (dCons (dCall c_law_draw [] (dCons (dVar 0) (dCons (dC (.int 3)) dNil))) dNil)) (dName 11) dYes (dCall c_law_name [] (dCons (dVar 0) dNil)) [11])))))) dNil)))) dNext)
  (dSeq (dAsg (dDictL (dFz (dLc (dSeqI (dVar 6)) (dGTup 2 (dGCons (dName 7) (dGCons (dName 8) dGNil))) dYes (dTup (dDats (dVar 7) (dDats (dCall cr [] (dCons (dVar 0) (dCons (dOp ixS (dVar 1) (dC (.int 1))) (dCons (dVar 8) dNil)))) dNilD))) [7, 8]))) (dName 9))
  (dSeq (dFor (dSeqI (dOp gMulT (dCall (c_law_worth 4) [] (dCons (dVar 0) (dCons (dVar 1) dNil))) (dCB intBS (dCons (dOp gtS (dVar 4) (dC (.int 2))) dNil)))) (dGTup 2 (dGCons (dName 7) (dGCons (dName 8) dGNil))) (dDPut (dVar 9) (dVar 7) (dVar 8)))
  (dRet (dFz (dCB tupS (dCons (dFz (dLc (dSeqI (dFz (dSortD (dVar 9)))) (dName 7) (dTst (dOp (eqS true) (dDGet (dVar 9) (dVar 7)) (dCall (c_law_least 5) [] (dCons (dOp ixS (dVar 1) (dC (.int 1))) dNil)))) (dTup (dDats (dVar 7) (dDats (dDGet (dVar 9) (dVar 7)) dNilD))) [7])) dNil))))))))))))))

def N_law_shown : List Str := ["kind", "worth", "name", "inner"]
def t_law_shown (cr : Ct) : DTS :=
  (dSeq (dIfS (dTst (dOp (eqS false) (dOp ixS (dVar 0) (dC (.int 0))) (dC (.str "names")))) (dRet (dOp addS (dOp addS (dC (.str "{")) (dJoinL (dC (.str " ")) (dVar 1))) (dC (.str "}")))) dNext)
  (dSeq (dIfS (dTst (dOp (eqS false) (dOp ixS (dVar 0) (dC (.int 0))) (dC (.str "most")))) (dRet (dCB strS (dCons (dVar 1) dNil))) dNext)
  (dSeq (dIfS (dTst (dOp (eqS false) (dOp ixS (dVar 0) (dC (.int 0))) (dC (.str "last")))) (dRet (dOp addS (dOp addS (dCB strS (dCons (dOp ixS (dVar 1) (dC (.int 0))) dNil)) (dC (.str "@"))) (dCB strS (dCons (dOp ixS (dVar 1) (dC (.int 1))) dNil)))) dNext)
  (dSeq (dIfS (dTst (dOp (eqS false) (dOp ixS (dVar 0) (dC (.int 0))) (dC (.str "each")))) (dRet (dOp addS (dOp addS (dC (.str "[")) (dJoinL (dC (.str ", ")) (dLc (dSeqI (dVar 1)) (dGTup 2 (dGCons (dName 2) (dGCons (dName 3) dGNil))) dYes (dOp addS (dOp addS (dVar 2) (dC (.str ": "))) (dCall cr [] (dCons (dOp ixS (dVar 0) (dC (.int 1))) (dCons (dVar 3) dNil)))) [2, 3]))) (dC (.str "]")))) dNext)
  (dRet (dOp addS (dOp addS (dOp addS (dOp addS (dC (.str "(")) (dCall cr [] (dCons (dOp ixS (dVar 0) (dC (.int 1))) (dCons (dOp ixS (dVar 1) (dC (.int 0))) dNil)))) (dC (.str ", "))) (dCall cr [] (dCons (dOp ixS (dVar 0) (dC (.int 2))) (dCons (dOp ixS (dVar 1) (dC (.int 1))) dNil)))) (dC (.str ")"))))))))


def zz : Sl → Str
  | .dat (.str z) => z
  | _ => ""
theorem sq_lt {n : Nat} (h : n ≤ 16000) : n < sizeLine := Nat.lt_of_le_of_lt h (by decide)
theorem rowsX {Q : Str → PyData → Prop} {ds es : List PyData} (h : Paired (fun (_ : PyData) e => ∃ (z : Str) (x : PyData), e = .tuple [.str z, x] ∧ Q z x) ds es) : ∃ xs : List (Str × PyData), es = xs.map (fun p => .tuple [.str p.1, p.2]) ∧ (∀ p ∈ xs, Q p.1 p.2) ∧ xs.length = ds.length := by
  induction h with
  | nil => exact ⟨[], rfl, fun p hp => (by cases hp), rfl⟩
  | cons q _ ih =>
    obtain ⟨z, x, rfl, hq⟩ := q
    obtain ⟨xs, rfl, h1, h2⟩ := ih
    refine ⟨(z, x) :: xs, rfl, fun p hp => ?_, by simp [h2]⟩
    rcases List.mem_cons.mp hp with rfl | hp
    · exact hq
    · exact h1 p hp
theorem rows_sorted {k : Kn} {r : Nat} {ks : List Str} {xs : List (Str × PyData)} (hp : ks.Perm (xs.map (·.1))) (hle : ks.Pairwise LeT) (hn : (xs.map (·.1)).Nodup) (hx : ∀ p ∈ xs, isNm (.str p.1) = true ∧ isW k p.2 = true ∧ fw r k p.2 = true) (hl : xs.length ≤ r) :
    ks.Pairwise LtT ∧ (∀ z ∈ ks, ∃ e, getX xs z = some e ∧ isNm (.str z) = true ∧ isW k e = true ∧ fw r k e = true) ∧ ks.length ≤ r := by
  refine ⟨DS.lt_of_nodup hle (hp.nodup_iff.mpr hn), fun z hz => ?_, by rw [hp.length_eq, List.length_map]; exact hl⟩
  obtain ⟨e, h1, h2⟩ := getX_mem (hp.mem_iff.mp hz)
  exact ⟨e, h1, hx _ h2⟩
theorem rd_law_beside (n : Nat) {ss w R} (h : c_law_beside n ss w R) : t_law_beside (prev c_law_beside n) (endsN R) (startD N_law_beside ss) w := by
  obtain ⟨b, k, d, r, c, w0, rfl, hB, hk, hn, hr, hc, hw, hf, q⟩ := h
  have kp := k.dep_pos
  have lv := line_val
  obtain ⟨n, rfl⟩ : ∃ n', n = n' + 1 := ⟨n - 1, by omega⟩
  have ec : bc (n + 1) = 300 + wc 4 + 40 * bc n := rfl
  have e4 : wc 4 = 2000 := by decide
  refine ⟨_, rfl, ?_⟩
  have hf3 := fw_mono (show r ≤ r + 3 by omega) k hf
  cases k with
  | both k l =>
    obtain ⟨x, y, rfl, h1, h2⟩ := isW_both hw
    have hf : (fw r k x && fw r l y) = true := hf
    rw [Bool.and_eq_true] at hf
    have hk : max k.dep l.dep + 1 ≤ n + 1 := hk
    walk_at "rr"
    refine ⟨b, k, x, r, c, w0, rfl, hB, by omega, by omega, hr, by omega, h1, hf.1, fun d w1 d1 d2 hB1 => ?_⟩
    walk_at "rr"
    refine ⟨b, l, y, r, c + bc n, w0, rfl, hB1, by omega, by omega, hr, by omega, h2, hf.2, fun e w2 e1 e2 hB2 => ?_⟩
    walk_at "rr"
    refine ⟨w2, Sub.refl _, q _ w2 ?_ ?_ (hB2.mono (by omega))⟩
    · show (isW k d && isW l e) = true
      rw [d1, e1]; rfl
    · show (fw (r + 3) k d && fw (r + 3) l e) = true
      rw [d2, e2]; rfl
  | most =>
    obtain ⟨i, rfl, i0⟩ := isW_most hw
    have hfi : i.natAbs < 10 ^ 20 + r := of_decide_eq_true hf
    refine ⟨_, ix_t0, ?_⟩
    refine ⟨_, rfl, _, rfl, _, rfl, iteF ?_⟩
    refine ⟨_, rfl, ?_⟩
    dsimp only [dCons, dC, dNil, List.append_nil]
    refine ⟨b, 5, c, w0, rfl, hB, by decide, by decide, by omega, fun pk w1 p0 p1 hB1 => ?_⟩
    refine ⟨_, rfl, _, rfl, _, rfl, iteB (fun _ => ?_) fun hp => ?_⟩
    · exact ⟨_, rfl, w1, Sub.refl _, q _ w1 hw hf3 (hB1.mono (by omega))⟩
    refine ⟨_, rfl, _, rfl, _, rfl, iteT ?_⟩
    refine ⟨_, rfl, _, rfl, ?_⟩
    dsimp only [dCons, dC, dNil, List.append_nil]
    refine ⟨b, 3, c + 1, w0, rfl, hB1, by decide, by decide, by omega, fun r2 w2 r20 r21 hB2 => ?_⟩
    refine ⟨_, rfl, _, rfl, _, rfl, w2, Sub.refl _, q _ w2 ?_ ?_ (hB2.mono (by omega))⟩
    · refine decide_eq_true ?_
      split <;> omega
    · refine decide_eq_true (p := (if i + r2 - 1 > 0 then i + r2 - 1 else (0 : Int)).natAbs < 10 ^ 20 + (r + 3)) ?_
      split
      · omega
      · simp; omega
  | last =>
    obtain ⟨s, v, rfl, hsv⟩ := isW_last hw
    have hf : (decide (s.natAbs < 10 ^ 20 + r) && decide (v.natAbs < 10 ^ 20 + r)) = true := hf
    rw [Bool.and_eq_true] at hf
    have hs := of_decide_eq_true hf.1
    have hv := of_decide_eq_true hf.2
    refine ⟨_, ix_t0, ?_⟩
    refine ⟨_, rfl, _, rfl, _, rfl, iteF ?_⟩
    refine ⟨_, rfl, ?_⟩
    dsimp only [dCons, dC, dNil, List.append_nil]
    refine ⟨b, 5, c, w0, rfl, hB, by decide, by decide, by omega, fun pk w1 p0 p1 hB1 => ?_⟩
    refine ⟨_, rfl, _, rfl, _, rfl, iteB (fun _ => ?_) fun hp => ?_⟩
    · exact ⟨_, rfl, w1, Sub.refl _, q _ w1 hw hf3 (hB1.mono (by omega))⟩
    refine ⟨_, rfl, _, rfl, _, rfl, iteF ?_⟩
    refine ⟨_, rfl, _, rfl, _, rfl, iteT ?_⟩
    refine ⟨_, rfl, _, ix_t0, _, rfl, ?_⟩
    dsimp only [DL.ret, dCons, dC, dNil, List.append_nil]
    refine ⟨b, 3, c + 1, w0, rfl, hB1, by decide, by decide, by omega, fun r2 w2 r20 r21 hB2 => ?_⟩
    refine ⟨_, rfl, _, rfl, _, rfl, ?_⟩
    refine ⟨_, rfl, ?_⟩
    refine ⟨_, rfl, _, ix_t1, _, rfl, ?_⟩
    dsimp only [DL.ret, dCons, dC, dNil, List.append_nil]
    refine ⟨b, 3, c + 1 + 1, w0, rfl, hB2, by decide, by decide, by omega, fun r3 w3 r30 r31 hB3 => ?_⟩
    have e20 : (10 : Int) ^ 20 = 100000000000000000000 := by decide
    have e20n : (10 : Nat) ^ 20 = 100000000000000000000 := by decide
    obtain ⟨st, hst⟩ : ∃ st : Int, st = (if s + r2 - 1 > 0 then s + r2 - 1 else 0) := ⟨_, rfl⟩
    have st0 : 0 ≤ st ∧ st.natAbs < 10 ^ 20 + (r + 3) := by rw [hst]; split <;> omega
    rw [← hst]
    have hm : (if st < 1 then st else (1 : Int)) = 0 ∧ st = 0 ∨ (if st < 1 then st else (1 : Int)) = 1 ∧ 1 ≤ st := by split <;> omega
    have hm2 : (if st < 1 then st else (1 : Int)).natAbs < 2 ^ 64 := by rcases hm with ⟨e, _⟩ | ⟨e, _⟩ <;> rw [e] <;> decide
    refine ⟨_, rfl, _, rfl, _, rfl, _, rfl, ?_⟩
    refine ⟨_, liftI_ok (cMul_of (a := 100) (b := 64) (by omega) hm2 (by decide) (by decide) (by decide)), ?_⟩
    refine ⟨by show 2 ≤ sizeLine; omega, ?_⟩
    generalize (if st < 1 then st else (1 : Int)) = mn at hm
    have hv' : ((v + r3 - 1) * mn).natAbs < 10 ^ 20 + (r + 3) ∧ (1 ≤ st ∨ st = 0 ∧ (v + r3 - 1) * mn = 0) := by
      rcases hm with ⟨rfl, h⟩ | ⟨rfl, h⟩
      · rw [Int.mul_zero]; exact ⟨by simp; omega, .inr ⟨h, rfl⟩⟩
      · rw [Int.mul_one]; exact ⟨by omega, .inl h⟩
    refine ⟨w3, Sub.refl _, q _ w3 ?_ ?_ (hB3.mono (by omega))⟩
    · show (decide (1 ≤ st) || (st == 0 && (v + r3 - 1) * mn == 0)) = true
      rcases hv'.2 with h | ⟨h1, h2⟩
      · rw [decide_eq_true h]; rfl
      · rw [h1, h2]; rfl
    · show (decide (st.natAbs < 10 ^ 20 + (r + 3)) && decide (((v + r3 - 1) * mn).natAbs < 10 ^ 20 + (r + 3))) = true
      rw [decide_eq_true st0.2, decide_eq_true hv'.1]; rfl
  | names =>
    obtain ⟨ys, rfl, hy, hris⟩ := isW_names hw
    have hfl : ys.length ≤ r := by have := of_decide_eq_true (p := (ys.map PyData.str).length ≤ r) hf; rw [List.length_map] at this; exact this
    refine ⟨_, ix_t0, ?_⟩
    refine ⟨_, rfl, _, rfl, _, rfl, iteF ?_⟩
    refine ⟨_, rfl, ?_⟩
    dsimp only [dCons, dC, dNil, List.append_nil]
    refine ⟨b, 5, c, w0, rfl, hB, by decide, by decide, by omega, fun pk w1 p0 p1 hB1 => ?_⟩
    refine ⟨_, rfl, _, rfl, _, rfl, iteB (fun _ => ?_) fun hp => ?_⟩
    · exact ⟨_, rfl, w1, Sub.refl _, q _ w1 hw hf3 (hB1.mono (by omega))⟩
    refine ⟨_, rfl, _, rfl, _, rfl, iteF ?_⟩
    refine ⟨_, rfl, _, rfl, _, rfl, iteF ?_⟩
    refine ⟨by show 6 < 12; decide, ?_⟩
    refine ⟨_, rfl, _, rfl, ?_⟩
    refine lc_sub (b := b) (w0 := w0) (st := 1) (B := c + 40) (i := 10) (fun _ => trivial) (by show 10 < 12; decide) (ys.map PyData.str) [] (c + 1) w1 hB1 (by rw [List.length_map]; omega) (fun d _ c' w' C hB' hc' hC => ?_) (sq_line (by rw [List.length_map, List.length_nil]; omega)) fun es w2 hes hB2 p hp => ?_
    · refine ⟨_, rfl, _, rfl, _, rfl, iteB (fun _ => hC _ _ (hB'.mono (by omega))) fun _ => ?_⟩
      refine ⟨_, rfl, ?_⟩
      dsimp only [dCons, dC, dNil, List.append_nil]
      exact ⟨b, 3, c', w0, rfl, hB', by decide, by decide, by omega, fun r2 w4 r20 r21 hB4 => ⟨_, rfl, _, rfl, hC _ _ hB4⟩⟩
    · refine ⟨es, put_same, ?_⟩
      rw [del_put hp]
      obtain ⟨zs, hzs, rfl⟩ := List.sublist_map_iff.mp hes
      have hzl := hzs.length_le
      refine ⟨_, rfl, _, rfl, _, rfl, iteT ?_⟩
      refine ⟨_, rfl, _, rfl, ?_⟩
      dsimp only [dCons, dC, dNil, List.append_nil]
      rw [List.length_map] at hB2
      refine ⟨b, 3, _, w0, rfl, hB2, by decide, by decide, by omega, fun r3 w3 r30 r31 hB3 => ?_⟩
      refine ⟨r3, rfl, by omega, by omega, ?_⟩
      refine lc_draws (b := b) (w0 := w0) (st := 12) (B := c + 1 + 1 * ys.length + 1 + 12 * 3) (P := fun _ d => ∃ z, isNm (.str z) = true ∧ d = .str z) (fun _ => trivial) _ [] _ w3 hB3 (by rw [irange_len]; omega) (fun x _ c' w' C hB' hc' hC => ?_) (sq_line (by rw [irange_len, List.length_nil]; omega)) fun ds w4 hds hB4 p2 hp2 => ?_
      · exact ⟨_, rfl, b, c', w0, rfl, hB', by omega, fun z w4 h1 hB4 => hC _ w4 ⟨z, h1, rfl⟩ hB4⟩
      · obtain ⟨ms, rfl, hl, hz⟩ := names_of hds
        rw [irange_len] at hl hB4
        refine ⟨ms.map .str, put_same, ?_⟩
        rw [List.nil_append, del_put hp2]
        refine ⟨_, addL, ?_⟩
        refine frzM (by rw [List.length_append, List.length_map, List.length_map]; omega) ?_
        refine ⟨zs ++ ms, by show some (((zs.map PyData.str) ++ (ms.map PyData.str)).map Sl.dat) = _; rw [← List.map_append, List.map_map]; rfl, by rw [List.length_append]; omega, fun ks p3 h1 h2 hp3 => ?_⟩
        refine ⟨ks.map .str, by rw [put_same, List.map_map]; rfl, ?_⟩
        rw [del_put hp3]
        have hk2 : ks.length ≤ r + 3 := by
          have := nodup_len (lt_nodup h1) fun z hz' => (h2 z).mp hz'
          rw [List.length_append] at this; omega
        have hnm : ∀ z ∈ ks, isNm (.str z) = true := fun z hz' => by
          rcases List.mem_append.mp ((h2 z).mp hz') with h | h
          · exact hy z (hzs.subset h)
          · exact hz z h
        refine ⟨_, tupS_ok (ds := ks.map .str) rfl, w4, Sub.refl _, q _ w4 ?_ (decide_eq_true (by rw [List.length_map]; exact hk2)) (hB4.mono (by omega))⟩
        show ((ks.map PyData.str).all isNm && risS ((ks.map PyData.str).map strD)) = true
        have e : (ks.map PyData.str).map strD = ks := by rw [List.map_map]; exact List.map_id' _
        rw [e, risS_of h1, Bool.and_true, List.all_eq_true]
        intro d hd
        obtain ⟨z, hz, rfl⟩ := List.mem_map.mp hd
        exact hnm z hz
  | each k =>
    obtain ⟨ds, rfl, hrow, hris⟩ := isW_each hw
    have hk : k.dep + 1 ≤ n + 1 := hk
    have hf : (decide (ds.length ≤ r) && ds.all fun row => fw r k (sndD row)) = true := hf
    rw [Bool.and_eq_true, List.all_eq_true] at hf
    have hfl := of_decide_eq_true hf.1
    have hfr := hf.2
    refine ⟨_, ix_t0, ?_⟩
    refine ⟨_, rfl, _, rfl, _, rfl, iteF ?_⟩
    refine ⟨_, rfl, ?_⟩
    dsimp only [dCons, dC, dNil, List.append_nil]
    refine ⟨b, 5, c, w0, rfl, hB, by decide, by decide, by omega, fun pk w1 p0 p1 hB1 => ?_⟩
    refine ⟨_, rfl, _, rfl, _, rfl, iteB (fun _ => ?_) fun hp => ?_⟩
    · exact ⟨_, rfl, w1, Sub.refl _, q _ w1 hw hf3 (hB1.mono (by omega))⟩
    refine ⟨_, rfl, _, rfl, _, rfl, iteF ?_⟩
    refine ⟨_, rfl, _, rfl, _, rfl, iteF ?_⟩
    refine ⟨by show 6 < 12; decide, ?_⟩
    refine ⟨_, rfl, _, rfl, ?_⟩
    refine lc_sub (b := b) (w0 := w0) (st := 1) (B := c + 40) (i := 10) (fun _ => trivial) (by show 10 < 12; decide) ds [] (c + 1) w1 hB1 (by omega) (fun d _ c' w' C hB' hc' hC => ?_) (sq_line (by rw [List.length_nil]; omega)) fun es w2 hes hB2 p hp => ?_
    · refine ⟨_, rfl, _, rfl, _, rfl, iteB (fun _ => hC _ _ (hB'.mono (by omega))) fun _ => ?_⟩
      refine ⟨_, rfl, ?_⟩
      dsimp only [dCons, dC, dNil, List.append_nil]
      exact ⟨b, 3, c', w0, rfl, hB', by decide, by decide, by omega, fun r2 w4 r20 r21 hB4 => ⟨_, rfl, _, rfl, hC _ _ hB4⟩⟩
    refine ⟨es, put_same, ?_⟩
    rw [del_put hp]
    have hel := hes.length_le
    have hml : bc n * es.length ≤ bc n * 30 := Nat.mul_le_mul_left _ (by omega)
    refine ⟨_, rfl, _, rfl, _, rfl, iteF ?_⟩
    refine ⟨_, rfl, _, rfl, ?_⟩
    refine lc_rowdraws (b := b) (w0 := w0) (st := bc n) (B := c + bc (n + 1)) (P := fun d e => ∃ (z : Str) (x : PyData), e = .tuple [.str z, x] ∧ isNm (.str z) = true ∧ isW k x = true ∧ fw (r + 3) k x = true) (fun _ => trivial) es [] _ w2 hB2 (by omega) (fun d hd => ?_) (sq_line (by rw [List.length_nil]; omega)) fun gs w3 hgs hB3 p2 hp2 => ?_
    · obtain ⟨z, x, rfl, hz, hx, _⟩ := isRow_ok (hrow d (hes.subset hd))
      refine ⟨_, _, rfl, fun c' w' C hB' hc' hC => ?_⟩
      refine ⟨_, rfl, _, rfl, _, rfl, _, ix_t1, _, rfl, ?_⟩
      dsimp only [DL.ret, dNil, List.append_nil]
      refine ⟨b, k, x, r, c', w0, rfl, hB', by omega, by omega, hr, by omega, hx, hfr _ (hes.subset hd), fun e w4 e1 e2 hB4 => ?_⟩
      exact ⟨by show 2 ≤ sizeLine; omega, hC _ w4 ⟨z, e, rfl, hz, e1, e2⟩ hB4⟩
    refine ⟨gs, put_same, ?_⟩
    rw [List.nil_append, del_put hp2]
    obtain ⟨xs, rfl, hxs, hxl⟩ := rowsX (Q := fun z x => isNm (.str z) = true ∧ isW k x = true ∧ fw (r + 3) k x = true) hgs
    refine ⟨xs.map fun p => (.inr p.1, p.2), by show some ((xs.map _).map Sl.dat) = _; rw [List.map_map, List.map_map]; rfl, fun fa hfa => ?_⟩
    rw [show (xs.map fun p => ((Sum.inr p.1 : Key), p.2)).map (fun q => (q.1, Sl.dat q.2)) = kvX xs by rw [List.map_map]; rfl, show mergeA [] (kvX xs) = kvX (mergeX [] xs) from mergeA_X xs []]
    obtain ⟨m1, m2, m3⟩ := mergeX_ok (P := fun z x => isNm (.str z) = true ∧ isW k x = true ∧ fw (r + 3) k x = true) xs [] (by simp) (fun p hp => by cases hp) hxs
    generalize mergeX [] xs = fx at m1 m2 m3
    have hne : fa ≠ b := hB3.ne hfa
    have hB3' := hB3.put (o := .dic (kvX fx)) hne
    rw [List.length_nil] at m3
    refine ⟨_, rfl, _, rfl, ?_⟩
    dsimp only [dCons, dC, dNil, List.append_nil]
    refine ⟨b, .each k, _, _, rfl, hB3', by show k.dep + 1 ≤ 4; omega, by decide, by omega, fun nd w4 n1 n2 n3 n5 hB4 => ?_⟩
    obtain ⟨nr, rfl, nrow, _⟩ := isW_each n1
    have n5 : (decide (nr.length ≤ 3) && nr.all fun row => fw 3 k (sndD row)) = true := n5
    rw [Bool.and_eq_true, List.all_eq_true] at n5
    have n5l := of_decide_eq_true n5.1
    refine ⟨_, rfl, _, rfl, _, rfl, ?_⟩
    obtain ⟨mr, hmr, emr⟩ : ∃ mr : List PyData, (mr = nr ∨ mr = []) ∧ gMulT w4 (.dat (.tuple nr)) (.dat (.int (if decide (pk > 2) = true then 1 else 0))) = some (.v (.dat (.tuple mr))) := by
      split
      · exact ⟨nr, .inl rfl, rfl⟩
      · exact ⟨[], .inr rfl, rfl⟩
    refine ⟨_, emr, ?_⟩
    have mrow : ∀ d ∈ mr, ∃ z x, d = .tuple [.str z, x] ∧ isNm (.str z) = true ∧ isW k x = true ∧ fw (r + 3) k x = true := fun d hd => by
      rcases hmr with rfl | rfl
      · have f := n5.2 d hd
        obtain ⟨z, x, rfl, hz, hx, _⟩ := isRow_ok (nrow d hd)
        exact ⟨z, x, rfl, hz, hx, fw_mono (by omega) k f⟩
      · cases hd
    have mrl : mr.length ≤ 3 := by
      rcases hmr with rfl | rfl
      · exact n5l
      · decide
    refine ⟨_, rfl, ?_⟩
    refine loop_inv (fun r' ρ w' => ∃ (rs : List PyData) (fx : List (Str × PyData)) (x7 x8 : Option Sl), r' = rs.map Sl.dat ∧ (∀ d ∈ rs, ∃ z x, d = .tuple [.str z, x] ∧ isNm (.str z) = true ∧ isW k x = true ∧ fw (r + 3) k x = true) ∧
        ρ = [some (.adr b), some (.dat (Kn.each k).d), some (.dat (.tuple ds)), some (.dat (.str "each")), some (.dat (.int pk)), none, some (.dat (.list es)), x7, x8, some (.adr fa), none, none] ∧ (fx.map (·.1)).Nodup ∧ (∀ p ∈ fx, isNm (.str p.1) = true ∧ isW k p.2 = true ∧ fw (r + 3) k p.2 = true) ∧ fx.length + rs.length ≤ r + 3 ∧ Bg b (c + bc (n + 1)) (put w0 fa (.dic (kvX fx))) w')
      ⟨mr, fx, none, none, rfl, mrow, rfl, m1, m2, by omega, hB4.mono (by omega)⟩ (fun _ _ _ _ => trivial) ?_ ?_
    · rintro x r' ρ w' ⟨rs, fx, x7, x8, er, hrs, rfl, f1, f2, f3, hB5⟩ ih
      cases rs with
      | nil => cases er
      | cons d rs =>
        rw [List.map_cons] at er
        obtain ⟨rfl, rfl⟩ := List.cons.inj er
        obtain ⟨z, x, rfl, hx⟩ := hrs d List.mem_cons_self
        refine ⟨[.dat (.str z), .dat x], rfl, rfl, _, _, rfl, _, _, rfl, rfl, ?_⟩
        have g5 : w' fa = some (.dic (kvX fx)) := by rw [hB5.get hne, put_same]
        rw [List.length_cons] at f3
        refine ⟨_, rfl, _, rfl, _, rfl, fa, _, _, rfl, g5, rfl, sq_lt (by rw [List.length_map]; omega), ?_⟩
        rw [putA_X]
        have hB6 := hB5.put (o := .dic (kvX (putX fx z x))) hne
        rw [put_put] at hB6
        have l := putX_len fx z x
        exact ih _ _ ⟨rs, putX fx z x, _, _, rfl, fun d hd => hrs d (List.mem_cons_of_mem _ hd), rfl, putX_nodup f1, putX_all (P := fun z x => isNm (.str z) = true ∧ isW k x = true ∧ fw (r + 3) k x = true) f2 hx, by omega, hB6⟩
    · rintro ρ w' ⟨rs, fx, x7, x8, er, hrs, rfl, f1, f2, f3, hB5⟩
      have er : rs = [] := by cases rs with
        | nil => rfl
        | cons _ _ => cases er
      subst er
      rw [List.length_nil] at f3
      have g5 : w' fa = some (.dic (kvX fx)) := by rw [hB5.get hne, put_same]
      refine ⟨_, rfl, fa, _, rfl, g5, fx.map (·.1), by rw [List.map_map, List.map_map]; rfl, by rw [List.length_map]; omega, fun ks p3 hperm hle hp3 => ?_⟩
      obtain ⟨k1, k2, k3⟩ := rows_sorted hperm hle f1 f2 (by omega)
      refine ⟨ks.map .str, by rw [put_same, List.map_map]; rfl, ?_⟩
      rw [del_put hp3]
      refine ⟨_, rfl, ?_⟩
      refine lc_fm (w := w') (i := 7) (fun x => !(PyData.eqv ((getX fx (zz x)).getD .none) (botD k))) (fun x => .dat (.tuple [.str (zz x), (getX fx (zz x)).getD .none])) trivial ((ks.map PyData.str).map Sl.dat) [] (fun x hx => ?_) (sq_line (by rw [List.length_map, List.length_map, List.length_nil]; omega)) fun p4 hp4 => ?_
      · obtain ⟨d, hd, rfl⟩ := List.mem_map.mp hx
        obtain ⟨z, hz, rfl⟩ := List.mem_map.mp hd
        obtain ⟨e, h1, h2, h3, h4⟩ := k2 z hz
        have h1' : valS (kvX fx) (.inr z) = some (.dat e) := by rw [getA_X, h1]; rfl
        have ez : (getX fx (zz (.dat (.str z)))).getD .none = e := by show (getX fx z).getD .none = e; rw [h1]; rfl
        refine ⟨fun C hC => ?_, fun _ C hC => ?_⟩
        · refine ⟨_, rfl, _, rfl, fa, _, _, _, rfl, g5, rfl, h1', _, rfl, _, ix_t1, ?_⟩
          dsimp only [DL.ret, dNil, List.append_nil]
          rw [ez] at hC
          exact ⟨k, rfl, by omega, _, ne_bot h3 (by omega), _, rfl, hC⟩
        · rw [ez] at hC
          exact ⟨_, rfl, _, rfl, _, rfl, fa, _, _, _, rfl, g5, rfl, h1', by show 2 ≤ sizeLine; omega, hC⟩
      rw [List.nil_append, show (((ks.map PyData.str).map Sl.dat).filter (fun x => !(PyData.eqv ((getX fx (zz x)).getD .none) (botD k)))).map (fun x => Sl.dat (.tuple [.str (zz x), (getX fx (zz x)).getD .none])) = ((ks.filter fun z => !(PyData.eqv ((getX fx z).getD .none) (botD k))).map fun z => PyData.tuple [.str z, (getX fx z).getD .none]).map Sl.dat by rw [List.map_map, List.filter_map, List.map_map, List.map_map]; rfl]
      have fsub : (ks.filter fun z => !(PyData.eqv ((getX fx z).getD .none) (botD k))).Pairwise LtT := List.Pairwise.sublist List.filter_sublist k1
      have fl : (ks.filter fun z => !(PyData.eqv ((getX fx z).getD .none) (botD k))).length ≤ r + 3 := Nat.le_trans (List.length_filter_le _ _) k3
      have fm : ∀ z ∈ (ks.filter fun z => !(PyData.eqv ((getX fx z).getD .none) (botD k))), isNm (.str z) = true ∧ isW k ((getX fx z).getD .none) = true ∧ fw (r + 3) k ((getX fx z).getD .none) = true ∧ PyData.eqv ((getX fx z).getD .none) (botD k) = false := fun z hz => by
        have := List.mem_filter.mp hz
        obtain ⟨e, h1, h2, h3, h4⟩ := k2 z this.1
        have ee : (getX fx z).getD .none = e := by rw [h1]; rfl
        rw [ee] at this ⊢
        exact ⟨h2, h3, h4, by simpa using this.2⟩
      generalize (ks.filter fun z => !(PyData.eqv ((getX fx z).getD .none) (botD k))) = fs at fsub fl fm ⊢
      refine ⟨fs.map fun z => .tuple [.str z, (getX fx z).getD .none], put_same, ?_⟩
      rw [del_put hp4]
      have hBe : ∃ u, Sub u w' ∧ Bg b (c + bc (n + 1)) w0 u := hB5.drop (by
        cases e : w0 fa with
        | none => rfl
        | some o =>
          have := hB3.get hne
          rw [hfa, e] at this
          cases this) hne
      obtain ⟨u, hu, hBu⟩ := hBe
      refine ⟨_, tupS_ok (ds := fs.map fun z => .tuple [.str z, (getX fx z).getD .none]) rfl, u, hu, q _ u ?_ ?_ hBu⟩
      · show ((fs.map fun z => PyData.tuple [.str z, (getX fx z).getD .none]).all (isRow (isW k) (botD k)) && risS ((fs.map fun z => PyData.tuple [.str z, (getX fx z).getD .none]).map fun r => strD (fstD r))) = true
        rw [List.map_map, show ((fun r => strD (fstD r)) ∘ fun z => PyData.tuple [.str z, (getX fx z).getD .none]) = fun z => z from rfl, List.map_id', risS_of fsub, Bool.and_true, List.all_eq_true]
        intro d hd
        obtain ⟨z, hz, rfl⟩ := List.mem_map.mp hd
        obtain ⟨a1, a2, a3, a4⟩ := fm z hz
        show (isNm (.str z) && (isW k _ && !(PyData.eqv _ (botD k)))) = true
        rw [a1, a2, a4]; rfl
      · show (decide ((fs.map fun z => PyData.tuple [.str z, (getX fx z).getD .none]).length ≤ r + 3) && (fs.map fun z => PyData.tuple [.str z, (getX fx z).getD .none]).all fun row => fw (r + 3) k (sndD row)) = true
        rw [decide_eq_true (by rw [List.length_map]; exact fl), Bool.true_and, List.all_eq_true]
        intro d hd
        obtain ⟨z, hz, rfl⟩ := List.mem_map.mp hd
        exact (fm z hz).2.2.1
end G

set_option Elab.async false
set_option linter.all false
set_option maxRecDepth 100000
set_option maxHeartbeats 4000000
/-! BesC: the law's own writing of a worth; how long it is -/
namespace G
open PySem PySem.Spec PyProof.Rows L2 DL
local macro_rules | `(tactic| walk_at "rr") => `(tactic| repeat (first | refine ⟨_, ix_t0, ?_⟩ | refine ⟨_, ix_t1, ?_⟩ | refine ⟨_, ix_t2, ?_⟩ | refine ⟨_, rfl, ?_⟩ | refine ⟨_, _, rfl, rfl, ?_⟩ | refine iteT ?_ | refine iteF ?_ | refine And.intro (sq_line (by simp)) ?_ | fail "stop"))
theorem addC {w : Om} {a b : Str} {l m : List Nat} {C : Ou → Prop} (ha : cp a = l) (hb : cp b = m) (h : l.length + m.length ≤ 16000000) (hC : C (.v (.dat (.str (tx (l ++ m)))))) : ∃ o, addS w (.dat (.str a)) (.dat (.str b)) = some o ∧ C o := by
  refine addT' (by rw [len_cp, len_cp, ha, hb]; exact h) ?_
  have : a ++ b = tx (l ++ m) := cp_inj (by rw [cp_app, ha, hb])
  rw [this]; exact hC
theorem cpt (l : List Nat) : cp (tx l) = l := rfl
theorem rd_law_shown (n : Nat) {ss w R} (h : c_law_shown n ss w R) : t_law_shown (prev c_law_shown n) (endsN R) (startD N_law_shown ss) w := by
  obtain ⟨k, d, rfl, hk, hw, hb, hl, q⟩ := h
  have kp := k.dep_pos
  have lv := line_val
  obtain ⟨n, rfl⟩ : ∃ n', n = n' + 1 := ⟨n - 1, by omega⟩
  have fin : ∀ {l : List Nat}, l = shW k d → ∃ u, Sub u w ∧ R (.dat (.str (tx l))) u := fun e => ⟨w, Sub.refl _, by rw [e]; exact q⟩
  cases k with
  | names =>
    obtain ⟨ys, rfl, hy, _⟩ := isW_names hw
    have es : shW .names (.tuple (ys.map .str)) = cp "{" ++ (jnL (cp " ") (ys.map cp) ++ cp "}") := by
      show cp "{" ++ (jnL (cp " ") ((ys.map PyData.str).map fun n => cp (strD n)) ++ cp "}") = _
      rw [List.map_map]; rfl
    rw [es] at hl
    have l1 : (cp "{").length = 1 := by decide
    have l2 : (cp "}").length = 1 := by decide
    rw [List.length_append, List.length_append, l1, l2] at hl
    walk_at "rr"
    refine ⟨_, ys, rfl, by rw [List.map_map]; rfl, join_room (n := 0) (by omega) (by decide), ?_⟩
    refine addC rfl (join_cp _ _) (by rw [l1]; omega) ?_
    refine addC (cpt _) rfl (by rw [List.length_append, l1, l2]; omega) ?_
    exact fin (by rw [es, List.append_assoc])
  | most =>
    obtain ⟨i, rfl, _⟩ := isW_most hw
    have hi := bg_int.mp hb
    walk_at "rr"
    refine ⟨_, strS_ok (small_log hi), ?_⟩
    rw [int_txt]
    exact fin rfl
  | last =>
    obtain ⟨a, b, rfl, _⟩ := isW_last hw
    obtain ⟨_, hd⟩ := bg_tup.mp hb
    have ha := bg_int.mp (hd (.int a) (by simp))
    have hb := bg_int.mp (hd (.int b) (by simp))
    have es : shW .last (.tuple [.int a, .int b]) = intL a ++ (cp "@" ++ intL b) := rfl
    rw [es] at hl
    have l1 : (cp "@").length = 1 := by decide
    rw [List.length_append, List.length_append, l1] at hl
    walk_at "rr"
    refine ⟨_, strS_ok (small_log ha), ?_⟩
    refine addC (txt_int a) rfl (by rw [l1]; omega) ?_
    refine ⟨_, rfl, _, ix_t1, _, strS_ok (small_log hb), ?_⟩
    refine addC (cpt _) (txt_int b) (by rw [List.length_append, l1]; omega) ?_
    exact fin (by rw [es, List.append_assoc])
  | each k =>
    obtain ⟨ds, rfl, hr, _⟩ := isW_each hw
    obtain ⟨hn, hd⟩ := bg_tup.mp hb
    have hk : k.dep + 1 ≤ n + 1 := hk
    have es : shW (.each k) (.tuple ds) = cp "[" ++ (jnL (cp ", ") (ds.map fun r => cp (strD (fstD r)) ++ (cp ": " ++ shW k (sndD r))) ++ cp "]") := rfl
    rw [es] at hl
    have l1 : (cp "[").length = 1 := by decide
    have l2 : (cp "]").length = 1 := by decide
    rw [List.length_append, List.length_append, l1, l2] at hl
    have hrow : ∀ d ∈ ds, (cp (strD (fstD d)) ++ (cp ": " ++ shW k (sndD d))).length ≤ 100000 := fun d hd2 => by
      have := jn_part (sep := cp ", ") (List.mem_map.mpr ⟨d, hd2, rfl⟩ : cp (strD (fstD d)) ++ (cp ": " ++ shW k (sndD d)) ∈ ds.map fun r => cp (strD (fstD r)) ++ (cp ": " ++ shW k (sndD r)))
      omega
    walk_at "rr"
    refine lc_rows (w := w) (g := fun d => .dat (.str (tx ((cp (strD (fstD d)) ++ cp ": ") ++ shW k (sndD d))))) trivial ds [] (fun d hd2 => ?_) (sq_line (by rw [List.length_nil]; omega)) ?_
    · have hr' := hrow d hd2
      have hb' := hd d hd2
      obtain ⟨z, x, rfl, hz, hx, _⟩ := isRow_ok (hr d hd2)
      refine ⟨_, _, rfl, fun C hC => ?_⟩
      have hr2 : (cp z ++ (cp ": " ++ shW k x)).length ≤ 100000 := hr'
      have l3 : (cp ": ").length = 2 := by decide
      rw [List.length_append, List.length_append, l3] at hr2
      refine ⟨_, rfl, ?_⟩
      refine addC rfl rfl (by rw [l3]; omega) ?_
      refine ⟨_, rfl, _, ix_t1, _, rfl, k, x, rfl, by omega, hx, (bg_tup.mp hb').2 x (by simp), by omega, ?_⟩
      exact addC (cpt _) (cpt _) (by rw [List.length_append, l3]; omega) hC
    · intro p hp
      have em : (ds.map fun d => tx ((cp (strD (fstD d)) ++ cp ": ") ++ shW k (sndD d))).map cp = ds.map fun r => cp (strD (fstD r)) ++ (cp ": " ++ shW k (sndD r)) := by
        rw [List.map_map]; exact List.map_congr_left fun d _ => by show (cp (strD (fstD d)) ++ cp ": ") ++ shW k (sndD d) = _; rw [List.append_assoc]
      refine ⟨_, ds.map fun d => tx ((cp (strD (fstD d)) ++ cp ": ") ++ shW k (sndD d)), sq_adr put_same, by rw [List.map_map]; rfl, join_room (n := 0) (by rw [em]; omega) (by decide), ?_⟩
      refine addC rfl ((join_cp _ _).trans (by rw [em])) (by rw [l1]; omega) ?_
      refine addC (cpt _) rfl (by rw [List.length_append, l1, l2]; omega) ?_
      refine ⟨w, Sub.new hp, ?_⟩
      rw [List.append_assoc, ← es]
      exact q
  | both k l =>
    obtain ⟨a, b, rfl, h1, h2⟩ := isW_both hw
    obtain ⟨_, hd⟩ := bg_tup.mp hb
    have ba := hd a (by simp)
    have bb := hd b (by simp)
    have hk : max k.dep l.dep + 1 ≤ n + 1 := hk
    have es : shW (.both k l) (.tuple [a, b]) = cp "(" ++ (shW k a ++ (cp ", " ++ (shW l b ++ cp ")"))) := rfl
    rw [es] at hl
    have l1 : (cp "(").length = 1 := by decide
    have l2 : (cp ", ").length = 2 := by decide
    have l3 : (cp ")").length = 1 := by decide
    simp only [List.length_append, l1, l2, l3] at hl
    walk_at "rr"
    refine ⟨k, a, rfl, by omega, h1, ba, by omega, ?_⟩
    refine addC rfl (cpt _) (by rw [l1]; omega) ?_
    refine addC (cpt _) rfl (by simp only [List.length_append, l1, l2]; omega) ?_
    refine ⟨_, rfl, _, ix_t2, _, rfl, _, ix_t1, l, b, rfl, by omega, h2, bb, by omega, ?_⟩
    refine addC (cpt _) (cpt _) (by simp only [List.length_append, l1, l2]; omega) ?_
    refine addC (cpt _) rfl (by simp only [List.length_append, l1, l2, l3]; omega) ?_
    exact fin (by rw [es]; simp only [List.append_assoc])
/-! ### how long, how great -/
theorem fw_names {r : Nat} {ds : List PyData} (h : fw r .names (.tuple ds) = true) : ds.length ≤ r := of_decide_eq_true h
theorem fw_most {r : Nat} {i : Int} (h : fw r .most (.int i) = true) : i.natAbs < 10 ^ 20 + r := of_decide_eq_true (p := i.natAbs < 10 ^ 20 + r) h
theorem fw_last {r : Nat} {i j : Int} (h : fw r .last (.tuple [.int i, .int j]) = true) : i.natAbs < 10 ^ 20 + r ∧ j.natAbs < 10 ^ 20 + r := by
  have h : (decide (i.natAbs < 10 ^ 20 + r) && decide (j.natAbs < 10 ^ 20 + r)) = true := h
  rw [Bool.and_eq_true] at h
  exact ⟨of_decide_eq_true h.1, of_decide_eq_true h.2⟩
theorem fw_each {r : Nat} {k : Kn} {ds : List PyData} (h : fw r (.each k) (.tuple ds) = true) : ds.length ≤ r ∧ ∀ d ∈ ds, fw r k (sndD d) = true := by
  have h : (decide (ds.length ≤ r) && ds.all fun row => fw r k (sndD row)) = true := h
  rw [Bool.and_eq_true, List.all_eq_true] at h
  exact ⟨of_decide_eq_true h.1, h.2⟩
theorem fw_both {r : Nat} {k l : Kn} {a b : PyData} (h : fw r (.both k l) (.tuple [a, b]) = true) : fw r k a = true ∧ fw r l b = true := by
  have h : (fw r k a && fw r l b) = true := h
  rw [Bool.and_eq_true] at h
  exact h
theorem fw_sz {r : Nat} (hr : r ≤ 40) : ∀ (k : Kn) {d : PyData}, isW k d = true → fw r k d = true → szB 0 d = true
  | .names, d, hw, hf => by
    obtain ⟨ys, rfl, hy, _⟩ := isW_names hw
    have := fw_names hf
    refine tup_sz (by omega) fun x hx => ?_
    obtain ⟨z, hz, rfl⟩ := List.mem_map.mp hx
    exact nm_sz (hy z hz)
  | .most, d, hw, hf => by
    obtain ⟨i, rfl, _⟩ := isW_most hw
    have := fw_most hf
    exact sz_int.mpr (Nat.lt_of_lt_of_le this (by have : 10 ^ 20 + 40 ≤ 2 ^ (100 + 0) := by decide
                                                  omega))
  | .last, d, hw, hf => by
    obtain ⟨a, b, rfl, _⟩ := isW_last hw
    obtain ⟨h1, h2⟩ := fw_last hf
    have : 10 ^ 20 + 40 ≤ 2 ^ (100 + 0) := by decide
    exact tup_sz (by simp) (two_all (sz_int.mpr (by omega)) (sz_int.mpr (by omega)))
  | .each k, d, hw, hf => by
    obtain ⟨ds, rfl, hrow, _⟩ := isW_each hw
    obtain ⟨h1, h2⟩ := fw_each hf
    refine tup_sz (by omega) fun x hx => ?_
    have h2 := h2 x hx
    obtain ⟨z, y, rfl, hz, hy, _⟩ := isRow_ok (hrow x hx)
    exact tup_sz (by simp) (two_all (nm_sz hz) (fw_sz hr k hy h2))
  | .both k l, d, hw, hf => by
    obtain ⟨a, b, rfl, h1, h2⟩ := isW_both hw
    obtain ⟨f1, f2⟩ := fw_both hf
    exact tup_sz (by simp) (two_all (fw_sz hr k h1 f1) (fw_sz hr l h2 f2))
def fl (r : Nat) : Nat → Nat
  | 0 => 0
  | n + 1 => 100 + 20 * r + (max r 2) * (fl r n + 20)
theorem fl_mono {r : Nat} : ∀ {n m : Nat}, n ≤ m → fl r n ≤ fl r m
  | 0, _, _ => Nat.zero_le _
  | n + 1, m + 1, h => by
    have := fl_mono (r := r) (Nat.le_of_succ_le_succ h)
    have := Nat.mul_le_mul_left (max r 2) (Nat.add_le_add_right this 20)
    show 100 + 20 * r + (max r 2) * (fl r n + 20) ≤ 100 + 20 * r + (max r 2) * (fl r m + 20)
    omega
theorem int_len {r : Nat} {i : Int} (hr : r ≤ 40) (h : i.natAbs < 10 ^ 20 + r) : (intL i).length ≤ 22 := by
  have e20 : (10 : Nat) ^ 20 = 100000000000000000000 := by decide
  have e21 : (10 : Nat) ^ 21 = 1000000000000000000000 := by decide
  have := TL.numL_len (n := i.natAbs) (k := 21) (by decide) (by omega)
  unfold intL
  split
  · omega
  · rw [List.length_cons]; omega
theorem fw_len {r : Nat} (hr : r ≤ 40) : ∀ (k : Kn) {d : PyData}, isW k d = true → fw r k d = true → (shW k d).length ≤ fl r k.dep
  | .names, d, hw, hf => by
    obtain ⟨ys, rfl, hy, _⟩ := isW_names hw
    have := fw_names hf
    rw [List.length_map] at this
    show (cp "{" ++ (jnL (cp " ") ((ys.map PyData.str).map fun n => cp (strD n)) ++ cp "}")).length ≤ 100 + 20 * r + (max r 2) * (0 + 20)
    have l1 : (cp "{").length = 1 := by decide
    have l2 : (cp "}").length = 1 := by decide
    have l3 : (cp " ").length = 1 := by decide
    have j := jn_le (sep := cp " ") (m := 8) (ls := (ys.map PyData.str).map fun n => cp (strD n)) fun l hl => by
      rw [List.map_map] at hl
      obtain ⟨z, hz, rfl⟩ := List.mem_map.mp hl
      have := nm_len (hy z hz)
      show (cp z).length ≤ 8
      rw [← len_cp]; omega
    rw [List.length_map, List.length_map, l3] at j
    simp only [List.length_append, l1, l2]
    omega
  | .most, d, hw, hf => by
    obtain ⟨i, rfl, _⟩ := isW_most hw
    have := int_len hr (fw_most hf)
    show (intL i).length ≤ 100 + 20 * r + (max r 2) * (0 + 20)
    omega
  | .last, d, hw, hf => by
    obtain ⟨a, b, rfl, _⟩ := isW_last hw
    obtain ⟨h1, h2⟩ := fw_last hf
    have := int_len hr h1
    have := int_len hr h2
    have l1 : (cp "@").length = 1 := by decide
    show (intL a ++ (cp "@" ++ intL b)).length ≤ 100 + 20 * r + (max r 2) * (0 + 20)
    simp only [List.length_append, l1]
    omega
  | .each k, d, hw, hf => by
    obtain ⟨ds, rfl, hrow, _⟩ := isW_each hw
    obtain ⟨h1, h2⟩ := fw_each hf
    show (cp "[" ++ (jnL (cp ", ") (ds.map fun r => cp (strD (fstD r)) ++ (cp ": " ++ shW k (sndD r))) ++ cp "]")).length ≤ 100 + 20 * r + (max r 2) * (fl r k.dep + 20)
    have l1 : (cp "[").length = 1 := by decide
    have l2 : (cp "]").length = 1 := by decide
    have l3 : (cp ", ").length = 2 := by decide
    have l4 : (cp ": ").length = 2 := by decide
    have j := jn_le (sep := cp ", ") (m := 10 + fl r k.dep) (ls := ds.map fun r => cp (strD (fstD r)) ++ (cp ": " ++ shW k (sndD r))) fun l hl => by
      obtain ⟨d, hd, rfl⟩ := List.mem_map.mp hl
      have h2 := h2 d hd
      obtain ⟨z, e, rfl, hz, he, _⟩ := isRow_ok (hrow d hd)
      show (cp z ++ (cp ": " ++ shW k e)).length ≤ _
      have := nm_len hz
      have := fw_len hr k he h2
      rw [List.length_append, List.length_append, l4, ← len_cp]; omega
    rw [List.length_map, l3] at j
    have : ds.length * (10 + fl r k.dep + 2) ≤ r * (fl r k.dep + 20) := Nat.mul_le_mul h1 (by omega)
    have : r * (fl r k.dep + 20) ≤ (max r 2) * (fl r k.dep + 20) := Nat.mul_le_mul_right _ (by omega)
    simp only [List.length_append, l1, l2]
    omega
  | .both k l, d, hw, hf => by
    obtain ⟨a, b, rfl, h1, h2⟩ := isW_both hw
    obtain ⟨f1, f2⟩ := fw_both hf
    show (cp "(" ++ (shW k a ++ (cp ", " ++ (shW l b ++ cp ")")))).length ≤ 100 + 20 * r + (max r 2) * (fl r (max k.dep l.dep) + 20)
    have l1 : (cp "(").length = 1 := by decide
    have l2 : (cp ", ").length = 2 := by decide
    have l3 : (cp ")").length = 1 := by decide
    have := fw_len hr k h1 f1
    have := fw_len hr l h2 f2
    have := fl_mono (r := r) (Nat.le_max_left k.dep l.dep)
    have := fl_mono (r := r) (Nat.le_max_right k.dep l.dep)
    have : 2 * (fl r (max k.dep l.dep) + 20) ≤ (max r 2) * (fl r (max k.dep l.dep) + 20) := Nat.mul_le_mul_right _ (by omega)
    simp only [List.length_append, l1, l2, l3]
    omega
end G

set_option Elab.async false
set_option linter.all false
set_option maxRecDepth 100000
set_option maxHeartbeats 4000000
/-! WorN: worths are equal just where they are the same; a def that raises nothing here -/
namespace DL
open PySem PySem.Spec PyProof.Rows L2
theorem FnOk.noX {P : Program} {wd : World} {K : PySem.W.Frag} {mg : Str → Option Value} {base : Heap} {k : Nat} {f : Addr} {fd : FuncData} {ps : List Str} {cx : CtX} {c : Ct} (F : FnOk P wd K mg base (L2.CX P wd) k f fd ps (spX K cx)) (h : ∀ {ss w R}, c ss w R → cx ss w R fun _ _ _ => False) : FnOk P wd K mg base CX0 k f fd ps (spN K c) where
  len := fun vs H Q E ⟨ss, w, D, R, a, b, q, f⟩ => F.len vs H Q (fun _ _ _ => False) ⟨ss, w, D, R, _, a, b, h q, f, fun _ _ _ _ _ _ z => z.elim⟩
  run := fun A outer s H args us vs Q E hr he hb hv ⟨ss, w, D, R, a, b, q, f⟩ =>
    codeAny_mono (F.run A outer s H args us vs Q (fun _ _ _ => False) hr he hb hv ⟨ss, w, D, R, _, a, b, h q, f, fun _ _ _ _ _ _ z => z.elim⟩) fun r s' z => by
      cases r with
      | ok o =>
        cases o with
        | ret u => exact z
        | _ => exact z
      | error e =>
        obtain ⟨_, _, _, _, _, _, _, _, _, _, _, _, z⟩ := z
        exact z.elim
end DL
namespace G
open PySem PySem.Spec PyProof.Rows L2 DL
theorem eqvAll_iff : ∀ {ds es : List PyData}, (∀ d ∈ ds, ∀ e ∈ es, (PyData.eqv d e = true ↔ d = e)) → (PyData.eqvAll ds es = true ↔ ds = es)
  | [], [], _ => by simp [PyData.eqvAll]
  | [], _ :: _, _ => by simp [PyData.eqvAll]
  | _ :: _, [], _ => by simp [PyData.eqvAll]
  | d :: ds, e :: es, h => by
    have h1 := h d List.mem_cons_self e List.mem_cons_self
    have h2 := eqvAll_iff (ds := ds) (es := es) fun x hx y hy => h x (List.mem_cons_of_mem _ hx) y (List.mem_cons_of_mem _ hy)
    simp [PyData.eqvAll, h1, h2]
theorem eqv_tup {ds es : List PyData} (h : ∀ d ∈ ds, ∀ e ∈ es, (PyData.eqv d e = true ↔ d = e)) : PyData.eqv (.tuple ds) (.tuple es) = true ↔ PyData.tuple ds = .tuple es := by
  have : PyData.eqv (.tuple ds) (.tuple es) = PyData.eqvAll ds es := by simp [PyData.eqv]
  rw [this, eqvAll_iff h]
  exact ⟨fun e => by rw [e], fun e => PyData.tuple.inj e⟩
theorem eqv_str {x y : Str} : PyData.eqv (.str x) (.str y) = true ↔ PyData.str x = .str y := by simp [PyData.eqv]
theorem eqv_int {x y : Int} : PyData.eqv (.int x) (.int y) = true ↔ PyData.int x = .int y := by simp [PyData.eqv]
theorem isW_eqv : ∀ (k : Kn) {d e : PyData}, isW k d = true → isW k e = true → (PyData.eqv d e = true ↔ d = e)
  | .names, d, e, h, h' => by
    obtain ⟨ys, rfl, _⟩ := isW_names h
    obtain ⟨zs, rfl, _⟩ := isW_names h'
    refine eqv_tup fun x hx y hy => ?_
    obtain ⟨a, _, rfl⟩ := List.mem_map.mp hx
    obtain ⟨b, _, rfl⟩ := List.mem_map.mp hy
    exact eqv_str
  | .most, d, e, h, h' => by
    obtain ⟨i, rfl, _⟩ := isW_most h
    obtain ⟨j, rfl, _⟩ := isW_most h'
    exact eqv_int
  | .last, d, e, h, h' => by
    obtain ⟨a, b, rfl, _⟩ := isW_last h
    obtain ⟨a', b', rfl, _⟩ := isW_last h'
    refine eqv_tup fun x hx y hy => ?_
    simp only [List.mem_cons, List.not_mem_nil, or_false] at hx hy
    rcases hx with rfl | rfl <;> rcases hy with rfl | rfl <;> exact eqv_int
  | .each k, d, e, h, h' => by
    obtain ⟨ds, rfl, hr, _⟩ := isW_each h
    obtain ⟨es, rfl, hr', _⟩ := isW_each h'
    refine eqv_tup fun x hx y hy => ?_
    obtain ⟨z, u, rfl, _, hu, _⟩ := isRow_ok (hr x hx)
    obtain ⟨z', u', rfl, _, hu', _⟩ := isRow_ok (hr' y hy)
    have i1 := isW_eqv k hu hu'
    have : PyData.eqv (.tuple [.str z, u]) (.tuple [.str z', u']) = (PyData.eqv (.str z) (.str z') && (PyData.eqv u u' && true)) := by simp [PyData.eqv, PyData.eqvAll]
    rw [this, Bool.and_true, Bool.and_eq_true, i1, eqv_str]
    constructor
    · rintro ⟨e1, e2⟩; rw [e1, e2]
    · intro e; cases e; exact ⟨rfl, rfl⟩
  | .both k l, d, e, h, h' => by
    obtain ⟨a, b, rfl, ha, hb⟩ := isW_both h
    obtain ⟨a', b', rfl, ha', hb'⟩ := isW_both h'
    have i1 := isW_eqv k ha ha'
    have i2 := isW_eqv l hb hb'
    have : PyData.eqv (.tuple [a, b]) (.tuple [a', b']) = (PyData.eqv a a' && (PyData.eqv b b' && true)) := by simp [PyData.eqv, PyData.eqvAll]
    rw [this, Bool.and_true, Bool.and_eq_true, i1, i2]
    constructor
    · rintro ⟨e1, e2⟩; rw [e1, e2]
    · intro e; cases e; exact ⟨rfl, rfl⟩
theorem eq_W {k l : Kn} {d e : PyData} (h : isW k d = true) (h' : isW l e = true) (hk : k.dep ≤ 20) (hl : l.dep ≤ 20) : DL.plainEq d e = some (PyData.eqv d e) := by
  have a := isW_lay k h
  have b := isW_lay l h'
  exact plainEq_of (shaped_of a.1 (by omega)) (shaped_of b.1 (by omega))
theorem sm_tup {n : Nat} {ds : List PyData} (hl : ds.length ≤ 16000) (h : ∀ d ∈ ds, smB n d = true) : smB (n + 1) (.tuple ds) = true := by
  show (decide (ds.length ≤ 16000) && ds.all (smB n)) = true
  rw [decide_eq_true hl, Bool.true_and, List.all_eq_true]
  exact h
theorem sm_str (n : Nat) (z : Str) : smB n (.str z) = true := by cases n <;> rfl
theorem sm_int (n : Nat) (z : Int) : smB n (.int z) = true := by cases n <;> rfl
theorem sm_W {r : Nat} (hr : r ≤ 16000) : ∀ (k : Kn) {d : PyData} {n : Nat}, isW k d = true → fw r k d = true → 2 * k.dep ≤ n → smB n d = true
  | .names, d, n, hw, hf, hn => by
    obtain ⟨ys, rfl, hy, _⟩ := isW_names hw
    have := fw_names hf
    have hn : 2 * 1 ≤ n := hn
    obtain ⟨n, rfl⟩ : ∃ m, n = m + 1 := ⟨n - 1, by omega⟩
    refine sm_tup (by omega) fun x hx => ?_
    obtain ⟨z, _, rfl⟩ := List.mem_map.mp hx
    exact sm_str _ _
  | .most, d, n, hw, hf, hn => by
    obtain ⟨i, rfl, _⟩ := isW_most hw
    exact sm_int _ _
  | .last, d, n, hw, hf, hn => by
    obtain ⟨a, b, rfl, _⟩ := isW_last hw
    have hn : 2 * 1 ≤ n := hn
    obtain ⟨n, rfl⟩ : ∃ m, n = m + 1 := ⟨n - 1, by omega⟩
    exact sm_tup (by simp) (two_all (sm_int _ _) (sm_int _ _))
  | .each k, d, n, hw, hf, hn => by
    obtain ⟨ds, rfl, hrow, _⟩ := isW_each hw
    obtain ⟨h1, h2⟩ := fw_each hf
    have hn : 2 * (k.dep + 1) ≤ n := hn
    obtain ⟨n, rfl⟩ : ∃ m, n = m + 2 := ⟨n - 2, by omega⟩
    refine sm_tup (by omega) fun x hx => ?_
    have h2 := h2 x hx
    obtain ⟨z, y, rfl, _, hy, _⟩ := isRow_ok (hrow x hx)
    exact sm_tup (by simp) (two_all (sm_str _ _) (sm_W hr k hy h2 (by omega)))
  | .both k l, d, n, hw, hf, hn => by
    obtain ⟨a, b, rfl, ha, hb⟩ := isW_both hw
    obtain ⟨h1, h2⟩ := fw_both hf
    have hn : 2 * (max k.dep l.dep + 1) ≤ n := hn
    obtain ⟨n, rfl⟩ : ∃ m, n = m + 1 := ⟨n - 1, by omega⟩
    exact sm_tup (by simp) (two_all (sm_W hr k ha h1 (by omega)) (sm_W hr l hb h2 (by omega)))
theorem isW_bot : ∀ k : Kn, isW k (botD k) = true
  | .names => rfl
  | .most => rfl
  | .last => rfl
  | .each _ => rfl
  | .both k l => by show (isW k (botD k) && isW l (botD l)) = true; rw [isW_bot k, isW_bot l]; rfl
theorem fw_bot : ∀ (r : Nat) (k : Kn), fw r k (botD k) = true
  | r, .names => decide_eq_true (p := 0 ≤ r) (Nat.zero_le _)
  | r, .most => decide_eq_true (p := 0 < 10 ^ 20 + r) (by omega)
  | r, .last => by show (decide (0 < 10 ^ 20 + r) && decide (0 < 10 ^ 20 + r)) = true; rw [decide_eq_true (by omega)]; rfl
  | r, .each _ => by show (decide (0 ≤ r) && true) = true; rw [decide_eq_true (by omega)]; rfl
  | r, .both k l => by show (fw r k (botD k) && fw r l (botD l)) = true; rw [fw_bot r k, fw_bot r l]; rfl
def c_read_worthN : Ct := fun ss w R => ∃ (k : Kn) (z : Str) (e : PyData), ss = [.dat k.d, .dat (.str z)] ∧ k.dep ≤ 5 ∧ z.length ≤ 100000 ∧ RdW k (cp z) (some (e, [])) ∧ isW k e = true ∧ R (.dat e) w
theorem rdw_no {cN : Addr} {ss w R} (h : c_read_worthN ss w R) : c_read_worth cN ss w R fun _ _ _ => False := by
  obtain ⟨k, z, e, rfl, hk, hl, hr, hw, q⟩ := h
  refine ⟨k, .str z, rfl, hk, fun z' e' => by cases e'; exact hl, fun z' e' h hr' _ => ?_, ?_⟩
  · cases h
    cases RdW.fn k hr hr'
    exact q
  · rintro (h | ⟨z', h, h2⟩)
    · exact h z rfl
    · cases h
      rcases h2 with h2 | ⟨e', r, h2, h3⟩
      · cases RdW.fn k hr h2
      · cases RdW.fn k hr h2
        rcases h3 with h3 | h3
        · exact h3 rfl
        · rw [hw] at h3; cases h3
end G

set_option Elab.async false
set_option linter.all false
set_option maxRecDepth 100000
set_option maxHeartbeats 4000000
/-! DL18: l[a:b] = m -/
namespace DL
open PySem PySem.Spec PyProof.Rows L2
theorem no_index_slice : typeLookup (.type "slice") "__index__" = pure none := am_miss_of_fast (by first | decide +kernel | rfl)
/-- where a stretch begins, where it ends -/
def cutA (a n : Nat) : Nat := min a n
def cutB (a b n : Nat) : Nat := max (min a n) (min b n)
def putSl {α : Type} (a b : Nat) (ys xs : List α) : List α := xs.take (cutA a xs.length) ++ ys ++ xs.drop (cutB a b xs.length)
theorem put_slice (l sl r : Addr) (items new : Array Value) (n m a b : Nat) (ta tb : Tok) (hne : (l == r) = false) (hsz : items.size + new.size ≤ sizeLine) :
    Meets (Builtin.«list.__setitem__» ⟨[.ref l, .ref sl, .ref r], []⟩) (fun _ R s => s.heap.get? l = some { cls := .type "list", dict := none, data := .seq items n, slots := #[] } ∧ s.heap.get? sl = some { cls := .type "slice", data := .fields #[.int ((a : Nat) : Int) ta, .int ((b : Nat) : Int) tb, .none] } ∧
      s.heap.get? r = some { cls := .type "list", dict := none, data := .seq new m, slots := #[] } ∧ ∀ f, f items = (putSl a b new.toList items.toList).toArray → R (.ok (.ret Value.none)) { s with heap := s.heap.update l (Obj.mapSeq f), toks := s.toks }) :=
  .of_wp fun prog w A R s h => by
    obtain ⟨hp, g, d, tk, os⟩ := s
    obtain ⟨hl, hs, hr, h⟩ := h
    have f1 := AutoSeq1.idx_int
    have f2 := no_index_slice
    unfold Builtin.«list.__setitem__»
    wp_walk
    refine wpAny_ite_false (decide_eq_false (by show ¬ (l == r) = true; rw [hne]; exact Bool.false_ne_true)) ?_
    wp_walk
    refine wpAny_ite_false (decide_eq_false (by unfold Builtin.List.listTooLong; simp; omega)) ?_
    have ea : (max 0 (min (if ((a : Nat) : Int) < 0 then ((a : Nat) : Int) + ((items.size : Nat) : Int) else ((a : Nat) : Int)) ((items.size : Nat) : Int))).toNat = cutA a items.size := by
      unfold cutA; rw [if_neg (by omega)]; omega
    have eb : (max (max 0 (min (if ((a : Nat) : Int) < 0 then ((a : Nat) : Int) + ((items.size : Nat) : Int) else ((a : Nat) : Int)) ((items.size : Nat) : Int))) (max 0 (min (if ((b : Nat) : Int) < 0 then ((b : Nat) : Int) + ((items.size : Nat) : Int) else ((b : Nat) : Int)) ((items.size : Nat) : Int)))).toNat = cutB a b items.size := by
      unfold cutB; rw [if_neg (by omega), if_neg (by omega)]; omega
    rw [ea, eb]
    refine wpAny_bind (m := updateSeq l _) (wpAny_updateSeq hl rfl ?_ (by omega) ?_)
    · exact wpAny_bind (wpAny_letGo (wpAny_pure ⟨_, rfl, h _ (by
        apply Array.toList_inj.mp
        unfold putSl
        simp only [Array.toList_append, Array.toList_extract, List.extract, Array.length_toList, Nat.sub_zero, List.drop_zero]
        rw [List.take_of_length_le (i := items.size - cutB a b items.size) (by rw [List.length_drop, Array.length_toList]; omega)])⟩))
    · have : (items.extract 0 (cutA a items.size) ++ new ++ items.extract (cutB a b items.size)).size ≤ items.size + new.size := by
        unfold cutA cutB
        simp only [Array.size_append, Array.size_extract]
        omega
      omega
section
variable {X : Cx} {W : WX} {Z : DX} {K : PySem.W.Frag} {a b c lo hi : Expr} {ta tb tc : DTE} {tl th : DTO} {pos pos' p2 : Pos}
def sPutSl (to : TE) (tl th : TO) (tv : TE) : TS := fun D σ H => tv σ H fun v H1 => to σ H1 fun x H2 => tl σ H2 fun l H3 => th σ H3 fun u H4 => ∃ q r xs ys i j, x = .ref q ∧ v = .ref r ∧ q ≠ r ∧ H4 q = some (.lst xs) ∧ H4 r = some (.lst ys) ∧ l = some ((i : Nat) : Int) ∧ u = some ((j : Nat) : Int) ∧ xs.length + ys.length ≤ sizeLine ∧ D.nx σ (upd H4 q (.lst (putSl i j ys xs)))
theorem Vals.putSl {xs ys : List V} {us vs : List Value} (h : Vals xs us) (h' : Vals ys vs) (i j : Nat) : Vals (DL.putSl i j ys xs) (DL.putSl i j vs us) := by
  unfold DL.putSl
  rw [← h.length]
  exact ((h.take _).append h').append (h.drop _)
theorem ps_putSl {o : Expr} {to tv : TE} {tl th : TO} (ho : PE X o to) (hl : PO X (some lo) tl) (hh : PO X (some hi) th) (hv : PE X c tv) (hs : swapsWith c (some (.Subscript o (.Slice (some lo) (some hi) none p2) pos')) pos.line X.env = pure false) :
    PS X (.Assign [.Subscript o (.Slice (some lo) (some hi) none p2) pos'] c pos) (sPutSl to tl th tv) := by
  refine ⟨fun pins s σ H D I h => ?_⟩
  refine wpAny_Assign_Subscript (thn (hv.run pins s σ H _ I h) fun u s1 ⟨v, H1, I1, rv, q1⟩ => thn (ho.run pins s1 σ H1 _ I1 q1) fun ov s2 ⟨x, H2, I2, rx, q2⟩ => ?_) hs
  refine wpAny_Slice (thn (hl.run pins s2 σ H2 _ I2 q2) fun vl s3 ⟨l, H3, I3, pl, q3⟩ => thn (hh.run pins s3 σ H3 _ I3 q3) fun vu s4 ⟨u, H4, I4, pu, q, r, xs, ys, i, j, e1, e2, hne, hq, hr, e3, e4, hz, nx⟩ => ?_)
  subst e1 e2 e3 e4
  cases rx
  cases rv
  cases pl with
  | int _ tl' =>
    cases pu with
    | int _ tu' =>
      rw [evalPart_none]
      refine wpAny_pure ?_
      have I5 : Inv X pins σ H4 { s4 with heap := s4.heap.push { cls := .type "slice", data := .fields #[.int ((i : Nat) : Int) tl', .int ((j : Nat) : Int) tu', .none] } } := I4.kept (t' := s4.toks) fun b ob q => Heap.get?_push_of_some _ q
      obtain ⟨z1, it1, n1, v1, l1, g1⟩ := I5.lstM hq
      obtain ⟨z2, it2, n2, v2, l2, g2⟩ := I5.lstM hr
      have tq : Shared.TypeIs { s4 with heap := s4.heap.push { cls := .type "slice", data := .fields #[.int ((i : Nat) : Int) tl', .int ((j : Nat) : Int) tu', .none] } } (.ref q) "list" := ⟨_, g1, rfl⟩
      unfold setItem
      refine wpAny_holding ?_
      refine wpAny_bind (wpAny_sequenceKey tq (by decide) ?_)
      refine wpAny_bind (wpAny_callSpecial?_slot (name := Str.ofString "__setitem__") tq PySem.F.slot_list_setitem
        (call_meets PySem.F.slot_list_setitem tq PySem.F.entry_list_setitem (PySem.F.args_list_setitem_3 _ _ _) (put_slice q s4.heap.objs.size r it1.toArray it2.toArray n1 n2 i j tl' tu' (beq_eq_false_iff_ne.mpr hne) (by rw [List.size_toArray, List.size_toArray, ← l1, ← l2]; exact hz)) ⟨g1, Heap.get?_push_size _ rfl, g2, fun f hf => wpAny_pure ?_⟩))
      have J := I5.lset (t' := s4.toks) (its' := putSl i j it2 it1) hq g1 hf (DL.Vals.putSl v1 v2 i j) (by
        unfold putSl
        rw [List.length_append, List.length_append, List.length_take, List.length_drop]
        unfold cutA cutB
        omega)
      exact ⟨σ, _, J, nx⟩
/-- o[lo:hi] = v, o a list of the store -/
def dPutSl (to : DTE) (tl th : DTO) (tv : DTE) : DTS := fun F ρ w => tv ρ w fun v w1 => to ρ w1 fun s w2 => tl ρ w2 fun l w3 => th ρ w3 fun u w4 => ∃ q xs ys i j, s = .adr q ∧ w4 q = some (.lst xs) ∧ v = .dat (.list ys) ∧ l = some ((i : Nat) : Int) ∧ u = some ((j : Nat) : Int) ∧ xs.length + ys.length ≤ sizeLine ∧ F.nx ρ (put w4 q (.lst (putSl i j (ys.map .dat) xs)))
theorem SlA.putSl {D : Hp} {xs ys : List V} {us vs : List Sl} (h : SlA K D xs us) (h' : SlA K D ys vs) (i j : Nat) : SlA K D (DL.putSl i j ys xs) (DL.putSl i j vs us) := by
  unfold DL.putSl
  rw [Paired.length h]
  exact SlA.append (SlA.append (SlA.take _ h) h') (SlA.drop _ h)
theorem ds_putSl (ho : DE X W Z a ta) (hl : DO X W Z (some lo) tl) (hh : DO X W Z (some hi) th) (hv : DE X W Z c tc) (hs : swapsWith c (some (.Subscript a (.Slice (some lo) (some hi) none p2) pos')) pos.line X.env = pure false := by rfl) :
    DS X W Z (.Assign [.Subscript a (.Slice (some lo) (some hi) none p2) pos'] c pos) (dPutSl ta tl th tc) :=
  ps_weak (ps_putSl ho hl hh hv hs) fun E σ H ⟨ρ, w, D, F, rp, xo, h, eo⟩ => ⟨ρ, w, D, _, rp, xo, h, fun v w1 x D1 H1 h1 g1 s1 r1 => ⟨ρ, w1, D1, _, rp.next g1.dd s1, xo.next g1, h1, fun s w2 u D2 H2 h2 g2 s2 r2 =>
    ⟨ρ, w2, D2, _, rp.next (g1.trans g2).dd s2, xo.next (g1.trans g2), h2, fun l w3 D3 H3 h3 g3 s3 => ⟨ρ, w3, D3, _, rp.next ((g1.trans g2).trans g3).dd s3, xo.next ((g1.trans g2).trans g3), h3, fun u' w4 D4 H4 h4 g4 s4 => by
      obtain ⟨q, xs, ys, i, j, rfl, hw, rfl, e3, e4, hz, hn⟩ := h4
      obtain ⟨vs, hH, hvs⟩ := s4.own q _ hw
      have r2' : u = .ref q := r2
      subst r2'
      have g := ((g1.trans g2).trans g3).trans g4
      have r1' : Dr X.K D4 x (.list ys) := Dr.mono ((g2.trans g3).trans g4).dd r1
      cases r1' with
      | @lst p us _ hp hus =>
        have hpq : q ≠ p := fun e => by rw [← e, s4.sep q _ hw] at hp; cases hp
        refine ⟨q, p, vs, us, i, j, rfl, rfl, hpq, hH, s4.dh p _ hp, e3, e4, by rw [Paired.length hvs, hus.length]; exact hz, ?_⟩
        have st' := s4.write (o := .lst (putSl i j us vs)) (u' := .lst (putSl i j (ys.map .dat) xs)) hw ⟨_, upd_same, SlA.putSl hvs hus.sl i j⟩
        have gr := g.trans (Gr.write (D := D4) (H := H4) (o := .lst (putSl i j us vs)) (u' := .lst (putSl i j (ys.map .dat) xs)) hw)
        exact eo.nx ρ _ σ D4 _ hn gr (rp.next gr.dd st')⟩⟩⟩⟩
end
end DL

set_option Elab.async false
set_option linter.all false
set_option maxRecDepth 100000
set_option maxHeartbeats 4000000
/-! DL19: sorted(d.items()), d a dict with texts for keys -/
namespace DL
open PySem PySem.Spec PyProof.Rows L2
abbrev Ent := Str × V × PyData
def encE (b : Ent) : PyData := .tuple [.str b.1, b.2.2]
section
variable {X : Cx}
def rItemsK : V → List V → Hp → VK → Prop := fun x xs H Q => ∃ (a : Addr) (kvs : List (Key × V)), x = .ref a ∧ xs = [] ∧ H a = some (.dK kvs) ∧ ∀ p, H p = none → Q (.ref p) (upd H p (DX.itemsO p a))
theorem mt_itemsK : MtR X "dict.items" rItemsK := by
  intro pins s σ H x xs v us Q I rx rxs h
  obtain ⟨a, kvs, rfl, rfl, ha, q⟩ := h
  cases rx
  cases rxs
  obtain ⟨_, hd, vs, rel, o, es, ep, ho, hx, hdat, _⟩ := dk_of I.hok ha
  exact DT.callItems (es := es) (ep := ep) hd ⟨o, ho, hx, hdat⟩ ⟨.ref s.heap.objs.size, upd H s.heap.objs.size (DX.itemsO s.heap.objs.size a), I.laid (t' := s.toks) (fun b u e => Heap.get?_push_of_some _ e) (Nat.le_refl _) (DX.itemsO_ok (Heap.get?_push_size _ rfl)), rfl, q _ (I.hok.fresh (Nat.le_refl _))⟩
theorem ents {P : Program} {w : World} : ∀ {l : List DictEntry} {vs : List (Key × Value)} {bs : List Ent}, Pairs (mixKind P w) l vs → KV (bs.map fun b => ((Sum.inr b.1 : Key), b.2.1)) vs → ∀ (j : Nat) (en : DictEntry), l[j]? = some en → ∃ e, bs[j]? = some e ∧ (∃ t, en.key = .str e.1 t) ∧ RelV e.2.1 en.val
  | _, _, [], .nil, _, j, en, h => by simp at h
  | _, _, b :: bs, .cons k1 k2 r, .cons q t, 0, en, h => by
    simp at h
    subst h
    obtain ⟨q1, q2⟩ := q
    refine ⟨b, rfl, ?_, by rw [k2]; exact q2⟩
    rename_i en0 kv0 _ _
    have k1 : keyIs (Sum.inr b.1) en0.key = true := by
      have k1' : keyIs kv0.1 en0.key = true := k1
      rw [← q1] at k1'
      exact k1'
    rcases keyIs_shape k1 with ⟨i, t, e1, e2⟩ | ⟨z, t, e1, e2⟩
    · cases e1
    · cases e1; exact ⟨t, e2⟩
  | _, _, b :: bs, .cons _ _ r, .cons _ t, j + 1, en, h => by
    obtain ⟨e, h1, h2⟩ := ents r t j en (by simpa using h)
    exact ⟨e, by simpa using h1, h2⟩
  | _, _, [], .cons _ _ _, h, _, _, _ => by cases h
  | _, _, _ :: _, .nil, h, _, _, _ => by cases h
theorem each_at {α β : Type} {R : α → β → Prop} : ∀ {as : List α} {bs : List β}, as.length = bs.length → (∀ (j : Nat) a b, as[j]? = some a → bs[j]? = some b → R a b) → PySem.W.EachIs R as bs
  | [], [], _, _ => .nil
  | a :: as, b :: bs, h, f => .cons (f 0 a b rfl rfl) (each_at (by simpa using h) fun j x y h1 h2 => f (j + 1) x y (by simpa using h1) (by simpa using h2))
  | [], _ :: _, h, _ => absurd h (by simp)
  | _ :: _, [], h, _ => absurd h (by simp)
theorem each_zs {as' : List Value} {bs : List Ent} {R : Addr → Ent → Prop} (h : PySem.W.EachIs (fun v b => ∃ a, v = Value.ref a ∧ R a b) as' bs) : ∃ zs : List (Addr × Ent), zs.map (·.2) = bs ∧ as' = zs.map (fun z => Value.ref z.1) ∧ ∀ z ∈ zs, R z.1 z.2 := by
  induction h with
  | nil => exact ⟨[], rfl, rfl, fun z hz => (by cases hz)⟩
  | cons q _ ih =>
    obtain ⟨a, rfl, hr⟩ := q
    obtain ⟨zs, rfl, rfl, h⟩ := ih
    refine ⟨(a, _) :: zs, rfl, rfl, fun z hz => ?_⟩
    rcases List.mem_cons.mp hz with rfl | hz
    · exact hr
    · exact h z hz
/-- tuples already laid, with no dict of their own, are known to their objects -/
theorem takeF {pins : List (Addr × Obj)} {σ : L2.St} {H0 : Hp} {s : Shared} {h' : Heap} {tk : Nat} {P : Addr → List V → Prop} (I0 : Inv X pins σ H0 s) : ∀ (as : List Addr) (H1 : Hp), Inv X pins σ H1 { s with heap := h', toks := tk } → as.Nodup →
    (∀ a ∈ as, s.heap.objs.size ≤ a ∧ H1 a = none ∧ ∃ (o : Obj) (vs : List V), P a vs ∧ o.dict = none ∧ h'.get? a = some o ∧ ∀ H2, ObjOk X.prog X.w H2 h' a (.tup vs)) →
    ∃ H2, Inv X pins σ H2 { s with heap := h', toks := tk } ∧ (∀ b o, H1 b = some o → H2 b = some o) ∧ ∀ a ∈ as, ∃ (o : Obj) (vs : List V), P a vs ∧ o.dict = none ∧ H2 a = some (.frz o (.tup vs))
  | [], H1, I1, _, _ => ⟨H1, I1, fun _ _ e => e, fun _ h => (by cases h)⟩
  | x :: as, H1, I1, hn, h => by
    obtain ⟨h1, h2, o, vs, h3, h4, h5, h6⟩ := h x List.mem_cons_self
    obtain ⟨n1, n2⟩ := List.nodup_cons.mp hn
    have J : Inv X pins σ (upd H1 x (.frz o (.tup vs))) { s with heap := h', toks := tk } := I1.take (h' := h') (t' := tk) (fun _ _ _ e => e) (I0.fpOk h1 h2) ⟨h5, h6 _⟩
    obtain ⟨H2, J2, g, k⟩ := takeF I0 as _ J n2 fun c hc => by
      obtain ⟨c1, c2, c3⟩ := h c (List.mem_cons_of_mem _ hc)
      have hcx : c ≠ x := fun e => n1 (by rw [← e]; exact hc)
      exact ⟨c1, by rw [upd_ne hcx]; exact c2, c3⟩
    refine ⟨H2, J2, fun b u e => g b u (by rw [upd_ne (ne_of_none e h2)]; exact e), fun c hc => ?_⟩
    rcases List.mem_cons.mp hc with rfl | hc
    · exact ⟨o, vs, h3, h4, g _ _ upd_same⟩
    · exact k c hc
def rSortItK (X : Cx) : List V → Hp → VK → Prop := fun vs H Q => ∃ (p a : Addr) (bs : List Ent), vs = [.ref p] ∧ H p = some (DX.itemsO p a) ∧ H a = some (.dK (bs.map fun b => (.inr b.1, b.2.1))) ∧ (∀ b ∈ bs, ∀ H' : Hp, (∀ c o, H c = some o → H' c = some o) → Dp X.K H' b.2.1 b.2.2) ∧ PySem.W.AllAlike (bs.map encE) ∧ (∀ b ∈ bs, (encE b).depth ≤ 60) ∧
  ∀ (H' : Hp) (l : Addr) (zs : List (Addr × Ent)), (∀ b o, H b = some o → H' b = some o) → zs.map (·.2) = bs.mergeSort (PySem.W.dataLe false encE) → H l = none → H' l = some (.lst (zs.map fun z => V.ref z.1)) →
    (∀ z ∈ zs, H z.1 = none ∧ z.1 ≠ l ∧ ∃ o : Obj, o.dict = none ∧ H' z.1 = some (.frz o (.tup [.str z.2.1, z.2.2.1]))) → Q (.ref l) H'
theorem cr_sortItK (hc : X.calm = true) (hu : X.A.units + 64 < cLine) : CallR X (.builtin "sorted") (rSortItK X) := by
  intro pins s σ H xs us Q I r h
  obtain ⟨p, a, bs, rfl, hp, ha, hdp, hal, hdep, q⟩ := h
  obtain rfl := Vals.ref1 r
  have view : s.heap.IsItemsView p a := (show ObjOk X.prog X.w H s.heap p (DX.itemsO p a) from I.hok p _ hp).1
  obtain ⟨z, hd, vs, rel, o, es, ep, ho, hx, hdat, _, hprs, hn⟩ := dk_of I.hok ha
  have l0 : (bs.map fun b => ((Sum.inr b.1 : Key), b.2.1)).length = vs.length := Paired.length rel
  rw [List.length_map] at l0 z
  have l1 : es.size = bs.length := by rw [← Array.length_toList, hprs.length, l0]
  refine DT.sortedI (es := es) (ep := ep) (I.ok.hd hc) view ⟨o, ho, hx, hdat⟩ (by rw [l1]; exact z) fun h' tk as hk hlt hl hG => ?_
  have lab : as.length = bs.length := hl.trans l1
  have nd : as.Nodup := hG.rise.imp fun h => Nat.ne_of_lt h
  have pr : ∀ (j : Nat) (b : Addr), as[j]? = some b → ∃ (e : Ent) (t : Tok) (u : Value), bs[j]? = some e ∧ RelV e.2.1 u ∧ h'.get? b = some { cls := .type "tuple", data := .seq #[.str e.1 t, u] } := by
    intro j b hj
    obtain ⟨en, he, hg⟩ := hG.pairs j b hj
    obtain ⟨e, e1, ⟨t, e2⟩, e3⟩ := ents hprs rel j en (by rw [Array.getElem?_toList]; exact he)
    rw [e2] at hg
    exact ⟨e, t, en.val, e1, e3, hg⟩
  have big : ∀ b ∈ as, s.heap.objs.size ≤ b ∧ b < h'.objs.size := fun b hb => ⟨Nat.le_of_lt (hG.above b hb), hG.there hb⟩
  -- the pairs, tracked where they were made
  obtain ⟨H3, I3, g3, t3⟩ := DX.takeT (tk := tk) (h' := h') (P := fun b vs => ∃ (j : Nat) (e : Ent), as[j]? = some b ∧ bs[j]? = some e ∧ vs = [.str e.1, e.2.1]) I as H (I.kept (t' := tk) hk) nd fun b hb => by
    obtain ⟨j, hj⟩ := List.mem_iff_getElem?.mp hb
    obtain ⟨e, t, u, e1, e2, e3⟩ := pr j b hj
    exact ⟨(big b hb).1, I.hok.fresh (big b hb).1, [.str e.1, e.2.1], ⟨j, e, hj, e1, rfl⟩, fun H2 => ⟨by show 2 ≤ sizeLine; decide, [.str e.1 t, u], .cons ⟨t, rfl⟩ (.cons e2 .nil), ⟨_, e3, rfl, 0, rfl⟩⟩⟩
  generalize hh2 : h'.push { cls := .type "list", data := .seq (as.map Value.ref).toArray } = h2
  have hob : h2.get? h'.objs.size = some (seqObj "list" (as.map Value.ref).toArray 0) := by rw [← hh2]; exact Heap.get?_push_size _ rfl
  have k2 : ∀ b o, h'.get? b = some o → h2.get? b = some o := fun b o e => by rw [← hh2]; exact Heap.get?_push_of_some _ e
  have ne2 : ∀ b o, h'.get? b = some o → b ≠ h'.objs.size := fun b o e => Nat.ne_of_lt (Heap.lt_size e)
  have er : PySem.W.EachIs (fun v b => ∃ as', Reads (PySem.W.sortingHeap h2 h'.objs.size (as.map Value.ref)) v (encE b) as') (as.map Value.ref) bs := each_at (by rw [List.length_map, lab]) fun j v b hv hb => by
    rw [List.getElem?_map] at hv
    cases hj : as[j]? with
    | none => rw [hj] at hv; cases hv
    | some x =>
      rw [hj] at hv
      cases hv
      obtain ⟨ws, ⟨j', e, e1, e2, e3⟩, e4⟩ := t3 x (List.mem_of_getElem? hj)
      have ej : j' = j := (List.getElem?_inj (List.getElem?_eq_some_iff.mp e1).1 nd).mp (e1.trans hj.symm)
      subst ej
      have ee : e = b := Option.some.inj (e2.symm.trans hb)
      subst ee e3
      have hD : Dp X.K H3 (.ref x) (encE e) := .tup (SqT.of e4) (.cons (.str e.1) (.cons (hdp e (List.mem_of_getElem? e2) H3 g3) .nil))
      obtain ⟨fp, rd⟩ := Dp.reads I3 (encE e) (.ref x) (.ref x) hD rfl
      exact ⟨fp, PyProof.Rows.Reads.keeps (fun b o q => PySem.W.sortingHeap_old (ne2 b o q) (k2 b o q)) rd⟩
  have eR : PySem.W.EachIs (fun v b => ∃ x, v = Value.ref x ∧ ∃ j : Nat, as[j]? = some x ∧ bs[j]? = some b) (as.map Value.ref) bs := each_at (by rw [List.length_map, lab]) fun j v b hv hb => by
    rw [List.getElem?_map] at hv
    cases hj : as[j]? with
    | none => rw [hj] at hv; cases hv
    | some x =>
      rw [hj] at hv
      cases hv
      exact ⟨x, rfl, j, hj, hb⟩
  refine wpAny_call_entry slot_list_sort ⟨_, hob, rfl⟩ entry_list_sort (PySem.W.list_sort_vals (s := { s with heap := h2, toks := tk }) (κ := PySem.W.dataKind (PySem.W.sortingHeap h2 h'.objs.size (as.map Value.ref)) (bs.map encE)) hob
    (PySem.W.SortsAt.data (s := { s with heap := PySem.W.sortingHeap h2 h'.objs.size (as.map Value.ref), toks := tk }) (PySem.W.each_map (R := fun v d => ∃ as', Reads (PySem.W.sortingHeap h2 h'.objs.size (as.map Value.ref)) v d as') encE er) hal (PySem.W.Sortable.tuples fun b => ⟨_, _, rfl⟩) (PySem.W.bound_map fun b hb => ?_)) (by rw [List.length_map, lab]; exact z) ⟨.none, rfl, ?_⟩) (args_list_sort _)
  · have := hdep b hb
    show X.A.units + 1 + 1 + _ < cLine
    omega
  obtain ⟨zs, ez, eo, hz⟩ := each_zs (PySem.W.sortVals_data false eR er hal)
  generalize (PySem.W.sortVals (PySem.W.dataKind (PySem.W.sortingHeap h2 h'.objs.size (as.map Value.ref)) (bs.map encE)) false (as.map Value.ref) (as.map Value.ref)) = out at eo
  subst eo
  have kF : ∀ b o, h'.get? b = some o → (sortedHeap h2 h'.objs.size (as.map Value.ref) (zs.map fun z => Value.ref z.1).toArray).get? b = some o := fun b o e => (sortedHeap_old (ne2 b o e) (Heap.lt_size (k2 b o e))).trans (k2 b o e)
  obtain ⟨eF, heF⟩ := sortedHeap_at (vs := as.map Value.ref) (out := (zs.map fun z => Value.ref z.1).toArray) hob
  have zl : zs.length = bs.length := by
    have := congrArg List.length ez
    rw [List.length_map, List.length_mergeSort] at this
    exact this
  have hn0 : H h'.objs.size = none := I.hok.fresh (Nat.le_of_lt hlt)
  have I1 : Inv X pins σ H { s with heap := sortedHeap h2 h'.objs.size (as.map Value.ref) (zs.map fun z => Value.ref z.1).toArray, toks := tk } := I.kept (t' := tk) fun b o e => kF b o (hk b o e)
  have rv : Vals (zs.map fun z => V.ref z.1) (zs.map fun z => Value.ref z.1) := vals_maps (fun z : Addr × Ent => V.ref z.1) (fun z => Value.ref z.1) zs fun _ _ => rfl
  have I2 : Inv X pins σ (upd H h'.objs.size (.lst (zs.map fun z => V.ref z.1))) { s with heap := sortedHeap h2 h'.objs.size (as.map Value.ref) (zs.map fun z => Value.ref z.1).toArray, toks := tk } :=
    I1.take (h' := sortedHeap h2 h'.objs.size (as.map Value.ref) (zs.map fun z => Value.ref z.1).toArray) (t' := tk) (fun b ob _ e => e) (I.fpOk (Nat.le_of_lt hlt) hn0) (show ObjOk X.prog X.w _ _ _ (.lst (zs.map fun z => V.ref z.1)) from ⟨by rw [List.length_map, zl]; exact z, zs.map fun z => Value.ref z.1, eF, rv, heF⟩)
  obtain ⟨H4, I4, g4, t4⟩ := takeF (tk := tk) (P := fun b vs => ∃ (j : Nat) (e : Ent), as[j]? = some b ∧ bs[j]? = some e ∧ vs = [.str e.1, e.2.1]) I as _ I2 nd fun b hb => by
    obtain ⟨j, hj⟩ := List.mem_iff_getElem?.mp hb
    obtain ⟨e, t, u, e1, e2, e3⟩ := pr j b hj
    refine ⟨(big b hb).1, ?_, _, [.str e.1, e.2.1], ⟨j, e, hj, e1, rfl⟩, rfl, kF _ _ e3, fun H2 => ⟨by show 2 ≤ sizeLine; decide, [.str e.1 t, u], .cons ⟨t, rfl⟩ (.cons e2 .nil), ⟨_, kF _ _ e3, rfl, 0, rfl⟩⟩⟩
    rw [upd_ne (ne2 _ _ e3)]
    exact I.hok.fresh (big b hb).1
  refine ⟨.ref h'.objs.size, H4, I4, rfl, q H4 h'.objs.size zs (fun b o e => g4 b o (by rw [upd_ne (ne_of_none e hn0)]; exact e)) ez hn0 (g4 _ _ upd_same) fun z' hz' => ?_⟩
  obtain ⟨i, i1, i2⟩ := hz z' hz'
  have m1 := List.mem_of_getElem? i1
  refine ⟨I.hok.fresh (big _ m1).1, Nat.ne_of_lt (big _ m1).2, ?_⟩
  obtain ⟨o', ws, ⟨j, e, e1, e2, rfl⟩, e3, e4⟩ := t4 z'.1 m1
  have ej : i = j := (List.getElem?_inj (List.getElem?_eq_some_iff.mp i1).1 nd).mp (i1.trans e1.symm)
  subst ej
  have ee : e = z'.2 := Option.some.inj (e2.symm.trans i2)
  rw [ee] at e4
  exact ⟨o', e3, e4⟩
end
end DL

set_option Elab.async false
set_option linter.all false
set_option maxRecDepth 100000
set_option maxHeartbeats 4000000
/-! DL20: sorted(d.items()) of the store -/
namespace DL
open PySem PySem.Spec PyProof.Rows L2
section
variable {X : Cx} {W : WX} {Z : DX} {K : PySem.W.Frag} {a b c e e2 : Expr} {ta tb te : DTE} {pos p p2 pos2 apos : Pos} {es : List Expr} {tr : DTA}
theorem str_le {x y : Str} (h : (!PySem.W.dataLt (.str y) (.str x)) = true) : LeT x y := by
  have e := congrFun (congrFun (PySem.W.dataLe_str (fun b : Str => b)) x) y
  rw [PySem.W.dataLe_eq] at e
  have e' : (!PySem.W.dataLt (.str y) (.str x)) = decide (x.cps.toList ≤ y.cps.toList) := e
  rw [e'] at h
  exact List.not_lt.mpr (of_decide_eq_true h)
theorem rows_le {a b : Ent} (hal : PySem.W.alike a.2.2 b.2.2 = true) (h : PySem.W.dataLe false encE a b = true) : LeT a.1 b.1 := by
  rw [PySem.W.dataLe_eq] at h
  have h : (!PySem.W.dataLt (encE b) (encE a)) = true := h
  have al2 : PySem.W.alike b.2.2 a.2.2 = true := by rw [PySem.W.alike_comm]; exact hal
  rw [show PySem.W.dataLt (encE b) (encE a) = _ from PySem.W.dataLt_pair (x := .str b.1) (x' := .str a.1) (by simp [PySem.W.alike]) al2] at h
  intro q
  have hne : PyData.eqv (.str b.1) (.str a.1) = false := by
    cases hq : PyData.eqv (.str b.1) (.str a.1) with
    | false => rfl
    | true =>
      have : b.1 = a.1 := by simpa [PyData.eqv] using hq
      rw [this] at q
      exact absurd q (List.lt_irrefl _)
  rw [hne] at h
  exact str_le (by simpa using h) q
abbrev rowP (p : Str × PyData) : PyData := .tuple [.str p.1, p.2]
abbrev kvS (xs : List (Str × PyData)) : List (Key × Sl) := xs.map fun p => (.inr p.1, .dat p.2)
/-- the entries of a dict of the store as they stand -/
theorem ents_of {D : Hp} : ∀ {xs : List (Str × PyData)} {ks : List (Key × V)}, KvA K D ks (kvS xs) → ∃ bs : List Ent, ks = bs.map (fun b => (.inr b.1, b.2.1)) ∧ bs.map (fun b => (b.1, b.2.2)) = xs ∧ ∀ b ∈ bs, Dr K D b.2.1 b.2.2
  | [], _, .nil => ⟨[], rfl, rfl, fun b hb => (by cases hb)⟩
  | x :: xs, _, .cons (a := (g, v)) ⟨h1, h2⟩ r => by
    obtain ⟨bs, rfl, rfl, h⟩ := ents_of r
    cases h1
    refine ⟨(x.1, v, x.2) :: bs, rfl, rfl, fun b hb => ?_⟩
    rcases List.mem_cons.mp hb with rfl | hb
    · exact h2
    · exact h b hb
/-- new tuples as data, a new list of them of the store -/
theorem rows_new {w : Om} {D H H' : Hp} {l : Addr} {zs : List (Addr × Ent)} (st : StOk K w D H) (keep : ∀ b o, H b = some o → H' b = some o) (hl : H l = none) (hl' : H' l = some (.lst (zs.map fun z => V.ref z.1))) (hz : ∀ z ∈ zs, H z.1 = none ∧ z.1 ≠ l ∧ ∃ o : Obj, o.dict = none ∧ H' z.1 = some (.frz o (.tup [.str z.2.1, z.2.2.1]))) (hd : ∀ z ∈ zs, Dr K D z.2.2.1 z.2.2.2) :
    ∃ D', Gr w D H (put w l (.lst (zs.map fun z => .dat (encE z.2)))) D' H' ∧ StOk K (put w l (.lst (zs.map fun z => .dat (encE z.2)))) D' H' := by
  have sd : Same D (fun b => if b ∈ zs.map (·.1) then H' b else D b) := fun b o e => by
    show (if b ∈ zs.map (·.1) then H' b else D b) = some o
    rw [if_neg]
    · exact e
    · intro hb
      obtain ⟨z, hz', rfl⟩ := List.mem_map.mp hb
      have := st.dh _ _ e
      rw [(hz z hz').1] at this
      cases this
  have ml : l ∉ zs.map (·.1) := fun hb => by
    obtain ⟨z, hz', e⟩ := List.mem_map.mp hb
    exact (hz z hz').2.1 e
  have mh : ∀ b, H b ≠ none → b ∉ zs.map (·.1) := fun b hb hm => by
    obtain ⟨z, hz', rfl⟩ := List.mem_map.mp hm
    exact hb (hz z hz').1
  refine ⟨fun b => if b ∈ zs.map (·.1) then H' b else D b, ⟨sd, fun b o e _ => keep b o e, fun b h n => ?_, fun b h n d => ?_, fun b h => ?_⟩, ⟨fun b o e => ?_, fun b o e => ?_, fun b o e => ?_⟩⟩
  · rw [put_ne (fun e => h (by rw [e]; exact hl))]; exact n
  · show (if b ∈ zs.map (·.1) then H' b else D b) = none
    rw [if_neg (mh b h)]; exact d
  · cases e : H b with
    | none => exact absurd e h
    | some o => rw [keep b o e]; intro z; cases z
  · show H' b = some o
    have e : (if b ∈ zs.map (·.1) then H' b else D b) = some o := e
    split at e
    · exact e
    · exact keep b o (st.dh b o e)
  · by_cases q : b = l
    · subst q
      rw [put_same] at e
      cases e
      refine ⟨_, hl', ?_⟩
      clear hl'
      have aux : ∀ ys : List (Addr × Ent), (∀ z ∈ ys, z ∈ zs) → SlA K (fun b => if b ∈ zs.map (·.1) then H' b else D b) (ys.map fun z => V.ref z.1) (ys.map fun z => .dat (encE z.2)) := by
        intro ys hs
        induction ys with
        | nil => exact .nil
        | cons z ys ih =>
          have hm := hs z List.mem_cons_self
          refine .cons ?_ (ih fun y hy => hs y (List.mem_cons_of_mem _ hy))
          obtain ⟨o1, o2, o3⟩ := (hz z hm).2.2
          refine .tup (.inl ⟨o1, o2, ?_⟩) (.cons (.str z.2.1) (.cons (Dr.mono sd (hd z hm)) .nil))
          show (if z.1 ∈ zs.map (·.1) then H' z.1 else D z.1) = _
          rw [if_pos (List.mem_map.mpr ⟨z, hm, rfl⟩)]
          exact o3
      exact aux zs fun _ h => h
    · rw [put_ne q] at e
      exact (st.own b o e).mono sd fun u hu => keep b u hu
  · by_cases q : b = l
    · subst q
      show (if b ∈ zs.map (·.1) then H' b else D b) = none
      rw [if_neg ml]
      exact st.freeD hl
    · rw [put_ne q] at e
      show (if b ∈ zs.map (·.1) then H' b else D b) = none
      rw [if_neg (mh b (st.there e))]
      exact st.sep b o e
/-- sorted(e.items()), e a dict of the store -/
def dSortItems (te : DTE) : DTE := fun ρ w R => te ρ w fun s w1 => ∃ (q : Addr) (xs : List (Str × PyData)), s = .adr q ∧ w1 q = some (.dic (kvS xs)) ∧ (xs.map (·.1)).Nodup ∧ (∀ p ∈ xs, p.2.canLay0 = true ∧ p.2.depth ≤ 50) ∧ (∀ p ∈ xs, ∀ r ∈ xs, PySem.W.alike p.2 r.2 = true) ∧
  ∀ (ys : List (Str × PyData)) (l : Addr), ys.Perm xs → (ys.map (·.1)).Pairwise LtT → w1 l = none → R (.adr l) (put w1 l (.lst (ys.map fun p => .dat (rowP p))))
theorem de_sortItems (hc : X.calm = true) (hu : X.A.units + 64 < cLine) (hg1 : Gl X "sorted") (hm1 : X.mg "sorted" = none) (he : DE X W Z e te)
    (hs : starEach [.Call (.Attribute e "items" apos) [] [] pos2] X.env = (false, eval (.Call (.Attribute e "items" apos) [] [] pos2) X.env) :: starEach [] X.env := by rfl) (hpl : (backTo pos (starEach [] X.env)).any (·.1) = false := by rfl)
    (hbase : attributeBase e "items" X.env (eval e X.env) = eval e X.env := by rfl) (hline : (apos.endLine == pos2.line) = true := by rfl) :
    DE X W Z (.Call (.Name "sorted" p) [.Call (.Attribute e "items" apos) [] [] pos2] [] pos) (dSortItems te) :=
  pe_weak (pe_callB (cr_sortItK hc hu) hg1 hm1 (by decide +kernel) (pa_cons (pe_bm0 PySem.F.plainAttrs_dict PySem.F.slot_dict_items PySem.F.type_dict_items mt_itemsK he hbase hline) pa_nil hs) (by decide) (by decide) hs hpl)
    fun σ H Q ⟨ρ, w, D, R, rp, xo, h, f⟩ => ⟨ρ, w, D, _, rp, xo, h, fun s w1 v D1 H1 h1 g1 s1 r1 => by
      obtain ⟨q, xs, rfl, hw, hn, hlay, hal, h1⟩ := h1
      obtain ⟨ks, hH, hv⟩ := s1.own q _ hw
      have r1' : v = .ref q := r1
      subst r1'
      obtain ⟨bs, rfl, rfl, hdr⟩ := ents_of hv
      refine ⟨.inr (.inr (.inl ⟨rfl, .inl ⟨_, hH⟩⟩)), q, _, rfl, rfl, hH, fun iv hiv => ⟨iv, q, bs, rfl, upd_same, by rw [upd_ne (ne_of_none hH hiv)]; exact hH, fun b hb H' k => ?_, ?_, fun b hb => ?_, fun H' l zs keep hzs hl hl' hz => ?_⟩⟩
      · have := hlay _ (List.mem_map.mpr ⟨b, hb, rfl⟩)
        exact Dr.dp (fun c o e => k c o (by rw [upd_ne (ne_of_none (s1.dh c o e) hiv)]; exact s1.dh c o e)) (hdr b hb) this.1
      · intro d hd d' hd'
        obtain ⟨b, hb, rfl⟩ := List.mem_map.mp hd
        obtain ⟨b', hb', rfl⟩ := List.mem_map.mp hd'
        have := hal _ (List.mem_map.mpr ⟨b, hb, rfl⟩) _ (List.mem_map.mpr ⟨b', hb', rfl⟩)
        have this : PySem.W.alike b.2.2 b'.2.2 = true := this
        simp [encE, PySem.W.alike, PySem.W.alikeAll, this]
      · have := (hlay _ (List.mem_map.mpr ⟨b, hb, rfl⟩)).2
        have this : b.2.2.depth ≤ 50 := this
        simp only [encE, PyData.depth, PyData.depthAll]
        omega
      · have pm : (zs.map (·.2)).Perm bs := by rw [hzs]; exact List.mergeSort_perm ..
        have s2 : StOk X.K w1 D1 (upd H1 iv (DX.itemsO iv q)) := s1.junk (s1.freeW hiv) (s1.freeD hiv)
        have g2 : Gr w1 D1 H1 w1 D1 (upd H1 iv (DX.itemsO iv q)) := (Gr.refl w1 D1 H1).junk hiv
        obtain ⟨D', g3, s3⟩ := rows_new s2 keep hl hl' hz fun z hz' => hdr z.2 (pm.mem_iff.mp (List.mem_map.mpr ⟨z, hz', rfl⟩))
        have pw : (zs.map (·.2)).Pairwise (fun a b => LeT a.1 b.1) := by
          rw [hzs]
          refine List.Pairwise.imp_of_mem (fun {x y} hx hy h => ?_) (PySem.W.sort_pairwise (PySem.W.sortLe_total _ false _) bs)
          have mx : x ∈ bs := (List.mergeSort_perm ..).mem_iff.mp hx
          have my : y ∈ bs := (List.mergeSort_perm ..).mem_iff.mp hy
          exact rows_le (hal _ (List.mem_map.mpr ⟨x, mx, rfl⟩) _ (List.mem_map.mpr ⟨y, my, rfl⟩)) h
        have hp2 : ((zs.map (·.2)).map fun b => (b.1, b.2.2)).Perm (bs.map fun b => (b.1, b.2.2)) := pm.map _
        have el : (zs.map fun z => Sl.dat (encE z.2)) = ((zs.map (·.2)).map fun b => (b.1, b.2.2)).map fun p => .dat (rowP p) := by rw [List.map_map, List.map_map]; rfl
        rw [el] at g3 s3
        refine (f.next (g1.trans g2)) (.adr l) _ (.ref l) D' H' (h1 _ l hp2 ?_ (s2.freeW hl)) g3 s3 rfl
        rw [List.map_map]
        have e3 : ((fun p : Str × PyData => p.1) ∘ fun b : Ent => (b.1, b.2.2)) = fun b => b.1 := rfl
        rw [e3]
        refine DS.lt_of_nodup (List.pairwise_map.mpr pw) ?_
        have := (hp2.map (·.1)).nodup_iff.mpr hn
        rw [List.map_map] at this
        exact this⟩
end
end DL

set_option Elab.async false
set_option linter.all false
set_option maxRecDepth 100000
set_option maxHeartbeats 4000000
/-! DL21: dict(tuple of pairs) -/
namespace DL
open PySem PySem.Spec PyProof.Rows L2
section
variable {X : Cx} {W : WX} {Z : DX} {K : PySem.W.Frag} {a b c e e2 : Expr} {ta tb te : DTE} {pos p p2 pos2 apos : Pos} {es : List Expr} {tr : DTA}
theorem plain_seq {pins : List (Addr × Obj)} {σ : L2.St} {H : Hp} {s : Shared} {a : Addr} {xs : List V} (I : Inv X pins σ H s) (h : PlT X.K H a xs) : ∃ its : List Value, Vals xs its ∧ PlainSeq "tuple" s.heap a its.toArray ∧ xs.length ≤ sizeLine := by
  rcases h with ⟨o, h0, h⟩ | ⟨o, its, n, h1, h2, h0, h3, h4, h5⟩
  · obtain ⟨g, z, its, r, o', g', c, n, d⟩ := (show ObjOk X.prog X.w H s.heap a (.frz o (.tup xs)) from I.hok a _ h)
    have e : o' = o := Option.some.inj (g'.symm.trans g)
    subst e
    exact ⟨its, r, ⟨o', n, g, c, h0, d⟩, z⟩
  · refine ⟨its.toList, h5, ⟨o, n, ?_, h2, h0, by simpa using h3⟩, by rw [h5.length, Array.length_toList]; exact h4⟩
    exact I.kIn a o h1
theorem pairsU {pins : List (Addr × Obj)} {σ : L2.St} {H : Hp} {s : Shared} (I : Inv X pins σ H s) : ∀ {ps : List Addr} {kvs : List (Key × V)}, Paired (fun p kv => SqT X.K H p [kV kv.1, kv.2]) ps kvs →
    ∃ (prs : List (Key × Value)) (us : List (Value × Value)), KV kvs prs ∧ prs.length = ps.length ∧ us.length = ps.length ∧ ∀ (j : Nat) (k v : Value), us[j]? = some (k, v) → ∃ (b : Addr) (key : Key), ps[j]? = some b ∧ IsTup s.heap b #[k, v] ∧ prs[j]? = some (key, v) ∧ keyIs key k = true
  | _, _, .nil => ⟨[], [], .nil, rfl, rfl, fun j k v h => by simp at h⟩
  | _, _, .cons (a := q) (b := kv) h t => by
    obtain ⟨prs, us, r1, l1, l2, f⟩ := pairsU I t
    obtain ⟨its, rv, ht, _⟩ := I.tuple h
    obtain ⟨k0, v0, e0, rk, rvv⟩ := vals2 rv
    subst e0
    refine ⟨(kv.1, v0) :: prs, (k0, v0) :: us, .cons ⟨rfl, rvv⟩ r1, by simp [l1], by simp [l2], fun j k v e => ?_⟩
    cases j with
    | zero =>
      have e : (k0, v0) = (k, v) := Option.some.inj e
      cases e
      exact ⟨q, kv.1, rfl, ht, rfl, kV_is (P := X.prog) (w := X.w) rk⟩
    | succ j =>
      obtain ⟨b, key, e1, e2, e3, e4⟩ := f j k v (by simpa using e)
      exact ⟨b, key, by simpa using e1, e2, by simpa using e3, e4⟩
/-- dict(t) of a tuple of pairs -/
theorem call_dictT (hc : X.calm = true) : CallR X (.type "dict") (fun xs H Q => ∃ (a : Addr) (ps : List Addr) (kvs : List (Key × V)), xs = [.ref a] ∧ PlT X.K H a (ps.map V.ref) ∧ Paired (fun p kv => SqT X.K H p [kV kv.1, kv.2]) ps kvs ∧ ∀ p, H p = none → Q (.ref p) (upd H p (.dK (mergeK [] kvs)))) := by
  intro pins s σ H xs us Q I r ⟨a, ps, kvs, ex, hq, hp, q⟩
  subst ex
  obtain ⟨u, eu, rx⟩ := vals1 r
  subst eu
  cases rx
  obtain ⟨its, rv, pl, hz⟩ := plain_seq I hq
  have ei := refs_at rv
  subst ei
  rw [List.length_map] at hz
  obtain ⟨prs, ws, rel, l1, l2, f⟩ := pairsU I hp
  refine PySem.call_dict_pairs (knd := mixKind X.prog X.w) (kvs := prs) (PairArg.tuple a (ps.map Value.ref).toArray (fun j => (ps[j]?).getD 0) ws) (I.ok.hd hc) ⟨pl, ?_, fun j k v e => ?_⟩ ⟨by rw [l1, l2], fun i key v e => ?_⟩ (by rw [l2]; exact hz) fun h' tk hd' keep => ?_
  · rw [List.size_toArray, List.length_map, l2]
  · obtain ⟨b, key, e1, e2, _⟩ := f j k v e
    refine ⟨by simp [e1], ?_⟩
    show PairAt s.heap ((ps[j]?).getD 0) k v
    rw [e1]
    exact .inl e2
  · obtain ⟨b, k, e1, e2, e3, e4⟩ := f i key v e
    exact ⟨k, e3, e4⟩
  · have hm : (s.heap.objs.size == sysModules) = false := beq_eq_false_iff_ne.mpr (Nat.ne_of_gt I.big)
    have hlen : (mergeK [] kvs).length ≤ sizeLine := by
      have := length_mergeK kvs []
      rw [List.length_nil, Nat.zero_add, rel.length, l1] at this
      omega
    exact ⟨.ref s.heap.objs.size, upd H s.heap.objs.size (.dK (mergeK [] kvs)), I.laid (t' := tk) (fun b o e => keep b o (by simp) e) (Nat.le_refl _) (show ObjOk X.prog X.w _ _ _ (.dK (mergeK [] kvs)) from ⟨hlen, hm, merged [] prs, KV.merge rel .nil, hd'⟩), rfl, q _ (I.hok.fresh (Nat.le_refl _))⟩
def dDictT (te : DTE) : DTE := fun ρ w R => te ρ w fun s w1 => ∃ kvs : List (Key × PyData), s = .dat (.tuple (kvs.map fun q => .tuple [kD q.1, q.2])) ∧ ∀ p, w1 p = none → R (.adr p) (put w1 p (.dic (mergeA [] (kvs.map fun q => (q.1, .dat q.2)))))
theorem de_dictT (hc : X.calm = true) (hg : Gl X "dict") (hm : X.mg "dict" = none) (he : DE X W Z e te) (hs : starEach [e] X.env = (false, eval e X.env) :: starEach [] X.env := by rfl) (hpl : (backTo pos (starEach [] X.env)).any (·.1) = false := by rfl) :
    DE X W Z (.Call (.Name "dict" p) [e] [] pos) (dDictT te) :=
  pe_weak (pe_callTy (call_dictT hc) hg hm (by decide +kernel) (pa_cons he pa_nil hs) (by decide) (by decide) hs hpl)
    fun σ H Q ⟨ρ, w, D, R, rp, xo, h, f⟩ => ⟨ρ, w, D, _, rp, xo, h, fun s w1 v D1 H1 h1 g1 s1 r1 => by
      obtain ⟨kvs, rfl, h1⟩ := h1
      cases r1 with
      | @tup q vs _ hT hd =>
        obtain ⟨ps, ms, rfl, hp, hk⟩ := pairs_sl s1 (kvs := kvs) (vs := vs) (by
          have := hd.sl
          rw [List.map_map] at this
          exact this)
        refine ⟨q, ps, ms, rfl, hT.mono s1.dh, hp, fun x hx => ?_⟩
        exact (f.next g1) (.adr x) (put w1 x (.dic (mergeA [] (kvs.map fun q => (q.1, .dat q.2))))) (.ref x) D1 (upd H1 x (.dK (mergeK [] ms))) (h1 x (s1.freeW hx)) (Gr.newW s1 hx) (s1.newW hx ⟨_, upd_same, kva_merge hk .nil⟩) rfl⟩
end
end DL

set_option Elab.async false
set_option linter.all false
set_option maxRecDepth 100000
set_option maxHeartbeats 4000000
/-! DL22: max of two of one kind; pairs of numbers compared -/
namespace DL
open PySem PySem.Spec PyProof.Rows L2
section
variable {prog : Program} {w : World} {A : Around} {E : Value → Shared → Prop} {s : Shared}
open PySem.W in
theorem max_two_data {a b : Value} {d e : PyData} {as : List Addr} {Q : Value → Shared → Prop} (hh : A.handled = none) (hr : ReadsAll s.heap [a, b] [d, e] as) (ha : AlikeAll [d, e]) (hu : A.units + 1 + PyData.depthAll [d, e] < cLine)
    (h : ∀ h' tk, (∀ c o, s.heap.get? c = some o → h'.get? c = some o) → Q (if dataLt d e = true then b else a) { s with heap := h', toks := tk }) : wpAny (model prog w) A (call (.builtin "max") [a, b]) Q E s := by
  have nm : (toString "max" ++ toString ".loop" : String) = "max.loop" := by decide
  refine call_function_tree F.kind_max F.plain_max F.entry_max (F.args_max2 a b) (show wpAny _ A.in1 (Builtin.Builtins.bindParams "max" ["key", "default"] 0 ⟨[], []⟩ >>= _) _ _ s from wpAny_bind (wpAny_of_eq (a := [none, none]) rfl ?_))
  refine (show wpAny _ A.in1 (newTuple [a, b] >>= _) _ _ s from wpAny_bind (wpAny_newObj_type ?_))
  have k1 : ∀ c o, s.heap.get? c = some o → (s.heap.push { cls := .type "tuple", data := .seq #[a, b] }).get? c = some o := fun c o q => Heap.get?_push_of_some _ q
  have hT : (s.heap.push { cls := .type "tuple", data := .seq #[a, b] }).IsTuple s.heap.objs.size #[a, b] := ⟨_, Heap.get?_push_size _ rfl, rfl, 0, rfl⟩
  have hr1 : ReadsAll (s.heap.push { cls := .type "tuple", data := .seq #[a, b] }) (#[a, b] : Array Value).toList [d, e] as := PyProof.Rows.ReadsAll.keeps k1 hr
  refine wpAny_bind (iter_tupleW (A := A.in1) (s := { s with heap := s.heap.push { cls := .type "tuple", data := .seq #[a, b] } }) hh hT fun s2 e2 W st hfp hw hk => wpAny_bind (wpAny_newObj_type ?_))
  rw [nm]
  have hS : s2.heap.objs.size ∉ [(s.heap.push { cls := .type "tuple", data := .seq #[a, b] }).objs.size, s.heap.objs.size] := fun hm => Nat.lt_irrefl _ (hfp _ hm)
  refine wpAny_pure ⟨plainId_quiet F.plain_max_loop _, codeAny_max_loop_firstH W (s.heap.push { cls := .type "tuple", data := .seq #[a, b] }) hw _ (cmpIn_gt (s := { s with heap := s.heap.push { cls := .type "tuple", data := .seq #[a, b] } }) (A := A.in1) hr1 ha (by show A.units + 1 + _ < _; exact hu)) s2.heap.objs.size hS (fresh_in hk) _ (by show 0 < 2; decide) (fun b o q => Heap.get?_push_of_some _ (hk b o q))
    (W.frame 0 s2 _ s2.toks st (Nat.le_refl _) fun b _ o q => Heap.get?_push_of_some _ q) (Heap.get?_push_size _ rfl) fun v s' hP hm => ?_⟩
  obtain ⟨h', tk, rfl, hk'⟩ := moved_old e2 rfl (Moved.drop_new (tk := s2.toks) hm (Nat.le_refl _))
  have ev : v = if dataLt d e = true then b else a := by
    have hP : (#[a, b] : Array Value)[argBest (fun i j => dataLt ([d, e].getD j .none) ([d, e].getD i .none)) 1]? = some v := hP
    have e1 : argBest (fun i j => dataLt ([d, e].getD j .none) ([d, e].getD i .none)) 1 = if dataLt d e = true then 1 else 0 := rfl
    rw [e1] at hP
    split at hP <;> simp at hP <;> simp [*]
  rw [ev]
  exact h h' tk fun c o q => hk' c o (k1 c o q)
end
section
variable {X : Cx} {W : WX} {Z : DX} {K : PySem.W.Frag} {a b c e e2 : Expr} {ta tb te : DTE} {pos p p2 pos2 apos : Pos} {es : List Expr} {tr : DTA}
theorem call_max2D (hc : X.calm = true) (hu : X.A.units + 64 < cLine) : CallR X (.builtin "max") (fun xs H Q => ∃ (x y : V) (d e : PyData), xs = [x, y] ∧ Dp X.K H x d ∧ Dp X.K H y e ∧ PySem.W.AlikeAll [d, e] ∧ PyData.depthAll [d, e] ≤ 60 ∧ Q (if PySem.W.dataLt d e = true then y else x) H) := by
  intro pins s σ H xs us Q I r ⟨x, y, d, e, ex, hx, hy, hal, hd, q⟩
  subst ex
  obtain ⟨u, v, eu, r1, r2⟩ := vals2 r
  subst eu
  obtain ⟨as, k1⟩ := Dp.reads I d x u hx r1
  obtain ⟨bs, k2⟩ := Dp.reads I e y v hy r2
  refine max_two_data (I.ok.hd hc) (.cons k1 (.cons k2 .nil)) hal (by omega) fun h' tk k => ⟨_, H, I.kept k, ?_, q⟩
  split <;> assumption
/-- max of two numbers, of two pairs of numbers -/
def maxP : GN := fun _ ss => match ss with
  | [.dat (.int i), .dat (.int j)] => some (.v (.dat (.int (if j > i then j else i))))
  | [.dat (.tuple [.int i, .int j]), .dat (.tuple [.int k, .int l])] => some (.v (.dat (if decide (i < k ∨ (i = k ∧ j < l)) = true then .tuple [.int k, .int l] else .tuple [.int i, .int j])))
  | _ => none
theorem pair_dp {D H : Hp} {v : V} {i j : Int} (e : Same D H) (r : Dr K D v (.tuple [.int i, .int j])) : Dp K H v (.tuple [.int i, .int j]) := Dr.dp e r (by simp only [PyData.canLay0, PyData.canLayAll0, Bool.and_true])
theorem cv_maxP : CV K (fun xs H Q => (∃ i j, xs = [.int i, .int j] ∧ Q (.int (if j > i then j else i)) H) ∨ ∃ (x y : V) (d e : PyData), xs = [x, y] ∧ Dp K H x d ∧ Dp K H y e ∧ PySem.W.AlikeAll [d, e] ∧ PyData.depthAll [d, e] ≤ 60 ∧ Q (if PySem.W.dataLt d e = true then y else x) H) maxP := fun ss vs w D H o R Q st rv e ho f => by
  unfold maxP at e
  split at e
  · cases e
    obtain ⟨v, v', rfl, r1, r2⟩ := sla2 rv
    cases dr_int r1
    cases dr_int r2
    exact .inl ⟨_, _, rfl, f.d st ho (.int _)⟩
  · rename_i i j k l
    cases e
    obtain ⟨v, v', rfl, r1, r2⟩ := sla2 rv
    refine .inr ⟨v, v', _, _, rfl, pair_dp st.dh r1, pair_dp st.dh r2, ⟨fun x hx y hy => ?_, fun x hx => ?_⟩, by simp [PyData.depthAll, PyData.depth], ?_⟩
    · simp only [List.mem_cons, List.not_mem_nil, or_false] at hx hy
      rcases hx with rfl | rfl <;> rcases hy with rfl | rfl <;> simp [PySem.W.alike, PySem.W.alikeAll]
    · simp only [List.mem_cons, List.not_mem_nil, or_false] at hx
      rcases hx with rfl | rfl <;> (intro z; cases z)
    · rw [PySem.W.dataLt_ii]
      have ho' : R (.dat (if decide (i < k ∨ (i = k ∧ j < l)) = true then .tuple [.int k, .int l] else .tuple [.int i, .int j])) w := ho
      split at ho'
      · rename_i h; rw [if_pos h]; exact f.d st ho' r2
      · rename_i h; rw [if_neg h]; exact f.d st ho' r1
  · cases e
theorem de_maxP (hc : X.calm = true) (hu : X.A.units + 64 < cLine) (hg : Gl X "max") (hm : X.mg "max" = none) (ha : DA X W Z [a, b] tr) (hs : starEach [a, b] X.env = (false, eval a X.env) :: starEach [b] X.env := by rfl) (hpl : (backTo pos (starEach [b] X.env)).any (·.1) = false := by rfl) :
    DE X W Z (.Call (.Name "max" p) [a, b] [] pos) (dCB maxP tr) := de_callB (CallR.or (call_max2 hc) (call_max2D hc hu)) cv_maxP hg hm (by decide +kernel) ha (by decide) (by decide) hs hpl
/-- < of numbers, of pairs of numbers -/
def ltP : G2 := fun _ x y => match x, y with
  | .dat (.int i), .dat (.int j) => some (.v (.dat (.bool (decide (i < j)))))
  | .dat (.tuple [.int i, .int j]), .dat (.tuple [.int k, .int l]) => some (.v (.dat (.bool (decide (i < k ∨ (i = k ∧ j < l))))))
  | _, _ => none
theorem lex2 (i j k l : Int) : HT.lexLt [i, j] [k, l] = decide (i < k ∨ (i = k ∧ j < l)) := by
  unfold HT.lexLt
  by_cases h1 : i = k
  · subst h1
    simp [HT.lexLt]
    intro h e; omega
  · by_cases h2 : i < k <;> simp [HT.lexLt, h1, h2]
theorem pair_sq {w : Om} {D H : Hp} {v : V} {i j : Int} (st : StOk K w D H) (r : Dr K D v (.tuple [.int i, .int j])) : ∃ a, v = .ref a ∧ SqT K H a ([i, j].map V.int) := by
  obtain ⟨a, vs, rfl, hT, hd⟩ := tup_ok st r
  cases hd with
  | cons a1 r1 =>
    cases r1 with
    | cons a2 r2 =>
      cases r2
      cases dr_int a1
      cases dr_int a2
      exact ⟨a, rfl, hT⟩
theorem ov_ltP : OpV K (fun x y H Q => rI0 (fun i j => V.bl (decide (i < j))) x y H Q ∨ rLtT K x y H Q) ltP := fun x y v u w D H o R Q st rx ry e ho f => by
  unfold ltP at e
  split at e
  · cases e
    exact .inl ⟨_, _, dr_int rx, dr_int ry, f.d st ho (.bl _)⟩
  · cases e
    obtain ⟨a, rfl, h1⟩ := pair_sq st rx
    obtain ⟨b, rfl, h2⟩ := pair_sq st ry
    exact .inr ⟨a, b, _, _, rfl, rfl, h1, h2, by rw [lex2]; exact f.d st ho (.bl _)⟩
  · cases e
theorem de_ltP (hu : X.A.units + 64 < cLine) (ha : DE X W Z a ta) (hb : DE X W Z b tb) : DE X W Z (.Compare a [.Lt] [b] pos) (dOp ltP ta tb) := de_cmp (OpR.or op_lt (op_ltT (by omega))) ov_ltP ha hb (nomark _)
theorem dt_ltP (hu : X.A.units + 64 < cLine) (ha : DE X W Z a ta) (hb : DE X W Z b tb) : DT X W Z (.Compare a [.Lt] [b] pos) (dTst (dOp ltP ta tb)) := dt_cmp (OpR.or op_lt (op_ltT (by omega))) ov_ltP ha hb (nomark _)
end
end DL

set_option Elab.async false
set_option linter.all false
set_option maxRecDepth 100000
set_option maxHeartbeats 4000000
/-! JoiA: joins of worths, plainly -/
namespace G
open PySem PySem.Spec PyProof.Rows L2 DL
abbrev Tb := List (Str × PyData)
abbrev Srt (xs : Tb) : Prop := xs.Pairwise fun p q => LtT p.1 q.1
theorem ltT_irr {x : Str} (h : LtT x x) : False := List.lt_irrefl _ h
theorem ltT_tr {x y z : Str} (h : LtT x y) (h' : LtT y z) : LtT x z := List.lt_trans h h'
theorem ltT_or {x y : Str} (h : ¬ LtT x y) (hn : x ≠ y) : LtT y x := by
  rcases Nat.lt_or_ge 0 1 with _ | _
  · have := List.not_lt.mp h
    rcases List.le_iff_lt_or_eq.mp this with q | q
    · exact q
    · exact absurd (cp_inj q).symm hn
  · omega
theorem get_cons (p : Str × PyData) (r : Tb) (z : Str) : getX (p :: r) z = if p.1 = z then some p.2 else getX r z := by
  unfold getX
  rw [List.find?_cons]
  by_cases h : p.1 = z
  · rw [decide_eq_true h, if_pos h]; rfl
  · rw [decide_eq_false h, if_neg h]
theorem get_nil (z : Str) : getX [] z = none := rfl
theorem get_lt : ∀ {xs : Tb} {z : Str}, (∀ p ∈ xs, LtT z p.1) → getX xs z = none
  | [], _, _ => rfl
  | p :: r, z, h => by
    rw [get_cons, if_neg, get_lt fun q hq => h q (List.mem_cons_of_mem _ hq)]
    rintro rfl
    exact ltT_irr (h p List.mem_cons_self)
theorem tb_ext : ∀ {xs ys : Tb}, Srt xs → Srt ys → (∀ z, getX xs z = getX ys z) → xs = ys
  | [], [], _, _, _ => rfl
  | [], y :: ys, _, _, h => by have := h y.1; rw [get_cons, if_pos rfl] at this; cases this
  | x :: xs, [], _, _, h => by have := h x.1; rw [get_cons, if_pos rfl] at this; cases this
  | x :: xs, y :: ys, h1, h2, h => by
    obtain ⟨a1, a2⟩ := List.pairwise_cons.mp h1
    obtain ⟨b1, b2⟩ := List.pairwise_cons.mp h2
    have e : x.1 = y.1 := by
      by_cases e : x.1 = y.1
      · exact e
      by_cases l : LtT x.1 y.1
      · have := h x.1
        rw [get_cons, if_pos rfl, get_cons, if_neg (fun q => e q.symm), get_lt fun q hq => ltT_tr l (b1 q hq)] at this
        cases this
      · have l := ltT_or l e
        have := h y.1
        rw [get_cons, if_neg e, get_cons, if_pos rfl, get_lt fun q hq => ltT_tr l (a1 q hq)] at this
        cases this
    have e2 : x.2 = y.2 := by
      have := h x.1
      rw [get_cons, if_pos rfl, get_cons, if_pos e.symm] at this
      exact Option.some.inj this
    have e3 : x = y := Prod.ext e e2
    subst e3
    have : xs = ys := tb_ext a2 b2 fun z => by
      have := h z
      rw [get_cons, get_cons] at this
      by_cases hz : x.1 = z
      · rw [← hz, get_lt a1, get_lt b1]
      · rw [if_neg hz, if_neg hz] at this; exact this
    rw [this]
def oj (f : PyData → PyData → PyData) : Option PyData → Option PyData → Option PyData
  | some a, some b => some (f a b)
  | some a, none => some a
  | none, b => b
theorem oj_none {f : PyData → PyData → PyData} (a : Option PyData) : oj f a none = a := by cases a <;> rfl
def insF (f : PyData → PyData → PyData) : Tb → Str → PyData → Tb
  | [], z, e => [(z, e)]
  | p :: r, z, e => if p.1 = z then (p.1, f p.2 e) :: r else if LtT z p.1 then (z, e) :: p :: r else p :: insF f r z e
theorem ins_keys {f : PyData → PyData → PyData} {q : Str → Prop} : ∀ {xs : Tb} {z : Str} {e : PyData}, (∀ p ∈ xs, q p.1) → q z → ∀ p ∈ insF f xs z e, q p.1
  | [], z, e, _, hz, p, hp => by
    have hp : p ∈ [(z, e)] := hp
    rw [List.mem_singleton] at hp; rw [hp]; exact hz
  | x :: r, z, e, h, hz, p, hp => by
    unfold insF at hp
    split at hp
    · rcases List.mem_cons.mp hp with rfl | hp
      · exact h x List.mem_cons_self
      · exact h p (List.mem_cons_of_mem _ hp)
    · split at hp
      · rcases List.mem_cons.mp hp with rfl | hp
        · exact hz
        · exact h p hp
      · rcases List.mem_cons.mp hp with rfl | hp
        · exact h p List.mem_cons_self
        · exact ins_keys (fun y hy => h y (List.mem_cons_of_mem _ hy)) hz p hp
theorem ins_srt {f : PyData → PyData → PyData} : ∀ {xs : Tb} {z : Str} {e : PyData}, Srt xs → Srt (insF f xs z e)
  | [], z, e, _ => List.pairwise_singleton ..
  | x :: r, z, e, h => by
    obtain ⟨a1, a2⟩ := List.pairwise_cons.mp h
    unfold insF
    split
    · exact List.pairwise_cons.mpr ⟨a1, a2⟩
    · rename_i hn
      split
      · rename_i hl
        refine List.pairwise_cons.mpr ⟨fun p hp => ?_, h⟩
        rcases List.mem_cons.mp hp with rfl | hp
        · exact hl
        · exact ltT_tr hl (a1 p hp)
      · rename_i hl
        exact List.pairwise_cons.mpr ⟨ins_keys (q := fun y => LtT x.1 y) a1 (ltT_or hl fun q => hn q.symm), ins_srt a2⟩
theorem get_ins {f : PyData → PyData → PyData} : ∀ {xs : Tb} {z : Str} {e : PyData} (y : Str), Srt xs → getX (insF f xs z e) y = if y = z then oj f (getX xs z) (some e) else getX xs y
  | [], z, e, y, _ => by
    show getX [(z, e)] y = _
    rw [get_cons]
    by_cases h : y = z
    · rw [if_pos h.symm, if_pos h]; rfl
    · rw [if_neg (fun q => h q.symm), if_neg h]
  | x :: r, z, e, y, h => by
    obtain ⟨a1, a2⟩ := List.pairwise_cons.mp h
    unfold insF
    split
    · rename_i hx
      subst hx
      rw [get_cons, get_cons, get_cons, if_pos rfl]
      by_cases h : y = x.1
      · rw [if_pos h.symm, if_pos h]; rfl
      · rw [if_neg (fun q => h q.symm), if_neg h, if_neg (fun q => h q.symm)]
    · rename_i hn
      split
      · rename_i hl
        have e0 : getX (x :: r) z = none := get_lt fun p hp => by
          rcases List.mem_cons.mp hp with rfl | hp
          · exact hl
          · exact ltT_tr hl (a1 p hp)
        rw [get_cons, e0]
        by_cases h : y = z
        · rw [if_pos h.symm, if_pos h]; rfl
        · rw [if_neg (fun q => h q.symm), if_neg h]
      · rename_i hl
        rw [get_cons, get_cons, get_cons, get_ins (f := f) (xs := r) (z := z) (e := e) y a2, if_neg hn]
        by_cases h : y = z
        · subst h
          rw [if_neg hn, if_pos rfl, if_pos rfl]
        · rw [if_neg h, if_neg h]
def mrg (f : PyData → PyData → PyData) (xs zs : Tb) : Tb := zs.foldl (fun acc p => insF f acc p.1 p.2) xs
theorem mrg_srt {f : PyData → PyData → PyData} : ∀ {zs xs : Tb}, Srt xs → Srt (mrg f xs zs)
  | [], _, h => h
  | p :: r, xs, h => mrg_srt (zs := r) (ins_srt h)
theorem get_mrg {f : PyData → PyData → PyData} : ∀ {zs xs : Tb} (y : Str), Srt xs → Srt zs → getX (mrg f xs zs) y = oj f (getX xs y) (getX zs y)
  | [], xs, y, _, _ => (oj_none _).symm
  | p :: r, xs, y, h, hz => by
    obtain ⟨a1, a2⟩ := List.pairwise_cons.mp hz
    show getX (mrg f (insF f xs p.1 p.2) r) y = _
    rw [get_mrg (zs := r) y (ins_srt h) a2, get_ins y h, get_cons]
    by_cases e : y = p.1
    · subst e
      rw [if_pos rfl, if_pos rfl, get_lt a1, oj_none]
    · rw [if_neg e, if_neg (fun q => e q.symm)]
theorem get_mem : ∀ {xs : Tb} {z : Str} {e : PyData}, Srt xs → (getX xs z = some e ↔ (z, e) ∈ xs)
  | [], z, e, _ => by rw [get_nil]; simp
  | p :: r, z, e, h => by
    obtain ⟨a1, a2⟩ := List.pairwise_cons.mp h
    rw [get_cons, List.mem_cons]
    by_cases hz : p.1 = z
    · rw [if_pos hz]
      constructor
      · intro q; exact .inl (Prod.ext hz.symm (Option.some.inj q).symm)
      · rintro (q | q)
        · rw [← q]
        · exact (ltT_irr (x := z) (by have := a1 _ q; rw [hz] at this; exact this)).elim
    · rw [if_neg hz, get_mem a2]
      constructor
      · exact .inr
      · rintro (q | q)
        · exact absurd (by rw [← q]) hz
        · exact q
/-! ### where the worths within are joined well, so are tables -/
structure SLat (f : PyData → PyData → PyData) (P : PyData → Prop) : Prop where
  cl : ∀ {a b}, P a → P b → P (f a b)
  comm : ∀ {a b}, P a → P b → f a b = f b a
  assoc : ∀ {a b c}, P a → P b → P c → f (f a b) c = f a (f b c)
  idem : ∀ {a}, P a → f a a = a
def OkT (P : PyData → Prop) (xs : Tb) : Prop := Srt xs ∧ ∀ p ∈ xs, isNm (.str p.1) = true ∧ P p.2
theorem OkT.get {P : PyData → Prop} {xs : Tb} (h : OkT P xs) (z : Str) : ∀ e, getX xs z = some e → isNm (.str z) = true ∧ P e := fun e q => h.2 _ ((get_mem h.1).mp q)
theorem OkT.of {P : PyData → Prop} {xs : Tb} (hs : Srt xs) (h : ∀ z e, getX xs z = some e → isNm (.str z) = true ∧ P e) : OkT P xs := ⟨hs, fun p hp => h p.1 p.2 ((get_mem hs).mpr hp)⟩
section
variable {f : PyData → PyData → PyData} {P : PyData → Prop} {xs ys zs : Tb}
theorem mrg_ok (L : SLat f P) (h : OkT P xs) (h' : OkT P ys) : OkT P (mrg f xs ys) := .of (mrg_srt h.1) fun z e q => by
  rw [get_mrg z h.1 h'.1] at q
  cases e1 : getX xs z with
  | none => rw [e1] at q; exact h'.get z e q
  | some a =>
    obtain ⟨n, pa⟩ := h.get z a e1
    cases e2 : getX ys z with
    | none => rw [e1, e2] at q; cases q; exact ⟨n, pa⟩
    | some b => rw [e1, e2] at q; cases q; exact ⟨n, L.cl pa (h'.get z b e2).2⟩
theorem mrg_comm (L : SLat f P) (h : OkT P xs) (h' : OkT P ys) : mrg f xs ys = mrg f ys xs := tb_ext (mrg_srt h.1) (mrg_srt h'.1) fun z => by
  rw [get_mrg z h.1 h'.1, get_mrg z h'.1 h.1]
  cases e1 : getX xs z with
  | none => exact (oj_none _).symm
  | some a =>
    cases e2 : getX ys z with
    | none => rfl
    | some b => exact congrArg some (L.comm (h.get z a e1).2 (h'.get z b e2).2)
theorem mrg_assoc (L : SLat f P) (h : OkT P xs) (h' : OkT P ys) (h2 : OkT P zs) : mrg f (mrg f xs ys) zs = mrg f xs (mrg f ys zs) := tb_ext (mrg_srt (mrg_srt h.1)) (mrg_srt h.1) fun z => by
  rw [get_mrg z (mrg_srt h.1) h2.1, get_mrg z h.1 h'.1, get_mrg z h.1 (mrg_srt h'.1), get_mrg z h'.1 h2.1]
  cases e1 : getX xs z with
  | none => rfl
  | some a =>
    cases e2 : getX ys z with
    | none => rfl
    | some b =>
      cases e3 : getX zs z with
      | none => rfl
      | some c => exact congrArg some (L.assoc (h.get z a e1).2 (h'.get z b e2).2 (h2.get z c e3).2)
theorem mrg_idem (L : SLat f P) (h : OkT P xs) : mrg f xs xs = xs := tb_ext (mrg_srt h.1) h.1 fun z => by
  rw [get_mrg z h.1 h.1]
  cases e1 : getX xs z with
  | none => rfl
  | some a => exact congrArg some (L.idem (h.get z a e1).2)
theorem mrg_nil (h : OkT P xs) : mrg f [] xs = xs := tb_ext (mrg_srt .nil) h.1 fun z => by
  rw [get_mrg z .nil h.1]
  rfl
end
/-! ### the join -/
def rowsN : PyData → Tb
  | .tuple ds => ds.map fun x => (strD x, .none)
  | _ => []
def rowsE : PyData → Tb
  | .tuple ds => ds.map fun r => (strD (fstD r), sndD r)
  | _ => []
def ltL (d e : PyData) : Bool := decide (intD (fstD d) < intD (fstD e) ∨ (intD (fstD d) = intD (fstD e) ∧ intD (sndD d) < intD (sndD e)))
def jo : Kn → PyData → PyData → PyData
  | .names, d, e => .tuple ((mrg (fun _ _ => .none) (rowsN d) (rowsN e)).map fun p => .str p.1)
  | .most, d, e => .int (if intD e > intD d then intD e else intD d)
  | .last, d, e => if ltL d e = true then e else d
  | .each k, d, e => .tuple ((mrg (jo k) (rowsE d) (rowsE e)).map rowP)
  | .both k l, d, e => .tuple [jo k (fstD d) (fstD e), jo l (sndD d) (sndD e)]
theorem pw_ris : ∀ {ks : List Str}, risS ks = true → ks.Pairwise LtT
  | [], _ => .nil
  | [k], _ => List.pairwise_singleton ..
  | k :: m :: r, h => by
    have h : (decide (cp k < cp m) && risS (m :: r)) = true := h
    rw [Bool.and_eq_true] at h
    have ih := pw_ris h.2
    refine List.pairwise_cons.mpr ⟨fun x hx => ?_, ih⟩
    have hl : LtT k m := of_decide_eq_true h.1
    rcases List.mem_cons.mp hx with rfl | hx
    · exact hl
    · exact ltT_tr hl ((List.pairwise_cons.mp ih).1 x hx)
/-- what a worth of names is -/
theorem isW_namesT {d : PyData} : isW .names d = true ↔ ∃ xs, d = .tuple (xs.map fun p => .str p.1) ∧ OkT (· = .none) xs := by
  constructor
  · intro h
    obtain ⟨ys, rfl, hn, hr⟩ := isW_names h
    refine ⟨ys.map fun y => (y, .none), by rw [List.map_map]; rfl, List.pairwise_map.mpr (pw_ris hr), fun p hp => ?_⟩
    obtain ⟨y, hy, rfl⟩ := List.mem_map.mp hp
    exact ⟨hn y hy, rfl⟩
  · rintro ⟨xs, rfl, hs, hp⟩
    show ((xs.map fun p => PyData.str p.1).all isNm && risS ((xs.map fun p => PyData.str p.1).map strD)) = true
    rw [List.map_map, Bool.and_eq_true, List.all_eq_true]
    refine ⟨fun x hx => ?_, risS_of (List.pairwise_map.mpr hs)⟩
    obtain ⟨p, q, rfl⟩ := List.mem_map.mp hx
    exact (hp p q).1
abbrev NB (k : Kn) (d : PyData) : Prop := isW k d = true ∧ d ≠ botD k
theorem rowP_parts (xs : Tb) : rowsE (.tuple (xs.map rowP)) = xs := by
  show (xs.map rowP).map (fun r => (strD (fstD r), sndD r)) = xs
  rw [List.map_map]
  exact List.map_id'' (fun p => rfl) xs
theorem rowN_parts {xs : Tb} (h : OkT (· = .none) xs) : rowsN (.tuple (xs.map fun p => .str p.1)) = xs := by
  show (xs.map fun p => PyData.str p.1).map (fun x => (strD x, PyData.none)) = xs
  rw [List.map_map]
  refine (List.map_congr_left (g := id) fun p hp => ?_).trans (List.map_id xs)
  exact Prod.ext rfl (h.2 p hp).2.symm
/-- what a table is -/
theorem isW_eachT {k : Kn} {d : PyData} : isW (.each k) d = true ↔ ∃ xs, d = .tuple (xs.map rowP) ∧ OkT (NB k) xs := by
  constructor
  · intro h
    obtain ⟨ds, rfl, hr, hs⟩ := isW_each h
    refine ⟨ds.map fun r => (strD (fstD r), sndD r), ?_, ?_, fun p hp => ?_⟩
    · rw [List.map_map]
      refine congrArg PyData.tuple ((List.map_congr_left (g := id) fun r hr' => ?_).trans (List.map_id ds)).symm
      obtain ⟨z, x, rfl, _⟩ := isRow_ok (hr r hr')
      rfl
    · have := pw_ris hs
      exact List.pairwise_map.mpr (List.pairwise_map.mp this)
    · obtain ⟨r, hr', rfl⟩ := List.mem_map.mp hp
      obtain ⟨z, x, rfl, hn, hw, he⟩ := isRow_ok (hr r hr')
      refine ⟨hn, hw, fun e => ?_⟩
      have e : x = botD k := e
      rw [(isW_eqv k hw (isW_bot k)).mpr e] at he
      cases he
  · rintro ⟨xs, rfl, hs, hp⟩
    show ((xs.map rowP).all (isRow (isW k) (botD k)) && risS ((xs.map rowP).map fun r => strD (fstD r))) = true
    rw [List.map_map, Bool.and_eq_true, List.all_eq_true]
    refine ⟨fun x hx => ?_, risS_of (List.pairwise_map.mpr hs)⟩
    obtain ⟨p, q, rfl⟩ := List.mem_map.mp hx
    obtain ⟨hn, hw, hb⟩ := hp p q
    show (isNm (.str p.1) && (isW k p.2 && !(PyData.eqv p.2 (botD k)))) = true
    rw [hn, hw]
    cases he : PyData.eqv p.2 (botD k) with
    | true => exact absurd ((isW_eqv k hw (isW_bot k)).mp he) hb
    | false => rfl
structure Lat (k : Kn) : Prop extends SLat (jo k) (fun d => isW k d = true) where
  bot : ∀ {a}, isW k a = true → jo k (botD k) a = a
theorem Lat.bot' {k : Kn} (L : Lat k) {a : PyData} (h : isW k a = true) : jo k a (botD k) = a := (L.comm h (isW_bot k)).trans (L.bot h)
theorem Lat.nb {k : Kn} (L : Lat k) {a b : PyData} (ha : isW k a = true) (hb : isW k b = true) (h : a ≠ botD k) : jo k a b ≠ botD k := fun e => h (by
  have e1 : jo k a (jo k a b) = jo k a b := by rw [← L.assoc ha ha hb, L.idem ha]
  rw [e, L.bot' ha] at e1
  exact e1)
theorem Lat.ne {k : Kn} (L : Lat k) : SLat (jo k) (NB k) where
  cl := fun h h' => ⟨L.cl h.1 h'.1, L.nb h.1 h'.1 h.2⟩
  comm := fun h h' => L.comm h.1 h'.1
  assoc := fun h h' h2 => L.assoc h.1 h'.1 h2.1
  idem := fun h => L.idem h.1
theorem none_lat : SLat (fun _ _ => PyData.none) (· = .none) := ⟨fun _ _ => rfl, fun _ _ => rfl, fun _ _ _ => rfl, fun h => h.symm⟩
theorem jo_names {xs ys : Tb} (h : OkT (· = .none) xs) (h' : OkT (· = .none) ys) : jo .names (.tuple (xs.map fun p => .str p.1)) (.tuple (ys.map fun p => .str p.1)) = .tuple ((mrg (fun _ _ => .none) xs ys).map fun p => .str p.1) := by
  unfold jo
  rw [rowN_parts h, rowN_parts h']
theorem jo_each {k : Kn} {xs ys : Tb} : jo (.each k) (.tuple (xs.map rowP)) (.tuple (ys.map rowP)) = .tuple ((mrg (jo k) xs ys).map rowP) := by
  unfold jo
  rw [rowP_parts, rowP_parts]
theorem jo_last {i j k l : Int} : jo .last (.tuple [.int i, .int j]) (.tuple [.int k, .int l]) = if i < k ∨ i = k ∧ j < l then .tuple [.int k, .int l] else .tuple [.int i, .int j] := by
  unfold jo
  by_cases h : i < k ∨ i = k ∧ j < l
  · rw [if_pos h, if_pos (show ltL (.tuple [.int i, .int j]) (.tuple [.int k, .int l]) = true from decide_eq_true (p := i < k ∨ i = k ∧ j < l) h)]
  · rw [if_neg h, if_neg]
    rw [show ltL (.tuple [.int i, .int j]) (.tuple [.int k, .int l]) = false from decide_eq_false (p := i < k ∨ i = k ∧ j < l) h]
    exact Bool.false_ne_true
theorem lat : ∀ k : Kn, Lat k
  | .names => {
    cl := fun h h' => by
      obtain ⟨xs, rfl, o⟩ := isW_namesT.mp h
      obtain ⟨ys, rfl, o'⟩ := isW_namesT.mp h'
      rw [jo_names o o']
      exact isW_namesT.mpr ⟨_, rfl, mrg_ok none_lat o o'⟩
    comm := fun h h' => by
      obtain ⟨xs, rfl, o⟩ := isW_namesT.mp h
      obtain ⟨ys, rfl, o'⟩ := isW_namesT.mp h'
      rw [jo_names o o', jo_names o' o, mrg_comm none_lat o o']
    assoc := fun h h' h2 => by
      obtain ⟨xs, rfl, o⟩ := isW_namesT.mp h
      obtain ⟨ys, rfl, o'⟩ := isW_namesT.mp h'
      obtain ⟨zs, rfl, o2⟩ := isW_namesT.mp h2
      rw [jo_names o o', jo_names o' o2, jo_names (mrg_ok none_lat o o') o2, jo_names o (mrg_ok none_lat o' o2), mrg_assoc none_lat o o' o2]
    idem := fun h => by
      obtain ⟨xs, rfl, o⟩ := isW_namesT.mp h
      rw [jo_names o o, mrg_idem none_lat o]
    bot := fun h => by
      obtain ⟨xs, rfl, o⟩ := isW_namesT.mp h
      refine (jo_names (xs := []) ⟨.nil, fun p hp => by simp at hp⟩ o).trans ?_
      rw [mrg_nil o] }
  | .most => {
    cl := fun h h' => by
      obtain ⟨i, rfl, hi⟩ := isW_most h
      obtain ⟨j, rfl, hj⟩ := isW_most h'
      show decide (0 ≤ if j > i then j else i) = true
      exact decide_eq_true (by split <;> assumption)
    comm := fun h h' => by
      obtain ⟨i, rfl, hi⟩ := isW_most h
      obtain ⟨j, rfl, hj⟩ := isW_most h'
      show PyData.int (if j > i then j else i) = .int (if i > j then i else j)
      congr 1
      split <;> split <;> omega
    assoc := fun h h' h2 => by
      obtain ⟨i, rfl, hi⟩ := isW_most h
      obtain ⟨j, rfl, hj⟩ := isW_most h'
      obtain ⟨l, rfl, hl⟩ := isW_most h2
      show PyData.int (if l > (if j > i then j else i) then l else (if j > i then j else i)) = .int (if (if l > j then l else j) > i then (if l > j then l else j) else i)
      congr 1
      repeat' split
      all_goals omega
    idem := fun h => by
      obtain ⟨i, rfl, hi⟩ := isW_most h
      show PyData.int (if i > i then i else i) = .int i
      rw [if_neg (by omega)]
    bot := fun h => by
      obtain ⟨i, rfl, hi⟩ := isW_most h
      show PyData.int (if i > 0 then i else 0) = .int i
      congr 1
      split <;> omega }
  | .last => {
    cl := fun {a b} h h' => by
      unfold jo
      split <;> assumption
    comm := fun h h' => by
      obtain ⟨i, j, rfl, hi⟩ := isW_last h
      obtain ⟨i', j', rfl, hj⟩ := isW_last h'
      rw [jo_last, jo_last]
      by_cases e : i = i' ∧ j = j'
      · obtain ⟨rfl, rfl⟩ := e; rfl
      · by_cases l : i < i' ∨ i = i' ∧ j < j'
        · rw [if_pos l, if_neg (by omega)]
        · rw [if_neg l, if_pos (by omega)]
    assoc := fun h h' h2 => by
      obtain ⟨i, j, rfl, hi⟩ := isW_last h
      obtain ⟨i', j', rfl, hj⟩ := isW_last h'
      obtain ⟨k, l, rfl, hk⟩ := isW_last h2
      rw [jo_last, jo_last]
      by_cases l1 : i < i' ∨ i = i' ∧ j < j' <;> by_cases l2 : i' < k ∨ i' = k ∧ j' < l
      · rw [if_pos l1, if_pos l2, jo_last, jo_last, if_pos l2, if_pos (by omega)]
      · rw [if_pos l1, if_neg l2, jo_last, jo_last, if_neg l2, if_pos l1]
      · rw [if_neg l1, if_pos l2, jo_last]
      · rw [if_neg l1, if_neg l2, jo_last, jo_last, if_neg l1, if_neg (by omega)]
    idem := fun h => by
      unfold jo
      split <;> rfl
    bot := fun h => by
      obtain ⟨i, j, rfl, hi⟩ := isW_last h
      refine (jo_last (i := 0) (j := 0)).trans ?_
      by_cases e : 1 ≤ i
      · rw [if_pos (by omega)]
      · obtain ⟨rfl, rfl⟩ : i = 0 ∧ j = 0 := by omega
        rfl }
  | .each k => {
    cl := fun h h' => by
      obtain ⟨xs, rfl, o⟩ := isW_eachT.mp h
      obtain ⟨ys, rfl, o'⟩ := isW_eachT.mp h'
      rw [jo_each]
      exact isW_eachT.mpr ⟨_, rfl, mrg_ok (lat k).ne o o'⟩
    comm := fun h h' => by
      obtain ⟨xs, rfl, o⟩ := isW_eachT.mp h
      obtain ⟨ys, rfl, o'⟩ := isW_eachT.mp h'
      rw [jo_each, jo_each, mrg_comm (lat k).ne o o']
    assoc := fun h h' h2 => by
      obtain ⟨xs, rfl, o⟩ := isW_eachT.mp h
      obtain ⟨ys, rfl, o'⟩ := isW_eachT.mp h'
      obtain ⟨zs, rfl, o2⟩ := isW_eachT.mp h2
      rw [jo_each, jo_each, jo_each, jo_each, mrg_assoc (lat k).ne o o' o2]
    idem := fun h => by
      obtain ⟨xs, rfl, o⟩ := isW_eachT.mp h
      rw [jo_each, mrg_idem (lat k).ne o]
    bot := fun h => by
      obtain ⟨xs, rfl, o⟩ := isW_eachT.mp h
      refine (jo_each (xs := [])).trans ?_
      rw [mrg_nil o] }
  | .both k l => {
    cl := fun h h' => by
      obtain ⟨a, b, rfl, ha, hb⟩ := isW_both h
      obtain ⟨a', b', rfl, ha', hb'⟩ := isW_both h'
      show (isW k (jo k a a') && isW l (jo l b b')) = true
      rw [(lat k).cl ha ha', (lat l).cl hb hb']; rfl
    comm := fun h h' => by
      obtain ⟨a, b, rfl, ha, hb⟩ := isW_both h
      obtain ⟨a', b', rfl, ha', hb'⟩ := isW_both h'
      show PyData.tuple [jo k a a', jo l b b'] = .tuple [jo k a' a, jo l b' b]
      rw [(lat k).comm ha ha', (lat l).comm hb hb']
    assoc := fun h h' h2 => by
      obtain ⟨a, b, rfl, ha, hb⟩ := isW_both h
      obtain ⟨a', b', rfl, ha', hb'⟩ := isW_both h'
      obtain ⟨a2, b2, rfl, ha2, hb2⟩ := isW_both h2
      show PyData.tuple [jo k (jo k a a') a2, jo l (jo l b b') b2] = .tuple [jo k a (jo k a' a2), jo l b (jo l b' b2)]
      rw [(lat k).assoc ha ha' ha2, (lat l).assoc hb hb' hb2]
    idem := fun h => by
      obtain ⟨a, b, rfl, ha, hb⟩ := isW_both h
      show PyData.tuple [jo k a a, jo l b b] = .tuple [a, b]
      rw [(lat k).idem ha, (lat l).idem hb]
    bot := fun h => by
      obtain ⟨a, b, rfl, ha, hb⟩ := isW_both h
      show PyData.tuple [jo k (botD k) a, jo l (botD l) b] = .tuple [a, b]
      rw [(lat k).bot ha, (lat l).bot hb] }
end G

set_option Elab.async false
set_option linter.all false
set_option maxRecDepth 100000
set_option maxHeartbeats 4000000
/-! JoiB: how great a join is; worths of one kind are alike -/
namespace G
open PySem PySem.Spec PyProof.Rows L2 DL
theorem ins_len {f : PyData → PyData → PyData} : ∀ (xs : Tb) (z : Str) (e : PyData), (insF f xs z e).length ≤ xs.length + 1
  | [], z, e => Nat.le_refl _
  | p :: r, z, e => by
    unfold insF
    split
    · simp
    · split
      · simp
      · have := ins_len (f := f) r z e
        rw [List.length_cons, List.length_cons]; omega
theorem mrg_len {f : PyData → PyData → PyData} : ∀ (zs xs : Tb), (mrg f xs zs).length ≤ xs.length + zs.length
  | [], xs => by show xs.length ≤ _; omega
  | p :: r, xs => by
    have := mrg_len (f := f) r (insF f xs p.1 p.2)
    have := ins_len (f := f) xs p.1 p.2
    show (mrg f (insF f xs p.1 p.2) r).length ≤ _
    rw [List.length_cons]; omega
theorem fw_eachT {r : Nat} {k : Kn} {xs : Tb} : fw r (.each k) (.tuple (xs.map rowP)) = true ↔ xs.length ≤ r ∧ ∀ p ∈ xs, fw r k p.2 = true := by
  show (decide ((xs.map rowP).length ≤ r) && (xs.map rowP).all fun row => fw r k (sndD row)) = true ↔ _
  rw [List.length_map, Bool.and_eq_true, List.all_map, List.all_eq_true, decide_eq_true_eq]
  exact Iff.rfl
theorem fw_namesT {r : Nat} {xs : Tb} : fw r .names (.tuple (xs.map fun p => .str p.1)) = true ↔ xs.length ≤ r := by
  show decide ((xs.map fun p => PyData.str p.1).length ≤ r) = true ↔ _
  rw [List.length_map, decide_eq_true_eq]
theorem fw_jo : ∀ (k : Kn) {r s : Nat} {a b : PyData}, isW k a = true → isW k b = true → fw r k a = true → fw s k b = true → fw (r + s) k (jo k a b) = true
  | .names, r, s, a, b, ha, hb, fa, fb => by
    obtain ⟨xs, rfl, o⟩ := isW_namesT.mp ha
    obtain ⟨ys, rfl, o'⟩ := isW_namesT.mp hb
    rw [jo_names o o']
    have := mrg_len (f := fun _ _ => .none) ys xs
    have := fw_namesT.mp fa
    have := fw_namesT.mp fb
    exact fw_namesT.mpr (by omega)
  | .most, r, s, a, b, ha, hb, fa, fb => by
    obtain ⟨i, rfl, _⟩ := isW_most ha
    obtain ⟨j, rfl, _⟩ := isW_most hb
    have fa := of_decide_eq_true (p := i.natAbs < 10 ^ 20 + r) fa
    have fb := of_decide_eq_true (p := j.natAbs < 10 ^ 20 + s) fb
    show decide ((if j > i then j else i).natAbs < 10 ^ 20 + (r + s)) = true
    exact decide_eq_true (by split <;> omega)
  | .last, r, s, a, b, ha, hb, fa, fb => by
    unfold jo
    split
    · exact fw_mono (by omega) .last fb
    · exact fw_mono (by omega) .last fa
  | .each k, r, s, a, b, ha, hb, fa, fb => by
    obtain ⟨xs, rfl, o⟩ := isW_eachT.mp ha
    obtain ⟨ys, rfl, o'⟩ := isW_eachT.mp hb
    rw [jo_each]
    obtain ⟨l1, f1⟩ := fw_eachT.mp fa
    obtain ⟨l2, f2⟩ := fw_eachT.mp fb
    have := mrg_len (f := jo k) ys xs
    refine fw_eachT.mpr ⟨by omega, fun p hp => ?_⟩
    have q := (get_mem (mrg_srt o.1)).mpr hp
    rw [get_mrg p.1 o.1 o'.1] at q
    cases e1 : getX xs p.1 with
    | none =>
      rw [e1] at q
      exact fw_mono (by omega) k (f2 _ ((get_mem o'.1).mp q))
    | some x =>
      have m1 := (get_mem o.1).mp e1
      cases e2 : getX ys p.1 with
      | none => rw [e1, e2] at q; cases q; exact fw_mono (by omega) k (f1 _ m1)
      | some y =>
        have m2 := (get_mem o'.1).mp e2
        rw [e1, e2] at q
        have q : jo k x y = p.2 := Option.some.inj q
        rw [← q]
        exact fw_jo k (o.2 _ m1).2.1 (o'.2 _ m2).2.1 (f1 _ m1) (f2 _ m2)
  | .both k l, r, s, a, b, ha, hb, fa, fb => by
    obtain ⟨a', b', rfl, ha', hb'⟩ := isW_both hb
    obtain ⟨a, b, rfl, ha, hb⟩ := isW_both ha
    have f1 := fw_both fa
    have f2 := fw_both fb
    show (fw (r + s) k (jo k a a') && fw (r + s) l (jo l b b')) = true
    rw [fw_jo k ha ha' f1.1 f2.1, fw_jo l hb hb' f1.2 f2.2]; rfl
theorem alikeAll_of : ∀ {ds es : List PyData}, (∀ d ∈ ds, ∀ e ∈ es, PySem.W.alike d e = true) → PySem.W.alikeAll ds es = true
  | [], [], _ => by simp [PySem.W.alikeAll]
  | [], _ :: _, _ => by simp [PySem.W.alikeAll]
  | _ :: _, [], _ => by simp [PySem.W.alikeAll]
  | d :: ds, e :: es, h => by
    have h1 := h d List.mem_cons_self e List.mem_cons_self
    have h2 := alikeAll_of (ds := ds) (es := es) fun x hx y hy => h x (List.mem_cons_of_mem _ hx) y (List.mem_cons_of_mem _ hy)
    simp [PySem.W.alikeAll, h1, h2]
theorem isW_alike : ∀ (k : Kn) {a b : PyData}, isW k a = true → isW k b = true → PySem.W.alike a b = true
  | .names, a, b, ha, hb => by
    obtain ⟨xs, rfl, o⟩ := isW_namesT.mp ha
    obtain ⟨ys, rfl, o'⟩ := isW_namesT.mp hb
    rw [PySem.W.alike]
    refine alikeAll_of fun d hd e he => ?_
    obtain ⟨p, _, rfl⟩ := List.mem_map.mp hd
    obtain ⟨q, _, rfl⟩ := List.mem_map.mp he
    simp [PySem.W.alike]
  | .most, a, b, ha, hb => by
    obtain ⟨i, rfl, _⟩ := isW_most ha
    obtain ⟨j, rfl, _⟩ := isW_most hb
    simp [PySem.W.alike]
  | .last, a, b, ha, hb => by
    obtain ⟨i, j, rfl, _⟩ := isW_last ha
    obtain ⟨k, l, rfl, _⟩ := isW_last hb
    simp [PySem.W.alike, PySem.W.alikeAll]
  | .each k, a, b, ha, hb => by
    obtain ⟨xs, rfl, o⟩ := isW_eachT.mp ha
    obtain ⟨ys, rfl, o'⟩ := isW_eachT.mp hb
    rw [PySem.W.alike]
    refine alikeAll_of fun d hd e he => ?_
    obtain ⟨p, hp, rfl⟩ := List.mem_map.mp hd
    obtain ⟨q, hq, rfl⟩ := List.mem_map.mp he
    have := isW_alike k (o.2 p hp).2.1 (o'.2 q hq).2.1
    simp [PySem.W.alike, PySem.W.alikeAll, rowP, this]
  | .both k l, a, b, ha, hb => by
    obtain ⟨a', b', rfl, ha', hb'⟩ := isW_both hb
    obtain ⟨a, b, rfl, ha, hb⟩ := isW_both ha
    have h1 := isW_alike k ha ha'
    have h2 := isW_alike l hb hb'
    simp [PySem.W.alike, PySem.W.alikeAll, h1, h2]
end G

set_option Elab.async false
set_option linter.all false
set_option maxRecDepth 100000
set_option maxHeartbeats 4000000
/-! DL23: zip of three tuples -/
namespace DL
open PySem PySem.Spec PyProof.Rows L2
/-- the tuples at a, b and c as they stand at each turn, the items in new tuples -/
def ItzT3 (K : PySem.W.Frag) (a b c : Addr) : It :=
  ⟨fun i H => ∃ (xs ys zs : List V) (x y z : V), SqT K H a xs ∧ SqT K H b ys ∧ SqT K H c zs ∧ xs[i]? = some x ∧ ys[i]? = some y ∧ zs[i]? = some z,
    fun i H v H' => ∃ T x y z, v = .ref T ∧ H T = none ∧ H' = upd H T (.tup [x, y, z]) ∧ (∀ xs, SqT K H a xs → xs[i]? = some x) ∧ (∀ ys, SqT K H b ys → ys[i]? = some y) ∧ ∀ zs, SqT K H c zs → zs[i]? = some z,
    fun i H => ∃ xs ys zs : List V, SqT K H a xs ∧ SqT K H b ys ∧ SqT K H c zs ∧ (i ≤ xs.length ∧ i ≤ ys.length ∧ i ≤ zs.length) ∧ (xs.length = i ∨ ys.length = i ∨ zs.length = i)⟩
theorem turn_zipT3 {P : Program} {w : World} {K : PySem.W.Frag} {elts : List Expr} {kk : Nat} {tpos : Pos} {a b c z TI TO i1 i2 i3 : Addr} (S : ZipSep3 z TI TO i1 i2 i3 [i1, a] [i2, b] [i3, c]) :
    Turn P w K (.Tuple elts kk tpos) (ItzT3 K a b c) [z, TI, TO, i1, i2, i3] z (fun i h => IsZip h z TI TO .none ∧ IsTupOf3 h TI (.ref i1) (.ref i2) (.ref i3) ∧ (∃ x y u, IsTupOf3 h TO x y u) ∧ h.IsTupleIter i1 a i ∧ h.IsTupleIter i2 b i ∧ h.IsTupleIter i3 c i) where
  mem := by simp
  obj := fun i h st c hc => by
    obtain ⟨hz, hTI, ⟨x, y, u, hTO⟩, ⟨o1, e1, _, d1⟩, ⟨o2, e2, _, d2⟩, ⟨o3, e3, _, d3⟩⟩ := st
    have e' : c = z ∨ c = TI ∨ c = TO ∨ c = i1 ∨ c = i2 ∨ c = i3 := by simpa using hc
    rcases e' with q | q | q | q | q | q
    · rw [q]; exact ⟨_, hz, fun v q => nomatch q⟩
    · rw [q]; exact ⟨_, hTI, fun v q => nomatch q⟩
    · rw [q]; exact ⟨_, hTO, fun v q => nomatch q⟩
    · rw [q]; exact ⟨o1, e1, fun v q => by rw [d1] at q; cases q⟩
    · rw [q]; exact ⟨o2, e2, fun v q => by rw [d2] at q; cases q⟩
    · rw [q]; exact ⟨o3, e3, fun v q => by rw [d3] at q; cases q⟩
  keep := fun i h h' st k => by
    obtain ⟨hz, hTI, ⟨x, y, u, hTO⟩, h1, h2, h3⟩ := st
    exact ⟨k z (by simp) _ hz, k TI (by simp) _ hTI, ⟨x, y, u, k TO (by simp) _ hTO⟩, h1.at fun o q => k i1 (by simp) o q, h2.at fun o q => k i2 (by simp) o q, h3.at fun o q => k i3 (by simp) o q⟩
  item := by
    intro X hP hw hK hc i pins s σ H E I hf st hg
    subst hP hw hK
    obtain ⟨hz, hTI, ⟨x0, y0, z0, hTO⟩, h1, h2, h3⟩ := st
    obtain ⟨xs, ys, zs, x, y, u, hqx, hqy, hqz, hx, hy, hu⟩ := hg
    obtain ⟨its, rv, p, _⟩ := I.tuple hqx
    obtain ⟨its2, rv2, p2, _⟩ := I.tuple hqy
    obtain ⟨its3, rv3, p3, _⟩ := I.tuple hqz
    obtain ⟨v1, hv1, r1⟩ := rv.get hx
    obtain ⟨v2, hv2, r2⟩ := rv2.get hy
    obtain ⟨v3, hv3, r3⟩ := rv3.get hu
    have hh : X.A.in1.handled = none := I.ok.hd hc
    have hzl : z < s.heap.objs.size := Heap.lt_size hz
    have lt : ∀ {α : Type} {l : List α} {x : α}, l[i]? = some x → i < l.length := fun h => (List.getElem?_eq_some_iff.mp h).1
    have na : a ≠ i1 := fun e => by obtain ⟨o, e1, e2, _⟩ := p; obtain ⟨o', e1', e2', _⟩ := h1; rw [e, e1'] at e1; cases e1; rw [e2'] at e2; simp at e2
    have nb : b ≠ i2 := fun e => by obtain ⟨o, e1, e2, _⟩ := p2; obtain ⟨o', e1', e2', _⟩ := h2; rw [e, e1'] at e1; cases e1; rw [e2'] at e2; simp at e2
    have nc : c ≠ i3 := fun e => by obtain ⟨o, e1, e2, _⟩ := p3; obtain ⟨o', e1', e2', _⟩ := h3; rw [e, e1'] at e1; cases e1; rw [e2'] at e2; simp at e2
    have D1 := Draws.tuple (prog := X.prog) (w := X.w) hh i1 a na its.toArray
    have D2 := Draws.tuple (prog := X.prog) (w := X.w) hh i2 b nb its2.toArray
    have D3 := Draws.tuple (prog := X.prog) (w := X.w) hh i3 c nc its3.toArray
    refine wpAny_pyNext_zipD3_item S D1 D2 D3 hz hTI hTO ⟨h1, p⟩ ⟨h2, p2⟩ ⟨h3, p3⟩ (by simpa using lt hv1) (by simpa using lt hv2) (by simpa using lt hv3)
      fun x1 x2 x3 h' tk y1 y2 y3 z' TO' d1 d2 d3 hT hsz hk => ?_
    have ex1 : x1 = v1 := by simp at y1; rw [hv1] at y1; exact (Option.some.inj y1).symm
    have ex2 : x2 = v2 := by simp at y2; rw [hv2] at y2; exact (Option.some.inj y2).symm
    have ex3 : x3 = v3 := by simp at y3; rw [hv3] at y3; exact (Option.some.inj y3).symm
    subst ex1 ex2 ex3
    refine ⟨_, rfl, wpAny_letOwnedTupleGo_zip (s := { s with heap := h', toks := tk }) z' fun h'' z'' sb => ?_⟩
    have hT2 : h''.get? s.heap.objs.size = some { cls := .type "tuple", data := .seq #[x1, x2, x3] } := (sb.2 _ (Nat.ne_of_gt hzl)).trans hT
    have new : ObjOk X.prog X.w (upd H s.heap.objs.size (.tup [x, y, u])) h'' s.heap.objs.size (.tup [x, y, u]) :=
      ⟨by show 3 ≤ sizeLine; decide, [x1, x2, x3], .cons r1 (.cons r2 (.cons r3 .nil)), ⟨_, hT2, rfl, _, rfl⟩⟩
    have I1 : Inv X pins σ (upd H s.heap.objs.size (.tup [x, y, u])) { s with heap := h'', toks := tk } :=
      I.turnedNew (t' := tk) (ch := [z, TI, TO, i1, i2, i3]) (fun c o hb q => (sb.2 c (fun q' => hb (by simp [q']))).trans (hk c o (fun q' => hb (by simp [q'])) (fun q' => hb (by simp [q'])) (fun q' => hb (by simp [q'])) (fun q' => hb (by simp [q'])) (fun q' => hb (by simp [q'])) q)) hf (Nat.le_refl _) new
    refine ⟨.ref s.heap.objs.size, _, I1, rfl, ⟨_, x, y, u, rfl, I.hok.fresh (Nat.le_refl _), rfl, fun l hl => by rw [I.tuple_inj hl hqx]; exact hx, fun l hl => by rw [I.tuple_inj hl hqy]; exact hy, fun l hl => by rw [I.tuple_inj hl hqz]; exact hu⟩, ⟨z'', ?_, ⟨x1, x2, x3, ?_⟩, ?_, ?_, ?_⟩, fun c hcm => ?_⟩
    · exact (sb.2 _ S.TIz).trans (hk _ _ S.TIz S.TITO S.TIi1 S.TIi2 S.TIi3 hTI)
    · exact (sb.2 _ S.TOz).trans TO'
    · exact d1.1.at fun o q => (sb.2 _ (Ne.symm S.zi1)).trans q
    · exact d2.1.at fun o q => (sb.2 _ (Ne.symm S.zi2)).trans q
    · exact d3.1.at fun o q => (sb.2 _ (Ne.symm S.zi3)).trans q
    · have hlt : c < s.heap.objs.size := by
        have e' : c = z ∨ c = TI ∨ c = TO ∨ c = i1 ∨ c = i2 ∨ c = i3 := by simpa using hcm
        rcases e' with q | q | q | q | q | q
        · rw [q]; exact hzl
        · rw [q]; exact Heap.lt_size hTI
        · rw [q]; exact Heap.lt_size hTO
        · rw [q]; obtain ⟨_, e1, _⟩ := h1; exact Heap.lt_size e1
        · rw [q]; obtain ⟨_, e2, _⟩ := h2; exact Heap.lt_size e2
        · rw [q]; obtain ⟨_, e2, _⟩ := h3; exact Heap.lt_size e2
      rw [upd_ne (Nat.ne_of_lt hlt)]
      exact (hf c hcm).1
  done := by
    intro X hP hw hK hc i pins s σ H E I hf st hg
    subst hP hw hK
    obtain ⟨hz, hTI, ⟨x0, y0, z0, hTO⟩, h1, h2, h3⟩ := st
    obtain ⟨xs, ys, zs, hqx, hqy, hqz, hle, hend⟩ := hg
    obtain ⟨its, rv, p, _⟩ := I.tuple hqx
    obtain ⟨its2, rv2, p2, _⟩ := I.tuple hqy
    obtain ⟨its3, rv3, p3, _⟩ := I.tuple hqz
    have l1 := rv.length
    have l2 := rv2.length
    have l3 := rv3.length
    have hh : X.A.in1.handled = none := I.ok.hd hc
    have na : a ≠ i1 := fun e => by obtain ⟨o, e1, e2, _⟩ := p; obtain ⟨o', e1', e2', _⟩ := h1; rw [e, e1'] at e1; cases e1; rw [e2'] at e2; simp at e2
    have nb : b ≠ i2 := fun e => by obtain ⟨o, e1, e2, _⟩ := p2; obtain ⟨o', e1', e2', _⟩ := h2; rw [e, e1'] at e1; cases e1; rw [e2'] at e2; simp at e2
    have nc : c ≠ i3 := fun e => by obtain ⟨o, e1, e2, _⟩ := p3; obtain ⟨o', e1', e2', _⟩ := h3; rw [e, e1'] at e1; cases e1; rw [e2'] at e2; simp at e2
    have D1 := Draws.tuple (prog := X.prog) (w := X.w) hh i1 a na its.toArray
    have D2 := Draws.tuple (prog := X.prog) (w := X.w) hh i2 b nb its2.toArray
    have D3 := Draws.tuple (prog := X.prog) (w := X.w) hh i3 c nc its3.toArray
    exact wpAny_pyNext_zipD3_end S D1 D2 D3 hz hTI hTO ⟨h1, p⟩ ⟨h2, p2⟩ ⟨h3, p3⟩ (by simp; omega) (by simp; omega) (by simp; omega) (by simp; omega)
      fun h' tk hk => ⟨rfl, I.turnedL (t' := tk) (ch := [z, TI, TO, i1, i2, i3]) (fun c o hb q =>
      hk c o (fun q' => hb (by simp [q'])) (fun q' => hb (by simp [q'])) (fun q' => hb (by simp [q'])) (fun q' => hb (by simp [q'])) (fun q' => hb (by simp [q'])) q) hf⟩
  self := fun A i s Q E st h => wpAny_pyIter_zip st.1 h
def iZip3 (K : PySem.W.Frag) (ta : TA) : TI := fun σ H R => ta σ H fun vs H1 => ∃ a b c xs ys zs, vs = [.ref a, .ref b, .ref c] ∧ SqT K H1 a xs ∧ SqT K H1 b ys ∧ SqT K H1 c zs ∧ R (ItzT3 K a b c) H1
theorem pi_zip3 {X : Cx} {e e2 e3 : Expr} {ta : TA} {p pos tpos : Pos} {elts : List Expr} {kk : Nat} (hg : Gl X "zip") (hm : X.mg "zip" = none) (ha : PA X [e, e2, e3] ta)
    (hs : starEach [e, e2, e3] X.env = (false, eval e X.env) :: starEach [e2, e3] X.env := by rfl) (hpl : (backTo pos (starEach [e2, e3] X.env)).any (·.1) = false := by rfl) :
    PI X (.Tuple elts kk tpos) (.Call (.Name "zip" p) [e, e2, e3] [] pos) (iZip3 X.K ta) := by
  refine ⟨fun pins s σ H R I h => ?_⟩
  refine Call_ (ld_blt I hg hm PyProof.Rows.boot_zip (PyProof.Rows.callWith_type1 (thn (ha.run pos pins s σ H _ I h) fun us s1 ⟨vs, H1, I1, r1, q1⟩ => ?_) hs hpl))
  obtain ⟨a, b, c, xs, ys, zs, ex, hqx, hqy, hqz, q⟩ := q1
  subst ex
  cases r1 with
  | cons r rr =>
    cases rr with
    | cons r' rr =>
      cases rr with
      | cons r'' rr =>
        cases rr
        cases r
        cases r'
        cases r''
        have fresh6 : ∀ d, d ∈ [s1.heap.objs.size + 5, s1.heap.objs.size + 3, s1.heap.objs.size + 4, s1.heap.objs.size, s1.heap.objs.size + 1, s1.heap.objs.size + 2] → FpOk X pins H1 d := fun d hcm => by
          have e' : d = s1.heap.objs.size + 5 ∨ d = s1.heap.objs.size + 3 ∨ d = s1.heap.objs.size + 4 ∨ d = s1.heap.objs.size ∨ d = s1.heap.objs.size + 1 ∨ d = s1.heap.objs.size + 2 := by simpa using hcm
          have hle : s1.heap.objs.size ≤ d := by
            rcases e' with z | z | z | z | z | z
            · rw [z]; exact Nat.le_add_right _ _
            · rw [z]; exact Nat.le_add_right _ _
            · rw [z]; exact Nat.le_add_right _ _
            · rw [z]; exact Nat.le_refl _
            · rw [z]; exact Nat.le_add_right _ _
            · rw [z]; exact Nat.le_add_right _ _
          exact I1.fpOk hle (I1.hok.fresh hle)
        obtain ⟨its, rv, p1, _⟩ := I1.tuple hqx
        obtain ⟨its2, rv2, p2, _⟩ := I1.tuple hqy
        obtain ⟨its3, rv3, p3, _⟩ := I1.tuple hqz
        obtain ⟨o1, ho1, _⟩ := id p1
        obtain ⟨o2, ho2, _⟩ := id p2
        obtain ⟨o3, ho3, _⟩ := id p3
        refine zip_begins3 (begins_tuple a its.toArray) (begins_tuple b its2.toArray) (begins_tuple c its3.toArray) p1 p2 p3 fun h' hz hTI hTO h1 h2 h3 hsz hk => wpAny_pyIter_zip hz ?_
        have I2 : Inv X pins σ H1 { s1 with heap := h' } := I1.kept (t' := s1.toks) hk
        exact ⟨s1.heap.objs.size + 5, [s1.heap.objs.size + 5, s1.heap.objs.size + 3, s1.heap.objs.size + 4, s1.heap.objs.size, s1.heap.objs.size + 1, s1.heap.objs.size + 2], _, _, H1, rfl, I2,
          turn_zipT3 (zip_sep3 (fp1 := [a]) (fp2 := [b]) (fp3 := [c]) (fun d hd => by rw [List.mem_singleton.mp hd]; exact Heap.lt_size ho1) (fun d hd => by rw [List.mem_singleton.mp hd]; exact Heap.lt_size ho2) (fun d hd => by rw [List.mem_singleton.mp hd]; exact Heap.lt_size ho3)),
          ⟨hz, hTI, ⟨_, _, _, hTO⟩, ⟨_, h1, rfl, rfl⟩, ⟨_, h2, rfl, rfl⟩, ⟨_, h3, rfl, rfl⟩⟩, fresh6, q⟩
section
variable {X : Cx} {W : WX} {Z : DX} {K : PySem.W.Frag} {a b c e e2 e3 : Expr} {ta tb te : DTE} {pos p p2 pos2 apos tpos : Pos} {es elts : List Expr} {kk : Nat}
def zip3D (xs ys zs : List PyData) : List Sl := (xs.zip (ys.zip zs)).map fun p => .wt [p.1, p.2.1, p.2.2]
theorem zip3D_len (xs ys zs : List PyData) : (zip3D xs ys zs).length = min xs.length (min ys.length zs.length) := by unfold zip3D; rw [List.length_map, List.length_zip, List.length_zip]
theorem zip3D_get {xs ys zs : List PyData} {i : Nat} {x y z : PyData} (h1 : xs[i]? = some x) (h2 : ys[i]? = some y) (h3 : zs[i]? = some z) : (zip3D xs ys zs)[i]? = some (.wt [x, y, z]) := by
  unfold zip3D
  rw [List.getElem?_map]
  have : (xs.zip (ys.zip zs))[i]? = some (x, y, z) := by
    rw [List.getElem?_zip_eq_some]
    refine ⟨h1, ?_⟩
    rw [List.getElem?_zip_eq_some]
    exact ⟨h2, h3⟩
  rw [this]; rfl
theorem zip_three {w : Om} {D H : Hp} {T : Addr} {x y z : V} {dx dy dz : PyData} (st : StOk K w D H) (hT : H T = none) (rx : Dr K D x dx) (ry : Dr K D y dy) (rz : Dr K D z dz) : Gr w D H w (upd D T (.tup [x, y, z])) (upd H T (.tup [x, y, z])) ∧ StOk K w (upd D T (.tup [x, y, z])) (upd H T (.tup [x, y, z])) ∧ Vr K (upd D T (.tup [x, y, z])) (.ref T) (.wt [dx, dy, dz]) := by
  have g : Gr w D H w (upd D T (.tup [x, y, z])) (upd H T (.tup [x, y, z])) := Gr.newD st hT
  exact ⟨g, st.newD hT, T, _, rfl, SqT.of upd_same, .cons (rx.mono g.dd) (.cons (ry.mono g.dd) (.cons (rz.mono g.dd) .nil))⟩
def dZip3 (ta : DTA) : DTI := fun ρ w R => ta ρ w fun ss w1 => ∃ xs ys zs, ss = [.dat (.tuple xs), .dat (.tuple ys), .dat (.tuple zs)] ∧ R (zip3D xs ys zs) (fun _ => True) w1
theorem di_zip3 {ta : DTA} (hg : Gl X "zip") (hm : X.mg "zip" = none) (ha : DA X W Z [e, e2, e3] ta) (hs : starEach [e, e2, e3] X.env = (false, eval e X.env) :: starEach [e2, e3] X.env := by rfl) (hpl : (backTo pos (starEach [e2, e3] X.env)).any (·.1) = false := by rfl) :
    DI X W Z (.Tuple elts kk tpos) (.Call (.Name "zip" p) [e, e2, e3] [] pos) (dZip3 ta) :=
  pi_weak (pi_zip3 hg hm ha hs hpl) fun σ H R ⟨ρ, w, D, R', rp, xo, h, f⟩ => ⟨ρ, w, D, _, rp, xo, h, fun ss w1 vs D1 H1 h1 g1 s1 rs => by
    obtain ⟨xs, ys, zs, rfl, h1⟩ := h1
    cases rs with
    | @cons v1 _ vs _ r rs =>
    cases rs with
    | @cons v2 _ vs _ r' rs =>
    cases rs with
    | @cons v3 _ vs _ r'' rs =>
    cases rs
    obtain ⟨a, us, rfl, ha, hu⟩ := tup_ok s1 r
    obtain ⟨b, us', rfl, hb, hu'⟩ := tup_ok s1 r'
    obtain ⟨c, us'', rfl, hc, hu''⟩ := tup_ok s1 r''
    refine ⟨a, b, c, us, us', us'', rfl, ha, hb, hc, f _ _ w1 D1 H1 _ h1 g1 s1 ⟨fun i w' D' H' hi st sd o => ?_, fun w' D' H' st sd o => ?_, fun i w' D' H' x H2 hi st sd o y => ?_⟩⟩
    · obtain ⟨ws, e1, e2⟩ := tup_later r st sd
      obtain ⟨ws', e1', e2'⟩ := tup_later r' st sd
      obtain ⟨ws2, e12, e22⟩ := tup_later r'' st sd
      have l1 := e2.length
      have l2 := e2'.length
      have l3 := e22.length
      rw [zip3D_len] at hi
      exact ⟨ws, ws', ws2, ws[i]'(by omega), ws'[i]'(by omega), ws2[i]'(by omega), e1, e1', e12, List.getElem?_eq_getElem _, List.getElem?_eq_getElem _, List.getElem?_eq_getElem _⟩
    · obtain ⟨ws, e1, e2⟩ := tup_later r st sd
      obtain ⟨ws', e1', e2'⟩ := tup_later r' st sd
      obtain ⟨ws2, e12, e22⟩ := tup_later r'' st sd
      have l1 := e2.length
      have l2 := e2'.length
      have l3 := e22.length
      rw [zip3D_len]
      exact ⟨ws, ws', ws2, e1, e1', e12, by omega, by omega⟩
    · obtain ⟨ws, e1, e2⟩ := tup_later r st sd
      obtain ⟨ws', e1', e2'⟩ := tup_later r' st sd
      obtain ⟨ws2, e12, e22⟩ := tup_later r'' st sd
      obtain ⟨T, x0, y0, z0, rfl, hT, rfl, hx, hy, hz⟩ := y
      obtain ⟨dx, k1, k2⟩ := sl_get e2.sl (hx ws e1)
      obtain ⟨dy, k1', k2'⟩ := sl_get e2'.sl (hy ws' e1')
      obtain ⟨dz, k12, k22⟩ := sl_get e22.sl (hz ws2 e12)
      obtain ⟨m1, m2, m3⟩ := zip_three st hT k2 k2' k22
      exact ⟨_, _, m1, m2, zip3D_get k1 k1' k12, m3⟩⟩
theorem de_sortOrP {p3 pos3 p4 : Pos} (hc : X.calm = true) (hg1 : Gl X "sorted") (hm1 : X.mg "sorted" = none) (hg2 : Gl X "set") (hm2 : X.mg "set" = none) (ha : DE X W Z a ta) (hb : DE X W Z b tb)
    (hs : starEach [.BinOp (.Call (.Name "set" p2) [a] [] pos2) .BitOr (.Call (.Name "set" p3) [b] [] pos3) p4] X.env = (false, eval (.BinOp (.Call (.Name "set" p2) [a] [] pos2) .BitOr (.Call (.Name "set" p3) [b] [] pos3) p4) X.env) :: starEach [] X.env := by rfl) (hpl : (backTo pos (starEach [] X.env)).any (·.1) = false := by rfl)
    (hsa : starEach [a] X.env = (false, eval a X.env) :: starEach [] X.env := by rfl) (hpa : (backTo pos2 (starEach [] X.env)).any (·.1) = false := by rfl)
    (hsb : starEach [b] X.env = (false, eval b X.env) :: starEach [] X.env := by rfl) (hpb : (backTo pos3 (starEach [] X.env)).any (·.1) = false := by rfl) :
    DE X W Z (.Call (.Name "sorted" p) [.BinOp (.Call (.Name "set" p2) [a] [] pos2) .BitOr (.Call (.Name "set" p3) [b] [] pos3) p4] [] pos) (dSortOr ta tb) :=
  de_sortOr (c := .Name "x" p4) hc hg1 hm1 hg2 hm2 ha hb hs hpl hsa hpa hsb hpb
end
end DL

set_option Elab.async false
set_option linter.all false
set_option maxRecDepth 100000
set_option maxHeartbeats 4000000
/-! JoiC: contracts and readings of the joins -/
namespace G
open PySem PySem.Spec PyProof.Rows L2 DL
def kv_JOINERS (fn fm ft fp : Addr) : List (Str × Sl) := [("names", .adr fn), ("most", .adr fm), ("last", .adr fm), ("each", .adr ft), ("both", .adr fp)]
def c_joined_names : Ct := fun ss w R => ∃ dk a b : PyData, ss = [.dat dk, .dat a, .dat b] ∧ isW .names a = true ∧ isW .names b = true ∧ fw 1000 .names a = true ∧ fw 1000 .names b = true ∧ R (.dat (jo .names a b)) w
def c_greater : Ct := fun ss w R => ∃ (k : Kn) (dk a b : PyData), (k = .most ∨ k = .last) ∧ ss = [.dat dk, .dat a, .dat b] ∧ isW k a = true ∧ isW k b = true ∧ R (.dat (jo k a b)) w
def c_join (n : Nat) : Ct := fun ss w R => ∃ (k : Kn) (a b : PyData), ss = [.dat k.d, .dat a, .dat b] ∧ k.dep ≤ n ∧ n ≤ 5 ∧ isW k a = true ∧ isW k b = true ∧ fw 1000 k a = true ∧ fw 1000 k b = true ∧ R (.dat (jo k a b)) w
def c_joined_tables (n : Nat) : Ct := fun ss w R => ∃ (k : Kn) (a b : PyData), ss = [.dat (Kn.each k).d, .dat a, .dat b] ∧ k.dep + 1 ≤ n ∧ n ≤ 5 ∧ isW (.each k) a = true ∧ isW (.each k) b = true ∧ fw 1000 (.each k) a = true ∧ fw 1000 (.each k) b = true ∧ R (.dat (jo (.each k) a b)) w
def c_joined_pairs (n : Nat) : Ct := fun ss w R => ∃ (k l : Kn) (a b : PyData), ss = [.dat (Kn.both k l).d, .dat a, .dat b] ∧ k.dep + 1 ≤ n ∧ l.dep + 1 ≤ n ∧ n ≤ 5 ∧ isW (.both k l) a = true ∧ isW (.both k l) b = true ∧ fw 1000 (.both k l) a = true ∧ fw 1000 (.both k l) b = true ∧ R (.dat (jo (.both k l) a b)) w
def unB (k : Kn) (a b : PyData) : Bool := PyData.eqv (jo k a b) b
def c_under : Ct := fun ss w R => ∃ (k : Kn) (a b : PyData), ss = [.dat k.d, .dat a, .dat b] ∧ k.dep ≤ 5 ∧ isW k a = true ∧ isW k b = true ∧ fw 1000 k a = true ∧ fw 1000 k b = true ∧ R (.dat (.bool (unB k a b))) w
theorem len_joined_names {ss w R} (h : c_joined_names ss w R) : ss.length = 3 := by obtain ⟨_, _, _, rfl, _⟩ := h; rfl
theorem len_greater {ss w R} (h : c_greater ss w R) : ss.length = 3 := by obtain ⟨_, _, _, _, _, rfl, _⟩ := h; rfl
theorem len_join {n ss w R} (h : c_join n ss w R) : ss.length = 3 := by obtain ⟨_, _, _, rfl, _⟩ := h; rfl
theorem len_joined_tables {n ss w R} (h : c_joined_tables n ss w R) : ss.length = 3 := by obtain ⟨_, _, _, rfl, _⟩ := h; rfl
theorem len_joined_pairs {n ss w R} (h : c_joined_pairs n ss w R) : ss.length = 3 := by obtain ⟨_, _, _, _, rfl, _⟩ := h; rfl
theorem len_under {ss w R} (h : c_under ss w R) : ss.length = 3 := by obtain ⟨_, _, _, rfl, _⟩ := h; rfl
def N_joined_names : List Str := ["kind", "one", "other"]
def t_joined_names : DTS :=
  (dRet (dCB tupS (dCons (dSortOr (dVar 1) (dVar 2)) dNil)))

def N_greater : List Str := ["kind", "one", "other"]
def t_greater : DTS :=
  (dRet (dCB maxP (dCons (dVar 1) (dCons (dVar 2) dNil))))

def N_joined_tables : List Str := ["kind", "one", "other", "found", "name", "worth"]
def t_joined_tables (cr : Ct) : DTS :=
  (dSeq (dAsg (dDictT (dVar 1)) (dName 3))
  (dSeq (dFor (dSeqI (dVar 2)) (dGTup 2 (dGCons (dName 4) (dGCons (dName 5) dGNil))) (dDPut (dVar 3) (dVar 4) (dIf (dTst (dDIn false (dVar 4) (dVar 3))) (dCall cr [] (dCons (dOp ixS (dVar 0) (dC (.int 1))) (dCons (dDGet (dVar 3) (dVar 4)) (dCons (dVar 5) dNil)))) (dVar 5))))
  (dRet (dCB tupS (dCons (dSortItems (dVar 3)) dNil)))))

def N_joined_pairs : List Str := ["kind", "one", "other", "part", "mine", "theirs"]
def t_joined_pairs (cr : Ct) : DTS :=
  (dRet (dCB tupS (dCons (dLc (dZip3 (dCons (dSl (dVar 0) (dPart (dC (.int 1))) dNoPart) (dCons (dVar 1) (dCons (dVar 2) dNil)))) (dGTup 3 (dGCons (dName 3) (dGCons (dName 4) (dGCons (dName 5) dGNil)))) dYes (dCall cr [] (dCons (dVar 3) (dCons (dVar 4) (dCons (dVar 5) dNil)))) [3, 4, 5]) dNil)))

def N_join : List Str := ["kind", "one", "other", "joiner"]
def t_join (fn fm ft fp : Addr) (cT cP : Ct) : DTS :=
  (dSeq (dAsg (dKIx (kv_JOINERS fn fm ft fp) (dOp ixS (dVar 0) (dC (.int 0)))) (dName 3))
  (dRet (dEither (dCallL 3 fn c_joined_names (dCons (dVar 0) (dCons (dVar 1) (dCons (dVar 2) dNil)))) (dEither (dCallL 3 fm c_greater (dCons (dVar 0) (dCons (dVar 1) (dCons (dVar 2) dNil)))) (dEither (dCallL 3 ft cT (dCons (dVar 0) (dCons (dVar 1) (dCons (dVar 2) dNil)))) (dCallL 3 fp cP (dCons (dVar 0) (dCons (dVar 1) (dCons (dVar 2) dNil)))))))))

def N_under : List Str := ["kind", "one", "other"]
def t_under : DTS :=
  (dRet (dOp (eqS false) (dCall (c_join 5) [] (dCons (dVar 0) (dCons (dVar 1) (dCons (dVar 2) dNil)))) (dVar 2)))

end G

set_option Elab.async false
set_option linter.all false
set_option maxRecDepth 100000
set_option maxHeartbeats 4000000
/-! JoiD: the joins, walked -/
namespace G
open PySem PySem.Spec PyProof.Rows L2 DL
/-! ### lookups -/
theorem get_memN : ∀ {xs : Tb} {z : Str} {e : PyData}, (xs.map (·.1)).Nodup → (getX xs z = some e ↔ (z, e) ∈ xs)
  | [], z, e, _ => by rw [get_nil]; simp
  | p :: r, z, e, h => by
    rw [List.map_cons, List.nodup_cons] at h
    rw [get_cons, List.mem_cons]
    by_cases hz : p.1 = z
    · rw [if_pos hz]
      constructor
      · intro q; exact .inl (Prod.ext hz.symm (Option.some.inj q).symm)
      · rintro (q | q)
        · rw [← q]
        · exact absurd (List.mem_map.mpr ⟨_, q, rfl⟩) (by rw [← hz] at q ⊢; exact h.1)
    · rw [if_neg hz, get_memN h.2]
      constructor
      · exact .inr
      · rintro (q | q)
        · exact absurd (by rw [← q]) hz
        · exact q
theorem srt_nodup {xs : Tb} (h : Srt xs) : (xs.map (·.1)).Nodup := by
  refine List.pairwise_map.mpr (List.Pairwise.imp (fun {a b} h e => ?_) h)
  rw [e] at h; exact ltT_irr h
theorem get_perm {xs ys : Tb} (h : ys.Perm xs) (hn : (xs.map (·.1)).Nodup) (z : Str) : getX ys z = getX xs z := by
  have hn' : (ys.map (·.1)).Nodup := (h.map (·.1)).nodup_iff.mpr hn
  refine Option.ext fun e => ?_
  rw [get_memN hn', get_memN hn]
  exact h.mem_iff
theorem get_map_put : ∀ (xs : Tb) (z : Str) (e : PyData) (y : Str), getX (xs.map fun p => if p.1 = z then (p.1, e) else p) y = if y = z then (getX xs z).map fun _ => e else getX xs y
  | [], z, e, y => by
    show getX [] y = _
    rw [get_nil, get_nil]
    split <;> rfl
  | p :: r, z, e, y => by
    rw [List.map_cons, get_cons, get_cons, get_cons, get_map_put r z e y]
    by_cases h1 : p.1 = z
    · subst h1
      rw [if_pos rfl, if_pos rfl]
      by_cases h2 : p.1 = y
      · rw [if_pos h2, if_pos h2.symm]; rfl
      · rw [if_neg h2, if_neg h2, if_neg (fun q => h2 q.symm), if_neg (fun q => h2 q.symm)]
    · rw [if_neg h1, if_neg h1]
      by_cases h2 : p.1 = y
      · rw [if_pos h2, if_pos h2, if_neg (fun q => h1 (h2.trans q))]
      · rw [if_neg h2, if_neg h2]
theorem get_app : ∀ (xs ys : Tb) (y : Str), getX (xs ++ ys) y = (getX xs y).or (getX ys y)
  | [], ys, y => by rw [get_nil]; rfl
  | p :: r, ys, y => by
    rw [List.cons_append, get_cons, get_cons, get_app r ys y]
    split <;> rfl
theorem get_put (xs : Tb) (z : Str) (e : PyData) (y : Str) : getX (putX xs z e) y = if y = z then some e else getX xs y := by
  unfold putX
  split
  · rename_i h
    rw [get_map_put]
    have : ∃ d, getX xs z = some d := by
      obtain ⟨p, hp, hz⟩ := List.any_eq_true.mp h
      obtain ⟨d, hd, _⟩ := getX_mem (xs := xs) (z := z) (List.mem_map.mpr ⟨p, hp, of_decide_eq_true hz⟩)
      exact ⟨d, hd⟩
    obtain ⟨d, hd⟩ := this
    rw [hd]; rfl
  · rename_i h
    rw [get_app]
    by_cases hy : y = z
    · subst hy
      have : getX xs y = none := by
        cases e1 : getX xs y with
        | none => rfl
        | some d =>
          refine absurd ?_ h
          unfold getX at e1
          cases e2 : xs.find? fun p => decide (p.1 = y) with
          | none => rw [e2] at e1; cases e1
          | some p =>
            have h2 := List.find?_some e2
            exact List.any_eq_true.mpr ⟨p, List.mem_of_find?_eq_some e2, h2⟩
      rw [this, if_pos rfl, get_cons, if_pos rfl]; rfl
    · rw [if_neg hy, get_cons, if_neg (fun q => hy q.symm), get_nil]
      cases getX xs y <;> rfl
theorem get_merge : ∀ {xs acc : Tb} (y : Str), Srt xs → getX (mergeX acc xs) y = (getX xs y).or (getX acc y)
  | [], acc, y, _ => by show getX acc y = _; rw [get_nil]; rfl
  | p :: r, acc, y, h => by
    obtain ⟨a1, a2⟩ := List.pairwise_cons.mp h
    show getX (mergeX (putX acc p.1 p.2) r) y = _
    rw [get_merge y a2, get_put, get_cons]
    by_cases e : y = p.1
    · subst e
      rw [if_pos rfl, if_pos rfl, get_lt a1]; rfl
    · rw [if_neg e, if_neg (fun q => e q.symm)]
theorem get_unit {xs : Tb} (h : OkT (· = .none) xs) (z : Str) : getX xs z = if z ∈ xs.map (·.1) then some .none else none := by
  split
  · rename_i hz
    obtain ⟨e, h1, h2⟩ := getX_mem hz
    rw [h1, (h.get z e h1).2]
  · rename_i hz
    cases e1 : getX xs z with
    | none => rfl
    | some d => exact absurd (List.mem_map.mpr ⟨_, (get_mem h.1).mp e1, rfl⟩) hz
/-! ### names -/
theorem rd_joined_names {ss w R} (h : c_joined_names ss w R) : t_joined_names (endsN R) (startD N_joined_names ss) w := by
  obtain ⟨dk, a, b, rfl, ha, hb, fa, fb, q⟩ := h
  obtain ⟨xs, rfl, o⟩ := isW_namesT.mp ha
  obtain ⟨ys, rfl, o'⟩ := isW_namesT.mp hb
  have l1 := fw_namesT.mp fa
  have l2 := fw_namesT.mp fb
  have e1 : ∀ xs : Tb, sq w (.dat (.tuple (xs.map fun p => .str p.1))) = some (tS (xs.map (·.1))) := fun xs => by
    show some ((xs.map fun p => PyData.str p.1).map Sl.dat) = some ((xs.map (·.1)).map fun z => Sl.dat (.str z))
    rw [List.map_map, List.map_map]; rfl
  refine ⟨_, rfl, xs.map (·.1), e1 xs, by rw [List.length_map]; exact l1, _, rfl, ys.map (·.1), e1 ys, by rw [List.length_map]; exact l2, fun ks p h1 h2 hp => ?_⟩
  refine ⟨_, tupS_ok (ds := ks.map .str) (sqL_adr (by rw [put_same, List.map_map]; rfl)), w, Sub.new hp, ?_⟩
  rw [jo_names o o'] at q
  have : (mrg (fun _ _ => PyData.none) xs ys).map (fun p => PyData.str p.1) = ks.map .str := by
    have ok := mrg_ok none_lat o o'
    have okk : OkT (· = .none) (ks.map fun z => (z, PyData.none)) := ⟨List.pairwise_map.mpr h1, fun p hp => by
      obtain ⟨z, hz, rfl⟩ := List.mem_map.mp hp
      refine ⟨?_, rfl⟩
      rcases (h2 z).mp hz with h | h
      · obtain ⟨t, ht, rfl⟩ := List.mem_map.mp h; exact (o.2 t ht).1
      · obtain ⟨t, ht, rfl⟩ := List.mem_map.mp h; exact (o'.2 t ht).1⟩
    have : mrg (fun _ _ => PyData.none) xs ys = ks.map fun z => (z, PyData.none) := tb_ext ok.1 okk.1 fun z => by
      rw [get_mrg z o.1 o'.1, get_unit o, get_unit o', get_unit okk]
      have ek : (ks.map fun z => (z, PyData.none)).map (·.1) = ks := by rw [List.map_map]; exact List.map_id' _
      rw [ek]
      have hz := h2 z
      by_cases c1 : z ∈ xs.map (·.1) <;> by_cases c2 : z ∈ ys.map (·.1)
      · rw [if_pos c1, if_pos c2, if_pos (hz.mpr (.inl c1))]; rfl
      · rw [if_pos c1, if_neg c2, if_pos (hz.mpr (.inl c1))]; rfl
      · rw [if_neg c1, if_pos c2, if_pos (hz.mpr (.inr c2))]; rfl
      · rw [if_neg c1, if_neg c2, if_neg (fun m => (hz.mp m).elim c1 c2)]; rfl
    rw [this, List.map_map]; rfl
  rw [this] at q
  exact q
/-! ### the greater -/
theorem rd_greater {ss w R} (h : c_greater ss w R) : t_greater (endsN R) (startD N_greater ss) w := by
  obtain ⟨k, dk, a, b, hk, rfl, ha, hb, q⟩ := h
  rcases hk with rfl | rfl
  · obtain ⟨i, rfl, _⟩ := isW_most ha
    obtain ⟨j, rfl, _⟩ := isW_most hb
    exact ⟨_, rfl, _, rfl, _, rfl, w, Sub.refl _, q⟩
  · obtain ⟨i, j, rfl, _⟩ := isW_last ha
    obtain ⟨k, l, rfl, _⟩ := isW_last hb
    refine ⟨_, rfl, _, rfl, _, rfl, w, Sub.refl _, ?_⟩
    exact q
/-! ### pairs -/
theorem rd_joined_pairs (n : Nat) {ss w R} (h : c_joined_pairs n ss w R) : t_joined_pairs (prev c_join n) (endsN R) (startD N_joined_pairs ss) w := by
  obtain ⟨k, l, a, b, rfl, hk, hl, hn, ha, hb, fa, fb, q⟩ := h
  obtain ⟨n, rfl⟩ : ∃ n', n = n' + 1 := ⟨n - 1, by omega⟩
  obtain ⟨a', b', rfl, ha', hb'⟩ := isW_both hb
  obtain ⟨a, b, rfl, ha, hb⟩ := isW_both ha
  have f1 := fw_both fa
  have f2 := fw_both fb
  have lv := line_val
  refine ⟨_, rfl, _, rfl, _, rfl, _, rfl, _, rfl, [k.d, l.d], [a, b], [a', b'], rfl, ?_⟩
  refine ⟨trivial, [.dat k.d, .dat a, .dat a'], rfl, rfl, _, _, rfl, _, _, rfl, _, _, rfl, rfl, ?_⟩
  refine ⟨_, rfl, _, rfl, _, rfl, k, a, a', rfl, by omega, by omega, ha, ha', f1.1, f2.1, by show 0 < sizeLine; omega, ?_⟩
  refine ⟨trivial, [.dat l.d, .dat b, .dat b'], rfl, rfl, _, _, rfl, _, _, rfl, _, _, rfl, rfl, ?_⟩
  refine ⟨_, rfl, _, rfl, _, rfl, l, b, b', rfl, by omega, by omega, hb, hb', f1.2, f2.2, by show 1 < sizeLine; omega, ?_⟩
  refine ⟨trivial, fun p hp => ?_⟩
  exact ⟨_, tupS_ok (ds := [jo k a a', jo l b b']) (sqL_adr put_same), w, Sub.new hp, q⟩
/-! ### tables -/
theorem rd_joined_tables (n : Nat) {ss w R} (h : c_joined_tables n ss w R) : t_joined_tables (prev c_join n) (endsN R) (startD N_joined_tables ss) w := by
  obtain ⟨k, a, b, rfl, hk, hn, ha, hb, fa, fb, q⟩ := h
  obtain ⟨n, rfl⟩ : ∃ n', n = n' + 1 := ⟨n - 1, by omega⟩
  obtain ⟨xs, rfl, o⟩ := isW_eachT.mp ha
  obtain ⟨ys, rfl, o'⟩ := isW_eachT.mp hb
  obtain ⟨l1, f1⟩ := fw_eachT.mp fa
  obtain ⟨l2, f2⟩ := fw_eachT.mp fb
  have lv := line_val
  rw [jo_each] at q
  refine ⟨_, rfl, xs.map fun p => (.inr p.1, p.2), by rw [List.map_map]; rfl, fun fa hfa => ?_⟩
  rw [show (xs.map fun p => ((Sum.inr p.1 : Key), p.2)).map (fun q => (q.1, Sl.dat q.2)) = kvX xs by rw [List.map_map]; rfl, show mergeA [] (kvX xs) = kvX (mergeX [] xs) from mergeA_X xs []]
  obtain ⟨m1, _, m3⟩ := mergeX_ok (P := fun _ _ => True) xs [] (by simp) (fun _ _ => trivial) fun _ _ => trivial
  have m2 : ∀ y, getX (mergeX [] xs) y = getX xs y := fun y => by
    rw [get_merge y o.1, get_nil]; cases getX xs y <;> rfl
  generalize mergeX [] xs = fx at m1 m2 m3
  rw [List.length_nil] at m3
  refine ⟨_, rfl, _, rfl, ?_⟩
  refine loop_inv (fun r' ρ w' => ∃ (rs fx : Tb) (x4 x5 : Option Sl), r' = (rs.map rowP).map Sl.dat ∧ Srt rs ∧ (∀ p ∈ rs, isW k p.2 = true ∧ fw 1000 k p.2 = true) ∧
      ρ = [some (.dat (Kn.each k).d), some (.dat (.tuple (xs.map rowP))), some (.dat (.tuple (ys.map rowP))), some (.adr fa), x4, x5] ∧ (fx.map (·.1)).Nodup ∧ fx.length + rs.length ≤ 2000 ∧ w' = put w fa (.dic (kvX fx)) ∧
      (∀ y, getX rs y = none → getX fx y = oj (jo k) (getX xs y) (getX ys y)) ∧ ∀ y e, getX rs y = some e → getX fx y = getX xs y ∧ oj (jo k) (getX xs y) (getX ys y) = oj (jo k) (getX xs y) (some e))
    ⟨ys, fx, none, none, rfl, o'.1, fun p hp => ⟨(o'.2 p hp).2.1, f2 p hp⟩, rfl, m1, by omega, rfl, fun y h => by rw [h, m2, oj_none], fun y e h => ⟨m2 y, by rw [h]⟩⟩ (fun _ _ _ _ => trivial) ?_ ?_
  · rintro x r' ρ w' ⟨rs, fx, x4, x5, er, hs, hrs, rfl, f3, f4, rfl, i1, i2⟩ ih
    cases rs with
    | nil => cases er
    | cons p rs =>
      obtain ⟨z, e⟩ := p
      rw [List.map_cons, List.map_cons] at er
      obtain ⟨rfl, rfl⟩ := List.cons.inj er
      obtain ⟨a1, a2⟩ := List.pairwise_cons.mp hs
      obtain ⟨w1, w2⟩ := hrs (z, e) List.mem_cons_self
      obtain ⟨j1, j2⟩ := i2 z e (by rw [get_cons, if_pos rfl])
      rw [List.length_cons] at f4
      have ll := putX_len fx z
      -- what the next turn needs
      have nxt : ∀ v, some v = oj (jo k) (getX xs z) (some e) → dLoop (fun _ => True) (dGTup 2 (dGCons (dName 4) (dGCons (dName 5) dGNil))) (dDPut (dVar 3) (dVar 4) (dIf (dTst (dDIn false (dVar 4) (dVar 3))) (dCall (c_join n) [] (dCons (dOp ixS (dVar 0) (dC (.int 1))) (dCons (dDGet (dVar 3) (dVar 4)) (dCons (dVar 5) dNil)))) (dVar 5))) _ ((rs.map rowP).map Sl.dat) [some (.dat (Kn.each k).d), some (.dat (.tuple (xs.map rowP))), some (.dat (.tuple (ys.map rowP))), some (.adr fa), some (.dat (.str z)), some (.dat e)] (put (put w fa (.dic (kvX fx))) fa (.dic (putA (kvX fx) (.inr z) (.dat v)))) := fun v hv => by
        rw [putA_X, put_put]
        have := ll v
        refine ih _ _ ⟨rs, putX fx z v, _, _, rfl, a2, fun p hp => hrs p (List.mem_cons_of_mem _ hp), rfl, putX_nodup f3, by omega, rfl, fun y hy => ?_, fun y d hy => ?_⟩
        · rw [get_put]
          by_cases h : y = z
          · subst h; rw [if_pos rfl, hv, j2]
          · rw [if_neg h]
            exact i1 y (by rw [get_cons, if_neg (fun q => h q.symm)]; exact hy)
        · have h : y ≠ z := fun h => by subst h; rw [get_lt a1] at hy; cases hy
          rw [get_put, if_neg h]
          exact i2 y d (by rw [get_cons, if_neg (fun q => h q.symm)]; exact hy)
      refine ⟨[.dat (.str z), .dat e], rfl, rfl, _, _, rfl, _, _, rfl, rfl, ?_⟩
      have g5 : put w fa (.dic (kvX fx)) fa = some (.dic (kvX fx)) := put_same
      refine ⟨_, rfl, _, rfl, fa, _, _, rfl, g5, rfl, _, rfl, ?_⟩
      rw [getA_X, j1]
      cases e1 : getX xs z with
      | none =>
        refine iteF ⟨_, rfl, _, rfl, _, rfl, fa, _, _, rfl, g5, rfl, by rw [List.length_map]; omega, ?_⟩
        exact nxt e (by rw [e1]; rfl)
      | some d =>
        have m := (get_mem o.1).mp e1
        have hd := (o.2 _ m).2.1
        refine iteT ⟨_, rfl, _, ix_t1, _, rfl, _, rfl, fa, _, _, _, rfl, g5, rfl, (getA_X _ _).trans (by rw [j1, e1]; rfl), _, rfl, ?_⟩
        refine ⟨k, d, e, rfl, by omega, by omega, hd, w1, f1 _ m, w2, ?_⟩
        refine ⟨_, rfl, _, rfl, fa, _, _, rfl, g5, rfl, by rw [List.length_map]; omega, ?_⟩
        exact nxt _ (by rw [e1]; rfl)
  · rintro ρ w' ⟨rs, fx, x4, x5, er, hs, hrs, rfl, f3, f4, rfl, i1, i2⟩
    have er : rs = [] := by cases rs with
      | nil => rfl
      | cons _ _ => cases er
    subst er
    have gf : ∀ y, getX fx y = getX (mrg (jo k) xs ys) y := fun y => by rw [i1 y rfl, get_mrg y o.1 o'.1]
    have ok := mrg_ok (lat k).ne o o'
    have hw : ∀ p ∈ fx, isW k p.2 = true := fun p hp => by
      have := (get_memN (z := p.1) (e := p.2) f3).mpr hp
      rw [gf] at this
      exact (ok.get _ _ this).2.1
    refine ⟨_, rfl, fa, fx, rfl, put_same, f3, fun p hp => ?_, fun p hp r hr => isW_alike k (hw p hp) (hw r hr), fun zs l hperm hlt hl => ?_⟩
    · have := isW_lay k (hw p hp)
      exact ⟨this.1, by omega⟩
    have sz : Srt zs := List.pairwise_map.mp hlt
    have e2 : zs = mrg (jo k) xs ys := tb_ext sz ok.1 fun y => by rw [get_perm hperm f3, gf]
    refine ⟨_, tupS_ok (ds := zs.map rowP) (sqL_adr (by rw [put_same, List.map_map]; rfl)), w, (Sub.new hfa).trans (Sub.new hl), ?_⟩
    rw [e2]
    exact q
theorem rd_join (n : Nat) {fn fm ft fp ss w R} (h : c_join n ss w R) : t_join fn fm ft fp (c_joined_tables n) (c_joined_pairs n) (endsN R) (startD N_join ss) w := by
  obtain ⟨k, a, b, rfl, hk, hn, ha, hb, fa, fb, q⟩ := h
  have fin : ∃ u, Sub u w ∧ R (.dat (jo k a b)) u := ⟨w, Sub.refl _, q⟩
  cases k with
  | names => exact ⟨_, rfl, _, ix_t0, _, _, rfl, rfl, .inl ⟨rfl, _, rfl, _, rfl, _, rfl, _, a, b, rfl, ha, hb, fa, fb, fin⟩⟩
  | most => exact ⟨_, rfl, _, ix_t0, _, _, rfl, rfl, .inr (.inl ⟨rfl, _, rfl, _, rfl, _, rfl, .most, _, a, b, .inl rfl, rfl, ha, hb, fin⟩)⟩
  | last => exact ⟨_, rfl, _, ix_t0, _, _, rfl, rfl, .inr (.inl ⟨rfl, _, rfl, _, rfl, _, rfl, .last, _, a, b, .inr rfl, rfl, ha, hb, fin⟩)⟩
  | each k => exact ⟨_, rfl, _, ix_t0, _, _, rfl, rfl, .inr (.inr (.inl ⟨rfl, _, rfl, _, rfl, _, rfl, k, a, b, rfl, hk, hn, ha, hb, fa, fb, fin⟩))⟩
  | both k l =>
    have hk : max k.dep l.dep + 1 ≤ n := hk
    exact ⟨_, rfl, _, ix_t0, _, _, rfl, rfl, .inr (.inr (.inr ⟨rfl, _, rfl, _, rfl, _, rfl, k, l, a, b, rfl, by omega, by omega, hn, ha, hb, fa, fb, fin⟩))⟩
theorem rd_under {ss w R} (h : c_under ss w R) : t_under (endsN R) (startD N_under ss) w := by
  obtain ⟨k, a, b, rfl, hk, ha, hb, fa, fb, q⟩ := h
  refine ⟨_, rfl, _, rfl, _, rfl, k, a, b, rfl, hk, by decide, ha, hb, fa, fb, ?_⟩
  refine ⟨_, rfl, _, eqS_ok rfl rfl (eq_W ((lat k).cl ha hb) hb (by omega) (by omega)), w, Sub.refl _, ?_⟩
  rw [Bool.bne_false]
  exact q
theorem un_iff {k : Kn} {a b : PyData} (ha : isW k a = true) (hb : isW k b = true) : unB k a b = true ↔ jo k a b = b := isW_eqv k ((lat k).cl ha hb) hb
end G

set_option Elab.async false
set_option linter.all false
set_option maxRecDepth 100000
set_option maxHeartbeats 4000000
/-! DL24: sorted(list of texts); list(d); d.get(k, x) -/
namespace DL
open PySem PySem.Spec PyProof.Rows L2
section
variable {X : Cx} {W : WX} {Z : DX} {K : PySem.W.Frag} {a b c e e2 : Expr} {ta tb tc te : DTE} {pos p p2 pos2 apos : Pos} {es : List Expr} {tr : DTA}
def dSortL (te : DTE) : DTE := fun ρ w R => te ρ w fun s w1 => ∃ ks : List Str, sqL w1 s = some (tS ks) ∧ ∀ ks' p, ks'.Perm ks → ks'.Pairwise LeT → w1 p = none → R (.adr p) (put w1 p (.lst (tS ks')))
theorem de_sortL (hg1 : Gl X "sorted") (hm1 : X.mg "sorted" = none) (he : DE X W Z e te) (hs : starEach [e] X.env = (false, eval e X.env) :: starEach [] X.env := by rfl) (hpl : (backTo pos (starEach [] X.env)).any (·.1) = false := by rfl) :
    DE X W Z (.Call (.Name "sorted" p) [e] [] pos) (dSortL te) :=
  pe_weak (pe_callB DS.cr_sortedT hg1 hm1 (by decide +kernel) (pa_cons he pa_nil hs) (by decide) (by decide) hs hpl)
    fun σ H Q ⟨ρ, w, D, R, rp, xo, h, f⟩ => ⟨ρ, w, D, _, rp, xo, h, fun s w1 v D1 H1 h1 g1 s1 r1 => by
      obtain ⟨ks, hq, h1⟩ := h1
      obtain ⟨q, vs, rfl, hsq, hv⟩ := sqL_ok s1 r1 hq
      have ev := tS_sl hv
      subst ev
      exact ⟨q, ks, rfl, SqL.of hsq, fun ks' r hp hle hr => (f.next g1).nl s1 (fun p hp' => h1 ks' p hp hle hp') (sl_tS ks') r hr⟩⟩
def dListD (te : DTE) : DTE := fun ρ w R => te ρ w fun s w1 => ∃ (q : Addr) (kvs : List (Key × Sl)) (ks : List Str), s = .adr q ∧ w1 q = some (.dic kvs) ∧ kvs.map (·.1) = ks.map Sum.inr ∧ ∀ p, w1 p = none → R (.adr p) (put w1 p (.lst (tS ks)))
theorem de_listD (hc : X.calm = true) (hg1 : Gl X "list") (hm1 : X.mg "list" = none) (he : DE X W Z e te) (hs : starEach [e] X.env = (false, eval e X.env) :: starEach [] X.env := by rfl) (hpl : (backTo pos (starEach [] X.env)).any (·.1) = false := by rfl) :
    DE X W Z (.Call (.Name "list" p) [e] [] pos) (dListD te) :=
  pe_weak (pe_callTy (call_list_dK hc) hg1 hm1 (by decide +kernel) (pa_cons he pa_nil hs) (by decide) (by decide) hs hpl)
    fun σ H Q ⟨ρ, w, D, R, rp, xo, h, f⟩ => ⟨ρ, w, D, _, rp, xo, h, fun s w1 v D1 H1 h1 g1 s1 r1 => by
      obtain ⟨q, kvs, ks, rfl, hw, hk, h1⟩ := h1
      obtain ⟨ms, hH, hv⟩ := s1.own q _ hw
      have r1' : v = .ref q := r1
      subst r1'
      have ek : (ms.map fun kv => kV kv.1) = ks.map V.str := by
        have : (ms.map fun kv => kV kv.1) = (ms.map (·.1)).map kV := by rw [List.map_map]; rfl
        rw [this, kva_keys hv, hk, List.map_map]; rfl
      refine ⟨q, ms, rfl, hH, ?_⟩
      rw [ek]
      exact fun r hr => (f.next g1).nl s1 (fun p hp' => h1 p hp') (sl_tS ks) r hr⟩
def dDGet2 (to ti tv : DTE) : DTE := fun ρ w R => to ρ w fun s w1 => (∃ (q : Addr) (kvs : List (Key × Sl)), s = .adr q ∧ w1 q = some (.dic kvs)) ∧ ti ρ w1 fun y w2 => tv ρ w2 fun x w3 => ∃ a kvs k, s = .adr a ∧ w3 a = some (.dic kvs) ∧ keyOfS y = some k ∧ R ((valS kvs k).getD x) w3
theorem de_dget2 (hu : X.A.units + 64 < cLine) (ha : DE X W Z a ta) (hb : DE X W Z b tb) (hc : DE X W Z c tc) (m : M2 X a "get" apos b c pos := by exact ⟨rfl, rfl, rfl, rfl⟩) : DE X W Z (.Call (.Attribute a "get" apos) [b, c] [] pos) (dDGet2 ta tb tc) :=
  pe_weak (pe_dget2 (by omega) ha hb hc m) fun σ H Q ⟨ρ, w, D, R, rp, xo, h, f⟩ => ⟨ρ, w, D, _, rp, xo, h, fun s w1 v D1 H1 h1 g1 s1 r1 => by
    obtain ⟨⟨q, kvs0, rfl, hw0⟩, h1⟩ := h1
    obtain ⟨ms, hH, hv⟩ := s1.own q _ hw0
    have r1' : v = .ref q := r1
    subst r1'
    refine ⟨q, rfl, .inl ⟨ms, .inl hH⟩, ρ, w1, D1, _, rp.next g1.dd s1, xo.next g1, h1, fun y w2 u D2 H2 h2 g2 s2 r2 => ?_⟩
    refine ⟨ρ, w2, D2, _, rp.next (g1.trans g2).dd s2, xo.next (g1.trans g2), h2, fun x w3 t D3 H3 h3 g3 s3 r3 => ?_⟩
    obtain ⟨q', kvs, k, eq, hw, hk, hR⟩ := h3
    cases eq
    obtain ⟨ns, hH3, hv3⟩ := s3.own q _ hw
    have eu : u = kV k := key_rel r2 hk
    subst eu
    refine ⟨_, DGet.k hH3, ?_⟩
    cases e1 : valS kvs k with
    | none =>
      rw [e1] at hR
      rw [kva_no hv3 e1]
      exact (f.next ((g1.trans g2).trans g3)).v s3 hR r3
    | some z =>
      rw [e1] at hR
      obtain ⟨z0, e2, e3⟩ := kva_get hv3 e1
      rw [e2]
      exact (f.next ((g1.trans g2).trans g3)).v s3 hR e3⟩
end
end DL

set_option Elab.async false
set_option linter.all false
set_option maxRecDepth 100000
set_option maxHeartbeats 4000000
/-! JolA: the law's own join -/
namespace G
open PySem PySem.Spec PyProof.Rows L2 DL
def c_law_joined (n : Nat) : Ct := fun ss w R => ∃ (k : Kn) (a b : PyData), ss = [.dat k.d, .dat a, .dat b] ∧ k.dep ≤ n ∧ n ≤ 5 ∧ isW k a = true ∧ isW k b = true ∧ fw 1000 k a = true ∧ fw 1000 k b = true ∧ R (.dat (jo k a b)) w
theorem len_law_joined {n ss w R} (h : c_law_joined n ss w R) : ss.length = 3 := by obtain ⟨_, _, _, rfl, _⟩ := h; rfl
def N_law_joined : List Str := ["kind", "one", "other", "word", "mine", "theirs", "least", "names", "n", "name"]
def t_law_joined (cr : Ct) : DTS :=
  (dSeq (dAsg (dOp ixS (dVar 0) (dC (.int 0))) (dName 3))
  (dSeq (dIfS (dTst (dOp (eqS false) (dVar 3) (dC (.str "names")))) (dRet (dFz (dCB tupS (dCons (dSortL (dFz (dOp addS (dFz (dCB listS (dCons (dVar 1) dNil))) (dFz (dLc (dSeqI (dVar 2)) (dName 9) (dTst (dOp (inS true) (dVar 9) (dVar 1))) (dVar 9) [9]))))) dNil)))) dNext)
  (dSeq (dIfS (dTst (dOp (eqS false) (dVar 3) (dC (.str "each")))) (dSeq (dAsg (dDictT (dVar 1)) (dName 4))
  (dSeq (dAsg (dDictT (dVar 2)) (dName 5))
  (dSeq (dAsg (dCall (c_law_least 5) [] (dCons (dOp ixS (dVar 0) (dC (.int 1))) dNil)) (dName 6))
  (dSeq (dAsg (dFz (dSortSet (dFz (dOp addS (dFz (dListD (dVar 4))) (dFz (dListD (dVar 5))))))) (dName 7))
  (dRet (dFz (dCB tupS (dCons (dFz (dLc (dSeqI (dVar 7)) (dName 8) dYes (dTup (dDats (dVar 8) (dDats (dCall cr [] (dCons (dOp ixS (dVar 0) (dC (.int 1))) (dCons (dDGet2 (dVar 4) (dVar 8) (dVar 6)) (dCons (dDGet2 (dVar 5) (dVar 8) (dVar 6)) dNil)))) dNilD))) [8])) dNil)))))))) dNext)
  (dSeq (dIfS (dTst (dOp (eqS false) (dVar 3) (dC (.str "both")))) (dRet (dFz (dTup (dDats (dCall cr [] (dCons (dOp ixS (dVar 0) (dC (.int 1))) (dCons (dOp ixS (dVar 1) (dC (.int 0))) (dCons (dOp ixS (dVar 2) (dC (.int 0))) dNil)))) (dDats (dCall cr [] (dCons (dOp ixS (dVar 0) (dC (.int 2))) (dCons (dOp ixS (dVar 1) (dC (.int 1))) (dCons (dOp ixS (dVar 2) (dC (.int 1))) dNil)))) dNilD))))) dNext)
  (dRet (dFz (dIf (dTst (dOp ltP (dVar 1) (dVar 2))) (dVar 2) (dVar 1))))))))

theorem names_jo {xs ys : Tb} (o : OkT (· = .none) xs) (o' : OkT (· = .none) ys) {ks : List Str} (h1 : ks.Pairwise LtT) (h2 : ∀ k, k ∈ ks ↔ k ∈ xs.map (·.1) ∨ k ∈ ys.map (·.1)) : jo .names (.tuple (xs.map fun p => .str p.1)) (.tuple (ys.map fun p => .str p.1)) = .tuple (ks.map .str) := by
  rw [jo_names o o']
  have ok := mrg_ok none_lat o o'
  have okk : OkT (· = .none) (ks.map fun z => (z, PyData.none)) := ⟨List.pairwise_map.mpr h1, fun p hp => by
    obtain ⟨z, hz, rfl⟩ := List.mem_map.mp hp
    refine ⟨?_, rfl⟩
    rcases (h2 z).mp hz with h | h
    · obtain ⟨t, ht, rfl⟩ := List.mem_map.mp h; exact (o.2 t ht).1
    · obtain ⟨t, ht, rfl⟩ := List.mem_map.mp h; exact (o'.2 t ht).1⟩
  have : mrg (fun _ _ => PyData.none) xs ys = ks.map fun z => (z, PyData.none) := tb_ext ok.1 okk.1 fun z => by
    rw [get_mrg z o.1 o'.1, get_unit o, get_unit o', get_unit okk]
    have ek : (ks.map fun z => (z, PyData.none)).map (·.1) = ks := by rw [List.map_map]; exact List.map_id' _
    rw [ek]
    have hz := h2 z
    by_cases c1 : z ∈ xs.map (·.1) <;> by_cases c2 : z ∈ ys.map (·.1)
    · rw [if_pos c1, if_pos c2, if_pos (hz.mpr (.inl c1))]; rfl
    · rw [if_pos c1, if_neg c2, if_pos (hz.mpr (.inl c1))]; rfl
    · rw [if_neg c1, if_pos c2, if_pos (hz.mpr (.inr c2))]; rfl
    · rw [if_neg c1, if_neg c2, if_neg (fun m => (hz.mp m).elim c1 c2)]; rfl
  rw [this, List.map_map]; rfl
theorem get_mapz (g : Str → PyData) (y : Str) : ∀ ks : List Str, getX (ks.map fun z => (z, g z)) y = if y ∈ ks then some (g y) else none
  | [] => by rw [List.map_nil, get_nil, if_neg (by simp)]
  | z :: ks => by
    rw [List.map_cons, get_cons, get_mapz g y ks]
    by_cases h : z = y
    · subst h; rw [if_pos rfl, if_pos List.mem_cons_self]
    · rw [if_neg h]
      by_cases h2 : y ∈ ks
      · rw [if_pos h2, if_pos (List.mem_cons_of_mem _ h2)]
      · rw [if_neg h2, if_neg]
        intro m
        rcases List.mem_cons.mp m with e | e
        · exact h e.symm
        · exact h2 e
theorem flat_all (ks : List Str) : (ks.map PyData.str).all flatD = true := by
  rw [List.all_map, List.all_eq_true]
  intro z _; rfl
theorem in_strs {n : Bool} {w : Om} {z : Str} {ks : List Str} : inS n w (.dat (.str z)) (.dat (.tuple (ks.map .str))) = some (.v (.dat (.bool (inD n (.str z) (ks.map .str))))) := by
  show ((some ((ks.map PyData.str).map Sl.dat)).bind fun xs => (xs.mapM datOf).bind fun ds => if flatD (.str z) && ds.all flatD then some (Ou.v (.dat (.bool (inD n (.str z) ds)))) else none) = _
  show (((ks.map PyData.str).map Sl.dat).mapM datOf).bind (fun ds => if flatD (.str z) && ds.all flatD then some (Ou.v (.dat (.bool (inD n (.str z) ds)))) else none) = _
  rw [mapM_dat']
  show (if flatD (.str z) && (ks.map PyData.str).all flatD then some (Ou.v (.dat (.bool (inD n (.str z) (ks.map .str))))) else none) = _
  rw [flat_all]
  rfl
end G

set_option Elab.async false
set_option linter.all false
set_option maxRecDepth 100000
set_option maxHeartbeats 4000000
/-! JolB: the law's own join, walked -/
namespace G
open PySem PySem.Spec PyProof.Rows L2 DL
theorem frzS {ks : List Str} {w : Om} {p : Addr} {k : PyData → Om → Prop} (hp : w p = none) (h : k (.list (ks.map .str)) w) : frz (.adr p) (put w p (.lst (tS ks))) k :=
  ⟨ks.map .str, by rw [put_same, List.map_map]; rfl, by rw [del_put hp]; exact h⟩
theorem in_not {z : Str} {ks : List Str} : inD true (.str z) (ks.map .str) = true ↔ z ∉ ks := by
  show (!((ks.map PyData.str).any fun y => PyData.eqv y (.str z))) = true ↔ _
  rw [Bool.not_eq_true', List.any_map, List.any_eq_false]
  constructor
  · intro h m
    exact h z m (eqv_str.mpr rfl)
  · intro h x hx e
    have : PyData.str x = .str z := eqv_str.mp e
    cases this
    exact h hx
theorem rd_law_joined (n : Nat) {ss w R} (h : c_law_joined n ss w R) : t_law_joined (prev c_law_joined n) (endsN R) (startD N_law_joined ss) w := by
  obtain ⟨k, a, b, rfl, hk, hn, ha, hb, fa, fb, q⟩ := h
  have kp := k.dep_pos
  have lv := line_val
  obtain ⟨n, rfl⟩ : ∃ n', n = n' + 1 := ⟨n - 1, by omega⟩
  cases k with
  | names =>
    obtain ⟨xs, rfl, o⟩ := isW_namesT.mp ha
    obtain ⟨ys, rfl, o'⟩ := isW_namesT.mp hb
    have l1 := fw_namesT.mp fa
    have l2 := fw_namesT.mp fb
    have ex : ∀ xs : Tb, (xs.map fun p => PyData.str p.1) = (xs.map (·.1)).map .str := fun xs => by rw [List.map_map]; rfl
    have n1 := srt_nodup o.1
    have n2 := srt_nodup o'.1
    have fin : ∀ ks : List Str, ks.Pairwise LtT → (∀ k, k ∈ ks ↔ k ∈ xs.map (·.1) ∨ k ∈ ys.map (·.1)) → R (.dat (.tuple (ks.map .str))) w := fun ks h1 h2 => by
      rw [← names_jo o o' h1 h2]; exact q
    rw [ex xs, ex ys]
    have l1 : (xs.map (·.1)).length ≤ 1000 := by rw [List.length_map]; exact l1
    have l2 : (ys.map (·.1)).length ≤ 1000 := by rw [List.length_map]; exact l2
    generalize xs.map (·.1) = ms at l1 n1 fin
    generalize ys.map (·.1) = ns at l2 n2 fin
    refine ⟨_, rfl, _, ix_t0, ?_⟩
    refine ⟨_, rfl, _, rfl, _, rfl, iteT ?_⟩
    refine ⟨_, rfl, _, listS_ok rfl, ?_⟩
    refine frzM (by rw [List.length_map]; omega) ?_
    refine ⟨_, rfl, _, rfl, ?_⟩
    refine lc_filter (w := w) (i := 9) (inD true · (ms.map .str)) trivial (by show 9 < 10; decide) (ns.map PyData.str) [] (fun d hd C hC => ?_) (sq_line (by rw [List.length_map, List.length_nil]; omega)) fun p hp => ?_
    · obtain ⟨z, hz, rfl⟩ := List.mem_map.mp hd
      exact ⟨_, rfl, _, rfl, _, in_strs, _, rfl, hC⟩
    rw [List.nil_append, show ((ns.map PyData.str).filter (inD true · (ms.map .str))) = (ns.filter fun z => inD true (.str z) (ms.map .str)).map .str by rw [List.filter_map]; rfl]
    refine ⟨_, put_same, ?_⟩
    rw [del_put hp]
    generalize hf : (ns.filter fun z => inD true (.str z) (ms.map .str)) = fs
    have lf : fs.length ≤ ns.length := by rw [← hf]; exact List.length_filter_le _ _
    have mf : ∀ z, z ∈ fs ↔ z ∈ ns ∧ z ∉ ms := fun z => by rw [← hf, List.mem_filter, in_not]
    have nf : fs.Nodup := by rw [← hf]; exact List.Nodup.sublist List.filter_sublist n2
    refine ⟨_, addL, ?_⟩
    refine frzM (by rw [List.length_append, List.length_map, List.length_map]; omega) ?_
    refine ⟨ms ++ fs, by show some (((ms.map PyData.str) ++ (fs.map PyData.str)).map Sl.dat) = _; rw [← List.map_append, List.map_map]; rfl, fun ks p hperm hle hp => ?_⟩
    refine ⟨_, tupS_ok (ds := ks.map .str) (sqL_adr (by rw [put_same, List.map_map]; rfl)), w, Sub.new hp, ?_⟩
    have nk : ks.Nodup := hperm.nodup_iff.mpr (List.nodup_append.mpr ⟨n1, nf, fun a ha b hb e => by rw [e] at ha; exact ((mf b).mp hb).2 ha⟩)
    refine fin ks (DS.lt_of_nodup hle nk) fun z => ?_
    rw [hperm.mem_iff, List.mem_append, mf]
    constructor
    · rintro (h | h)
      · exact .inl h
      · exact .inr h.1
    · rintro (h | h)
      · exact .inl h
      · by_cases hm : z ∈ ms
        · exact .inl hm
        · exact .inr ⟨h, hm⟩
  | most =>
    obtain ⟨i, rfl, _⟩ := isW_most ha
    obtain ⟨j, rfl, _⟩ := isW_most hb
    refine ⟨_, rfl, _, ix_t0, ?_⟩
    refine ⟨_, rfl, _, rfl, _, rfl, iteF ?_⟩
    refine ⟨_, rfl, _, rfl, _, rfl, iteF ?_⟩
    refine ⟨_, rfl, _, rfl, _, rfl, iteF ?_⟩
    have q : R (.dat (.int (if j > i then j else i))) w := q
    refine ⟨_, rfl, _, rfl, _, rfl, _, rfl, ?_⟩
    by_cases h : i < j
    · rw [if_pos h] at q
      rw [decide_eq_true h]
      exact iteT ⟨_, rfl, w, Sub.refl _, q⟩
    · rw [if_neg h] at q
      rw [decide_eq_false h]
      exact iteF ⟨_, rfl, w, Sub.refl _, q⟩
  | last =>
    obtain ⟨i, j, rfl, _⟩ := isW_last ha
    obtain ⟨i', j', rfl, _⟩ := isW_last hb
    refine ⟨_, rfl, _, ix_t0, ?_⟩
    refine ⟨_, rfl, _, rfl, _, rfl, iteF ?_⟩
    refine ⟨_, rfl, _, rfl, _, rfl, iteF ?_⟩
    refine ⟨_, rfl, _, rfl, _, rfl, iteF ?_⟩
    rw [jo_last] at q
    refine ⟨_, rfl, _, rfl, _, rfl, _, rfl, ?_⟩
    by_cases h : i < i' ∨ i = i' ∧ j < j'
    · rw [if_pos h] at q
      rw [decide_eq_true h]
      exact iteT ⟨_, rfl, w, Sub.refl _, q⟩
    · rw [if_neg h] at q
      rw [decide_eq_false h]
      exact iteF ⟨_, rfl, w, Sub.refl _, q⟩
  | both k l =>
    have hk : max k.dep l.dep + 1 ≤ n + 1 := hk
    obtain ⟨a', b', rfl, ha', hb'⟩ := isW_both hb
    obtain ⟨a, b, rfl, ha, hb⟩ := isW_both ha
    have f1 := fw_both fa
    have f2 := fw_both fb
    refine ⟨_, rfl, _, ix_t0, ?_⟩
    refine ⟨_, rfl, _, rfl, _, rfl, iteF ?_⟩
    refine ⟨_, rfl, _, rfl, _, rfl, iteF ?_⟩
    refine ⟨_, rfl, _, rfl, _, rfl, iteT ?_⟩
    refine ⟨_, rfl, _, ix_t1, _, rfl, _, ix_t0, _, rfl, _, ix_t0, k, a, a', rfl, by omega, by omega, ha, ha', f1.1, f2.1, ?_⟩
    refine ⟨_, rfl, _, ix_t2, _, rfl, _, ix_t1, _, rfl, _, ix_t1, l, b, b', rfl, by omega, by omega, hb, hb', f1.2, f2.2, ?_⟩
    exact ⟨by show 2 ≤ sizeLine; omega, w, Sub.refl _, q⟩
  | each k =>
    have hk : k.dep + 1 ≤ n + 1 := hk
    obtain ⟨xs, rfl, o⟩ := isW_eachT.mp ha
    obtain ⟨ys, rfl, o'⟩ := isW_eachT.mp hb
    obtain ⟨l1, f1⟩ := fw_eachT.mp fa
    obtain ⟨l2, f2⟩ := fw_eachT.mp fb
    rw [jo_each] at q
    have L := lat k
    -- the dict of a table
    have mk : ∀ xs : Tb, Srt xs → ∃ fx : Tb, mergeA [] (kvX xs) = kvX fx ∧ (∀ y, getX fx y = getX xs y) ∧ fx.length ≤ xs.length ∧ ∀ z, z ∈ fx.map (·.1) ↔ z ∈ xs.map (·.1) := fun xs hs => by
      obtain ⟨m1, _, m3⟩ := mergeX_ok (P := fun _ _ => True) xs [] (by simp) (fun _ _ => trivial) fun _ _ => trivial
      have m2 : ∀ y, getX (mergeX [] xs) y = getX xs y := fun y => by
        rw [get_merge y hs, get_nil]; cases getX xs y <;> rfl
      have mem : ∀ {ts : Tb}, (ts.map (·.1)).Nodup → ∀ z, z ∈ ts.map (·.1) ↔ ∃ e, getX ts z = some e := fun {ts} hn z => by
        constructor
        · intro h; obtain ⟨e, h1, _⟩ := getX_mem h; exact ⟨e, h1⟩
        · rintro ⟨e, h⟩; exact List.mem_map.mpr ⟨_, (get_memN hn).mp h, rfl⟩
      refine ⟨mergeX [] xs, mergeA_X xs [], m2, by simpa using m3, fun z => ?_⟩
      rw [mem m1, mem (srt_nodup hs)]
      constructor
      · rintro ⟨e, h⟩; exact ⟨e, by rw [← m2]; exact h⟩
      · rintro ⟨e, h⟩; exact ⟨e, by rw [m2]; exact h⟩
    obtain ⟨fx, x1, x2, x3, x4⟩ := mk xs o.1
    obtain ⟨fy, y1, y2, y3, y4⟩ := mk ys o'.1
    have ek : ∀ xs : Tb, (xs.map fun p => ((Sum.inr p.1 : Key), p.2)).map (fun q => (q.1, Sl.dat q.2)) = kvX xs := fun xs => by rw [List.map_map]; rfl
    refine ⟨_, rfl, _, ix_t0, ?_⟩
    refine ⟨_, rfl, _, rfl, _, rfl, iteF ?_⟩
    refine ⟨_, rfl, _, rfl, _, rfl, iteT ?_⟩
    refine ⟨_, rfl, xs.map fun p => (.inr p.1, p.2), by rw [List.map_map]; rfl, fun pa hpa => ?_⟩
    rw [ek, x1]
    refine ⟨_, rfl, ys.map fun p => (.inr p.1, p.2), by rw [List.map_map]; rfl, fun pb hpb => ?_⟩
    rw [ek, y1]
    have hne : pa ≠ pb := fun e => by rw [← e, put_same] at hpb; cases hpb
    have ga : put (put w pa (.dic (kvX fx))) pb (.dic (kvX fy)) pa = some (.dic (kvX fx)) := by rw [put_ne hne, put_same]
    have gb : put (put w pa (.dic (kvX fx))) pb (.dic (kvX fy)) pb = some (.dic (kvX fy)) := put_same
    have sub : Sub w (put (put w pa (.dic (kvX fx))) pb (.dic (kvX fy))) := (Sub.new hpa).trans (Sub.new hpb)
    generalize put (put w pa (.dic (kvX fx))) pb (.dic (kvX fy)) = w2 at ga gb sub
    refine ⟨_, rfl, _, ix_t1, k, rfl, by omega, ?_⟩
    have keys : ∀ fx : Tb, (kvX fx).map (·.1) = (fx.map (·.1)).map Sum.inr := fun fx => by rw [List.map_map, List.map_map]; rfl
    refine ⟨_, rfl, pa, kvX fx, fx.map (·.1), rfl, ga, keys fx, fun p hp => frzS hp ?_⟩
    refine ⟨_, rfl, pb, kvX fy, fy.map (·.1), rfl, gb, keys fy, fun p hp => frzS hp ?_⟩
    refine ⟨_, addL, ?_⟩
    refine frzM (by rw [List.length_append, List.length_map, List.length_map, List.length_map, List.length_map]; omega) ?_
    refine ⟨fx.map (·.1) ++ fy.map (·.1), by show some (((fx.map (·.1)).map PyData.str ++ (fy.map (·.1)).map PyData.str).map Sl.dat) = _; rw [← List.map_append, List.map_map]; rfl, by rw [List.length_append, List.length_map, List.length_map]; omega, fun ks p h1 h2 hp => frzS hp ?_⟩
    have hks : ∀ z, z ∈ ks ↔ z ∈ xs.map (·.1) ∨ z ∈ ys.map (·.1) := fun z => by rw [h2, List.mem_append, x4, y4]
    have lk : ks.length ≤ 2000 := by
      have := nodup_len (lt_nodup h1) fun z hz' => (h2 z).mp hz'
      rw [List.length_append, List.length_map, List.length_map] at this; omega
    refine ⟨_, rfl, _, rfl, ?_⟩
    refine lc_map (w := w2) (fun x => .dat (.tuple [.str (zz x), jo k ((getX xs (zz x)).getD (botD k)) ((getX ys (zz x)).getD (botD k))])) trivial ((ks.map PyData.str).map Sl.dat) [] (fun x hx C hC => ?_) (sq_line (by rw [List.length_map, List.length_map, List.length_nil]; omega)) fun p2 hp2 => ?_
    · obtain ⟨d, hd, rfl⟩ := List.mem_map.mp hx
      obtain ⟨z, hz, rfl⟩ := List.mem_map.mp hd
      have ev : ∀ {fx xs : Tb}, (∀ y, getX fx y = getX xs y) → (valS (kvX fx) (.inr z)).getD (.dat (botD k)) = .dat ((getX xs z).getD (botD k)) := fun {fx xs} h => by
        rw [getA_X, h]; cases getX xs z <;> rfl
      have wv : ∀ {xs : Tb}, OkT (NB k) xs → (∀ p ∈ xs, fw 1000 k p.2 = true) → isW k ((getX xs z).getD (botD k)) = true ∧ fw 1000 k ((getX xs z).getD (botD k)) = true := fun {xs} o f => by
        cases e : getX xs z with
        | none => exact ⟨isW_bot k, fw_bot _ k⟩
        | some d => exact ⟨(o.get z d e).2.1, f _ ((get_mem o.1).mp e)⟩
      have e4 := ev x2
      have e5 := ev y2
      obtain ⟨a1, a2⟩ := wv o f1
      obtain ⟨b1, b2⟩ := wv o' f2
      refine ⟨_, rfl, _, rfl, _, ix_t1, _, rfl, ⟨pa, _, rfl, ga⟩, _, rfl, _, rfl, pa, _, .inr z, rfl, ga, rfl, ?_⟩
      rw [e4]
      refine ⟨_, rfl, ⟨pb, _, rfl, gb⟩, _, rfl, _, rfl, pb, _, .inr z, rfl, gb, rfl, ?_⟩
      rw [e5]
      exact ⟨k, _, _, rfl, by omega, by omega, a1, b1, a2, b2, by show 2 ≤ sizeLine; omega, hC⟩
    rw [List.nil_append, show ((ks.map PyData.str).map Sl.dat).map (fun x => Sl.dat (.tuple [.str (zz x), jo k ((getX xs (zz x)).getD (botD k)) ((getX ys (zz x)).getD (botD k))])) = ((ks.map fun z => (z, jo k ((getX xs z).getD (botD k)) ((getX ys z).getD (botD k)))).map rowP).map Sl.dat by rw [List.map_map, List.map_map, List.map_map, List.map_map]; rfl]
    have er : mrg (jo k) xs ys = ks.map fun z => (z, jo k ((getX xs z).getD (botD k)) ((getX ys z).getD (botD k))) := tb_ext (mrg_srt o.1) (List.pairwise_map.mpr h1) fun z => by
      rw [get_mrg z o.1 o'.1, get_mapz (fun z => jo k ((getX xs z).getD (botD k)) ((getX ys z).getD (botD k)))]
      have no : ∀ {ts : Tb}, z ∉ ts.map (·.1) → Srt ts → getX ts z = none := fun {ts} h hs => by
        cases e : getX ts z with
        | none => rfl
        | some d => exact absurd (List.mem_map.mpr ⟨_, (get_mem hs).mp e, rfl⟩) h
      have yes : ∀ {ts : Tb}, OkT (NB k) ts → z ∈ ts.map (·.1) → ∃ e, getX ts z = some e ∧ isW k e = true := fun {ts} o h => by
        obtain ⟨e, h1, _⟩ := getX_mem h
        exact ⟨e, h1, (o.get z e h1).2.1⟩
      by_cases c1 : z ∈ xs.map (·.1) <;> by_cases c2 : z ∈ ys.map (·.1)
      · obtain ⟨u, e1, _⟩ := yes o c1
        obtain ⟨v, e2, _⟩ := yes o' c2
        rw [if_pos ((hks z).mpr (.inl c1)), e1, e2]; rfl
      · obtain ⟨u, e1, wu⟩ := yes o c1
        rw [if_pos ((hks z).mpr (.inl c1)), e1, no c2 o'.1]
        exact congrArg some (L.bot' wu).symm
      · obtain ⟨v, e2, wv⟩ := yes o' c2
        rw [if_pos ((hks z).mpr (.inr c2)), e2, no c1 o.1]
        exact congrArg some (L.bot wv).symm
      · rw [if_neg (fun m => ((hks z).mp m).elim c1 c2), no c1 o.1, no c2 o'.1]; rfl
    rw [er] at q
    refine ⟨_, put_same, ?_⟩
    rw [del_put hp2]
    exact ⟨_, tupS_ok (ds := (ks.map fun z => (z, jo k ((getX xs z).getD (botD k)) ((getX ys z).getD (botD k)))).map rowP) rfl, w, sub, q⟩
end G

set_option Elab.async false
set_option linter.all false
set_option maxRecDepth 100000
set_option maxHeartbeats 4000000
/-! JoiE: calls of join and under at worths of bounded size -/
namespace G
open PySem PySem.Spec PyProof.Rows L2 DL
structure Wk (k : Kn) (r : Nat) (d : PyData) : Prop where
  w : isW k d = true
  f : fw r k d = true
theorem Wk.jo {k : Kn} {r s : Nat} {a b : PyData} (ha : Wk k r a) (hb : Wk k s b) : Wk k (r + s) (jo k a b) := ⟨(lat k).cl ha.w hb.w, fw_jo k ha.w hb.w ha.f hb.f⟩
theorem Wk.mono {k : Kn} {r s : Nat} {a : PyData} (h : Wk k r a) (hs : r ≤ s) : Wk k s a := ⟨h.w, fw_mono hs k h.f⟩
theorem Wk.bot (k : Kn) (r : Nat) : Wk k r (botD k) := ⟨isW_bot k, fw_bot r k⟩
theorem c_jo {k : Kn} {r s : Nat} {a b : PyData} {w : Om} {R : DQ} (hk : k.dep ≤ 5) (ha : Wk k r a) (hb : Wk k s b) (h : R (.dat (jo k a b)) w) (hr : r ≤ 1000 := by omega) (hs : s ≤ 1000 := by omega) : c_join 5 [.dat k.d, .dat a, .dat b] w R := ⟨k, a, b, rfl, hk, Nat.le_refl _, ha.w, hb.w, fw_mono hr k ha.f, fw_mono hs k hb.f, h⟩
theorem c_un {k : Kn} {r s : Nat} {a b : PyData} {w : Om} {R : DQ} {u : Bool} (hk : k.dep ≤ 5) (ha : Wk k r a) (hb : Wk k s b) (hu : unB k a b = u) (h : R (.dat (.bool u)) w) (hr : r ≤ 1000 := by omega) (hs : s ≤ 1000 := by omega) : c_under [.dat k.d, .dat a, .dat b] w R := ⟨k, a, b, rfl, hk, ha.w, hb.w, fw_mono hr k ha.f, fw_mono hs k hb.f, by rw [hu]; exact h⟩
theorem j_call {k : Kn} {ta tb : DTE} {ρ : DEnv} {w : Om} {R : DQ} (h0 : ρ[0]? = some (some (.dat k.d))) (h : ta ρ w fun s w1 => tb ρ w1 fun t w2 => c_join 5 [.dat k.d, s, t] w2 R) : dCall (c_join 5) [] (dCons (dVar 0) (dCons ta (dCons tb dNil))) ρ w R := ⟨_, h0, h⟩
theorem u_call {k : Kn} {ta tb : DTE} {ρ : DEnv} {w : Om} {R : DQ} (h0 : ρ[0]? = some (some (.dat k.d))) (h : ta ρ w fun s w1 => tb ρ w1 fun t w2 => c_under [.dat k.d, s, t] w2 R) : dCall c_under [] (dCons (dVar 0) (dCons ta (dCons tb dNil))) ρ w R := ⟨_, h0, h⟩
theorem ne_no {k : Kn} {d e : PyData} {w : Om} (hk : k.dep ≤ 5) (hd : isW k d = true) (he : isW k e = true) (h : d = e) : eqS true w (.dat d) (.dat e) = some (.v (.dat (.bool false))) := by
  rw [eqS_ok (n := true) rfl rfl (eq_W hd he (by omega) (by omega)), (isW_eqv k hd he).mpr h]; rfl
theorem eq_yes {k : Kn} {d e : PyData} {w : Om} (hk : k.dep ≤ 5) (hd : isW k d = true) (he : isW k e = true) (h : d = e) : eqS false w (.dat d) (.dat e) = some (.v (.dat (.bool true))) := by
  rw [eqS_ok (n := false) rfl rfl (eq_W hd he (by omega) (by omega)), (isW_eqv k hd he).mpr h]; rfl
end G

set_option Elab.async false
set_option linter.all false
set_option maxRecDepth 100000
set_option maxHeartbeats 4000000
/-! JolC: two great worths -/
namespace G
open PySem PySem.Spec PyProof.Rows L2 DL
def c_law_great : Ct := fun ss w R => ∃ (b : Addr) (c : Nat) (w0 : Om), ss = [.adr b] ∧ Bg b c w0 w ∧ c + 10 < 2 ^ 60 ∧ ∀ (k : Kn) a d w', (k = .names ∨ k = .each .most) → Wk k 200 a → Wk k 200 d → Bg b (c + 5) w0 w' → R (.dat (.tuple [k.d, a, d])) w'
theorem len_law_great {ss w R} (h : c_law_great ss w R) : ss.length = 1 := by obtain ⟨_, _, _, rfl, _⟩ := h; rfl
def N_law_great : List Str := ["bag", "letters", "names", "steps", "numbers", "found", "j", "rows", "k"]
def t_law_great : DTS :=
  (dSeq (dAsg (dC (.str "abcdefghijklmnopqrst")) (dName 1))
  (dSeq (dAsg (dFz (dLc (dRng1 (dCons (dC (.int 200)) dNil)) (dName 8) dYes (dOp addS (dOp ixS (dVar 1) (dOp gDiv (dVar 8) (dC (.int 20)))) (dOp ixS (dVar 1) (dOp gMod (dVar 8) (dC (.int 20))))) [8])) (dName 2))
  (dSeq (dAsg (dFz (dLstD (dDats (dOp addS (dC (.int 1)) (dCall c_law_draw [] (dCons (dVar 0) (dCons (dC (.int 3)) dNil)))) (dDats (dOp addS (dC (.int 1)) (dCall c_law_draw [] (dCons (dVar 0) (dCons (dC (.int 3)) dNil)))) dNilD)))) (dName 3))
  (dSeq (dAsg (dFz (dLstD (dDats (dOp addS (dC (.int 1)) (dCall c_law_draw [] (dCons (dVar 0) (dCons (dC (.int 5)) dNil)))) (dDats (dOp addS (dC (.int 1)) (dCall c_law_draw [] (dCons (dVar 0) (dCons (dC (.int 5)) dNil)))) dNilD)))) (dName 4))
  (dSeq (dAsg (dLstD dNilD) (dName 5))
  (dSeq (dFor (dRng1 (dCons (dC (.int 2)) dNil)) (dName 6) (dSeq (dAsgZ 7 (dLc (dRng1 (dCons (dC (.int 200)) dNil)) (dName 8) (dTst (dOp (eqS false) (dOp gMod (dVar 8) (dOp ixS (dVar 3) (dVar 6))) (dC (.int 0)))) (dVar 8) [8]))
  (dDrop (dApp (dVar 5) (dTup (dDats (dCB tupS (dCons (dFz (dLc (dSeqI (dVar 7)) (dName 8) dYes (dOp ixS (dVar 2) (dVar 8)) [8])) dNil)) (dDats (dCB tupS (dCons (dFz (dLc (dSeqI (dVar 7)) (dName 8) dYes (dTup (dDats (dOp ixS (dVar 2) (dVar 8)) (dDats (dOp addS (dC (.int 1)) (dOp gMod (dVar 8) (dOp ixS (dVar 4) (dVar 6)))) dNilD))) [8])) dNil)) dNilD)))))))
  (dSeq (dIfS (dTst (dOp (eqS false) (dCall c_law_draw [] (dCons (dVar 0) (dCons (dC (.int 2)) dNil))) (dC (.int 0)))) (dRet (dFz (dTup (dDats (dTup (dDats (dC (.str "names")) dNilD)) (dDats (dOp ixS (dOp ixS (dVar 5) (dC (.int 0))) (dC (.int 0))) (dDats (dOp ixS (dOp ixS (dVar 5) (dC (.int 1))) (dC (.int 0))) dNilD)))))) dNext)
  (dRet (dFz (dTup (dDats (dTup (dDats (dC (.str "each")) (dDats (dTup (dDats (dC (.str "most")) dNilD)) dNilD))) (dDats (dOp ixS (dOp ixS (dVar 5) (dC (.int 0))) (dC (.int 1))) (dDats (dOp ixS (dOp ixS (dVar 5) (dC (.int 1))) (dC (.int 1))) dNilD)))))))))))))

def nm (i : Nat) : Str := (⟨#[97 + i / 20]⟩ : Str) ++ ⟨#[97 + i % 20]⟩
theorem nm_cp (i : Nat) : cp (nm i) = [97 + i / 20, 97 + i % 20] := by unfold nm; rw [cp_app]; rfl
theorem nm_lt {i j : Nat} (h : i < j) : LtT (nm i) (nm j) := by
  show cp (nm i) < cp (nm j)
  rw [nm_cp, nm_cp, List.cons_lt_cons_iff]
  by_cases e : i / 20 = j / 20
  · refine .inr ⟨by omega, ?_⟩
    rw [List.cons_lt_cons_iff]
    exact .inl (by omega)
  · exact .inl (by omega)
theorem let26 : ∀ j < 26, isL (97 + j) = true := by decide
theorem let20 : ∀ j < 20, (cp "abcdefghijklmnopqrst")[j]? = some (97 + j) := by decide
theorem nm_nm {i : Nat} (h : i < 200) : isNm (.str (nm i)) = true := by
  rw [isNm_str, len_cp, nm_cp]
  show (decide (1 ≤ 2) && (decide (2 ≤ 8) && (isL (97 + i / 20) && (isL (97 + i % 20) && true)))) = true
  rw [let26 _ (by omega), let26 _ (by omega)]; rfl
def ii : Sl → Nat
  | .dat (.int i) => i.toNat
  | _ => 0
theorem rng_dat (n : Nat) : irange 0 n = ((List.range n).map fun (i : Nat) => PyData.int (i : Nat)).map Sl.dat := by
  unfold irange
  rw [List.map_map]
  refine List.map_congr_left fun i _ => ?_
  show Sl.dat (.int (0 + (i : Int))) = Sl.dat (.int (i : Nat))
  rw [Int.zero_add]
theorem great_W {is : List Nat} (h1 : is.Pairwise (· < ·)) (h2 : ∀ i ∈ is, i < 200) (hl : is.length ≤ 200) {m : Int} (hm : 1 ≤ m) : Wk .names 200 (.tuple (is.map fun i => .str (nm i))) ∧ Wk (.each .most) 200 (.tuple (is.map fun i => .tuple [.str (nm i), .int (1 + (i : Int) % m)])) := by
  have e1 : (is.map fun i => PyData.str (nm i)) = (is.map fun i => (nm i, PyData.none)).map fun p => .str p.1 := by rw [List.map_map]; rfl
  have e2 : (is.map fun i => PyData.tuple [.str (nm i), .int (1 + (i : Int) % m)]) = (is.map fun i => (nm i, PyData.int (1 + (i : Int) % m))).map rowP := by rw [List.map_map]; rfl
  rw [e1, e2]
  refine ⟨⟨isW_namesT.mpr ⟨_, rfl, List.pairwise_map.mpr (h1.imp fun h => nm_lt h), fun p hp => ?_⟩, fw_namesT.mpr (by rw [List.length_map]; exact hl)⟩, ⟨isW_eachT.mpr ⟨_, rfl, List.pairwise_map.mpr (h1.imp fun h => nm_lt h), fun p hp => ?_⟩, fw_eachT.mpr ⟨by rw [List.length_map]; exact hl, fun p hp => ?_⟩⟩⟩
  · obtain ⟨i, hi, rfl⟩ := List.mem_map.mp hp
    exact ⟨nm_nm (h2 i hi), rfl⟩
  · obtain ⟨i, hi, rfl⟩ := List.mem_map.mp hp
    have := Int.emod_nonneg (i : Int) (show m ≠ 0 by omega)
    refine ⟨nm_nm (h2 i hi), decide_eq_true (p := 0 ≤ 1 + (i : Int) % m) (by omega), fun e => ?_⟩
    have e : PyData.int (1 + (i : Int) % m) = .int 0 := e
    cases hx : 1 + (i : Int) % m with
    | ofNat x =>
      rw [hx] at e
      have : (Int.ofNat x) = 0 := PyData.int.inj e
      omega
    | negSucc x => omega
  · obtain ⟨i, hi, rfl⟩ := List.mem_map.mp hp
    have h0 := Int.emod_nonneg (i : Int) (show m ≠ 0 by omega)
    have h3 : (i : Int) % m ≤ i := by
      have h4 := Int.mul_ediv_add_emod (i : Int) m
      have h5 : 0 ≤ m * ((i : Int) / m) := Int.mul_nonneg (by omega) (Int.ediv_nonneg (by omega) (by omega))
      omega
    have := h2 i hi
    exact decide_eq_true (by show (1 + (i : Int) % m).natAbs < 10 ^ 20 + 200; omega)
end G

set_option Elab.async false
set_option linter.all false
set_option maxRecDepth 100000
set_option maxHeartbeats 4000000
/-! JolD: two great worths, walked -/
namespace G
open PySem PySem.Spec PyProof.Rows L2 DL
theorem rd_law_great {ss w R} (h : c_law_great ss w R) : t_law_great (endsN R) (startD N_law_great ss) w := by
  obtain ⟨b, c, w0, rfl, hB, hc, q⟩ := h
  have lv := line_val
  have z20 : (Str.ofString "abcdefghijklmnopqrst").length = 20 := by decide
  refine ⟨200, rfl, by decide, by decide, ?_⟩
  refine lc_map (w := w) (fun x => .dat (.str (nm (ii x)))) trivial (irange 0 200) [] (fun x hx C hC => ?_) (sq_line (by rw [irange_len, List.length_nil]; omega)) fun p hp => ?_
  · obtain ⟨i, hi, rfl⟩ := irange_mem hx
    have e1 : atI (cp "abcdefghijklmnopqrst") ((i : Int) / 20) = some (97 + i / 20) := by
      rw [show ((i : Int) / 20) = ((i / 20 : Nat) : Int) by omega]
      exact atI_nat (let20 _ (by omega))
    have e2 : atI (cp "abcdefghijklmnopqrst") ((i : Int) % 20) = some (97 + i % 20) := by
      rw [show ((i : Int) % 20) = ((i % 20 : Nat) : Int) by omega]
      exact atI_nat (let20 _ (by omega))
    have ei : ii (.dat (.int (i : Nat))) = i := by show (i : Int).toNat = i; omega
    rw [ei] at hC
    refine ⟨_, rfl, _, rfl, _, liftI_ok (cDiv_of (b := 5) (by decide) (by decide) (by decide) (by decide)), _, ixS_str (by rw [z20]; omega) e1, ?_⟩
    refine ⟨_, rfl, _, rfl, _, liftI_ok (by decide), _, ixS_str (by rw [z20]; omega) e2, ?_⟩
    exact ⟨_, addT (by show 1 + 1 ≤ sizeLine; omega), hC⟩
  rw [List.nil_append, show (irange 0 200).map (fun x => Sl.dat (.str (nm (ii x)))) = ((List.range 200).map fun i => PyData.str (nm i)).map Sl.dat by
    rw [rng_dat, List.map_map, List.map_map, List.map_map]
    refine List.map_congr_left fun i _ => ?_
    show Sl.dat (.str (nm (i : Int).toNat)) = .dat (.str (nm i))
    rw [Int.toNat_natCast]]
  refine ⟨_, put_same, ?_⟩
  rw [del_put hp]
  have hnm : ∀ i : Nat, i < 200 → ((List.range 200).map fun i => PyData.str (nm i))[i]? = some (.str (nm i)) := fun i hi => by simp [hi]
  generalize ((List.range 200).map fun i => PyData.str (nm i)) = nms at hnm
  -- steps
  refine ⟨_, rfl, ?_⟩
  dsimp only [dCons, dC, dNil, List.append_nil]
  refine ⟨b, 3, c, w0, rfl, hB, by decide, by decide, by omega, fun r1 w1 r10 r11 hB1 => ?_⟩
  refine ⟨_, rfl, ?_⟩
  refine ⟨_, rfl, ?_⟩
  dsimp only [dCons, dC, dNil, List.append_nil]
  refine ⟨b, 3, _, w0, rfl, hB1, by decide, by decide, by omega, fun r2 w2 r20 r21 hB2 => ?_⟩
  refine ⟨_, rfl, ?_⟩
  refine frzL (by show 2 ≤ sizeLine; omega) ?_
  -- numbers
  refine ⟨_, rfl, ?_⟩
  dsimp only [dCons, dC, dNil, List.append_nil]
  refine ⟨b, 5, _, w0, rfl, hB2, by decide, by decide, by omega, fun r3 w3 r30 r31 hB3 => ?_⟩
  refine ⟨_, rfl, ?_⟩
  refine ⟨_, rfl, ?_⟩
  dsimp only [dCons, dC, dNil, List.append_nil]
  refine ⟨b, 5, _, w0, rfl, hB3, by decide, by decide, by omega, fun r4 w4 r40 r41 hB4 => ?_⟩
  refine ⟨_, rfl, ?_⟩
  refine frzL (by show 2 ≤ sizeLine; omega) ?_
  have hst : ∀ j : Nat, j < 2 → ∃ s : Int, 1 ≤ s ∧ [PyData.int (1 + r1), .int (1 + r2)][j]? = some (.int s) := fun j hj => by
    match j, hj with
    | 0, _ => exact ⟨1 + r1, by omega, rfl⟩
    | 1, _ => exact ⟨1 + r2, by omega, rfl⟩
  have hmt : ∀ j : Nat, j < 2 → ∃ s : Int, 1 ≤ s ∧ [PyData.int (1 + r3), .int (1 + r4)][j]? = some (.int s) := fun j hj => by
    match j, hj with
    | 0, _ => exact ⟨1 + r3, by omega, rfl⟩
    | 1, _ => exact ⟨1 + r4, by omega, rfl⟩
  refine ⟨Nat.zero_le _, fun fa hfa => ?_⟩
  have hne : fa ≠ b := hB4.ne hfa
  have wn : w0 fa = none := by
    have := hB4.get hne
    rw [hfa] at this
    exact this.symm
  have hB5 := hB4.put (o := .lst []) hne
  refine ⟨2, rfl, by decide, by decide, ?_⟩
  refine loop_inv (fun r' ρ w' => ∃ (fs : List PyData) (x6 x7 : Option Sl), (∀ x ∈ r', ∃ j : Nat, j < 2 ∧ x = .dat (.int (j : Nat))) ∧ fs.length + r'.length = 2 ∧ (∀ f ∈ fs, ∃ x y, f = .tuple [x, y] ∧ Wk .names 200 x ∧ Wk (.each .most) 200 y) ∧
      ρ = [some (.adr b), some (.dat (.str "abcdefghijklmnopqrst")), some (.dat (.list nms)), some (.dat (.list [.int (1 + r1), .int (1 + r2)])), some (.dat (.list [.int (1 + r3), .int (1 + r4)])), some (.adr fa), x6, x7, none] ∧ Bg b (c + 1 + 1 + 1 + 1) (put w0 fa (.lst (fs.map .dat))) w')
    ⟨[], none, none, fun x hx => ?_, rfl, fun f hf => (by cases hf), rfl, hB5⟩ (fun _ _ _ _ => trivial) ?_ ?_
  · obtain ⟨i, hi, e⟩ := irange_mem hx
    exact ⟨i, hi, e⟩
  · rintro x r' ρ w' ⟨fs, x6, x7, hr, hl, hfs, rfl, hB6⟩ ih
    obtain ⟨j, hj, rfl⟩ := hr x List.mem_cons_self
    rw [List.length_cons] at hl
    obtain ⟨s, hs, es⟩ := hst j hj
    obtain ⟨m, hm, em⟩ := hmt j hj
    have g6 : w' fa = some (.lst (fs.map .dat)) := by rw [hB6.get hne, put_same]
    refine ⟨by show 7 < 9; decide, 200, rfl, by decide, by decide, ?_⟩
    show dLcL _ _ _ _ _ _ (irange 0 200) [] w'
    rw [rng_dat]
    refine lc_filter (w := w') (i := 8) (fun d => (intD d % s == 0)) trivial (by show 8 < 9; decide) _ [] (fun d hd C hC => ?_) (sq_line (by rw [List.length_map, List.length_range, List.length_nil]; omega)) fun p hp => ?_
    · obtain ⟨i, hi, rfl⟩ := List.mem_map.mp hd
      refine ⟨_, rfl, _, rfl, _, rfl, _, ixS_list (atI_nat es), _, liftI_ok (decide_eq_true (by omega)), _, rfl, _, rfl, ?_⟩
      have hC : C ((i : Int) % s == 0) w' := hC
      simpa using hC
    rw [List.nil_append, show (((List.range 200).map fun (i : Nat) => PyData.int (i : Nat)).filter fun d => (intD d % s == 0)) = ((List.range 200).filter fun (i : Nat) => ((i : Int) % s == 0)).map fun (i : Nat) => PyData.int (i : Nat) by rw [List.filter_map]; rfl]
    refine ⟨_, put_same, ?_⟩
    rw [del_put hp]
    have i1 : ((List.range 200).filter fun (i : Nat) => ((i : Int) % s == 0)).Pairwise (· < ·) := List.Pairwise.sublist List.filter_sublist List.pairwise_lt_range
    have i2 : ∀ i ∈ (List.range 200).filter fun (i : Nat) => ((i : Int) % s == 0), i < 200 := fun i hi => List.mem_range.mp (List.mem_filter.mp hi).1
    have i3 : ((List.range 200).filter fun (i : Nat) => ((i : Int) % s == 0)).length ≤ 200 := Nat.le_trans (List.length_filter_le _ _) (by rw [List.length_range]; omega)
    generalize ((List.range 200).filter fun (i : Nat) => ((i : Int) % s == 0)) = is at i1 i2 i3
    obtain ⟨gn, gt⟩ := great_W i1 i2 i3 hm
    refine ⟨_, rfl, fa, _, rfl, g6, ?_⟩
    refine ⟨_, rfl, _, rfl, ?_⟩
    refine lc_map (w := w') (fun x => .dat (.str (nm (ii x)))) trivial _ [] (fun x hx C hC => ?_) (sq_line (by rw [List.length_map, List.length_map, List.length_nil]; omega)) fun p2 hp2 => ?_
    · obtain ⟨d, hd, rfl⟩ := List.mem_map.mp hx
      obtain ⟨i, hi, rfl⟩ := List.mem_map.mp hd
      have ei : ii (.dat (.int (i : Nat))) = i := by show (i : Int).toNat = i; omega
      rw [ei] at hC
      exact ⟨_, rfl, _, rfl, _, ixS_list (atI_nat (hnm i (i2 i hi))), hC⟩
    rw [List.nil_append, show ((is.map fun (i : Nat) => PyData.int (i : Nat)).map Sl.dat).map (fun x => Sl.dat (.str (nm (ii x)))) = (is.map fun i => PyData.str (nm i)).map Sl.dat by
      rw [List.map_map, List.map_map, List.map_map]
      refine List.map_congr_left fun i _ => ?_
      show Sl.dat (.str (nm (i : Int).toNat)) = .dat (.str (nm i))
      rw [Int.toNat_natCast]]
    refine ⟨_, put_same, ?_⟩
    rw [del_put hp2]
    refine ⟨_, tupS_ok (ds := is.map fun i => PyData.str (nm i)) rfl, ?_⟩
    refine ⟨_, rfl, _, rfl, ?_⟩
    refine lc_map (w := w') (fun x => .dat (.tuple [.str (nm (ii x)), .int (1 + (ii x : Int) % m)])) trivial _ [] (fun x hx C hC => ?_) (sq_line (by rw [List.length_map, List.length_map, List.length_nil]; omega)) fun p3 hp3 => ?_
    · obtain ⟨d, hd, rfl⟩ := List.mem_map.mp hx
      obtain ⟨i, hi, rfl⟩ := List.mem_map.mp hd
      have ei : ii (.dat (.int (i : Nat))) = i := by show (i : Int).toNat = i; omega
      rw [ei] at hC
      refine ⟨_, rfl, _, rfl, _, ixS_list (atI_nat (hnm i (i2 i hi))), ?_⟩
      refine ⟨_, rfl, _, rfl, _, rfl, _, ixS_list (atI_nat em), _, liftI_ok (decide_eq_true (by omega)), _, rfl, ?_⟩
      exact ⟨by show 2 ≤ sizeLine; omega, hC⟩
    rw [List.nil_append, show ((is.map fun (i : Nat) => PyData.int (i : Nat)).map Sl.dat).map (fun x => Sl.dat (.tuple [.str (nm (ii x)), .int (1 + (ii x : Int) % m)])) = (is.map fun (i : Nat) => PyData.tuple [.str (nm i), .int (1 + (i : Int) % m)]).map Sl.dat by
      rw [List.map_map, List.map_map, List.map_map]
      refine List.map_congr_left fun i _ => ?_
      show Sl.dat (.tuple [.str (nm (i : Int).toNat), .int (1 + (((i : Int).toNat : Nat) : Int) % m)]) = .dat (.tuple [.str (nm i), .int (1 + (i : Int) % m)])
      rw [Int.toNat_natCast]]
    refine ⟨_, put_same, ?_⟩
    rw [del_put hp3]
    refine ⟨_, tupS_ok (ds := is.map fun (i : Nat) => PyData.tuple [.str (nm i), .int (1 + (i : Int) % m)]) rfl, ?_⟩
    refine ⟨by show 2 ≤ sizeLine; omega, ?_⟩
    refine ⟨_, g6, by rw [List.length_map]; omega, ?_⟩
    have hrow : ∃ x y, PyData.tuple [.tuple (is.map fun i => .str (nm i)), .tuple (is.map fun (i : Nat) => .tuple [.str (nm i), .int (1 + (i : Int) % m)])] = .tuple [x, y] ∧ Wk .names 200 x ∧ Wk (.each .most) 200 y := ⟨_, _, rfl, gn, gt⟩
    generalize PyData.tuple [.tuple (is.map fun i => .str (nm i)), .tuple (is.map fun (i : Nat) => .tuple [.str (nm i), .int (1 + (i : Int) % m)])] = row at hrow
    have hB7 := hB6.put (o := .lst ((fs ++ [row]).map .dat)) hne
    rw [put_put] at hB7
    refine ih _ _ ⟨fs ++ [row], _, _, fun z hz => hr z (List.mem_cons_of_mem _ hz), by rw [List.length_append, List.length_singleton]; omega, fun f hf => ?_, rfl, ?_⟩
    · rcases List.mem_append.mp hf with h | h
      · exact hfs f h
      · rw [List.mem_singleton] at h
        rw [h]; exact hrow
    · rw [List.map_append] at hB7 ⊢
      exact hB7
  · rintro ρ w' ⟨fs, x6, x7, hr, hl, hfs, rfl, hB6⟩
    rw [List.length_nil, Nat.add_zero] at hl
    obtain ⟨f0, f1, rfl⟩ : ∃ f0 f1, fs = [f0, f1] := by
      match fs, hl with
      | [f0, f1], _ => exact ⟨f0, f1, rfl⟩
    obtain ⟨a0, a1, rfl, va0, va1⟩ := hfs f0 (by simp)
    obtain ⟨d0, d1, rfl, vd0, vd1⟩ := hfs f1 (by simp)
    refine ⟨_, rfl, ?_⟩
    dsimp only [dCons, dC, dNil, List.append_nil]
    refine ⟨b, 2, _, _, rfl, hB6, by decide, by decide, by omega, fun r5 w5 r50 r51 hB7 => ?_⟩
    have g7 : w5 fa = some (.lst ([PyData.tuple [a0, a1], .tuple [d0, d1]].map .dat)) := by rw [hB7.get hne, put_same]
    obtain ⟨u, hu, hBu⟩ := hB7.drop wn hne
    refine ⟨_, rfl, _, rfl, iteB (fun _ => ?_) fun _ => ?_⟩
    · refine ⟨by show 1 ≤ sizeLine; omega, ?_⟩
      refine ⟨_, rfl, _, ixS_adr g7 (atI_nat (j := 0) rfl), _, ix_t0, ?_⟩
      refine ⟨_, rfl, _, ixS_adr g7 (atI_nat (j := 1) rfl), _, ix_t0, ?_⟩
      exact ⟨by show 3 ≤ sizeLine; omega, u, hu, q .names _ _ u (.inl rfl) va0 vd0 hBu⟩
    · refine ⟨by show 1 ≤ sizeLine; omega, by show 2 ≤ sizeLine; omega, ?_⟩
      refine ⟨_, rfl, _, ixS_adr g7 (atI_nat (j := 0) rfl), _, ix_t1, ?_⟩
      refine ⟨_, rfl, _, ixS_adr g7 (atI_nat (j := 1) rfl), _, ix_t1, ?_⟩
      exact ⟨by show 3 ≤ sizeLine; omega, u, hu, q (.each .most) _ _ u (.inr rfl) va1 vd1 hBu⟩
end G

set_option Elab.async false
set_option linter.all false
set_option maxRecDepth 100000
set_option maxHeartbeats 4000000
/-! K03L: the law k03 -/
namespace G
open PySem PySem.Spec PyProof.Rows L2 DL
local macro_rules | `(tactic| walk_at "rr") => `(tactic| repeat (first | refine ⟨_, rfl, ?_⟩ | refine ⟨_, _, rfl, rfl, ?_⟩ | refine frzL (sq_line (by simp)) ?_ | refine iteT ?_ | refine iteF ?_ | refine And.intro (sq_line (by simp)) ?_ | fail "stop"))
theorem fw_bg {r : Nat} (hr : r ≤ 1000) : ∀ (k : Kn) {d : PyData}, isW k d = true → fw r k d = true → bgB d = true
  | .names, d, hw, hf => by
    obtain ⟨xs, rfl, o⟩ := isW_namesT.mp hw
    have := fw_namesT.mp hf
    refine bg_tup.mpr ⟨by rw [List.length_map]; omega, fun d hd => ?_⟩
    obtain ⟨p, hp, rfl⟩ := List.mem_map.mp hd
    have h := (o.2 p hp).1
    rw [isNm_str, Bool.and_eq_true, Bool.and_eq_true] at h
    have := of_decide_eq_true h.2.1
    exact bg_str.mpr (by omega)
  | .most, d, hw, hf => by
    obtain ⟨i, rfl, _⟩ := isW_most hw
    have hf := of_decide_eq_true (p := i.natAbs < 10 ^ 20 + r) hf
    have h2 : 10 ^ 20 + 1000 ≤ 2 ^ 1000 := by decide +kernel
    exact bg_int.mpr (by omega)
  | .last, d, hw, hf => by
    obtain ⟨i, j, rfl, _⟩ := isW_last hw
    have hf : (decide (i.natAbs < 10 ^ 20 + r) && decide (j.natAbs < 10 ^ 20 + r)) = true := hf
    rw [Bool.and_eq_true] at hf
    have h0 := of_decide_eq_true hf.1
    have h1 := of_decide_eq_true hf.2
    have h2 : 10 ^ 20 + 1000 ≤ 2 ^ 1000 := by decide +kernel
    refine bg_tup.mpr ⟨by show 2 ≤ 150000; omega, fun d hd => ?_⟩
    simp only [List.mem_cons, List.not_mem_nil, or_false] at hd
    rcases hd with rfl | rfl
    · exact bg_int.mpr (by omega)
    · exact bg_int.mpr (by omega)
  | .each k, d, hw, hf => by
    obtain ⟨xs, rfl, o⟩ := isW_eachT.mp hw
    obtain ⟨hl, hf⟩ := fw_eachT.mp hf
    refine bg_tup.mpr ⟨by rw [List.length_map]; omega, fun d hd => ?_⟩
    obtain ⟨p, hp, rfl⟩ := List.mem_map.mp hd
    obtain ⟨h, hw, _⟩ := o.2 p hp
    rw [isNm_str, Bool.and_eq_true, Bool.and_eq_true] at h
    have := of_decide_eq_true h.2.1
    refine bg_tup.mpr ⟨by show 2 ≤ 150000; omega, fun d hd => ?_⟩
    simp only [List.mem_cons, List.not_mem_nil, or_false] at hd
    rcases hd with rfl | rfl
    · exact bg_str.mpr (by omega)
    · exact fw_bg hr k hw (hf p hp)
  | .both k l, d, hw, hf => by
    obtain ⟨a, b, rfl, ha, hb⟩ := isW_both hw
    have f := fw_both hf
    refine bg_tup.mpr ⟨by show 2 ≤ 150000; omega, fun d hd => ?_⟩
    simp only [List.mem_cons, List.not_mem_nil, or_false] at hd
    rcases hd with rfl | rfl
    · exact fw_bg hr k ha f.1
    · exact fw_bg hr l hb f.2
def c_law_right : Ct := fun ss w R => ∃ (k : Kn) (a b : PyData), ss = [.dat k.d, .dat a, .dat b] ∧ k.dep ≤ 5 ∧ Wk k 400 a ∧ Wk k 400 b ∧ R (.dat (.bool true)) w
theorem len_law_right {ss w R} (h : c_law_right ss w R) : ss.length = 3 := by obtain ⟨_, _, _, rfl, _⟩ := h; rfl
def N_law_right : List Str := ["kind", "one", "other", "due", "a", "b"]
def t_law_right : DTS :=
  (dSeq (dAsg (dCall (c_law_joined 5) [] (dCons (dVar 0) (dCons (dVar 1) (dCons (dVar 2) dNil)))) (dName 3))
  (dSeq (dFor (dSeqI (dFz (dLstD (dDats (dTup (dDats (dVar 1) (dDats (dVar 2) dNilD))) (dDats (dTup (dDats (dVar 2) (dDats (dVar 1) dNilD))) dNilD))))) (dGTup 2 (dGCons (dName 4) (dGCons (dName 5) dGNil))) (dSeq (dIfS (dOr (dNot (dTst (dCall (c_law_same 12) [] (dCons (dCall (c_join 5) [] (dCons (dVar 0) (dCons (dVar 4) (dCons (dVar 5) dNil)))) (dCons (dVar 3) dNil))))) (dTst (dOp (isS' true) (dCall (c_is_worth 5) [] (dCons (dVar 0) (dCons (dCall (c_join 5) [] (dCons (dVar 0) (dCons (dVar 4) (dCons (dVar 5) dNil)))) dNil))) (dC (.bool true))))) (dRet (dC (.bool false))) dNext)
  (dIfS (dNot (dTst (dCall (c_law_same 12) [] (dCons (dCall c_under [] (dCons (dVar 0) (dCons (dVar 4) (dCons (dVar 5) dNil)))) (dCons (dOp (eqS false) (dVar 3) (dVar 5)) dNil))))) (dRet (dC (.bool false))) dNext)))
  (dRet (dFz (dAndV (dOp (isS' false) (dCall c_under [] (dCons (dVar 0) (dCons (dVar 1) (dCons (dVar 3) dNil)))) (dC (.bool true))) (dOp (isS' false) (dCall c_under [] (dCons (dVar 0) (dCons (dCall (c_bottom 5) [] (dCons (dVar 0) dNil)) (dCons (dVar 1) dNil)))) (dC (.bool true))))))))

def N_law : List Str := ["script", "k", "bag", "kind", "one", "other", "third", "pair"]
def t_law : DTS :=
  (dSeq (dFor (dRng1 (dCons (dCB maxS (dCons (dC (.int 1)) (dCons (dCB minS (dCons (dC (.int 16)) (dCons (dCB lenS (dCons (dVar 0) dNil)) dNil))) dNil))) dNil)) (dName 1) (dSeq (dAsg (dCall c_law_bag [] (dCons (dCall c_law_cell_at [] (dCons (dVar 0) (dCons (dVar 1) dNil))) (dCons (dVar 1) dNil))) (dName 2))
  (dSeq (dAsg (dCall (c_law_kind 5) [] (dCons (dVar 2) (dCons (dOp addS (dC (.int 1)) (dCall c_law_draw [] (dCons (dVar 2) (dCons (dC (.int 4)) dNil)))) dNil))) (dName 3))
  (dSeq (dAsg (dCall (c_law_worth 4) [] (dCons (dVar 2) (dCons (dVar 3) dNil))) (dName 4))
  (dSeq (dAsg (dOp ixS (dFz (dLstD (dDats (dCall (c_law_beside 4) [] (dCons (dVar 2) (dCons (dVar 3) (dCons (dVar 4) dNil)))) (dDats (dCall (c_law_worth 4) [] (dCons (dVar 2) (dCons (dVar 3) dNil))) dNilD)))) (dCall c_law_draw [] (dCons (dVar 2) (dCons (dC (.int 2)) dNil)))) (dName 5))
  (dSeq (dAsg (dCall (c_law_beside 4) [] (dCons (dVar 2) (dCons (dVar 3) (dCons (dVar 5) dNil)))) (dName 6))
  (dSeq (dIfS (dNot (dTst (dCall (c_law_same 12) [] (dCons (dCall (c_bottom 5) [] (dCons (dVar 3) dNil)) (dCons (dCall (c_law_least 5) [] (dCons (dVar 3) dNil)) dNil))))) (dRet (dC (.bool false))) dNext)
  (dSeq (dFor (dSeqI (dFz (dLstD (dDats (dTup (dDats (dVar 4) (dDats (dVar 5) dNilD))) (dDats (dTup (dDats (dVar 5) (dDats (dVar 6) dNilD))) (dDats (dTup (dDats (dVar 4) (dDats (dVar 6) dNilD))) (dDats (dTup (dDats (dVar 4) (dDats (dVar 4) dNilD))) (dDats (dTup (dDats (dVar 4) (dDats (dCall (c_law_least 5) [] (dCons (dVar 3) dNil)) dNilD))) dNilD)))))))) (dName 7) (dIfS (dNot (dTst (dCall c_law_right [] (dCons (dVar 3) (dCons (dOp ixS (dVar 7) (dC (.int 0))) (dCons (dOp ixS (dVar 7) (dC (.int 1))) dNil)))))) (dRet (dC (.bool false))) dNext))
  (dIfS (dTst (dOp (eqS false) (dCall c_law_draw [] (dCons (dVar 2) (dCons (dC (.int 16)) dNil))) (dC (.int 5)))) (dSeq (dAsg (dCall c_law_great [] (dCons (dVar 2) dNil)) (dGTup 3 (dGCons (dName 3) (dGCons (dName 4) (dGCons (dName 5) dGNil)))))
  (dIfS (dNot (dTst (dCall c_law_right [] (dCons (dVar 3) (dCons (dVar 4) (dCons (dVar 5) dNil)))))) (dRet (dC (.bool false))) dNext)) dNext)))))))))
  (dRet (dC (.bool true))))

theorem s_call {n : Nat} {ta tb : DTE} {ρ : DEnv} {w : Om} {R : DQ} (h : ta ρ w fun s w1 => tb ρ w1 fun t w2 => c_law_same n [s, t] w2 R) : dCall (c_law_same n) [] (dCons ta (dCons tb dNil)) ρ w R := h
theorem i_call {k : Kn} {ta : DTE} {ρ : DEnv} {w : Om} {R : DQ} (h0 : ρ[0]? = some (some (.dat k.d))) (h : ta ρ w fun s w1 => c_is_worth 5 [.dat k.d, s] w1 R) : dCall (c_is_worth 5) [] (dCons (dVar 0) (dCons ta dNil)) ρ w R := ⟨_, h0, h⟩
theorem rd_law_right {ss w R} (h : c_law_right ss w R) : t_law_right (endsN R) (startD N_law_right ss) w := by
  obtain ⟨k, a, b, rfl, hk, wa, wb, q⟩ := h
  have L := lat k
  have lv := line_val
  have wl := Wk.bot k 0
  have wab := wa.jo wb
  have u1 : unB k a (jo k a b) = true := (un_iff wa.w wab.w).mpr (by rw [← L.assoc wa.w wa.w wb.w, L.idem wa.w])
  have u4 : unB k (botD k) a = true := (un_iff wl.w wa.w).mpr (L.bot wa.w)
  refine ⟨_, rfl, _, rfl, _, rfl, k, a, b, rfl, hk, by decide, wa.w, wb.w, fw_mono (by decide) k wa.f, fw_mono (by decide) k wb.f, ?_⟩
  refine ⟨_, rfl, _, rfl, by show 2 ≤ sizeLine; omega, _, rfl, _, rfl, by show 2 ≤ sizeLine; omega, ?_⟩
  refine frzL (by show 2 ≤ sizeLine; omega) ?_
  refine ⟨_, rfl, ?_⟩
  have all : ∀ d ∈ [PyData.tuple [a, b], .tuple [b, a]], ∃ x y, d = .tuple [x, y] ∧ Wk k 400 x ∧ Wk k 400 y ∧ jo k x y = jo k a b := by
    intro d hd
    simp only [List.mem_cons, List.not_mem_nil, or_false] at hd
    rcases hd with rfl | rfl
    · exact ⟨_, _, rfl, wa, wb, rfl⟩
    · exact ⟨_, _, rfl, wb, wa, L.comm wb.w wa.w⟩
  generalize [PyData.tuple [a, b], .tuple [b, a]] = xs at all
  refine loop_inv (fun r' ρ w' => ∃ (ys : List PyData) (x4 x5 : Option Sl), r' = ys.map .dat ∧ (∀ y ∈ ys, y ∈ xs) ∧ ρ = [some (.dat k.d), some (.dat a), some (.dat b), some (.dat (jo k a b)), x4, x5] ∧ w' = w)
    ⟨xs, none, none, rfl, fun _ h => h, rfl, rfl⟩ (fun _ _ _ _ => trivial) ?_ ?_
  · rintro x r' ρ w' ⟨ys, x4, x5, er, hys, rfl, rfl⟩ ih
    cases ys with
    | nil => cases er
    | cons y ys =>
      rw [List.map_cons] at er
      obtain ⟨rfl, rfl⟩ := List.cons.inj er
      obtain ⟨u, v, rfl, wu, wv, e⟩ := all y (hys y List.mem_cons_self)
      have wuv := wu.jo wv
      refine ⟨[.dat u, .dat v], rfl, rfl, _, _, rfl, _, _, rfl, rfl, ?_⟩
      refine s_call (j_call rfl ⟨_, rfl, _, rfl, c_jo hk wu wv ?_⟩)
      rw [e]
      refine ⟨_, rfl, _, rfl, sm_W (r := 800) (by decide) k wab.w wab.f (by omega), _, rfl, iteF ?_⟩
      refine i_call rfl (j_call rfl ⟨_, rfl, _, rfl, c_jo hk wu wv ?_⟩)
      rw [e]
      refine ⟨k, _, rfl, hk, by decide, fw_bg (r := 800) (by decide) k wab.w wab.f, ?_⟩
      rw [wab.w]
      refine ⟨_, rfl, _, rfl, iteF ?_⟩
      refine s_call (u_call rfl ⟨_, rfl, _, rfl, c_un (u := unB k u v) hk wu wv rfl ?_⟩)
      refine ⟨_, rfl, _, rfl, _, eqS_ok (n := false) rfl rfl (eq_W wab.w wv.w (by omega) (by omega)), ?_⟩
      have eb : PyData.eqv (jo k a b) v = unB k u v := by unfold unB; rw [e]
      rw [Bool.bne_false, eb]
      refine ⟨_, rfl, rfl, _, rfl, iteF ?_⟩
      exact ih _ _ ⟨ys, _, _, rfl, fun z hz => hys z (List.mem_cons_of_mem _ hz), rfl, rfl⟩
  · rintro ρ w' ⟨ys, x4, x5, er, hys, rfl, rfl⟩
    refine u_call rfl ⟨_, rfl, _, rfl, c_un hk wa wab u1 ⟨_, rfl, _, rfl, iteT ?_⟩⟩
    exact u_call rfl ⟨_, rfl, k, rfl, hk, _, rfl, c_un hk wl wa u4 ⟨_, rfl, w', Sub.refl _, q⟩⟩
theorem list6 {α : Type} {r : List α} (h : r.length = 6) : ∃ a b c d e f, r = [a, b, c, d, e, f] := by
  match r, h with
  | [a, b, c, d, e, f], _ => exact ⟨a, b, c, d, e, f, rfl⟩
theorem rd_law {ss w R} (h : cLaw ss w R) : t_law (endsN R) (startD N_law ss) w := by
  obtain ⟨ns, rfl, hl, q⟩ := h
  have lv := line_val
  refine ⟨_, rfl, _, lenS_sq rfl, _, rfl, _, rfl, _, rfl, ?_, ?_, ?_⟩
  · rw [List.length_map]; split <;> split <;> omega
  · rw [List.length_map]; split <;> split <;> omega
  refine cells (m := 16) (L := 6) (by rw [List.length_map]; split <;> split <;> omega) (fun i r w E hr hi hE nx => ?_) (fun x1 r w _ => ⟨w, Sub.refl _, q w⟩) rfl
  obtain ⟨x2, x3, x4, x5, x6, x7, rfl⟩ := list6 hr
  walk_at "rr"
  refine ⟨ns, i, rfl, hl, fun c => ?_⟩
  walk_at "rr"
  refine ⟨c, i, rfl, by omega, fun b w1 hb hB => ?_⟩
  walk_at "rr"
  refine ⟨b, 4, _, w, rfl, hB, by decide, by decide, by decide, fun r w2 r0 r1 hB2 => ?_⟩
  obtain ⟨m, rfl⟩ := Int.eq_ofNat_of_zero_le r0
  refine ⟨_, rfl, ?_⟩
  dsimp only [DL.ret, dNil, List.append_nil]
  rw [show (1 + (m : Int)) = ((1 + m : Nat) : Int) by omega]
  refine ⟨b, 1 + m, _, w, rfl, hB2, by omega, by omega, by decide, fun d t w3 hkd hB3 => ?_⟩
  obtain ⟨k, rfl, hk⟩ := hkd.kn
  have n0 : 0 + 1 + kc 5 ≤ 1000 := by decide
  have n1 : wc 4 = 2000 := by decide
  have n2 : bc 4 ≤ 10000000000 := by decide
  -- one
  refine ⟨_, rfl, _, rfl, ?_⟩
  dsimp only [dCons, dNil, List.append_nil]
  refine ⟨b, k, _, w, rfl, hB3, by omega, by decide, by omega, fun a w4 ha _ _ fa hB4 => ?_⟩
  have wa : Wk k 3 a := ⟨ha, fa⟩
  -- other
  refine ⟨_, rfl, _, rfl, _, rfl, ?_⟩
  dsimp only [dCons, dNil, List.append_nil]
  refine ⟨b, k, a, 3, _, _, rfl, hB4, by omega, by decide, by decide, by omega, ha, fa, fun b1 w5 hb1 fb1 hB5 => ?_⟩
  refine ⟨_, rfl, _, rfl, ?_⟩
  dsimp only [dCons, dNil, List.append_nil]
  refine ⟨b, k, _, w, rfl, hB5, by omega, by decide, by omega, fun b2 w6 hb2 _ _ fb2 hB6 => ?_⟩
  refine frzL (by show 2 ≤ sizeLine; omega) ?_
  refine ⟨_, rfl, ?_⟩
  dsimp only [dCons, dC, dNil, List.append_nil]
  refine ⟨b, 2, _, w, rfl, hB6, by decide, by decide, by omega, fun r w7 r0 r1 hB7 => ?_⟩
  refine ix_pick r0 r1 fun bb hbb => ?_
  have wb : Wk k 6 bb := by
    simp only [List.mem_cons, List.not_mem_nil, or_false] at hbb
    rcases hbb with rfl | rfl
    · exact ⟨hb1, fb1⟩
    · exact ⟨hb2, fw_mono (by decide) k fb2⟩
  -- third
  refine ⟨_, rfl, _, rfl, _, rfl, ?_⟩
  dsimp only [dCons, dNil, List.append_nil]
  refine ⟨b, k, bb, 6, _, _, rfl, hB7, by omega, by decide, by decide, by omega, wb.w, wb.f, fun cc w8 hc1 fc1 hB8 => ?_⟩
  have wc' : Wk k 9 cc := ⟨hc1, fc1⟩
  have hk5 : k.dep ≤ 5 := by omega
  -- bottom
  refine s_call ⟨_, rfl, k, rfl, hk5, _, rfl, k, rfl, hk5, ?_⟩
  refine ⟨_, rfl, sm_W (r := 0) (by decide) k (isW_bot k) (fw_bot 0 k) (by omega), _, rfl, iteF ?_⟩
  -- the pairs
  refine ⟨_, rfl, _, rfl, by show 2 ≤ sizeLine; omega, ?_⟩
  refine ⟨_, rfl, _, rfl, by show 2 ≤ sizeLine; omega, ?_⟩
  refine ⟨_, rfl, _, rfl, by show 2 ≤ sizeLine; omega, ?_⟩
  refine ⟨_, rfl, _, rfl, by show 2 ≤ sizeLine; omega, ?_⟩
  refine ⟨_, rfl, _, rfl, k, rfl, hk5, by show 2 ≤ sizeLine; omega, ?_⟩
  refine frzL (by show 5 ≤ sizeLine; omega) ?_
  refine ⟨_, rfl, ?_⟩
  have all : ∀ d ∈ [PyData.tuple [a, bb], .tuple [bb, cc], .tuple [a, cc], .tuple [a, a], .tuple [a, botD k]], ∃ x y, d = .tuple [x, y] ∧ Wk k 400 x ∧ Wk k 400 y := by
    intro d hd
    simp only [List.mem_cons, List.not_mem_nil, or_false] at hd
    have va := wa.mono (show 3 ≤ 400 by decide)
    have vb := wb.mono (show 6 ≤ 400 by decide)
    have vc := wc'.mono (show 9 ≤ 400 by decide)
    rcases hd with rfl | rfl | rfl | rfl | rfl
    · exact ⟨_, _, rfl, va, vb⟩
    · exact ⟨_, _, rfl, vb, vc⟩
    · exact ⟨_, _, rfl, va, vc⟩
    · exact ⟨_, _, rfl, va, va⟩
    · exact ⟨_, _, rfl, va, Wk.bot k 400⟩
  generalize [PyData.tuple [a, bb], .tuple [bb, cc], .tuple [a, cc], .tuple [a, a], .tuple [a, botD k]] = xs at all
  refine loop_inv (fun r' ρ w' => ∃ (ys : List PyData) (x7 : Option Sl), r' = ys.map .dat ∧ (∀ y ∈ ys, y ∈ xs) ∧ ρ = [some (.scr ns), some (.dat (.int (i : Nat))), some (.adr b), some (.dat k.d), some (.dat a), some (.dat bb), some (.dat cc), x7] ∧ w' = w8)
    ⟨xs, x7, rfl, fun _ h => h, rfl, rfl⟩ (fun _ _ _ _ => trivial) ?_ ?_
  · rintro x r' ρ w' ⟨ys, x7, er, hys, rfl, rfl⟩ ih
    cases ys with
    | nil => cases er
    | cons y ys =>
      rw [List.map_cons] at er
      obtain ⟨rfl, rfl⟩ := List.cons.inj er
      obtain ⟨u, v, rfl, wu, wv⟩ := all y (hys y List.mem_cons_self)
      refine ⟨_, rfl, _, rfl, _, ix_t0, _, rfl, _, ix_t1, ?_⟩
      dsimp only [DL.ret, dCons, dNil, List.append_nil]
      refine ⟨k, u, v, rfl, hk5, wu, wv, _, rfl, iteF ?_⟩
      exact ih _ _ ⟨ys, _, rfl, fun z hz => hys z (List.mem_cons_of_mem _ hz), rfl, rfl⟩
  · rintro ρ w' ⟨ys, x7, er, hys, rfl, rfl⟩
    refine ⟨_, rfl, ?_⟩
    dsimp only [dCons, dC, dNil, List.append_nil]
    refine ⟨b, 16, _, w, rfl, hB8, by decide, by decide, by omega, fun r w9 r0 r1 hB9 => ?_⟩
    refine ⟨_, rfl, _, rfl, iteB (fun _ => ?_) fun _ => nx _ _ rfl⟩
    refine ⟨_, rfl, ?_⟩
    dsimp only [dCons, dC, dNil, List.append_nil]
    refine ⟨b, _, w, rfl, hB9, by omega, fun l u v w10 hl' wu wv hB10 => ?_⟩
    have hl5 : l.dep ≤ 5 := by rcases hl' with rfl | rfl <;> decide
    refine ⟨[.dat l.d, .dat u, .dat v], rfl, rfl, _, _, rfl, _, _, rfl, _, _, rfl, rfl, ?_⟩
    refine ⟨_, rfl, _, rfl, _, rfl, ?_⟩
    dsimp only [dCons, dC, dNil, List.append_nil]
    refine ⟨l, u, v, rfl, hl5, wu.mono (by decide), wv.mono (by decide), _, rfl, iteF ?_⟩
    exact nx _ _ rfl
end G

set_option Elab.async false
set_option linter.all false
set_option maxRecDepth 100000
set_option maxHeartbeats 4000000
namespace G
open PySem PySem.Spec PyProof.Rows L2 DL
def top (i : Nat) : Stmt := PySem.Challenge.pw_growjoin_k03_joined.main.body.getD i (.Pass ⟨0, 0, 0, 0⟩)
abbrev s_is_name : Stmt := top 4
theorem sc_is_name : FnScope N_is_name ["thing"] (defScope s_is_name) := ⟨rfl, rfl, rfl, by decide +kernel, rfl, by decide +kernel, by decide +kernel⟩

abbrev s_is_number : Stmt := top 5
theorem sc_is_number : FnScope N_is_number ["thing"] (defScope s_is_number) := ⟨rfl, rfl, rfl, by decide +kernel, rfl, by decide +kernel, by decide +kernel⟩

abbrev s_are_rising : Stmt := top 6
theorem sc_are_rising : FnScope N_are_rising ["names"] (defScope s_are_rising) := ⟨rfl, rfl, rfl, by decide +kernel, rfl, by decide +kernel, by decide +kernel⟩

abbrev s_are_names : Stmt := top 7
theorem sc_are_names : FnScope N_are_names ["kind", "thing"] (defScope s_are_names) := ⟨rfl, rfl, rfl, by decide +kernel, rfl, by decide +kernel, by decide +kernel⟩

abbrev s_is_most : Stmt := top 8
theorem sc_is_most : FnScope N_is_most ["kind", "thing"] (defScope s_is_most) := ⟨rfl, rfl, rfl, by decide +kernel, rfl, by decide +kernel, by decide +kernel⟩

abbrev s_is_last : Stmt := top 9
theorem sc_is_last : FnScope N_is_last ["kind", "thing"] (defScope s_is_last) := ⟨rfl, rfl, rfl, by decide +kernel, rfl, by decide +kernel, by decide +kernel⟩

abbrev s_is_row : Stmt := top 10
theorem sc_is_row : FnScope N_is_row ["kind", "thing"] (defScope s_is_row) := ⟨rfl, rfl, rfl, by decide +kernel, rfl, by decide +kernel, by decide +kernel⟩

abbrev s_is_table : Stmt := top 11
theorem sc_is_table : FnScope N_is_table ["kind", "thing"] (defScope s_is_table) := ⟨rfl, rfl, rfl, by decide +kernel, rfl, by decide +kernel, by decide +kernel⟩

abbrev s_is_pair : Stmt := top 12
theorem sc_is_pair : FnScope N_is_pair ["kind", "thing"] (defScope s_is_pair) := ⟨rfl, rfl, rfl, by decide +kernel, rfl, by decide +kernel, by decide +kernel⟩

abbrev s_is_worth : Stmt := top 14
theorem sc_is_worth : FnScope N_is_worth ["kind", "thing"] (defScope s_is_worth) := ⟨rfl, rfl, rfl, by decide +kernel, rfl, by decide +kernel, by decide +kernel⟩

abbrev s_bottom : Stmt := top 15
theorem sc_bottom : FnScope N_bottom ["kind"] (defScope s_bottom) := ⟨rfl, rfl, rfl, by decide +kernel, rfl, by decide +kernel, by decide +kernel⟩

abbrev s_joined_names : Stmt := top 16
theorem sc_joined_names : FnScope N_joined_names ["kind", "one", "other"] (defScope s_joined_names) := ⟨rfl, rfl, rfl, by decide +kernel, rfl, by decide +kernel, by decide +kernel⟩

abbrev s_greater : Stmt := top 17
theorem sc_greater : FnScope N_greater ["kind", "one", "other"] (defScope s_greater) := ⟨rfl, rfl, rfl, by decide +kernel, rfl, by decide +kernel, by decide +kernel⟩

abbrev s_joined_tables : Stmt := top 18
theorem sc_joined_tables : FnScope N_joined_tables ["kind", "one", "other"] (defScope s_joined_tables) := ⟨rfl, rfl, rfl, by decide +kernel, rfl, by decide +kernel, by decide +kernel⟩

abbrev s_joined_pairs : Stmt := top 19
theorem sc_joined_pairs : FnScope N_joined_pairs ["kind", "one", "other"] (defScope s_joined_pairs) := ⟨rfl, rfl, rfl, by decide +kernel, rfl, by decide +kernel, by decide +kernel⟩

abbrev s_join : Stmt := top 21
theorem sc_join : FnScope N_join ["kind", "one", "other"] (defScope s_join) := ⟨rfl, rfl, rfl, by decide +kernel, rfl, by decide +kernel, by decide +kernel⟩

abbrev s_under : Stmt := top 22
theorem sc_under : FnScope N_under ["kind", "one", "other"] (defScope s_under) := ⟨rfl, rfl, rfl, by decide +kernel, rfl, by decide +kernel, by decide +kernel⟩

abbrev s_law_cell_at : Stmt := top 24
theorem sc_law_cell_at : FnScope N_law_cell_at ["script", "k"] (defScope s_law_cell_at) := ⟨rfl, rfl, rfl, by decide +kernel, rfl, by decide +kernel, by decide +kernel⟩

abbrev s_law_bag : Stmt := top 25
theorem sc_law_bag : FnScope N_law_bag ["cell", "place"] (defScope s_law_bag) := ⟨rfl, rfl, rfl, by decide +kernel, rfl, by decide +kernel, by decide +kernel⟩

abbrev s_law_draw : Stmt := top 26
theorem sc_law_draw : FnScope N_law_draw ["bag", "many"] (defScope s_law_draw) := ⟨rfl, rfl, rfl, by decide +kernel, rfl, by decide +kernel, by decide +kernel⟩

abbrev s_law_kind : Stmt := top 27
theorem sc_law_kind : FnScope N_law_kind ["bag", "deep"] (defScope s_law_kind) := ⟨rfl, rfl, rfl, by decide +kernel, rfl, by decide +kernel, by decide +kernel⟩

abbrev s_law_name : Stmt := top 28
theorem sc_law_name : FnScope N_law_name ["bag"] (defScope s_law_name) := ⟨rfl, rfl, rfl, by decide +kernel, rfl, by decide +kernel, by decide +kernel⟩

abbrev s_law_least : Stmt := top 29
theorem sc_law_least : FnScope N_law_least ["kind"] (defScope s_law_least) := ⟨rfl, rfl, rfl, by decide +kernel, rfl, by decide +kernel, by decide +kernel⟩

abbrev s_law_worth : Stmt := top 30
theorem sc_law_worth : FnScope N_law_worth ["bag", "kind"] (defScope s_law_worth) := ⟨rfl, rfl, rfl, by decide +kernel, rfl, by decide +kernel, by decide +kernel⟩

abbrev s_law_beside : Stmt := top 31
theorem sc_law_beside : FnScope N_law_beside ["bag", "kind", "worth"] (defScope s_law_beside) := ⟨rfl, rfl, rfl, by decide +kernel, rfl, by decide +kernel, by decide +kernel⟩

abbrev s_law_joined : Stmt := top 32
theorem sc_law_joined : FnScope N_law_joined ["kind", "one", "other"] (defScope s_law_joined) := ⟨rfl, rfl, rfl, by decide +kernel, rfl, by decide +kernel, by decide +kernel⟩

abbrev s_law_same : Stmt := top 33
theorem sc_law_same : FnScope N_law_same ["found", "due"] (defScope s_law_same) := ⟨rfl, rfl, rfl, by decide +kernel, rfl, by decide +kernel, by decide +kernel⟩

abbrev s_law_great : Stmt := top 34
theorem sc_law_great : FnScope N_law_great ["bag"] (defScope s_law_great) := ⟨rfl, rfl, rfl, by decide +kernel, rfl, by decide +kernel, by decide +kernel⟩

abbrev s_law_right : Stmt := top 35
theorem sc_law_right : FnScope N_law_right ["kind", "one", "other"] (defScope s_law_right) := ⟨rfl, rfl, rfl, by decide +kernel, rfl, by decide +kernel, by decide +kernel⟩

abbrev s_law : Stmt := top 36
theorem sc_law : FnScope N_law ["script"] (defScope s_law) := ⟨rfl, rfl, rfl, by decide +kernel, rfl, by decide +kernel, by decide +kernel⟩

structure Ad where
  f_is_name : Addr
  d_is_name : FuncData
  f_is_number : Addr
  d_is_number : FuncData
  f_are_rising : Addr
  d_are_rising : FuncData
  f_are_names : Addr
  d_are_names : FuncData
  f_is_most : Addr
  d_is_most : FuncData
  f_is_last : Addr
  d_is_last : FuncData
  f_is_row : Addr
  d_is_row : FuncData
  f_is_table : Addr
  d_is_table : FuncData
  f_is_pair : Addr
  d_is_pair : FuncData
  f_is_worth : Addr
  d_is_worth : FuncData
  f_bottom : Addr
  d_bottom : FuncData
  f_joined_names : Addr
  d_joined_names : FuncData
  f_greater : Addr
  d_greater : FuncData
  f_joined_tables : Addr
  d_joined_tables : FuncData
  f_joined_pairs : Addr
  d_joined_pairs : FuncData
  f_join : Addr
  d_join : FuncData
  f_under : Addr
  d_under : FuncData
  f_law_cell_at : Addr
  d_law_cell_at : FuncData
  f_law_bag : Addr
  d_law_bag : FuncData
  f_law_draw : Addr
  d_law_draw : FuncData
  f_law_kind : Addr
  d_law_kind : FuncData
  f_law_name : Addr
  d_law_name : FuncData
  f_law_least : Addr
  d_law_least : FuncData
  f_law_worth : Addr
  d_law_worth : FuncData
  f_law_beside : Addr
  d_law_beside : FuncData
  f_law_joined : Addr
  d_law_joined : FuncData
  f_law_same : Addr
  d_law_same : FuncData
  f_law_great : Addr
  d_law_great : FuncData
  f_law_right : Addr
  d_law_right : FuncData
  f_law : Addr
  d_law : FuncData
  a_LEAST : Addr
  a_JUDGES : Addr
  a_JOINERS : Addr
  t_LONGEST_NAME : Tok
  t_LETTERS : Tok
structure Txt (wd : World) (K : PySem.W.Frag) (mg : Str → Option Value) (A : Ad) : Prop where
  n_all : mg "all" = none
  n_bool : mg "bool" = none
  n_dict : mg "dict" = none
  n_int : mg "int" = none
  n_isinstance : mg "isinstance" = none
  n_len : mg "len" = none
  n_list : mg "list" = none
  n_max : mg "max" = none
  n_min : mg "min" = none
  n_range : mg "range" = none
  n_set : mg "set" = none
  n_sorted : mg "sorted" = none
  n_str : mg "str" = none
  n_tuple : mg "tuple" = none
  n_zip : mg "zip" = none
  g_is_name : mg "is_name" = some (.ref A.f_is_name)
  k_is_name : PySem.W.keepIn K (.ref A.f_is_name) = true
  b_is_name : Binds K A.d_is_name ["thing"] []
  F_is_name : L2.Fun K "is_name" "is_name" s_is_name A.f_is_name A.d_is_name
  g_is_number : mg "is_number" = some (.ref A.f_is_number)
  k_is_number : PySem.W.keepIn K (.ref A.f_is_number) = true
  b_is_number : Binds K A.d_is_number ["thing"] []
  F_is_number : L2.Fun K "is_number" "is_number" s_is_number A.f_is_number A.d_is_number
  g_are_rising : mg "are_rising" = some (.ref A.f_are_rising)
  k_are_rising : PySem.W.keepIn K (.ref A.f_are_rising) = true
  b_are_rising : Binds K A.d_are_rising ["names"] []
  F_are_rising : L2.Fun K "are_rising" "are_rising" s_are_rising A.f_are_rising A.d_are_rising
  g_are_names : mg "are_names" = some (.ref A.f_are_names)
  k_are_names : PySem.W.keepIn K (.ref A.f_are_names) = true
  b_are_names : Binds K A.d_are_names ["kind", "thing"] []
  F_are_names : L2.Fun K "are_names" "are_names" s_are_names A.f_are_names A.d_are_names
  g_is_most : mg "is_most" = some (.ref A.f_is_most)
  k_is_most : PySem.W.keepIn K (.ref A.f_is_most) = true
  b_is_most : Binds K A.d_is_most ["kind", "thing"] []
  F_is_most : L2.Fun K "is_most" "is_most" s_is_most A.f_is_most A.d_is_most
  g_is_last : mg "is_last" = some (.ref A.f_is_last)
  k_is_last : PySem.W.keepIn K (.ref A.f_is_last) = true
  b_is_last : Binds K A.d_is_last ["kind", "thing"] []
  F_is_last : L2.Fun K "is_last" "is_last" s_is_last A.f_is_last A.d_is_last
  g_is_row : mg "is_row" = some (.ref A.f_is_row)
  k_is_row : PySem.W.keepIn K (.ref A.f_is_row) = true
  b_is_row : Binds K A.d_is_row ["kind", "thing"] []
  F_is_row : L2.Fun K "is_row" "is_row" s_is_row A.f_is_row A.d_is_row
  g_is_table : mg "is_table" = some (.ref A.f_is_table)
  k_is_table : PySem.W.keepIn K (.ref A.f_is_table) = true
  b_is_table : Binds K A.d_is_table ["kind", "thing"] []
  F_is_table : L2.Fun K "is_table" "is_table" s_is_table A.f_is_table A.d_is_table
  g_is_pair : mg "is_pair" = some (.ref A.f_is_pair)
  k_is_pair : PySem.W.keepIn K (.ref A.f_is_pair) = true
  b_is_pair : Binds K A.d_is_pair ["kind", "thing"] []
  F_is_pair : L2.Fun K "is_pair" "is_pair" s_is_pair A.f_is_pair A.d_is_pair
  g_is_worth : mg "is_worth" = some (.ref A.f_is_worth)
  k_is_worth : PySem.W.keepIn K (.ref A.f_is_worth) = true
  b_is_worth : Binds K A.d_is_worth ["kind", "thing"] []
  F_is_worth : L2.Fun K "is_worth" "is_worth" s_is_worth A.f_is_worth A.d_is_worth
  g_bottom : mg "bottom" = some (.ref A.f_bottom)
  k_bottom : PySem.W.keepIn K (.ref A.f_bottom) = true
  b_bottom : Binds K A.d_bottom ["kind"] []
  F_bottom : L2.Fun K "bottom" "bottom" s_bottom A.f_bottom A.d_bottom
  g_joined_names : mg "joined_names" = some (.ref A.f_joined_names)
  k_joined_names : PySem.W.keepIn K (.ref A.f_joined_names) = true
  b_joined_names : Binds K A.d_joined_names ["kind", "one", "other"] []
  F_joined_names : L2.Fun K "joined_names" "joined_names" s_joined_names A.f_joined_names A.d_joined_names
  g_greater : mg "greater" = some (.ref A.f_greater)
  k_greater : PySem.W.keepIn K (.ref A.f_greater) = true
  b_greater : Binds K A.d_greater ["kind", "one", "other"] []
  F_greater : L2.Fun K "greater" "greater" s_greater A.f_greater A.d_greater
  g_joined_tables : mg "joined_tables" = some (.ref A.f_joined_tables)
  k_joined_tables : PySem.W.keepIn K (.ref A.f_joined_tables) = true
  b_joined_tables : Binds K A.d_joined_tables ["kind", "one", "other"] []
  F_joined_tables : L2.Fun K "joined_tables" "joined_tables" s_joined_tables A.f_joined_tables A.d_joined_tables
  g_joined_pairs : mg "joined_pairs" = some (.ref A.f_joined_pairs)
  k_joined_pairs : PySem.W.keepIn K (.ref A.f_joined_pairs) = true
  b_joined_pairs : Binds K A.d_joined_pairs ["kind", "one", "other"] []
  F_joined_pairs : L2.Fun K "joined_pairs" "joined_pairs" s_joined_pairs A.f_joined_pairs A.d_joined_pairs
  g_join : mg "join" = some (.ref A.f_join)
  k_join : PySem.W.keepIn K (.ref A.f_join) = true
  b_join : Binds K A.d_join ["kind", "one", "other"] []
  F_join : L2.Fun K "join" "join" s_join A.f_join A.d_join
  g_under : mg "under" = some (.ref A.f_under)
  k_under : PySem.W.keepIn K (.ref A.f_under) = true
  b_under : Binds K A.d_under ["kind", "one", "other"] []
  F_under : L2.Fun K "under" "under" s_under A.f_under A.d_under
  g_law_cell_at : mg "_law_cell_at" = some (.ref A.f_law_cell_at)
  k_law_cell_at : PySem.W.keepIn K (.ref A.f_law_cell_at) = true
  b_law_cell_at : Binds K A.d_law_cell_at ["script", "k"] []
  F_law_cell_at : L2.Fun K "_law_cell_at" "_law_cell_at" s_law_cell_at A.f_law_cell_at A.d_law_cell_at
  g_law_bag : mg "_law_bag" = some (.ref A.f_law_bag)
  k_law_bag : PySem.W.keepIn K (.ref A.f_law_bag) = true
  b_law_bag : Binds K A.d_law_bag ["cell", "place"] []
  F_law_bag : L2.Fun K "_law_bag" "_law_bag" s_law_bag A.f_law_bag A.d_law_bag
  g_law_draw : mg "_law_draw" = some (.ref A.f_law_draw)
  k_law_draw : PySem.W.keepIn K (.ref A.f_law_draw) = true
  b_law_draw : Binds K A.d_law_draw ["bag", "many"] []
  F_law_draw : L2.Fun K "_law_draw" "_law_draw" s_law_draw A.f_law_draw A.d_law_draw
  g_law_kind : mg "_law_kind" = some (.ref A.f_law_kind)
  k_law_kind : PySem.W.keepIn K (.ref A.f_law_kind) = true
  b_law_kind : Binds K A.d_law_kind ["bag", "deep"] []
  F_law_kind : L2.Fun K "_law_kind" "_law_kind" s_law_kind A.f_law_kind A.d_law_kind
  g_law_name : mg "_law_name" = some (.ref A.f_law_name)
  k_law_name : PySem.W.keepIn K (.ref A.f_law_name) = true
  b_law_name : Binds K A.d_law_name ["bag"] []
  F_law_name : L2.Fun K "_law_name" "_law_name" s_law_name A.f_law_name A.d_law_name
  g_law_least : mg "_law_least" = some (.ref A.f_law_least)
  k_law_least : PySem.W.keepIn K (.ref A.f_law_least) = true
  b_law_least : Binds K A.d_law_least ["kind"] []
  F_law_least : L2.Fun K "_law_least" "_law_least" s_law_least A.f_law_least A.d_law_least
  g_law_worth : mg "_law_worth" = some (.ref A.f_law_worth)
  k_law_worth : PySem.W.keepIn K (.ref A.f_law_worth) = true
  b_law_worth : Binds K A.d_law_worth ["bag", "kind"] []
  F_law_worth : L2.Fun K "_law_worth" "_law_worth" s_law_worth A.f_law_worth A.d_law_worth
  g_law_beside : mg "_law_beside" = some (.ref A.f_law_beside)
  k_law_beside : PySem.W.keepIn K (.ref A.f_law_beside) = true
  b_law_beside : Binds K A.d_law_beside ["bag", "kind", "worth"] []
  F_law_beside : L2.Fun K "_law_beside" "_law_beside" s_law_beside A.f_law_beside A.d_law_beside
  g_law_joined : mg "_law_joined" = some (.ref A.f_law_joined)
  k_law_joined : PySem.W.keepIn K (.ref A.f_law_joined) = true
  b_law_joined : Binds K A.d_law_joined ["kind", "one", "other"] []
  F_law_joined : L2.Fun K "_law_joined" "_law_joined" s_law_joined A.f_law_joined A.d_law_joined
  g_law_same : mg "_law_same" = some (.ref A.f_law_same)
  k_law_same : PySem.W.keepIn K (.ref A.f_law_same) = true
  b_law_same : Binds K A.d_law_same ["found", "due"] []
  F_law_same : L2.Fun K "_law_same" "_law_same" s_law_same A.f_law_same A.d_law_same
  g_law_great : mg "_law_great" = some (.ref A.f_law_great)
  k_law_great : PySem.W.keepIn K (.ref A.f_law_great) = true
  b_law_great : Binds K A.d_law_great ["bag"] []
  F_law_great : L2.Fun K "_law_great" "_law_great" s_law_great A.f_law_great A.d_law_great
  g_law_right : mg "_law_right" = some (.ref A.f_law_right)
  k_law_right : PySem.W.keepIn K (.ref A.f_law_right) = true
  b_law_right : Binds K A.d_law_right ["kind", "one", "other"] []
  F_law_right : L2.Fun K "_law_right" "_law_right" s_law_right A.f_law_right A.d_law_right
  g_law : mg "law" = some (.ref A.f_law)
  k_law : PySem.W.keepIn K (.ref A.f_law) = true
  b_law : Binds K A.d_law ["script"] []
  F_law : L2.Fun K "law" "law" s_law A.f_law A.d_law
  g_LEAST : mg "LEAST" = some (.ref A.a_LEAST)
  kd_LEAST : KDic K wd A.a_LEAST kv_LEAST
  g_JUDGES : mg "JUDGES" = some (.ref A.a_JUDGES)
  kd_JUDGES : KDic K wd A.a_JUDGES (kv_JUDGES A.f_are_names A.f_is_most A.f_is_last A.f_is_table A.f_is_pair)
  g_JOINERS : mg "JOINERS" = some (.ref A.a_JOINERS)
  kd_JOINERS : KDic K wd A.a_JOINERS (kv_JOINERS A.f_joined_names A.f_greater A.f_joined_tables A.f_joined_pairs)
  g_LONGEST_NAME : mg "LONGEST_NAME" = some (.int 8 A.t_LONGEST_NAME)
  g_LETTERS : mg "LETTERS" = some (.str "abcdefghijklmnopqrstuvwxyz" A.t_LETTERS)
section
variable {P : Program} {wd : World} {K : PySem.W.Frag} {mg : Str → Option Value} {base : Heap} {A : Ad}
theorem step_bottom (T : Txt wd K mg A) (n : Nat) (G : FnOk P wd K mg base CX0 (2 + n) A.f_bottom A.d_bottom ["kind"] (spN K (prev c_bottom n))) : FnOk P wd K mg base CX0 ((2 + n) + 1) A.f_bottom A.d_bottom ["kind"] (spN K (c_bottom n)) :=
  DL.Fun.okD T.F_bottom sc_bottom (fun ss w R h => len_bottom h) (tb := (t_bottom (prev c_bottom n))) (fun cdv A0 outer s H E hr =>
    (ds_cons (ds_asg (dv 0) (dg_star (n := 2) (i := 1) rfl (dgs_cons (dg_name (i := 1) sc_bottom.nd rfl (Or.inl rfl)) (dgs_starred (dgs_cons (dg_name (i := 2) sc_bottom.nd rfl (Or.inl rfl)) dgs_nil)))))
      (ds_cons (ds_if (dt_eq hr.units (dv 1) de_str) (ds_one (ds_ret (de_tuple rfl T.n_tuple (da_cons (de_lc (own := [("one", 3)]) rfl sc_bottom.nd (di_seq (dv 2)) (blkOk_by (own := [("one", 3)]) (N := N_bottom) (sc := defScope s_bottom) (by decide +kernel)) (fun _ _ _ _ _ => (dvt_name (i := 3) (by decide) sc_bottom.nd rfl (Or.inl rfl))) (fun _ _ _ _ _ => dts_nil) (fun _ _ _ _ _ => (de_call G hr rfl T.g_bottom T.k_bottom T.b_bottom .nil (fun _ => .nil) (da_cons (dv 3) da_nil)))) da_nil)))) ds_nil)
      (ds_one (ds_ret (de_kix T.kd_LEAST rfl T.g_LEAST (dv 1) (fun _ _ => rfl)))))))
    (fun ss w R h => rd_bottom n h)

theorem ok_bottom (T : Txt wd K mg A) (n : Nat) : FnOk P wd K mg base CX0 (2 + n + 1) A.f_bottom A.d_bottom ["kind"] (spN K (c_bottom n)) := rec_ok c_bottom (step_bottom T) n

theorem ok_is_name (T : Txt wd K mg A) : FnOk P wd K mg base CX0 (1 + 1) A.f_is_name A.d_is_name ["thing"] (spN K c_is_name) :=
  DL.Fun.okD T.F_is_name sc_is_name (fun ss w R h => len_is_name h) (tb := t_is_name) (fun cdv A0 outer s H E hr =>
    (ds_cons (ds_if (dt_w (dw_or (dt_not (dt_val (de_isi .str (dv 0) rfl T.n_isinstance rfl T.n_str (by decide +kernel)))) (dw_or (dt_lt (de_len rfl T.n_len (da_cons (dv 0) da_nil)) de_int) (dw_or1 (dt_gt (de_len rfl T.n_len (da_cons (dv 0) da_nil)) (de_glob (v := .int _) rfl T.g_LONGEST_NAME ⟨_, rfl⟩ (fun _ => .int _))))))) (ds_one (ds_ret de_bl)) ds_nil)
      (ds_one (ds_ret (de_all rfl rfl T.n_all (da_cons (de_lc (own := [("sign", 1)]) rfl sc_is_name.nd (di_str (dv 0)) (blkOk_by (own := [("sign", 1)]) (N := N_is_name) (sc := defScope s_is_name) (by decide +kernel)) (fun _ _ _ _ _ => (dvt_name (i := 1) (by decide) sc_is_name.nd rfl (Or.inl rfl))) (fun _ _ _ _ _ => dts_nil) (fun _ _ _ _ _ => (de_in (dv 1) (de_glob (v := .str _) rfl T.g_LETTERS ⟨_, rfl⟩ (fun _ => .str _))))) da_nil))))))
    (fun ss w R h => rd_is_name h)

theorem ok_is_number (T : Txt wd K mg A) : FnOk P wd K mg base CX0 (1 + 1) A.f_is_number A.d_is_number ["thing"] (spN K c_is_number) :=
  DL.Fun.okD T.F_is_number sc_is_number (fun ss w R h => len_is_number h) (tb := t_is_number) (fun cdv A0 outer s H E hr =>
    (ds_one (ds_ret (de_and (de_isi .int (dv 0) rfl T.n_isinstance rfl T.n_int (by decide +kernel)) (de_one (de_not (de_isi .bool (dv 0) rfl T.n_isinstance rfl T.n_bool (by decide +kernel))))))))
    (fun ss w R h => rd_is_number h)

theorem ok_are_rising (T : Txt wd K mg A) : FnOk P wd K mg base CX0 (1 + 1) A.f_are_rising A.d_are_rising ["names"] (spN K c_are_rising) :=
  DL.Fun.okD T.F_are_rising sc_are_rising (fun ss w R h => len_are_rising h) (tb := t_are_rising) (fun cdv A0 outer s H E hr =>
    (ds_one (ds_ret (de_all rfl rfl T.n_all (da_cons (de_lc (own := [("one", 1), ("other", 2)]) rfl sc_are_rising.nd (di_zip rfl T.n_zip (da_cons (dv 0) (da_cons (de_slice (dv 0) (do_some de_int) do_none) da_nil))) (blkOk_by (own := [("one", 1), ("other", 2)]) (N := N_are_rising) (sc := defScope s_are_rising) (by decide +kernel)) (fun _ _ _ _ _ => (dvt_tup (n := 2) rfl (dvs_cons (dvt_name (i := 1) (by decide) sc_are_rising.nd rfl (Or.inl rfl)) (dvs_cons (dvt_name (i := 2) (by decide) sc_are_rising.nd rfl (Or.inl rfl)) dvs_nil)))) (fun _ _ _ _ _ => dts_nil) (fun _ _ _ _ _ => (de_lt (dv 1) (dv 2)))) da_nil)))))
    (fun ss w R h => rd_are_rising h)

theorem ok_are_names (T : Txt wd K mg A) : FnOk P wd K mg base CX0 (3 + 1) A.f_are_names A.d_are_names ["kind", "thing"] (spN K c_are_names) :=
  DL.Fun.okD T.F_are_names sc_are_names (fun ss w R h => len_are_names h) (tb := t_are_names) (fun cdv A0 outer s H E hr =>
    (ds_one (ds_ret (de_and (de_isi .tuple (dv 1) rfl T.n_isinstance rfl T.n_tuple (by decide +kernel)) (de_and (de_all rfl rfl T.n_all (da_cons (de_lc (own := [("one", 2)]) rfl sc_are_names.nd (di_seq (dv 1)) (blkOk_by (own := [("one", 2)]) (N := N_are_names) (sc := defScope s_are_names) (by decide +kernel)) (fun _ _ _ _ _ => (dvt_name (i := 2) (by decide) sc_are_names.nd rfl (Or.inl rfl))) (fun _ _ _ _ _ => dts_nil) (fun _ _ _ _ _ => (de_call (ok_is_name T) (hr.mono (by omega)) rfl T.g_is_name T.k_is_name T.b_is_name .nil (fun _ => .nil) (da_cons (dv 2) da_nil)))) da_nil)) (de_one (de_call (ok_are_rising T) (hr.mono (by omega)) rfl T.g_are_rising T.k_are_rising T.b_are_rising .nil (fun _ => .nil) (da_cons (dv 1) da_nil))))))))
    (fun ss w R h => rd_are_names h)

theorem ok_is_most (T : Txt wd K mg A) : FnOk P wd K mg base CX0 (3 + 1) A.f_is_most A.d_is_most ["kind", "thing"] (spN K c_is_most) :=
  DL.Fun.okD T.F_is_most sc_is_most (fun ss w R h => len_is_most h) (tb := t_is_most) (fun cdv A0 outer s H E hr =>
    (ds_one (ds_ret (de_and (de_call (ok_is_number T) (hr.mono (by omega)) rfl T.g_is_number T.k_is_number T.b_is_number .nil (fun _ => .nil) (da_cons (dv 1) da_nil)) (de_one (de_ge (dv 1) de_int))))))
    (fun ss w R h => rd_is_most h)

theorem ok_is_last (T : Txt wd K mg A) : FnOk P wd K mg base CX0 (3 + 1) A.f_is_last A.d_is_last ["kind", "thing"] (spN K c_is_last) :=
  DL.Fun.okD T.F_is_last sc_is_last (fun ss w R h => len_is_last h) (tb := t_is_last) (fun cdv A0 outer s H E hr =>
    (ds_cons (ds_if (dt_w (dw_or (dt_not (dt_val (de_isi .tuple (dv 1) rfl T.n_isinstance rfl T.n_tuple (by decide +kernel)))) (dw_or (dt_ne hr.units (de_len rfl T.n_len (da_cons (dv 1) da_nil)) de_int) (dw_or1 (dt_not (dt_val (de_all rfl rfl T.n_all (da_cons (de_lc (own := [("one", 2)]) rfl sc_is_last.nd (di_seq (dv 1)) (blkOk_by (own := [("one", 2)]) (N := N_is_last) (sc := defScope s_is_last) (by decide +kernel)) (fun _ _ _ _ _ => (dvt_name (i := 2) (by decide) sc_is_last.nd rfl (Or.inl rfl))) (fun _ _ _ _ _ => dts_nil) (fun _ _ _ _ _ => (de_call (ok_is_number T) (hr.mono (by omega)) rfl T.g_is_number T.k_is_number T.b_is_number .nil (fun _ => .nil) (da_cons (dv 2) da_nil)))) da_nil)))))))) (ds_one (ds_ret de_bl)) ds_nil)
      (ds_one (ds_ret (de_or (de_ge (de_ix (dv 1) de_int (fun _ _ => rfl)) de_int) (de_one (de_eq hr.units (dv 1) (de_kix T.kd_LEAST rfl T.g_LEAST de_str (fun _ _ => rfl)))))))))
    (fun ss w R h => rd_is_last h)

theorem ok_is_row (T : Txt wd K mg A) (n : Nat) (G : FnOk P wd K mg base CX0 (12 + 3 * n) A.f_is_worth A.d_is_worth ["kind", "thing"] (spN K (prev c_is_worth n))) : FnOk P wd K mg base CX0 ((12 + 3 * n + 0) + 1) A.f_is_row A.d_is_row ["kind", "thing"] (spN K (c_is_row n)) :=
  DL.Fun.okD T.F_is_row sc_is_row (fun ss w R h => len_is_row h) (tb := (t_is_row (prev c_is_worth n))) (fun cdv A0 outer s H E hr =>
    (ds_cons (ds_if (dt_w (dw_or (dt_not (dt_val (de_isi .tuple (dv 1) rfl T.n_isinstance rfl T.n_tuple (by decide +kernel)))) (dw_or (dt_ne hr.units (de_len rfl T.n_len (da_cons (dv 1) da_nil)) de_int) (dw_or1 (dt_not (dt_val (de_call (ok_is_name T) (hr.mono (by omega)) rfl T.g_is_name T.k_is_name T.b_is_name .nil (fun _ => .nil) (da_cons (de_ix (dv 1) de_int (fun _ _ => rfl)) da_nil)))))))) (ds_one (ds_ret de_bl)) ds_nil)
      (ds_one (ds_ret (de_and (de_call G hr rfl T.g_is_worth T.k_is_worth T.b_is_worth .nil (fun _ => .nil) (da_cons (dv 0) (da_cons (de_ix (dv 1) de_int (fun _ _ => rfl)) da_nil))) (de_one (de_ne hr.units (de_ix (dv 1) de_int (fun _ _ => rfl)) (de_call (ok_bottom T 5) (hr.mono (by omega)) rfl T.g_bottom T.k_bottom T.b_bottom .nil (fun _ => .nil) (da_cons (dv 0) da_nil)))))))))
    (fun ss w R h => rd_is_row n h)

theorem ok_is_table (T : Txt wd K mg A) (n : Nat) (G : FnOk P wd K mg base CX0 (12 + 3 * n) A.f_is_worth A.d_is_worth ["kind", "thing"] (spN K (prev c_is_worth n))) : FnOk P wd K mg base CX0 ((12 + 3 * n + 1) + 1) A.f_is_table A.d_is_table ["kind", "thing"] (spN K (c_is_table n)) :=
  DL.Fun.okD T.F_is_table sc_is_table (fun ss w R h => len_is_table h) (tb := (t_is_table (c_is_row n))) (fun cdv A0 outer s H E hr =>
    (ds_cons (ds_if (dt_w (dw_or (dt_not (dt_val (de_isi .tuple (dv 1) rfl T.n_isinstance rfl T.n_tuple (by decide +kernel)))) (dw_or1 (dt_not (dt_val (de_all rfl rfl T.n_all (da_cons (de_lc (own := [("row", 2)]) rfl sc_is_table.nd (di_seq (dv 1)) (blkOk_by (own := [("row", 2)]) (N := N_is_table) (sc := defScope s_is_table) (by decide +kernel)) (fun _ _ _ _ _ => (dvt_name (i := 2) (by decide) sc_is_table.nd rfl (Or.inl rfl))) (fun _ _ _ _ _ => dts_nil) (fun _ _ _ _ _ => (de_call (ok_is_row T n G) hr rfl T.g_is_row T.k_is_row T.b_is_row .nil (fun _ => .nil) (da_cons (de_ix (dv 0) de_int (fun _ _ => rfl)) (da_cons (dv 2) da_nil))))) da_nil))))))) (ds_one (ds_ret de_bl)) ds_nil)
      (ds_one (ds_ret (de_call (ok_are_rising T) (hr.mono (by omega)) rfl T.g_are_rising T.k_are_rising T.b_are_rising .nil (fun _ => .nil) (da_cons (de_lc (own := [("row", 2)]) rfl sc_is_table.nd (di_seq (dv 1)) (blkOk_by (own := [("row", 2)]) (N := N_is_table) (sc := defScope s_is_table) (by decide +kernel)) (fun _ _ _ _ _ => (dvt_name (i := 2) (by decide) sc_is_table.nd rfl (Or.inl rfl))) (fun _ _ _ _ _ => dts_nil) (fun _ _ _ _ _ => (de_ix (dv 2) de_int (fun _ _ => rfl)))) da_nil))))))
    (fun ss w R h => rd_is_table n h)

theorem ok_is_pair (T : Txt wd K mg A) (n : Nat) (G : FnOk P wd K mg base CX0 (12 + 3 * n) A.f_is_worth A.d_is_worth ["kind", "thing"] (spN K (prev c_is_worth n))) : FnOk P wd K mg base CX0 ((12 + 3 * n + 0) + 1) A.f_is_pair A.d_is_pair ["kind", "thing"] (spN K (c_is_pair n)) :=
  DL.Fun.okD T.F_is_pair sc_is_pair (fun ss w R h => len_is_pair h) (tb := (t_is_pair (prev c_is_worth n))) (fun cdv A0 outer s H E hr =>
    (ds_cons (ds_if (dt_w (dw_or (dt_not (dt_val (de_isi .tuple (dv 1) rfl T.n_isinstance rfl T.n_tuple (by decide +kernel)))) (dw_or1 (dt_ne hr.units (de_len rfl T.n_len (da_cons (dv 1) da_nil)) de_int)))) (ds_one (ds_ret de_bl)) ds_nil)
      (ds_one (ds_ret (de_and (de_call G hr rfl T.g_is_worth T.k_is_worth T.b_is_worth .nil (fun _ => .nil) (da_cons (de_ix (dv 0) de_int (fun _ _ => rfl)) (da_cons (de_ix (dv 1) de_int (fun _ _ => rfl)) da_nil))) (de_one (de_call G hr rfl T.g_is_worth T.k_is_worth T.b_is_worth .nil (fun _ => .nil) (da_cons (de_ix (dv 0) de_int (fun _ _ => rfl)) (da_cons (de_ix (dv 1) de_int (fun _ _ => rfl)) da_nil)))))))))
    (fun ss w R h => rd_is_pair n h)

theorem step_is_worth (T : Txt wd K mg A) (n : Nat) (G : FnOk P wd K mg base CX0 (12 + 3 * n) A.f_is_worth A.d_is_worth ["kind", "thing"] (spN K (prev c_is_worth n))) : FnOk P wd K mg base CX0 ((12 + 3 * n + 2) + 1) A.f_is_worth A.d_is_worth ["kind", "thing"] (spN K (c_is_worth n)) :=
  DL.Fun.okD T.F_is_worth sc_is_worth (fun ss w R h => len_is_worth h) (tb := (t_is_worth A.f_are_names A.f_is_most A.f_is_last A.f_is_table A.f_is_pair (c_is_table n) (c_is_pair n))) (fun cdv A0 outer s H E hr =>
    (ds_cons (ds_set (i := 2) sc_is_worth.nd rfl (Or.inl rfl) (de_kix T.kd_JUDGES rfl T.g_JUDGES (de_ix (dv 0) de_int (fun _ _ => rfl)) (fun _ _ => rfl)))
      (ds_one (ds_ret (de_either (de_callL (i := 2) (ok_are_names T) (hr.mono (by omega)) rfl T.k_are_names T.b_are_names (da_cons (dv 0) (da_cons (dv 1) da_nil))) (de_either (de_callL (i := 2) (ok_is_most T) (hr.mono (by omega)) rfl T.k_is_most T.b_is_most (da_cons (dv 0) (da_cons (dv 1) da_nil))) (de_either (de_callL (i := 2) (ok_is_last T) (hr.mono (by omega)) rfl T.k_is_last T.b_is_last (da_cons (dv 0) (da_cons (dv 1) da_nil))) (de_either (de_callL (i := 2) (ok_is_table T n G) (hr.mono (by omega)) rfl T.k_is_table T.b_is_table (da_cons (dv 0) (da_cons (dv 1) da_nil))) (de_callL (i := 2) (ok_is_pair T n G) (hr.mono (by omega)) rfl T.k_is_pair T.b_is_pair (da_cons (dv 0) (da_cons (dv 1) da_nil)))))))))))
    (fun ss w R h => rd_is_worth n h)

theorem ok_is_worth (T : Txt wd K mg A) (n : Nat) : FnOk P wd K mg base CX0 (12 + 3 * n + 3) A.f_is_worth A.d_is_worth ["kind", "thing"] (spN K (c_is_worth n)) := rec_okM c_is_worth (step_is_worth T) n

theorem ok_joined_names (T : Txt wd K mg A) : FnOk P wd K mg base CX0 (3 + 1) A.f_joined_names A.d_joined_names ["kind", "one", "other"] (spN K c_joined_names) :=
  DL.Fun.okD T.F_joined_names sc_joined_names (fun ss w R h => len_joined_names h) (tb := t_joined_names) (fun cdv A0 outer s H E hr =>
    (ds_one (ds_ret (de_tuple rfl T.n_tuple (da_cons (de_sortOrP rfl rfl T.n_sorted rfl T.n_set (dv 1) (dv 2)) da_nil)))))
    (fun ss w R h => rd_joined_names h)

theorem ok_greater (T : Txt wd K mg A) : FnOk P wd K mg base CX0 (3 + 1) A.f_greater A.d_greater ["kind", "one", "other"] (spN K c_greater) :=
  DL.Fun.okD T.F_greater sc_greater (fun ss w R h => len_greater h) (tb := t_greater) (fun cdv A0 outer s H E hr =>
    (ds_one (ds_ret (de_maxP rfl hr.units rfl T.n_max (da_cons (dv 1) (da_cons (dv 2) da_nil))))))
    (fun ss w R h => rd_greater h)

theorem ok_joined_tables (T : Txt wd K mg A) (n : Nat) (G : FnOk P wd K mg base CX0 (4 + 2 * n) A.f_join A.d_join ["kind", "one", "other"] (spN K (prev c_join n))) : FnOk P wd K mg base CX0 ((4 + 2 * n + 0) + 1) A.f_joined_tables A.d_joined_tables ["kind", "one", "other"] (spN K (c_joined_tables n)) :=
  DL.Fun.okD T.F_joined_tables sc_joined_tables (fun ss w R h => len_joined_tables h) (tb := (t_joined_tables (prev c_join n))) (fun cdv A0 outer s H E hr =>
    (ds_cons (ds_set (i := 3) sc_joined_tables.nd rfl (Or.inl rfl) (de_dictT rfl rfl T.n_dict (dv 1)))
      (ds_cons (ds_for PassesOwn.never rfl (di_seq (dv 2)) (dg_tup (n := 2) rfl (dgs_cons (dg_name (i := 4) sc_joined_tables.nd rfl (Or.inl rfl)) (dgs_cons (dg_name (i := 5) sc_joined_tables.nd rfl (Or.inl rfl)) dgs_nil))) (ds_one (ds_dput hr.units (dv 3) (dv 4) (de_if (dt_din hr.units (dv 4) (dv 3)) (de_call G hr rfl T.g_join T.k_join T.b_join .nil (fun _ => .nil) (da_cons (de_ix (dv 0) de_int (fun _ _ => rfl)) (da_cons (de_dget hr.units (dv 3) (dv 4) (fun _ _ => rfl)) (da_cons (dv 5) da_nil)))) (dv 5)))))
      (ds_one (ds_ret (de_tuple rfl T.n_tuple (da_cons (de_sortItems rfl hr.units rfl T.n_sorted (dv 3)) da_nil)))))))
    (fun ss w R h => rd_joined_tables n h)

theorem ok_joined_pairs (T : Txt wd K mg A) (n : Nat) (G : FnOk P wd K mg base CX0 (4 + 2 * n) A.f_join A.d_join ["kind", "one", "other"] (spN K (prev c_join n))) : FnOk P wd K mg base CX0 ((4 + 2 * n + 0) + 1) A.f_joined_pairs A.d_joined_pairs ["kind", "one", "other"] (spN K (c_joined_pairs n)) :=
  DL.Fun.okD T.F_joined_pairs sc_joined_pairs (fun ss w R h => len_joined_pairs h) (tb := (t_joined_pairs (prev c_join n))) (fun cdv A0 outer s H E hr =>
    (ds_one (ds_ret (de_tuple rfl T.n_tuple (da_cons (de_lc (own := [("part", 3), ("mine", 4), ("theirs", 5)]) rfl sc_joined_pairs.nd (di_zip3 rfl T.n_zip (da_cons (de_slice (dv 0) (do_some de_int) do_none) (da_cons (dv 1) (da_cons (dv 2) da_nil)))) (blkOk_by (own := [("part", 3), ("mine", 4), ("theirs", 5)]) (N := N_joined_pairs) (sc := defScope s_joined_pairs) (by decide +kernel)) (fun _ _ _ _ _ => (dvt_tup (n := 3) rfl (dvs_cons (dvt_name (i := 3) (by decide) sc_joined_pairs.nd rfl (Or.inl rfl)) (dvs_cons (dvt_name (i := 4) (by decide) sc_joined_pairs.nd rfl (Or.inl rfl)) (dvs_cons (dvt_name (i := 5) (by decide) sc_joined_pairs.nd rfl (Or.inl rfl)) dvs_nil))))) (fun _ _ _ _ _ => dts_nil) (fun _ _ _ _ _ => (de_call G hr rfl T.g_join T.k_join T.b_join .nil (fun _ => .nil) (da_cons (dv 3) (da_cons (dv 4) (da_cons (dv 5) da_nil)))))) da_nil)))))
    (fun ss w R h => rd_joined_pairs n h)

theorem step_join (T : Txt wd K mg A) (n : Nat) (G : FnOk P wd K mg base CX0 (4 + 2 * n) A.f_join A.d_join ["kind", "one", "other"] (spN K (prev c_join n))) : FnOk P wd K mg base CX0 ((4 + 2 * n + 1) + 1) A.f_join A.d_join ["kind", "one", "other"] (spN K (c_join n)) :=
  DL.Fun.okD T.F_join sc_join (fun ss w R h => len_join h) (tb := (t_join A.f_joined_names A.f_greater A.f_joined_tables A.f_joined_pairs (c_joined_tables n) (c_joined_pairs n))) (fun cdv A0 outer s H E hr =>
    (ds_cons (ds_set (i := 3) sc_join.nd rfl (Or.inl rfl) (de_kix T.kd_JOINERS rfl T.g_JOINERS (de_ix (dv 0) de_int (fun _ _ => rfl)) (fun _ _ => rfl)))
      (ds_one (ds_ret (de_either (de_callL (i := 3) (ok_joined_names T) (hr.mono (by omega)) rfl T.k_joined_names T.b_joined_names (da_cons (dv 0) (da_cons (dv 1) (da_cons (dv 2) da_nil)))) (de_either (de_callL (i := 3) (ok_greater T) (hr.mono (by omega)) rfl T.k_greater T.b_greater (da_cons (dv 0) (da_cons (dv 1) (da_cons (dv 2) da_nil)))) (de_either (de_callL (i := 3) (ok_joined_tables T n G) (hr.mono (by omega)) rfl T.k_joined_tables T.b_joined_tables (da_cons (dv 0) (da_cons (dv 1) (da_cons (dv 2) da_nil)))) (de_callL (i := 3) (ok_joined_pairs T n G) (hr.mono (by omega)) rfl T.k_joined_pairs T.b_joined_pairs (da_cons (dv 0) (da_cons (dv 1) (da_cons (dv 2) da_nil)))))))))))
    (fun ss w R h => rd_join n h)

theorem ok_join (T : Txt wd K mg A) (n : Nat) : FnOk P wd K mg base CX0 (4 + 2 * n + 2) A.f_join A.d_join ["kind", "one", "other"] (spN K (c_join n)) := rec_okM c_join (step_join T) n

theorem ok_under (T : Txt wd K mg A) : FnOk P wd K mg base CX0 (20 + 1) A.f_under A.d_under ["kind", "one", "other"] (spN K c_under) :=
  DL.Fun.okD T.F_under sc_under (fun ss w R h => len_under h) (tb := t_under) (fun cdv A0 outer s H E hr =>
    (ds_one (ds_ret (de_eq hr.units (de_call (ok_join T 5) (hr.mono (by decide)) rfl T.g_join T.k_join T.b_join .nil (fun _ => .nil) (da_cons (dv 0) (da_cons (dv 1) (da_cons (dv 2) da_nil)))) (dv 2)))))
    (fun ss w R h => rd_under h)

theorem ok_law_cell_at (T : Txt wd K mg A) : FnOk P wd K mg base CX0 (1 + 1) A.f_law_cell_at A.d_law_cell_at ["script", "k"] (spN K c_law_cell_at) :=
  DL.Fun.okD T.F_law_cell_at sc_law_cell_at (fun ss w R h => len_law_cell_at h) (tb := t_law_cell_at) (fun cdv A0 outer s H E hr =>
    (ds_cons (ds_if (dt_lt (dv 1) (de_len rfl T.n_len (da_cons (dv 0) da_nil))) (ds_one (ds_ret (de_ix (dv 0) (dv 1) (fun _ _ => rfl)))) ds_nil)
      (ds_one (ds_ret de_int))))
    (fun ss w R h => rd_law_cell_at h)

theorem ok_law_bag (T : Txt wd K mg A) : FnOk P wd K mg base CX0 (1 + 1) A.f_law_bag A.d_law_bag ["cell", "place"] (spN K c_law_bag) :=
  DL.Fun.okD T.F_law_bag sc_law_bag (fun ss w R h => len_law_bag h) (tb := t_law_bag) (fun cdv A0 outer s H E hr =>
    (ds_one (ds_ret (de_lstD (dd_cons (de_max rfl rfl T.n_max (da_cons de_int (da_cons (de_sub (dv 0) (de_pow de_int de_int)) da_nil))) (dd_cons (de_add (de_mod (dv 0) de_int) (de_mul de_int (dv 1))) (dd_cons de_int dd_nil)))))))
    (fun ss w R h => rd_law_bag h)

theorem ok_law_draw (T : Txt wd K mg A) : FnOk P wd K mg base CX0 (1 + 1) A.f_law_draw A.d_law_draw ["bag", "many"] (spN K c_law_draw) :=
  DL.Fun.okD T.F_law_draw sc_law_draw (fun ss w R h => len_law_draw h) (tb := t_law_draw) (fun cdv A0 outer s H E hr =>
    (ds_cons (ds_if (dt_gt (de_ix (dv 0) de_int (fun _ _ => rfl)) de_int) (ds_cons (ds_set (i := 2) sc_law_draw.nd rfl (Or.inl rfl) (de_mod (de_ix (dv 0) de_int (fun _ _ => rfl)) (dv 1)))
      (ds_cons (ds_asg (de_div (de_ix (dv 0) de_int (fun _ _ => rfl)) (dv 1)) (dg_sub (dv 0) de_int))
      (ds_one (ds_ret (dv 2))))) ds_nil)
      (ds_cons (ds_asg (de_add (de_ix (dv 0) de_int (fun _ _ => rfl)) de_int) (dg_sub (dv 0) de_int))
      (ds_cons (ds_set (i := 3) sc_law_draw.nd rfl (Or.inl rfl) (de_mod (de_pow (de_add (de_ix (dv 0) de_int (fun _ _ => rfl)) (de_mul de_int (de_ix (dv 0) de_int (fun _ _ => rfl)))) de_int) de_int))
      (ds_cons (ds_set (i := 3) sc_law_draw.nd rfl (Or.inl rfl) (de_mod (de_pow (de_add (dv 3) (de_mul de_int (de_ix (dv 0) de_int (fun _ _ => rfl)))) de_int) de_int))
      (ds_one (ds_ret (de_mod (de_div (dv 3) de_int) (dv 1)))))))))
    (fun ss w R h => rd_law_draw h)

theorem step_law_kind (T : Txt wd K mg A) (n : Nat) (G : FnOk P wd K mg base CX0 (3 + n) A.f_law_kind A.d_law_kind ["bag", "deep"] (spN K (prev c_law_kind n))) : FnOk P wd K mg base CX0 ((3 + n) + 1) A.f_law_kind A.d_law_kind ["bag", "deep"] (spN K (c_law_kind n)) :=
  DL.Fun.okD T.F_law_kind sc_law_kind (fun ss w R h => len_law_kind h) (tb := (t_law_kind (prev c_law_kind n))) (fun cdv A0 outer s H E hr =>
    (ds_cons (ds_set (i := 2) sc_law_kind.nd rfl (Or.inl rfl) (de_call (ok_law_draw T) (hr.mono (by omega)) rfl T.g_law_draw T.k_law_draw T.b_law_draw .nil (fun _ => .nil) (da_cons (dv 0) (da_cons de_int da_nil))))
      (ds_cons (ds_if (dt_w (dw_or (dt_lt (dv 2) de_int) (dw_or1 (dt_lt (dv 1) de_int)))) (ds_one (ds_ret (de_fz (de_ix (de_fz (de_lstD (dd_cons (de_tup (dd_cons de_str dd_nil)) (dd_cons (de_tup (dd_cons de_str dd_nil)) (dd_cons (de_tup (dd_cons de_str dd_nil)) dd_nil))))) (de_call (ok_law_draw T) (hr.mono (by omega)) rfl T.g_law_draw T.k_law_draw T.b_law_draw .nil (fun _ => .nil) (da_cons (dv 0) (da_cons de_int da_nil))) (fun _ _ => rfl))))) ds_nil)
      (ds_cons (ds_if (dt_lt (dv 2) de_int) (ds_one (ds_ret (de_fz (de_tup (dd_cons de_str (dd_cons (de_call G hr rfl T.g_law_kind T.k_law_kind T.b_law_kind .nil (fun _ => .nil) (da_cons (dv 0) (da_cons (de_sub (dv 1) de_int) da_nil))) dd_nil)))))) ds_nil)
      (ds_one (ds_ret (de_fz (de_tup (dd_cons de_str (dd_cons (de_call G hr rfl T.g_law_kind T.k_law_kind T.b_law_kind .nil (fun _ => .nil) (da_cons (dv 0) (da_cons (de_sub (dv 1) de_int) da_nil))) (dd_cons (de_call G hr rfl T.g_law_kind T.k_law_kind T.b_law_kind .nil (fun _ => .nil) (da_cons (dv 0) (da_cons (de_sub (dv 1) de_int) da_nil))) dd_nil)))))))))))
    (fun ss w R h => rd_law_kind n h)

theorem ok_law_kind (T : Txt wd K mg A) (n : Nat) : FnOk P wd K mg base CX0 (3 + n + 1) A.f_law_kind A.d_law_kind ["bag", "deep"] (spN K (c_law_kind n)) := rec_ok c_law_kind (step_law_kind T) n

theorem ok_law_name (T : Txt wd K mg A) : FnOk P wd K mg base CX0 (4 + 1) A.f_law_name A.d_law_name ["bag"] (spN K c_law_name) :=
  DL.Fun.okD T.F_law_name sc_law_name (fun ss w R h => len_law_name h) (tb := t_law_name) (fun cdv A0 outer s H E hr =>
    (ds_cons (ds_set (i := 1) sc_law_name.nd rfl (Or.inr rfl) (de_ix (de_fz (de_lstD (dd_cons de_str (dd_cons de_str dd_nil)))) (de_call (ok_law_draw T) (hr.mono (by omega)) rfl T.g_law_draw T.k_law_draw T.b_law_draw .nil (fun _ => .nil) (da_cons (dv 0) (da_cons de_int da_nil))) (fun _ _ => rfl)))
      (ds_cons (ds_set (i := 2) sc_law_name.nd rfl (Or.inl rfl) (de_ix (de_fz (de_lstD (dd_cons de_int (dd_cons de_int (dd_cons (de_add de_int (de_call (ok_law_draw T) (hr.mono (by omega)) rfl T.g_law_draw T.k_law_draw T.b_law_draw .nil (fun _ => .nil) (da_cons (dv 0) (da_cons de_int da_nil)))) dd_nil))))) (de_call (ok_law_draw T) (hr.mono (by omega)) rfl T.g_law_draw T.k_law_draw T.b_law_draw .nil (fun _ => .nil) (da_cons (dv 0) (da_cons de_int da_nil))) (fun _ _ => rfl)))
      (ds_one (ds_ret (de_fz (de_join de_str (de_fz (de_lc (own := [("k", 3)]) rfl sc_law_name.nd (di_range1 rfl T.n_range (da_cons (dv 2) da_nil)) (blkOk_by (own := [("k", 3)]) (N := N_law_name) (sc := defScope s_law_name) (by decide +kernel)) (fun _ _ _ _ _ => (dvt_name (i := 3) (by decide) sc_law_name.nd rfl (Or.inl rfl))) (fun _ _ _ _ _ => dts_nil) (fun _ _ _ _ _ => (de_ix (dv 1) (de_call (ok_law_draw T) (hr.mono (by omega)) rfl T.g_law_draw T.k_law_draw T.b_law_draw .nil (fun _ => .nil) (da_cons (dv 0) (da_cons (de_len rfl T.n_len (da_cons (dv 1) da_nil)) da_nil))) (fun _ _ => rfl))))))))))))
    (fun ss w R h => rd_law_name h)

theorem step_law_least (T : Txt wd K mg A) (n : Nat) (G : FnOk P wd K mg base CX0 (2 + n) A.f_law_least A.d_law_least ["kind"] (spN K (prev c_law_least n))) : FnOk P wd K mg base CX0 ((2 + n) + 1) A.f_law_least A.d_law_least ["kind"] (spN K (c_law_least n)) :=
  DL.Fun.okD T.F_law_least sc_law_least (fun ss w R h => len_law_least h) (tb := (t_law_least (prev c_law_least n))) (fun cdv A0 outer s H E hr =>
    (ds_cons (ds_if (dt_eq hr.units (de_ix (dv 0) de_int (fun _ _ => rfl)) de_str) (ds_one (ds_ret (de_tup (dd_cons (de_call G hr rfl T.g_law_least T.k_law_least T.b_law_least .nil (fun _ => .nil) (da_cons (de_ix (dv 0) de_int (fun _ _ => rfl)) da_nil)) (dd_cons (de_call G hr rfl T.g_law_least T.k_law_least T.b_law_least .nil (fun _ => .nil) (da_cons (de_ix (dv 0) de_int (fun _ _ => rfl)) da_nil)) dd_nil))))) ds_nil)
      (ds_one (ds_ret (de_dget hr.units (de_disp (DPs.cons (de_tup dd_nil) (DPs.cons de_int (DPs.cons (de_tup (dd_cons de_int (dd_cons de_int dd_nil))) (DPs.cons (de_tup dd_nil) DPs.nil)))) (by decide) (by decide) rfl) (de_ix (dv 0) de_int (fun _ _ => rfl)) (fun _ _ => rfl))))))
    (fun ss w R h => rd_law_least n h)

theorem ok_law_least (T : Txt wd K mg A) (n : Nat) : FnOk P wd K mg base CX0 (2 + n + 1) A.f_law_least A.d_law_least ["kind"] (spN K (c_law_least n)) := rec_ok c_law_least (step_law_least T) n

theorem step_law_worth (T : Txt wd K mg A) (n : Nat) (G : FnOk P wd K mg base CX0 (9 + n) A.f_law_worth A.d_law_worth ["bag", "kind"] (spN K (prev c_law_worth n))) : FnOk P wd K mg base CX0 ((9 + n) + 1) A.f_law_worth A.d_law_worth ["bag", "kind"] (spN K (c_law_worth n)) :=
  DL.Fun.okD T.F_law_worth sc_law_worth (fun ss w R h => len_law_worth h) (tb := (t_law_worth (prev c_law_worth n))) (fun cdv A0 outer s H E hr =>
    (ds_cons (ds_set (i := 2) sc_law_worth.nd rfl (Or.inl rfl) (de_ix (dv 1) de_int (fun _ _ => rfl)))
      (ds_cons (ds_if (dt_eq hr.units (dv 2) de_str) (ds_one (ds_ret (de_fz (de_call (ok_law_draw T) (hr.mono (by omega)) rfl T.g_law_draw T.k_law_draw T.b_law_draw .nil (fun _ => .nil) (da_cons (dv 0) (da_cons (de_ix (de_fz (de_lstD (dd_cons de_int (dd_cons de_int (dd_cons (de_pow de_int de_int) dd_nil))))) (de_call (ok_law_draw T) (hr.mono (by omega)) rfl T.g_law_draw T.k_law_draw T.b_law_draw .nil (fun _ => .nil) (da_cons (dv 0) (da_cons de_int da_nil))) (fun _ _ => rfl)) da_nil)))))) ds_nil)
      (ds_cons (ds_if (dt_eq hr.units (dv 2) de_str) (ds_cons (ds_set (i := 3) sc_law_worth.nd rfl (Or.inl rfl) (de_call (ok_law_draw T) (hr.mono (by omega)) rfl T.g_law_draw T.k_law_draw T.b_law_draw .nil (fun _ => .nil) (da_cons (dv 0) (da_cons (de_ix (de_fz (de_lstD (dd_cons de_int (dd_cons de_int (dd_cons (de_pow de_int de_int) dd_nil))))) (de_call (ok_law_draw T) (hr.mono (by omega)) rfl T.g_law_draw T.k_law_draw T.b_law_draw .nil (fun _ => .nil) (da_cons (dv 0) (da_cons de_int da_nil))) (fun _ _ => rfl)) da_nil))))
      (ds_one (ds_ret (de_fz (de_tup (dd_cons (dv 3) (dd_cons (de_mul (de_sub (de_call (ok_law_draw T) (hr.mono (by omega)) rfl T.g_law_draw T.k_law_draw T.b_law_draw .nil (fun _ => .nil) (da_cons (dv 0) (da_cons (de_ix (de_fz (de_lstD (dd_cons de_int (dd_cons (de_pow de_int de_int) dd_nil)))) (de_call (ok_law_draw T) (hr.mono (by omega)) rfl T.g_law_draw T.k_law_draw T.b_law_draw .nil (fun _ => .nil) (da_cons (dv 0) (da_cons de_int da_nil))) (fun _ _ => rfl)) da_nil))) de_int) (de_min rfl rfl T.n_min (da_cons de_int (da_cons (dv 3) da_nil)))) dd_nil))))))) ds_nil)
      (ds_cons (ds_if (dt_eq hr.units (dv 2) de_str) (ds_one (ds_ret (de_fz (de_tup (dd_cons (de_call G hr rfl T.g_law_worth T.k_law_worth T.b_law_worth .nil (fun _ => .nil) (da_cons (dv 0) (da_cons (de_ix (dv 1) de_int (fun _ _ => rfl)) da_nil))) (dd_cons (de_call G hr rfl T.g_law_worth T.k_law_worth T.b_law_worth .nil (fun _ => .nil) (da_cons (dv 0) (da_cons (de_ix (dv 1) de_int (fun _ _ => rfl)) da_nil))) dd_nil)))))) ds_nil)
      (ds_cons (ds_set (i := 4) sc_law_worth.nd rfl (Or.inl rfl) (de_fz (de_sortSet rfl rfl T.n_sorted rfl T.n_set (de_fz (de_lc (own := [("k", 8)]) rfl sc_law_worth.nd (di_range1 rfl T.n_range (da_cons (de_call (ok_law_draw T) (hr.mono (by omega)) rfl T.g_law_draw T.k_law_draw T.b_law_draw .nil (fun _ => .nil) (da_cons (dv 0) (da_cons de_int da_nil))) da_nil)) (blkOk_by (own := [("k", 8)]) (N := N_law_worth) (sc := defScope s_law_worth) (by decide +kernel)) (fun _ _ _ _ _ => (dvt_name (i := 8) (by decide) sc_law_worth.nd rfl (Or.inl rfl))) (fun _ _ _ _ _ => dts_nil) (fun _ _ _ _ _ => (de_call (ok_law_name T) (hr.mono (by omega)) rfl T.g_law_name T.k_law_name T.b_law_name .nil (fun _ => .nil) (da_cons (dv 0) da_nil))))))))
      (ds_cons (ds_if (dt_eq hr.units (dv 2) de_str) (ds_one (ds_ret (de_fz (de_tuple rfl T.n_tuple (da_cons (dv 4) da_nil))))) ds_nil)
      (ds_cons (ds_fzset (ds_setLc (i := 5) (own := [("name", 6)]) rfl sc_law_worth.nd rfl rfl (sw_true rfl rfl rfl (by decide +kernel)) (di_seq (dv 4)) (blkOk_by (own := [("name", 6)]) (N := N_law_worth) (sc := defScope s_law_worth) (by decide +kernel)) (fun _ _ _ _ _ => (dvt_name (i := 6) (by decide) sc_law_worth.nd rfl (Or.inl rfl))) (fun _ _ _ _ _ => dts_nil) (fun _ _ _ _ _ => (de_tup (dd_cons (dv 6) (dd_cons (de_call G hr rfl T.g_law_worth T.k_law_worth T.b_law_worth .nil (fun _ => .nil) (da_cons (dv 0) (da_cons (de_ix (dv 1) de_int (fun _ _ => rfl)) da_nil))) dd_nil))))))
      (ds_one (ds_ret (de_fz (de_tuple rfl T.n_tuple (da_cons (de_fz (de_lc (own := [("row", 7)]) rfl sc_law_worth.nd (di_seq (dv 5)) (blkOk_by (own := [("row", 7)]) (N := N_law_worth) (sc := defScope s_law_worth) (by decide +kernel)) (fun _ _ _ _ _ => (dvt_name (i := 7) (by decide) sc_law_worth.nd rfl (Or.inl rfl))) (fun _ _ _ _ _ => (dts_one (dt_ne hr.units (de_ix (dv 7) de_int (fun _ _ => rfl)) (de_call (ok_law_least T 5) (hr.mono (by omega)) rfl T.g_law_least T.k_law_least T.b_law_least .nil (fun _ => .nil) (da_cons (de_ix (dv 1) de_int (fun _ _ => rfl)) da_nil))))) (fun _ _ _ _ _ => (dv 7)))) da_nil)))))))))))))
    (fun ss w R h => rd_law_worth n h)

theorem ok_law_worth (T : Txt wd K mg A) (n : Nat) : FnOk P wd K mg base CX0 (9 + n + 1) A.f_law_worth A.d_law_worth ["bag", "kind"] (spN K (c_law_worth n)) := rec_ok c_law_worth (step_law_worth T) n

theorem step_law_beside (T : Txt wd K mg A) (n : Nat) (G : FnOk P wd K mg base CX0 (20 + n) A.f_law_beside A.d_law_beside ["bag", "kind", "worth"] (spN K (prev c_law_beside n))) : FnOk P wd K mg base CX0 ((20 + n) + 1) A.f_law_beside A.d_law_beside ["bag", "kind", "worth"] (spN K (c_law_beside n)) :=
  DL.Fun.okD T.F_law_beside sc_law_beside (fun ss w R h => len_law_beside h) (tb := (t_law_beside (prev c_law_beside n))) (fun cdv A0 outer s H E hr =>
    (ds_cons (ds_set (i := 3) sc_law_beside.nd rfl (Or.inl rfl) (de_ix (dv 1) de_int (fun _ _ => rfl)))
      (ds_cons (ds_if (dt_eq hr.units (dv 3) de_str) (ds_one (ds_ret (de_fz (de_tup (dd_cons (de_call G hr rfl T.g_law_beside T.k_law_beside T.b_law_beside .nil (fun _ => .nil) (da_cons (dv 0) (da_cons (de_ix (dv 1) de_int (fun _ _ => rfl)) (da_cons (de_ix (dv 2) de_int (fun _ _ => rfl)) da_nil)))) (dd_cons (de_call G hr rfl T.g_law_beside T.k_law_beside T.b_law_beside .nil (fun _ => .nil) (da_cons (dv 0) (da_cons (de_ix (dv 1) de_int (fun _ _ => rfl)) (da_cons (de_ix (dv 2) de_int (fun _ _ => rfl)) da_nil)))) dd_nil)))))) ds_nil)
      (ds_cons (ds_set (i := 4) sc_law_beside.nd rfl (Or.inr rfl) (de_call (ok_law_draw T) (hr.mono (by omega)) rfl T.g_law_draw T.k_law_draw T.b_law_draw .nil (fun _ => .nil) (da_cons (dv 0) (da_cons de_int da_nil))))
      (ds_cons (ds_if (dt_eq hr.units (dv 4) de_int) (ds_one (ds_ret (de_fz (dv 2)))) ds_nil)
      (ds_cons (ds_if (dt_eq hr.units (dv 3) de_str) (ds_one (ds_ret (de_fz (de_max rfl rfl T.n_max (da_cons de_int (da_cons (de_sub (de_add (dv 2) (de_call (ok_law_draw T) (hr.mono (by omega)) rfl T.g_law_draw T.k_law_draw T.b_law_draw .nil (fun _ => .nil) (da_cons (dv 0) (da_cons de_int da_nil)))) de_int) da_nil)))))) ds_nil)
      (ds_cons (ds_if (dt_eq hr.units (dv 3) de_str) (ds_cons (ds_set (i := 5) sc_law_beside.nd rfl (Or.inl rfl) (de_max rfl rfl T.n_max (da_cons de_int (da_cons (de_sub (de_add (de_ix (dv 2) de_int (fun _ _ => rfl)) (de_call (ok_law_draw T) (hr.mono (by omega)) rfl T.g_law_draw T.k_law_draw T.b_law_draw .nil (fun _ => .nil) (da_cons (dv 0) (da_cons de_int da_nil)))) de_int) da_nil))))
      (ds_one (ds_ret (de_fz (de_tup (dd_cons (dv 5) (dd_cons (de_mul (de_sub (de_add (de_ix (dv 2) de_int (fun _ _ => rfl)) (de_call (ok_law_draw T) (hr.mono (by omega)) rfl T.g_law_draw T.k_law_draw T.b_law_draw .nil (fun _ => .nil) (da_cons (dv 0) (da_cons de_int da_nil)))) de_int) (de_min rfl rfl T.n_min (da_cons de_int (da_cons (dv 5) da_nil)))) dd_nil))))))) ds_nil)
      (ds_cons (ds_fzset (ds_setLc (i := 6) (own := [("row", 10)]) rfl sc_law_beside.nd rfl rfl (sw_true rfl rfl rfl (by decide +kernel)) (di_seq (dv 2)) (blkOk_by (own := [("row", 10)]) (N := N_law_beside) (sc := defScope s_law_beside) (by decide +kernel)) (fun _ _ _ _ _ => (dvt_name (i := 10) (by decide) sc_law_beside.nd rfl (Or.inl rfl))) (fun _ _ _ _ _ => (dts_one (dt_w (dw_or (dt_eq hr.units (dv 4) de_int) (dw_or1 (dt_gt (de_call (ok_law_draw T) (hr.mono (by omega)) rfl T.g_law_draw T.k_law_draw T.b_law_draw .nil (fun _ => .nil) (da_cons (dv 0) (da_cons de_int da_nil))) de_int)))))) (fun _ _ _ _ _ => (dv 10))))
      (ds_cons (ds_if (dt_eq hr.units (dv 3) de_str) (ds_one (ds_ret (de_fz (de_tuple rfl T.n_tuple (da_cons (de_fz (de_sortSet rfl rfl T.n_sorted rfl T.n_set (de_fz (de_add (dv 6) (de_fz (de_lc (own := [("k", 11)]) rfl sc_law_beside.nd (di_range1 rfl T.n_range (da_cons (de_call (ok_law_draw T) (hr.mono (by omega)) rfl T.g_law_draw T.k_law_draw T.b_law_draw .nil (fun _ => .nil) (da_cons (dv 0) (da_cons de_int da_nil))) da_nil)) (blkOk_by (own := [("k", 11)]) (N := N_law_beside) (sc := defScope s_law_beside) (by decide +kernel)) (fun _ _ _ _ _ => (dvt_name (i := 11) (by decide) sc_law_beside.nd rfl (Or.inl rfl))) (fun _ _ _ _ _ => dts_nil) (fun _ _ _ _ _ => (de_call (ok_law_name T) (hr.mono (by omega)) rfl T.g_law_name T.k_law_name T.b_law_name .nil (fun _ => .nil) (da_cons (dv 0) da_nil))))))))) da_nil))))) ds_nil)
      (ds_cons (ds_set (i := 9) sc_law_beside.nd rfl (Or.inr rfl) (de_dictL rfl rfl T.n_dict (de_fz (de_lc (own := [("name", 7), ("inner", 8)]) rfl sc_law_beside.nd (di_seq (dv 6)) (blkOk_by (own := [("name", 7), ("inner", 8)]) (N := N_law_beside) (sc := defScope s_law_beside) (by decide +kernel)) (fun _ _ _ _ _ => (dvt_tup (n := 2) rfl (dvs_cons (dvt_name (i := 7) (by decide) sc_law_beside.nd rfl (Or.inl rfl)) (dvs_cons (dvt_name (i := 8) (by decide) sc_law_beside.nd rfl (Or.inl rfl)) dvs_nil)))) (fun _ _ _ _ _ => dts_nil) (fun _ _ _ _ _ => (de_tup (dd_cons (dv 7) (dd_cons (de_call G hr rfl T.g_law_beside T.k_law_beside T.b_law_beside .nil (fun _ => .nil) (da_cons (dv 0) (da_cons (de_ix (dv 1) de_int (fun _ _ => rfl)) (da_cons (dv 8) da_nil)))) dd_nil))))))))
      (ds_cons (ds_for PassesOwn.never rfl (di_seq (de_mulT (de_call (ok_law_worth T 4) (hr.mono (by omega)) rfl T.g_law_worth T.k_law_worth T.b_law_worth .nil (fun _ => .nil) (da_cons (dv 0) (da_cons (dv 1) da_nil))) (de_int1 rfl T.n_int (da_cons (de_gt (dv 4) de_int) da_nil)))) (dg_tup (n := 2) rfl (dgs_cons (dg_name (i := 7) sc_law_beside.nd rfl (Or.inl rfl)) (dgs_cons (dg_name (i := 8) sc_law_beside.nd rfl (Or.inl rfl)) dgs_nil))) (ds_one (ds_dput hr.units (dv 9) (dv 7) (dv 8))))
      (ds_one (ds_ret (de_fz (de_tuple rfl T.n_tuple (da_cons (de_fz (de_lc (own := [("name", 7)]) rfl sc_law_beside.nd (di_seq (de_fz (de_sortD rfl rfl T.n_sorted (dv 9)))) (blkOk_by (own := [("name", 7)]) (N := N_law_beside) (sc := defScope s_law_beside) (by decide +kernel)) (fun _ _ _ _ _ => (dvt_name (i := 7) (by decide) sc_law_beside.nd rfl (Or.inl rfl))) (fun _ _ _ _ _ => (dts_one (dt_ne hr.units (de_dget hr.units (dv 9) (dv 7) (fun _ _ => rfl)) (de_call (ok_law_least T 5) (hr.mono (by omega)) rfl T.g_law_least T.k_law_least T.b_law_least .nil (fun _ => .nil) (da_cons (de_ix (dv 1) de_int (fun _ _ => rfl)) da_nil))))) (fun _ _ _ _ _ => (de_tup (dd_cons (dv 7) (dd_cons (de_dget hr.units (dv 9) (dv 7) (fun _ _ => rfl)) dd_nil)))))) da_nil))))))))))))))))
    (fun ss w R h => rd_law_beside n h)

theorem ok_law_beside (T : Txt wd K mg A) (n : Nat) : FnOk P wd K mg base CX0 (20 + n + 1) A.f_law_beside A.d_law_beside ["bag", "kind", "worth"] (spN K (c_law_beside n)) := rec_ok c_law_beside (step_law_beside T) n

theorem step_law_joined (T : Txt wd K mg A) (n : Nat) (G : FnOk P wd K mg base CX0 (12 + n) A.f_law_joined A.d_law_joined ["kind", "one", "other"] (spN K (prev c_law_joined n))) : FnOk P wd K mg base CX0 ((12 + n) + 1) A.f_law_joined A.d_law_joined ["kind", "one", "other"] (spN K (c_law_joined n)) :=
  DL.Fun.okD T.F_law_joined sc_law_joined (fun ss w R h => len_law_joined h) (tb := (t_law_joined (prev c_law_joined n))) (fun cdv A0 outer s H E hr =>
    (ds_cons (ds_set (i := 3) sc_law_joined.nd rfl (Or.inl rfl) (de_ix (dv 0) de_int (fun _ _ => rfl)))
      (ds_cons (ds_if (dt_eq hr.units (dv 3) de_str) (ds_one (ds_ret (de_fz (de_tuple rfl T.n_tuple (da_cons (de_sortL rfl T.n_sorted (de_fz (de_add (de_fz (de_list rfl T.n_list (da_cons (dv 1) da_nil))) (de_fz (de_lc (own := [("name", 9)]) rfl sc_law_joined.nd (di_seq (dv 2)) (blkOk_by (own := [("name", 9)]) (N := N_law_joined) (sc := defScope s_law_joined) (by decide +kernel)) (fun _ _ _ _ _ => (dvt_name (i := 9) (by decide) sc_law_joined.nd rfl (Or.inl rfl))) (fun _ _ _ _ _ => (dts_one (dt_notIn (dv 9) (dv 1)))) (fun _ _ _ _ _ => (dv 9))))))) da_nil))))) ds_nil)
      (ds_cons (ds_if (dt_eq hr.units (dv 3) de_str) (ds_cons (ds_set (i := 4) sc_law_joined.nd rfl (Or.inr rfl) (de_dictT rfl rfl T.n_dict (dv 1)))
      (ds_cons (ds_set (i := 5) sc_law_joined.nd rfl (Or.inr rfl) (de_dictT rfl rfl T.n_dict (dv 2)))
      (ds_cons (ds_set (i := 6) sc_law_joined.nd rfl (Or.inr rfl) (de_call (ok_law_least T 5) (hr.mono (by omega)) rfl T.g_law_least T.k_law_least T.b_law_least .nil (fun _ => .nil) (da_cons (de_ix (dv 0) de_int (fun _ _ => rfl)) da_nil)))
      (ds_cons (ds_set (i := 7) sc_law_joined.nd rfl (Or.inl rfl) (de_fz (de_sortSet rfl rfl T.n_sorted rfl T.n_set (de_fz (de_add (de_fz (de_listD rfl rfl T.n_list (dv 4))) (de_fz (de_listD rfl rfl T.n_list (dv 5))))))))
      (ds_one (ds_ret (de_fz (de_tuple rfl T.n_tuple (da_cons (de_fz (de_lc (own := [("n", 8)]) rfl sc_law_joined.nd (di_seq (dv 7)) (blkOk_by (own := [("n", 8)]) (N := N_law_joined) (sc := defScope s_law_joined) (by decide +kernel)) (fun _ _ _ _ _ => (dvt_name (i := 8) (by decide) sc_law_joined.nd rfl (Or.inl rfl))) (fun _ _ _ _ _ => dts_nil) (fun _ _ _ _ _ => (de_tup (dd_cons (dv 8) (dd_cons (de_call G hr rfl T.g_law_joined T.k_law_joined T.b_law_joined .nil (fun _ => .nil) (da_cons (de_ix (dv 0) de_int (fun _ _ => rfl)) (da_cons (de_dget2 hr.units (dv 4) (dv 8) (dv 6)) (da_cons (de_dget2 hr.units (dv 5) (dv 8) (dv 6)) da_nil)))) dd_nil)))))) da_nil))))))))) ds_nil)
      (ds_cons (ds_if (dt_eq hr.units (dv 3) de_str) (ds_one (ds_ret (de_fz (de_tup (dd_cons (de_call G hr rfl T.g_law_joined T.k_law_joined T.b_law_joined .nil (fun _ => .nil) (da_cons (de_ix (dv 0) de_int (fun _ _ => rfl)) (da_cons (de_ix (dv 1) de_int (fun _ _ => rfl)) (da_cons (de_ix (dv 2) de_int (fun _ _ => rfl)) da_nil)))) (dd_cons (de_call G hr rfl T.g_law_joined T.k_law_joined T.b_law_joined .nil (fun _ => .nil) (da_cons (de_ix (dv 0) de_int (fun _ _ => rfl)) (da_cons (de_ix (dv 1) de_int (fun _ _ => rfl)) (da_cons (de_ix (dv 2) de_int (fun _ _ => rfl)) da_nil)))) dd_nil)))))) ds_nil)
      (ds_one (ds_ret (de_fz (de_if (dt_ltP hr.units (dv 1) (dv 2)) (dv 2) (dv 1))))))))))
    (fun ss w R h => rd_law_joined n h)

theorem ok_law_joined (T : Txt wd K mg A) (n : Nat) : FnOk P wd K mg base CX0 (12 + n + 1) A.f_law_joined A.d_law_joined ["kind", "one", "other"] (spN K (c_law_joined n)) := rec_ok c_law_joined (step_law_joined T) n

theorem step_law_same (T : Txt wd K mg A) (n : Nat) (G : FnOk P wd K mg base CX0 (2 + n) A.f_law_same A.d_law_same ["found", "due"] (spN K (prev c_law_same n))) : FnOk P wd K mg base CX0 ((2 + n) + 1) A.f_law_same A.d_law_same ["found", "due"] (spN K (c_law_same n)) :=
  DL.Fun.okD T.F_law_same sc_law_same (fun ss w R h => len_law_same h) (tb := (t_law_same (prev c_law_same n))) (fun cdv A0 outer s H E hr =>
    (ds_cons (ds_if (dt_val (de_isi2 .list .tuple (dv 1) rfl T.n_isinstance rfl T.n_list (by decide +kernel) rfl T.n_tuple (by decide +kernel))) (ds_cons (ds_if (dt_w (dw_or (dt_ne hr.units (de_isi .list (dv 0) rfl T.n_isinstance rfl T.n_list (by decide +kernel)) (de_isi .list (dv 1) rfl T.n_isinstance rfl T.n_list (by decide +kernel))) (dw_or1 (dt_not (dt_val (de_isi2 .list .tuple (dv 0) rfl T.n_isinstance rfl T.n_list (by decide +kernel) rfl T.n_tuple (by decide +kernel))))))) (ds_one (ds_ret de_bl)) ds_nil)
      (ds_one (ds_ret (de_and (de_eq hr.units (de_len rfl T.n_len (da_cons (dv 0) da_nil)) (de_len rfl T.n_len (da_cons (dv 1) da_nil))) (de_one (de_all rfl rfl T.n_all (da_cons (de_lc (own := [("k", 2)]) rfl sc_law_same.nd (di_range1 rfl T.n_range (da_cons (de_len rfl T.n_len (da_cons (dv 1) da_nil)) da_nil)) (blkOk_by (own := [("k", 2)]) (N := N_law_same) (sc := defScope s_law_same) (by decide +kernel)) (fun _ _ _ _ _ => (dvt_name (i := 2) (by decide) sc_law_same.nd rfl (Or.inl rfl))) (fun _ _ _ _ _ => dts_nil) (fun _ _ _ _ _ => (de_call G hr rfl T.g_law_same T.k_law_same T.b_law_same .nil (fun _ => .nil) (da_cons (de_ix (dv 0) (dv 2) (fun _ _ => rfl)) (da_cons (de_ix (dv 1) (dv 2) (fun _ _ => rfl)) da_nil))))) da_nil))))))) ds_nil)
      (ds_one (ds_ret (de_and (de_eq hr.units (dv 0) (dv 1)) (de_one (de_eq hr.units (de_isi .bool (dv 0) rfl T.n_isinstance rfl T.n_bool (by decide +kernel)) (de_isi .bool (dv 1) rfl T.n_isinstance rfl T.n_bool (by decide +kernel)))))))))
    (fun ss w R h => rd_law_same n h)

theorem ok_law_same (T : Txt wd K mg A) (n : Nat) : FnOk P wd K mg base CX0 (2 + n + 1) A.f_law_same A.d_law_same ["found", "due"] (spN K (c_law_same n)) := rec_ok c_law_same (step_law_same T) n

theorem ok_law_great (T : Txt wd K mg A) : FnOk P wd K mg base CX0 (4 + 1) A.f_law_great A.d_law_great ["bag"] (spN K c_law_great) :=
  DL.Fun.okD T.F_law_great sc_law_great (fun ss w R h => len_law_great h) (tb := t_law_great) (fun cdv A0 outer s H E hr =>
    (ds_cons (ds_set (i := 1) sc_law_great.nd rfl (Or.inr rfl) de_str)
      (ds_cons (ds_set (i := 2) sc_law_great.nd rfl (Or.inr rfl) (de_fz (de_lc (own := [("k", 8)]) rfl sc_law_great.nd (di_range1 rfl T.n_range (da_cons de_int da_nil)) (blkOk_by (own := [("k", 8)]) (N := N_law_great) (sc := defScope s_law_great) (by decide +kernel)) (fun _ _ _ _ _ => (dvt_name (i := 8) (by decide) sc_law_great.nd rfl (Or.inl rfl))) (fun _ _ _ _ _ => dts_nil) (fun _ _ _ _ _ => (de_add (de_ix (dv 1) (de_div (dv 8) de_int) (fun _ _ => rfl)) (de_ix (dv 1) (de_mod (dv 8) de_int) (fun _ _ => rfl)))))))
      (ds_cons (ds_set (i := 3) sc_law_great.nd rfl (Or.inr rfl) (de_fz (de_lstD (dd_cons (de_add de_int (de_call (ok_law_draw T) (hr.mono (by omega)) rfl T.g_law_draw T.k_law_draw T.b_law_draw .nil (fun _ => .nil) (da_cons (dv 0) (da_cons de_int da_nil)))) (dd_cons (de_add de_int (de_call (ok_law_draw T) (hr.mono (by omega)) rfl T.g_law_draw T.k_law_draw T.b_law_draw .nil (fun _ => .nil) (da_cons (dv 0) (da_cons de_int da_nil)))) dd_nil)))))
      (ds_cons (ds_set (i := 4) sc_law_great.nd rfl (Or.inr rfl) (de_fz (de_lstD (dd_cons (de_add de_int (de_call (ok_law_draw T) (hr.mono (by omega)) rfl T.g_law_draw T.k_law_draw T.b_law_draw .nil (fun _ => .nil) (da_cons (dv 0) (da_cons de_int da_nil)))) (dd_cons (de_add de_int (de_call (ok_law_draw T) (hr.mono (by omega)) rfl T.g_law_draw T.k_law_draw T.b_law_draw .nil (fun _ => .nil) (da_cons (dv 0) (da_cons de_int da_nil)))) dd_nil)))))
      (ds_cons (ds_set (i := 5) sc_law_great.nd rfl (Or.inl rfl) (de_lstD dd_nil))
      (ds_cons (ds_for PassesOwn.never rfl (di_range1 rfl T.n_range (da_cons de_int da_nil)) (dg_name (i := 6) sc_law_great.nd rfl (Or.inr rfl)) (ds_cons (ds_fzset (ds_setLc (i := 7) (own := [("k", 8)]) rfl sc_law_great.nd rfl rfl (sw_true rfl rfl rfl (by decide +kernel)) (di_range1 rfl T.n_range (da_cons de_int da_nil)) (blkOk_by (own := [("k", 8)]) (N := N_law_great) (sc := defScope s_law_great) (by decide +kernel)) (fun _ _ _ _ _ => (dvt_name (i := 8) (by decide) sc_law_great.nd rfl (Or.inl rfl))) (fun _ _ _ _ _ => (dts_one (dt_eq hr.units (de_mod (dv 8) (de_ix (dv 3) (dv 6) (fun _ _ => rfl))) de_int))) (fun _ _ _ _ _ => (dv 8))))
      (ds_one (ds_expr (de_append (dv 5) (de_tup (dd_cons (de_tuple rfl T.n_tuple (da_cons (de_fz (de_lc (own := [("k", 8)]) rfl sc_law_great.nd (di_seq (dv 7)) (blkOk_by (own := [("k", 8)]) (N := N_law_great) (sc := defScope s_law_great) (by decide +kernel)) (fun _ _ _ _ _ => (dvt_name (i := 8) (by decide) sc_law_great.nd rfl (Or.inl rfl))) (fun _ _ _ _ _ => dts_nil) (fun _ _ _ _ _ => (de_ix (dv 2) (dv 8) (fun _ _ => rfl))))) da_nil)) (dd_cons (de_tuple rfl T.n_tuple (da_cons (de_fz (de_lc (own := [("k", 8)]) rfl sc_law_great.nd (di_seq (dv 7)) (blkOk_by (own := [("k", 8)]) (N := N_law_great) (sc := defScope s_law_great) (by decide +kernel)) (fun _ _ _ _ _ => (dvt_name (i := 8) (by decide) sc_law_great.nd rfl (Or.inl rfl))) (fun _ _ _ _ _ => dts_nil) (fun _ _ _ _ _ => (de_tup (dd_cons (de_ix (dv 2) (dv 8) (fun _ _ => rfl)) (dd_cons (de_add de_int (de_mod (dv 8) (de_ix (dv 4) (dv 6) (fun _ _ => rfl)))) dd_nil)))))) da_nil)) dd_nil))))))))
      (ds_cons (ds_if (dt_eq hr.units (de_call (ok_law_draw T) (hr.mono (by omega)) rfl T.g_law_draw T.k_law_draw T.b_law_draw .nil (fun _ => .nil) (da_cons (dv 0) (da_cons de_int da_nil))) de_int) (ds_one (ds_ret (de_fz (de_tup (dd_cons (de_tup (dd_cons de_str dd_nil)) (dd_cons (de_ix (de_ix (dv 5) de_int (fun _ _ => rfl)) de_int (fun _ _ => rfl)) (dd_cons (de_ix (de_ix (dv 5) de_int (fun _ _ => rfl)) de_int (fun _ _ => rfl)) dd_nil))))))) ds_nil)
      (ds_one (ds_ret (de_fz (de_tup (dd_cons (de_tup (dd_cons de_str (dd_cons (de_tup (dd_cons de_str dd_nil)) dd_nil))) (dd_cons (de_ix (de_ix (dv 5) de_int (fun _ _ => rfl)) de_int (fun _ _ => rfl)) (dd_cons (de_ix (de_ix (dv 5) de_int (fun _ _ => rfl)) de_int (fun _ _ => rfl)) dd_nil)))))))))))))))
    (fun ss w R h => rd_law_great h)

theorem ok_law_right (T : Txt wd K mg A) : FnOk P wd K mg base CX0 (40 + 1) A.f_law_right A.d_law_right ["kind", "one", "other"] (spN K c_law_right) :=
  DL.Fun.okD T.F_law_right sc_law_right (fun ss w R h => len_law_right h) (tb := t_law_right) (fun cdv A0 outer s H E hr =>
    (ds_cons (ds_set (i := 3) sc_law_right.nd rfl (Or.inl rfl) (de_call (ok_law_joined T 5) (hr.mono (by decide)) rfl T.g_law_joined T.k_law_joined T.b_law_joined .nil (fun _ => .nil) (da_cons (dv 0) (da_cons (dv 1) (da_cons (dv 2) da_nil)))))
      (ds_cons (ds_for PassesOwn.never rfl (di_seq (de_fz (de_lstD (dd_cons (de_tup (dd_cons (dv 1) (dd_cons (dv 2) dd_nil))) (dd_cons (de_tup (dd_cons (dv 2) (dd_cons (dv 1) dd_nil))) dd_nil))))) (dg_tup (n := 2) rfl (dgs_cons (dg_name (i := 4) sc_law_right.nd rfl (Or.inl rfl)) (dgs_cons (dg_name (i := 5) sc_law_right.nd rfl (Or.inl rfl)) dgs_nil))) (ds_cons (ds_if (dt_w (dw_or (dt_not (dt_val (de_call (ok_law_same T 12) (hr.mono (by decide)) rfl T.g_law_same T.k_law_same T.b_law_same .nil (fun _ => .nil) (da_cons (de_call (ok_join T 5) (hr.mono (by decide)) rfl T.g_join T.k_join T.b_join .nil (fun _ => .nil) (da_cons (dv 0) (da_cons (dv 4) (da_cons (dv 5) da_nil)))) (da_cons (dv 3) da_nil))))) (dw_or1 (dt_isNot (de_call (ok_is_worth T 5) (hr.mono (by decide)) rfl T.g_is_worth T.k_is_worth T.b_is_worth .nil (fun _ => .nil) (da_cons (dv 0) (da_cons (de_call (ok_join T 5) (hr.mono (by decide)) rfl T.g_join T.k_join T.b_join .nil (fun _ => .nil) (da_cons (dv 0) (da_cons (dv 4) (da_cons (dv 5) da_nil)))) da_nil))) de_bl)))) (ds_one (ds_ret de_bl)) ds_nil)
      (ds_one (ds_if (dt_not (dt_val (de_call (ok_law_same T 12) (hr.mono (by decide)) rfl T.g_law_same T.k_law_same T.b_law_same .nil (fun _ => .nil) (da_cons (de_call (ok_under T) (hr.mono (by decide)) rfl T.g_under T.k_under T.b_under .nil (fun _ => .nil) (da_cons (dv 0) (da_cons (dv 4) (da_cons (dv 5) da_nil)))) (da_cons (de_eq hr.units (dv 3) (dv 5)) da_nil))))) (ds_one (ds_ret de_bl)) ds_nil))))
      (ds_one (ds_ret (de_fz (de_and (de_is (de_call (ok_under T) (hr.mono (by decide)) rfl T.g_under T.k_under T.b_under .nil (fun _ => .nil) (da_cons (dv 0) (da_cons (dv 1) (da_cons (dv 3) da_nil)))) de_bl) (de_one (de_is (de_call (ok_under T) (hr.mono (by decide)) rfl T.g_under T.k_under T.b_under .nil (fun _ => .nil) (da_cons (dv 0) (da_cons (de_call (ok_bottom T 5) (hr.mono (by omega)) rfl T.g_bottom T.k_bottom T.b_bottom .nil (fun _ => .nil) (da_cons (dv 0) da_nil)) (da_cons (dv 1) da_nil)))) de_bl)))))))))
    (fun ss w R h => rd_law_right h)

theorem ok_law (T : Txt wd K mg A) : FnOk P wd K mg base CX0 (60 + 1) A.f_law A.d_law ["script"] (spN K cLaw) :=
  DL.Fun.okD T.F_law sc_law (fun ss w R h => len_law h) (tb := t_law) (fun cdv A0 outer s H E hr =>
    (ds_cons (ds_for PassesOwn.never rfl (di_range1 rfl T.n_range (da_cons (de_max rfl rfl T.n_max (da_cons de_int (da_cons (de_min rfl rfl T.n_min (da_cons de_int (da_cons (de_len rfl T.n_len (da_cons (dv 0) da_nil)) da_nil))) da_nil))) da_nil)) (dg_name (i := 1) sc_law.nd rfl (Or.inl rfl)) (ds_cons (ds_set (i := 2) sc_law.nd rfl (Or.inl rfl) (de_call (ok_law_bag T) (hr.mono (by decide)) rfl T.g_law_bag T.k_law_bag T.b_law_bag .nil (fun _ => .nil) (da_cons (de_call (ok_law_cell_at T) (hr.mono (by decide)) rfl T.g_law_cell_at T.k_law_cell_at T.b_law_cell_at .nil (fun _ => .nil) (da_cons (dv 0) (da_cons (dv 1) da_nil))) (da_cons (dv 1) da_nil))))
      (ds_cons (ds_set (i := 3) sc_law.nd rfl (Or.inl rfl) (de_call (ok_law_kind T 5) (hr.mono (by decide)) rfl T.g_law_kind T.k_law_kind T.b_law_kind .nil (fun _ => .nil) (da_cons (dv 2) (da_cons (de_add de_int (de_call (ok_law_draw T) (hr.mono (by omega)) rfl T.g_law_draw T.k_law_draw T.b_law_draw .nil (fun _ => .nil) (da_cons (dv 2) (da_cons de_int da_nil)))) da_nil))))
      (ds_cons (ds_set (i := 4) sc_law.nd rfl (Or.inl rfl) (de_call (ok_law_worth T 4) (hr.mono (by omega)) rfl T.g_law_worth T.k_law_worth T.b_law_worth .nil (fun _ => .nil) (da_cons (dv 2) (da_cons (dv 3) da_nil))))
      (ds_cons (ds_set (i := 5) sc_law.nd rfl (Or.inl rfl) (de_ix (de_fz (de_lstD (dd_cons (de_call (ok_law_beside T 4) (hr.mono (by decide)) rfl T.g_law_beside T.k_law_beside T.b_law_beside .nil (fun _ => .nil) (da_cons (dv 2) (da_cons (dv 3) (da_cons (dv 4) da_nil)))) (dd_cons (de_call (ok_law_worth T 4) (hr.mono (by omega)) rfl T.g_law_worth T.k_law_worth T.b_law_worth .nil (fun _ => .nil) (da_cons (dv 2) (da_cons (dv 3) da_nil))) dd_nil)))) (de_call (ok_law_draw T) (hr.mono (by omega)) rfl T.g_law_draw T.k_law_draw T.b_law_draw .nil (fun _ => .nil) (da_cons (dv 2) (da_cons de_int da_nil))) (fun _ _ => rfl)))
      (ds_cons (ds_set (i := 6) sc_law.nd rfl (Or.inl rfl) (de_call (ok_law_beside T 4) (hr.mono (by decide)) rfl T.g_law_beside T.k_law_beside T.b_law_beside .nil (fun _ => .nil) (da_cons (dv 2) (da_cons (dv 3) (da_cons (dv 5) da_nil)))))
      (ds_cons (ds_if (dt_not (dt_val (de_call (ok_law_same T 12) (hr.mono (by decide)) rfl T.g_law_same T.k_law_same T.b_law_same .nil (fun _ => .nil) (da_cons (de_call (ok_bottom T 5) (hr.mono (by omega)) rfl T.g_bottom T.k_bottom T.b_bottom .nil (fun _ => .nil) (da_cons (dv 3) da_nil)) (da_cons (de_call (ok_law_least T 5) (hr.mono (by omega)) rfl T.g_law_least T.k_law_least T.b_law_least .nil (fun _ => .nil) (da_cons (dv 3) da_nil)) da_nil))))) (ds_one (ds_ret de_bl)) ds_nil)
      (ds_cons (ds_for PassesOwn.never rfl (di_seq (de_fz (de_lstD (dd_cons (de_tup (dd_cons (dv 4) (dd_cons (dv 5) dd_nil))) (dd_cons (de_tup (dd_cons (dv 5) (dd_cons (dv 6) dd_nil))) (dd_cons (de_tup (dd_cons (dv 4) (dd_cons (dv 6) dd_nil))) (dd_cons (de_tup (dd_cons (dv 4) (dd_cons (dv 4) dd_nil))) (dd_cons (de_tup (dd_cons (dv 4) (dd_cons (de_call (ok_law_least T 5) (hr.mono (by omega)) rfl T.g_law_least T.k_law_least T.b_law_least .nil (fun _ => .nil) (da_cons (dv 3) da_nil)) dd_nil))) dd_nil)))))))) (dg_name (i := 7) sc_law.nd rfl (Or.inl rfl)) (ds_one (ds_if (dt_not (dt_val (de_call (ok_law_right T) (hr.mono (by decide)) rfl T.g_law_right T.k_law_right T.b_law_right .nil (fun _ => .nil) (da_cons (dv 3) (da_cons (de_ix (dv 7) de_int (fun _ _ => rfl)) (da_cons (de_ix (dv 7) de_int (fun _ _ => rfl)) da_nil)))))) (ds_one (ds_ret de_bl)) ds_nil)))
      (ds_one (ds_if (dt_eq hr.units (de_call (ok_law_draw T) (hr.mono (by omega)) rfl T.g_law_draw T.k_law_draw T.b_law_draw .nil (fun _ => .nil) (da_cons (dv 2) (da_cons de_int da_nil))) de_int) (ds_cons (ds_asg (de_call (ok_law_great T) (hr.mono (by decide)) rfl T.g_law_great T.k_law_great T.b_law_great .nil (fun _ => .nil) (da_cons (dv 2) da_nil)) (dg_tup (n := 3) rfl (dgs_cons (dg_name (i := 3) sc_law.nd rfl (Or.inl rfl)) (dgs_cons (dg_name (i := 4) sc_law.nd rfl (Or.inl rfl)) (dgs_cons (dg_name (i := 5) sc_law.nd rfl (Or.inl rfl)) dgs_nil)))))
      (ds_one (ds_if (dt_not (dt_val (de_call (ok_law_right T) (hr.mono (by decide)) rfl T.g_law_right T.k_law_right T.b_law_right .nil (fun _ => .nil) (da_cons (dv 3) (da_cons (dv 4) (da_cons (dv 5) da_nil)))))) (ds_one (ds_ret de_bl)) ds_nil))) ds_nil))))))))))
      (ds_one (ds_ret de_bl))))
    (fun ss w R h => rd_law h)

end
theorem all_mk {l : PySem.W.OpenLaw} {wd : World} {K : PySem.W.Frag} {h : Heap} {mg : Str → Option Value} {fa : Addr} (X : K.In h) (G : h.Ns mainGlobals mg) (hfa : mg "law" = some (.ref fa))
    {f0 : Addr} {od0 an0 : Option Addr} {sl0 : Array (Option Value)} {oc0 kV0 dc0 pm0 cd0 ct0 : Value}
    {f1 : Addr} {od1 an1 : Option Addr} {sl1 : Array (Option Value)} {oc1 kV1 dc1 pm1 cd1 ct1 : Value}
    {f2 : Addr} {od2 an2 : Option Addr} {sl2 : Array (Option Value)} {oc2 kV2 dc2 pm2 cd2 ct2 : Value}
    {f3 : Addr} {od3 an3 : Option Addr} {sl3 : Array (Option Value)} {oc3 kV3 dc3 pm3 cd3 ct3 : Value}
    {f4 : Addr} {od4 an4 : Option Addr} {sl4 : Array (Option Value)} {oc4 kV4 dc4 pm4 cd4 ct4 : Value}
    {f5 : Addr} {od5 an5 : Option Addr} {sl5 : Array (Option Value)} {oc5 kV5 dc5 pm5 cd5 ct5 : Value}
    {f6 : Addr} {od6 an6 : Option Addr} {sl6 : Array (Option Value)} {oc6 kV6 dc6 pm6 cd6 ct6 : Value}
    {f7 : Addr} {od7 an7 : Option Addr} {sl7 : Array (Option Value)} {oc7 kV7 dc7 pm7 cd7 ct7 : Value}
    {f8 : Addr} {od8 an8 : Option Addr} {sl8 : Array (Option Value)} {oc8 kV8 dc8 pm8 cd8 ct8 : Value}
    {f9 : Addr} {od9 an9 : Option Addr} {sl9 : Array (Option Value)} {oc9 kV9 dc9 pm9 cd9 ct9 : Value}
    {f10 : Addr} {od10 an10 : Option Addr} {sl10 : Array (Option Value)} {oc10 kV10 dc10 pm10 cd10 ct10 : Value}
    {f11 : Addr} {od11 an11 : Option Addr} {sl11 : Array (Option Value)} {oc11 kV11 dc11 pm11 cd11 ct11 : Value}
    {f12 : Addr} {od12 an12 : Option Addr} {sl12 : Array (Option Value)} {oc12 kV12 dc12 pm12 cd12 ct12 : Value}
    {f13 : Addr} {od13 an13 : Option Addr} {sl13 : Array (Option Value)} {oc13 kV13 dc13 pm13 cd13 ct13 : Value}
    {f14 : Addr} {od14 an14 : Option Addr} {sl14 : Array (Option Value)} {oc14 kV14 dc14 pm14 cd14 ct14 : Value}
    {f15 : Addr} {od15 an15 : Option Addr} {sl15 : Array (Option Value)} {oc15 kV15 dc15 pm15 cd15 ct15 : Value}
    {f16 : Addr} {od16 an16 : Option Addr} {sl16 : Array (Option Value)} {oc16 kV16 dc16 pm16 cd16 ct16 : Value}
    {f17 : Addr} {od17 an17 : Option Addr} {sl17 : Array (Option Value)} {oc17 kV17 dc17 pm17 cd17 ct17 : Value}
    {f18 : Addr} {od18 an18 : Option Addr} {sl18 : Array (Option Value)} {oc18 kV18 dc18 pm18 cd18 ct18 : Value}
    {f19 : Addr} {od19 an19 : Option Addr} {sl19 : Array (Option Value)} {oc19 kV19 dc19 pm19 cd19 ct19 : Value}
    {f20 : Addr} {od20 an20 : Option Addr} {sl20 : Array (Option Value)} {oc20 kV20 dc20 pm20 cd20 ct20 : Value}
    {f21 : Addr} {od21 an21 : Option Addr} {sl21 : Array (Option Value)} {oc21 kV21 dc21 pm21 cd21 ct21 : Value}
    {f22 : Addr} {od22 an22 : Option Addr} {sl22 : Array (Option Value)} {oc22 kV22 dc22 pm22 cd22 ct22 : Value}
    {f23 : Addr} {od23 an23 : Option Addr} {sl23 : Array (Option Value)} {oc23 kV23 dc23 pm23 cd23 ct23 : Value}
    {f24 : Addr} {od24 an24 : Option Addr} {sl24 : Array (Option Value)} {oc24 kV24 dc24 pm24 cd24 ct24 : Value}
    {f25 : Addr} {od25 an25 : Option Addr} {sl25 : Array (Option Value)} {oc25 kV25 dc25 pm25 cd25 ct25 : Value}
    {f26 : Addr} {od26 an26 : Option Addr} {sl26 : Array (Option Value)} {oc26 kV26 dc26 pm26 cd26 ct26 : Value}
    {f27 : Addr} {od27 an27 : Option Addr} {sl27 : Array (Option Value)} {oc27 kV27 dc27 pm27 cd27 ct27 : Value}
    {f28 : Addr} {od28 an28 : Option Addr} {sl28 : Array (Option Value)} {oc28 kV28 dc28 pm28 cd28 ct28 : Value}
    {f29 : Addr} {od29 an29 : Option Addr} {sl29 : Array (Option Value)} {oc29 kV29 dc29 pm29 cd29 ct29 : Value}
    {p0 : Addr} {es0 : Array DictEntry} {n0 : Nat}
    {p1 : Addr} {es1 : Array DictEntry} {n1 : Nat}
    {p2 : Addr} {es2 : Array DictEntry} {n2 : Nat}
    {tk_LONGEST_NAME : Tok}
    {tk_LETTERS : Tok}
    (a0 : PySem.W.nsIn K mainGlobals "is_name" = some (some (.ref f0)))
    (l0 : K.lookup f0 = some ⟨oc0, od0, .func (PySem.W.fnOf "is_name" "is_name" (defArgs s_is_name) (defBody s_is_name) (defScope s_is_name) .none kV0 dc0 pm0 an0 cd0 ct0), sl0⟩)
    (c0 : PySem.W.codeIn K cd0 "is_name" = true)
    (k0 : PySem.W.keepIn K (.ref f0) = true)
    (a1 : PySem.W.nsIn K mainGlobals "is_number" = some (some (.ref f1)))
    (l1 : K.lookup f1 = some ⟨oc1, od1, .func (PySem.W.fnOf "is_number" "is_number" (defArgs s_is_number) (defBody s_is_number) (defScope s_is_number) .none kV1 dc1 pm1 an1 cd1 ct1), sl1⟩)
    (c1 : PySem.W.codeIn K cd1 "is_number" = true)
    (k1 : PySem.W.keepIn K (.ref f1) = true)
    (a2 : PySem.W.nsIn K mainGlobals "are_rising" = some (some (.ref f2)))
    (l2 : K.lookup f2 = some ⟨oc2, od2, .func (PySem.W.fnOf "are_rising" "are_rising" (defArgs s_are_rising) (defBody s_are_rising) (defScope s_are_rising) .none kV2 dc2 pm2 an2 cd2 ct2), sl2⟩)
    (c2 : PySem.W.codeIn K cd2 "are_rising" = true)
    (k2 : PySem.W.keepIn K (.ref f2) = true)
    (a3 : PySem.W.nsIn K mainGlobals "are_names" = some (some (.ref f3)))
    (l3 : K.lookup f3 = some ⟨oc3, od3, .func (PySem.W.fnOf "are_names" "are_names" (defArgs s_are_names) (defBody s_are_names) (defScope s_are_names) .none kV3 dc3 pm3 an3 cd3 ct3), sl3⟩)
    (c3 : PySem.W.codeIn K cd3 "are_names" = true)
    (k3 : PySem.W.keepIn K (.ref f3) = true)
    (a4 : PySem.W.nsIn K mainGlobals "is_most" = some (some (.ref f4)))
    (l4 : K.lookup f4 = some ⟨oc4, od4, .func (PySem.W.fnOf "is_most" "is_most" (defArgs s_is_most) (defBody s_is_most) (defScope s_is_most) .none kV4 dc4 pm4 an4 cd4 ct4), sl4⟩)
    (c4 : PySem.W.codeIn K cd4 "is_most" = true)
    (k4 : PySem.W.keepIn K (.ref f4) = true)
    (a5 : PySem.W.nsIn K mainGlobals "is_last" = some (some (.ref f5)))
    (l5 : K.lookup f5 = some ⟨oc5, od5, .func (PySem.W.fnOf "is_last" "is_last" (defArgs s_is_last) (defBody s_is_last) (defScope s_is_last) .none kV5 dc5 pm5 an5 cd5 ct5), sl5⟩)
    (c5 : PySem.W.codeIn K cd5 "is_last" = true)
    (k5 : PySem.W.keepIn K (.ref f5) = true)
    (a6 : PySem.W.nsIn K mainGlobals "is_row" = some (some (.ref f6)))
    (l6 : K.lookup f6 = some ⟨oc6, od6, .func (PySem.W.fnOf "is_row" "is_row" (defArgs s_is_row) (defBody s_is_row) (defScope s_is_row) .none kV6 dc6 pm6 an6 cd6 ct6), sl6⟩)
    (c6 : PySem.W.codeIn K cd6 "is_row" = true)
    (k6 : PySem.W.keepIn K (.ref f6) = true)
    (a7 : PySem.W.nsIn K mainGlobals "is_table" = some (some (.ref f7)))
    (l7 : K.lookup f7 = some ⟨oc7, od7, .func (PySem.W.fnOf "is_table" "is_table" (defArgs s_is_table) (defBody s_is_table) (defScope s_is_table) .none kV7 dc7 pm7 an7 cd7 ct7), sl7⟩)
    (c7 : PySem.W.codeIn K cd7 "is_table" = true)
    (k7 : PySem.W.keepIn K (.ref f7) = true)
    (a8 : PySem.W.nsIn K mainGlobals "is_pair" = some (some (.ref f8)))
    (l8 : K.lookup f8 = some ⟨oc8, od8, .func (PySem.W.fnOf "is_pair" "is_pair" (defArgs s_is_pair) (defBody s_is_pair) (defScope s_is_pair) .none kV8 dc8 pm8 an8 cd8 ct8), sl8⟩)
    (c8 : PySem.W.codeIn K cd8 "is_pair" = true)
    (k8 : PySem.W.keepIn K (.ref f8) = true)
    (a9 : PySem.W.nsIn K mainGlobals "is_worth" = some (some (.ref f9)))
    (l9 : K.lookup f9 = some ⟨oc9, od9, .func (PySem.W.fnOf "is_worth" "is_worth" (defArgs s_is_worth) (defBody s_is_worth) (defScope s_is_worth) .none kV9 dc9 pm9 an9 cd9 ct9), sl9⟩)
    (c9 : PySem.W.codeIn K cd9 "is_worth" = true)
    (k9 : PySem.W.keepIn K (.ref f9) = true)
    (a10 : PySem.W.nsIn K mainGlobals "bottom" = some (some (.ref f10)))
    (l10 : K.lookup f10 = some ⟨oc10, od10, .func (PySem.W.fnOf "bottom" "bottom" (defArgs s_bottom) (defBody s_bottom) (defScope s_bottom) .none kV10 dc10 pm10 an10 cd10 ct10), sl10⟩)
    (c10 : PySem.W.codeIn K cd10 "bottom" = true)
    (k10 : PySem.W.keepIn K (.ref f10) = true)
    (a11 : PySem.W.nsIn K mainGlobals "joined_names" = some (some (.ref f11)))
    (l11 : K.lookup f11 = some ⟨oc11, od11, .func (PySem.W.fnOf "joined_names" "joined_names" (defArgs s_joined_names) (defBody s_joined_names) (defScope s_joined_names) .none kV11 dc11 pm11 an11 cd11 ct11), sl11⟩)
    (c11 : PySem.W.codeIn K cd11 "joined_names" = true)
    (k11 : PySem.W.keepIn K (.ref f11) = true)
    (a12 : PySem.W.nsIn K mainGlobals "greater" = some (some (.ref f12)))
    (l12 : K.lookup f12 = some ⟨oc12, od12, .func (PySem.W.fnOf "greater" "greater" (defArgs s_greater) (defBody s_greater) (defScope s_greater) .none kV12 dc12 pm12 an12 cd12 ct12), sl12⟩)
    (c12 : PySem.W.codeIn K cd12 "greater" = true)
    (k12 : PySem.W.keepIn K (.ref f12) = true)
    (a13 : PySem.W.nsIn K mainGlobals "joined_tables" = some (some (.ref f13)))
    (l13 : K.lookup f13 = some ⟨oc13, od13, .func (PySem.W.fnOf "joined_tables" "joined_tables" (defArgs s_joined_tables) (defBody s_joined_tables) (defScope s_joined_tables) .none kV13 dc13 pm13 an13 cd13 ct13), sl13⟩)
    (c13 : PySem.W.codeIn K cd13 "joined_tables" = true)
    (k13 : PySem.W.keepIn K (.ref f13) = true)
    (a14 : PySem.W.nsIn K mainGlobals "joined_pairs" = some (some (.ref f14)))
    (l14 : K.lookup f14 = some ⟨oc14, od14, .func (PySem.W.fnOf "joined_pairs" "joined_pairs" (defArgs s_joined_pairs) (defBody s_joined_pairs) (defScope s_joined_pairs) .none kV14 dc14 pm14 an14 cd14 ct14), sl14⟩)
    (c14 : PySem.W.codeIn K cd14 "joined_pairs" = true)
    (k14 : PySem.W.keepIn K (.ref f14) = true)
    (a15 : PySem.W.nsIn K mainGlobals "join" = some (some (.ref f15)))
    (l15 : K.lookup f15 = some ⟨oc15, od15, .func (PySem.W.fnOf "join" "join" (defArgs s_join) (defBody s_join) (defScope s_join) .none kV15 dc15 pm15 an15 cd15 ct15), sl15⟩)
    (c15 : PySem.W.codeIn K cd15 "join" = true)
    (k15 : PySem.W.keepIn K (.ref f15) = true)
    (a16 : PySem.W.nsIn K mainGlobals "under" = some (some (.ref f16)))
    (l16 : K.lookup f16 = some ⟨oc16, od16, .func (PySem.W.fnOf "under" "under" (defArgs s_under) (defBody s_under) (defScope s_under) .none kV16 dc16 pm16 an16 cd16 ct16), sl16⟩)
    (c16 : PySem.W.codeIn K cd16 "under" = true)
    (k16 : PySem.W.keepIn K (.ref f16) = true)
    (a17 : PySem.W.nsIn K mainGlobals "_law_cell_at" = some (some (.ref f17)))
    (l17 : K.lookup f17 = some ⟨oc17, od17, .func (PySem.W.fnOf "_law_cell_at" "_law_cell_at" (defArgs s_law_cell_at) (defBody s_law_cell_at) (defScope s_law_cell_at) .none kV17 dc17 pm17 an17 cd17 ct17), sl17⟩)
    (c17 : PySem.W.codeIn K cd17 "_law_cell_at" = true)
    (k17 : PySem.W.keepIn K (.ref f17) = true)
    (a18 : PySem.W.nsIn K mainGlobals "_law_bag" = some (some (.ref f18)))
    (l18 : K.lookup f18 = some ⟨oc18, od18, .func (PySem.W.fnOf "_law_bag" "_law_bag" (defArgs s_law_bag) (defBody s_law_bag) (defScope s_law_bag) .none kV18 dc18 pm18 an18 cd18 ct18), sl18⟩)
    (c18 : PySem.W.codeIn K cd18 "_law_bag" = true)
    (k18 : PySem.W.keepIn K (.ref f18) = true)
    (a19 : PySem.W.nsIn K mainGlobals "_law_draw" = some (some (.ref f19)))
    (l19 : K.lookup f19 = some ⟨oc19, od19, .func (PySem.W.fnOf "_law_draw" "_law_draw" (defArgs s_law_draw) (defBody s_law_draw) (defScope s_law_draw) .none kV19 dc19 pm19 an19 cd19 ct19), sl19⟩)
    (c19 : PySem.W.codeIn K cd19 "_law_draw" = true)
    (k19 : PySem.W.keepIn K (.ref f19) = true)
    (a20 : PySem.W.nsIn K mainGlobals "_law_kind" = some (some (.ref f20)))
    (l20 : K.lookup f20 = some ⟨oc20, od20, .func (PySem.W.fnOf "_law_kind" "_law_kind" (defArgs s_law_kind) (defBody s_law_kind) (defScope s_law_kind) .none kV20 dc20 pm20 an20 cd20 ct20), sl20⟩)
    (c20 : PySem.W.codeIn K cd20 "_law_kind" = true)
    (k20 : PySem.W.keepIn K (.ref f20) = true)
    (a21 : PySem.W.nsIn K mainGlobals "_law_name" = some (some (.ref f21)))
    (l21 : K.lookup f21 = some ⟨oc21, od21, .func (PySem.W.fnOf "_law_name" "_law_name" (defArgs s_law_name) (defBody s_law_name) (defScope s_law_name) .none kV21 dc21 pm21 an21 cd21 ct21), sl21⟩)
    (c21 : PySem.W.codeIn K cd21 "_law_name" = true)
    (k21 : PySem.W.keepIn K (.ref f21) = true)
    (a22 : PySem.W.nsIn K mainGlobals "_law_least" = some (some (.ref f22)))
    (l22 : K.lookup f22 = some ⟨oc22, od22, .func (PySem.W.fnOf "_law_least" "_law_least" (defArgs s_law_least) (defBody s_law_least) (defScope s_law_least) .none kV22 dc22 pm22 an22 cd22 ct22), sl22⟩)
    (c22 : PySem.W.codeIn K cd22 "_law_least" = true)
    (k22 : PySem.W.keepIn K (.ref f22) = true)
    (a23 : PySem.W.nsIn K mainGlobals "_law_worth" = some (some (.ref f23)))
    (l23 : K.lookup f23 = some ⟨oc23, od23, .func (PySem.W.fnOf "_law_worth" "_law_worth" (defArgs s_law_worth) (defBody s_law_worth) (defScope s_law_worth) .none kV23 dc23 pm23 an23 cd23 ct23), sl23⟩)
    (c23 : PySem.W.codeIn K cd23 "_law_worth" = true)
    (k23 : PySem.W.keepIn K (.ref f23) = true)
    (a24 : PySem.W.nsIn K mainGlobals "_law_beside" = some (some (.ref f24)))
    (l24 : K.lookup f24 = some ⟨oc24, od24, .func (PySem.W.fnOf "_law_beside" "_law_beside" (defArgs s_law_beside) (defBody s_law_beside) (defScope s_law_beside) .none kV24 dc24 pm24 an24 cd24 ct24), sl24⟩)
    (c24 : PySem.W.codeIn K cd24 "_law_beside" = true)
    (k24 : PySem.W.keepIn K (.ref f24) = true)
    (a25 : PySem.W.nsIn K mainGlobals "_law_joined" = some (some (.ref f25)))
    (l25 : K.lookup f25 = some ⟨oc25, od25, .func (PySem.W.fnOf "_law_joined" "_law_joined" (defArgs s_law_joined) (defBody s_law_joined) (defScope s_law_joined) .none kV25 dc25 pm25 an25 cd25 ct25), sl25⟩)
    (c25 : PySem.W.codeIn K cd25 "_law_joined" = true)
    (k25 : PySem.W.keepIn K (.ref f25) = true)
    (a26 : PySem.W.nsIn K mainGlobals "_law_same" = some (some (.ref f26)))
    (l26 : K.lookup f26 = some ⟨oc26, od26, .func (PySem.W.fnOf "_law_same" "_law_same" (defArgs s_law_same) (defBody s_law_same) (defScope s_law_same) .none kV26 dc26 pm26 an26 cd26 ct26), sl26⟩)
    (c26 : PySem.W.codeIn K cd26 "_law_same" = true)
    (k26 : PySem.W.keepIn K (.ref f26) = true)
    (a27 : PySem.W.nsIn K mainGlobals "_law_great" = some (some (.ref f27)))
    (l27 : K.lookup f27 = some ⟨oc27, od27, .func (PySem.W.fnOf "_law_great" "_law_great" (defArgs s_law_great) (defBody s_law_great) (defScope s_law_great) .none kV27 dc27 pm27 an27 cd27 ct27), sl27⟩)
    (c27 : PySem.W.codeIn K cd27 "_law_great" = true)
    (k27 : PySem.W.keepIn K (.ref f27) = true)
    (a28 : PySem.W.nsIn K mainGlobals "_law_right" = some (some (.ref f28)))
    (l28 : K.lookup f28 = some ⟨oc28, od28, .func (PySem.W.fnOf "_law_right" "_law_right" (defArgs s_law_right) (defBody s_law_right) (defScope s_law_right) .none kV28 dc28 pm28 an28 cd28 ct28), sl28⟩)
    (c28 : PySem.W.codeIn K cd28 "_law_right" = true)
    (k28 : PySem.W.keepIn K (.ref f28) = true)
    (a29 : PySem.W.nsIn K mainGlobals "law" = some (some (.ref f29)))
    (l29 : K.lookup f29 = some ⟨oc29, od29, .func (PySem.W.fnOf "law" "law" (defArgs s_law) (defBody s_law) (defScope s_law) .none kV29 dc29 pm29 an29 cd29 ct29), sl29⟩)
    (c29 : PySem.W.codeIn K cd29 "law" = true)
    (k29 : PySem.W.keepIn K (.ref f29) = true)
    (pa0 : PySem.W.nsIn K mainGlobals "LEAST" = some (some (.ref p0)))
    (pl0 : K.lookup p0 = some ⟨.type "dict", none, .dict es0 n0, #[]⟩)
    (pk0 : PySem.W.KeysLit wd.params es0.toList)
    (pp0 : Paired (fun (p : Str × Sl) (e : DictEntry) => (∃ t, e.key = .str p.1 t) ∧ ∃ v, RelV v e.val ∧ ∀ D, Vr K D v p.2) kv_LEAST es0.toList)
    (pz0 : (p0 == sysModules) = false)
    (pa1 : PySem.W.nsIn K mainGlobals "JUDGES" = some (some (.ref p1)))
    (pl1 : K.lookup p1 = some ⟨.type "dict", none, .dict es1 n1, #[]⟩)
    (pk1 : PySem.W.KeysLit wd.params es1.toList)
    (pp1 : Paired (fun (p : Str × Sl) (e : DictEntry) => (∃ t, e.key = .str p.1 t) ∧ ∃ v, RelV v e.val ∧ ∀ D, Vr K D v p.2) (kv_JUDGES f3 f4 f5 f7 f8) es1.toList)
    (pz1 : (p1 == sysModules) = false)
    (pa2 : PySem.W.nsIn K mainGlobals "JOINERS" = some (some (.ref p2)))
    (pl2 : K.lookup p2 = some ⟨.type "dict", none, .dict es2 n2, #[]⟩)
    (pk2 : PySem.W.KeysLit wd.params es2.toList)
    (pp2 : Paired (fun (p : Str × Sl) (e : DictEntry) => (∃ t, e.key = .str p.1 t) ∧ ∃ v, RelV v e.val ∧ ∀ D, Vr K D v p.2) (kv_JOINERS f11 f12 f13 f14) es2.toList)
    (pz2 : (p2 == sysModules) = false)
    (gf_LONGEST_NAME : PySem.W.nsIn K mainGlobals "LONGEST_NAME" = some (some (.int 8 tk_LONGEST_NAME)))
    (gf_LETTERS : PySem.W.nsIn K mainGlobals "LETTERS" = some (some (.str "abcdefghijklmnopqrstuvwxyz" tk_LETTERS)))
    (z_all : PySem.W.nsIn K mainGlobals "all" = some none)
    (z_bool : PySem.W.nsIn K mainGlobals "bool" = some none)
    (z_dict : PySem.W.nsIn K mainGlobals "dict" = some none)
    (z_int : PySem.W.nsIn K mainGlobals "int" = some none)
    (z_isinstance : PySem.W.nsIn K mainGlobals "isinstance" = some none)
    (z_len : PySem.W.nsIn K mainGlobals "len" = some none)
    (z_list : PySem.W.nsIn K mainGlobals "list" = some none)
    (z_max : PySem.W.nsIn K mainGlobals "max" = some none)
    (z_min : PySem.W.nsIn K mainGlobals "min" = some none)
    (z_range : PySem.W.nsIn K mainGlobals "range" = some none)
    (z_set : PySem.W.nsIn K mainGlobals "set" = some none)
    (z_sorted : PySem.W.nsIn K mainGlobals "sorted" = some none)
    (z_str : PySem.W.nsIn K mainGlobals "str" = some none)
    (z_tuple : PySem.W.nsIn K mainGlobals "tuple" = some none)
    (z_zip : PySem.W.nsIn K mainGlobals "zip" = some none) :
    ∃ fd : FuncData, (∀ (s : Shared) (v : Value), BindsTo s fd ⟨[v], []⟩ [("script", v)]) ∧ ∀ base : Heap, K.In base → base.Ns mainGlobals mg → FnOk l.prog wd K mg base CX0 (60 + 1) fa fd ["script"] (spN K cLaw) := by
  have e := hfa.symm.trans (PySem.W.mg_of X G a29)
  have e2 : f29 = fa := by cases e; rfl
  subst e2
  have F0 := fun_mk (st := s_is_name) l0 c0 k0
  have B0 := F0.binds (ps := ["thing"]) fun _ _ _ _ _ _ us hl => match us, hl with | [_], _ => rfl
  have F1 := fun_mk (st := s_is_number) l1 c1 k1
  have B1 := F1.binds (ps := ["thing"]) fun _ _ _ _ _ _ us hl => match us, hl with | [_], _ => rfl
  have F2 := fun_mk (st := s_are_rising) l2 c2 k2
  have B2 := F2.binds (ps := ["names"]) fun _ _ _ _ _ _ us hl => match us, hl with | [_], _ => rfl
  have F3 := fun_mk (st := s_are_names) l3 c3 k3
  have B3 := F3.binds (ps := ["kind", "thing"]) fun _ _ _ _ _ _ us hl => match us, hl with | [_, _], _ => rfl
  have F4 := fun_mk (st := s_is_most) l4 c4 k4
  have B4 := F4.binds (ps := ["kind", "thing"]) fun _ _ _ _ _ _ us hl => match us, hl with | [_, _], _ => rfl
  have F5 := fun_mk (st := s_is_last) l5 c5 k5
  have B5 := F5.binds (ps := ["kind", "thing"]) fun _ _ _ _ _ _ us hl => match us, hl with | [_, _], _ => rfl
  have F6 := fun_mk (st := s_is_row) l6 c6 k6
  have B6 := F6.binds (ps := ["kind", "thing"]) fun _ _ _ _ _ _ us hl => match us, hl with | [_, _], _ => rfl
  have F7 := fun_mk (st := s_is_table) l7 c7 k7
  have B7 := F7.binds (ps := ["kind", "thing"]) fun _ _ _ _ _ _ us hl => match us, hl with | [_, _], _ => rfl
  have F8 := fun_mk (st := s_is_pair) l8 c8 k8
  have B8 := F8.binds (ps := ["kind", "thing"]) fun _ _ _ _ _ _ us hl => match us, hl with | [_, _], _ => rfl
  have F9 := fun_mk (st := s_is_worth) l9 c9 k9
  have B9 := F9.binds (ps := ["kind", "thing"]) fun _ _ _ _ _ _ us hl => match us, hl with | [_, _], _ => rfl
  have F10 := fun_mk (st := s_bottom) l10 c10 k10
  have B10 := F10.binds (ps := ["kind"]) fun _ _ _ _ _ _ us hl => match us, hl with | [_], _ => rfl
  have F11 := fun_mk (st := s_joined_names) l11 c11 k11
  have B11 := F11.binds (ps := ["kind", "one", "other"]) fun _ _ _ _ _ _ us hl => match us, hl with | [_, _, _], _ => rfl
  have F12 := fun_mk (st := s_greater) l12 c12 k12
  have B12 := F12.binds (ps := ["kind", "one", "other"]) fun _ _ _ _ _ _ us hl => match us, hl with | [_, _, _], _ => rfl
  have F13 := fun_mk (st := s_joined_tables) l13 c13 k13
  have B13 := F13.binds (ps := ["kind", "one", "other"]) fun _ _ _ _ _ _ us hl => match us, hl with | [_, _, _], _ => rfl
  have F14 := fun_mk (st := s_joined_pairs) l14 c14 k14
  have B14 := F14.binds (ps := ["kind", "one", "other"]) fun _ _ _ _ _ _ us hl => match us, hl with | [_, _, _], _ => rfl
  have F15 := fun_mk (st := s_join) l15 c15 k15
  have B15 := F15.binds (ps := ["kind", "one", "other"]) fun _ _ _ _ _ _ us hl => match us, hl with | [_, _, _], _ => rfl
  have F16 := fun_mk (st := s_under) l16 c16 k16
  have B16 := F16.binds (ps := ["kind", "one", "other"]) fun _ _ _ _ _ _ us hl => match us, hl with | [_, _, _], _ => rfl
  have F17 := fun_mk (st := s_law_cell_at) l17 c17 k17
  have B17 := F17.binds (ps := ["script", "k"]) fun _ _ _ _ _ _ us hl => match us, hl with | [_, _], _ => rfl
  have F18 := fun_mk (st := s_law_bag) l18 c18 k18
  have B18 := F18.binds (ps := ["cell", "place"]) fun _ _ _ _ _ _ us hl => match us, hl with | [_, _], _ => rfl
  have F19 := fun_mk (st := s_law_draw) l19 c19 k19
  have B19 := F19.binds (ps := ["bag", "many"]) fun _ _ _ _ _ _ us hl => match us, hl with | [_, _], _ => rfl
  have F20 := fun_mk (st := s_law_kind) l20 c20 k20
  have B20 := F20.binds (ps := ["bag", "deep"]) fun _ _ _ _ _ _ us hl => match us, hl with | [_, _], _ => rfl
  have F21 := fun_mk (st := s_law_name) l21 c21 k21
  have B21 := F21.binds (ps := ["bag"]) fun _ _ _ _ _ _ us hl => match us, hl with | [_], _ => rfl
  have F22 := fun_mk (st := s_law_least) l22 c22 k22
  have B22 := F22.binds (ps := ["kind"]) fun _ _ _ _ _ _ us hl => match us, hl with | [_], _ => rfl
  have F23 := fun_mk (st := s_law_worth) l23 c23 k23
  have B23 := F23.binds (ps := ["bag", "kind"]) fun _ _ _ _ _ _ us hl => match us, hl with | [_, _], _ => rfl
  have F24 := fun_mk (st := s_law_beside) l24 c24 k24
  have B24 := F24.binds (ps := ["bag", "kind", "worth"]) fun _ _ _ _ _ _ us hl => match us, hl with | [_, _, _], _ => rfl
  have F25 := fun_mk (st := s_law_joined) l25 c25 k25
  have B25 := F25.binds (ps := ["kind", "one", "other"]) fun _ _ _ _ _ _ us hl => match us, hl with | [_, _, _], _ => rfl
  have F26 := fun_mk (st := s_law_same) l26 c26 k26
  have B26 := F26.binds (ps := ["found", "due"]) fun _ _ _ _ _ _ us hl => match us, hl with | [_, _], _ => rfl
  have F27 := fun_mk (st := s_law_great) l27 c27 k27
  have B27 := F27.binds (ps := ["bag"]) fun _ _ _ _ _ _ us hl => match us, hl with | [_], _ => rfl
  have F28 := fun_mk (st := s_law_right) l28 c28 k28
  have B28 := F28.binds (ps := ["kind", "one", "other"]) fun _ _ _ _ _ _ us hl => match us, hl with | [_, _, _], _ => rfl
  have F29 := fun_mk (st := s_law) l29 c29 k29
  have B29 := F29.binds (ps := ["script"]) fun _ _ _ _ _ _ us hl => match us, hl with | [_], _ => rfl
  have T : Txt wd K mg { f_is_name := f0, d_is_name := _, f_is_number := f1, d_is_number := _, f_are_rising := f2, d_are_rising := _, f_are_names := f3, d_are_names := _, f_is_most := f4, d_is_most := _, f_is_last := f5, d_is_last := _, f_is_row := f6, d_is_row := _, f_is_table := f7, d_is_table := _, f_is_pair := f8, d_is_pair := _, f_is_worth := f9, d_is_worth := _, f_bottom := f10, d_bottom := _, f_joined_names := f11, d_joined_names := _, f_greater := f12, d_greater := _, f_joined_tables := f13, d_joined_tables := _, f_joined_pairs := f14, d_joined_pairs := _, f_join := f15, d_join := _, f_under := f16, d_under := _, f_law_cell_at := f17, d_law_cell_at := _, f_law_bag := f18, d_law_bag := _, f_law_draw := f19, d_law_draw := _, f_law_kind := f20, d_law_kind := _, f_law_name := f21, d_law_name := _, f_law_least := f22, d_law_least := _, f_law_worth := f23, d_law_worth := _, f_law_beside := f24, d_law_beside := _, f_law_joined := f25, d_law_joined := _, f_law_same := f26, d_law_same := _, f_law_great := f27, d_law_great := _, f_law_right := f28, d_law_right := _, f_law := f29, d_law := _, a_LEAST := p0, a_JUDGES := p1, a_JOINERS := p2, t_LONGEST_NAME := tk_LONGEST_NAME, t_LETTERS := tk_LETTERS } :=
    { n_all := PySem.W.mg_none_of X G z_all,
      n_bool := PySem.W.mg_none_of X G z_bool,
      n_dict := PySem.W.mg_none_of X G z_dict,
      n_int := PySem.W.mg_none_of X G z_int,
      n_isinstance := PySem.W.mg_none_of X G z_isinstance,
      n_len := PySem.W.mg_none_of X G z_len,
      n_list := PySem.W.mg_none_of X G z_list,
      n_max := PySem.W.mg_none_of X G z_max,
      n_min := PySem.W.mg_none_of X G z_min,
      n_range := PySem.W.mg_none_of X G z_range,
      n_set := PySem.W.mg_none_of X G z_set,
      n_sorted := PySem.W.mg_none_of X G z_sorted,
      n_str := PySem.W.mg_none_of X G z_str,
      n_tuple := PySem.W.mg_none_of X G z_tuple,
      n_zip := PySem.W.mg_none_of X G z_zip,
      b_is_name := B0,
      F_is_name := F0,
      g_is_name := PySem.W.mg_of X G a0,
      k_is_name := k0,
      b_is_number := B1,
      F_is_number := F1,
      g_is_number := PySem.W.mg_of X G a1,
      k_is_number := k1,
      b_are_rising := B2,
      F_are_rising := F2,
      g_are_rising := PySem.W.mg_of X G a2,
      k_are_rising := k2,
      b_are_names := B3,
      F_are_names := F3,
      g_are_names := PySem.W.mg_of X G a3,
      k_are_names := k3,
      b_is_most := B4,
      F_is_most := F4,
      g_is_most := PySem.W.mg_of X G a4,
      k_is_most := k4,
      b_is_last := B5,
      F_is_last := F5,
      g_is_last := PySem.W.mg_of X G a5,
      k_is_last := k5,
      b_is_row := B6,
      F_is_row := F6,
      g_is_row := PySem.W.mg_of X G a6,
      k_is_row := k6,
      b_is_table := B7,
      F_is_table := F7,
      g_is_table := PySem.W.mg_of X G a7,
      k_is_table := k7,
      b_is_pair := B8,
      F_is_pair := F8,
      g_is_pair := PySem.W.mg_of X G a8,
      k_is_pair := k8,
      b_is_worth := B9,
      F_is_worth := F9,
      g_is_worth := PySem.W.mg_of X G a9,
      k_is_worth := k9,
      b_bottom := B10,
      F_bottom := F10,
      g_bottom := PySem.W.mg_of X G a10,
      k_bottom := k10,
      b_joined_names := B11,
      F_joined_names := F11,
      g_joined_names := PySem.W.mg_of X G a11,
      k_joined_names := k11,
      b_greater := B12,
      F_greater := F12,
      g_greater := PySem.W.mg_of X G a12,
      k_greater := k12,
      b_joined_tables := B13,
      F_joined_tables := F13,
      g_joined_tables := PySem.W.mg_of X G a13,
      k_joined_tables := k13,
      b_joined_pairs := B14,
      F_joined_pairs := F14,
      g_joined_pairs := PySem.W.mg_of X G a14,
      k_joined_pairs := k14,
      b_join := B15,
      F_join := F15,
      g_join := PySem.W.mg_of X G a15,
      k_join := k15,
      b_under := B16,
      F_under := F16,
      g_under := PySem.W.mg_of X G a16,
      k_under := k16,
      b_law_cell_at := B17,
      F_law_cell_at := F17,
      g_law_cell_at := PySem.W.mg_of X G a17,
      k_law_cell_at := k17,
      b_law_bag := B18,
      F_law_bag := F18,
      g_law_bag := PySem.W.mg_of X G a18,
      k_law_bag := k18,
      b_law_draw := B19,
      F_law_draw := F19,
      g_law_draw := PySem.W.mg_of X G a19,
      k_law_draw := k19,
      b_law_kind := B20,
      F_law_kind := F20,
      g_law_kind := PySem.W.mg_of X G a20,
      k_law_kind := k20,
      b_law_name := B21,
      F_law_name := F21,
      g_law_name := PySem.W.mg_of X G a21,
      k_law_name := k21,
      b_law_least := B22,
      F_law_least := F22,
      g_law_least := PySem.W.mg_of X G a22,
      k_law_least := k22,
      b_law_worth := B23,
      F_law_worth := F23,
      g_law_worth := PySem.W.mg_of X G a23,
      k_law_worth := k23,
      b_law_beside := B24,
      F_law_beside := F24,
      g_law_beside := PySem.W.mg_of X G a24,
      k_law_beside := k24,
      b_law_joined := B25,
      F_law_joined := F25,
      g_law_joined := PySem.W.mg_of X G a25,
      k_law_joined := k25,
      b_law_same := B26,
      F_law_same := F26,
      g_law_same := PySem.W.mg_of X G a26,
      k_law_same := k26,
      b_law_great := B27,
      F_law_great := F27,
      g_law_great := PySem.W.mg_of X G a27,
      k_law_great := k27,
      b_law_right := B28,
      F_law_right := F28,
      g_law_right := PySem.W.mg_of X G a28,
      k_law_right := k28,
      b_law := B29,
      F_law := F29,
      g_law := PySem.W.mg_of X G a29,
      k_law := k29,
      g_LEAST := PySem.W.mg_of X G pa0,
      kd_LEAST := ⟨⟨es0, n0, pl0, pk0, pp0⟩, pz0⟩,
      g_JUDGES := PySem.W.mg_of X G pa1,
      kd_JUDGES := ⟨⟨es1, n1, pl1, pk1, pp1⟩, pz1⟩,
      g_JOINERS := PySem.W.mg_of X G pa2,
      kd_JOINERS := ⟨⟨es2, n2, pl2, pk2, pp2⟩, pz2⟩,
      g_LONGEST_NAME := PySem.W.mg_of X G gf_LONGEST_NAME,
      g_LETTERS := PySem.W.mg_of X G gf_LETTERS }
  exact ⟨_, fun s v => .of_eq rfl, fun base _ _ => ok_law T⟩
end G
open PySem PySem.W PyProof.Rows
set_option maxRecDepth 100000 in
set_option maxHeartbeats 0 in
theorem PySem.Challenge.cw_growjoin_k03_joined_holds : PySem.Challenge.rw_growjoin_k03_joined.Holds := by
  w_on; o_law; k_head; (case hw => w_witness2)
  k_fill
  refine DL.walk (l := PySem.Challenge.rw_growjoin_k03_joined) (k := 60 + 1) ⟨rfl, by decide, by decide⟩ rfl rfl (fun w h Y => PySem.W.kIn_of Y) ?F
  case F =>
    intro w mg fa h KX GX hmg
    refine' G.all_mk KX GX hmg ?a0 ?l0 ?c0 ?k0 ?a1 ?l1 ?c1 ?k1 ?a2 ?l2 ?c2 ?k2 ?a3 ?l3 ?c3 ?k3 ?a4 ?l4 ?c4 ?k4 ?a5 ?l5 ?c5 ?k5 ?a6 ?l6 ?c6 ?k6 ?a7 ?l7 ?c7 ?k7 ?a8 ?l8 ?c8 ?k8 ?a9 ?l9 ?c9 ?k9 ?a10 ?l10 ?c10 ?k10 ?a11 ?l11 ?c11 ?k11 ?a12 ?l12 ?c12 ?k12 ?a13 ?l13 ?c13 ?k13 ?a14 ?l14 ?c14 ?k14 ?a15 ?l15 ?c15 ?k15 ?a16 ?l16 ?c16 ?k16 ?a17 ?l17 ?c17 ?k17 ?a18 ?l18 ?c18 ?k18 ?a19 ?l19 ?c19 ?k19 ?a20 ?l20 ?c20 ?k20 ?a21 ?l21 ?c21 ?k21 ?a22 ?l22 ?c22 ?k22 ?a23 ?l23 ?c23 ?k23 ?a24 ?l24 ?c24 ?k24 ?a25 ?l25 ?c25 ?k25 ?a26 ?l26 ?c26 ?k26 ?a27 ?l27 ?c27 ?k27 ?a28 ?l28 ?c28 ?k28 ?a29 ?l29 ?c29 ?k29 ?pa0 ?pl0 ?pk0 ?pp0 ?pz0 ?pa1 ?pl1 ?pk1 ?pp1 ?pz1 ?pa2 ?pl2 ?pk2 ?pp2 ?pz2 ?gf_LONGEST_NAME ?gf_LETTERS ?z_all ?z_bool ?z_dict ?z_int ?z_isinstance ?z_len ?z_list ?z_max ?z_min ?z_range ?z_set ?z_sorted ?z_str ?z_tuple ?z_zip
    (case a0 => k_is)
    (case l0 => k_is)
    (case c0 => k_is)
    (case k0 => k_is)
    (case a1 => k_is)
    (case l1 => k_is)
    (case c1 => k_is)
    (case k1 => k_is)
    (case a2 => k_is)
    (case l2 => k_is)
    (case c2 => k_is)
    (case k2 => k_is)
    (case a3 => k_is)
    (case l3 => k_is)
    (case c3 => k_is)
    (case k3 => k_is)
    (case a4 => k_is)
    (case l4 => k_is)
    (case c4 => k_is)
    (case k4 => k_is)
    (case a5 => k_is)
    (case l5 => k_is)
    (case c5 => k_is)
    (case k5 => k_is)
    (case a6 => k_is)
    (case l6 => k_is)
    (case c6 => k_is)
    (case k6 => k_is)
    (case a7 => k_is)
    (case l7 => k_is)
    (case c7 => k_is)
    (case k7 => k_is)
    (case a8 => k_is)
    (case l8 => k_is)
    (case c8 => k_is)
    (case k8 => k_is)
    (case a9 => k_is)
    (case l9 => k_is)
    (case c9 => k_is)
    (case k9 => k_is)
    (case a10 => k_is)
    (case l10 => k_is)
    (case c10 => k_is)
    (case k10 => k_is)
    (case a11 => k_is)
    (case l11 => k_is)
    (case c11 => k_is)
    (case k11 => k_is)
    (case a12 => k_is)
    (case l12 => k_is)
    (case c12 => k_is)
    (case k12 => k_is)
    (case a13 => k_is)
    (case l13 => k_is)
    (case c13 => k_is)
    (case k13 => k_is)
    (case a14 => k_is)
    (case l14 => k_is)
    (case c14 => k_is)
    (case k14 => k_is)
    (case a15 => k_is)
    (case l15 => k_is)
    (case c15 => k_is)
    (case k15 => k_is)
    (case a16 => k_is)
    (case l16 => k_is)
    (case c16 => k_is)
    (case k16 => k_is)
    (case a17 => k_is)
    (case l17 => k_is)
    (case c17 => k_is)
    (case k17 => k_is)
    (case a18 => k_is)
    (case l18 => k_is)
    (case c18 => k_is)
    (case k18 => k_is)
    (case a19 => k_is)
    (case l19 => k_is)
    (case c19 => k_is)
    (case k19 => k_is)
    (case a20 => k_is)
    (case l20 => k_is)
    (case c20 => k_is)
    (case k20 => k_is)
    (case a21 => k_is)
    (case l21 => k_is)
    (case c21 => k_is)
    (case k21 => k_is)
    (case a22 => k_is)
    (case l22 => k_is)
    (case c22 => k_is)
    (case k22 => k_is)
    (case a23 => k_is)
    (case l23 => k_is)
    (case c23 => k_is)
    (case k23 => k_is)
    (case a24 => k_is)
    (case l24 => k_is)
    (case c24 => k_is)
    (case k24 => k_is)
    (case a25 => k_is)
    (case l25 => k_is)
    (case c25 => k_is)
    (case k25 => k_is)
    (case a26 => k_is)
    (case l26 => k_is)
    (case c26 => k_is)
    (case k26 => k_is)
    (case a27 => k_is)
    (case l27 => k_is)
    (case c27 => k_is)
    (case k27 => k_is)
    (case a28 => k_is)
    (case l28 => k_is)
    (case c28 => k_is)
    (case k28 => k_is)
    (case a29 => k_is)
    (case l29 => k_is)
    (case c29 => k_is)
    (case k29 => k_is)
    (case pa0 => k_is)
    (case pl0 => k_is)
    (case pk0 => k_keys)
    (case pp0 => exact (.cons ⟨⟨_, rfl⟩, .ref _, rfl, DL.kt_nil (by k_is)⟩ (.cons ⟨⟨_, rfl⟩, .int _, ⟨_, rfl⟩, fun _ => .int _⟩ (.cons ⟨⟨_, rfl⟩, .ref _, rfl, DL.kt_int2 (by k_is)⟩ (.cons ⟨⟨_, rfl⟩, .ref _, rfl, DL.kt_nil (by k_is)⟩ .nil)))))
    (case pz0 => first | rfl | decide | k_is)
    (case pa1 => k_is)
    (case pl1 => k_is)
    (case pk1 => k_keys)
    (case pp1 => exact (.cons ⟨⟨_, rfl⟩, .ref _, rfl, fun _ => rfl⟩ (.cons ⟨⟨_, rfl⟩, .ref _, rfl, fun _ => rfl⟩ (.cons ⟨⟨_, rfl⟩, .ref _, rfl, fun _ => rfl⟩ (.cons ⟨⟨_, rfl⟩, .ref _, rfl, fun _ => rfl⟩ (.cons ⟨⟨_, rfl⟩, .ref _, rfl, fun _ => rfl⟩ .nil))))))
    (case pz1 => first | rfl | decide | k_is)
    (case pa2 => k_is)
    (case pl2 => k_is)
    (case pk2 => k_keys)
    (case pp2 => exact (.cons ⟨⟨_, rfl⟩, .ref _, rfl, fun _ => rfl⟩ (.cons ⟨⟨_, rfl⟩, .ref _, rfl, fun _ => rfl⟩ (.cons ⟨⟨_, rfl⟩, .ref _, rfl, fun _ => rfl⟩ (.cons ⟨⟨_, rfl⟩, .ref _, rfl, fun _ => rfl⟩ (.cons ⟨⟨_, rfl⟩, .ref _, rfl, fun _ => rfl⟩ .nil))))))
    (case pz2 => first | rfl | decide | k_is)
    (case gf_LONGEST_NAME => k_is)
    (case gf_LETTERS => k_is)
    (case z_all => k_is)
    (case z_bool => k_is)
    (case z_dict => k_is)
    (case z_int => k_is)
    (case z_isinstance => k_is)
    (case z_len => k_is)
    (case z_list => k_is)
    (case z_max => k_is)
    (case z_min => k_is)
    (case z_range => k_is)
    (case z_set => k_is)
    (case z_sorted => k_is)
    (case z_str => k_is)
    (case z_tuple => k_is)
    (case z_zip => k_is)
#print axioms PySem.Challenge.cw_growjoin_k03_joined_holds

