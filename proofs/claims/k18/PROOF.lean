import PyProof.Rows.All
import Wide.All
import OpenK.AllK
import Wide.FinOn
import HandS.ForMost
import HandS.ForExc
import HandS.Walk
import HandS.Wide
import HandS.Flow
import HandS.IsInst
import HandS.Deep
import HandS.TupAny
import HandS.Style
import KE.KUnpackStar
import HandS.Zip
import HandS.More
import HandS.Defaults
import HandS.FStr
import HandS.StrMore
import HandS.WordsExc
import HandS.ExcOwn
import HandS.ExcIs
import HandS.Set
import HandS.TupSets
import HandS.SortOrd
import HandS.SortRule
import HandS.SortInts
import PyProof.Rows.SortStr
import HandS.SetFor
import HandS.CallLocal
import HandS.TryOnly
import HandS.TupMul
import PyProof.AutoListH
import HandS.DictTup
import KE.SortData
import KE.DataMinMax
import KE.KDictPairs
import KE.GoesEnum
import HandS.Conv
import HandS.MakeKw
import HandS.Text
import HandS.StrSplit
import HandS.Replace
import HandS.Strs
import KE.DataCmp
import HandS.SetKeys
import HandS.ExcInit
import HandS.ExcField
import HandS.ExcValue
import KE.KExcIs
import PySem.Challenge.RW_growjoin_k18_refusals_made
set_option Elab.async false
set_option linter.all false
set_option maxRecDepth 100000
set_option maxHeartbeats 4000000
namespace DL
open PySem PySem.Spec PyProof.Rows L2
/-- what a slot, a list's place, a field holds: data, or the address of an object of the store -/
inductive Sl where
  | dat (d : PyData)
  | adr (a : Addr)
  | scr (ns : List Int)
  | wt (ds : List PyData)
  | wa (xs : List (PyData ⊕ Addr))
/-- an object of the store -/
inductive OO where
  | lst (xs : List Sl)
  | dic (kvs : List (Key × Sl))
  | ins (C : Addr) (fs : List (Str × Sl))
  | lkd (kvs : List (Key × Sl))
  | dtt (kvs : List (List Key × Sl))
  | exc (C : Addr) (d : Option Addr)
  | xdc (fs : List (Str × Sl))
def isLk : OO → Bool
  | .lkd _ => true
  | _ => false
abbrev Om := Addr → Option OO
abbrev DEnv := List (Option Sl)
def put (w : Om) (a : Addr) (o : OO) : Om := fun b => if b = a then some o else w b
def del (w : Om) (a : Addr) : Om := fun b => if b = a then none else w b
theorem put_same {w : Om} {a : Addr} {o : OO} : put w a o a = some o := by unfold put; rw [if_pos rfl]
theorem put_ne {w : Om} {a b : Addr} {o : OO} (h : b ≠ a) : put w a o b = w b := by unfold put; rw [if_neg h]
theorem put_put {w : Om} {a : Addr} {o u : OO} : put (put w a o) a u = put w a u := by funext b; unfold put; split <;> rfl
theorem del_same {w : Om} {a : Addr} : del w a a = none := by unfold del; rw [if_pos rfl]
theorem del_ne {w : Om} {a b : Addr} (h : b ≠ a) : del w a b = w b := by unfold del; rw [if_neg h]
theorem del_put {w : Om} {a : Addr} {o : OO} (h : w a = none) : del (put w a o) a = w := by
  funext b
  by_cases e : b = a
  · subst e; rw [del_same, h]
  · rw [del_ne e, put_ne e]
/-- a part of a store -/
def Sub (w u : Om) : Prop := ∀ a o, w a = some o → u a = some o
theorem Sub.refl (w : Om) : Sub w w := fun _ _ h => h
theorem Sub.trans {w u v : Om} (a : Sub w u) (b : Sub u v) : Sub w v := fun c o h => b c o (a c o h)
theorem Sub.new {w : Om} {a : Addr} {o : OO} (h : w a = none) : Sub w (put w a o) := fun b u e => by
  have : b ≠ a := fun z => by subst z; rw [h] at e; cases e
  rw [put_ne this]; exact e
theorem Sub.put {w u : Om} {a : Addr} {o : OO} (s : Sub w u) : Sub (put w a o) (put u a o) := fun b v e => by
  by_cases z : b = a
  · subst z; rw [put_same] at e ⊢; exact e
  · rw [put_ne z] at e ⊢; exact s b v e
theorem Sub.del (w : Om) (a : Addr) : Sub (del w a) w := fun b o e => by
  by_cases z : b = a
  · subst z; rw [del_same] at e; cases e
  · rw [del_ne z] at e; exact e
/-- a tuple that has no dict of its own -/
def PlT (K : PySem.W.Frag) (D : Hp) (a : Addr) (xs : List V) : Prop :=
  (∃ o : Obj, o.dict = none ∧ D a = some (.frz o (.tup xs))) ∨ ∃ (o : Obj) (its : Array Value) (n : Nat), K.lookup a = some o ∧ o.cls = .type "tuple" ∧ o.dict = none ∧ o.data = .seq its n ∧ its.size ≤ sizeLine ∧ Vals xs its.toList
theorem PlT.sq {K : PySem.W.Frag} {D : Hp} {a : Addr} {xs : List V} (h : PlT K D a xs) : SqT K D a xs := by
  rcases h with ⟨o, _, h⟩ | ⟨o, its, n, h1, h2, _, h3⟩
  · exact .inl (.inr ⟨o, h⟩)
  · exact .inr ⟨o, its, n, h1, h2, h3⟩
theorem PlT.mono {K : PySem.W.Frag} {D D' : Hp} {a : Addr} {xs : List V} (e : Same D D') (h : PlT K D a xs) : PlT K D' a xs := by
  rcases h with ⟨o, h0, h⟩ | h
  · exact .inl ⟨o, h0, e _ _ h⟩
  · exact .inr h
theorem PlT.new {K : PySem.W.Frag} {D : Hp} {a : Addr} {xs : List V} {o : Obj} (h0 : o.dict = none) : PlT K (upd D a (.frz o (.tup xs))) a xs := .inl ⟨o, h0, upd_same⟩
abbrev tupObj (its : List Value) : Obj := { cls := .type "tuple", data := .seq its.toArray }
/-- a new tuple, known to its object -/
theorem inv_tup {X : Cx} {pins : List (Addr × Obj)} {σ : L2.St} {H : Hp} {s : Shared} {vs : List V} {its : List Value} (I : Inv X pins σ H s) (r : Vals vs its) (hz : vs.length ≤ sizeLine) :
    Inv X pins σ (upd H s.heap.objs.size (.frz (tupObj its) (.tup vs))) { s with heap := s.heap.push (tupObj its) } :=
  I.laid (t' := s.toks) (o := .frz (tupObj its) (.tup vs)) (fun b ob q => Heap.get?_push_of_some _ q) (Nat.le_refl _) ⟨Heap.get?_push_size _ rfl, hz, its, r, IsTup.new _ _⟩
mutual
inductive Dr (K : PySem.W.Frag) (D : Hp) : V → PyData → Prop
  | non : Dr K D .non .none
  | bl (b : Bool) : Dr K D (.bl b) (.bool b)
  | int (i : Int) : Dr K D (.int i) (.int i)
  | str (x : Str) : Dr K D (.str x) (.str x)
  | lst {a : Addr} {xs : List V} {ds : List PyData} : D a = some (.lst xs) → DrA K D xs ds → Dr K D (.ref a) (.list ds)
  | tup {a : Addr} {xs : List V} {ds : List PyData} : PlT K D a xs → DrA K D xs ds → Dr K D (.ref a) (.tuple ds)
  | dct {a : Addr} : D a = some (.dK []) → Dr K D (.ref a) (.dict [])
inductive DrA (K : PySem.W.Frag) (D : Hp) : List V → List PyData → Prop
  | nil : DrA K D [] []
  | cons {v : V} {vs : List V} {d : PyData} {ds : List PyData} : Dr K D v d → DrA K D vs ds → DrA K D (v :: vs) (d :: ds)
end
theorem sqT_mono {K : PySem.W.Frag} {D D' : Hp} {a : Addr} {xs : List V} (e : Same D D') (h : SqT K D a xs) : SqT K D' a xs := by
  rcases h with (h | ⟨o, h⟩) | h
  · exact .inl (.inl (e _ _ h))
  · exact .inl (.inr ⟨o, e _ _ h⟩)
  · exact .inr h
mutual
theorem Dr.mono {K : PySem.W.Frag} {D D' : Hp} (e : Same D D') : ∀ {v : V} {d : PyData}, Dr K D v d → Dr K D' v d
  | _, _, .non => .non
  | _, _, .bl b => .bl b
  | _, _, .int i => .int i
  | _, _, .str x => .str x
  | _, _, .lst h hs => .lst (e _ _ h) (DrA.mono e hs)
  | _, _, .tup h hs => .tup (h.mono e) (DrA.mono e hs)
  | _, _, .dct h => .dct (e _ _ h)
theorem DrA.mono {K : PySem.W.Frag} {D D' : Hp} (e : Same D D') : ∀ {vs : List V} {ds : List PyData}, DrA K D vs ds → DrA K D' vs ds
  | _, _, .nil => .nil
  | _, _, .cons h hs => .cons (Dr.mono e h) (DrA.mono e hs)
end
theorem DrA.length {K : PySem.W.Frag} {D : Hp} : ∀ {vs : List V} {ds : List PyData}, DrA K D vs ds → vs.length = ds.length
  | _, _, .nil => rfl
  | _, _, .cons _ hs => by rw [List.length_cons, List.length_cons, DrA.length hs]
theorem DrA.append {K : PySem.W.Frag} {D : Hp} : ∀ {vs us : List V} {ds es : List PyData}, DrA K D vs ds → DrA K D us es → DrA K D (vs ++ us) (ds ++ es)
  | _, _, _, _, .nil, s => s
  | _, _, _, _, .cons r t, s => .cons r (DrA.append t s)
theorem DrA.drop {K : PySem.W.Frag} {D : Hp} : ∀ {vs : List V} {ds : List PyData} (n : Nat), DrA K D vs ds → DrA K D (vs.drop n) (ds.drop n)
  | _, _, 0, r => r
  | _, _, _ + 1, .nil => .nil
  | _, _, n + 1, .cons _ t => DrA.drop n t
/-- a tuple's item, data or the address of an object of the store -/
def WiR (K : PySem.W.Frag) (D : Hp) (v : V) : PyData ⊕ Addr → Prop
  | .inl d => Dr K D v d
  | .inr a => v = .ref a
def wiS : PyData ⊕ Addr → Sl
  | .inl d => .dat d
  | .inr a => .adr a
theorem WiR.mono {K : PySem.W.Frag} {D D' : Hp} {v : V} {s : PyData ⊕ Addr} (e : Same D D') (h : WiR K D v s) : WiR K D' v s := by
  cases s with
  | inl d => exact Dr.mono e h
  | inr a => exact h
/-- an exception object -/
def ExcH (a C : Addr) (d : Option Addr) : HO := .ext fun h => ∃ (oe : Obj) (vs : Array Value), h.get? a = some oe ∧ Zc (.ref C) d oe ∧ oe.data = .fields vs
/-- a value and what a slot says of it -/
def Vr (K : PySem.W.Frag) (D : Hp) (v : V) : Sl → Prop
  | .dat d => Dr K D v d
  | .adr a => v = .ref a
  | .scr ns => ∃ a, v = .ref a ∧ SqL K D a (ns.map V.int)
  | .wt ds => ∃ a xs, v = .ref a ∧ SqT K D a xs ∧ DrA K D xs ds
  | .wa ds => ∃ a xs, v = .ref a ∧ SqT K D a xs ∧ Paired (WiR K D) xs ds
theorem Vr.mono {K : PySem.W.Frag} {D D' : Hp} {v : V} {s : Sl} (e : Same D D') (h : Vr K D v s) : Vr K D' v s := by
  cases s with
  | dat d => exact Dr.mono e h
  | adr a => exact h
  | scr ns => obtain ⟨a, h1, h2⟩ := h; exact ⟨a, h1, Same.seq e h2⟩
  | wt ds => obtain ⟨a, xs, h1, h2, h3⟩ := h; exact ⟨a, xs, h1, sqT_mono e h2, h3.mono e⟩
  | wa ds => obtain ⟨a, xs, h1, h2, h3⟩ := h; exact ⟨a, xs, h1, sqT_mono e h2, Paired.mapP h3 fun _ _ r => r.mono e⟩
abbrev SlA (K : PySem.W.Frag) (D : Hp) : List V → List Sl → Prop := Paired (Vr K D)
theorem SlA.mono {K : PySem.W.Frag} {D D' : Hp} {vs : List V} {ss : List Sl} (e : Same D D') (h : SlA K D vs ss) : SlA K D' vs ss := Paired.mapP h fun _ _ r => r.mono e
theorem SlA.get {K : PySem.W.Frag} {D : Hp} : ∀ {vs : List V} {ss : List Sl} {i : Nat} {s : Sl}, SlA K D vs ss → ss[i]? = some s → ∃ v, vs[i]? = some v ∧ Vr K D v s
  | _, _, _, _, .nil, e => by simp at e
  | _, _, 0, _, .cons h _, e => by simp at e; subst e; exact ⟨_, rfl, h⟩
  | _, _, i + 1, s, .cons _ hs, e => by
    obtain ⟨v, h1, h2⟩ := SlA.get (i := i) (s := s) hs (by simpa using e)
    exact ⟨v, by simpa using h1, h2⟩
theorem SlA.append {K : PySem.W.Frag} {D : Hp} : ∀ {vs us : List V} {ds es : List Sl}, SlA K D vs ds → SlA K D us es → SlA K D (vs ++ us) (ds ++ es)
  | _, _, _, _, .nil, s => s
  | _, _, _, _, .cons r t, s => .cons r (SlA.append t s)
theorem SlA.set {K : PySem.W.Frag} {D : Hp} {v : V} {s : Sl} (r : Vr K D v s) : ∀ {vs : List V} {ss : List Sl} (i : Nat), SlA K D vs ss → SlA K D (vs.set i v) (ss.set i s)
  | _, _, _, .nil => .nil
  | _, _, 0, .cons _ t => .cons r t
  | _, _, i + 1, .cons q t => .cons q (SlA.set r i t)
theorem SlA.drop {K : PySem.W.Frag} {D : Hp} : ∀ {vs : List V} {ds : List Sl} (n : Nat), SlA K D vs ds → SlA K D (vs.drop n) (ds.drop n)
  | _, _, 0, r => r
  | _, _, _ + 1, .nil => .nil
  | _, _, n + 1, .cons _ t => SlA.drop n t
theorem SlA.snoc {K : PySem.W.Frag} {D : Hp} {v : V} {d : Sl} {vs : List V} {ds : List Sl} (h : SlA K D vs ds) (r : Vr K D v d) : SlA K D (vs ++ [v]) (ds ++ [d]) := SlA.append h (.cons r .nil)
theorem DrA.sl {K : PySem.W.Frag} {D : Hp} : ∀ {vs : List V} {ds : List PyData}, DrA K D vs ds → SlA K D vs (ds.map .dat)
  | _, _, .nil => .nil
  | _, _, .cons h hs => .cons h (DrA.sl hs)
theorem WiR.sl {K : PySem.W.Frag} {D : Hp} : ∀ {vs : List V} {ds : List (PyData ⊕ Addr)}, Paired (WiR K D) vs ds → SlA K D vs (ds.map wiS)
  | _, _, .nil => .nil
  | _, x :: _, .cons h hs => .cons (by cases x <;> exact h) (WiR.sl hs)
theorem SlA.dat {K : PySem.W.Frag} {D : Hp} : ∀ {ds : List PyData} {vs : List V}, SlA K D vs (ds.map .dat) → DrA K D vs ds
  | [], _, .nil => .nil
  | _ :: _, _, .cons h hs => .cons h (SlA.dat hs)
/-- an object of the store as it stands in the heap -/
def OwnOk (K : PySem.W.Frag) (D H : Hp) (a : Addr) : OO → Prop
  | .lst xs => ∃ vs, H a = some (.lst vs) ∧ SlA K D vs xs
  | .dic kvs => ∃ ks, H a = some (.dK ks) ∧ Paired (fun (p : Key × V) (q : Key × Sl) => p.1 = q.1 ∧ Vr K D p.2 q.2) ks kvs
  | .ins C fs => ∃ dx gs, H a = some (.ins C dx gs) ∧ Paired (fun (p : Str × V) (q : Str × Sl) => p.1 = q.1 ∧ Vr K D p.2 q.2) gs fs
  | .dtt kvs => ∃ ks, H a = some (.dT ks) ∧ Paired (fun (p : List Key × V) (q : List Key × Sl) => p.1 = q.1 ∧ Vr K D p.2 q.2) ks kvs
  | .exc C d => H a = some (ExcH a C d)
  | .xdc fs => ∃ gs, H a = some (.xd gs) ∧ Paired (fun (p : Str × V) (q : Str × Sl) => p.1 = q.1 ∧ Vr K D p.2 q.2) gs fs
  | .lkd kvs => ∃ od ks, D a = some (.frz od (.dK ks)) ∧ H a = some (.frz od (.dK ks)) ∧ Paired (fun (p : Key × V) (q : Key × Sl) => p.1 = q.1 ∧ Vr K D p.2 q.2) ks kvs
theorem OwnOk.mono {K : PySem.W.Frag} {D D' H H' : Hp} {a : Addr} {o : OO} (e : Same D D') (h : ∀ u, H a = some u → H' a = some u) (x : OwnOk K D H a o) : OwnOk K D' H' a o := by
  cases o with
  | lst xs => obtain ⟨vs, h1, h2⟩ := x; exact ⟨vs, h _ h1, SlA.mono e h2⟩
  | dic kvs => obtain ⟨ks, h1, h2⟩ := x; exact ⟨ks, h _ h1, Paired.mapP h2 fun _ _ r => ⟨r.1, r.2.mono e⟩⟩
  | ins C fs => obtain ⟨dx, gs, h1, h2⟩ := x; exact ⟨dx, gs, h _ h1, Paired.mapP h2 fun _ _ r => ⟨r.1, r.2.mono e⟩⟩
  | dtt kvs => obtain ⟨ks, h1, h2⟩ := x; exact ⟨ks, h _ h1, Paired.mapP h2 fun _ _ r => ⟨r.1, r.2.mono e⟩⟩
  | exc C d => exact h _ x
  | xdc fs => obtain ⟨gs, h1, h2⟩ := x; exact ⟨gs, h _ h1, Paired.mapP h2 fun _ _ r => ⟨r.1, r.2.mono e⟩⟩
  | lkd kvs => obtain ⟨od, ks, h0, h1, h2⟩ := x; exact ⟨od, ks, e _ _ h0, h _ h1, Paired.mapP h2 fun _ _ r => ⟨r.1, r.2.mono e⟩⟩
theorem OwnOk.there {K : PySem.W.Frag} {D H : Hp} {a : Addr} {o : OO} (x : OwnOk K D H a o) : H a ≠ none := by
  cases o with
  | lst xs => obtain ⟨vs, h1, h2⟩ := x; rw [h1]; intro z; cases z
  | dic kvs => obtain ⟨ks, h1, h2⟩ := x; rw [h1]; intro z; cases z
  | ins C fs => obtain ⟨dx, gs, h1, h2⟩ := x; rw [h1]; intro z; cases z
  | lkd kvs => obtain ⟨od, ks, h0, h1, h2⟩ := x; rw [h1]; intro z; cases z
  | dtt kvs => obtain ⟨ks, h1, h2⟩ := x; rw [h1]; intro z; cases z
  | exc C d => have h1 : H a = some (ExcH a C d) := x; rw [h1]; intro z; cases z
  | xdc fs => obtain ⟨gs, h1, h2⟩ := x; rw [h1]; intro z; cases z
/-- the store and the data as they stand in the heap -/
structure StOk (K : PySem.W.Frag) (w : Om) (D H : Hp) : Prop where
  dh : Same D H
  own : ∀ a o, w a = some o → OwnOk K D H a o
  sep : ∀ a o, w a = some o → isLk o = false → D a = none
/-- .. with the slots -/
structure Rp (K : PySem.W.Frag) (σ : L2.St) (ρ : DEnv) (w : Om) (D H : Hp) : Prop where
  st : StOk K w D H
  len : ρ.length = σ.length
  slot : ∀ (i : Nat) (s : Sl), ρ[i]? = some (some s) → ∃ v, σ[i]? = some (some v) ∧ Vr K D v s
/-- what a step leaves -/
structure Gr (w : Om) (D H : Hp) (w' : Om) (D' H' : Hp) : Prop where
  dd : Same D D'
  fr : ∀ a o, H a = some o → w a = none → H' a = some o
  nw : ∀ a, H a ≠ none → w a = none → w' a = none
  nd : ∀ a, H a ≠ none → w a = none → D a = none → D' a = none
  dm : ∀ a, H a ≠ none → H' a ≠ none
theorem Gr.refl (w : Om) (D H : Hp) : Gr w D H w D H := ⟨Same.refl D, fun _ _ h _ => h, fun _ _ h => h, fun _ _ _ h => h, fun _ h => h⟩
theorem Gr.trans {w w1 w2 : Om} {D D1 D2 H H1 H2 : Hp} (a : Gr w D H w1 D1 H1) (b : Gr w1 D1 H1 w2 D2 H2) : Gr w D H w2 D2 H2 where
  dd := a.dd.trans b.dd
  fr := fun x o h n => b.fr x o (a.fr x o h n) (a.nw x (by rw [h]; intro z; cases z) n)
  nw := fun x h n => b.nw x (a.dm x h) (a.nw x h n)
  nd := fun x h n d => b.nd x (a.dm x h) (a.nw x h n) (a.nd x h n d)
  dm := fun x h => b.dm x (a.dm x h)
theorem StOk.there {K : PySem.W.Frag} {w : Om} {D H : Hp} {a : Addr} {o : OO} (s : StOk K w D H) (h : w a = some o) : H a ≠ none := (s.own a o h).there
theorem StOk.freeW {K : PySem.W.Frag} {w : Om} {D H : Hp} {a : Addr} (s : StOk K w D H) (h : H a = none) : w a = none := by
  cases e : w a with
  | none => rfl
  | some o => exact absurd h (s.there e)
theorem StOk.freeD {K : PySem.W.Frag} {w : Om} {D H : Hp} {a : Addr} (s : StOk K w D H) (h : H a = none) : D a = none := by
  cases e : D a with
  | none => rfl
  | some o => rw [s.dh a o e] at h; cases h
theorem StOk.sub {K : PySem.W.Frag} {w u : Om} {D H : Hp} (s : StOk K w D H) (h : Sub u w) : StOk K u D H := ⟨s.dh, fun a o e => s.own a o (h a o e), fun a o e => s.sep a o (h a o e)⟩
theorem Rp.next {K : PySem.W.Frag} {σ : L2.St} {ρ : DEnv} {w w' : Om} {D D' H H' : Hp} (r : Rp K σ ρ w D H) (e : Same D D') (s : StOk K w' D' H') : Rp K σ ρ w' D' H' :=
  ⟨s, r.len, fun i s h => by obtain ⟨v, h1, h2⟩ := r.slot i s h; exact ⟨v, h1, h2.mono e⟩⟩
theorem Rp.set {K : PySem.W.Frag} {σ : L2.St} {ρ : DEnv} {w : Om} {D H : Hp} {v : V} {s : Sl} (r : Rp K σ ρ w D H) (i : Nat) (h : Vr K D v s) : Rp K (σ.set i (some v)) (ρ.set i (some s)) w D H := by
  refine ⟨r.st, by rw [List.length_set, List.length_set]; exact r.len, fun j t e => ?_⟩
  by_cases z : j = i
  · subst z
    by_cases hl : j < ρ.length
    · rw [List.getElem?_set_self hl] at e
      cases e
      exact ⟨v, List.getElem?_set_self (by rw [← r.len]; exact hl), h⟩
    · rw [List.getElem?_eq_none (by rw [List.length_set]; omega)] at e
      cases e
  · rw [List.getElem?_set_ne (Ne.symm z)] at e ⊢
    exact r.slot j t e
/-- a new piece of data -/
theorem StOk.newD {K : PySem.W.Frag} {w : Om} {D H : Hp} {p : Addr} {o : HO} (s : StOk K w D H) (hp : H p = none) : StOk K w (upd D p o) (upd H p o) where
  dh := fun a u e => by
    by_cases z : a = p
    · subst z; rw [upd_same] at e ⊢; exact e
    · rw [upd_ne z] at e ⊢; exact s.dh a u e
  own := fun a u e => (s.own a u e).mono (fun b v q => by rw [upd_ne (ne_of_none q (s.freeD hp))]; exact q) fun v q => by rw [upd_ne (ne_of_none q hp)]; exact q
  sep := fun a u e hl => by
    have : a ≠ p := fun z => s.there e (by rw [z]; exact hp)
    rw [upd_ne this]; exact s.sep a u e hl
theorem Gr.newD {K : PySem.W.Frag} {w : Om} {D H : Hp} {p : Addr} {o : HO} (s : StOk K w D H) (hp : H p = none) : Gr w D H w (upd D p o) (upd H p o) where
  dd := fun b v q => by rw [upd_ne (ne_of_none q (s.freeD hp))]; exact q
  fr := fun a u e _ => by rw [upd_ne (ne_of_none e hp)]; exact e
  nw := fun _ _ h => h
  nd := fun a h _ d => by
    have : a ≠ p := fun z => h (by rw [z]; exact hp)
    rw [upd_ne this]; exact d
  dm := fun a h => by
    have : a ≠ p := fun z => h (by rw [z]; exact hp)
    rw [upd_ne this]; exact h
/-- a new object of the store -/
theorem StOk.newW {K : PySem.W.Frag} {w : Om} {D H : Hp} {p : Addr} {o : HO} {u : OO} (s : StOk K w D H) (hp : H p = none) (ok : OwnOk K D (upd H p o) p u) : StOk K (put w p u) D (upd H p o) where
  dh := fun a u e => by rw [upd_ne (ne_of_none (s.dh a u e) hp)]; exact s.dh a u e
  own := fun a v e => by
    by_cases z : a = p
    · subst z; rw [put_same] at e; cases e; exact ok
    · rw [put_ne z] at e
      exact (s.own a v e).mono (Same.refl D) fun x q => by rw [upd_ne z]; exact q
  sep := fun a v e hl => by
    by_cases z : a = p
    · subst z; exact s.freeD hp
    · rw [put_ne z] at e; exact s.sep a v e hl
theorem Gr.newW {K : PySem.W.Frag} {w : Om} {D H : Hp} {p : Addr} {o : HO} {u : OO} (s : StOk K w D H) (hp : H p = none) : Gr w D H (put w p u) D (upd H p o) where
  dd := Same.refl D
  fr := fun a u e _ => by rw [upd_ne (ne_of_none e hp)]; exact e
  nw := fun a h n => by
    have : a ≠ p := fun z => h (by rw [z]; exact hp)
    rw [put_ne this]; exact n
  nd := fun _ _ _ d => d
  dm := fun a h => by
    have : a ≠ p := fun z => h (by rw [z]; exact hp)
    rw [upd_ne this]; exact h
/-- an object of the store is changed -/
theorem StOk.write {K : PySem.W.Frag} {w : Om} {D H : Hp} {p : Addr} {o : HO} {u u' : OO} (s : StOk K w D H) (hw : w p = some u) (ok : OwnOk K D (upd H p o) p u') (hu : isLk u = false := by rfl) : StOk K (put w p u') D (upd H p o) where
  dh := fun a v e => by
    have : a ≠ p := fun z => by subst z; rw [s.sep a u hw hu] at e; cases e
    rw [upd_ne this]; exact s.dh a v e
  own := fun a v e => by
    by_cases z : a = p
    · subst z; rw [put_same] at e; cases e; exact ok
    · rw [put_ne z] at e
      exact (s.own a v e).mono (Same.refl D) fun x q => by rw [upd_ne z]; exact q
  sep := fun a v e hl => by
    by_cases z : a = p
    · subst z; exact s.sep a u hw hu
    · rw [put_ne z] at e; exact s.sep a v e hl
theorem Gr.write {w : Om} {D H : Hp} {p : Addr} {o : HO} {u u' : OO} (hw : w p = some u) : Gr w D H (put w p u') D (upd H p o) where
  dd := Same.refl D
  fr := fun a v e n => by
    have : a ≠ p := fun z => by subst z; rw [hw] at n; cases n
    rw [upd_ne this]; exact e
  nw := fun a h n => by
    have : a ≠ p := fun z => by subst z; rw [hw] at n; cases n
    rw [put_ne this]; exact n
  nd := fun _ _ _ d => d
  dm := fun a h => by
    by_cases z : a = p
    · subst z; rw [upd_same]; intro q; cases q
    · rw [upd_ne z]; exact h
/-- a list of the store becomes data -/
theorem StOk.freeze {K : PySem.W.Frag} {w : Om} {D H : Hp} {p : Addr} {o : HO} {u : OO} (s : StOk K w D H) (hw : w p = some u) (hp : H p = some o) (hu : isLk u = false := by rfl) : StOk K (del w p) (upd D p o) H where
  dh := fun a v e => by
    by_cases z : a = p
    · subst z; rw [upd_same] at e; cases e; exact hp
    · rw [upd_ne z] at e; exact s.dh a v e
  own := fun a v e => by
    by_cases z : a = p
    · subst z; rw [del_same] at e; cases e
    · rw [del_ne z] at e
      refine (s.own a v e).mono (fun b x q => ?_) fun x q => q
      have : b ≠ p := fun z => by subst z; rw [s.sep b u hw hu] at q; cases q
      rw [upd_ne this]; exact q
  sep := fun a v e hl => by
    by_cases z : a = p
    · subst z; rw [del_same] at e; cases e
    · rw [del_ne z] at e; rw [upd_ne z]; exact s.sep a v e hl
theorem Gr.freeze {K : PySem.W.Frag} {w : Om} {D H : Hp} {p : Addr} {o : HO} {u : OO} (s : StOk K w D H) (hw : w p = some u) (hu : isLk u = false := by rfl) : Gr w D H (del w p) (upd D p o) H where
  dd := fun b x q => by
    have : b ≠ p := fun z => by subst z; rw [s.sep b u hw hu] at q; cases q
    rw [upd_ne this]; exact q
  fr := fun _ _ e _ => e
  nw := fun a _ n => by
    by_cases z : a = p
    · subst z; exact del_same
    · rw [del_ne z]; exact n
  nd := fun a _ n d => by
    have : a ≠ p := fun z => by subst z; rw [hw] at n; cases n
    rw [upd_ne this]; exact d
  dm := fun _ h => h
theorem Gr.sub {w w' u : Om} {D H D' H' : Hp} (g : Gr w D H w' D' H') (h : Sub u w') : Gr w D H u D' H' :=
  ⟨g.dd, g.fr, fun a x n => (by
    have := g.nw a x n
    cases e : u a with
    | none => rfl
    | some o => rw [h a o e] at this; cases this), g.nd, g.dm⟩
end DL
set_option Elab.async false
set_option linter.all false
set_option maxRecDepth 100000
set_option maxHeartbeats 4000000
namespace DL
open PySem PySem.Spec PyProof.Rows L2
abbrev DQ := Sl → Om → Prop
abbrev DTE := DEnv → Om → DQ → Prop
abbrev DTT := DEnv → Om → (Bool → Om → Prop) → Prop
abbrev DTA := DEnv → Om → (List Sl → Om → Prop) → Prop
abbrev DTO := DEnv → Om → (Option Int → Om → Prop) → Prop
/-- what is wanted of an exception: the slots, its class, its fields (none: no dict of its own), the store -/
abbrev DX := DEnv → Addr → Option (List (Str × Sl)) → Om → Prop
def XR (K : PySem.W.Frag) (D H : Hp) (d : Option Addr) : Option (List (Str × Sl)) → Prop
  | none => d = none
  | some fs => ∃ a gs, d = some a ∧ H a = some (.xd gs) ∧ Paired (fun (p : Str × V) (q : Str × Sl) => p.1 = q.1 ∧ Vr K D p.2 q.2) gs fs
def XOk (K : PySem.W.Frag) (W : WX) (Z : DX) (w : Om) (D H : Hp) : Prop :=
  ∀ σ' ρ' C x w' D' H' d, Z ρ' C x w' → Gr w D H w' D' H' → Rp K σ' ρ' w' D' H' → XR K D' H' d x → W (.ref C) d σ' H'
theorem XOk.next {K : PySem.W.Frag} {W : WX} {Z : DX} {w w1 : Om} {D D1 H H1 : Hp} (x : XOk K W Z w D H) (g : Gr w D H w1 D1 H1) : XOk K W Z w1 D1 H1 :=
  fun σ' ρ' C e w' D' H' d z g' r q => x σ' ρ' C e w' D' H' d z (g.trans g') r q
/-- the end of an expression -/
def Fin (K : PySem.W.Frag) (w : Om) (D H : Hp) (R : DQ) (Q : VK) : Prop := ∀ s w' z D' H', R s w' → Gr w D H w' D' H' → StOk K w' D' H' → Vr K D' z s → Q z H'
section
variable {K : PySem.W.Frag} {w w1 : Om} {D D1 H H1 : Hp} {R : DQ} {Q : VK}
theorem Fin.v {s : Sl} {z : V} (f : Fin K w D H R Q) (st : StOk K w D H) (h : R s w) (r : Vr K D z s) : Q z H := f s w z D H h (Gr.refl _ _ _) st r
theorem Fin.d {d : PyData} {z : V} (f : Fin K w D H R Q) (st : StOk K w D H) (h : R (.dat d) w) (r : Dr K D z d) : Q z H := f (.dat d) w z D H h (Gr.refl _ _ _) st r
theorem Fin.nl {xs : List Sl} {vs : List V} (f : Fin K w D H R Q) (st : StOk K w D H) (h : ∀ p, w p = none → R (.adr p) (put w p (.lst xs))) (r : SlA K D vs xs) : ∀ p, H p = none → Q (.ref p) (upd H p (.lst vs)) := fun p hp =>
  f (.adr p) (put w p (.lst xs)) (.ref p) D (upd H p (.lst vs)) (h p (st.freeW hp)) (Gr.newW st hp) (st.newW hp ⟨vs, upd_same, r⟩) rfl
theorem Fin.nt {ds : List PyData} {vs : List V} (f : Fin K w D H R Q) (st : StOk K w D H) (h : R (.dat (.tuple ds)) w) (r : DrA K D vs ds) : ∀ p o, H p = none → o.dict = none → Q (.ref p) (upd H p (.frz o (.tup vs))) := fun p o hp h0 =>
  f (.dat (.tuple ds)) w (.ref p) (upd D p (.frz o (.tup vs))) (upd H p (.frz o (.tup vs))) h (Gr.newD st hp) (st.newD hp) (.tup (PlT.new h0) (r.mono (Gr.newD (o := .frz o (.tup vs)) st hp).dd))
theorem Fin.next (f : Fin K w D H R Q) (g : Gr w D H w1 D1 H1) : Fin K w1 D1 H1 R Q := fun s w' z D' H' h g' st r => f s w' z D' H' h (g.trans g') st r
end
def up (K : PySem.W.Frag) (W : WX) (Z : DX) (t : DTE) : TE := fun σ H Q => ∃ ρ w D R, Rp K σ ρ w D H ∧ XOk K W Z w D H ∧ t ρ w R ∧ Fin K w D H R Q
def upT (K : PySem.W.Frag) (W : WX) (Z : DX) (t : DTT) : TT := fun σ H Q => ∃ ρ w D R, Rp K σ ρ w D H ∧ XOk K W Z w D H ∧ t ρ w R ∧ ∀ b w' D' H', R b w' → Gr w D H w' D' H' → StOk K w' D' H' → Q b H'
def upA (K : PySem.W.Frag) (W : WX) (Z : DX) (t : DTA) : TA := fun σ H Q => ∃ ρ w D R, Rp K σ ρ w D H ∧ XOk K W Z w D H ∧ t ρ w R ∧ ∀ ss w' vs D' H', R ss w' → Gr w D H w' D' H' → StOk K w' D' H' → SlA K D' vs ss → Q vs H'
abbrev DE (X : Cx) (W : WX) (Z : DX) (e : Expr) (t : DTE) : Prop := PE X e (up X.K W Z t)
abbrev DT (X : Cx) (W : WX) (Z : DX) (e : Expr) (t : DTT) : Prop := PT X e (upT X.K W Z t)
abbrev DW (X : Cx) (W : WX) (Z : DX) (e : Expr) (t : DTT) : Prop := PW X e (upT X.K W Z t)
abbrev DA (X : Cx) (W : WX) (Z : DX) (es : List Expr) (t : DTA) : Prop := PA X es (upA X.K W Z t)
theorem pe_weak {X : Cx} {e : Expr} {t t' : TE} (h : PE X e t) (i : ∀ σ H Q, t' σ H Q → t σ H Q) : PE X e t' := ⟨fun pins s σ H Q I q => h.run pins s σ H Q I (i σ H Q q)⟩
theorem pt_weak {X : Cx} {e : Expr} {t t' : TT} (h : PT X e t) (i : ∀ σ H Q, t' σ H Q → t σ H Q) : PT X e t' := ⟨fun pins s σ H Q I q => h.run pins s σ H Q I (i σ H Q q)⟩
theorem pw_weak {X : Cx} {e : Expr} {t t' : TT} (h : PW X e t) (i : ∀ σ H Q, t' σ H Q → t σ H Q) : PW X e t' := ⟨fun whole pins s σ H Q I q => h.run whole pins s σ H Q I (i σ H Q q)⟩
theorem pa_weak {X : Cx} {e : List Expr} {t t' : TA} (h : PA X e t) (i : ∀ σ H Q, t' σ H Q → t σ H Q) : PA X e t' := ⟨fun p pins s σ H Q I q => h.run p pins s σ H Q I (i σ H Q q)⟩
section
variable {X : Cx} {W : WX} {Z : DX}
def dVar (i : Nat) : DTE := fun ρ w R => ∃ s, ρ[i]? = some (some s) ∧ R s w
def dC (d : PyData) : DTE := fun _ w R => R (.dat d) w
theorem dv (i : Nat) {x : Str} {pos : Pos} (hN : X.N[i]? = some x := by rfl) (hv : Vis X.env.scope x := by first | exact Or.inl rfl | exact Or.inr (Or.inl rfl) | exact Or.inr (Or.inr rfl)) (hd : (x == ("__debug__" : Str)) = false := by decide)
    (hcd : (x == ("__classdict__" : Str)) = false := by decide) : DE X W Z (.Name x pos) (dVar i) :=
  pe_weak (pe_var (i := i) hN hv hd hcd) fun σ H Q ⟨ρ, w, D, R, rp, _, ⟨s, hs, h⟩, f⟩ => by
    obtain ⟨v, h1, h2⟩ := rp.slot i s hs
    exact ⟨v, h1, f.v rp.st h h2⟩
theorem de_c {e : Expr} {v : V} {d : PyData} (h : PE X e (tC v)) (r : ∀ D, Dr X.K D v d) : DE X W Z e (dC d) :=
  pe_weak h fun σ H Q ⟨ρ, w, D, R, rp, _, h, f⟩ => f.d rp.st h (r D)
theorem de_int {i j pos} : DE X W Z (.Constant (.int i) j pos) (dC (.int i)) := de_c pe_int fun _ => .int i
theorem de_bl {b j pos} : DE X W Z (.Constant (.bool b) j pos) (dC (.bool b)) := de_c pe_bl fun _ => .bl b
theorem de_non {j pos} : DE X W Z (.Constant .none j pos) (dC .none) := de_c pe_non fun _ => .non
theorem de_str {x j pos} : DE X W Z (.Constant (.str x) j pos) (dC (.str x)) := de_c pe_str fun _ => .str x
inductive Ou where
  | v (s : Sl)
  | nl (xs : List Sl)
def ret : Ou → Om → DQ → Prop
  | .v s, w, R => R s w
  | .nl xs, w, R => xs.length ≤ sizeLine ∧ ∀ p, w p = none → R (.adr p) (put w p (.lst xs))
abbrev G2 := Om → Sl → Sl → Option Ou
def dOp (g : G2) (ta tb : DTE) : DTE := fun ρ w R => ta ρ w fun x w1 => tb ρ w1 fun y w2 => ∃ o, g w2 x y = some o ∧ ret o w2 R
def OpV (K : PySem.W.Frag) (r : R2) (g : G2) : Prop := ∀ x y v u w D H o R Q, StOk K w D H → Vr K D v x → Vr K D u y → g w x y = some o → ret o w R → Fin K w D H R Q → r v u H Q
variable {a b c : Expr} {ta tb tc : DTE} {pos : Pos}
theorem up_op {r : R2} {g : G2} (hv : OpV X.K r g) (σ : L2.St) (H : Hp) (Q : VK) (h : up X.K W Z (dOp g ta tb) σ H Q) : tOp r (up X.K W Z ta) (up X.K W Z tb) σ H Q := by
  obtain ⟨ρ, w, D, R, rp, xo, h, f⟩ := h
  refine ⟨ρ, w, D, _, rp, xo, h, fun x w1 v D1 H1 h1 g1 s1 rx => ?_⟩
  refine ⟨ρ, w1, D1, _, rp.next g1.dd s1, xo.next g1, h1, fun y w2 u D2 H2 h2 g2 s2 ry => ?_⟩
  obtain ⟨o, e, ho⟩ := h2
  exact hv x y v u w2 D2 H2 o R Q s2 (rx.mono g2.dd) ry e ho (f.next (g1.trans g2))
theorem de_op {op : Operator} {r : R2} {g : G2} (ho : OpR X (binaryOp op) r) (hv : OpV X.K r g) (ha : DE X W Z a ta) (hb : DE X W Z b tb) : DE X W Z (.BinOp a op b pos) (dOp g ta tb) :=
  pe_weak (pe_op ho ha hb) fun σ H Q h => up_op hv σ H Q h
theorem de_cmp {op : CmpOp} {r : R2} {g : G2} (ho : OpR X (compareOp op) r) (hv : OpV X.K r g) (ha : DE X W Z a ta) (hb : DE X W Z b tb) (hm : behindInMarks op b = false) : DE X W Z (.Compare a [op] [b] pos) (dOp g ta tb) :=
  pe_weak (pe_cmpR ho ha hb hm) fun σ H Q h => up_op hv σ H Q h
/-- a test by a value that is True or False -/
def dTst (t : DTE) : DTT := fun ρ w R => t ρ w fun s w' => ∃ k, s = .dat (.bool k) ∧ R k w'
theorem dr_bool {K : PySem.W.Frag} {D : Hp} {z : V} {k : Bool} (h : Dr K D z (.bool k)) : z = .bl k := by cases h; rfl
theorem dr_int {K : PySem.W.Frag} {D : Hp} {z : V} {k : Int} (h : Dr K D z (.int k)) : z = .int k := by cases h; rfl
theorem dr_str {K : PySem.W.Frag} {D : Hp} {z : V} {k : Str} (h : Dr K D z (.str k)) : z = .str k := by cases h; rfl
theorem fin_tst {K : PySem.W.Frag} {w : Om} {D H : Hp} {R Q : Bool → Om → Prop} {P : Bool → Hp → Prop} (f : ∀ b w' D' H', R b w' → Gr w D H w' D' H' → StOk K w' D' H' → P b H') :
    Fin K w D H (fun s w' => ∃ k, s = .dat (.bool k) ∧ R k w') (fun x H' => ∃ k, x = .bl k ∧ P k H') := fun s w' z D' H' h g st r => by
  obtain ⟨k, rfl, h⟩ := h
  exact ⟨k, dr_bool r, f k w' D' H' h g st⟩
theorem dt_cmp {op : CmpOp} {r : R2} {g : G2} (ho : OpR X (compareOp op) r) (hv : OpV X.K r g) (ha : DE X W Z a ta) (hb : DE X W Z b tb) (hm : behindInMarks op b = false) : DT X W Z (.Compare a [op] [b] pos) (dTst (dOp g ta tb)) :=
  pt_weak (pt_cmpR ho ha hb hm) fun σ H Q ⟨ρ, w, D, R, rp, xo, h, f⟩ => up_op hv σ H _ ⟨ρ, w, D, _, rp, xo, h, fin_tst (Q := fun _ _ => True) f⟩
theorem dt_val {e : Expr} {t : DTE} (h : DE X W Z e t) (he : ∀ whole, isTrue e X.env whole = (do let v ← whole; standAt e.pos; holding [v] (truthy v)) := by intro _; rfl) : DT X W Z e (dTst t) :=
  pt_weak (pt_val h he) fun σ H Q ⟨ρ, w, D, R, rp, xo, h, f⟩ => ⟨ρ, w, D, _, rp, xo, h, fin_tst (Q := fun _ _ => True) f⟩
def dOr (t u : DTT) : DTT := fun ρ w R => t ρ w fun k w1 => if k = true then R true w1 else u ρ w1 R
def dNot (t : DTT) : DTT := fun ρ w R => t ρ w fun k w1 => R (!k) w1
variable {t u : DTT} {rest : List Expr}
theorem up_or (σ : L2.St) (H : Hp) (Q : Bool → Hp → Prop) (h : upT X.K W Z (dOr t u) σ H Q) : tOr (upT X.K W Z t) (upT X.K W Z u) σ H Q := by
  obtain ⟨ρ, w, D, R, rp, xo, h, f⟩ := h
  refine ⟨ρ, w, D, _, rp, xo, h, fun k w1 D1 H1 h1 g1 s1 => ?_⟩
  cases k with
  | true =>
    rw [if_pos rfl] at h1 ⊢
    exact f true w1 D1 H1 h1 g1 s1
  | false =>
    rw [if_neg Bool.false_ne_true] at h1 ⊢
    exact ⟨ρ, w1, D1, R, rp.next g1.dd s1, xo.next g1, h1, fun b w' D' H' q g s => f b w' D' H' q (g1.trans g) s⟩
theorem dw_or1 (ha : DT X W Z a t) : DW X W Z (.BoolOp .Or [a] pos) t := pw_or1 ha
theorem dw_or (ha : DT X W Z a t) (hb : DW X W Z (.BoolOp .Or (b :: rest) pos) u) : DW X W Z (.BoolOp .Or (a :: b :: rest) pos) (dOr t u) := pw_weak (pw_or ha hb) up_or
theorem dt_w {e : Expr} (h : DW X W Z e t) : DT X W Z e t := PW.pt h
theorem dt_not (ha : DT X W Z a t) : DT X W Z (.UnaryOp .Not a pos) (dNot t) :=
  pt_weak (pt_not ha) fun σ H Q ⟨ρ, w, D, R, rp, xo, h, f⟩ => ⟨ρ, w, D, _, rp, xo, h, fun k w1 D1 H1 h1 g1 s1 => f _ w1 D1 H1 h1 g1 s1⟩
/-- the same as values (all but the last True or False) -/
def dAndV (ta tb : DTE) : DTE := fun ρ w R => ta ρ w fun s w1 => ∃ k, s = .dat (.bool k) ∧ if k = true then tb ρ w1 R else R (.dat (.bool false)) w1
theorem de_one {op} (h : DE X W Z a ta) : DE X W Z (.BoolOp op [a] pos) ta := pe_one h
theorem de_and (ha : DE X W Z a ta) (hb : DE X W Z (.BoolOp .And (b :: rest) pos) tb) : DE X W Z (.BoolOp .And (a :: b :: rest) pos) (dAndV ta tb) :=
  pe_weak (pe_and ha hb) fun σ H Q ⟨ρ, w, D, R, rp, xo, h, f⟩ => ⟨ρ, w, D, _, rp, xo, h, fun s w1 z D1 H1 h1 g1 s1 r1 => by
    obtain ⟨k, rfl, h1⟩ := h1
    refine ⟨k, dr_bool r1, ?_⟩
    cases k with
    | true => rw [if_pos rfl] at h1 ⊢; exact ⟨ρ, w1, D1, R, rp.next g1.dd s1, xo.next g1, h1, f.next g1⟩
    | false => rw [if_neg Bool.false_ne_true] at h1 ⊢; exact (f.next g1).d s1 h1 (.bl false)⟩
def dNil : DTA := fun _ w R => R [] w
def dCons (ta : DTE) (tr : DTA) : DTA := fun ρ w R => ta ρ w fun x w1 => tr ρ w1 fun xs w2 => R (x :: xs) w2
variable {es : List Expr} {tr : DTA}
theorem da_nil : DA X W Z [] dNil := pa_weak pa_nil fun σ H Q ⟨ρ, w, D, R, rp, xo, h, f⟩ => f [] w [] D H h (Gr.refl _ _ _) rp.st .nil
theorem da_cons (ha : DE X W Z a ta) (hr : DA X W Z es tr) (hs : starEach (a :: es) X.env = (false, eval a X.env) :: starEach es X.env := by rfl) : DA X W Z (a :: es) (dCons ta tr) :=
  pa_weak (pa_cons ha hr hs) fun σ H Q ⟨ρ, w, D, R, rp, xo, h, f⟩ => ⟨ρ, w, D, _, rp, xo, h, fun x w1 v D1 H1 h1 g1 s1 rx =>
    ⟨ρ, w1, D1, _, rp.next g1.dd s1, xo.next g1, h1, fun xs w2 vs D2 H2 h2 g2 s2 rs => f _ w2 _ D2 H2 h2 (g1.trans g2) s2 (.cons (rx.mono g2.dd) rs)⟩⟩
/-- a list of the store that is data through and through becomes data -/
def frz : Sl → Om → (PyData → Om → Prop) → Prop
  | .dat d, w, k => k d w
  | .adr a, w, k => ∃ ds : List PyData, w a = some (.lst (ds.map .dat)) ∧ k (.list ds) (del w a)
  | .scr _, _, _ => False
  | .wt _, _, _ => False
  | .wa _, _, _ => False
theorem frz_ok {K : PySem.W.Frag} {w : Om} {D H : Hp} {s : Sl} {z : V} {k : PyData → Om → Prop} (st : StOk K w D H) (r : Vr K D z s) (h : frz s w k) : ∃ d w' D', k d w' ∧ Gr w D H w' D' H ∧ StOk K w' D' H ∧ Dr K D' z d := by
  cases s with
  | dat d => exact ⟨d, w, D, h, Gr.refl _ _ _, st, r⟩
  | scr ns => exact h.elim
  | wt ns => exact h.elim
  | wa ns => exact h.elim
  | adr a =>
    obtain ⟨ds, hw, hk⟩ := h
    obtain ⟨vs, hH, hv⟩ := st.own a _ hw
    have r' : z = .ref a := r
    subst r'
    exact ⟨.list ds, del w a, upd D a (.lst vs), hk, Gr.freeze st hw, st.freeze hw hH, .lst upd_same ((SlA.dat hv).mono (Gr.freeze (o := .lst vs) (H := H) st hw).dd)⟩
/-- arguments that become data, from the left -/
def dDats (ta : DTE) (tr : DEnv → Om → (List PyData → Om → Prop) → Prop) : DEnv → Om → (List PyData → Om → Prop) → Prop := fun ρ w R => ta ρ w fun x w1 => frz x w1 fun d w1' => tr ρ w1' fun ds w2 => R (d :: ds) w2
def dNilD : DEnv → Om → (List PyData → Om → Prop) → Prop := fun _ w R => R [] w
def upD (K : PySem.W.Frag) (W : WX) (Z : DX) (t : DEnv → Om → (List PyData → Om → Prop) → Prop) : TA := fun σ H Q => ∃ ρ w D R, Rp K σ ρ w D H ∧ XOk K W Z w D H ∧ t ρ w R ∧ ∀ ds w' vs D' H', R ds w' → Gr w D H w' D' H' → StOk K w' D' H' → DrA K D' vs ds → Q vs H'
abbrev DD (X : Cx) (W : WX) (Z : DX) (es : List Expr) (t : DEnv → Om → (List PyData → Om → Prop) → Prop) : Prop := PA X es (upD X.K W Z t)
variable {td : DEnv → Om → (List PyData → Om → Prop) → Prop}
theorem dd_nil : DD X W Z [] dNilD := pa_weak pa_nil fun σ H Q ⟨ρ, w, D, R, rp, xo, h, f⟩ => f [] w [] D H h (Gr.refl _ _ _) rp.st .nil
theorem dd_cons (ha : DE X W Z a ta) (hr : DD X W Z es td) (hs : starEach (a :: es) X.env = (false, eval a X.env) :: starEach es X.env := by rfl) : DD X W Z (a :: es) (dDats ta td) :=
  pa_weak (pa_cons ha hr hs) fun σ H Q ⟨ρ, w, D, R, rp, xo, h, f⟩ => ⟨ρ, w, D, _, rp, xo, h, fun x w1 v D1 H1 h1 g1 s1 rx => by
    obtain ⟨d, w1', D1', hk, g1', s1', rd⟩ := frz_ok s1 rx h1
    have g := g1.trans g1'
    exact ⟨ρ, w1', D1', _, rp.next g.dd s1', xo.next g, hk, fun ds w2 vs D2 H2 h2 g2 s2 rs => f _ w2 _ D2 H2 h2 (g.trans g2) s2 (.cons (rd.mono g2.dd) rs)⟩⟩
def dTup (t : DEnv → Om → (List PyData → Om → Prop) → Prop) : DTE := fun ρ w R => t ρ w fun ds w1 => ds.length ≤ sizeLine ∧ R (.dat (.tuple ds)) w1
def tTupF (t : TA) : TE := fun σ H Q => t σ H fun xs H1 => xs.length ≤ sizeLine ∧ ∀ p o, H1 p = none → o.dict = none → Q (.ref p) (upd H1 p (.frz o (.tup xs)))
theorem pe_tupF {x1} {t : TA} (h : PA X es t) : PE X (.Tuple es x1 pos) (tTupF t) :=
  ⟨fun pins s σ H Q I hq => wpAny_Tuple_spliced (thn (h.run pos pins s σ H _ I hq) fun us s1 ⟨xs, H1, I1, r, z, q⟩ => ⟨by rw [← r.length]; exact z, .ref s1.heap.objs.size, _, inv_tup I1 r z, rfl, q _ _ (I1.hok.fresh (Nat.le_refl _)) rfl⟩)⟩
theorem de_tup {x1} (h : DD X W Z es td) : DE X W Z (.Tuple es x1 pos) (dTup td) :=
  pe_weak (pe_tupF h) fun σ H Q ⟨ρ, w, D, R, rp, xo, h, f⟩ => ⟨ρ, w, D, _, rp, xo, h, fun ds w1 vs D1 H1 h1 g1 s1 rs => ⟨by rw [rs.length]; exact h1.1, (f.next g1).nt s1 h1.2 rs⟩⟩
end
end DL
set_option Elab.async false
set_option linter.all false
set_option maxRecDepth 100000
set_option maxHeartbeats 4000000
namespace DL
open PySem PySem.Spec PyProof.Rows L2
section
variable {X : Cx} {W : WX} {Z : DX} {K : PySem.W.Frag}
variable {a b c : Expr} {ta tb tc : DTE} {pos : Pos} {es : List Expr} {tr : DTA} {td : DEnv → Om → (List PyData → Om → Prop) → Prop}
/-- a list display whose items become data -/
def dLstD (t : DEnv → Om → (List PyData → Om → Prop) → Prop) : DTE := fun ρ w R => t ρ w fun ds w1 => ds.length ≤ sizeLine ∧ ∀ p, w1 p = none → R (.adr p) (put w1 p (.lst (ds.map .dat)))
theorem de_lstD (h : DD X W Z es td) : DE X W Z (.List es pos) (dLstD td) :=
  pe_weak (pe_lst h) fun σ H Q ⟨ρ, w, D, R, rp, xo, h, f⟩ => ⟨ρ, w, D, _, rp, xo, h, fun ds w1 vs D1 H1 h1 g1 s1 rs => ⟨by rw [rs.length]; exact h1.1, (f.next g1).nl s1 h1.2 rs.sl⟩⟩
def sq (w : Om) : Sl → Option (List Sl)
  | .dat (.list ds) => some (ds.map .dat)
  | .dat (.tuple ds) => some (ds.map .dat)
  | .scr ns => some (ns.map fun i => .dat (.int i))
  | .wt ds => some (ds.map .dat)
  | .wa xs => some (xs.map wiS)
  | .adr a => match w a with | some (.lst xs) => some xs | _ => none
  | _ => none
/-- .. a list -/
def sqL (w : Om) : Sl → Option (List Sl)
  | .dat (.list ds) => some (ds.map .dat)
  | .adr a => match w a with | some (.lst xs) => some xs | _ => none
  | _ => none
theorem sq_adr {w : Om} {a : Addr} {xs : List Sl} (h : w a = some (.lst xs)) : sq w (.adr a) = some xs := by
  show (match w a with | some (.lst xs) => some xs | _ => none) = some xs
  rw [h]
theorem adr_inv {w : Om} {a : Addr} {xs : List Sl} (h : (match w a with | some (.lst xs) => some xs | _ => none) = some xs) : w a = some (.lst xs) := by
  cases e : w a with
  | none => rw [e] at h; cases h
  | some o =>
    rw [e] at h
    cases o with
    | lst ys => cases h; rfl
    | dic _ => cases h
    | ins _ _ => cases h
    | lkd _ => cases h
    | dtt _ => cases h
    | exc _ _ => cases h
    | xdc _ => cases h
theorem ints_sl {D : Hp} : ∀ (ns : List Int), SlA K D (ns.map V.int) (ns.map fun i => .dat (.int i))
  | [] => .nil
  | n :: r => .cons (Dr.int n) (ints_sl r)
theorem sqL_ok {w : Om} {D H : Hp} {s : Sl} {z : V} {xs : List Sl} (st : StOk K w D H) (r : Vr K D z s) (h : sqL w s = some xs) : ∃ p vs, z = .ref p ∧ H p = some (.lst vs) ∧ SlA K D vs xs := by
  cases s with
  | scr ns => cases h
  | wt ns => cases h
  | wa ns => cases h
  | adr p =>
    have hw := adr_inv h
    obtain ⟨vs, hH, hv⟩ := st.own p _ hw
    exact ⟨p, vs, r, hH, hv⟩
  | dat d =>
    cases d with
    | list ds =>
      cases h
      cases r with
      | lst hD hs => exact ⟨_, _, rfl, st.dh _ _ hD, hs.sl⟩
    | none => cases h
    | bool _ => cases h
    | int _ => cases h
    | str _ => cases h
    | tuple _ => cases h
    | dict _ => cases h
theorem sq_ok {w : Om} {D H : Hp} {s : Sl} {z : V} {xs : List Sl} (st : StOk K w D H) (r : Vr K D z s) (h : sq w s = some xs) : ∃ p vs, z = .ref p ∧ (SqL K H p vs ∨ SqT K H p vs) ∧ SlA K D vs xs := by
  cases s with
  | scr ns =>
    cases h
    obtain ⟨p, rfl, q⟩ := r
    exact ⟨p, _, rfl, .inl (Same.seq st.dh q), ints_sl ns⟩
  | wt ds =>
    cases h
    obtain ⟨p, vs, rfl, q, hv⟩ := r
    exact ⟨p, vs, rfl, .inr (sqT_mono st.dh q), hv.sl⟩
  | wa ds =>
    cases h
    obtain ⟨p, vs, rfl, q, hv⟩ := r
    exact ⟨p, vs, rfl, .inr (sqT_mono st.dh q), WiR.sl hv⟩
  | adr p =>
    have hw := adr_inv h
    obtain ⟨vs, hH, hv⟩ := st.own p _ hw
    exact ⟨p, vs, r, .inl (SqL.of hH), hv⟩
  | dat d =>
    cases d with
    | list ds =>
      cases h
      cases r with
      | lst hD hs => exact ⟨_, _, rfl, .inl (SqL.of (st.dh _ _ hD)), hs.sl⟩
    | tuple ds =>
      cases h
      cases r with
      | tup hD hs => exact ⟨_, _, rfl, .inr (sqT_mono st.dh hD.sq), hs.sl⟩
    | none => cases h
    | bool _ => cases h
    | int _ => cases h
    | str _ => cases h
    | dict _ => cases h
theorem tup_ok {w : Om} {D H : Hp} {z : V} {ds : List PyData} (st : StOk K w D H) (r : Dr K D z (.tuple ds)) : ∃ p vs, z = .ref p ∧ SqT K H p vs ∧ DrA K D vs ds := by
  cases r with
  | tup hD hs => exact ⟨_, _, rfl, sqT_mono st.dh hD.sq, hs⟩
theorem atI_map {α β : Type} (f : α → β) (xs : List α) (i : Int) : atI (xs.map f) i = (atI xs i).map f := by
  unfold atI
  rw [List.length_map]
  cases ixN xs.length i with
  | none => rfl
  | some j => simp
theorem atI_sl {D : Hp} {vs : List V} {xs : List Sl} {i : Int} {s : Sl} (h : SlA K D vs xs) (e : atI xs i = some s) : ∃ v, atI vs i = some v ∧ Vr K D v s := by
  unfold atI at e ⊢
  rw [Paired.length h]
  cases q : ixN xs.length i with
  | none => rw [q] at e; cases e
  | some j =>
    rw [q] at e
    obtain ⟨v, h1, h2⟩ := SlA.get h (i := j) (s := s) e
    exact ⟨v, h1, h2⟩
def ixS : G2 := fun w x y => match y with
  | .dat (.int i) => match x with
    | .dat (.str z) => if z.length ≤ sizeLine then (atI z.cps.toList i).map fun c => .v (.dat (.str ⟨#[c]⟩)) else none
    | x => (sq w x).bind fun xs => (atI xs i).map .v
  | _ => none
theorem ixS_tup {w : Om} {ds : List PyData} {i : Int} {d : PyData} (e : atI ds i = some d) : ixS w (.dat (.tuple ds)) (.dat (.int i)) = some (.v (.dat d)) := by
  show ((some (ds.map Sl.dat)).bind fun xs => (atI xs i).map Ou.v) = _
  show (atI (ds.map Sl.dat) i).map Ou.v = _
  rw [atI_map, e]; rfl
theorem ixS_list {w : Om} {ds : List PyData} {i : Int} {d : PyData} (e : atI ds i = some d) : ixS w (.dat (.list ds)) (.dat (.int i)) = some (.v (.dat d)) := by
  show (atI (ds.map Sl.dat) i).map Ou.v = _
  rw [atI_map, e]; rfl
theorem ixS_adr {w : Om} {a : Addr} {xs : List Sl} {i : Int} {s : Sl} (h : w a = some (.lst xs)) (e : atI xs i = some s) : ixS w (.adr a) (.dat (.int i)) = some (.v s) := by
  show ((sq w (.adr a)).bind fun xs => (atI xs i).map Ou.v) = _
  rw [sq_adr h]
  show (atI xs i).map Ou.v = _
  rw [e]; rfl
theorem ixS_scr {w : Om} {ns : List Int} {i : Int} {n : Int} (e : atI ns i = some n) : ixS w (.scr ns) (.dat (.int i)) = some (.v (.dat (.int n))) := by
  show (atI (ns.map fun i => Sl.dat (.int i)) i).map Ou.v = _
  rw [atI_map, e]; rfl
theorem ov_ix : OpV K (rIx K) ixS := fun x y v u w D H o R Q st rx ry e ho f => by
  unfold ixS at e
  cases y with
  | adr _ => cases e
  | scr _ => cases e
  | wt _ => cases e
  | wa _ => cases e
  | dat dy =>
    cases dy with
    | int i =>
      cases (show u = .int i from dr_int ry)
      have seqc : ((sq w x).bind fun xs => (atI xs i).map Ou.v) = some o → rIx K v (.int i) H Q := fun e => by
        cases q : sq w x with
        | none => rw [q] at e; cases e
        | some xs =>
          rw [q] at e
          cases q2 : atI xs i with
          | none => have e' : (atI xs i).map Ou.v = some o := e; rw [q2] at e'; cases e'
          | some s =>
            have e' : (atI xs i).map Ou.v = some o := e
            rw [q2] at e'
            cases e'
            obtain ⟨p, vs, rfl, hq, hv⟩ := sq_ok st rx q
            obtain ⟨z, h1, h2⟩ := atI_sl hv q2
            rcases hq with hq | hq
            · exact .inl ⟨p, vs, i, z, rfl, rfl, hq, h1, f.v st ho h2⟩
            · exact .inr (.inl ⟨p, vs, i, z, rfl, rfl, hq, h1, f.v st ho h2⟩)
      cases x with
      | adr p => exact seqc e
      | scr ns => exact seqc e
      | wt ns => exact seqc e
      | wa ns => exact seqc e
      | dat dx =>
        cases dx with
        | str z =>
          have e' : (if z.length ≤ sizeLine then (atI z.cps.toList i).map fun c => Ou.v (.dat (.str ⟨#[c]⟩)) else none) = some o := e
          by_cases hz : z.length ≤ sizeLine
          · rw [if_pos hz] at e'
            cases q : atI z.cps.toList i with
            | none => rw [q] at e'; cases e'
            | some c =>
              rw [q] at e'
              cases e'
              cases (show v = .str z from dr_str rx)
              exact .inr (.inr ⟨z, i, c, rfl, rfl, hz, q, f.d st ho (.str _)⟩)
          · rw [if_neg hz] at e'; cases e'
        | none => exact seqc e
        | bool _ => exact seqc e
        | int _ => exact seqc e
        | list _ => exact seqc e
        | tuple _ => exact seqc e
        | dict _ => exact seqc e
    | none => cases e
    | bool _ => cases e
    | str _ => cases e
    | list _ => cases e
    | tuple _ => cases e
    | dict _ => cases e
theorem de_ix (ha : DE X W Z a ta) (hb : DE X W Z b tb) (hs : PlainIx b) : DE X W Z (.Subscript a b pos) (dOp ixS ta tb) := pe_weak (pe_ix ix_seq ha hb hs) fun σ H Q h => up_op ov_ix σ H Q h
variable {lo hi : Option Expr} {tl th : DTO} {p2 : Pos}
def liftI (C : Int → Int → Bool) (g : Int → Int → PyData) : G2 := fun _ x y => match x, y with
  | .dat (.int i), .dat (.int j) => if C i j = true then some (.v (.dat (g i j))) else none
  | _, _ => none
theorem liftI_ok {C : Int → Int → Bool} {g : Int → Int → PyData} {w : Om} {i j : Int} (h : C i j = true) : liftI C g w (.dat (.int i)) (.dat (.int j)) = some (.v (.dat (g i j))) := by
  show (if C i j = true then some (Ou.v (.dat (g i j))) else none) = _
  rw [if_pos h]
theorem liftI_inv {C : Int → Int → Bool} {g : Int → Int → PyData} {w : Om} {x y : Sl} {o : Ou} (e : liftI C g w x y = some o) : ∃ i j, x = .dat (.int i) ∧ y = .dat (.int j) ∧ C i j = true ∧ o = .v (.dat (g i j)) := by
  unfold liftI at e
  split at e
  · rename_i i j
    by_cases h : C i j = true
    · rw [if_pos h] at e; cases e; exact ⟨i, j, rfl, rfl, h, rfl⟩
    · rw [if_neg h] at e; cases e
  · cases e
theorem ov_I {C : Int → Int → Prop} {C' : Int → Int → Bool} {g : Int → Int → V} {g' : Int → Int → PyData} (hC : ∀ i j, C' i j = true → C i j) (hg : ∀ i j D, Dr K D (g i j) (g' i j)) : OpV K (rI C g) (liftI C' g') := fun x y v u w D H o R Q st rx ry e ho f => by
  obtain ⟨i, j, rfl, rfl, hc, rfl⟩ := liftI_inv e
  exact ⟨i, j, dr_int rx, dr_int ry, hC i j hc, f.d st ho (hg i j D)⟩
theorem ov_I0 {g : Int → Int → V} {g' : Int → Int → PyData} (hg : ∀ i j D, Dr K D (g i j) (g' i j)) : OpV K (rI0 g) (liftI (fun _ _ => true) g') := fun x y v u w D H o R Q st rx ry e ho f => by
  obtain ⟨i, j, rfl, rfl, hc, rfl⟩ := liftI_inv e
  exact ⟨i, j, dr_int rx, dr_int ry, f.d st ho (hg i j D)⟩
abbrev gSub : G2 := liftI (fun _ _ => true) fun i j => .int (i - j)
def cMul (i j : Int) : Bool := decide (i.natAbs.log2 + j.natAbs.log2 < 1000000)
abbrev gMul : G2 := liftI cMul fun i j => .int (i * j)
def cDiv (_ j : Int) : Bool := decide (0 < j ∧ j.natAbs.log2 < 9000)
abbrev gDiv : G2 := liftI cDiv fun i j => .int (i / j)
abbrev gMod : G2 := liftI (fun _ j => decide (0 < j)) fun i j => .int (i % j)
def cPow (i j : Int) : Bool := decide (0 ≤ j ∧ (Builtin.Int.intBits i : Int) * j ≤ 2 ^ 27)
abbrev gPow : G2 := liftI cPow fun i j => .int (i ^ j.toNat)
theorem op_powW : OpR X (binaryOp .Pow) (rI (fun i j => 0 ≤ j ∧ (Builtin.Int.intBits i : Int) * j ≤ 2 ^ 27) fun i j => .int (i ^ j.toNat)) := opI fun _ _ _ _ _ _ _ hc q => pow_int hc.1 hc.2 q
theorem de_sub (ha : DE X W Z a ta) (hb : DE X W Z b tb) : DE X W Z (.BinOp a .Sub b pos) (dOp gSub ta tb) := de_op op_sub (ov_I0 fun i j _ => .int _) ha hb
theorem de_mul (ha : DE X W Z a ta) (hb : DE X W Z b tb) : DE X W Z (.BinOp a .Mult b pos) (dOp gMul ta tb) := de_op op_mulW (ov_I (C := CMulW) (C' := cMul) (fun i j h => show i.natAbs.log2 + j.natAbs.log2 < 1000000 from of_decide_eq_true h) fun i j _ => .int _) ha hb
theorem de_div (ha : DE X W Z a ta) (hb : DE X W Z b tb) : DE X W Z (.BinOp a .FloorDiv b pos) (dOp gDiv ta tb) := de_op op_fdivW (ov_I (C := CDivW) (C' := cDiv) (fun i j h => show 0 < j ∧ j.natAbs.log2 < 9000 from of_decide_eq_true h) fun i j _ => .int _) ha hb
theorem de_mod (ha : DE X W Z a ta) (hb : DE X W Z b tb) : DE X W Z (.BinOp a .Mod b pos) (dOp gMod ta tb) := de_op op_mod (ov_I (fun _ _ h => of_decide_eq_true h) fun i j _ => .int _) ha hb
theorem de_pow (ha : DE X W Z a ta) (hb : DE X W Z b tb) : DE X W Z (.BinOp a .Pow b pos) (dOp gPow ta tb) := de_op op_powW (ov_I (fun _ _ h => of_decide_eq_true h) fun i j _ => .int _) ha hb
def dNeg (te : DTE) : DTE := fun ρ w R => te ρ w fun x w1 => ∃ i, x = .dat (.int i) ∧ R (.dat (.int (-i))) w1
theorem de_neg (ha : DE X W Z a ta) : DE X W Z (.UnaryOp .USub a pos) (dNeg ta) :=
  pe_weak (pe_un un_neg ha) fun σ H Q ⟨ρ, w, D, R, rp, xo, h, f⟩ => ⟨ρ, w, D, _, rp, xo, h, fun x w1 v D1 H1 h1 g1 s1 rx => by
    obtain ⟨i, rfl, h1⟩ := h1
    exact ⟨i, dr_int rx, (f.next g1).d s1 h1 (.int _)⟩⟩
/-- + of ints, texts, lists, tuples -/
def addS : G2 := fun w x y => match x, y with
  | .dat (.int i), .dat (.int j) => some (.v (.dat (.int (i + j))))
  | .dat (.str i), .dat (.str j) => if i.length + j.length ≤ sizeLine then some (.v (.dat (.str (i ++ j)))) else none
  | .dat (.tuple i), .dat (.tuple j) => if i.length + j.length ≤ sizeLine then some (.v (.dat (.tuple (i ++ j)))) else none
  | x, y => (sqL w x).bind fun xs => (sqL w y).bind fun ys => some (.nl (xs ++ ys))
def rCatF (K : PySem.W.Frag) : R2 := fun x y H Q => ∃ a b xs ys, x = .ref a ∧ y = .ref b ∧ SqT K H a xs ∧ SqT K H b ys ∧ xs.length + ys.length ≤ sizeLine ∧
  (xs = [] → Q (.ref b) H) ∧ (xs ≠ [] → ys = [] → Q (.ref a) H) ∧ (xs ≠ [] → ys ≠ [] → ∀ p o, H p = none → o.dict = none → Q (.ref p) (upd H p (.frz o (.tup (xs ++ ys)))))
theorem op_catF : OpR X (binaryOp .Add) (rCatF X.K) := by
  intro pins s σ H x y v u Q I rx ry ⟨a, b, xs, ys, ex, ey, ha, hb, hz, q0, q1, q2⟩
  subst ex ey
  by_cases hx : xs = []
  · exact op_catA pins s σ H _ _ v u Q I rx ry ⟨a, b, xs, ys, rfl, rfl, ha, hb, hz, q0, fun h => absurd hx h, fun h => absurd hx h⟩
  · by_cases hy : ys = []
    · exact op_catA pins s σ H _ _ v u Q I rx ry ⟨a, b, xs, ys, rfl, rfl, ha, hb, hz, q0, q1, fun _ h => absurd hy h⟩
    · cases rx
      cases ry
      obtain ⟨us, r1, t1, _⟩ := I.tuple ha
      obtain ⟨ws, r2, t2, _⟩ := I.tuple hb
      have J := inv_tup I (r1.append r2) (by rw [List.length_append]; exact hz)
      exact HT.cat_tup t1 t2 (fun e => hx ((Vals.nil_iff r1).mp e)) (fun e => absurd ((Vals.nil_iff r2).mp e) hy) (fun _ => ⟨.ref s.heap.objs.size, _, J, rfl, q2 hx hy _ _ (I.hok.fresh (Nat.le_refl _)) rfl⟩) (by rw [← r1.length, ← r2.length]; exact hz)
def rAddAll (K : PySem.W.Frag) : R2 := fun x y H Q => (rI0 (fun i j => V.int (i + j)) x y H Q) ∨ (∃ i j, x = .str i ∧ y = .str j ∧ i.length + j.length ≤ sizeLine ∧ Q (.str (i ++ j)) H) ∨ rCat x y H Q ∨ rCatF K x y H Q
theorem op_addAll : OpR X (binaryOp .Add) (rAddAll X.K) := OpR.or op_add (OpR.or op_add_str (OpR.or op_cat op_catF))
theorem sum_length {D : Hp} {vs us : List V} {xs ys : List Sl} (h1 : SlA K D vs xs) (h2 : SlA K D us ys) : vs.length + us.length = (xs ++ ys).length := by rw [List.length_append, Paired.length h1, Paired.length h2]
theorem ov_add : OpV K (rAddAll K) addS := fun x y v u w D H o R Q st rx ry e ho f => by
  have lc : ((sqL w x).bind fun xs => (sqL w y).bind fun ys => some (Ou.nl (xs ++ ys))) = some o → rAddAll K v u H Q := fun e => by
    cases q1 : sqL w x with
    | none => rw [q1] at e; cases e
    | some xs =>
      rw [q1] at e
      cases q2 : sqL w y with
      | none => have e' : ((sqL w y).bind fun ys => some (Ou.nl (xs ++ ys))) = some o := e; rw [q2] at e'; cases e'
      | some ys =>
        have e' : ((sqL w y).bind fun ys => some (Ou.nl (xs ++ ys))) = some o := e
        rw [q2] at e'
        cases e'
        obtain ⟨p, vs, rfl, hp, hv⟩ := sqL_ok st rx q1
        obtain ⟨q, us, rfl, hq, hu⟩ := sqL_ok st ry q2
        have hz := ho.1
        exact .inr (.inr (.inl ⟨p, q, vs, us, rfl, rfl, hp, hq, by rw [sum_length hv hu]; exact hz, f.nl st ho.2 (SlA.append hv hu)⟩))
  unfold addS at e
  split at e
  · cases e
    exact .inl ⟨_, _, dr_int rx, dr_int ry, f.d st ho (.int _)⟩
  · rename_i i j
    by_cases hz : i.length + j.length ≤ sizeLine
    · rw [if_pos hz] at e
      cases e
      exact .inr (.inl ⟨_, _, dr_str rx, dr_str ry, hz, f.d st ho (.str _)⟩)
    · rw [if_neg hz] at e; cases e
  · rename_i i j
    by_cases hz : i.length + j.length ≤ sizeLine
    · rw [if_pos hz] at e
      cases e
      obtain ⟨p, vs, rfl, hp, hv⟩ := tup_ok st rx
      obtain ⟨q, us, rfl, hq, hu⟩ := tup_ok st ry
      have ho' : R (.dat (.tuple (i ++ j))) w := ho
      refine .inr (.inr (.inr ⟨p, q, vs, us, rfl, rfl, hp, hq, by rw [hv.length, hu.length]; exact hz, fun hx => ?_, fun _ hy => ?_, fun _ _ => f.nt st ho' (hv.append hu)⟩))
      · subst hx
        cases hv
        exact f.d st ho' ry
      · subst hy
        cases hu
        rw [List.append_nil] at ho'
        exact f.d st ho' rx
    · rw [if_neg hz] at e; cases e
  · exact lc e
theorem de_add (ha : DE X W Z a ta) (hb : DE X W Z b tb) : DE X W Z (.BinOp a .Add b pos) (dOp addS ta tb) := de_op op_addAll ov_add ha hb
def datOf : Sl → Option PyData
  | .dat d => some d
  | _ => none
def rs (w : Om) : Sl → Option PyData
  | .dat d => some d
  | .adr a => match w a with
    | some (.lst xs) => (xs.mapM datOf).map .list
    | _ => none
  | .scr _ => none
  | .wt _ => none
  | .wa _ => none
def plainEq : PyData → PyData → Option Bool
  | .int i, .int j => some (i == j)
  | .str i, .str j => some (i == j)
  | .bool i, .bool j => some (i == j)
  | d, e => if (SeqAt.shaped d && SeqAt.shaped e) = true then some (PyData.eqv d e) else none
def eqS (n : Bool) : G2 := fun w x y => (rs w x).bind fun d => (rs w y).bind fun e => (plainEq d e).map fun k => .v (.dat (.bool (k != n)))
def rEqAll (K : PySem.W.Frag) : R2 := fun x y H Q => rEq x y H Q ∨ rEqD K x y H Q
def rNeAll (K : PySem.W.Frag) : R2 := fun x y H Q => rNe x y H Q ∨ rNeD K x y H Q
theorem op_eqAll (hu : X.A.units + 64 < cLine) : OpR X (compareOp .Eq) (rEqAll X.K) := OpR.or op_eq (op_eqD hu)
theorem op_neAll (hu : X.A.units + 64 < cLine) : OpR X (compareOp .NotEq) (rNeAll X.K) := OpR.or op_ne (op_neD hu)
mutual
theorem Dr.dp {D H : Hp} (e : Same D H) : ∀ {v : V} {d : PyData}, Dr K D v d → d.canLay0 = true → Dp K H v d
  | _, _, .non, _ => .non
  | _, _, .bl b, _ => .bl b
  | _, _, .int i, _ => .int i
  | _, _, .str x, _ => .str x
  | _, _, .lst h hs, c => .lst (SqL.of (e _ _ h)) (DrA.dp e hs (by unfold PyData.canLay0 at c; exact c))
  | _, _, .tup h hs, c => .tup (sqT_mono e h.sq) (DrA.dp e hs (by unfold PyData.canLay0 at c; exact c))
  | _, _, .dct h, c => by unfold PyData.canLay0 at c; cases c
theorem DrA.dp {D H : Hp} (e : Same D H) : ∀ {vs : List V} {ds : List PyData}, DrA K D vs ds → PyData.canLayAll0 ds = true → DpAll K H vs ds
  | _, _, .nil, _ => .nil
  | _, _, .cons h hs, c => by
    unfold PyData.canLayAll0 at c
    rw [Bool.and_eq_true] at c
    exact .cons (Dr.dp e h c.1) (DrA.dp e hs c.2)
end
theorem mapM_dat : ∀ {xs : List Sl} {ds : List PyData}, xs.mapM datOf = some ds → xs = ds.map .dat := by
  intro xs
  induction xs with
  | nil => intro ds h; simp at h; subst h; rfl
  | cons x r ih =>
    intro ds h
    rw [List.mapM_cons] at h
    cases x with
    | adr _ => cases h
    | scr _ => cases h
    | wt _ => cases h
    | wa _ => cases h
    | dat d =>
      cases q : r.mapM datOf with
      | none => simp [q] at h
      | some es =>
        simp [q, datOf] at h
        subst h
        rw [ih q]
        rfl
/-- the data of a slot as it stands in the heap now -/
theorem rs_ok {w : Om} {D H : Hp} {s : Sl} {z : V} {d : PyData} (st : StOk K w D H) (r : Vr K D z s) (h : rs w s = some d) : ∃ D', Same D' H ∧ Dr K D' z d := by
  cases s with
  | dat e => cases h; exact ⟨D, st.dh, r⟩
  | scr _ => cases h
  | wt _ => cases h
  | wa _ => cases h
  | adr a =>
    have h' : (match w a with | some (.lst xs) => (xs.mapM datOf).map PyData.list | _ => none) = some d := h
    have h := h'
    cases e : w a with
    | none => rw [e] at h; cases h
    | some o =>
      rw [e] at h
      cases o with
      | dic _ => cases h
      | ins _ _ => cases h
      | lkd _ => cases h
      | dtt _ => cases h
      | exc _ _ => cases h
      | xdc _ => cases h
      | lst xs =>
        have h2 : (xs.mapM datOf).map PyData.list = some d := h
        cases q : xs.mapM datOf with
        | none => rw [q] at h2; cases h2
        | some ds =>
          rw [q] at h2
          cases h2
          have ex := mapM_dat q
          subst ex
          obtain ⟨vs, hH, hv⟩ := st.own a _ e
          have r' : z = .ref a := r
          subst r'
          exact ⟨upd D a (.lst vs), (st.freeze e hH).dh, .lst upd_same ((SlA.dat hv).mono (Gr.freeze (o := .lst vs) (H := H) st e).dd)⟩
theorem plainEq_ok {D D' H : Hp} {v u : V} {d e : PyData} {k : Bool} (s : Same D H) (s' : Same D' H) (r : Dr K D v d) (r' : Dr K D' u e) (h : plainEq d e = some k) :
    (scal v u = true ∧ decide (v = u) = k) ∨ (∃ d e, Dp K H v d ∧ Dp K H u e ∧ SeqAt.shaped d = true ∧ SeqAt.shaped e = true ∧ PyData.eqv d e = k) := by
  unfold plainEq at h
  split at h
  · cases h; cases r; cases r'; exact .inl ⟨rfl, by rw [dec_int]⟩
  · cases h; cases r; cases r'; exact .inl ⟨rfl, by rw [dec_str]⟩
  · cases h; cases r; cases r'; exact .inl ⟨rfl, by rw [dec_bl]⟩
  · by_cases c : (SeqAt.shaped d && SeqAt.shaped e) = true
    · rw [if_pos c] at h
      cases h
      rw [Bool.and_eq_true] at c
      exact .inr ⟨d, e, r.dp s (SeqAt.canLay_of_shaped c.1), r'.dp s' (SeqAt.canLay_of_shaped c.2), c.1, c.2, rfl⟩
    · rw [if_neg c] at h; cases h
theorem eqS_inv {n : Bool} {w : Om} {x y : Sl} {o : Ou} (e : eqS n w x y = some o) : ∃ d e k, rs w x = some d ∧ rs w y = some e ∧ plainEq d e = some k ∧ o = .v (.dat (.bool (k != n))) := by
  unfold eqS at e
  cases q1 : rs w x with
  | none => rw [q1] at e; cases e
  | some d =>
    rw [q1] at e
    have e1 : ((rs w y).bind fun e => (plainEq d e).map fun k => Ou.v (.dat (.bool (k != n)))) = some o := e
    cases q2 : rs w y with
    | none => rw [q2] at e1; cases e1
    | some d' =>
      rw [q2] at e1
      have e2 : ((plainEq d d').map fun k => Ou.v (.dat (.bool (k != n)))) = some o := e1
      cases q3 : plainEq d d' with
      | none => rw [q3] at e2; cases e2
      | some k =>
        rw [q3] at e2
        cases e2
        exact ⟨d, d', k, rfl, rfl, q3, rfl⟩
theorem eqS_ok {n : Bool} {w : Om} {x y : Sl} {d e : PyData} {k : Bool} (h1 : rs w x = some d) (h2 : rs w y = some e) (h3 : plainEq d e = some k) : eqS n w x y = some (.v (.dat (.bool (k != n)))) := by
  unfold eqS
  rw [h1]
  show ((rs w y).bind fun e => (plainEq d e).map fun k => Ou.v (.dat (.bool (k != n)))) = _
  rw [h2]
  show ((plainEq d e).map fun k => Ou.v (.dat (.bool (k != n)))) = _
  rw [h3]; rfl
theorem ov_eq : OpV K (rEqAll K) (eqS false) := fun x y v u w D H o R Q st rx ry e ho f => by
  obtain ⟨d, e, k, q1, q2, q3, rfl⟩ := eqS_inv e
  obtain ⟨D1, s1, r1⟩ := rs_ok st rx q1
  obtain ⟨D2, s2, r2⟩ := rs_ok st ry q2
  have ho' : R (.dat (.bool (k != false))) w := ho
  rw [Bool.bne_false] at ho'
  rcases plainEq_ok s1 s2 r1 r2 q3 with ⟨h1, h2⟩ | ⟨d, e, h1, h2, h3, h4, h5⟩
  · refine .inl ⟨h1, ?_⟩; rw [h2]; exact f.d st ho' (.bl k)
  · refine .inr ⟨d, e, h1, h2, h3, h4, ?_⟩; rw [h5]; exact f.d st ho' (.bl k)
theorem ov_ne : OpV K (rNeAll K) (eqS true) := fun x y v u w D H o R Q st rx ry e ho f => by
  obtain ⟨d, e, k, q1, q2, q3, rfl⟩ := eqS_inv e
  obtain ⟨D1, s1, r1⟩ := rs_ok st rx q1
  obtain ⟨D2, s2, r2⟩ := rs_ok st ry q2
  have ho' : R (.dat (.bool (k != true))) w := ho
  rw [Bool.bne_true] at ho'
  rcases plainEq_ok s1 s2 r1 r2 q3 with ⟨h1, h2⟩ | ⟨d, e, h1, h2, h3, h4, h5⟩
  · refine .inl ⟨h1, ?_⟩; rw [h2]; exact f.d st ho' (.bl _)
  · refine .inr ⟨d, e, h1, h2, h3, h4, ?_⟩; rw [h5]; exact f.d st ho' (.bl _)
theorem de_eq (hu : X.A.units + 64 < cLine) (ha : DE X W Z a ta) (hb : DE X W Z b tb) : DE X W Z (.Compare a [.Eq] [b] pos) (dOp (eqS false) ta tb) := de_cmp (op_eqAll hu) ov_eq ha hb (nomark _)
theorem dt_eq (hu : X.A.units + 64 < cLine) (ha : DE X W Z a ta) (hb : DE X W Z b tb) : DT X W Z (.Compare a [.Eq] [b] pos) (dTst (dOp (eqS false) ta tb)) := dt_cmp (op_eqAll hu) ov_eq ha hb (nomark _)
theorem dt_ne (hu : X.A.units + 64 < cLine) (ha : DE X W Z a ta) (hb : DE X W Z b tb) : DT X W Z (.Compare a [.NotEq] [b] pos) (dTst (dOp (eqS true) ta tb)) := dt_cmp (op_neAll hu) ov_ne ha hb (nomark _)
end
end DL
set_option Elab.async false
set_option linter.all false
set_option maxRecDepth 100000
set_option maxHeartbeats 4000000
namespace DL
open PySem PySem.Spec PyProof.Rows L2
structure DEnds where
  nx : DEnv → Om → Prop
  rt : DQ
  bk : DEnv → Om → Prop := fun _ _ => False
  ct : DEnv → Om → Prop := fun _ _ => False
abbrev DTS := DEnds → DEnv → Om → Prop
def NxOk (K : PySem.W.Frag) (w : Om) (D H : Hp) (f : DEnv → Om → Prop) (q : L2.St → Hp → Prop) : Prop := ∀ ρ' w' σ' D' H', f ρ' w' → Gr w D H w' D' H' → Rp K σ' ρ' w' D' H' → q σ' H'
theorem NxOk.next {K : PySem.W.Frag} {w w1 : Om} {D D1 H H1 : Hp} {f : DEnv → Om → Prop} {q : L2.St → Hp → Prop} (n : NxOk K w D H f q) (g : Gr w D H w1 D1 H1) : NxOk K w1 D1 H1 f q := fun ρ' w' σ' D' H' h g' r => n ρ' w' σ' D' H' h (g.trans g') r
structure EndsOk (K : PySem.W.Frag) (w : Om) (D H : Hp) (F : DEnds) (E : Ends) : Prop where
  nx : NxOk K w D H F.nx E.nx
  rt : Fin K w D H F.rt E.rt
  bk : NxOk K w D H F.bk E.bk
  ct : NxOk K w D H F.ct E.ct
theorem EndsOk.next {K : PySem.W.Frag} {w w1 : Om} {D D1 H H1 : Hp} {F : DEnds} {E : Ends} (e : EndsOk K w D H F E) (g : Gr w D H w1 D1 H1) : EndsOk K w1 D1 H1 F E := ⟨e.nx.next g, e.rt.next g, e.bk.next g, e.ct.next g⟩
def ups (K : PySem.W.Frag) (W : WX) (Z : DX) (t : DTS) : TS := fun E σ H => ∃ ρ w D F, Rp K σ ρ w D H ∧ XOk K W Z w D H ∧ t F ρ w ∧ EndsOk K w D H F E
abbrev DS (X : Cx) (W : WX) (Z : DX) (st : Stmt) (t : DTS) : Prop := PS X st (ups X.K W Z t)
abbrev DB (X : Cx) (W : WX) (Z : DX) (sts : List Stmt) (t : DTS) : Prop := PSs X sts (ups X.K W Z t)
theorem ps_weak {X : Cx} {st : Stmt} {t t' : TS} (h : PS X st t) (i : ∀ E σ H, t' E σ H → t E σ H) : PS X st t' := ⟨fun pins s σ H D I q => h.run pins s σ H D I (i D σ H q)⟩
theorem pss_weak {X : Cx} {st : List Stmt} {t t' : TS} (h : PSs X st t) (i : ∀ E σ H, t' E σ H → t E σ H) : PSs X st t' := ⟨fun pins s σ H D I q => h.run pins s σ H D I (i D σ H q)⟩
theorem pg_weak {X : Cx} {e : Expr} {t t' : TG} (h : PG X e t) (i : ∀ v σ H Q, t' v σ H Q → t v σ H Q) : PG X e t' := ⟨fun pins s σ H v u Q I r q => h.run pins s σ H v u Q I r (i v σ H Q q)⟩
theorem pgs_weak {X : Cx} {e : List Expr} {t t' : TGs} (h : PGs X e t) (i : ∀ v σ H Q, t' v σ H Q → t v σ H Q) : PGs X e t' := ⟨fun pins s σ H v u Q I r q => h.run pins s σ H v u Q I r (i v σ H Q q)⟩
theorem pg_or {X : Cx} {e : Expr} {t t' : TG} (h : PG X e t) (h' : PG X e t') : PG X e (fun v σ H Q => t v σ H Q ∨ t' v σ H Q) := ⟨fun pins s σ H v u Q I r q => q.elim (fun q => h.run pins s σ H v u Q I r q) (fun q => h'.run pins s σ H v u Q I r q)⟩
section
variable {X : Cx} {W : WX} {Z : DX} {K : PySem.W.Frag} {a b c e : Expr} {ta tb te : DTE} {pos : Pos} {st : Stmt} {sts : List Stmt} {t u : DTS}
def dNext : DTS := fun F ρ w => F.nx ρ w
def dSeq (t u : DTS) : DTS := fun F ρ w => t { F with nx := u F } ρ w
theorem ds_nil : DB X W Z [] dNext := pss_weak pss_nil fun E σ H ⟨ρ, w, D, F, rp, xo, h, eo⟩ => eo.nx ρ w σ D H h (Gr.refl _ _ _) rp
theorem ds_one (h1 : DS X W Z st t) : DB X W Z [st] t := pss_one h1
theorem ds_cons (h1 : DS X W Z st t) (h2 : DB X W Z sts u) : DB X W Z (st :: sts) (dSeq t u) :=
  pss_weak (pss_cons h1 h2) fun E σ H ⟨ρ, w, D, F, rp, xo, h, eo⟩ => ⟨ρ, w, D, { F with nx := u F }, rp, xo, h, fun ρ' w' σ' D' H' hu g r => ⟨ρ', w', D', F, r, xo.next g, hu, eo.next g⟩, eo.rt, eo.bk, eo.ct⟩
def dDrop (te : DTE) : DTS := fun F ρ w => te ρ w fun _ w1 => F.nx ρ w1
theorem ds_expr (he : DE X W Z e te) (hs : swapsWith e none pos.line X.env = pure false := by rfl) : DS X W Z (.Expr e pos) (dDrop te) :=
  ps_weak (ps_expr he hs) fun E σ H ⟨ρ, w, D, F, rp, xo, h, eo⟩ => ⟨ρ, w, D, _, rp, xo, h, fun s w1 v D1 H1 h1 g1 s1 _ => eo.nx ρ w1 σ D1 H1 h1 g1 (rp.next g1.dd s1)⟩
def dRet (te : DTE) : DTS := fun F ρ w => te ρ w F.rt
theorem ds_ret (he : DE X W Z e te) : DS X W Z (.Return (some e) pos) (dRet te) := ps_weak (ps_ret he) fun E σ H ⟨ρ, w, D, F, rp, xo, h, eo⟩ => ⟨ρ, w, D, _, rp, xo, h, eo.rt⟩
def dIfS (c : DTT) (t u : DTS) : DTS := fun F ρ w => c ρ w fun k w1 => if k = true then t F ρ w1 else u F ρ w1
theorem ds_if {sa sb : List Stmt} {tc : DTT} (hc : DT X W Z c tc) (ha : DB X W Z sa t) (hb : DB X W Z sb u) : DS X W Z (.If c sa sb pos) (dIfS tc t u) :=
  ps_weak (ps_if hc ha hb) fun E σ H ⟨ρ, w, D, F, rp, xo, h, eo⟩ => ⟨ρ, w, D, _, rp, xo, h, fun k w1 D1 H1 h1 g1 s1 => by
    cases k with
    | true => rw [if_pos rfl] at h1 ⊢; exact ⟨ρ, w1, D1, F, rp.next g1.dd s1, xo.next g1, h1, eo.next g1⟩
    | false => rw [if_neg Bool.false_ne_true] at h1 ⊢; exact ⟨ρ, w1, D1, F, rp.next g1.dd s1, xo.next g1, h1, eo.next g1⟩⟩
abbrev DTG := Sl → DEnv → Om → (DEnv → Om → Prop) → Prop
abbrev DTGs := List Sl → DEnv → Om → (DEnv → Om → Prop) → Prop
def upG (K : PySem.W.Frag) (W : WX) (Z : DX) (g : DTG) : TG := fun v σ H Q => ∃ s ρ w D R, Rp K σ ρ w D H ∧ XOk K W Z w D H ∧ Vr K D v s ∧ g s ρ w R ∧ NxOk K w D H R Q
def upGs (K : PySem.W.Frag) (W : WX) (Z : DX) (g : DTGs) : TGs := fun vs σ H Q => ∃ ss ρ w D R, Rp K σ ρ w D H ∧ XOk K W Z w D H ∧ SlA K D vs ss ∧ g ss ρ w R ∧ NxOk K w D H R Q
abbrev DG (X : Cx) (W : WX) (Z : DX) (e : Expr) (g : DTG) : Prop := PG X e (upG X.K W Z g)
abbrev DGs (X : Cx) (W : WX) (Z : DX) (es : List Expr) (g : DTGs) : Prop := PGs X es (upGs X.K W Z g)
def dName (i : Nat) : DTG := fun s ρ w R => R (ρ.set i (some s)) w
theorem dg_name {i : Nat} {x : Str} (hN : X.N.Nodup) (hi : X.N[i]? = some x) (hx : Loc X.env.scope x) (hf : X.fn x = true ∨ X.env.scope.names.lookup x = some .local := by first | exact .inl rfl | exact .inr rfl | assumption) : DG X W Z (.Name x pos) (dName i) :=
  pg_weak (pg_name hN hi hx hf) fun v σ H Q ⟨s, ρ, w, D, R, rp, xo, r, h, n⟩ => n _ w _ D H h (Gr.refl _ _ _) (rp.set i r)
def dGNil : DTGs := fun ss ρ w R => ss = [] ∧ R ρ w
def dGCons (t : DTG) (u : DTGs) : DTGs := fun ss ρ w R => ∃ s r, ss = s :: r ∧ t s ρ w fun ρ' w' => u r ρ' w' R
theorem dgs_nil : DGs X W Z [] dGNil := pgs_weak pgs_nil fun vs σ H Q ⟨ss, ρ, w, D, R, rp, xo, r, ⟨h0, h⟩, n⟩ => by
  subst h0
  cases r
  exact ⟨rfl, n ρ w σ D H h (Gr.refl _ _ _) rp⟩
variable {es : List Expr} {tg : DTG} {tgs : DTGs}
theorem dgs_cons (h1 : DG X W Z e tg) (h2 : DGs X W Z es tgs) (hs : (assignEach (e :: es) X.env).map (·.2) = assign e X.env :: (assignEach es X.env).map (·.2) := by rfl) : DGs X W Z (e :: es) (dGCons tg tgs) :=
  pgs_weak (pgs_cons h1 h2 hs) fun vs σ H Q ⟨ss, ρ, w, D, R, rp, xo, r, h, n⟩ => by
    obtain ⟨s, sr, rfl, h⟩ := h
    cases r with
    | cons r0 rr =>
      exact ⟨_, _, rfl, s, ρ, w, D, _, rp, xo, r0, h, fun ρ1 w1 σ1 D1 H1 h1 g1 r1 => ⟨sr, ρ1, w1, D1, R, r1, xo.next g1, SlA.mono g1.dd rr, h1, n.next g1⟩⟩
/-- (a, b, ..) = a list or a tuple of that length -/
def dGTup (n : Nat) (t : DTGs) : DTG := fun s ρ w R => ∃ xs, sq w s = some xs ∧ xs.length = n ∧ t xs ρ w R
theorem dg_tup {k n : Nat} (hc : X.calm = true) (h : DGs X W Z es tgs) (hn : (assignEach es X.env).length = n := by rfl) (hst : (assignEach es X.env).findIdx? (·.1) = none := by rfl) : DG X W Z (.Tuple es k pos) (dGTup n tgs) :=
  pg_weak (pg_or (pg_lst hc h hn hst) (pg_tup hc h hn hst)) fun v σ H Q ⟨s, ρ, w, D, R, rp, xo, r, ⟨xs, e, hl, h⟩, n⟩ => by
    obtain ⟨p, vs, rfl, hq, hv⟩ := sq_ok rp.st r e
    have hlen : vs.length = _ := (Paired.length hv).trans hl
    rcases hq with hq | hq
    · exact .inl ⟨p, vs, rfl, hq, hlen, xs, ρ, w, D, R, rp, xo, hv, h, n⟩
    · exact .inr ⟨p, vs, rfl, hq, hlen, xs, ρ, w, D, R, rp, xo, hv, h, n⟩
def dAsg (te : DTE) (g : DTG) : DTS := fun F ρ w => te ρ w fun s w1 => g s ρ w1 F.nx
theorem ds_asg {tgt : Expr} (he : DE X W Z e te) (hg : DG X W Z tgt tg) (hs : swapsWithSole [tgt] e pos.line X.env = pure false := by rfl) (hw : swappedStores [tgt] e X.env = pure none := by rfl) (h1 : (assignEach [tgt] X.env).map (·.2) = [assign tgt X.env] := by rfl) : DS X W Z (.Assign [tgt] e pos) (dAsg te tg) :=
  ps_weak (ps_asg he hg hs hw h1) fun E σ H ⟨ρ, w, D, F, rp, xo, h, eo⟩ => ⟨ρ, w, D, _, rp, xo, h, fun s w1 v D1 H1 h1 g1 s1 r1 => ⟨s, ρ, w1, D1, F.nx, rp.next g1.dd s1, xo.next g1, r1, h1, eo.nx.next g1⟩⟩
theorem ds_set {i : Nat} {x : Str} {pos' : Pos} (hN : X.N.Nodup) (hi : X.N[i]? = some x) (hx : Loc X.env.scope x) (he : DE X W Z e te) (hs : swapsWith e (some (.Name x pos')) pos.line X.env = pure false := by rfl) (hf : X.fn x = true ∨ X.env.scope.names.lookup x = some .local := by first | exact .inl rfl | exact .inr rfl | assumption) :
    DS X W Z (.Assign [.Name x pos'] e pos) (dAsg te (dName i)) :=
  ps_weak (ps_set hN hi hx he hs hf) fun E σ H ⟨ρ, w, D, F, rp, xo, h, eo⟩ => ⟨ρ, w, D, _, rp, xo, h, fun s w1 v D1 H1 h1 g1 s1 r1 => eo.nx _ w1 _ D1 H1 h1 g1 ((rp.next g1.dd s1).set i r1)⟩
/-- o[i] = e, of a list of the store -/
def dSetL (to ti : DTE) : DTG := fun s ρ w R => to ρ w fun o w1 => ti ρ w1 fun i w2 => ∃ p xs k j, o = .adr p ∧ i = .dat (.int k) ∧ w2 p = some (.lst xs) ∧ ixN xs.length k = some j ∧ R ρ (put w2 p (.lst (xs.set j s)))
theorem dg_sub (ho : DE X W Z a ta) (hi : DE X W Z b tb)
    (hh : ∀ v, assign (.Subscript a b pos) X.env v = (do
      let ov ← holding [v] (eval a X.env)
      let iv ← holding [v, ov] (eval b X.env)
      standAt pos
      holding [v, ov, iv] (setItem ov iv v)
      release [v, ov, iv] []) := by intro _; rfl) : DG X W Z (.Subscript a b pos) (dSetL ta tb) :=
  pg_weak (pg_sub ho hi set_list hh) fun v σ H Q ⟨s, ρ, w, D, R, rp, xo, r, h, n⟩ => ⟨ρ, w, D, _, rp, xo, h, fun o w1 z1 D1 H1 h1 g1 s1 r1 => ⟨ρ, w1, D1, _, rp.next g1.dd s1, xo.next g1, h1, fun i w2 z2 D2 H2 h2 g2 s2 r2 => by
    obtain ⟨p, xs, k, j, rfl, rfl, hw, hj, hR⟩ := h2
    obtain ⟨vs, hH, hv⟩ := s2.own p _ hw
    have r1' : z1 = .ref p := r1
    have rv := r.mono (g1.trans g2).dd
    refine ⟨p, vs, k, j, r1', dr_int r2, hH, by rw [Paired.length hv]; exact hj, ?_⟩
    have g3 : Gr w2 D2 H2 (put w2 p (.lst (xs.set j s))) D2 (upd H2 p (.lst (vs.set j v))) := Gr.write hw
    have s3 := s2.write (o := .lst (vs.set j v)) (u' := .lst (xs.set j s)) hw ⟨_, upd_same, SlA.set rv j hv⟩
    have g := (g1.trans g2).trans g3
    exact n ρ _ σ D2 _ hR g (rp.next g.dd s3)⟩⟩
end
end DL
set_option Elab.async false
set_option linter.all false
set_option maxRecDepth 100000
set_option maxHeartbeats 4000000
namespace DL
open PySem PySem.Spec PyProof.Rows L2
section
variable {X : Cx} {W : WX} {Z : DX} {K : PySem.W.Frag} {a b c e : Expr} {ta tb te : DTE} {pos : Pos} {st : Stmt} {sts : List Stmt} {t u : DTS} {es : List Expr} {tr : DTA} {tg : DTG} {tgs : DTGs}
def dFz (te : DTE) : DTE := fun ρ w R => te ρ w fun s w1 => frz s w1 fun d w2 => R (.dat d) w2
theorem de_fz (h : DE X W Z e te) : DE X W Z e (dFz te) := pe_weak h fun σ H Q ⟨ρ, w, D, R, rp, xo, h, f⟩ => ⟨ρ, w, D, _, rp, xo, h, fun s w1 z D1 H1 h1 g1 s1 r1 => by
  obtain ⟨d, w', D', hk, g', s', rd⟩ := frz_ok s1 r1 h1
  exact ((f.next g1).next g').d s' hk rd⟩
/-- what stands neither in the store nor among the data may change -/
theorem StOk.junk {w : Om} {D H : Hp} {p : Addr} {o : HO} (s : StOk K w D H) (hw : w p = none) (hd : D p = none) : StOk K w D (upd H p o) where
  dh := fun a u q => by rw [upd_ne (fun z => by rw [z, hd] at q; cases q)]; exact s.dh a u q
  own := fun a u q => (s.own a u q).mono (Same.refl D) fun x r => by rw [upd_ne (fun z => by rw [z, hw] at q; cases q)]; exact r
  sep := s.sep
theorem Gr.junk {w w' : Om} {D H D' H' : Hp} {p : Addr} {o : HO} (g : Gr w D H w' D' H') (hp : H p = none) : Gr w D H w' D' (upd H' p o) where
  dd := g.dd
  fr := fun a u q n => by rw [upd_ne (ne_of_none q hp)]; exact g.fr a u q n
  nw := g.nw
  nd := g.nd
  dm := fun a q => by
    by_cases z : a = p
    · subst z; rw [upd_same]; intro y; cases y
    · rw [upd_ne z]; exact g.dm a q
abbrev GN := Om → List Sl → Option Ou
def dCB (g : GN) (ta : DTA) : DTE := fun ρ w R => ta ρ w fun ss w1 => ∃ o, g w1 ss = some o ∧ ret o w1 R
def CV (K : PySem.W.Frag) (r : List V → Hp → VK → Prop) (g : GN) : Prop := ∀ ss vs w D H o R Q, StOk K w D H → SlA K D vs ss → g w ss = some o → ret o w R → Fin K w D H R Q → r vs H Q
theorem up_cb {r : List V → Hp → VK → Prop} {g : GN} (hv : CV X.K r g) (σ : L2.St) (H : Hp) (Q : VK) (h : up X.K W Z (dCB g tr) σ H Q) : tCB r (upA X.K W Z tr) σ H Q := by
  obtain ⟨ρ, w, D, R, rp, xo, h, f⟩ := h
  refine ⟨ρ, w, D, _, rp, xo, h, fun ss w1 vs D1 H1 h1 g1 s1 rs => ?_⟩
  obtain ⟨o, e, ho⟩ := h1
  exact hv ss vs w1 D1 H1 o R Q s1 rs e ho (f.next g1)
variable {x : Str} {p : Pos} {idn T : String}
theorem de_callB {r : List V → Hp → VK → Prop} {g : GN} (hc : CallR X (.builtin idn) r) (hv : CV X.K r g) (hg : Gl X x) (hm : X.mg x = none) (hb : bootBuiltins x = some (.builtin idn)) (ha : DA X W Z (e :: es) tr) (hn : x ≠ "__name__" := by decide) (hdb : (x == ("__debug__" : Str)) = false := by decide)
    (hs : starEach (e :: es) X.env = (false, eval e X.env) :: starEach es X.env := by rfl) (hpl : (backTo pos (starEach es X.env)).any (·.1) = false := by rfl) : DE X W Z (.Call (.Name x p) (e :: es) [] pos) (dCB g tr) :=
  pe_weak (pe_callB hc hg hm hb ha hn hdb hs hpl) fun σ H Q h => up_cb hv σ H Q h
theorem sla1 {D : Hp} {vs : List V} {s : Sl} (h : SlA K D vs [s]) : ∃ v, vs = [v] ∧ Vr K D v s := by
  cases h with
  | cons r t => cases t; exact ⟨_, rfl, r⟩
theorem sla2 {D : Hp} {vs : List V} {s s' : Sl} (h : SlA K D vs [s, s']) : ∃ v v', vs = [v, v'] ∧ Vr K D v s ∧ Vr K D v' s' := by
  cases h with
  | cons r t =>
    obtain ⟨v, rfl, r'⟩ := sla1 t
    exact ⟨_, v, rfl, r, r'⟩
/-- len -/
def lenS : GN := fun w ss => match ss with
  | [.dat (.str z)] => if z.length ≤ sizeLine then some (.v (.dat (.int z.length))) else none
  | [s] => (sq w s).map fun xs => .v (.dat (.int xs.length))
  | _ => none
def rLenA (K : PySem.W.Frag) : List V → Hp → VK → Prop := fun xs H Q => (∃ p ys, xs = [.ref p] ∧ (SqL K H p ys ∨ SqT K H p ys) ∧ Q (.int ys.length) H) ∨ (∃ z, xs = [.str z] ∧ z.length ≤ sizeLine ∧ Q (.int z.length) H)
theorem lenS_sq {w : Om} {s : Sl} {xs : List Sl} (h : sq w s = some xs) : lenS w [s] = some (.v (.dat (.int xs.length))) := by
  have k : ((sq w s).map fun xs => Ou.v (.dat (.int xs.length))) = some (.v (.dat (.int xs.length))) := by rw [h]; rfl
  cases s with
  | adr a => exact k
  | scr ns => exact k
  | wt ns => exact k
  | wa ns => exact k
  | dat d => cases d <;> first | exact k | cases h
theorem cv_len : CV K (rLenA K) lenS := fun ss vs w D H o R Q st rv e ho f => by
  have sc : ∀ s, ss = [s] → ((sq w s).map fun xs => Ou.v (.dat (.int xs.length))) = some o → rLenA K vs H Q := fun s es e2 => by
    clear e
    subst es
    obtain ⟨v, rfl, r⟩ := sla1 rv
    cases q : sq w s with
    | none => rw [q] at e2; cases e2
    | some xs =>
      rw [q] at e2
      cases e2
      obtain ⟨p, us, rfl, hq, hv⟩ := sq_ok st r q
      refine .inl ⟨p, us, rfl, hq, ?_⟩
      rw [Paired.length hv]
      exact f.d st ho (.int _)
  unfold lenS at e
  split at e
  · rename_i z
    by_cases hz : z.length ≤ sizeLine
    · rw [if_pos hz] at e
      cases e
      obtain ⟨v, rfl, r⟩ := sla1 rv
      cases (show v = .str z from dr_str r)
      exact .inr ⟨z, rfl, hz, f.d st ho (.int _)⟩
    · rw [if_neg hz] at e; cases e
  · exact sc _ rfl e
  · cases e
theorem de_len (hg : Gl X "len") (hm : X.mg "len" = none) (ha : DA X W Z [a] tr) (hs : starEach [a] X.env = (false, eval a X.env) :: starEach [] X.env := by rfl) (hpl : (backTo pos (starEach [] X.env)).any (·.1) = false := by rfl) :
    DE X W Z (.Call (.Name "len" p) [a] [] pos) (dCB lenS tr) := de_callB (CallR.or call_len_seq call_len_str) cv_len hg hm PySem.boot_len ha (by decide) (by decide) hs hpl
/-- max, min of two whole numbers -/
def maxS : GN := fun _ ss => match ss with
  | [.dat (.int i), .dat (.int j)] => some (.v (.dat (.int (if j > i then j else i))))
  | _ => none
def minS : GN := fun _ ss => match ss with
  | [.dat (.int i), .dat (.int j)] => some (.v (.dat (.int (if j < i then j else i))))
  | _ => none
theorem cv_max : CV K (fun xs H Q => ∃ i j, xs = [.int i, .int j] ∧ Q (.int (if j > i then j else i)) H) maxS := fun ss vs w D H o R Q st rv e ho f => by
  unfold maxS at e
  split at e
  · cases e
    obtain ⟨v, v', rfl, r, r'⟩ := sla2 rv
    cases dr_int r; cases dr_int r'
    exact ⟨_, _, rfl, f.d st ho (.int _)⟩
  · cases e
theorem cv_min : CV K (fun xs H Q => ∃ i j, xs = [.int i, .int j] ∧ Q (.int (if j < i then j else i)) H) minS := fun ss vs w D H o R Q st rv e ho f => by
  unfold minS at e
  split at e
  · cases e
    obtain ⟨v, v', rfl, r, r'⟩ := sla2 rv
    cases dr_int r; cases dr_int r'
    exact ⟨_, _, rfl, f.d st ho (.int _)⟩
  · cases e
theorem de_max (hc : X.calm = true) (hg : Gl X "max") (hm : X.mg "max" = none) (ha : DA X W Z [a, b] tr) (hs : starEach [a, b] X.env = (false, eval a X.env) :: starEach [b] X.env := by rfl) (hpl : (backTo pos (starEach [b] X.env)).any (·.1) = false := by rfl) :
    DE X W Z (.Call (.Name "max" p) [a, b] [] pos) (dCB maxS tr) := de_callB (call_max2 hc) cv_max hg hm (by decide +kernel) ha (by decide) (by decide) hs hpl
theorem de_min (hc : X.calm = true) (hg : Gl X "min") (hm : X.mg "min" = none) (ha : DA X W Z [a, b] tr) (hs : starEach [a, b] X.env = (false, eval a X.env) :: starEach [b] X.env := by rfl) (hpl : (backTo pos (starEach [b] X.env)).any (·.1) = false := by rfl) :
    DE X W Z (.Call (.Name "min" p) [a, b] [] pos) (dCB minS tr) := de_callB (call_min2 hc) cv_min hg hm (by decide +kernel) ha (by decide) (by decide) hs hpl
/-- all, any of a list of truths -/
def blOf : Sl → Option Bool
  | .dat (.bool b) => some b
  | _ => none
def allS : GN := fun w ss => match ss with
  | [s] => (sqL w s).bind fun xs => (xs.mapM blOf).map fun bs => .v (.dat (.bool (bs.all id)))
  | _ => none
theorem mapM_bl : ∀ {xs : List Sl} {bs : List Bool}, xs.mapM blOf = some bs → xs = bs.map fun b => .dat (.bool b) := by
  intro xs
  induction xs with
  | nil => intro ds h; simp at h; subst h; rfl
  | cons x r ih =>
    intro ds h
    rw [List.mapM_cons] at h
    cases q0 : blOf x with
    | none => simp [q0] at h
    | some b =>
      cases q : r.mapM blOf with
      | none => simp [q0, q] at h
      | some es =>
        simp [q0, q] at h
        subst h
        rw [ih q]
        have : x = .dat (.bool b) := by
          cases x with
          | adr _ => cases q0
          | scr _ => cases q0
          | wt _ => cases q0
          | wa _ => cases q0
          | dat d => cases d <;> cases q0; rfl
        rw [this]; rfl
theorem mapM_bl' : ∀ (bs : List Bool), (bs.map fun b => Sl.dat (.bool b)).mapM blOf = some bs
  | [] => rfl
  | b :: r => by rw [List.map_cons, List.mapM_cons, mapM_bl' r]; rfl
theorem bls_sl {D : Hp} : ∀ {bs : List Bool} {vs : List V}, SlA K D vs (bs.map fun b => .dat (.bool b)) → vs = bs.map V.bl
  | [], _, .nil => rfl
  | b :: r, _, .cons h t => by rw [bls_sl t, dr_bool h]; rfl
theorem allS_ok {w : Om} {s : Sl} {bs : List Bool} (h : sqL w s = some (bs.map fun b => .dat (.bool b))) : allS w [s] = some (.v (.dat (.bool (bs.all id)))) := by
  show ((sqL w s).bind fun xs => (xs.mapM blOf).map fun bs => Ou.v (.dat (.bool (bs.all id)))) = _
  rw [h]
  show ((bs.map fun b => Sl.dat (.bool b)).mapM blOf).map (fun bs => Ou.v (.dat (.bool (bs.all id)))) = _
  rw [mapM_bl']; rfl
theorem bools_inv {w : Om} {s : Sl} {o : Ou} {f : List Bool → Ou} (e : ((sqL w s).bind fun xs => (xs.mapM blOf).map f) = some o) : ∃ bs : List Bool, sqL w s = some (bs.map fun b => .dat (.bool b)) ∧ o = f bs := by
  cases q : sqL w s with
  | none => rw [q] at e; cases e
  | some xs =>
    rw [q] at e
    have e1 : (xs.mapM blOf).map f = some o := e
    cases q2 : xs.mapM blOf with
    | none => rw [q2] at e1; cases e1
    | some bs =>
      rw [q2] at e1
      cases e1
      exact ⟨bs, by rw [mapM_bl q2], rfl⟩
theorem cv_all : CV K (rAll K) allS := fun ss vs w D H o R Q st rv e ho f => by
  unfold allS at e
  split at e
  · obtain ⟨bs, q, rfl⟩ := bools_inv e
    obtain ⟨v, rfl, r⟩ := sla1 rv
    obtain ⟨p, us, rfl, hq, hv⟩ := sqL_ok st r q
    rw [bls_sl hv] at hq
    exact ⟨p, bs, rfl, SqL.of hq, f.d st ho (.bl _)⟩
  · cases e
theorem de_all (hc : X.calm = true) (hg : Gl X "all") (hm : X.mg "all" = none) (ha : DA X W Z [a] tr) (hs : starEach [a] X.env = (false, eval a X.env) :: starEach [] X.env := by rfl) (hpl : (backTo pos (starEach [] X.env)).any (·.1) = false := by rfl) :
    DE X W Z (.Call (.Name "all" p) [a] [] pos) (dCB allS tr) := de_callB (cr_all hc) cv_all hg hm (by decide +kernel) ha (by decide) (by decide) hs hpl
inductive Ty6 where
  | str | int | bool | tuple | list | dict
  deriving DecidableEq
def Ty6.name : Ty6 → String
  | .str => "str" | .int => "int" | .bool => "bool" | .tuple => "tuple" | .list => "list" | .dict => "dict"
def isD : Ty6 → PyData → Bool
  | .str, .str _ => true
  | .int, .int _ => true
  | .int, .bool _ => true
  | .bool, .bool _ => true
  | .tuple, .tuple _ => true
  | .list, .list _ => true
  | .dict, .dict _ => true
  | _, _ => false
def isS (T : Ty6) (w : Om) : Sl → Option Bool
  | .dat d => some (isD T d)
  | .scr _ => none
  | .wt _ => none
  | .wa _ => none
  | .adr a => match w a with
    | some (.lst _) => some (T == .list)
    | some (.dic _) => some (T == .dict)
    | _ => none
def tyN : PyData → String
  | .none => "NoneType" | .bool _ => "bool" | .int _ => "int" | .str _ => "str" | .list _ => "list" | .tuple _ => "tuple" | .dict _ => "dict"
theorem kit_all : ∀ T : Ty6, kitB "NoneType" T.name = some false ∧ kitB "bool" T.name = some (T == .bool || T == .int) ∧ kitB "int" T.name = some (T == .int) ∧ kitB "str" T.name = some (T == .str) ∧ kitB "list" T.name = some (T == .list) ∧ kitB "tuple" T.name = some (T == .tuple) ∧ kitB "dict" T.name = some (T == .dict)
  | .str => by decide +kernel
  | .int => by decide +kernel
  | .bool => by decide +kernel
  | .tuple => by decide +kernel
  | .list => by decide +kernel
  | .dict => by decide +kernel
theorem kit_is (T : Ty6) (d : PyData) : kitB (tyN d) T.name = some (isD T d) := by
  obtain ⟨h1, h2, h3, h4, h5, h6, h7⟩ := kit_all T
  cases d with
  | none => exact h1.trans (by cases T <;> rfl)
  | bool _ => exact h2.trans (by cases T <;> rfl)
  | int _ => exact h3.trans (by cases T <;> rfl)
  | str _ => exact h4.trans (by cases T <;> rfl)
  | list _ => exact h5.trans (by cases T <;> rfl)
  | tuple _ => exact h6.trans (by cases T <;> rfl)
  | dict _ => exact h7.trans (by cases T <;> rfl)
theorem tyx_of {w : Om} {D H : Hp} {v : V} {d : PyData} (st : StOk K w D H) (r : Dr K D v d) : TyX K H v (.type (tyN d)) := by
  cases r with
  | non => exact .base .non
  | bl b => exact .base (.bl b)
  | int i => exact .base (.int i)
  | str x => exact .base (.str x)
  | lst h _ => exact .base (.lst (st.dh _ _ h))
  | tup h _ =>
    rcases h with ⟨o, _, h⟩ | ⟨o, its, n, h1, h2, _⟩
    · exact .fTuple (st.dh _ _ h)
    · exact .kTuple h1 h2
  | dct h => exact .base (.dK (st.dh _ _ h))
def tyS (w : Om) : Sl → String
  | .dat d => tyN d
  | .scr _ => "list"
  | .wt _ => "tuple"
  | .wa _ => "tuple"
  | .adr a => match w a with
    | some (.lst _) => "list"
    | _ => "dict"
theorem isS_ok {w : Om} {D H : Hp} {v : V} {s : Sl} {T : Ty6} {k : Bool} (st : StOk K w D H) (r : Vr K D v s) (h : isS T w s = some k) : TyX K H v (.type (tyS w s)) ∧ kitB (tyS w s) T.name = some k := by
  cases s with
  | dat d => cases h; exact ⟨tyx_of st r, kit_is T d⟩
  | scr _ => cases h
  | wt _ => cases h
  | wa _ => cases h
  | adr a =>
    have h' : (match w a with | some (.lst _) => some (T == .list) | some (.dic _) => some (T == .dict) | _ => none) = some k := h
    have r' : v = .ref a := r
    subst r'
    obtain ⟨h1, h2, h3, h4, h5, h6, h7⟩ := kit_all T
    show TyX K H _ (.type (match w a with | some (.lst _) => "list" | _ => "dict")) ∧ kitB (match w a with | some (.lst _) => "list" | _ => "dict") T.name = some k
    cases q : w a with
    | none => rw [q] at h'; cases h'
    | some o =>
      rw [q] at h'
      cases o with
      | ins _ _ => cases h'
      | lkd _ => cases h'
      | dtt _ => cases h'
      | exc _ _ => cases h'
      | xdc _ => cases h'
      | lst xs =>
        cases h'
        obtain ⟨vs, hH, _⟩ := st.own a _ q
        exact ⟨.base (.lst hH), h5⟩
      | dic kvs =>
        cases h'
        obtain ⟨vs, hH, _⟩ := st.own a _ q
        exact ⟨.base (.dK hH), h7⟩
def dIsi (T : Ty6) (te : DTE) : DTE := fun ρ w R => te ρ w fun s w1 => ∃ k, isS T w1 s = some k ∧ R (.dat (.bool k)) w1
theorem de_isi (T : Ty6) {tn : Str} {p1 p2 : Pos} (he : DE X W Z e te) (hg : Gl X "isinstance") (hm : X.mg "isinstance" = none) (hgT : Gl X tn) (hmT : X.mg tn = none) (hT : bootBuiltins tn = some (.type T.name)) (hn : tn ≠ "__name__" := by decide) (hd : (tn == ("__debug__" : Str)) = false := by decide)
    (hs : starEach [e, .Name tn p2] X.env = (false, eval e X.env) :: starEach [.Name tn p2] X.env := by rfl) (hpl : (backTo pos (starEach [.Name tn p2] X.env)).any (·.1) = false := by rfl) :
    DE X W Z (.Call (.Name "isinstance" p1) [e, .Name tn p2] [] pos) (dIsi T te) :=
  pe_weak (pe_callB call_isi hg hm (by decide +kernel) (pa_cons he (pa_cons (pe_bltn (v := .ty T.name) hgT hmT hT rfl hn hd) pa_nil) hs) (by decide) (by decide) hs hpl) fun σ H Q ⟨ρ, w, D, R, rp, xo, h, f⟩ => ⟨ρ, w, D, _, rp, xo, h, fun s w1 v D1 H1 h1 g1 s1 r1 => by
    obtain ⟨k, hk, h1⟩ := h1
    obtain ⟨ty, kb⟩ := isS_ok s1 r1 hk
    exact ⟨v, .ty T.name, .type (tyS w1 s), .type T.name, k, rfl, .ty _, ty, kit_ty kb, (f.next g1).d s1 h1 (.bl k)⟩⟩
/-- isinstance(e, (T, U)) -/
def dIsi2 (T U : Ty6) (te : DTE) : DTE := fun ρ w R => te ρ w fun s w1 => ∃ k k', isS T w1 s = some k ∧ isS U w1 s = some k' ∧ R (.dat (.bool (k || k'))) w1
theorem de_isi2 (T U : Ty6) {tn un : Str} {p1 p2 p3 p4 : Pos} {kk : Nat} (he : DE X W Z e te) (hg : Gl X "isinstance") (hm : X.mg "isinstance" = none) (hgT : Gl X tn) (hmT : X.mg tn = none) (hT : bootBuiltins tn = some (.type T.name)) (hgU : Gl X un) (hmU : X.mg un = none) (hU : bootBuiltins un = some (.type U.name))
    (hn : tn ≠ "__name__" := by decide) (hd : (tn == ("__debug__" : Str)) = false := by decide) (hn' : un ≠ "__name__" := by decide) (hd' : (un == ("__debug__" : Str)) = false := by decide)
    (hs : starEach [e, .Tuple [.Name tn p2, .Name un p3] kk p4] X.env = (false, eval e X.env) :: starEach [.Tuple [.Name tn p2, .Name un p3] kk p4] X.env := by rfl) (hpl : (backTo pos (starEach [.Tuple [.Name tn p2, .Name un p3] kk p4] X.env)).any (·.1) = false := by rfl) :
    DE X W Z (.Call (.Name "isinstance" p1) [e, .Tuple [.Name tn p2, .Name un p3] kk p4] [] pos) (dIsi2 T U te) :=
  pe_weak (pe_callB call_isiT hg hm (by decide +kernel) (pa_cons he (pa_cons (pe_tup (pa_cons (pe_bltn (v := .ty T.name) hgT hmT hT rfl hn hd) (pa_cons (pe_bltn (v := .ty U.name) hgU hmU hU rfl hn' hd') pa_nil))) pa_nil) hs) (by decide) (by decide) hs hpl)
    fun σ H Q ⟨ρ, w, D, R, rp, xo, h, f⟩ => ⟨ρ, w, D, _, rp, xo, h, fun s w1 v D1 H1 h1 g1 s1 r1 => ⟨by show 2 ≤ sizeLine; decide, fun q hq => by
      obtain ⟨k, k', hk, hk', h1⟩ := h1
      have s2 : StOk X.K w1 D1 (upd H1 q (.tup [.ty T.name, .ty U.name])) := s1.junk (s1.freeW hq) (s1.freeD hq)
      have g2 : Gr w1 D1 H1 w1 D1 (upd H1 q (.tup [.ty T.name, .ty U.name])) := (Gr.refl w1 D1 H1).junk hq
      obtain ⟨ty, kb⟩ := isS_ok s2 r1 hk
      obtain ⟨_, kb'⟩ := isS_ok s2 r1 hk'
      exact ⟨v, q, [.ty T.name, .ty U.name], .type (tyS w1 s), [.type T.name, .type U.name], k || k', rfl, upd_same, .cons (.ty _) (.cons (.ty _) .nil), ty, kitAny_cons (kit_ty kb) (fun hf => by
        rw [hf, Bool.false_or]
        exact kitAny_cons (kit_ty kb') (fun h0 => by rw [h0]; exact kitAny_nil) (fun ht => ht)) (fun ht => by rw [ht, Bool.true_or]), ((f.next g1).next g2).d s2 h1 (.bl _)⟩⟩⟩
end
end DL
set_option Elab.async false
set_option linter.all false
set_option maxRecDepth 100000
set_option maxHeartbeats 4000000
namespace DL
open PySem PySem.Spec PyProof.Rows L2
abbrev Ct := List Sl → Om → DQ → Prop
def spN (K : PySem.W.Frag) (c : Ct) : Sp := fun vs H Q _ => ∃ ss w D R, SlA K D vs ss ∧ StOk K w D H ∧ c ss w R ∧ Fin K w D H R Q
def startD (N : List Str) (ss : List Sl) : DEnv := ss.map some ++ List.replicate (N.length - ss.length) none
theorem rp_start {K : PySem.W.Frag} {N : List Str} {vs : List V} {ss : List Sl} {w : Om} {D H : Hp} (h : SlA K D vs ss) (st : StOk K w D H) : Rp K (L2.start N vs) (startD N ss) w D H := by
  have hl := Paired.length h
  refine ⟨st, by simp [startD, L2.start, hl], fun i s e => ?_⟩
  unfold startD at e
  unfold L2.start
  by_cases hi : i < ss.length
  · rw [List.getElem?_append_left (by simpa using hi), List.getElem?_map] at e
    rw [List.getElem?_append_left (by simpa [hl] using hi), List.getElem?_map]
    cases q : ss[i]? with
    | none => rw [q] at e; cases e
    | some s' =>
      rw [q] at e
      cases e
      obtain ⟨v, h1, h2⟩ := SlA.get h q
      exact ⟨v, by rw [h1]; rfl, h2⟩
  · rw [List.getElem?_append_right (by simpa using hi)] at e
    rw [List.getElem?_replicate] at e
    split at e <;> cases e
/-- the ends of a def's body: the store may be left smaller -/
def endsN (R : DQ) : DEnds := { nx := fun _ w => ∃ u, Sub u w ∧ R (.dat .none) u, rt := fun s w => ∃ u, Sub u w ∧ R s u }
theorem endsN_ok {K : PySem.W.Frag} {w : Om} {D H : Hp} {R : DQ} {Q : VK} (f : Fin K w D H R Q) : EndsOk K w D H (endsN R) { nx := fun _ H' => Q .non H', rt := Q } where
  nx := fun ρ' w' σ' D' H' ⟨u, su, h⟩ g r => f (.dat .none) u .non D' H' h (g.sub su) (r.st.sub su) .non
  rt := fun s w' z D' H' ⟨u, su, h⟩ g st r => f s u z D' H' h (g.sub su) (st.sub su) r
  bk := fun _ _ _ _ _ h => h.elim
  ct := fun _ _ _ _ _ h => h.elim
section
variable {P : Program} {wd : World} {K : PySem.W.Frag} {mg : Str → Option Value} {base : Heap}
abbrev WT : WX := fun _ _ _ _ => True
abbrev ZT : DX := fun _ _ _ _ => True
theorem xok_T {w : Om} {D H : Hp} : XOk K WT ZT w D H := fun _ _ _ _ _ _ _ _ _ _ _ _ => trivial
/-- THE RULE for a def that raises nothing -/
theorem Fun.okD {x qual : Str} {st : Stmt} {f : Addr} {fd : FuncData} {N ps : List Str} {k : Nat} {c : Ct} {tb : DTS} (F : L2.Fun K x qual st f fd) (S : FnScope N ps (defScope st)) (len : ∀ ss w R, c ss w R → ss.length = ps.length)
    (hb : ∀ (cdv : Value) (A : Around) (outer : List Env) (s : Shared) (H : Hp) (E : XK), Room k (A.deeper (envOfC qual (defScope st) s.heap.objs.size f cdv)) → DB (cxOf CX0 P wd K mg base N qual (defScope st) f cdv A outer s H E).nox WT ZT (defBody st) tb)
    (rd : ∀ ss w R, c ss w R → tb (endsN R) (startD N ss) w) : FnOk P wd K mg base CX0 (k + 1) f fd ps (spN K c) := by
  refine L2.Fun.ok F S (fun vs H Q E h => ?_) (fun cdv A outer s H vs Q E hr h => ?_)
  · obtain ⟨ss, w, D, R, hs, _, hc, _⟩ := h
    rw [Paired.length hs]
    exact len ss w R hc
  · obtain ⟨ss, w, D, R, hs, so, hc, fi⟩ := h
    exact ⟨_, hb cdv A outer s H E hr, startD N ss, w, D, endsN R, rp_start hs so, xok_T, rd ss w R hc, endsN_ok fi⟩
end
section
variable {X : Cx} {W : WX} {Z : DX} {e : Expr} {es : List Expr} {tr : DTA} {pos p : Pos}
/-- a call of a def that raises nothing -/
def dCall (c : Ct) (dss : List Sl) (ta : DTA) : DTE := fun ρ w R => ta ρ w fun ss w1 => c (ss ++ dss) w1 R
variable {k : Nat} {f : Addr} {fd : FuncData} {ps : List Str} {c : Ct} {x : Str} {ds : List Value} {dvs : List V} {dss : List Sl}
theorem de_call (F : FnOk X.prog X.w X.K X.mg X.base CX0 k f fd ps (spN X.K c)) (hr : Room k X.A) (hg : Gl X x) (hm : X.mg x = some (.ref f)) (hk : PySem.W.keepIn X.K (.ref f) = true) (hb : Binds X.K fd ps ds) (hd : Vals dvs ds) (hds : ∀ D, SlA X.K D dvs dss) (ha : DA X W Z (e :: es) tr)
    (hdb : (x == ("__debug__" : Str)) = false := by decide) (hs : starEach (e :: es) X.env = (false, eval e X.env) :: starEach es X.env := by rfl) (hpl : (backTo pos (starEach es X.env)).any (·.1) = false := by rfl) :
    DE X W Z (.Call (.Name x p) (e :: es) [] pos) (dCall c dss tr) :=
  pe_weak (pe_call F hr hg hm hk hb hd pass0 ha hdb hs hpl) fun σ H Q ⟨ρ, w, D, R, rp, xo, h, fi⟩ => ⟨ρ, w, D, _, rp, xo, h, fun ss w1 vs D1 H1 h1 g1 s1 rs =>
    ⟨ss ++ dss, w1, D1, R, SlA.append rs (hds D1), s1, h1, fi.next g1⟩⟩
end
abbrev DTI := DEnv → Om → (List Sl → (Om → Prop) → Om → Prop) → Prop
/-- J yields xs, one by one, as long as ok holds of the store -/
structure DWalk (K : PySem.W.Frag) (J : It) (xs : List Sl) (ok : Om → Prop) (D0 : Hp) : Prop where
  goes : ∀ i w D H, i < xs.length → StOk K w D H → Same D0 D → ok w → J.go i H
  stops : ∀ w D H, StOk K w D H → Same D0 D → ok w → J.stop xs.length H
  yields : ∀ i w D H x H', i < xs.length → StOk K w D H → Same D0 D → ok w → J.yld i H x H' → ∃ D' s, Gr w D H w D' H' ∧ StOk K w D' H' ∧ xs[i]? = some s ∧ Vr K D' x s
def upI (K : PySem.W.Frag) (W : WX) (Z : DX) (t : DTI) : TI := fun σ H R => ∃ ρ w D R', Rp K σ ρ w D H ∧ XOk K W Z w D H ∧ t ρ w R' ∧ ∀ xs ok w' D' H' J, R' xs ok w' → Gr w D H w' D' H' → StOk K w' D' H' → DWalk K J xs ok D' → R J H'
abbrev DI (X : Cx) (W : WX) (Z : DX) (tg iter : Expr) (t : DTI) : Prop := PI X tg iter (upI X.K W Z t)
theorem pi_weak {X : Cx} {tg e : Expr} {t t' : TI} (h : PI X tg e t) (i : ∀ σ H R, t' σ H R → t σ H R) : PI X tg e t' := ⟨fun pins s σ H R I q => h.run pins s σ H R I (i σ H R q)⟩
section
variable {X : Cx} {W : WX} {Z : DX} {K : PySem.W.Frag} {e tge : Expr} {te : DTE} {ta : DTA} {pos p : Pos}
/-- over a walk whose items are there already -/
theorem dwalk_at {J : It} {vs : List V} {xs : List Sl} {ok : Om → Prop} {D0 : Hp} {G : Hp → Prop} (wk : Walk J vs.length G (YAt vs)) (hv : SlA K D0 vs xs) (hG : ∀ w D H, StOk K w D H → Same D0 D → ok w → G H) : DWalk K J xs ok D0 := by
  have hl : vs.length = xs.length := Paired.length hv
  refine ⟨fun i w D H hi st sd o => wk.goes i H (by omega) (hG w D H st sd o), fun w D H st sd o => by rw [← hl]; exact wk.stops H (hG w D H st sd o), fun i w D H x H' hi st sd o y => ?_⟩
  obtain ⟨rfl, hx⟩ := wk.yields i H x H' (by omega) (hG w D H st sd o) y
  obtain ⟨s, hs⟩ : ∃ s, xs[i]? = some s := ⟨xs[i], List.getElem?_eq_getElem hi⟩
  obtain ⟨v, h1, h2⟩ := SlA.get hv hs
  rw [hx] at h1
  cases h1
  exact ⟨D, s, Gr.refl _ _ _, st, hs, h2.mono sd⟩
/-- a list or a tuple: one of the store must stand still -/
def okOf (w : Om) : Sl → List Sl → Om → Prop
  | .adr a, xs => fun w' => w' a = some (.lst xs)
  | _, _ => fun _ => True
def dSeqI (te : DTE) : DTI := fun ρ w R => te ρ w fun s w1 => ∃ xs, sq w1 s = some xs ∧ R xs (okOf w1 s xs) w1
def iSeq (K : PySem.W.Frag) (te : TE) : TI := fun σ H R => te σ H fun x H1 => ∃ a, x = .ref a ∧ (((∃ xs, SqL K H1 a xs) ∧ R (Itl K a) H1) ∨ ((∃ xs, SqT K H1 a xs) ∧ R (Itt K a) H1))
theorem pi_seq {te : TE} (he : PE X e te) : PI X tge e (iSeq X.K te) := by
  refine ⟨fun pins s σ H R I h => ?_⟩
  refine thn (he.run pins s σ H _ I h) fun u s1 ⟨x, H1, I1, rx, a, ex, q⟩ => ?_
  subst ex
  cases rx
  rcases q with ⟨⟨xs, hx⟩, q⟩ | ⟨⟨xs, hx⟩, q⟩
  · obtain ⟨its, _, pl, _⟩ := I1.list hx
    exact wpAny_pyIter_list pl.isList (pi_one (tk := s1.toks) I1 _ (turn_list a _) ⟨_, Heap.get?_push_size _ rfl, rfl, rfl⟩ q)
  · obtain ⟨its, _, pl, _⟩ := I1.tuple hx
    exact wpAny_pyIter_tuple (show s1.heap.IsTuple a its.toArray from pl) (pi_one (tk := s1.toks) I1 _ (turn_tuple a _) ⟨_, Heap.get?_push_size _ rfl, rfl, rfl⟩ q)
theorem seq_walk {w : Om} {D H : Hp} {s : Sl} {z : V} {xs : List Sl} (st : StOk K w D H) (r : Vr K D z s) (h : sq w s = some xs) :
    ∃ a, z = .ref a ∧ (((∃ vs, SqL K H a vs) ∧ DWalk K (Itl K a) xs (okOf w s xs) D) ∨ ((∃ vs, SqT K H a vs) ∧ DWalk K (Itt K a) xs (okOf w s xs) D)) := by
  cases s with
  | scr ns =>
    cases h
    obtain ⟨a, rfl, q⟩ := r
    exact ⟨a, rfl, .inl ⟨⟨_, Same.seq st.dh q⟩, dwalk_at walk_list (ints_sl ns) fun w' D' H' st' sd _ => Same.seq (sd.trans st'.dh) q⟩⟩
  | wt ds =>
    cases h
    obtain ⟨a, us, rfl, q, hv⟩ := r
    exact ⟨a, rfl, .inr ⟨⟨_, sqT_mono st.dh q⟩, dwalk_at walk_tup hv.sl fun w' D' H' st' sd _ => sqT_mono (sd.trans st'.dh) q⟩⟩
  | wa ds =>
    cases h
    obtain ⟨a, us, rfl, q, hv⟩ := r
    exact ⟨a, rfl, .inr ⟨⟨_, sqT_mono st.dh q⟩, dwalk_at walk_tup (WiR.sl hv) fun w' D' H' st' sd _ => sqT_mono (sd.trans st'.dh) q⟩⟩
  | adr a =>
    have hw := adr_inv h
    obtain ⟨vs, hH, hv⟩ := st.own a _ hw
    have r' : z = .ref a := r
    subst r'
    refine ⟨a, rfl, .inl ⟨⟨vs, SqL.of hH⟩, ?_⟩⟩
    -- the list's own values may be other ones that say the same
    refine ⟨fun i w' D' H' hi st' sd o => ?_, fun w' D' H' st' sd o => ?_, fun i w' D' H' x H2 hi st' sd o y => ?_⟩
    · obtain ⟨us, hU, hu⟩ := st'.own a _ o
      exact walk_list.goes i H' (by rw [Paired.length hu]; exact hi) (SqL.of (xs := us) hU)
    · obtain ⟨us, hU, hu⟩ := st'.own a _ o
      have := (walk_list (K := K) (a := a) (xs := us)).stops H' (SqL.of hU)
      rw [Paired.length hu] at this
      exact this
    · obtain ⟨us, hU, hu⟩ := st'.own a _ o
      obtain ⟨rfl, hx⟩ := (walk_list (K := K) (a := a) (xs := us)).yields i H' x H2 (by rw [Paired.length hu]; exact hi) (SqL.of hU) y
      obtain ⟨s, hs⟩ : ∃ s, xs[i]? = some s := ⟨xs[i], List.getElem?_eq_getElem hi⟩
      obtain ⟨v, h1, h2⟩ := SlA.get hu hs
      rw [hx] at h1
      cases h1
      exact ⟨D', s, Gr.refl _ _ _, st', hs, h2⟩
  | dat d =>
    cases d with
    | list ds =>
      cases h
      cases r with
      | lst hD hs => exact ⟨_, rfl, .inl ⟨⟨_, SqL.of (st.dh _ _ hD)⟩, dwalk_at walk_list hs.sl fun w' D' H' st' sd _ => SqL.of (st'.dh _ _ (sd _ _ hD))⟩⟩
    | tuple ds =>
      cases h
      cases r with
      | tup hD hs => exact ⟨_, rfl, .inr ⟨⟨_, sqT_mono st.dh hD.sq⟩, dwalk_at walk_tup hs.sl fun w' D' H' st' sd _ => sqT_mono (sd.trans st'.dh) hD.sq⟩⟩
    | none => cases h
    | bool _ => cases h
    | int _ => cases h
    | str _ => cases h
    | dict _ => cases h
theorem di_seq (he : DE X W Z e te) : DI X W Z tge e (dSeqI te) :=
  pi_weak (pi_seq he) fun σ H R ⟨ρ, w, D, R', rp, xo, h, f⟩ => ⟨ρ, w, D, _, rp, xo, h, fun s w1 z D1 H1 h1 g1 s1 r1 => by
    obtain ⟨xs, e, h1⟩ := h1
    obtain ⟨a, rfl, q⟩ := seq_walk s1 r1 e
    rcases q with ⟨q1, q2⟩ | ⟨q1, q2⟩
    · exact ⟨a, rfl, .inl ⟨q1, f xs _ w1 D1 H1 _ h1 g1 s1 q2⟩⟩
    · exact ⟨a, rfl, .inr ⟨q1, f xs _ w1 D1 H1 _ h1 g1 s1 q2⟩⟩⟩
/-- range(n), range(a, b) -/
def irange (lo : Int) (n : Nat) : List Sl := (List.range n).map fun i => .dat (.int (lo + (i : Nat)))
theorem dwalk_range {lo : Int} {n : Nat} {D : Hp} : DWalk K (Itr lo n) (irange lo n) (fun _ => True) D := by
  have hl : (irange lo n).length = n := by simp [irange]
  refine ⟨fun i w' D' H' hi _ _ _ => walk_range.goes i H' (by omega) trivial, fun w' D' H' _ _ _ => by rw [hl]; exact walk_range.stops H' trivial, fun i w' D' H' x H2 hi st' sd o y => ?_⟩
  obtain ⟨rfl, rfl⟩ := (walk_range (lo := lo) (n := n)).yields i H' x H2 (by omega) trivial y
  exact ⟨D', .dat (.int (lo + (i : Nat))), Gr.refl _ _ _, st', by unfold irange; rw [List.getElem?_map, List.getElem?_range (by omega)]; rfl, .int _⟩
def dRng1 (ta : DTA) : DTI := fun ρ w R => ta ρ w fun ss w1 => ∃ j : Int, ss = [.dat (.int j)] ∧ -(2 ^ 62) ≤ j ∧ j < 2 ^ 62 ∧ R (irange 0 j.toNat) (fun _ => True) w1
theorem di_range1 {a : Expr} (hg : Gl X "range") (hm : X.mg "range" = none) (ha : DA X W Z [a] ta) (hs : starEach [a] X.env = [(false, eval a X.env)] := by rfl) : DI X W Z tge (.Call (.Name "range" p) [a] [] pos) (dRng1 ta) :=
  pi_weak (pi_range1 hg hm ha hs) fun σ H R ⟨ρ, w, D, R', rp, xo, h, f⟩ => ⟨ρ, w, D, _, rp, xo, h, fun ss w1 vs D1 H1 h1 g1 s1 rs => by
    obtain ⟨j, rfl, h2, h3, h1⟩ := h1
    obtain ⟨v, rfl, r⟩ := sla1 rs
    cases dr_int r
    exact ⟨j, rfl, h2, h3, f _ _ w1 D1 H1 _ h1 g1 s1 dwalk_range⟩⟩
def dLoop (ok : Om → Prop) (g : DTG) (tb : DTS) (F : DEnds) : List Sl → DEnv → Om → Prop
  | [] => fun ρ w => ok w ∧ F.nx ρ w
  | x :: xs => fun ρ w => ok w ∧ g x ρ w fun ρ' w' => tb { F with nx := dLoop ok g tb F xs, ct := dLoop ok g tb F xs, bk := F.nx } ρ' w'
def dFor (wi : DTI) (g : DTG) (tb : DTS) : DTS := fun F ρ w => wi ρ w fun xs ok w1 => dLoop ok g tb F xs ρ w1
theorem ds_for {tg iter : Expr} {body : List Stmt} {wi : DTI} {g : DTG} {tb : DTS} (hp : PassesOwn (model X.prog X.w) X.A X.env X.xe) (hc : X.calm = true) (hi : DI X W Z tg iter wi) (hg : DG X W Z tg g) (hb : DB X W Z body tb)
    (hs : ∀ x, foldedSetIterable iter X.env x = pure x := by intro _; rfl) : DS X W Z (.For tg iter body [] pos) (dFor wi g tb) :=
  ps_weak (ps_for hp hc hi hg hb hs) fun E σ H ⟨ρ, w, D, F, rp, xo, h, eo⟩ => ⟨ρ, w, D, _, rp, xo, h, fun xs ok w1 D1 H1 J h1 g1 s1 wk => by
    refine ⟨fun i m σ' H' => m = xs.length - i ∧ i ≤ xs.length ∧ ∃ ρ' w' D', Rp X.K σ' ρ' w' D' H' ∧ Gr w D H w' D' H' ∧ Same D1 D' ∧ dLoop ok g tb F (xs.drop i) ρ' w', ⟨xs.length, by simp, Nat.zero_le _, ρ, w1, D1, rp.next g1.dd s1, g1, Same.refl _, by rw [List.drop_zero]; exact h1⟩, ?_⟩
    rintro i m σ' H' ⟨rfl, hi, ρ', w', D', rp', g', sd, hl⟩
    by_cases hlt : i < xs.length
    · rw [List.drop_eq_getElem_cons hlt] at hl
      obtain ⟨ho, hl⟩ := hl
      refine .inr ⟨wk.goes i w' D' H' hlt rp'.st sd ho, fun σ2 H2 => ∃ ρ2 w2 D2, Rp X.K σ2 ρ2 w2 D2 H2 ∧ Gr w D H w2 D2 H2 ∧ Same D1 D2 ∧ dLoop ok g tb F (xs.drop (i + 1)) ρ2 w2, fun σ2 H2 ⟨ρ2, w2, D2, r2, g2, sd2, h2⟩ => ⟨xs.length - (i + 1), by omega, rfl, hlt, ρ2, w2, D2, r2, g2, sd2, h2⟩, fun x H2 y => ?_⟩
      obtain ⟨D2, s, g2, st2, hs, r2⟩ := wk.yields i w' D' H' x H2 hlt rp'.st sd ho y
      have es : s = xs[i] := by
        rw [List.getElem?_eq_getElem hlt] at hs
        exact (Option.some.inj hs).symm
      subst es
      refine ⟨xs[i], ρ', w', D2, _, rp'.next g2.dd st2, xo.next (g'.trans g2), r2, hl, fun ρ3 w3 σ3 D3 H3 h3 g3 r3 => ?_⟩
      have gg := (g'.trans g2).trans g3
      have sdd := (sd.trans g2.dd).trans g3.dd
      refine ⟨ρ3, w3, D3, _, r3, xo.next gg, h3, ?_, (eo.next gg).rt, (eo.next gg).nx, ?_⟩
      · exact fun ρ4 w4 σ4 D4 H4 h4 g4 r4 => ⟨ρ4, w4, D4, r4, gg.trans g4, sdd.trans g4.dd, h4⟩
      · exact fun ρ4 w4 σ4 D4 H4 h4 g4 r4 => ⟨ρ4, w4, D4, r4, gg.trans g4, sdd.trans g4.dd, h4⟩
    · have e : i = xs.length := by omega
      subst e
      rw [List.drop_length] at hl
      exact .inl ⟨wk.stops w' D' H' rp'.st sd hl.1, eo.nx ρ' w' σ' D' H' hl.2 g' rp'⟩⟩
/-- a loop by its invariant -/
theorem loop_inv {ok : Om → Prop} {g : DTG} {tb : DTS} {F : DEnds} {xs : List Sl} {ρ : DEnv} {w : Om} (I : List Sl → DEnv → Om → Prop) (h0 : I xs ρ w) (hok : ∀ r ρ w, I r ρ w → ok w)
    (hs : ∀ x r ρ w, I (x :: r) ρ w → (∀ ρ' w', I r ρ' w' → dLoop ok g tb F r ρ' w') → g x ρ w fun ρ' w' => tb { F with nx := dLoop ok g tb F r, ct := dLoop ok g tb F r, bk := F.nx } ρ' w') (hd : ∀ ρ w, I [] ρ w → F.nx ρ w) : dLoop ok g tb F xs ρ w := by
  induction xs generalizing ρ w with
  | nil => exact ⟨hok _ _ _ h0, hd ρ w h0⟩
  | cons x r ih => exact ⟨hok _ _ _ h0, hs x r ρ w h0 fun ρ' w' h => ih h⟩
end
end DL
set_option Elab.async false
set_option linter.all false
set_option maxRecDepth 100000
set_option maxHeartbeats 4000000
namespace DL
open PySem PySem.Spec PyProof.Rows L2
def wipeD (ρ : DEnv) : List Nat → DEnv
  | [] => ρ
  | v :: vs => (wipeD ρ vs).set v none
theorem wipe_at {σ : L2.St} {i : Nat} : ∀ {vs : List Nat}, i ∈ vs → (wipe σ vs)[i]? = if i < σ.length then some none else none
  | v :: vs, h => by
    unfold wipe
    by_cases e : v = i
    · subst e
      by_cases hl : v < σ.length
      · rw [List.getElem?_set_self (by rw [wipe_length]; exact hl), if_pos hl]
      · rw [List.getElem?_eq_none (by rw [List.length_set, wipe_length]; omega), if_neg hl]
    · rw [List.getElem?_set_ne e]
      exact wipe_at ((List.mem_cons.mp h).resolve_left fun z => e z.symm)
theorem wipe_set {σ : L2.St} {i : Nat} {x : Option V} {vs : List Nat} (h : i ∈ vs) : wipe (σ.set i x) vs = wipe σ vs := by
  apply List.ext_getElem?
  intro j
  by_cases hj : j ∈ vs
  · rw [wipe_at hj, wipe_at hj, List.length_set]
  · rw [wipe_out hj, wipe_out hj, List.getElem?_set_ne (fun e => hj (by rw [← e]; exact h))]
theorem wipe_wipe {σ : L2.St} {vs : List Nat} : wipe (wipe σ vs) vs = wipe σ vs := by
  apply List.ext_getElem?
  intro j
  by_cases hj : j ∈ vs
  · rw [wipe_at hj, wipe_at hj, wipe_length]
  · rw [wipe_out hj, wipe_out hj]
theorem Rp.wipe {K : PySem.W.Frag} {σ : L2.St} {ρ : DEnv} {w : Om} {D H : Hp} (r : Rp K σ ρ w D H) : ∀ vs : List Nat, Rp K (L2.wipe σ vs) (wipeD ρ vs) w D H
  | [] => r
  | v :: vs => by
    have ih := Rp.wipe r vs
    refine ⟨ih.st, by unfold wipeD L2.wipe; rw [List.length_set, List.length_set]; exact ih.len, fun i s e => ?_⟩
    unfold wipeD at e
    unfold L2.wipe
    by_cases z : v = i
    · subst z
      by_cases hl : v < (wipeD ρ vs).length
      · rw [List.getElem?_set_self hl] at e; cases e
      · rw [List.getElem?_eq_none (by rw [List.length_set]; omega)] at e; cases e
    · rw [List.getElem?_set_ne z] at e ⊢
      exact ih.slot i s e
def NxV (K : PySem.W.Frag) (vs : List Nat) (σ : L2.St) (w : Om) (D H : Hp) (f : DEnv → Om → Prop) (q : L2.St → Hp → Prop) : Prop := ∀ ρ' w' σ' D' H', f ρ' w' → Gr w D H w' D' H' → Rp K σ' ρ' w' D' H' → wipe σ' vs = wipe σ vs → q σ' H'
def upV (K : PySem.W.Frag) (W : WX) (Z : DX) (vs : List Nat) (g : DTG) : TG := fun v σ H Q => ∃ s ρ w D R, Rp K σ ρ w D H ∧ XOk K W Z w D H ∧ Vr K D v s ∧ g s ρ w R ∧ NxV K vs σ w D H R Q
abbrev DV (X : Cx) (W : WX) (Z : DX) (vs : List Nat) (e : Expr) (g : DTG) : Prop := PG X e (upV X.K W Z vs g)
section
variable {X : Cx} {W : WX} {Z : DX} {K : PySem.W.Frag} {vs : List Nat} {a e tge : Expr} {te : DTE} {pos : Pos} {es : List Expr} {tg : DTG} {tgs : DTGs}
theorem dvt_name {i : Nat} {x : Str} (hv : i ∈ vs) (hN : X.N.Nodup) (hi : X.N[i]? = some x) (hx : Loc X.env.scope x) (hf : X.fn x = true ∨ X.env.scope.names.lookup x = some .local := by first | exact .inl rfl | exact .inr rfl | assumption) : DV X W Z vs (.Name x pos) (dName i) :=
  pg_weak (pg_name hN hi hx hf) fun v σ H Q ⟨s, ρ, w, D, R, rp, xo, r, h, n⟩ => n _ w _ D H h (Gr.refl _ _ _) (rp.set i r) (wipe_set hv)
def dYes : DTT := fun _ w R => R true w
abbrev DTs (X : Cx) (W : WX) (Z : DX) (ifs : List Expr) (t : DTT) : Prop := PTs X ifs (upT X.K W Z t)
theorem pts_weak {ifs : List Expr} {t t' : TT} (h : PTs X ifs t) (i : ∀ σ H Q, t' σ H Q → t σ H Q) : PTs X ifs t' := ⟨fun pins s σ H Q I q => h.run pins s σ H Q I (i σ H Q q)⟩
theorem dts_nil : DTs X W Z [] dYes := pts_weak pts_nil fun σ H Q ⟨ρ, w, D, R, rp, xo, h, f⟩ => f true w D H h (Gr.refl _ _ _) rp.st
def dLcL (ok : Om → Prop) (g : DTG) (tt : DTT) (te : DTE) (ρ : DEnv) (k : List Sl → Om → Prop) : List Sl → List Sl → Om → Prop
  | [] => fun acc w => ok w ∧ k acc w
  | x :: xs => fun acc w => ok w ∧ g x ρ w fun ρ2 w2 => tt ρ2 w2 fun b w3 => if b = true then te ρ2 w3 fun y w4 => acc.length < sizeLine ∧ dLcL ok g tt te ρ k xs (acc ++ [y]) w4 else dLcL ok g tt te ρ k xs acc w3
def dLc (wi : DTI) (g : DTG) (tt : DTT) (te : DTE) (vs : List Nat) : DTE := fun ρ w R => wi ρ w fun xs ok w1 => dLcL ok g tt te (wipeD ρ vs) (fun acc w2 => ∀ p, w2 p = none → R (.adr p) (put w2 p (.lst acc))) xs [] w1
theorem up_lc {wi : DTI} {g : DTG} {tt : DTT} {te : DTE} (σ : L2.St) (H : Hp) (Q : VK) (h : up K W Z (dLc wi g tt te vs) σ H Q) : tLc (upI K W Z wi) (upV K W Z vs g) (upT K W Z tt) (up K W Z te) vs σ H Q := by
  obtain ⟨ρ, w, D, R, rp, xo, h, f⟩ := h
  refine ⟨ρ, w, D, _, rp, xo, h, fun xs ok w1 D1 H1 J h1 g1 s1 wk L hL => ?_⟩
  have wL : w1 L = none := s1.freeW hL
  have dL : D1 L = none := s1.freeD hL
  have HL : H L = none := by
    cases e : H L with
    | none => rfl
    | some o => exact absurd hL (g1.dm L (by rw [e]; intro z; cases z))
  refine ⟨fun i m H' => m = xs.length - i ∧ i ≤ xs.length ∧ ∃ w' D' acc vacc, StOk K w' D' H' ∧ Gr w D H w' D' H' ∧ Same D1 D' ∧ w' L = none ∧ D' L = none ∧ H' L = some (.lst vacc) ∧ SlA K D' vacc acc ∧ dLcL ok g tt te (wipeD ρ vs) (fun acc w2 => ∀ p, w2 p = none → R (.adr p) (put w2 p (.lst acc))) (xs.drop i) acc w',
    ⟨xs.length, by simp, Nat.zero_le _, w1, D1, [], [], s1.junk wL dL, g1.junk HL, Same.refl _, wL, dL, upd_same, .nil, by rw [List.drop_zero]; exact h1⟩, ?_⟩
  rintro i m H' ⟨rfl, hi, w', D', acc, vacc, st', g', sd, nw, nd, hl, hv, hq⟩
  by_cases hlt : i < xs.length
  · rw [List.drop_eq_getElem_cons hlt] at hq
    obtain ⟨ho, hq⟩ := hq
    refine .inr ⟨wk.goes i w' D' H' hlt st' sd ho, fun H2 => ∃ w2 D2 acc vacc, StOk K w2 D2 H2 ∧ Gr w D H w2 D2 H2 ∧ Same D1 D2 ∧ w2 L = none ∧ D2 L = none ∧ H2 L = some (.lst vacc) ∧ SlA K D2 vacc acc ∧ dLcL ok g tt te (wipeD ρ vs) (fun acc w2 => ∀ p, w2 p = none → R (.adr p) (put w2 p (.lst acc))) (xs.drop (i + 1)) acc w2,
      fun H2 q => ⟨xs.length - (i + 1), by omega, rfl, hlt, q⟩, fun x H2 y => ?_⟩
    obtain ⟨D2, s, g2, st2, hs, r2⟩ := wk.yields i w' D' H' x H2 hlt st' sd ho y
    have es : s = xs[i] := by
      rw [List.getElem?_eq_getElem hlt] at hs
      exact (Option.some.inj hs).symm
    subst es
    have nn : ∀ {wx : Om} {Dx Hx : Hp}, Gr w' D' H' wx Dx Hx → wx L = none ∧ Dx L = none ∧ Hx L = some (.lst vacc) := fun gx =>
      have hne : H' L ≠ none := by rw [hl]; intro z; cases z
      ⟨gx.nw L hne nw, gx.nd L hne nw nd, gx.fr L _ hl nw⟩
    have rpw : Rp K (L2.wipe σ vs) (wipeD ρ vs) w' D2 H2 := (rp.wipe vs).next (g'.dd.trans g2.dd) st2
    refine ⟨xs[i], wipeD ρ vs, w', D2, _, rpw, xo.next (g'.trans g2), r2, hq, fun ρ3 w3 σ3 D3 H3 h3 g3 r3 ew => ⟨ew.trans wipe_wipe, ?_⟩⟩
    have g23 := g2.trans g3
    refine ⟨ρ3, w3, D3, _, r3, xo.next (g'.trans g23), h3, fun b w4 D4 H4 h4 g4 s4 => ?_⟩
    have g24 := g23.trans g4
    cases b with
    | false =>
      rw [if_neg Bool.false_ne_true] at h4
      obtain ⟨n1, n2, n3⟩ := nn g24
      exact iteF ⟨w4, D4, acc, vacc, s4, g'.trans g24, sd.trans g24.dd, n1, n2, n3, SlA.mono g24.dd hv, h4⟩
    | true =>
      rw [if_pos rfl] at h4
      refine iteT ⟨ρ3, w4, D4, _, r3.next g4.dd s4, xo.next (g'.trans g24), h4, fun y w5 z D5 H5 h5 g5 s5 r5 => ?_⟩
      have g25 := g24.trans g5
      obtain ⟨n1, n2, n3⟩ := nn g25
      have hlen : vacc.length = acc.length := Paired.length hv
      exact ⟨vacc, n3, by rw [hlen]; exact h5.1, w5, D5, acc ++ [y], vacc ++ [z], s5.junk n1 n2, (g'.trans g25).junk HL, sd.trans g25.dd, n1, n2, upd_same, SlA.snoc (SlA.mono g25.dd hv) r5, h5.2⟩
  · have e : i = xs.length := by omega
    subst e
    rw [List.drop_length] at hq
    refine .inl ⟨wk.stops w' D' H' st' sd hq.1, ?_⟩
    have st2 : StOk K (put w' L (.lst acc)) D' H' := by
      refine ⟨st'.dh, fun a o q => ?_, fun a o q => ?_⟩
      · by_cases z : a = L
        · subst z; rw [put_same] at q; cases q; exact ⟨vacc, hl, hv⟩
        · rw [put_ne z] at q; exact st'.own a o q
      · by_cases z : a = L
        · subst z; exact fun _ => nd
        · rw [put_ne z] at q; exact st'.sep a o q
    have g2 : Gr w D H (put w' L (.lst acc)) D' H' := ⟨g'.dd, g'.fr, fun a q n => by
      have : a ≠ L := fun z => q (by rw [z]; exact HL)
      rw [put_ne this]; exact g'.nw a q n, g'.nd, g'.dm⟩
    exact f (.adr L) _ (.ref L) D' H' (hq.2 L nw) g2 st2 rfl
theorem de_lc {elt tg iter : Expr} {ifs : List Expr} {scope : Scope} {own : List (Str × Nat)} {wi : DTI} {g : DTG} {tt : DTT} {te : DTE} (hc : X.calm = true) (hN : X.N.Nodup) (hi : DI X W Z tg iter wi) (ok : BlkOk X.N X.env.scope scope own)
    (hg : ∀ (s : Shared) (H : Hp) (C : Addr) (cl : List (Str × Addr)) (fp : List Addr), DV (X.blk s H scope (compEnvC scope cl C X.env) fp) W Z (own.map (·.2)) tg g) (ht : ∀ (s : Shared) (H : Hp) (C : Addr) (cl : List (Str × Addr)) (fp : List Addr), DTs (X.blk s H scope (compEnvC scope cl C X.env) fp) W Z ifs tt)
    (he : ∀ (s : Shared) (H : Hp) (C : Addr) (cl : List (Str × Addr)) (fp : List Addr), DE (X.blk s H scope (compEnvC scope cl C X.env) fp) W Z elt te) (hs : ∀ x, foldedSetIterable iter X.env x = pure x := by intro _; rfl) :
    DE X W Z (.ListComp elt [⟨tg, iter, ifs, 0⟩] scope pos) (dLc wi g tt te (own.map (·.2))) := pe_weak (pe_lc hc hN hi ok hg ht he hs) fun σ H Q h => up_lc σ H Q h
end
end DL
set_option Elab.async false
set_option linter.all false
set_option maxRecDepth 100000
set_option maxHeartbeats 4000000
namespace DL
open PySem PySem.Spec PyProof.Rows L2
section
variable {X : Cx} {W : WX} {Z : DX} {K : PySem.W.Frag} {a b c e : Expr} {ta tb te : DTE} {pos : Pos} {es : List Expr} {tr : DTA}
def ordS (ci : Int → Int → Bool) (cs : List Nat → List Nat → Bool) : G2 := fun _ x y => match x, y with
  | .dat (.int i), .dat (.int j) => some (.v (.dat (.bool (ci i j))))
  | .dat (.str i), .dat (.str j) => some (.v (.dat (.bool (cs i.cps.toList j.cps.toList))))
  | _, _ => none
abbrev ltS : G2 := ordS (fun i j => decide (i < j)) fun i j => decide (i < j)
abbrev gtS : G2 := ordS (fun i j => decide (j < i)) fun i j => decide (j < i)
def rOrd (ci : Int → Int → Bool) (cs : List Nat → List Nat → Bool) : R2 := fun x y H Q => (rI0 (fun i j => V.bl (ci i j)) x y H Q) ∨ (∃ i j, x = .str i ∧ y = .str j ∧ Q (.bl (cs i.cps.toList j.cps.toList)) H)
theorem ov_ord {ci : Int → Int → Bool} {cs : List Nat → List Nat → Bool} : OpV K (rOrd ci cs) (ordS ci cs) := fun x y v u w D H o R Q st rx ry e ho f => by
  unfold ordS at e
  split at e
  · cases e
    exact .inl ⟨_, _, dr_int rx, dr_int ry, f.d st ho (.bl _)⟩
  · cases e
    exact .inr ⟨_, _, dr_str rx, dr_str ry, f.d st ho (.bl _)⟩
  · cases e
theorem op_ltO : OpR X (compareOp .Lt) (rOrd (fun i j => decide (i < j)) fun i j => decide (i < j)) := OpR.or op_lt op_lt_str
theorem op_gtO : OpR X (compareOp .Gt) (rOrd (fun i j => decide (j < i)) fun i j => decide (j < i)) := OpR.or op_gt op_gt_str
theorem dt_lt (ha : DE X W Z a ta) (hb : DE X W Z b tb) : DT X W Z (.Compare a [.Lt] [b] pos) (dTst (dOp ltS ta tb)) := dt_cmp op_ltO ov_ord ha hb (nomark _)
theorem dt_gt (ha : DE X W Z a ta) (hb : DE X W Z b tb) : DT X W Z (.Compare a [.Gt] [b] pos) (dTst (dOp gtS ta tb)) := dt_cmp op_gtO ov_ord ha hb (nomark _)
def flatD : PyData → Bool
  | .none => true
  | .bool _ => true
  | .int _ => true
  | .str _ => true
  | _ => false
def inD (n : Bool) (d : PyData) (ds : List PyData) : Bool := if n then !(ds.any fun y => PyData.eqv y d) else ds.any fun y => PyData.eqv y d
def inS (n : Bool) : G2 := fun w x y => match x, y with
  | .dat (.str z), .dat (.str t) => match z.cps.toList with
    | [c] => some (.v (.dat (.bool (if n then !decide (c ∈ t.cps.toList) else decide (c ∈ t.cps.toList)))))
    | _ => none
  | .dat d, y => (sq w y).bind fun xs => (xs.mapM datOf).bind fun ds => if flatD d && ds.all flatD then some (.v (.dat (.bool (inD n d ds)))) else none
  | _, _ => none
end
end DL
set_option Elab.async false
set_option linter.all false
set_option maxRecDepth 100000
set_option maxHeartbeats 4000000
namespace DL
open PySem PySem.Spec PyProof.Rows L2
theorem iteB {k : Bool} {A B : Prop} (h1 : k = true → A) (h2 : k = false → B) : if k = true then A else B := by
  cases k with
  | true => exact iteT (h1 rfl)
  | false => exact iteF (h2 rfl)
theorem iteD {p : Prop} [Decidable p] {A B : Prop} (h1 : p → A) (h2 : ¬ p → B) : if decide p = true then A else B := iteB (fun h => h1 (of_decide_eq_true h)) (fun h => h2 (of_decide_eq_false h))
section
variable {P : Program} {wd : World} {K : PySem.W.Frag} {mg : Str → Option Value} {base : Heap}
def cNo : Ct := fun _ _ _ => False
theorem fnok_no {CX : CXT} {k : Nat} {f : Addr} {fd : FuncData} {ps : List Str} : FnOk P wd K mg base CX k f fd ps (spN K cNo) :=
  ⟨fun vs H Q E ⟨ss, w, D, R, _, _, h, _⟩ => h.elim, fun A outer s H args us vs Q E hr e0 hb r ⟨ss, w, D, R, _, _, h, _⟩ => h.elim⟩
/-- a contract by depth: below 0 nothing is promised -/
def prev (c : Nat → Ct) : Nat → Ct
  | 0 => cNo
  | n + 1 => c n
theorem rec_ok {CX : CXT} {b : Nat} {f : Addr} {fd : FuncData} {ps : List Str} (c : Nat → Ct) (step : ∀ n, FnOk P wd K mg base CX (b + n) f fd ps (spN K (prev c n)) → FnOk P wd K mg base CX (b + n + 1) f fd ps (spN K (c n))) :
    ∀ n, FnOk P wd K mg base CX (b + n + 1) f fd ps (spN K (c n))
  | 0 => step 0 fnok_no
  | n + 1 => step (n + 1) (rec_ok c step n)
def cLaw : Ct := fun ss w R => ∃ ns : List Int, ss = [.scr ns] ∧ ns.length ≤ 63 ∧ ∀ w', R (.dat (.bool true)) w'
theorem law_end {H : Hp} {a : Addr} {ns : List Int} (hl : ns.length ≤ 63) (hS : SqL K H a (ns.map V.int)) : spN K cLaw [.ref a] H (fun v _ => v = .bl true) fun _ _ _ => False :=
  ⟨[.scr ns], fun _ => none, H, fun s _ => s = .dat (.bool true), .cons ⟨a, rfl, hS⟩ .nil, ⟨Same.refl H, (fun _ _ h => nomatch h), (fun _ _ h => nomatch h)⟩, ⟨ns, rfl, hl, fun _ => rfl⟩, fun s w' z D' H' h g st r => by
    subst h
    exact dr_bool r⟩
end
theorem walk {l : PySem.W.OpenLaw} {k : Nat} {q : Program} {loose : List Str} {XP : (Str → Option Value) → Heap → Prop} {YP : World → Heap → Prop} {d : DefRec} {K : Params → PySem.W.Frag} (hr : Room k callerA) (hn : l.most = some 63) (hdf : d.params.defaults = [])
    (hY : ∀ (w : World) (h : Heap), YP w h → (K w.params).In h)
    (F : ∀ (w : World) (mg : Str → Option Value) (fa : Addr) (h : Heap), (K w.params).In h → h.Ns mainGlobals mg → mg d.name = some (.ref fa) →
      ∃ fd : FuncData, (∀ (s : Shared) (u : Value), BindsTo s fd ⟨[u], []⟩ [("script", u)]) ∧ ∀ base : Heap, (K w.params).In base → base.Ns mainGlobals mg → FnOk l.prog w (K w.params) mg base CX0 k fa fd ["script"] (spN (K w.params) cLaw)) :
    PySem.W.WalkO q loose XP YP l.row.toRowW d [] (fun f vs => PySem.call f vs) :=
  L2.walk_of (n := 63) (k := k) (x := "script") (CX := fun _ => CX0) (sp := fun w => spN (K w.params) cLaw) hn (by decide) hdf hr hY F (fun _ _ a ns hl _ hS => law_end hl hS) fun _ _ _ _ _ z => z
end DL
set_option Elab.async false
set_option linter.all false
set_option maxRecDepth 100000
set_option maxHeartbeats 4000000
namespace G
open PySem PySem.Spec PyProof.Rows L2 DL
def bagO (x y z : Int) : OO := .lst [.dat (.int x), .dat (.int y), .dat (.int z)]
/-- w' is w with a good bag at b, its counter at most n -/
def Bg (b : Addr) (n : Nat) (w w' : Om) : Prop := ∃ x y z, w' = put w b (bagO x y z) ∧ 0 ≤ y ∧ y < 2 ^ 200 ∧ 0 ≤ z ∧ z ≤ n
theorem Bg.mono {b : Addr} {n m : Nat} {w w' : Om} (h : Bg b n w w') (hn : n ≤ m) : Bg b m w w' := by
  obtain ⟨x, y, z, e, h1, h2, h3, h4⟩ := h
  exact ⟨x, y, z, e, h1, h2, h3, by omega⟩
/-- the new object forgotten -/
theorem Bg.drop {b a : Addr} {n : Nat} {w w' : Om} {o : OO} (h : Bg b n (DL.put w a o) w') (hw : w a = none) (ha : a ≠ b) : ∃ u, Sub u w' ∧ Bg b n w u := by
  obtain ⟨x, y, z, e, h1⟩ := h
  refine ⟨DL.put w b (bagO x y z), ?_, x, y, z, rfl, h1⟩
  rw [e]
  exact Sub.put (Sub.new hw)
def c_law_cell_at : Ct := fun ss w R => ∃ (ns : List Int) (k : Nat), ss = [.scr ns, .dat (.int k)] ∧ ns.length ≤ 63 ∧ ∀ c : Int, R (.dat (.int c)) w
def c_law_bag : Ct := fun ss w R => ∃ (c : Int) (k : Nat), ss = [.dat (.int c), .dat (.int k)] ∧ k ≤ 100 ∧ ∀ b w', w b = none → Bg b 0 w w' → R (.adr b) w'
/-- a draw below m -/
def c_law_draw : Ct := fun ss w R => ∃ (b : Addr) (m : Int) (n : Nat) (w0 : Om), ss = [.adr b, .dat (.int m)] ∧ Bg b n w0 w ∧ 0 < m ∧ m < 2 ^ 100 ∧ n < 2 ^ 60 ∧ ∀ r w', 0 ≤ r → r < m → Bg b (n + 1) w0 w' → R (.dat (.int r)) w'
theorem len_law_cell_at {ss w R} (h : c_law_cell_at ss w R) : ss.length = 2 := by obtain ⟨_, _, rfl, _⟩ := h; rfl
theorem len_law_bag {ss w R} (h : c_law_bag ss w R) : ss.length = 2 := by obtain ⟨_, _, rfl, _⟩ := h; rfl
theorem len_law_draw {ss w R} (h : c_law_draw ss w R) : ss.length = 2 := by obtain ⟨_, _, _, _, rfl, _⟩ := h; rfl
end G
set_option Elab.async false
set_option linter.all false
set_option maxRecDepth 100000
set_option maxHeartbeats 4000000
namespace G
open PySem PySem.Spec PyProof.Rows L2 DL
def N_law_cell_at : List Str := ["script", "k"]
def t_law_cell_at : DTS :=
  (dSeq (dIfS (dTst (dOp ltS (dVar 1) (dCB lenS (dCons (dVar 0) dNil)))) (dRet (dOp ixS (dVar 0) (dVar 1))) dNext)
  (dRet (dC (.int 0))))
theorem atI_lt {α : Type} {xs : List α} {k : Nat} (h : k < xs.length) : atI xs (k : Int) = some xs[k] := atI_nat (List.getElem?_eq_getElem h)
theorem rd_law_cell_at {ss w R} (h : c_law_cell_at ss w R) : t_law_cell_at (endsN R) (startD N_law_cell_at ss) w := by
  obtain ⟨ns, k, rfl, hl, q⟩ := h
  refine ⟨_, rfl, _, rfl, _, lenS_sq rfl, ?_⟩
  refine ⟨_, rfl, _, rfl, iteD (fun c => ?_) fun c => ?_⟩
  · rw [List.length_map] at c
    exact ⟨_, rfl, _, rfl, _, ixS_scr (atI_lt (by omega)), w, Sub.refl _, q _⟩
  · exact ⟨w, Sub.refl _, q _⟩
theorem cMul_of {i j : Int} {a b : Nat} (ha : i.natAbs < 2 ^ a) (hb : j.natAbs < 2 ^ b) (h0 : 0 < a) (h1 : 0 < b) (h : a + b ≤ 1000000) : cMul i j = true := decide_eq_true (wide_mul ha hb h0 h1 h)
theorem cDiv_of {i j : Int} {b : Nat} (h : 0 < j) (hb : j.natAbs < 2 ^ b) (h0 : 0 < b) (h9 : b ≤ 9000) : cDiv i j = true := decide_eq_true (wide_div (i := i) h hb h0 h9)
theorem bits_le {i : Int} {a : Nat} (ha : i.natAbs < 2 ^ a) (h0 : 0 < a) : Builtin.Int.intBits i ≤ a := by
  have := PySem.Flt.log2_lt_of h0 ha
  unfold Builtin.Int.intBits
  split <;> omega
theorem cPow_of {i j : Int} {a : Nat} (ha : i.natAbs < 2 ^ a) (h0 : 0 < a) (hj : 0 ≤ j) (h : (a : Int) * j ≤ 2 ^ 27) : cPow i j = true := by
  refine decide_eq_true ⟨hj, Int.le_trans (Int.mul_le_mul_of_nonneg_right (Int.ofNat_le.mpr (bits_le ha h0)) hj) h⟩
theorem small_abs {i : Int} {a : Nat} (h0 : 0 ≤ i) (h : i < 2 ^ a) : i.natAbs < 2 ^ a := by
  have : ((i.natAbs : Nat) : Int) < ((2 ^ a : Nat) : Int) := by rw [Int.natAbs_of_nonneg h0]; exact_mod_cast h
  exact_mod_cast this
end G
set_option Elab.async false
set_option linter.all false
set_option maxRecDepth 100000
set_option maxHeartbeats 4000000
namespace G
open PySem PySem.Spec PyProof.Rows L2 DL
theorem sq_line {n : Nat} (h : n ≤ 1600000) : n ≤ sizeLine := Nat.le_trans h (by decide)
theorem ix_t0 {w : Om} {e : PyData} {ks : List PyData} : ixS w (.dat (.tuple (e :: ks))) (.dat (.int 0)) = some (.v (.dat e)) := ixS_tup (atI_nat (j := 0) rfl)
theorem ix_t1 {w : Om} {e f : PyData} {ks : List PyData} : ixS w (.dat (.tuple (e :: f :: ks))) (.dat (.int 1)) = some (.v (.dat f)) := ixS_tup (atI_nat (j := 1) rfl)
theorem ix_t2 {w : Om} {e f g : PyData} {ks : List PyData} : ixS w (.dat (.tuple (e :: f :: g :: ks))) (.dat (.int 2)) = some (.v (.dat g)) := ixS_tup (atI_nat (j := 2) rfl)
theorem in_3 {w : Om} {z a b c : Str} : inS false w (.dat (.str z)) (.dat (.tuple [.str a, .str b, .str c])) = some (.v (.dat (.bool (a == z || (b == z || (c == z || false)))))) := rfl
local macro_rules | `(tactic| walk_at "rr") => `(tactic| repeat (first | refine ⟨_, ix_t0, ?_⟩ | refine ⟨_, ix_t1, ?_⟩ | refine ⟨_, ix_t2, ?_⟩ | refine ⟨_, in_3, ?_⟩ | refine ⟨_, rfl, ?_⟩ | refine iteT ?_ | refine iteF ?_ | refine And.intro (sq_line (by simp)) ?_))
/-- a comprehension without a test whose element leaves the store -/
theorem lc_map {ok : Om → Prop} {g : DTG} {te : DTE} {ρ : DEnv} {k : List Sl → Om → Prop} {w : Om} (f : Sl → Sl) (hok : ok w) : ∀ (xs acc : List Sl), (∀ x ∈ xs, ∀ C : DQ, C (f x) w → g x ρ w fun ρ2 w2 => te ρ2 w2 C) → acc.length + xs.length ≤ sizeLine → k (acc ++ xs.map f) w → dLcL ok g dYes te ρ k xs acc w
  | [], acc, _, _, h => ⟨hok, by simpa using h⟩
  | x :: xs, acc, hs, hl, h => by
    refine ⟨hok, ?_⟩
    have q := hs x List.mem_cons_self (fun y w4 => acc.length < sizeLine ∧ dLcL ok g dYes te ρ k xs (acc ++ [y]) w4) ⟨by simp at hl; omega, lc_map f hok xs (acc ++ [f x]) (fun z hz => hs z (List.mem_cons_of_mem _ hz)) (by simp at hl ⊢; omega) (by simpa using h)⟩
    exact q
end G
set_option Elab.async false
set_option linter.all false
set_option maxRecDepth 100000
set_option maxHeartbeats 4000000
namespace DL
open PySem PySem.Spec PyProof.Rows L2
section
variable {K : PySem.W.Frag} {D : Hp}
abbrev FlA (K : PySem.W.Frag) (D : Hp) : List (Str × V) → List (Str × Sl) → Prop := Paired (fun (p : Str × V) (q : Str × Sl) => p.1 = q.1 ∧ Vr K D p.2 q.2)
theorem fl_get {f : Str} : ∀ {gs : List (Str × V)} {fs : List (Str × Sl)} {s : Sl}, FlA K D gs fs → fs.lookup f = some s → ∃ v, gs.lookup f = some v ∧ Vr K D v s
  | _, _, _, .nil, e => by cases e
  | (g, x) :: gs, (g', x') :: fs, s, .cons ⟨h1, h2⟩ r, e => by
    have h1' : g = g' := h1
    subst h1'
    by_cases z : f = g
    · subst z
      have : List.lookup f ((f, x') :: fs) = some x' := by simp [List.lookup]
      rw [this] at e
      cases e
      exact ⟨x, by simp [List.lookup], h2⟩
    · have hb : (f == g) = false := beq_eq_false_iff_ne.mpr z
      have e1 : List.lookup f ((g, x') :: fs) = List.lookup f fs := by simp [List.lookup, hb]
      rw [e1] at e
      obtain ⟨v, q1, q2⟩ := fl_get r e
      exact ⟨v, by rw [← q1]; simp [List.lookup, hb], q2⟩
end
end DL
set_option Elab.async false
set_option linter.all false
set_option maxRecDepth 100000
set_option maxHeartbeats 4000000
namespace DL
open PySem PySem.Spec PyProof.Rows L2
end DL
set_option Elab.async false
set_option linter.all false
set_option maxRecDepth 100000
set_option maxHeartbeats 4000000
namespace DL
open PySem PySem.Spec PyProof.Rows L2
section
variable {X : Cx} {W : WX} {Z : DX} {K : PySem.W.Frag} {o e a b : Expr} {es : List Expr} {pos apos cpos p : Pos} {to te : DTE} {ta tb : DTE} {tr : DTA}
def dApp (to : DTE) (te : DTE) : DTE := fun ρ w R => to ρ w fun s w1 => ∃ q xs0, s = .adr q ∧ w1 q = some (.lst xs0) ∧ te ρ w1 fun y w2 => ∃ xs, w2 q = some (.lst xs) ∧ xs.length < sizeLine ∧ R (.dat .none) (put w2 q (.lst (xs ++ [y])))
theorem de_append (ho : DE X W Z o to) (he : DE X W Z e te) (hbase : attributeBase o "append" X.env (eval o X.env) = eval o X.env := by rfl)
    (hfew : ((backTo cpos (starEach [e] X.env)).all (fun x => !x.1) && (backToKw cpos (keywordEach [] X.env)).all (fun x => x.1.isSome)
      && decide ([e].length + ([] : List Keyword).length + (if ([] : List Keyword).isEmpty then 0 else 1) < 30)) = true := by rfl)
    (hline : (apos.endLine == cpos.line) = true := by rfl) (hs : starEach [e] X.env = (false, eval e X.env) :: starEach [] X.env := by rfl) (hplain : (backTo cpos (starEach [] X.env)).any (·.1) = false := by rfl) :
    DE X W Z (.Call (.Attribute o "append" apos) [e] [] cpos) (dApp to te) :=
  pe_weak (pe_bm PySem.F.plainAttrs_list PySem.F.slot_list_append PySem.F.type_list_append mt_append ho (pa_cons he pa_nil hs) hbase hfew hline hs hplain) fun σ H Q ⟨ρ, w, D, R, rp, xo, h, fi⟩ => ⟨ρ, w, D, _, rp, xo, h, fun s w1 v D1 H1 h1 g1 s1 r1 => by
    obtain ⟨q, xs0, rfl, hw, h1⟩ := h1
    obtain ⟨vs0, hH, hv⟩ := s1.own q _ hw
    have r1' : v = .ref q := r1
    subst r1'
    refine ⟨.inl ⟨rfl, vs0, SqL.of hH⟩, ρ, w1, D1, _, rp.next g1.dd s1, xo.next g1, h1, fun y w2 u D2 H2 h2 g2 s2 r2 => ?_⟩
    obtain ⟨xs, hw2, hl, hR⟩ := h2
    obtain ⟨vs, hH2, hv2⟩ := s2.own q _ hw2
    refine ⟨q, vs, u, rfl, rfl, hH2, by rw [Paired.length hv2]; exact hl, ?_⟩
    have ok : OwnOk X.K D2 (upd H2 q (.lst (vs ++ [u]))) q (.lst (xs ++ [y])) := ⟨_, upd_same, SlA.snoc hv2 r2⟩
    have g3 : Gr w2 D2 H2 (put w2 q (.lst (xs ++ [y]))) D2 (upd H2 q (.lst (vs ++ [u]))) := Gr.write hw2
    exact fi (.dat .none) _ .non D2 _ hR ((g1.trans g2).trans g3) (s2.write hw2 ok) .non⟩
end
end DL
set_option Elab.async false
set_option linter.all false
set_option maxRecDepth 100000
set_option maxHeartbeats 4000000
namespace DL
open PySem PySem.Spec PyProof.Rows L2
end DL
set_option Elab.async false
set_option linter.all false
set_option maxRecDepth 100000
set_option maxHeartbeats 4000000
set_option Elab.async false
set_option linter.all false
set_option maxRecDepth 100000
set_option maxHeartbeats 4000000
namespace DS
open PySem PySem.Spec PyProof.Rows L2
def keyS (e : Int × Value) : Str := match e.2 with
  | .str k _ => k
  | _ => Str.empty
def GoodS (w : World) (e : Int × Value) : Prop := ∃ k tk, e.2 = Value.str k tk ∧ e.1 = hashStr w k
/-- the entries es, laid by t, are the texts S -/
structure SOk (w : World) (es : Array (Int × Value)) (t : SetTable) (S : Str → Bool) : Prop where
  good : ∀ e ∈ es.toList, GoodS w e
  nd : (es.toList.map keyS).Nodup
  mem : ∀ k, S k = true ↔ k ∈ es.toList.map keyS
  bd : es.size < scanBound
  fit : t.fits es.size = true
  ris : Ris t.place.toList
  led : w.params.followText "set-order" = true ∨ t.led = true
  pow : es.size = 0 → ∃ k, t.mask + 1 = 2 ^ k
/-- the set of texts at a -/
def SetS (w : World) (h : Heap) (a : Addr) (S : Str → Bool) (n : Nat) : Prop :=
  ∃ o es ep t, h.get? a = some o ∧ o.ExactSet ∧ o.data = .set es ep t ∧ SOk w es t S ∧ es.size = n
end DS
set_option Elab.async false
set_option linter.all false
set_option maxRecDepth 100000
set_option maxHeartbeats 4000000
namespace DS
open PySem PySem.Spec PyProof.Rows L2
/-- the set of texts at a, its rows and table -/
structure SetX (w : World) (h : Heap) (a : Addr) (S : Str → Bool) (es : Array (Int × Value)) (ep : Nat) (t : SetTable) : Prop where
  obj : ∃ o, h.get? a = some o ∧ o.ExactSet ∧ o.data = .set es ep t
  ok : SOk w es t S
section
variable {P : Program} {w : World} {A : Around} {E : Value → Shared → Prop} {s : Shared} {a b : Addr} {S T : Str → Bool} {n : Nat} {es eb : Array (Int × Value)} {ep epb : Nat} {t tb : SetTable}
theorem SetX.set {h : Heap} (x : SetX w h a S es ep t) : SetS w h a S es.size := by
  obtain ⟨⟨o, ho, hx, hd⟩, k⟩ := x
  exact ⟨o, es, ep, t, ho, hx, hd, k, rfl⟩
theorem SetS.x {h : Heap} (x : SetS w h a S n) : ∃ es ep t, SetX w h a S es ep t ∧ es.size = n := by
  obtain ⟨o, es, ep, t, ho, hx, hd, k, hn⟩ := x
  exact ⟨es, ep, t, ⟨⟨o, ho, hx, hd⟩, k⟩, hn⟩
end
end DS
set_option Elab.async false
set_option linter.all false
set_option maxRecDepth 100000
set_option maxHeartbeats 4000000
set_option Elab.async false
set_option linter.all false
set_option maxRecDepth 100000
set_option maxHeartbeats 4000000
namespace DS
open PySem PySem.Spec PyProof.Rows L2
section
variable {P : Program} {w : World} {A : Around} {E : Value → Shared → Prop} {s : Shared} {a b : Addr} {S T : Str → Bool} {n : Nat} {es eb : Array (Int × Value)} {ep epb : Nat} {t tb : SetTable}
theorem SOk.empty (k : SOk w es t S) (h : es.size = 0) : ∀ x, S x = false := fun x => by
  cases q : S x with
  | false => rfl
  | true =>
    have := (k.mem x).1 q
    have e : es.toList = [] := List.eq_nil_of_length_eq_zero (by rw [Array.length_toList]; exact h)
    rw [e] at this
    cases this
end
end DS
set_option Elab.async false
set_option linter.all false
set_option maxRecDepth 100000
set_option maxHeartbeats 4000000
set_option Elab.async false
set_option linter.all false
set_option maxRecDepth 100000
set_option maxHeartbeats 4000000
set_option Elab.async false
set_option linter.all false
set_option maxRecDepth 100000
set_option maxHeartbeats 4000000
set_option Elab.async false
set_option linter.all false
set_option maxRecDepth 100000
set_option maxHeartbeats 4000000
namespace DL
open PySem PySem.Spec PyProof.Rows L2
end DL
set_option Elab.async false
set_option linter.all false
set_option maxRecDepth 100000
set_option maxHeartbeats 4000000
namespace DL
open PySem PySem.Spec PyProof.Rows L2
section
variable {X : Cx} {W : WX} {Z : DX} {K : PySem.W.Frag} {a b c e e2 : Expr} {ta tb te : DTE} {pos p tpos : Pos} {es elts : List Expr} {tr : DTA} {kk : Nat}
/-- {"k": v, ..}: the values become data -/
inductive DPs (X : Cx) (W : WX) (Z : DX) : List (Option Expr) → List Expr → List Str → List DTE → Prop
  | nil : DPs X W Z [] [] [] []
  | cons {k : Str} {j : Nat} {p : Pos} {v : Expr} {t : DTE} {ks : List (Option Expr)} {vs : List Expr} {zs : List Str} {ts : List DTE} (hv : DE X W Z v t) (r : DPs X W Z ks vs zs ts) : DPs X W Z (some (.Constant (.str k) j p) :: ks) (v :: vs) (k :: zs) (t :: ts)
theorem DPs.len {ks : List (Option Expr)} {vs : List Expr} {zs : List Str} {ts : List DTE} (h : DPs X W Z ks vs zs ts) : ks.length = vs.length ∧ ks.length = zs.length ∧ ks.all (·.isSome) = true := by
  induction h with
  | nil => exact ⟨rfl, rfl, rfl⟩
  | cons hv r ih => exact ⟨by simp [ih.1], by simp [ih.2.1], by simp [ih.2.2]⟩
end
end DL
set_option Elab.async false
set_option linter.all false
set_option maxRecDepth 100000
set_option maxHeartbeats 4000000
namespace DL
open PySem PySem.Spec PyProof.Rows L2
end DL
set_option Elab.async false
set_option linter.all false
set_option maxRecDepth 100000
set_option maxHeartbeats 4000000
namespace DL
open PySem PySem.Spec PyProof.Rows L2
end DL
set_option Elab.async false
set_option linter.all false
set_option maxRecDepth 100000
set_option maxHeartbeats 4000000
namespace DL
open PySem PySem.Spec PyProof.Rows L2
end DL
set_option Elab.async false
set_option linter.all false
set_option maxRecDepth 100000
set_option maxHeartbeats 4000000
namespace DL
open PySem PySem.Spec PyProof.Rows L2
end DL
set_option Elab.async false
set_option linter.all false
set_option maxRecDepth 100000
set_option maxHeartbeats 4000000
namespace DL
open PySem PySem.Spec PyProof.Rows L2
end DL
set_option Elab.async false
set_option linter.all false
set_option maxRecDepth 100000
set_option maxHeartbeats 4000000
namespace DL
open PySem PySem.Spec PyProof.Rows L2
end DL
set_option Elab.async false
set_option linter.all false
set_option maxRecDepth 100000
set_option maxHeartbeats 4000000
namespace DL
open PySem PySem.Spec PyProof.Rows L2
end DL
set_option Elab.async false
set_option linter.all false
set_option maxRecDepth 100000
set_option maxHeartbeats 4000000
namespace DL
open PySem PySem.Spec PyProof.Rows L2
end DL
set_option Elab.async false
set_option linter.all false
set_option maxRecDepth 100000
set_option maxHeartbeats 4000000
namespace DL
open PySem PySem.Spec PyProof.Rows L2
end DL
set_option Elab.async false
set_option linter.all false
set_option maxRecDepth 100000
set_option maxHeartbeats 4000000
namespace DL
open PySem PySem.Spec PyProof.Rows L2
end DL
set_option Elab.async false
set_option linter.all false
set_option maxRecDepth 100000
set_option maxHeartbeats 4000000
namespace DL
open PySem PySem.Spec PyProof.Rows L2
end DL
set_option Elab.async false
set_option linter.all false
set_option maxRecDepth 100000
set_option maxHeartbeats 4000000
namespace DL
open PySem PySem.Spec PyProof.Rows L2
end DL
set_option Elab.async false
set_option linter.all false
set_option maxRecDepth 100000
set_option maxHeartbeats 4000000
namespace DL
open PySem PySem.Spec PyProof.Rows L2
end DL
set_option Elab.async false
set_option linter.all false
set_option maxRecDepth 100000
set_option maxHeartbeats 4000000
namespace DL
open PySem PySem.Spec PyProof.Rows L2
end DL
set_option Elab.async false
set_option linter.all false
set_option maxRecDepth 100000
set_option maxHeartbeats 4000000
namespace DL
open PySem PySem.Spec PyProof.Rows L2
end DL
set_option Elab.async false
set_option linter.all false
set_option maxRecDepth 100000
set_option maxHeartbeats 4000000
namespace DL
open PySem PySem.Spec PyProof.Rows L2
end DL
set_option Elab.async false
set_option linter.all false
set_option maxRecDepth 100000
set_option maxHeartbeats 4000000
namespace DL
open PySem PySem.Spec PyProof.Rows L2
end DL
set_option Elab.async false
set_option linter.all false
set_option maxRecDepth 100000
set_option maxHeartbeats 4000000
namespace DL
open PySem PySem.Spec PyProof.Rows L2
end DL
set_option Elab.async false
set_option linter.all false
set_option maxRecDepth 100000
set_option maxHeartbeats 4000000
namespace DL
open PySem PySem.Spec PyProof.Rows L2
end DL
set_option Elab.async false
set_option linter.all false
set_option maxRecDepth 100000
set_option maxHeartbeats 4000000
namespace DL
open PySem PySem.Spec PyProof.Rows L2
end DL
set_option Elab.async false
set_option linter.all false
set_option maxRecDepth 100000
set_option maxHeartbeats 4000000
namespace DL
open PySem PySem.Spec PyProof.Rows L2
end DL
set_option Elab.async false
set_option linter.all false
set_option maxRecDepth 100000
set_option maxHeartbeats 4000000
namespace DL
open PySem PySem.Spec PyProof.Rows L2
end DL
set_option Elab.async false
set_option linter.all false
set_option maxRecDepth 100000
set_option maxHeartbeats 4000000
namespace DL
open PySem PySem.Spec PyProof.Rows L2
end DL
set_option Elab.async false
set_option linter.all false
set_option maxRecDepth 100000
set_option maxHeartbeats 4000000
namespace DL
open PySem PySem.Spec PyProof.Rows L2
end DL
set_option Elab.async false
set_option linter.all false
set_option maxRecDepth 100000
set_option maxHeartbeats 4000000
namespace DL
open PySem PySem.Spec PyProof.Rows L2
end DL
set_option Elab.async false
set_option linter.all false
set_option maxRecDepth 100000
set_option maxHeartbeats 4000000
namespace DL
open PySem PySem.Spec PyProof.Rows L2
end DL
set_option Elab.async false
set_option linter.all false
set_option maxRecDepth 100000
set_option maxHeartbeats 4000000
namespace DL
open PySem PySem.Spec PyProof.Rows L2
end DL
set_option Elab.async false
set_option linter.all false
set_option maxRecDepth 100000
set_option maxHeartbeats 4000000
namespace DL
open PySem PySem.Spec PyProof.Rows L2
end DL
set_option Elab.async false
set_option linter.all false
set_option maxRecDepth 100000
set_option maxHeartbeats 4000000
namespace DL
open PySem PySem.Spec PyProof.Rows L2
end DL
set_option Elab.async false
set_option linter.all false
set_option maxRecDepth 100000
set_option maxHeartbeats 4000000
namespace L2
open PySem PySem.Spec PyProof.Rows
end L2
namespace DL
open PySem PySem.Spec PyProof.Rows L2
end DL
set_option Elab.async false
set_option linter.all false
set_option maxRecDepth 100000
set_option maxHeartbeats 4000000
namespace DL
open PySem PySem.Spec PyProof.Rows L2
section
variable {X : Cx} {e : Expr} {es : List Expr} {t : L2.St → Hp → XK → Prop} {ta : TA} {x f : Str} {p pos : Pos} {C : Addr}
theorem ExcH.ok {P : Program} {w : World} {H : Hp} {h : Heap} {a C : Addr} {d : Option Addr} {oe : Obj} {vs : Array Value} (q : h.get? a = some oe) (z : Zc (.ref C) d oe) (hd : oe.data = .fields vs) : ObjOk P w H h a (ExcH a C d) :=
  ⟨⟨oe, vs, q, z, hd⟩, ⟨oe, q⟩, fun g1 g2 ⟨o, v, r1, r2⟩ k => ⟨o, v, k o r1, r2⟩⟩
/-- what makes an exception is a value, too -/
theorem pe_mk (h : PMk X e t) : PE X e (fun σ H Q => t σ H fun cls d H1 => ∃ C, cls = .ref C ∧ ∀ a, H1 a = none → Q (.ref a) (upd H1 a (ExcH a C d))) := by
  refine ⟨fun pins s σ H Q I q => wpAny_mono (h pins s σ H _ I q) (fun u s1 hu => ?_) fun _ _ x => x⟩
  obtain ⟨a, oe, vs, sI, H1, cls, d, rfl, J, k, hne, ha, hz, hd, _, na, hos, hb, _, C, rfl, q⟩ := hu
  have J1 : Inv X pins σ (upd H1 a (ExcH a C d)) { sI with heap := s1.heap, toks := s1.toks } := J.laidN k hne na (ExcH.ok ha hz hd)
  exact ⟨.ref a, _, ⟨J1.ok, hos.trans J.os, hb, J1.base, J1.loc, J1.cell, J1.free, J1.freeC, J1.pin, J1.hok, J1.len⟩, rfl, q a na⟩
/-- an own class without __init__, no arguments -/
theorem pmk_none {bmB : List Value} {B newId initId : String} (F : ExcBaseFacts B newId initId bmB) (q : PySem.W.excIn X.K C bmB newId = true) (gC : X.mg x = some (.ref C)) (kC : PySem.W.keepIn X.K (.ref C) = true) (r : Raises X (.ref C)) (hg : Gl X x)
    (hdb : (x == ("__debug__" : Str)) = false := by decide) : PMk X (.Call (.Name x p) [] [] pos) (fun _ H Q => Q (.ref C) none H) := by
  intro pins s σ H Q I h
  refine wpAny_Call_Name_kw (ld_glob I hg gC (PySem.W.callWith_K0 I.kIn kC ?_) hdb)
  obtain ⟨b1, b2, b3, b4, b5, b6, b7, b8, b9, b10, b11, b12, b13, b14, b15, b16, b17, c1, c2, c3, tl⟩ := exc_obj I.kIn q
  exact wpAny_call_exc_subT F tl c1 c2 c3 (fun h2 z hm => mk_of I hm r h (I.hok.gone hm.new)) (Nat.zero_le _)
/-- an __init__ that keeps its one argument -/
def spI (K : PySem.W.Frag) (f : Str) : Sp := fun vs H Q _ => ∃ (a C : Addr) (y : V), vs = [.ref a, y] ∧ H a = some (exo a C none) ∧ OexC K C ∧ PySem.W.findIn K (.ref C) f = some none ∧ ∀ dx, H dx = none → dx ≠ a → Q .non (upd (upd H dx (exd dx [(f, y)])) a (exo a C (some dx)))
end
section
variable {P : Program} {wd : World} {K : PySem.W.Frag} {mg : Str → Option Value} {base : Heap}
theorem init_ok {qual me arg f : Str} {st : Stmt} {g : Addr} {fd : FuncData} {p1 p2 p3 p4 : Pos} (F : L2.Fun K "__init__" qual st g fd) (S : FnScope [me, arg] [me, arg] (defScope st)) (hb : defBody st = [.Assign [.Attribute (.Name me p1) f p2] (.Name arg p3) p4])
    (v1 : Vis (defScope st) me) (v2 : Vis (defScope st) arg) (n1 : (me == ("__debug__" : Str)) = false := by decide) (n2 : (me == ("__classdict__" : Str)) = false := by decide) (n3 : (arg == ("__debug__" : Str)) = false := by decide) (n4 : (arg == ("__classdict__" : Str)) = false := by decide) :
    FnOk P wd K mg base CX0 1 g fd [me, arg] (spI K f) := by
  refine L2.Fun.ok (k := 0) F S (fun vs H Q E ⟨a, C, y, e, _⟩ => by rw [e] <;> rfl) (fun cdv A outer s H vs Q E hr ⟨a, C, y, e, h1, h2, h3, h4⟩ => ?_)
  subst e
  rw [hb]
  refine ⟨_, pss_one (ps_ost (pe_var (i := 0) rfl v1 n1 n2) (pe_var (i := 1) rfl v2 n3 n4)), ?_⟩
  exact ⟨y, rfl, .ref a, rfl, a, C, rfl, h2, h3, .inl ⟨h1, h4⟩⟩
end
section
variable {X : Cx} {W : WX} {Z : DX} {e : Expr} {es : List Expr} {te : DTE} {tr : DTA} {x f : Str} {p pos apos : Pos} {C g : Addr} {fd : FuncData} {ps : List Str} {k : Nat}
def dMkE (C : Addr) (f : Str) (ta : DTA) : DTE := fun ρ w R => ta ρ w fun ss w1 => ∃ s, ss = [s] ∧ ∀ a d, w1 a = none → w1 d = none → a ≠ d → R (.adr a) (put (put w1 d (.xdc [(f, s)])) a (.exc C (some d)))
theorem de_mkE (T : OexC X.K C) (iC : PySem.W.findIn X.K (.ref C) "__init__" = some (some (.ref g))) (tI : PySem.W.typeIn X.K (.ref g) = some (.type "function")) (hno : PySem.W.findIn X.K (.ref C) f = some none)
    (F1 : FnOk X.prog X.w X.K X.mg X.base CX0 k g fd ps (spI X.K f)) (hr : Room (k + 1) X.A) (hb : Binds X.K fd ps []) (hg : Gl X x) (hm : X.mg x = some (.ref C)) (ha : DA X W Z (e :: es) tr)
    (hdb : (x == ("__debug__" : Str)) = false := by decide) (he : starEach (e :: es) X.env = (false, eval e X.env) :: starEach es X.env := by rfl) (hpl : (backTo pos (starEach es X.env)).any (·.1) = false := by rfl) :
    DE X W Z (.Call (.Name x p) (e :: es) [] pos) (dMkE C f tr) :=
  pe_weak (pe_mk (pmk_oex T iC tI F1 hr hb .nil pass0 hg hm ha hdb he hpl)) fun σ H Q ⟨ρ, w, D, R, rp, xo, h, fi⟩ => ⟨ρ, w, D, _, rp, xo, h, fun ss w1 vs D1 H1 h1 g1 s1 rs => by
    obtain ⟨s, rfl, h1⟩ := h1
    cases rs with
    | @cons y _ _ _ ry rn =>
      cases rn
      refine ⟨by simp, fun b hb1 => ⟨b, C, y, rfl, upd_same, T, hno, fun dx hdx ne => ?_⟩⟩
      have hdx1 : H1 dx = none := by rw [upd_ne ne] at hdx; exact hdx
      refine ⟨rfl, dx, [(f, y)], upd_same, by rw [upd_ne ne, upd_same], hdx1, C, rfl, fun a hna => ?_⟩
      have nad : a ≠ dx := fun z => by rw [z, upd_same] at hna; cases hna
      have eH : (upd (L2.del (upd (upd (upd H1 b (exo b C none)) dx (exd dx [(f, y)])) b (exo b C (some dx))) b) dx (.xd [(f, y)])) = upd H1 dx (.xd [(f, y)]) := by
        funext c
        by_cases c1 : c = dx
        · rw [c1, upd_same, upd_same]
        · rw [upd_ne c1, upd_ne c1]
          by_cases c2 : c = b
          · rw [c2, L2.del_same, hb1]
          · rw [L2.del_ne c2, upd_ne c2, upd_ne c1, upd_ne c2]
      rw [eH] at hna ⊢
      have hna1 : H1 a = none := by rw [upd_ne nad] at hna; exact hna
      have s2 : StOk X.K (put w1 dx (.xdc [(f, s)])) D1 (upd H1 dx (.xd [(f, y)])) := s1.newW hdx1 ⟨_, upd_same, .cons ⟨rfl, ry⟩ .nil⟩
      have g2 : Gr w1 D1 H1 (put w1 dx (.xdc [(f, s)])) D1 (upd H1 dx (.xd [(f, y)])) := Gr.newW s1 hdx1
      have s3 := s2.newW (u := .exc C (some dx)) (o := ExcH a C (some dx)) hna upd_same
      have g3 := Gr.newW (u := .exc C (some dx)) (o := ExcH a C (some dx)) s2 hna
      exact fi (.adr a) _ (.ref a) D1 _ (h1 a dx (s1.freeW hna1) (s1.freeW hdx1) nad) ((g1.trans g2).trans g3) s3 rfl⟩
/-- C(), without own __init__ -/
def dMk0 (C : Addr) : DTE := fun _ w R => ∀ a, w a = none → R (.adr a) (put w a (.exc C none))
theorem de_mk0 {bmB : List Value} {B newId initId : String} (F : ExcBaseFacts B newId initId bmB) (q : PySem.W.excIn X.K C bmB newId = true) (gC : X.mg x = some (.ref C)) (kC : PySem.W.keepIn X.K (.ref C) = true) (r : Raises X (.ref C)) (hg : Gl X x)
    (hdb : (x == ("__debug__" : Str)) = false := by decide) : DE X W Z (.Call (.Name x p) [] [] pos) (dMk0 C) :=
  pe_weak (pe_mk (pmk_none F q gC kC r hg hdb)) fun σ H Q ⟨ρ, w, D, R, rp, xo, h, fi⟩ => ⟨C, rfl, fun a hna =>
    fi (.adr a) _ (.ref a) D _ (h a (rp.st.freeW hna)) (Gr.newW rp.st hna) (rp.st.newW (u := .exc C none) (o := ExcH a C none) hna upd_same) rfl⟩
end
section
variable {X : Cx} {W : WX} {Z : DX} {e : Expr} {te : DTE} {pos p1 p2 apos : Pos}
/-- what the class says of its instances' classes -/
structure ExcK (K : PySem.W.Frag) (C : Addr) : Prop where
  cl : (PySem.W.clsIn K C).isSome = true
  ga : PySem.W.findIn K (.ref C) "__getattribute__" = some (some (.builtin "BaseException.__getattribute__"))
  gt : PySem.W.findIn K (.ref C) "__getattr__" = some none
  sb : PySem.W.subIn K (.ref C) (.type "BaseException") = some true
  ha : PySem.W.findIn K (.ref C) "__class__" = some (some (.builtin "object.__class__"))
  hn : PySem.W.specialIn K (.builtin "object.__class__") "__get__" = some (some (.builtin "getset_descriptor.__get__"))
  ht : PySem.W.takesIn K (.builtin "object.__class__") = some true
  hm : PySem.W.mroIn K C (.type "object") = some true
/-- the instance as it lies there -/
theorem exc_inst {P : Program} {w : World} {H : Hp} {h : Heap} {a C : Addr} {d : Option Addr} (ok : HOk P w H h) (ha : H a = some (ExcH a C d)) (hd : d = none ∨ ∃ dd gs, d = some dd ∧ H dd = some (.xd gs)) :
    ∃ oe od, PySem.W.InstAt h a oe C od := by
  have x : ObjOk P w H h a (ExcH a C d) := ok a _ ha
  obtain ⟨⟨oe, vs, q, z, hv⟩, _⟩ := x
  have nc : PySem.W.notCls oe = true := by unfold PySem.W.notCls; rw [hv] <;> rfl
  rcases hd with rfl | ⟨dd, gs, rfl, hx⟩
  · exact ⟨oe, none, q, z.1, nc, by rw [z.2]; trivial⟩
  · obtain ⟨mA, ⟨o, es, ep, ho, r⟩, _⟩ := (show ObjOk P w H h dd (.xd gs) from ok dd _ hx)
    exact ⟨oe, some o, q, z.1, nc, by rw [z.2]; exact ho⟩
def rIsV (K : PySem.W.Frag) : List V → Hp → VK → Prop := fun xs H Q => ∃ (a C : Addr) (d : Option Addr) (c : V) (cv : Value) (b : Bool), xs = [.ref a, c] ∧ H a = some (ExcH a C d) ∧ (d = none ∨ ∃ dd gs, d = some dd ∧ H dd = some (.xd gs)) ∧ ExcK K C ∧ (∀ u, RelV c u → u = cv) ∧ PySem.W.kitOne K (.ref C) cv = some b ∧ Q (.bl b) H
theorem call_isV : CallR X (.builtin "isinstance") (rIsV X.K) := by
  intro pins s σ H xs us Q I r hh
  obtain ⟨a, C, d, c, cv, b, rfl, ha, hd, kc, hc, hk, q⟩ := hh
  obtain ⟨v1, v2, rfl, q1, q2⟩ := vals2 r
  obtain rfl : v1 = Value.ref a := q1
  obtain rfl := hc _ q2
  obtain ⟨oe, od, inst⟩ := exc_inst I.hok ha hd
  exact PySem.W.kia_one (PySem.W.kitx_exc kc.cl kc.ga kc.gt kc.sb kc.ha kc.hn kc.ht kc.hm) I.kIn inst hk (fun z => nomatch z) fun tk => ⟨.bl b, H, I.kept (t' := tk) fun _ _ z => z, rfl, q⟩
/-- isinstance(e, c): tab tells for the class of an exception whether it is one -/
def dIsV (tab : Addr → Bool → Prop) (te : DTE) : DTE := fun ρ w R => te ρ w fun s w1 => ∃ a C d b, s = .adr a ∧ w1 a = some (.exc C d) ∧ (d = none ∨ ∃ dd fs, d = some dd ∧ w1 dd = some (.xdc fs)) ∧ tab C b ∧ R (.dat (.bool b)) w1
theorem isV_in {s : Sl} {w1 : Om} {v : V} {D1 H1 : Hp} {tab : Addr → Bool → Prop} {R : DQ} (s1 : StOk X.K w1 D1 H1) (r1 : Vr X.K D1 v s)
    (h : ∃ a C d b, s = .adr a ∧ w1 a = some (.exc C d) ∧ (d = none ∨ ∃ dd fs, d = some dd ∧ w1 dd = some (.xdc fs)) ∧ tab C b ∧ R (.dat (.bool b)) w1) :
    ∃ a C d b, v = .ref a ∧ H1 a = some (ExcH a C d) ∧ (d = none ∨ ∃ dd gs, d = some dd ∧ H1 dd = some (.xd gs)) ∧ tab C b ∧ R (.dat (.bool b)) w1 := by
  obtain ⟨a, C, d, b, rfl, ha, hd, tb, hR⟩ := h
  refine ⟨a, C, d, b, r1, s1.own a _ ha, ?_, tb, hR⟩
  rcases hd with h0 | ⟨dd, fs, h0, hx⟩
  · exact .inl h0
  · obtain ⟨gs, h2, _⟩ := s1.own dd _ hx
    exact .inr ⟨dd, gs, h0, h2⟩
theorem de_isV {tn : Str} {C : Addr} {tab : Addr → Bool → Prop} (ht : ∀ D b, tab D b → ExcK X.K D ∧ PySem.W.kitOne X.K (.ref D) (.ref C) = some b) (he : DE X W Z e te) (hg : Gl X "isinstance") (hm : X.mg "isinstance" = none) (hgT : Gl X tn) (hmT : X.mg tn = some (.ref C)) (hd : (tn == ("__debug__" : Str)) = false := by decide)
    (hs : starEach [e, .Name tn p2] X.env = (false, eval e X.env) :: starEach [.Name tn p2] X.env := by rfl) (hpl : (backTo pos (starEach [.Name tn p2] X.env)).any (·.1) = false := by rfl) :
    DE X W Z (.Call (.Name "isinstance" p1) [e, .Name tn p2] [] pos) (dIsV tab te) :=
  pe_weak (pe_callB call_isV hg hm (by decide +kernel) (pa_cons he (pa_cons (pe_glob (v := .ref C) hgT hmT rfl hd) pa_nil) hs) (by decide) (by decide) hs hpl) fun σ H Q ⟨ρ, w, D, R, rp, xo, h, f⟩ => ⟨ρ, w, D, _, rp, xo, h, fun s w1 v D1 H1 h1 g1 s1 r1 => by
    obtain ⟨a, E, d, b, rfl, ha, hd, tb, hR⟩ := isV_in s1 r1 h1
    exact ⟨a, E, d, .ref C, .ref C, b, rfl, ha, hd, (ht E b tb).1, fun u hu => hu, (ht E b tb).2, (f.next g1).d s1 hR (.bl b)⟩⟩
theorem de_isVB {tn : Str} {T : String} {tab : Addr → Bool → Prop} (ht : ∀ D b, tab D b → ExcK X.K D ∧ PySem.W.kitOne X.K (.ref D) (.type T) = some b) (he : DE X W Z e te) (hg : Gl X "isinstance") (hm : X.mg "isinstance" = none) (hgT : Gl X tn) (hmT : X.mg tn = none) (hT : bootBuiltins tn = some (.type T)) (hn : tn ≠ "__name__" := by decide) (hd : (tn == ("__debug__" : Str)) = false := by decide)
    (hs : starEach [e, .Name tn p2] X.env = (false, eval e X.env) :: starEach [.Name tn p2] X.env := by rfl) (hpl : (backTo pos (starEach [.Name tn p2] X.env)).any (·.1) = false := by rfl) :
    DE X W Z (.Call (.Name "isinstance" p1) [e, .Name tn p2] [] pos) (dIsV tab te) :=
  pe_weak (pe_callB call_isV hg hm (by decide +kernel) (pa_cons he (pa_cons (pe_bltn (v := .ty T) hgT hmT hT rfl hn hd) pa_nil) hs) (by decide) (by decide) hs hpl) fun σ H Q ⟨ρ, w, D, R, rp, xo, h, f⟩ => ⟨ρ, w, D, _, rp, xo, h, fun s w1 v D1 H1 h1 g1 s1 r1 => by
    obtain ⟨a, E, d, b, rfl, ha, hd, tb, hR⟩ := isV_in s1 r1 h1
    exact ⟨a, E, d, .ty T, .type T, b, rfl, ha, hd, (ht E b tb).1, fun u hu => hu, (ht E b tb).2, (f.next g1).d s1 hR (.bl b)⟩⟩
def dXf (ok : Addr → Prop) (n : Str) (te : DTE) : DTE := fun ρ w R => te ρ w fun s w1 => ∃ a C dd fs z, s = .adr a ∧ w1 a = some (.exc C (some dd)) ∧ w1 dd = some (.xdc fs) ∧ ok C ∧ fs.lookup n = some z ∧ R z w1
def tXv (K : PySem.W.Frag) (n : Str) (te : TE) : TE := fun σ H Q => te σ H fun x H1 => ∃ (a C dd : Addr) (gs : List (Str × V)) (v : V), x = .ref a ∧ H1 a = some (ExcH a C (some dd)) ∧ H1 dd = some (.xd gs) ∧ XfC K C ∧ PySem.W.findIn K (.ref C) n = some none ∧ gs.lookup n = some v ∧ Q v H1
theorem pe_xv {n : Str} {t : TE} (he : PE X e t) (hb : attributeBase e n X.env (eval e X.env) = eval e X.env := by rfl) : PE X (.Attribute e n apos) (tXv X.K n t) := by
  refine ⟨fun pins s σ H Q I h => attr_of hb (thn (he.run pins s σ H _ I h) fun u s1 hh => ?_)⟩
  obtain ⟨y, H1, J, ry, a, C, dd, gs, v, rfl, ha, hx, T, hno, hl, q⟩ := hh
  obtain rfl : u = Value.ref a := ry
  obtain ⟨mA, ns, rel⟩ := (show ObjOk X.prog X.w H1 s1.heap dd (.xd gs) from J.hok dd _ hx)
  obtain ⟨od, got, look⟩ := lookIn_ns ns
  have rl := rel n
  rw [hl] at rl
  cases em : mA n with
  | none => rw [em] at rl; exact rl.elim
  | some w =>
    rw [em] at rl
    have x : ObjOk X.prog X.w H1 s1.heap a (ExcH a C (some dd)) := J.hok a _ ha
    obtain ⟨⟨oe, vs, g1, z, hv⟩, _⟩ := x
    have inst : PySem.W.InstAt s1.heap a oe C (some od) := ⟨g1, z.1, by unfold PySem.W.notCls; rw [hv] <;> rfl, by rw [z.2]; exact got⟩
    refine HandSPX.exc_get J.kIn inst T.ga T.gg T.exC (PySem.W.findObj_own T.hdC hno rfl ?_) (handed_of (v := v) rl) ⟨v, H1, J.tok _, rl, q⟩
    rw [look, em]
theorem de_xf {n : Str} {ok : Addr → Prop} (hk : ∀ C, ok C → XfC X.K C ∧ PySem.W.findIn X.K (.ref C) n = some none) (he : DE X W Z e te) (hb : attributeBase e n X.env (eval e X.env) = eval e X.env := by rfl) : DE X W Z (.Attribute e n apos) (dXf ok n te) :=
  pe_weak (pe_xv he hb) fun σ H Q ⟨ρ, w, D, R, rp, xo, h, f⟩ => ⟨ρ, w, D, _, rp, xo, h, fun s w1 v D1 H1 h1 g1 s1 r1 => by
    obtain ⟨a, C, dd, fs, z, rfl, ha, hd, hC, hl, hR⟩ := h1
    obtain ⟨gs, h2, h3⟩ := s1.own dd _ hd
    obtain ⟨y, q1, q2⟩ := fl_get h3 hl
    exact ⟨a, C, dd, gs, y, r1, s1.own a _ ha, h2, (hk C hC).1, (hk C hC).2, q1, (f.next g1) z w1 y D1 H1 hR (Gr.refl _ _ _) s1 q2⟩⟩
end
end DL
set_option Elab.async false
set_option linter.all false
set_option maxRecDepth 100000
set_option maxHeartbeats 4000000
namespace G
open PySem PySem.Spec PyProof.Rows L2 DL
theorem irange_nat (n : Nat) : irange 0 n = (List.range n).map fun (i : Nat) => Sl.dat (.int (i : Nat)) := by
  unfold irange
  refine List.map_congr_left fun i _ => ?_
  rw [Int.zero_add]
theorem line_val : sizeLine = 16777216 := by decide
theorem shaped_of {d : PyData} (h1 : d.canLay0 = true) (h2 : d.depth ≤ 60) : SeqAt.shaped d = true := by
  unfold SeqAt.shaped
  rw [h1, decide_eq_true (by omega)]; rfl
theorem layAll : ∀ {ds : List PyData}, (∀ d ∈ ds, d.canLay0 = true) → PyData.canLayAll0 ds = true
  | [], _ => by simp [PyData.canLayAll0]
  | d :: r, h => by
    simp only [PyData.canLayAll0, Bool.and_eq_true]
    exact ⟨h d List.mem_cons_self, layAll fun e he => h e (List.mem_cons_of_mem _ he)⟩
def Lay (n : Nat) (d : PyData) : Prop := d.canLay0 = true ∧ d.depth ≤ n
theorem Lay.mono {n m : Nat} {d : PyData} (h : Lay n d) (hm : n ≤ m) : Lay m d := ⟨h.1, Nat.le_trans h.2 hm⟩
theorem Lay.int (i : Int) : Lay 0 (.int i) := ⟨by unfold PyData.canLay0; rfl, by unfold PyData.depth; exact Nat.le_refl _⟩
theorem Lay.str (z : Str) (hz : PyData.strOk z = true := by decide +kernel) : Lay 0 (.str z) := ⟨by unfold PyData.canLay0; exact hz, by unfold PyData.depth; exact Nat.le_refl _⟩
theorem Lay.none : Lay 0 .none := ⟨by unfold PyData.canLay0; rfl, by unfold PyData.depth; exact Nat.le_refl _⟩
theorem Lay.bool (b : Bool) : Lay 0 (.bool b) := ⟨by unfold PyData.canLay0; rfl, by unfold PyData.depth; exact Nat.le_refl _⟩
theorem la_nil {n : Nat} : ∀ d ∈ ([] : List PyData), Lay n d := fun _ h => by cases h
theorem la_cons {n : Nat} {e : PyData} {ds : List PyData} (h : Lay n e) (hs : ∀ d ∈ ds, Lay n d) : ∀ d ∈ e :: ds, Lay n d := fun d hd => by
  rcases List.mem_cons.mp hd with rfl | hd
  · exact h
  · exact hs d hd
theorem depth_all {n : Nat} : ∀ {ds : List PyData}, (∀ d ∈ ds, Lay n d) → PyData.depthAll ds ≤ n
  | [], _ => by unfold PyData.depthAll; exact Nat.zero_le _
  | d :: ds, h => by
    unfold PyData.depthAll
    have := (h d List.mem_cons_self).2
    have := depth_all (ds := ds) fun e he => h e (List.mem_cons_of_mem _ he)
    omega
theorem Lay.tup {n : Nat} {ds : List PyData} (h : ∀ d ∈ ds, Lay n d) : Lay (n + 1) (.tuple ds) := ⟨by unfold PyData.canLay0; exact layAll fun d hd => (h d hd).1, by unfold PyData.depth; exact Nat.succ_le_succ (depth_all h)⟩
theorem Lay.lst {n : Nat} {ds : List PyData} (h : ∀ d ∈ ds, Lay n d) : Lay (n + 1) (.list ds) := ⟨by unfold PyData.canLay0; exact layAll fun d hd => (h d hd).1, by unfold PyData.depth; exact Nat.succ_le_succ (depth_all h)⟩
theorem Lay.sh {n : Nat} {d : PyData} (h : Lay n d) (hn : n ≤ 60) : SeqAt.shaped d = true := shaped_of h.1 (Nat.le_trans h.2 hn)
theorem plain_me {n : Nat} {d : PyData} (h : Lay n d) (hn : n ≤ 60) : plainEq d d = some true := by
  unfold plainEq
  split
  · simp
  · simp
  · simp
  · rw [h.sh hn]
    show some (PyData.eqv _ _) = _
    rw [PySem.SeqAt.eqv_refl _ h.1]
/-- data of bounded depth, no list of it very long -/
def okD : Nat → PyData → Bool
  | _, .none => true
  | _, .bool _ => true
  | _, .int _ => true
  | _, .str z => PyData.strOk z
  | n + 1, .list ds => decide (ds.length ≤ 1000000) && ds.all (okD n)
  | n + 1, .tuple ds => decide (ds.length ≤ 1000000) && ds.all (okD n)
  | _, _ => false
abbrev Lw (n : Nat) (d : PyData) : Prop := okD n d = true
theorem Lw.int (n : Nat) (i : Int) : Lw n (.int i) := by cases n <;> rfl
theorem Lw.none (n : Nat) : Lw n .none := by cases n <;> rfl
theorem Lw.bool (n : Nat) (b : Bool) : Lw n (.bool b) := by cases n <;> rfl
theorem Lw.str (n : Nat) (z : Str) (hz : PyData.strOk z = true := by decide +kernel) : Lw n (.str z) := by cases n <;> exact hz
theorem Lw.tup {n : Nat} {ds : List PyData} (hl : ds.length ≤ 1000000) (h : ∀ d ∈ ds, Lw n d) : Lw (n + 1) (.tuple ds) := by
  show (decide (ds.length ≤ 1000000) && ds.all (okD n)) = true
  rw [decide_eq_true hl, Bool.true_and, List.all_eq_true]; exact h
theorem Lw.lst {n : Nat} {ds : List PyData} (hl : ds.length ≤ 1000000) (h : ∀ d ∈ ds, Lw n d) : Lw (n + 1) (.list ds) := by
  show (decide (ds.length ≤ 1000000) && ds.all (okD n)) = true
  rw [decide_eq_true hl, Bool.true_and, List.all_eq_true]; exact h
theorem Lw.tup_inv {n : Nat} {ds : List PyData} (h : Lw n (.tuple ds)) : ∃ m, n = m + 1 ∧ ds.length ≤ 1000000 ∧ ∀ d ∈ ds, Lw m d := by
  cases n with
  | zero => cases h
  | succ n =>
    have h : (decide (ds.length ≤ 1000000) && ds.all (okD n)) = true := h
    rw [Bool.and_eq_true, List.all_eq_true] at h
    exact ⟨n, rfl, of_decide_eq_true h.1, h.2⟩
theorem Lw.lst_inv {n : Nat} {ds : List PyData} (h : Lw n (.list ds)) : ∃ m, n = m + 1 ∧ ds.length ≤ 1000000 ∧ ∀ d ∈ ds, Lw m d := by
  cases n with
  | zero => cases h
  | succ n =>
    have h : (decide (ds.length ≤ 1000000) && ds.all (okD n)) = true := h
    rw [Bool.and_eq_true, List.all_eq_true] at h
    exact ⟨n, rfl, of_decide_eq_true h.1, h.2⟩
theorem Lw.lay : ∀ {n : Nat} {d : PyData}, Lw n d → Lay n d
  | n, .none, _ => Lay.none.mono (Nat.zero_le _)
  | n, .bool b, _ => (Lay.bool b).mono (Nat.zero_le _)
  | n, .int b, _ => (Lay.int b).mono (Nat.zero_le _)
  | n, .str z, h => (Lay.str z (by cases n <;> exact h)).mono (Nat.zero_le _)
  | 0, .list ds, h => by cases h
  | 0, .tuple ds, h => by cases h
  | n + 1, .list ds, h => by
    obtain ⟨m, e, _, hd⟩ := Lw.lst_inv h
    cases e
    exact Lay.lst fun d hd' => Lw.lay (hd d hd')
  | n + 1, .tuple ds, h => by
    obtain ⟨m, e, _, hd⟩ := Lw.tup_inv h
    cases e
    exact Lay.tup fun d hd' => Lw.lay (hd d hd')
  | n, .dict _, h => by cases n <;> cases h
theorem Lw.mono : ∀ {n m : Nat} {d : PyData}, n ≤ m → Lw n d → Lw m d
  | n, m, .none, _, _ => Lw.none m
  | n, m, .bool b, _, _ => Lw.bool m b
  | n, m, .int b, _, _ => Lw.int m b
  | n, m, .str z, _, h => Lw.str m z (by cases n <;> exact h)
  | 0, m, .list ds, _, h => by cases h
  | 0, m, .tuple ds, _, h => by cases h
  | n + 1, m + 1, .list ds, hm, h => by
    obtain ⟨_, e, hl, hd⟩ := Lw.lst_inv h
    cases e
    exact Lw.lst hl fun d hd' => Lw.mono (Nat.le_of_succ_le_succ hm) (hd d hd')
  | n + 1, m + 1, .tuple ds, hm, h => by
    obtain ⟨_, e, hl, hd⟩ := Lw.tup_inv h
    cases e
    exact Lw.tup hl fun d hd' => Lw.mono (Nat.le_of_succ_le_succ hm) (hd d hd')
  | n, m, .dict _, _, h => by cases n <;> cases h
theorem lw_nil {n : Nat} : ∀ d ∈ ([] : List PyData), Lw n d := fun _ h => by cases h
theorem lw_cons {n : Nat} {e : PyData} {ds : List PyData} (h : Lw n e) (hs : ∀ d ∈ ds, Lw n d) : ∀ d ∈ e :: ds, Lw n d := fun d hd => by
  rcases List.mem_cons.mp hd with rfl | hd
  · exact h
  · exact hs d hd
def c_lb_alike (n : Nat) : Ct := fun ss w R => ∃ d, ss = [.dat d, .dat d] ∧ Lw n d ∧ n ≤ 50 ∧ R (.dat (.bool true)) w
theorem len_lb_alike {n ss w R} (h : c_lb_alike n ss w R) : ss.length = 2 := by obtain ⟨_, rfl, _⟩ := h; rfl
def N_lb_bag : List Str := ["cell", "k"]
def t_lb_bag : DTS :=
  (dRet (dLstD (dDats (dCB maxS (dCons (dC (.int 0)) (dCons (dOp gSub (dVar 0) (dOp gPow (dC (.int 10)) (dC (.int 18)))) dNil))) (dDats (dOp addS (dOp gMod (dVar 0) (dC (.int 162259276829213363391578010288127))) (dOp gMul (dC (.int 7919)) (dOp addS (dVar 1) (dC (.int 1))))) (dDats (dC (.int 0)) dNilD)))))
def N_lb_take : List Str := ["bag", "many", "found", "mixed"]
def t_lb_take : DTS :=
  (dSeq (dIfS (dTst (dOp gtS (dOp ixS (dVar 0) (dC (.int 0))) (dC (.int 1)))) (dSeq (dAsg (dOp gMod (dOp ixS (dVar 0) (dC (.int 0))) (dVar 1)) (dName 2))
  (dSeq (dAsg (dOp gDiv (dOp ixS (dVar 0) (dC (.int 0))) (dVar 1)) (dSetL (dVar 0) (dC (.int 0))))
  (dRet (dVar 2)))) dNext)
  (dSeq (dAsg (dOp addS (dOp ixS (dVar 0) (dC (.int 2))) (dC (.int 1))) (dSetL (dVar 0) (dC (.int 2))))
  (dSeq (dAsg (dOp gMod (dOp gPow (dOp addS (dOp ixS (dVar 0) (dC (.int 1))) (dOp gMul (dC (.int 1299709)) (dOp ixS (dVar 0) (dC (.int 2))))) (dC (.int 3))) (dC (.int 162259276829213363391578010288127))) (dName 3))
  (dSeq (dAsg (dOp gMod (dOp gPow (dOp addS (dVar 3) (dOp gMul (dC (.int 15485863)) (dOp ixS (dVar 0) (dC (.int 2))))) (dC (.int 5))) (dC (.int 618970019642690137449562111))) (dName 3))
  (dRet (dOp gMod (dOp gDiv (dVar 3) (dC (.int 1048576))) (dVar 1)))))))
def N_lb_alike : List Str := ["found", "due", "k"]
def t_lb_alike (cr : Ct) : DTS :=
  (dSeq (dIfS (dTst (dIsi2 .list .tuple (dVar 1))) (dSeq (dIfS (dOr (dTst (dOp (eqS true) (dIsi .list (dVar 0)) (dIsi .list (dVar 1)))) (dNot (dTst (dIsi2 .list .tuple (dVar 0))))) (dRet (dC (.bool false))) dNext)
  (dRet (dFz (dAndV (dOp (eqS false) (dCB lenS (dCons (dVar 0) dNil)) (dCB lenS (dCons (dVar 1) dNil))) (dCB allS (dCons (dFz (dLc (dRng1 (dCons (dCB lenS (dCons (dVar 1) dNil)) dNil)) (dName 2) dYes (dCall cr [] (dCons (dOp ixS (dVar 0) (dVar 2)) (dCons (dOp ixS (dVar 1) (dVar 2)) dNil))) [2])) dNil)))))) dNext)
  (dSeq (dIfS (dOr (dTst (dIsi .bool (dVar 1))) (dTst (dIsi .bool (dVar 0)))) (dRet (dFz (dAndV (dIsi .bool (dVar 1)) (dAndV (dIsi .bool (dVar 0)) (dOp (eqS false) (dVar 0) (dVar 1)))))) dNext)
  (dRet (dFz (dOp (eqS false) (dVar 0) (dVar 1))))))
theorem rd_lb_bag {ss w R} (h : c_law_bag ss w R) : t_lb_bag (endsN R) (startD N_lb_bag ss) w := by
  obtain ⟨c, k, rfl, hk, q⟩ := h
  refine ⟨_, rfl, _, liftI_ok (by decide), _, rfl, _, rfl, ?_⟩
  refine ⟨_, rfl, _, liftI_ok (by decide), _, rfl, _, rfl, _, liftI_ok (cMul_of (a := 64) (b := 64) (by decide) (small_abs (by omega) (by omega)) (by decide) (by decide) (by decide)), _, rfl, ?_⟩
  have e1 := Int.emod_nonneg c (show (162259276829213363391578010288127 : Int) ≠ 0 by decide)
  have e2 := Int.emod_lt_of_pos c (show (0 : Int) < 162259276829213363391578010288127 by decide)
  refine ⟨by show 3 ≤ sizeLine; decide, fun b hb => ⟨_, Sub.refl _, q b _ hb ⟨_, _, _, rfl, ?_, ?_, ?_, ?_⟩⟩⟩ <;> omega
theorem rd_lb_take {ss w R} (h : c_law_draw ss w R) : t_lb_take (endsN R) (startD N_lb_take ss) w := by
  obtain ⟨b, m, n, w0, rfl, ⟨x, y, z, rfl, hy, hy2, hz, hz2⟩, hm, hm2, hn, q⟩ := h
  have hb : put w0 b (bagO x y z) b = some (bagO x y z) := put_same
  have mb : m.natAbs < 2 ^ 100 := small_abs (by omega) hm2
  refine ⟨_, rfl, _, ixS_adr hb rfl, _, rfl, _, rfl, iteD (fun c => ?_) fun c => ?_⟩
  · refine ⟨_, rfl, _, ixS_adr hb rfl, _, rfl, _, liftI_ok (decide_eq_true hm), ?_⟩
    refine ⟨_, rfl, _, ixS_adr hb rfl, _, rfl, _, liftI_ok (cDiv_of hm mb (by decide) (by decide)), ?_⟩
    refine ⟨_, rfl, b, _, 0, 0, rfl, rfl, hb, rfl, ?_⟩
    refine ⟨_, rfl, _, Sub.refl _, q _ _ (Int.emod_nonneg _ (by omega)) (Int.emod_lt_of_pos _ hm) ⟨x / m, y, z, by rw [put_put]; rfl, hy, hy2, hz, by omega⟩⟩
  · refine ⟨_, rfl, _, ixS_adr hb rfl, _, rfl, ?_⟩
    refine ⟨_, rfl, b, _, 2, 2, rfl, rfl, hb, rfl, ?_⟩
    rw [put_put]
    have hb2 : put w0 b (bagO x y (z + 1)) b = some (bagO x y (z + 1)) := put_same
    show dSeq _ _ _ _ (put w0 b (bagO x y (z + 1)))
    refine ⟨_, rfl, _, ixS_adr hb2 rfl, _, rfl, _, ixS_adr hb2 rfl, _, liftI_ok (cMul_of (a := 64) (b := 64) (by decide) (small_abs (by omega) (by omega)) (by decide) (by decide) (by decide)), _, rfl, _, liftI_ok (cPow_of (a := 202) (small_abs (by omega) (by omega)) (by decide) (by decide) (by decide)), _, liftI_ok (by decide), ?_⟩
    generalize hmx : (y + 1299709 * (z + 1)) ^ (3 : Int).toNat % 162259276829213363391578010288127 = mx
    have e1 := Int.emod_nonneg ((y + 1299709 * (z + 1)) ^ (3 : Int).toNat) (show (162259276829213363391578010288127 : Int) ≠ 0 by decide)
    have e2 := Int.emod_lt_of_pos ((y + 1299709 * (z + 1)) ^ (3 : Int).toNat) (show (0 : Int) < 162259276829213363391578010288127 by decide)
    rw [hmx] at e1 e2
    refine ⟨_, rfl, _, rfl, _, ixS_adr hb2 rfl, _, liftI_ok (cMul_of (a := 64) (b := 64) (by decide) (small_abs (by omega) (by omega)) (by decide) (by decide) (by decide)), _, rfl, _, liftI_ok (cPow_of (a := 202) (small_abs (by omega) (by omega)) (by decide) (by decide) (by decide)), _, liftI_ok (by decide), ?_⟩
    refine ⟨_, rfl, _, liftI_ok (cDiv_of (b := 64) (by decide) (by decide) (by decide) (by decide)), _, rfl, _, liftI_ok (decide_eq_true hm), ?_⟩
    exact ⟨_, Sub.refl _, q _ _ (Int.emod_nonneg _ (by omega)) (Int.emod_lt_of_pos _ hm) ⟨x, y, z + 1, rfl, hy, hy2, by omega, by omega⟩⟩
theorem rd_lb_alike (n : Nat) {ss w R} (h : c_lb_alike n ss w R) : t_lb_alike (prev c_lb_alike n) (endsN R) (startD N_lb_alike ss) w := by
  obtain ⟨d, rfl, hd, hn, q⟩ := h
  have lv := line_val
  have seq : ∀ (ds : List PyData) (x : PyData), (x = .list ds ∨ x = .tuple ds) → d = x → Lw n x → t_lb_alike (prev c_lb_alike n) (endsN R) (startD N_lb_alike [.dat d, .dat d]) w := by
    rintro ds x hx rfl hl
    obtain ⟨m, rfl, hlen, hall⟩ : ∃ m, n = m + 1 ∧ ds.length ≤ 1000000 ∧ ∀ d ∈ ds, Lw m d := by
      rcases hx with rfl | rfl
      · exact Lw.lst_inv hl
      · exact Lw.tup_inv hl
    have hsq : sq w (.dat d) = some (ds.map Sl.dat) := by rcases hx with rfl | rfl <;> rfl
    have hix : ∀ (j : Nat) (e : PyData), ds[j]? = some e → ixS w (.dat d) (.dat (.int (j : Nat))) = some (.v (.dat e)) := fun j e he => by
      rcases hx with rfl | rfl
      · exact ixS_list (atI_nat he)
      · exact ixS_tup (atI_nat he)
    have go : (dRet (dFz (dAndV (dOp (eqS false) (dCB lenS (dCons (dVar 0) dNil)) (dCB lenS (dCons (dVar 1) dNil))) (dCB allS (dCons (dFz (dLc (dRng1 (dCons (dCB lenS (dCons (dVar 1) dNil)) dNil)) (dName 2) dYes (dCall (prev c_lb_alike (m + 1)) [] (dCons (dOp ixS (dVar 0) (dVar 2)) (dCons (dOp ixS (dVar 1) (dVar 2)) dNil))) [2])) dNil))))) (endsN R) (startD N_lb_alike [.dat d, .dat d]) w := by
      refine ⟨_, rfl, _, lenS_sq hsq, _, rfl, _, lenS_sq hsq, _, rfl, _, rfl, ?_⟩
      rw [List.length_map]
      rw [beq_self_eq_true]
      refine iteT ?_
      refine ⟨_, rfl, _, lenS_sq hsq, _, rfl, by omega, by rw [List.length_map]; omega, ?_⟩
      rw [List.length_map, Int.toNat_natCast, irange_nat]
      refine lc_map (w := w) (fun _ => .dat (.bool true)) trivial _ [] (fun x hx' C hC => ?_) (by rw [List.length_nil, List.length_map, List.length_range]; omega) fun p hp => ?_
      · obtain ⟨j, hj, rfl⟩ := List.mem_map.mp hx'
        have hj := List.mem_range.mp hj
        have hg : ds[j]? = some ds[j] := List.getElem?_eq_getElem hj
        refine ⟨_, rfl, _, rfl, _, hix j _ hg, _, rfl, _, rfl, _, hix j _ hg, ?_⟩
        dsimp only [DL.ret, dNil, List.append_nil]
        exact ⟨ds[j], rfl, hall _ (List.getElem_mem hj), by omega, hC⟩
      rw [List.nil_append]
      refine ⟨(List.range ds.length).map fun _ => .bool true, by rw [put_same, List.map_map, List.map_map]; rfl, ?_⟩
      rw [del_put hp]
      refine ⟨_, allS_ok (bs := (List.range ds.length).map fun _ => true) (by show some _ = some _; rw [List.map_map, List.map_map]; rfl), w, Sub.refl _, ?_⟩
      have : ((List.range ds.length).map fun _ => true).all id = true := by simp
      rw [this]
      exact q
    rcases hx with rfl | rfl
    · refine ⟨_, rfl, _, _, rfl, rfl, _, rfl, iteT ?_⟩
      refine ⟨_, rfl, _, rfl, _, rfl, _, rfl, _, rfl, _, rfl, iteF ?_⟩
      refine ⟨_, rfl, _, _, rfl, rfl, _, rfl, iteF ?_⟩
      exact go
    · refine ⟨_, rfl, _, _, rfl, rfl, _, rfl, iteT ?_⟩
      refine ⟨_, rfl, _, rfl, _, rfl, _, rfl, _, rfl, _, rfl, iteF ?_⟩
      refine ⟨_, rfl, _, _, rfl, rfl, _, rfl, iteF ?_⟩
      exact go
  have base : plainEq d d = some true := plain_me hd.lay (by omega)
  cases d with
  | list ds => exact seq ds _ (.inl rfl) rfl hd
  | tuple ds => exact seq ds _ (.inr rfl) rfl hd
  | dict kv => cases n <;> cases hd
  | bool b =>
    refine ⟨_, rfl, _, _, rfl, rfl, _, rfl, iteF ?_⟩
    refine ⟨_, rfl, _, rfl, _, rfl, iteT (iteT ?_)⟩
    refine ⟨_, rfl, _, rfl, _, rfl, iteT ?_⟩
    refine ⟨_, rfl, _, rfl, _, rfl, iteT ?_⟩
    refine ⟨_, rfl, _, rfl, _, eqS_ok rfl rfl base, w, Sub.refl _, q⟩
  | none =>
    refine ⟨_, rfl, _, _, rfl, rfl, _, rfl, iteF ?_⟩
    refine ⟨_, rfl, _, rfl, _, rfl, iteF ?_⟩
    refine ⟨_, rfl, _, rfl, _, rfl, iteF ?_⟩
    exact ⟨_, rfl, _, rfl, _, eqS_ok rfl rfl base, w, Sub.refl _, q⟩
  | int i =>
    refine ⟨_, rfl, _, _, rfl, rfl, _, rfl, iteF ?_⟩
    refine ⟨_, rfl, _, rfl, _, rfl, iteF ?_⟩
    refine ⟨_, rfl, _, rfl, _, rfl, iteF ?_⟩
    exact ⟨_, rfl, _, rfl, _, eqS_ok rfl rfl base, w, Sub.refl _, q⟩
  | str z =>
    refine ⟨_, rfl, _, _, rfl, rfl, _, rfl, iteF ?_⟩
    refine ⟨_, rfl, _, rfl, _, rfl, iteF ?_⟩
    refine ⟨_, rfl, _, rfl, _, rfl, iteF ?_⟩
    exact ⟨_, rfl, _, rfl, _, eqS_ok rfl rfl base, w, Sub.refl _, q⟩
end G
set_option Elab.async false
set_option linter.all false
set_option maxRecDepth 100000
set_option maxHeartbeats 4000000
namespace G
open PySem PySem.Spec PyProof.Rows L2 DL
theorem frzL {ds : List PyData} {w : Om} {k : PyData → Om → Prop} (hl : ds.length ≤ sizeLine) (h : k (.list ds) w) : ds.length ≤ sizeLine ∧ ∀ p, w p = none → frz (.adr p) (put w p (.lst (ds.map .dat))) k :=
  ⟨hl, fun p hp => ⟨ds, put_same, by rw [del_put hp]; exact h⟩⟩
theorem frzM {ds : List PyData} {w : Om} {k : PyData → Om → Prop} (hl : ds.length ≤ sizeLine) (h : k (.list ds) w) : (ds.map Sl.dat).length ≤ sizeLine ∧ ∀ p, w p = none → frz (.adr p) (put w p (.lst (ds.map .dat))) k := by
  rw [List.length_map]; exact frzL hl h
theorem addL {w : Om} {a b : List PyData} : addS w (.dat (.list a)) (.dat (.list b)) = some (.nl ((a ++ b).map .dat)) := by
  rw [List.map_append]; rfl
theorem atI_mem {α : Type} {xs : List α} {r : Int} (h0 : 0 ≤ r) (h1 : r < xs.length) : ∃ d, d ∈ xs ∧ atI xs r = some d := by
  obtain ⟨k, rfl⟩ := Int.eq_ofNat_of_zero_le h0
  have : k < xs.length := by omega
  exact ⟨xs[k], List.getElem_mem this, atI_lt this⟩
theorem eq_me {b : Bool} {n : Nat} {w : Om} {x y : Sl} {d : PyData} (h1 : rs w x = some d) (h2 : rs w y = some d) (h : Lay n d) (hn : n ≤ 60) : eqS b w x y = some (.v (.dat (.bool (true != b)))) := eqS_ok h1 h2 (plain_me h hn)
/-- the ten classes -/
structure XC where
  cBusy : Addr
  cFallen : Addr
  cNoDeed : Addr
  cNoHand : Addr
  cNoHands : Addr
  cNoKind : Addr
  cNoLetter : Addr
  cNoText : Addr
  cNoWorth : Addr
  cTooLong : Addr
def XC.l (x : XC) : List Addr := [x.cBusy, x.cFallen, x.cNoDeed, x.cNoHand, x.cNoHands, x.cNoKind, x.cNoLetter, x.cNoText, x.cNoWorth, x.cTooLong]
def xN : List Str := ["Busy", "Fallen", "NoDeed", "NoHand", "NoHands", "NoKind", "NoLetter", "NoText", "NoWorth", "TooLong"]
def bX (i j : Nat) : Bool := i == j || decide (10 ≤ j)
def tabX (x : XC) (j : Nat) (C : Addr) (b : Bool) : Prop := ∃ i, x.l[i]? = some C ∧ b = bX i j
def okX (x : XC) (f : Str) (C : Addr) : Prop := (f = "hand" ∧ (C = x.cBusy ∨ C = x.cFallen ∨ C = x.cNoHand)) ∨ (f = "deed" ∧ C = x.cNoDeed) ∨ (f = "number" ∧ C = x.cNoLetter) ∨ (f = "most" ∧ C = x.cTooLong)
def mineX (nm : Str) : PyData := .list [.str nm, .str "join", .str "value"]
def c_law_classes (x : XC) : Ct := fun ss w R => ∃ (a C : Addr) (d : Option Addr) (i : Nat) (nm : Str), ss = [.adr a] ∧ w a = some (.exc C d) ∧ (d = none ∨ ∃ dd fs, d = some dd ∧ w dd = some (.xdc fs)) ∧ x.l[i]? = some C ∧ xN[i]? = some nm ∧ R (.dat (mineX nm)) w
theorem len_law_classes {x : XC} {ss w R} (h : c_law_classes x ss w R) : ss.length = 1 := by obtain ⟨_, _, _, _, _, rfl, _⟩ := h; rfl
def fN : List Str := ["Busy", "Fallen", "NoDeed", "NoHand", "NoLetter", "TooLong"]
def gN : List Str := ["NoKind", "NoHands", "NoWorth", "NoText"]
def c_law_field (x : XC) : Ct := fun ss w R => ∃ (j : Nat) (nm : Str) (t : PyData), ss = [.dat (.int (j : Nat)), .dat t] ∧ fN[j]? = some nm ∧ R (.dat (.tuple [mineX nm, t, .str nm])) w
theorem len_law_field {x : XC} {ss w R} (h : c_law_field x ss w R) : ss.length = 2 := by obtain ⟨_, _, _, rfl, _⟩ := h; rfl
def c_law_plain (x : XC) : Ct := fun ss w R => ∃ (j : Nat) (nm : Str), ss = [.dat (.int (j : Nat))] ∧ gN[j]? = some nm ∧ R (.dat (.tuple [mineX nm, .str nm])) w
theorem len_law_plain {x : XC} {ss w R} (h : c_law_plain x ss w R) : ss.length = 1 := by obtain ⟨_, _, rfl, _⟩ := h; rfl
def N_law_classes : List Str := ["caught", "found", "pairs", "word", "there"]
def t_law_classes (x : XC) : DTS :=
  (dSeq (dAsg (dLstD dNilD) (dName 1))
  (dSeq (dAsg (dFz (dLstD (dDats (dTup (dDats (dC (.str "Busy")) (dDats (dIsV (tabX x 0) (dVar 0)) dNilD))) (dDats (dTup (dDats (dC (.str "Fallen")) (dDats (dIsV (tabX x 1) (dVar 0)) dNilD))) dNilD)))) (dName 2))
  (dSeq (dAsg (dFz (dOp addS (dVar 2) (dFz (dLstD (dDats (dTup (dDats (dC (.str "NoDeed")) (dDats (dIsV (tabX x 2) (dVar 0)) dNilD))) (dDats (dTup (dDats (dC (.str "NoHand")) (dDats (dIsV (tabX x 3) (dVar 0)) dNilD))) dNilD)))))) (dName 2))
  (dSeq (dAsg (dFz (dOp addS (dVar 2) (dFz (dLstD (dDats (dTup (dDats (dC (.str "NoHands")) (dDats (dIsV (tabX x 4) (dVar 0)) dNilD))) (dDats (dTup (dDats (dC (.str "NoKind")) (dDats (dIsV (tabX x 5) (dVar 0)) dNilD))) dNilD)))))) (dName 2))
  (dSeq (dAsg (dFz (dOp addS (dVar 2) (dFz (dLstD (dDats (dTup (dDats (dC (.str "NoLetter")) (dDats (dIsV (tabX x 6) (dVar 0)) dNilD))) (dDats (dTup (dDats (dC (.str "NoText")) (dDats (dIsV (tabX x 7) (dVar 0)) dNilD))) dNilD)))))) (dName 2))
  (dSeq (dAsg (dFz (dOp addS (dVar 2) (dFz (dLstD (dDats (dTup (dDats (dC (.str "NoWorth")) (dDats (dIsV (tabX x 8) (dVar 0)) dNilD))) (dDats (dTup (dDats (dC (.str "TooLong")) (dDats (dIsV (tabX x 9) (dVar 0)) dNilD))) dNilD)))))) (dName 2))
  (dSeq (dAsg (dFz (dOp addS (dVar 2) (dFz (dLstD (dDats (dTup (dDats (dC (.str "join")) (dDats (dIsV (tabX x 10) (dVar 0)) dNilD))) (dDats (dTup (dDats (dC (.str "value")) (dDats (dIsV (tabX x 11) (dVar 0)) dNilD))) dNilD)))))) (dName 2))
  (dSeq (dFor (dSeqI (dVar 2)) (dGTup 2 (dGCons (dName 3) (dGCons (dName 4) dGNil))) (dIfS (dTst (dVar 4)) (dDrop (dApp (dVar 1) (dVar 3))) dNext))
  (dRet (dFz (dVar 1)))))))))))
def N_law_field : List Str := ["pick", "thing", "one"]
def t_law_field (x : XC) : DTS :=
  (dSeq (dIfS (dTst (dOp (eqS false) (dVar 0) (dC (.int 0)))) (dSeq (dAsg (dMkE x.cBusy "hand" (dCons (dVar 1) dNil)) (dName 2))
  (dRet (dTup (dDats (dCall (c_law_classes x) [] (dCons (dVar 2) dNil)) (dDats (dXf (okX x "hand") "hand" (dVar 2)) (dDats (dC (.str "Busy")) dNilD)))))) dNext)
  (dSeq (dIfS (dTst (dOp (eqS false) (dVar 0) (dC (.int 1)))) (dSeq (dAsg (dMkE x.cFallen "hand" (dCons (dVar 1) dNil)) (dName 2))
  (dRet (dTup (dDats (dCall (c_law_classes x) [] (dCons (dVar 2) dNil)) (dDats (dXf (okX x "hand") "hand" (dVar 2)) (dDats (dC (.str "Fallen")) dNilD)))))) dNext)
  (dSeq (dIfS (dTst (dOp (eqS false) (dVar 0) (dC (.int 2)))) (dSeq (dAsg (dMkE x.cNoDeed "deed" (dCons (dVar 1) dNil)) (dName 2))
  (dRet (dTup (dDats (dCall (c_law_classes x) [] (dCons (dVar 2) dNil)) (dDats (dXf (okX x "deed") "deed" (dVar 2)) (dDats (dC (.str "NoDeed")) dNilD)))))) dNext)
  (dSeq (dIfS (dTst (dOp (eqS false) (dVar 0) (dC (.int 3)))) (dSeq (dAsg (dMkE x.cNoHand "hand" (dCons (dVar 1) dNil)) (dName 2))
  (dRet (dTup (dDats (dCall (c_law_classes x) [] (dCons (dVar 2) dNil)) (dDats (dXf (okX x "hand") "hand" (dVar 2)) (dDats (dC (.str "NoHand")) dNilD)))))) dNext)
  (dSeq (dIfS (dTst (dOp (eqS false) (dVar 0) (dC (.int 4)))) (dSeq (dAsg (dMkE x.cNoLetter "number" (dCons (dVar 1) dNil)) (dName 2))
  (dRet (dTup (dDats (dCall (c_law_classes x) [] (dCons (dVar 2) dNil)) (dDats (dXf (okX x "number") "number" (dVar 2)) (dDats (dC (.str "NoLetter")) dNilD)))))) dNext)
  (dSeq (dAsg (dMkE x.cTooLong "most" (dCons (dVar 1) dNil)) (dName 2))
  (dRet (dTup (dDats (dCall (c_law_classes x) [] (dCons (dVar 2) dNil)) (dDats (dXf (okX x "most") "most" (dVar 2)) (dDats (dC (.str "TooLong")) dNilD)))))))))))
def N_law_plain : List Str := ["pick"]
def t_law_plain (x : XC) : DTS :=
  (dSeq (dIfS (dTst (dOp (eqS false) (dVar 0) (dC (.int 0)))) (dRet (dTup (dDats (dCall (c_law_classes x) [] (dCons (dMk0 x.cNoKind) dNil)) (dDats (dC (.str "NoKind")) dNilD)))) dNext)
  (dSeq (dIfS (dTst (dOp (eqS false) (dVar 0) (dC (.int 1)))) (dRet (dTup (dDats (dCall (c_law_classes x) [] (dCons (dMk0 x.cNoHands) dNil)) (dDats (dC (.str "NoHands")) dNilD)))) dNext)
  (dSeq (dIfS (dTst (dOp (eqS false) (dVar 0) (dC (.int 2)))) (dRet (dTup (dDats (dCall (c_law_classes x) [] (dCons (dMk0 x.cNoWorth) dNil)) (dDats (dC (.str "NoWorth")) dNilD)))) dNext)
  (dRet (dTup (dDats (dCall (c_law_classes x) [] (dCons (dMk0 x.cNoText) dNil)) (dDats (dC (.str "NoText")) dNilD)))))))
def N_law : List Str := ["script", "k", "bag", "j", "thing", "found", "field", "word"]
def t_law (x : XC) : DTS :=
  (dSeq (dFor (dRng1 (dCons (dCB maxS (dCons (dC (.int 1)) (dCons (dCB minS (dCons (dC (.int 8)) (dCons (dCB lenS (dCons (dVar 0) dNil)) dNil))) dNil))) dNil)) (dName 1) (dSeq (dAsg (dCall c_law_bag [] (dCons (dCall c_law_cell_at [] (dCons (dVar 0) (dCons (dVar 1) dNil))) (dCons (dVar 1) dNil))) (dName 2))
  (dSeq (dFor (dRng1 (dCons (dC (.int 6)) dNil)) (dName 3) (dSeq (dAsg (dOp ixS (dFz (dLstD (dDats (dCall c_law_draw [] (dCons (dVar 2) (dCons (dOp gPow (dC (.int 10)) (dC (.int 18))) dNil))) (dDats (dNeg (dC (.int 3))) (dDats (dC (.bool true)) (dDats (dC .none) (dDats (dC (.str "a")) (dDats (dTup (dDats (dC (.int 1)) (dDats (dC (.int 2)) dNilD))) dNilD)))))))) (dCall c_law_draw [] (dCons (dVar 2) (dCons (dC (.int 6)) dNil)))) (dName 4))
  (dSeq (dAsg (dCall (c_law_field x) [] (dCons (dVar 3) (dCons (dVar 4) dNil))) (dGTup 3 (dGCons (dName 5) (dGCons (dName 6) (dGCons (dName 7) dGNil)))))
  (dIfS (dOr (dTst (dOp (eqS true) (dVar 5) (dFz (dLstD (dDats (dVar 7) (dDats (dC (.str "join")) (dDats (dC (.str "value")) dNilD))))))) (dNot (dTst (dCall (c_lb_alike 16) [] (dCons (dVar 6) (dCons (dVar 4) dNil)))))) (dRet (dC (.bool false))) dNext))))
  (dFor (dRng1 (dCons (dC (.int 4)) dNil)) (dName 3) (dSeq (dAsg (dCall (c_law_plain x) [] (dCons (dVar 3) dNil)) (dGTup 2 (dGCons (dName 5) (dGCons (dName 7) dGNil))))
  (dIfS (dTst (dOp (eqS true) (dVar 5) (dFz (dLstD (dDats (dVar 7) (dDats (dC (.str "join")) (dDats (dC (.str "value")) dNilD))))))) (dRet (dC (.bool false))) dNext))))))
  (dRet (dC (.bool true))))
def tupX (p : Str × Bool) : PyData := .tuple [.str p.1, .bool p.2]
theorem cls_go {ok : Om → Prop} {F : DEnds} {a pf : Addr} {w0 : Om} {P : Option Sl} (hok : ∀ w, ok w) : ∀ (ps : List (Str × Bool)) (acc : List Str) (x3 x4 : Option Sl), acc.length + ps.length ≤ 100 →
    (∀ x3 x4, F.nx [some (.adr a), some (.adr pf), P, x3, x4] (put w0 pf (.lst ((acc ++ (ps.filter (·.2)).map (·.1)).map fun z => .dat (.str z))))) →
    dLoop ok (dGTup 2 (dGCons (dName 3) (dGCons (dName 4) dGNil))) (dIfS (dTst (dVar 4)) (dDrop (dApp (dVar 1) (dVar 3))) dNext) F (ps.map fun p => .dat (tupX p)) [some (.adr a), some (.adr pf), P, x3, x4] (put w0 pf (.lst (acc.map fun z => .dat (.str z))))
  | [], acc, x3, x4, _, h => ⟨hok _, by have := h x3 x4; rw [List.filter_nil, List.map_nil, List.append_nil] at this; exact this⟩
  | (z, b) :: ps, acc, x3, x4, hl, h => by
    have lv := line_val
    rw [List.length_cons] at hl
    refine ⟨hok _, ?_⟩
    refine ⟨_, rfl, rfl, _, _, rfl, _, _, rfl, rfl, ?_⟩
    cases b with
    | true =>
      refine ⟨_, rfl, _, rfl, ?_⟩
      refine iteT ?_
      refine ⟨_, rfl, pf, _, rfl, put_same, _, rfl, _, put_same, by rw [List.length_map]; omega, ?_⟩
      rw [put_put]
      have := cls_go hok ps (acc ++ [z]) (some (.dat (.str z))) (some (.dat (.bool true))) (F := F) (a := a) (pf := pf) (w0 := w0) (P := P) (by rw [List.length_append]; simp; omega) (fun y3 y4 => by
        have := h y3 y4
        rw [List.filter_cons_of_pos rfl, List.map_cons] at this
        rw [List.append_assoc]
        exact this)
      rw [List.map_append] at this
      exact this
    | false =>
      refine ⟨_, rfl, _, rfl, ?_⟩
      refine iteF ?_
      exact cls_go hok ps acc _ _ (by omega) fun y3 y4 => by
        have := h y3 y4
        rw [List.filter_cons_of_neg (by simp)] at this
        exact this
def pX (i : Nat) : List (Str × Bool) := [("Busy", bX i 0), ("Fallen", bX i 1), ("NoDeed", bX i 2), ("NoHand", bX i 3), ("NoHands", bX i 4), ("NoKind", bX i 5), ("NoLetter", bX i 6), ("NoText", bX i 7), ("NoWorth", bX i 8), ("TooLong", bX i 9), ("join", bX i 10), ("value", bX i 11)]
theorem pX_all : ∀ (i : Nat) (nm : Str), xN[i]? = some nm → ((pX i).filter (·.2)).map (·.1) = [nm, "join", "value"]
  | 0, _, h => by cases h; rfl
  | 1, _, h => by cases h; rfl
  | 2, _, h => by cases h; rfl
  | 3, _, h => by cases h; rfl
  | 4, _, h => by cases h; rfl
  | 5, _, h => by cases h; rfl
  | 6, _, h => by cases h; rfl
  | 7, _, h => by cases h; rfl
  | 8, _, h => by cases h; rfl
  | 9, _, h => by cases h; rfl
  | i + 10, _, h => by cases h
theorem rd_law_classes {x : XC} {ss w R} (h : c_law_classes x ss w R) : t_law_classes x (endsN R) (startD N_law_classes ss) w := by
  obtain ⟨a, C, d, i, nm, rfl, ha, hd, hi, hn, q⟩ := h
  have lv := line_val
  refine ⟨by show 0 ≤ sizeLine; omega, fun pf hp => ?_⟩
  have nap : a ≠ pf := fun z => by rw [z, hp] at ha; cases ha
  obtain ⟨w1, ew⟩ : ∃ w1, w1 = put w pf (.lst (([] : List PyData).map .dat)) := ⟨_, rfl⟩
  rw [← ew]
  have ha1 : w1 a = some (.exc C d) := by rw [ew, put_ne nap]; exact ha
  have hd1 : d = none ∨ ∃ dd fs, d = some dd ∧ w1 dd = some (.xdc fs) := by
    rcases hd with e | ⟨dd, fs, e1, e2⟩
    · exact .inl e
    · exact .inr ⟨dd, fs, e1, by rw [ew, put_ne (fun z => by rw [z, hp] at e2; cases e2)]; exact e2⟩
  refine ⟨_, rfl, a, C, d, _, rfl, ha1, hd1, ⟨i, hi, rfl⟩, ?_⟩
  refine ⟨by show 2 ≤ sizeLine; omega, ?_⟩
  refine ⟨_, rfl, a, C, d, _, rfl, ha1, hd1, ⟨i, hi, rfl⟩, ?_⟩
  refine ⟨by show 2 ≤ sizeLine; omega, ?_⟩
  refine frzL (by show 2 ≤ sizeLine; omega) ?_
  refine ⟨_, rfl, ?_⟩
  refine ⟨_, rfl, a, C, d, _, rfl, ha1, hd1, ⟨i, hi, rfl⟩, ?_⟩
  refine ⟨by show 2 ≤ sizeLine; omega, ?_⟩
  refine ⟨_, rfl, a, C, d, _, rfl, ha1, hd1, ⟨i, hi, rfl⟩, ?_⟩
  refine ⟨by show 2 ≤ sizeLine; omega, ?_⟩
  refine frzL (by show 2 ≤ sizeLine; omega) ?_
  refine ⟨_, addL, ?_⟩
  refine frzM (by show 4 ≤ sizeLine; omega) ?_
  refine ⟨_, rfl, ?_⟩
  refine ⟨_, rfl, a, C, d, _, rfl, ha1, hd1, ⟨i, hi, rfl⟩, ?_⟩
  refine ⟨by show 2 ≤ sizeLine; omega, ?_⟩
  refine ⟨_, rfl, a, C, d, _, rfl, ha1, hd1, ⟨i, hi, rfl⟩, ?_⟩
  refine ⟨by show 2 ≤ sizeLine; omega, ?_⟩
  refine frzL (by show 2 ≤ sizeLine; omega) ?_
  refine ⟨_, addL, ?_⟩
  refine frzM (by show 6 ≤ sizeLine; omega) ?_
  refine ⟨_, rfl, ?_⟩
  refine ⟨_, rfl, a, C, d, _, rfl, ha1, hd1, ⟨i, hi, rfl⟩, ?_⟩
  refine ⟨by show 2 ≤ sizeLine; omega, ?_⟩
  refine ⟨_, rfl, a, C, d, _, rfl, ha1, hd1, ⟨i, hi, rfl⟩, ?_⟩
  refine ⟨by show 2 ≤ sizeLine; omega, ?_⟩
  refine frzL (by show 2 ≤ sizeLine; omega) ?_
  refine ⟨_, addL, ?_⟩
  refine frzM (by show 8 ≤ sizeLine; omega) ?_
  refine ⟨_, rfl, ?_⟩
  refine ⟨_, rfl, a, C, d, _, rfl, ha1, hd1, ⟨i, hi, rfl⟩, ?_⟩
  refine ⟨by show 2 ≤ sizeLine; omega, ?_⟩
  refine ⟨_, rfl, a, C, d, _, rfl, ha1, hd1, ⟨i, hi, rfl⟩, ?_⟩
  refine ⟨by show 2 ≤ sizeLine; omega, ?_⟩
  refine frzL (by show 2 ≤ sizeLine; omega) ?_
  refine ⟨_, addL, ?_⟩
  refine frzM (by show 10 ≤ sizeLine; omega) ?_
  refine ⟨_, rfl, ?_⟩
  refine ⟨_, rfl, a, C, d, _, rfl, ha1, hd1, ⟨i, hi, rfl⟩, ?_⟩
  refine ⟨by show 2 ≤ sizeLine; omega, ?_⟩
  refine ⟨_, rfl, a, C, d, _, rfl, ha1, hd1, ⟨i, hi, rfl⟩, ?_⟩
  refine ⟨by show 2 ≤ sizeLine; omega, ?_⟩
  refine frzL (by show 2 ≤ sizeLine; omega) ?_
  refine ⟨_, addL, ?_⟩
  refine frzM (by show 12 ≤ sizeLine; omega) ?_
  refine ⟨_, rfl, _, rfl, ?_⟩
  rw [ew]
  refine cls_go (ok := fun _ => True) (fun _ => trivial) (pX i) [] none none (by show 0 + 12 ≤ 100; decide) fun x3 x4 => ?_
  rw [pX_all i nm hn]
  refine ⟨_, rfl, [.str nm, .str "join", .str "value"], put_same, ?_⟩
  rw [del_put hp]
  exact ⟨w, Sub.refl _, q⟩
theorem field_go {x : XC} {F : DEnds} {a d C : Addr} {f : Str} {t : PyData} {ok : Addr → Prop} {i j : Nat} {nm : Str} {w : Om} (hi : x.l[i]? = some C) (hn : xN[i]? = some nm) (hk : ok C) (ha : w a = none) (hd : w d = none) (hne : a ≠ d) (q : ∀ u, Sub w u → F.rt (.dat (.tuple [mineX nm, t, .str nm])) u) :
    dRet (dTup (dDats (dCall (c_law_classes x) [] (dCons (dVar 2) dNil)) (dDats (dXf ok f (dVar 2)) (dDats (dC (.str nm)) dNilD)))) F [some (.dat (.int (j : Nat))), some (.dat t), some (.adr a)] (put (put w d (.xdc [(f, .dat t)])) a (.exc C (some d))) := by
  have lv := line_val
  have hx : (put (put w d (.xdc [(f, Sl.dat t)])) a (.exc C (some d))) d = some (.xdc [(f, .dat t)]) := by rw [put_ne (Ne.symm hne), put_same]
  refine ⟨_, rfl, a, C, some d, i, nm, rfl, put_same, .inr ⟨d, _, rfl, hx⟩, hi, hn, ?_⟩
  refine ⟨_, rfl, a, C, d, _, .dat t, rfl, put_same, hx, hk, by simp [List.lookup], ?_⟩
  exact ⟨by show 3 ≤ sizeLine; omega, q _ ((Sub.new hd).trans (Sub.new (by rw [put_ne hne]; exact ha)))⟩
theorem rd_law_field {x : XC} {ss w R} (h : c_law_field x ss w R) : t_law_field x (endsN R) (startD N_law_field ss) w := by
  obtain ⟨j, nm, t, rfl, hn, q⟩ := h
  have fin : ∀ u, Sub w u → (endsN R).rt (.dat (.tuple [mineX nm, t, .str nm])) u := fun u hu => ⟨w, hu, q⟩
  match j, hn with
  | 0, hn =>
    cases hn
    refine ⟨_, rfl, _, rfl, _, rfl, iteT ?_⟩
    exact ⟨_, rfl, _, rfl, fun a d ha hd hne => field_go (x := x) (i := 0) (nm := "Busy") rfl rfl (.inl ⟨rfl, .inl rfl⟩) ha hd hne fin⟩
  | 1, hn =>
    cases hn
    refine ⟨_, rfl, _, rfl, _, rfl, iteF ?_⟩
    refine ⟨_, rfl, _, rfl, _, rfl, iteT ?_⟩
    exact ⟨_, rfl, _, rfl, fun a d ha hd hne => field_go (x := x) (i := 1) (nm := "Fallen") rfl rfl (.inl ⟨rfl, .inr (.inl rfl)⟩) ha hd hne fin⟩
  | 2, hn =>
    cases hn
    refine ⟨_, rfl, _, rfl, _, rfl, iteF ?_⟩
    refine ⟨_, rfl, _, rfl, _, rfl, iteF ?_⟩
    refine ⟨_, rfl, _, rfl, _, rfl, iteT ?_⟩
    exact ⟨_, rfl, _, rfl, fun a d ha hd hne => field_go (x := x) (i := 2) (nm := "NoDeed") rfl rfl (.inr (.inl ⟨rfl, rfl⟩)) ha hd hne fin⟩
  | 3, hn =>
    cases hn
    refine ⟨_, rfl, _, rfl, _, rfl, iteF ?_⟩
    refine ⟨_, rfl, _, rfl, _, rfl, iteF ?_⟩
    refine ⟨_, rfl, _, rfl, _, rfl, iteF ?_⟩
    refine ⟨_, rfl, _, rfl, _, rfl, iteT ?_⟩
    exact ⟨_, rfl, _, rfl, fun a d ha hd hne => field_go (x := x) (i := 3) (nm := "NoHand") rfl rfl (.inl ⟨rfl, .inr (.inr rfl)⟩) ha hd hne fin⟩
  | 4, hn =>
    cases hn
    refine ⟨_, rfl, _, rfl, _, rfl, iteF ?_⟩
    refine ⟨_, rfl, _, rfl, _, rfl, iteF ?_⟩
    refine ⟨_, rfl, _, rfl, _, rfl, iteF ?_⟩
    refine ⟨_, rfl, _, rfl, _, rfl, iteF ?_⟩
    refine ⟨_, rfl, _, rfl, _, rfl, iteT ?_⟩
    exact ⟨_, rfl, _, rfl, fun a d ha hd hne => field_go (x := x) (i := 6) (nm := "NoLetter") rfl rfl (.inr (.inr (.inl ⟨rfl, rfl⟩))) ha hd hne fin⟩
  | 5, hn =>
    cases hn
    refine ⟨_, rfl, _, rfl, _, rfl, iteF ?_⟩
    refine ⟨_, rfl, _, rfl, _, rfl, iteF ?_⟩
    refine ⟨_, rfl, _, rfl, _, rfl, iteF ?_⟩
    refine ⟨_, rfl, _, rfl, _, rfl, iteF ?_⟩
    refine ⟨_, rfl, _, rfl, _, rfl, iteF ?_⟩
    exact ⟨_, rfl, _, rfl, fun a d ha hd hne => field_go (x := x) (i := 9) (nm := "TooLong") rfl rfl (.inr (.inr (.inr ⟨rfl, rfl⟩))) ha hd hne fin⟩
  | j + 6, hn => cases hn
theorem plain_go {x : XC} {F : DEnds} {C : Addr} {i j : Nat} {nm : Str} {w : Om} (hi : x.l[i]? = some C) (hn : xN[i]? = some nm) (q : ∀ u, Sub w u → F.rt (.dat (.tuple [mineX nm, .str nm])) u) :
    dRet (dTup (dDats (dCall (c_law_classes x) [] (dCons (dMk0 C) dNil)) (dDats (dC (.str nm)) dNilD))) F [some (.dat (.int (j : Nat)))] w := by
  have lv := line_val
  intro a ha
  refine ⟨a, C, none, i, nm, rfl, put_same, .inl rfl, hi, hn, ?_⟩
  exact ⟨by show 2 ≤ sizeLine; omega, q _ (Sub.new ha)⟩
theorem rd_law_plain {x : XC} {ss w R} (h : c_law_plain x ss w R) : t_law_plain x (endsN R) (startD N_law_plain ss) w := by
  obtain ⟨j, nm, rfl, hn, q⟩ := h
  have fin : ∀ u, Sub w u → (endsN R).rt (.dat (.tuple [mineX nm, .str nm])) u := fun u hu => ⟨w, hu, q⟩
  match j, hn with
  | 0, hn =>
    cases hn
    refine ⟨_, rfl, _, rfl, _, rfl, iteT ?_⟩
    exact plain_go (x := x) (i := 5) (nm := "NoKind") rfl rfl fin
  | 1, hn =>
    cases hn
    refine ⟨_, rfl, _, rfl, _, rfl, iteF ?_⟩
    refine ⟨_, rfl, _, rfl, _, rfl, iteT ?_⟩
    exact plain_go (x := x) (i := 4) (nm := "NoHands") rfl rfl fin
  | 2, hn =>
    cases hn
    refine ⟨_, rfl, _, rfl, _, rfl, iteF ?_⟩
    refine ⟨_, rfl, _, rfl, _, rfl, iteF ?_⟩
    refine ⟨_, rfl, _, rfl, _, rfl, iteT ?_⟩
    exact plain_go (x := x) (i := 8) (nm := "NoWorth") rfl rfl fin
  | 3, hn =>
    cases hn
    refine ⟨_, rfl, _, rfl, _, rfl, iteF ?_⟩
    refine ⟨_, rfl, _, rfl, _, rfl, iteF ?_⟩
    refine ⟨_, rfl, _, rfl, _, rfl, iteF ?_⟩
    exact plain_go (x := x) (i := 7) (nm := "NoText") rfl rfl fin
  | j + 4, hn => cases hn
theorem len_law {ss w R} (h : cLaw ss w R) : ss.length = 1 := by obtain ⟨_, rfl, _⟩ := h; rfl
theorem mine_lay (nm : Str) (h : PyData.strOk nm = true) : Lay 1 (mineX nm) := Lay.lst (la_cons (Lay.str _ h) (la_cons (Lay.str _) (la_cons (Lay.str _) la_nil)))
theorem fN_ok : ∀ nm ∈ fN, PyData.strOk nm = true := by decide +kernel
theorem gN_ok : ∀ nm ∈ gN, PyData.strOk nm = true := by decide +kernel
theorem rd_law {x : XC} {ss w R} (h : cLaw ss w R) : t_law x (endsN R) (startD N_law ss) w := by
  obtain ⟨ns, rfl, hl, q⟩ := h
  have lv := line_val
  refine ⟨_, rfl, _, lenS_sq rfl, _, rfl, _, rfl, _, rfl, ?_, ?_, ?_⟩
  · rw [List.length_map]; split <;> split <;> omega
  · rw [List.length_map]; split <;> split <;> omega
  refine loop_inv (fun r ρ w' => ∃ (x1 x2 x3 x4 x5 x6 x7 : Option Sl), (∀ s ∈ r, ∃ i : Nat, i ≤ 90 ∧ s = .dat (.int (i : Nat))) ∧ ρ = [some (.scr ns), x1, x2, x3, x4, x5, x6, x7]) ⟨none, none, none, none, none, none, none, fun s hs => ?_, rfl⟩ (fun _ _ _ _ => trivial) ?_ ?_
  · generalize eL : Int.toNat _ = L at hs
    have hL : L ≤ 8 := by
      rw [← eL, List.length_map]
      split <;> split <;> omega
    rw [irange_nat] at hs
    obtain ⟨i, hi, rfl⟩ := List.mem_map.mp hs
    have := List.mem_range.mp hi
    exact ⟨i, by omega, rfl⟩
  · rintro s r ρ w' ⟨x1, x2, x3, x4, x5, x6, x7, hs, rfl⟩ ih
    obtain ⟨i, hi, rfl⟩ := hs s List.mem_cons_self
    have hs' := fun s h => hs s (List.mem_cons_of_mem _ h)
    refine ⟨_, rfl, _, rfl, ?_⟩
    dsimp only [dNil, List.append_nil]
    refine ⟨ns, i, rfl, hl, fun c => ?_⟩
    refine ⟨_, rfl, ?_⟩
    dsimp only [dNil, List.append_nil]
    refine ⟨c, i, rfl, by omega, fun b w1 hb hB => ?_⟩
    refine ⟨6, rfl, by decide, by decide, ?_⟩
    refine loop_inv (fun r ρ w2 => ∃ (n : Nat) (x3 x4 x5 x6 x7 : Option Sl), (∀ s ∈ r, ∃ i : Nat, i < 6 ∧ s = .dat (.int (i : Nat))) ∧ n + 2 * r.length ≤ 12 ∧ Bg b n w' w2 ∧ ρ = [some (.scr ns), some (.dat (.int (i : Nat))), some (.adr b), x3, x4, x5, x6, x7])
      ⟨0, x3, x4, x5, x6, x7, fun s hs => ?_, by decide, hB, rfl⟩ (fun _ _ _ _ => trivial) ?_ ?_
    · rw [show (6 : Int).toNat = 6 from rfl, irange_nat] at hs
      obtain ⟨j, hj, rfl⟩ := List.mem_map.mp hs
      exact ⟨j, List.mem_range.mp hj, rfl⟩
    · rintro s r2 ρ w2 ⟨n, y3, y4, y5, y6, y7, hj, hn, hB, rfl⟩ ih2
      obtain ⟨j, hj6, rfl⟩ := hj s List.mem_cons_self
      have hj' := fun s h => hj s (List.mem_cons_of_mem _ h)
      rw [List.length_cons] at hn
      refine ⟨_, rfl, _, liftI_ok (by decide), ?_⟩
      dsimp only [dNil, List.append_nil]
      refine ⟨b, (10 : Int) ^ (18 : Int).toNat, n, w', rfl, hB, by decide, by decide, by omega, fun r w3 r0 r1 hB3 => ?_⟩
      refine ⟨_, rfl, by show 2 ≤ sizeLine; omega, ?_⟩
      refine frzL (by show 6 ≤ sizeLine; omega) ?_
      refine ⟨_, rfl, ?_⟩
      dsimp only [dCons, dC, dNil, List.append_nil]
      refine ⟨b, 6, n + 1, w', rfl, hB3, by decide, by decide, by omega, fun r' w4 r0' r1' hB4 => ?_⟩
      obtain ⟨t, ht, hat⟩ := atI_mem (xs := [PyData.int r, .int (-3), .bool true, .none, .str "a", .tuple [.int 1, .int 2]]) r0' r1'
      have lt : Lw 16 t := by
        simp only [List.mem_cons, List.not_mem_nil, or_false] at ht
        rcases ht with rfl | rfl | rfl | rfl | rfl | rfl
        · exact Lw.int _ _
        · exact Lw.int _ _
        · exact Lw.bool _ _
        · exact Lw.none _
        · exact Lw.str _ _
        · exact Lw.tup (n := 15) (by simp) (lw_cons (Lw.int _ _) (lw_cons (Lw.int _ _) lw_nil))
      refine ⟨_, ixS_list hat, ?_⟩
      refine ⟨_, rfl, _, rfl, ?_⟩
      dsimp only [dNil, List.append_nil]
      obtain ⟨nm, hnm⟩ : ∃ nm, fN[j]? = some nm := ⟨_, List.getElem?_eq_getElem (show j < fN.length from hj6)⟩
      refine ⟨j, nm, t, rfl, hnm, ?_⟩
      refine ⟨_, rfl, rfl, _, _, rfl, _, _, rfl, _, _, rfl, rfl, ?_⟩
      have ok := fN_ok nm (List.mem_of_getElem? hnm)
      refine ⟨_, rfl, _, rfl, ?_⟩
      refine frzL (by show 3 ≤ sizeLine; omega) ?_
      refine ⟨_, eq_me rfl rfl (mine_lay nm ok) (by decide), _, rfl, iteF ?_⟩
      refine ⟨_, rfl, _, rfl, ?_⟩
      dsimp only [dNil, List.append_nil]
      refine ⟨t, rfl, lt, by decide, _, rfl, iteF ?_⟩
      exact ih2 _ _ ⟨n + 2, _, _, _, _, _, hj', by omega, hB4, rfl⟩
    · rintro ρ w2 ⟨n, y3, y4, y5, y6, y7, _, _, hB, rfl⟩
      refine ⟨4, rfl, by decide, by decide, ?_⟩
      refine loop_inv (fun r ρ w2 => ∃ (x3 x4 x5 x6 x7 : Option Sl), (∀ s ∈ r, ∃ i : Nat, i < 4 ∧ s = .dat (.int (i : Nat))) ∧ ρ = [some (.scr ns), some (.dat (.int (i : Nat))), some (.adr b), x3, x4, x5, x6, x7])
        ⟨_, _, _, _, _, fun s hs => ?_, rfl⟩ (fun _ _ _ _ => trivial) ?_ ?_
      · rw [show (4 : Int).toNat = 4 from rfl, irange_nat] at hs
        obtain ⟨j, hj, rfl⟩ := List.mem_map.mp hs
        exact ⟨j, List.mem_range.mp hj, rfl⟩
      · rintro s r2 ρ w3 ⟨z3, z4, z5, z6, z7, hj, rfl⟩ ih2
        obtain ⟨j, hj4, rfl⟩ := hj s List.mem_cons_self
        have hj' := fun s h => hj s (List.mem_cons_of_mem _ h)
        refine ⟨_, rfl, ?_⟩
        dsimp only [dNil, List.append_nil]
        obtain ⟨nm, hnm⟩ : ∃ nm, gN[j]? = some nm := ⟨_, List.getElem?_eq_getElem (show j < gN.length from hj4)⟩
        refine ⟨j, nm, rfl, hnm, ?_⟩
        refine ⟨_, rfl, rfl, _, _, rfl, _, _, rfl, rfl, ?_⟩
        have ok := gN_ok nm (List.mem_of_getElem? hnm)
        refine ⟨_, rfl, _, rfl, ?_⟩
        refine frzL (by show 3 ≤ sizeLine; omega) ?_
        refine ⟨_, eq_me rfl rfl (mine_lay nm ok) (by decide), _, rfl, iteF ?_⟩
        exact ih2 _ _ ⟨_, _, _, _, _, hj', rfl⟩
      · rintro ρ w3 ⟨z3, z4, z5, z6, z7, _, rfl⟩
        exact ih _ _ ⟨_, _, _, _, _, _, _, hs', rfl⟩
  · rintro ρ w' ⟨x1, x2, x3, x4, x5, x6, x7, _, rfl⟩
    exact ⟨w', Sub.refl _, q w'⟩
end G
set_option Elab.async false
set_option linter.all false
set_option maxRecDepth 100000
set_option maxHeartbeats 4000000
namespace G
open PySem PySem.Spec PyProof.Rows L2 DL
def top (i : Nat) : Stmt := PySem.Challenge.pw_growjoin_k18_refusals_made.main.body.getD i (.Pass ⟨0, 0, 0, 0⟩)
abbrev s_NoHandu_initu : Stmt := inClass (top 4) 0
theorem sc_NoHandu_initu : FnScope ["self", "hand"] ["self", "hand"] (defScope s_NoHandu_initu) := ⟨rfl, rfl, rfl, by decide +kernel, rfl, by decide +kernel, by decide +kernel⟩
abbrev s_Fallenu_initu : Stmt := inClass (top 6) 0
theorem sc_Fallenu_initu : FnScope ["self", "hand"] ["self", "hand"] (defScope s_Fallenu_initu) := ⟨rfl, rfl, rfl, by decide +kernel, rfl, by decide +kernel, by decide +kernel⟩
abbrev s_NoLetteru_initu : Stmt := inClass (top 7) 0
theorem sc_NoLetteru_initu : FnScope ["self", "number"] ["self", "number"] (defScope s_NoLetteru_initu) := ⟨rfl, rfl, rfl, by decide +kernel, rfl, by decide +kernel, by decide +kernel⟩
abbrev s_TooLongu_initu : Stmt := inClass (top 8) 0
theorem sc_TooLongu_initu : FnScope ["self", "most"] ["self", "most"] (defScope s_TooLongu_initu) := ⟨rfl, rfl, rfl, by decide +kernel, rfl, by decide +kernel, by decide +kernel⟩
abbrev s_Busyu_initu : Stmt := inClass (top 9) 0
theorem sc_Busyu_initu : FnScope ["self", "hand"] ["self", "hand"] (defScope s_Busyu_initu) := ⟨rfl, rfl, rfl, by decide +kernel, rfl, by decide +kernel, by decide +kernel⟩
abbrev s_NoDeedu_initu : Stmt := inClass (top 10) 0
theorem sc_NoDeedu_initu : FnScope ["self", "deed"] ["self", "deed"] (defScope s_NoDeedu_initu) := ⟨rfl, rfl, rfl, by decide +kernel, rfl, by decide +kernel, by decide +kernel⟩
abbrev s_law_cell_at : Stmt := top 13
theorem sc_law_cell_at : FnScope N_law_cell_at ["script", "k"] (defScope s_law_cell_at) := ⟨rfl, rfl, rfl, by decide +kernel, rfl, by decide +kernel, by decide +kernel⟩
abbrev s_lb_bag : Stmt := top 14
theorem sc_lb_bag : FnScope N_lb_bag ["cell", "k"] (defScope s_lb_bag) := ⟨rfl, rfl, rfl, by decide +kernel, rfl, by decide +kernel, by decide +kernel⟩
abbrev s_lb_take : Stmt := top 15
theorem sc_lb_take : FnScope N_lb_take ["bag", "many"] (defScope s_lb_take) := ⟨rfl, rfl, rfl, by decide +kernel, rfl, by decide +kernel, by decide +kernel⟩
abbrev s_lb_alike : Stmt := top 16
theorem sc_lb_alike : FnScope N_lb_alike ["found", "due"] (defScope s_lb_alike) := ⟨rfl, rfl, rfl, by decide +kernel, rfl, by decide +kernel, by decide +kernel⟩
abbrev s_law_classes : Stmt := top 17
theorem sc_law_classes : FnScope N_law_classes ["caught"] (defScope s_law_classes) := ⟨rfl, rfl, rfl, by decide +kernel, rfl, by decide +kernel, by decide +kernel⟩
abbrev s_law_field : Stmt := top 18
theorem sc_law_field : FnScope N_law_field ["pick", "thing"] (defScope s_law_field) := ⟨rfl, rfl, rfl, by decide +kernel, rfl, by decide +kernel, by decide +kernel⟩
abbrev s_law_plain : Stmt := top 19
theorem sc_law_plain : FnScope N_law_plain ["pick"] (defScope s_law_plain) := ⟨rfl, rfl, rfl, by decide +kernel, rfl, by decide +kernel, by decide +kernel⟩
abbrev s_law : Stmt := top 20
theorem sc_law : FnScope N_law ["script"] (defScope s_law) := ⟨rfl, rfl, rfl, by decide +kernel, rfl, by decide +kernel, by decide +kernel⟩
structure Ad where
  f_NoHandu_initu : Addr
  d_NoHandu_initu : FuncData
  f_Fallenu_initu : Addr
  d_Fallenu_initu : FuncData
  f_NoLetteru_initu : Addr
  d_NoLetteru_initu : FuncData
  f_TooLongu_initu : Addr
  d_TooLongu_initu : FuncData
  f_Busyu_initu : Addr
  d_Busyu_initu : FuncData
  f_NoDeedu_initu : Addr
  d_NoDeedu_initu : FuncData
  f_law_cell_at : Addr
  d_law_cell_at : FuncData
  f_lb_bag : Addr
  d_lb_bag : FuncData
  f_lb_take : Addr
  d_lb_take : FuncData
  f_lb_alike : Addr
  d_lb_alike : FuncData
  f_law_classes : Addr
  d_law_classes : FuncData
  f_law_field : Addr
  d_law_field : FuncData
  f_law_plain : Addr
  d_law_plain : FuncData
  f_law : Addr
  d_law : FuncData
  C_NoHands : Addr
  C_NoKind : Addr
  C_NoText : Addr
  C_NoWorth : Addr
  C_Busy : Addr
  C_Fallen : Addr
  C_NoDeed : Addr
  C_NoHand : Addr
  C_NoLetter : Addr
  C_TooLong : Addr
  C_JoinError : Addr
abbrev Ad.x (A : Ad) : XC := ⟨A.C_Busy, A.C_Fallen, A.C_NoDeed, A.C_NoHand, A.C_NoHands, A.C_NoKind, A.C_NoLetter, A.C_NoText, A.C_NoWorth, A.C_TooLong⟩
structure Txt (wd : World) (K : PySem.W.Frag) (mg : Str → Option Value) (A : Ad) : Prop where
  n_ValueError : mg "ValueError" = none
  n_all : mg "all" = none
  n_bool : mg "bool" = none
  n_isinstance : mg "isinstance" = none
  n_len : mg "len" = none
  n_list : mg "list" = none
  n_max : mg "max" = none
  n_min : mg "min" = none
  n_range : mg "range" = none
  n_tuple : mg "tuple" = none
  b_NoHandu_initu : Binds K A.d_NoHandu_initu ["self", "hand"] []
  F_NoHandu_initu : L2.Fun K "__init__" "NoHand.__init__" s_NoHandu_initu A.f_NoHandu_initu A.d_NoHandu_initu
  b_Fallenu_initu : Binds K A.d_Fallenu_initu ["self", "hand"] []
  F_Fallenu_initu : L2.Fun K "__init__" "Fallen.__init__" s_Fallenu_initu A.f_Fallenu_initu A.d_Fallenu_initu
  b_NoLetteru_initu : Binds K A.d_NoLetteru_initu ["self", "number"] []
  F_NoLetteru_initu : L2.Fun K "__init__" "NoLetter.__init__" s_NoLetteru_initu A.f_NoLetteru_initu A.d_NoLetteru_initu
  b_TooLongu_initu : Binds K A.d_TooLongu_initu ["self", "most"] []
  F_TooLongu_initu : L2.Fun K "__init__" "TooLong.__init__" s_TooLongu_initu A.f_TooLongu_initu A.d_TooLongu_initu
  b_Busyu_initu : Binds K A.d_Busyu_initu ["self", "hand"] []
  F_Busyu_initu : L2.Fun K "__init__" "Busy.__init__" s_Busyu_initu A.f_Busyu_initu A.d_Busyu_initu
  b_NoDeedu_initu : Binds K A.d_NoDeedu_initu ["self", "deed"] []
  F_NoDeedu_initu : L2.Fun K "__init__" "NoDeed.__init__" s_NoDeedu_initu A.f_NoDeedu_initu A.d_NoDeedu_initu
  g_law_cell_at : mg "_law_cell_at" = some (.ref A.f_law_cell_at)
  k_law_cell_at : PySem.W.keepIn K (.ref A.f_law_cell_at) = true
  b_law_cell_at : Binds K A.d_law_cell_at ["script", "k"] []
  F_law_cell_at : L2.Fun K "_law_cell_at" "_law_cell_at" s_law_cell_at A.f_law_cell_at A.d_law_cell_at
  g_lb_bag : mg "_law_bag" = some (.ref A.f_lb_bag)
  k_lb_bag : PySem.W.keepIn K (.ref A.f_lb_bag) = true
  b_lb_bag : Binds K A.d_lb_bag ["cell", "k"] []
  F_lb_bag : L2.Fun K "_law_bag" "_law_bag" s_lb_bag A.f_lb_bag A.d_lb_bag
  g_lb_take : mg "_law_take" = some (.ref A.f_lb_take)
  k_lb_take : PySem.W.keepIn K (.ref A.f_lb_take) = true
  b_lb_take : Binds K A.d_lb_take ["bag", "many"] []
  F_lb_take : L2.Fun K "_law_take" "_law_take" s_lb_take A.f_lb_take A.d_lb_take
  g_lb_alike : mg "_law_alike" = some (.ref A.f_lb_alike)
  k_lb_alike : PySem.W.keepIn K (.ref A.f_lb_alike) = true
  b_lb_alike : Binds K A.d_lb_alike ["found", "due"] []
  F_lb_alike : L2.Fun K "_law_alike" "_law_alike" s_lb_alike A.f_lb_alike A.d_lb_alike
  g_law_classes : mg "_law_classes" = some (.ref A.f_law_classes)
  k_law_classes : PySem.W.keepIn K (.ref A.f_law_classes) = true
  b_law_classes : Binds K A.d_law_classes ["caught"] []
  F_law_classes : L2.Fun K "_law_classes" "_law_classes" s_law_classes A.f_law_classes A.d_law_classes
  g_law_field : mg "_law_field" = some (.ref A.f_law_field)
  k_law_field : PySem.W.keepIn K (.ref A.f_law_field) = true
  b_law_field : Binds K A.d_law_field ["pick", "thing"] []
  F_law_field : L2.Fun K "_law_field" "_law_field" s_law_field A.f_law_field A.d_law_field
  g_law_plain : mg "_law_plain" = some (.ref A.f_law_plain)
  k_law_plain : PySem.W.keepIn K (.ref A.f_law_plain) = true
  b_law_plain : Binds K A.d_law_plain ["pick"] []
  F_law_plain : L2.Fun K "_law_plain" "_law_plain" s_law_plain A.f_law_plain A.d_law_plain
  g_law : mg "law" = some (.ref A.f_law)
  k_law : PySem.W.keepIn K (.ref A.f_law) = true
  b_law : Binds K A.d_law ["script"] []
  F_law : L2.Fun K "law" "law" s_law A.f_law A.d_law
  g_NoHands : mg "NoHands" = some (.ref A.C_NoHands)
  g_NoKind : mg "NoKind" = some (.ref A.C_NoKind)
  g_NoText : mg "NoText" = some (.ref A.C_NoText)
  g_NoWorth : mg "NoWorth" = some (.ref A.C_NoWorth)
  g_Busy : mg "Busy" = some (.ref A.C_Busy)
  g_Fallen : mg "Fallen" = some (.ref A.C_Fallen)
  g_NoDeed : mg "NoDeed" = some (.ref A.C_NoDeed)
  g_NoHand : mg "NoHand" = some (.ref A.C_NoHand)
  g_NoLetter : mg "NoLetter" = some (.ref A.C_NoLetter)
  g_TooLong : mg "TooLong" = some (.ref A.C_TooLong)
  g_JoinError : mg "JoinError" = some (.ref A.C_JoinError)
  x_NoHands : PySem.W.excIn K A.C_NoHands [.type "ValueError", .type "Exception", .type "BaseException", .type "object"] "ValueError.__new__" = true
  kp_NoHands : PySem.W.keepIn K (.ref A.C_NoHands) = true
  sb_NoHands : PySem.W.subIn K (.ref A.C_NoHands) (.type "BaseException") = some true
  ty_NoHands : PySem.W.typeIn K (.ref A.C_NoHands) = some (.type "type")
  xc_NoHands : ExcC K A.C_NoHands
  x_NoKind : PySem.W.excIn K A.C_NoKind [.type "ValueError", .type "Exception", .type "BaseException", .type "object"] "ValueError.__new__" = true
  kp_NoKind : PySem.W.keepIn K (.ref A.C_NoKind) = true
  sb_NoKind : PySem.W.subIn K (.ref A.C_NoKind) (.type "BaseException") = some true
  ty_NoKind : PySem.W.typeIn K (.ref A.C_NoKind) = some (.type "type")
  xc_NoKind : ExcC K A.C_NoKind
  x_NoText : PySem.W.excIn K A.C_NoText [.type "ValueError", .type "Exception", .type "BaseException", .type "object"] "ValueError.__new__" = true
  kp_NoText : PySem.W.keepIn K (.ref A.C_NoText) = true
  sb_NoText : PySem.W.subIn K (.ref A.C_NoText) (.type "BaseException") = some true
  ty_NoText : PySem.W.typeIn K (.ref A.C_NoText) = some (.type "type")
  xc_NoText : ExcC K A.C_NoText
  x_NoWorth : PySem.W.excIn K A.C_NoWorth [.type "ValueError", .type "Exception", .type "BaseException", .type "object"] "ValueError.__new__" = true
  kp_NoWorth : PySem.W.keepIn K (.ref A.C_NoWorth) = true
  sb_NoWorth : PySem.W.subIn K (.ref A.C_NoWorth) (.type "BaseException") = some true
  ty_NoWorth : PySem.W.typeIn K (.ref A.C_NoWorth) = some (.type "type")
  xc_NoWorth : ExcC K A.C_NoWorth
  oe_Busy : OexC K A.C_Busy
  ii_Busy : PySem.W.findIn K (.ref A.C_Busy) "__init__" = some (some (.ref A.f_Busyu_initu))
  ti_Busy : PySem.W.typeIn K (.ref A.f_Busyu_initu) = some (.type "function")
  nx_Busy : PySem.W.findIn K (.ref A.C_Busy) "hand" = some none
  oe_Fallen : OexC K A.C_Fallen
  ii_Fallen : PySem.W.findIn K (.ref A.C_Fallen) "__init__" = some (some (.ref A.f_Fallenu_initu))
  ti_Fallen : PySem.W.typeIn K (.ref A.f_Fallenu_initu) = some (.type "function")
  nx_Fallen : PySem.W.findIn K (.ref A.C_Fallen) "hand" = some none
  oe_NoDeed : OexC K A.C_NoDeed
  ii_NoDeed : PySem.W.findIn K (.ref A.C_NoDeed) "__init__" = some (some (.ref A.f_NoDeedu_initu))
  ti_NoDeed : PySem.W.typeIn K (.ref A.f_NoDeedu_initu) = some (.type "function")
  nx_NoDeed : PySem.W.findIn K (.ref A.C_NoDeed) "deed" = some none
  oe_NoHand : OexC K A.C_NoHand
  ii_NoHand : PySem.W.findIn K (.ref A.C_NoHand) "__init__" = some (some (.ref A.f_NoHandu_initu))
  ti_NoHand : PySem.W.typeIn K (.ref A.f_NoHandu_initu) = some (.type "function")
  nx_NoHand : PySem.W.findIn K (.ref A.C_NoHand) "hand" = some none
  oe_NoLetter : OexC K A.C_NoLetter
  ii_NoLetter : PySem.W.findIn K (.ref A.C_NoLetter) "__init__" = some (some (.ref A.f_NoLetteru_initu))
  ti_NoLetter : PySem.W.typeIn K (.ref A.f_NoLetteru_initu) = some (.type "function")
  nx_NoLetter : PySem.W.findIn K (.ref A.C_NoLetter) "number" = some none
  oe_TooLong : OexC K A.C_TooLong
  ii_TooLong : PySem.W.findIn K (.ref A.C_TooLong) "__init__" = some (some (.ref A.f_TooLongu_initu))
  ti_TooLong : PySem.W.typeIn K (.ref A.f_TooLongu_initu) = some (.type "function")
  nx_TooLong : PySem.W.findIn K (.ref A.C_TooLong) "most" = some none
  xf_deed : ∀ C, okX A.x "deed" C → XfC K C ∧ PySem.W.findIn K (.ref C) "deed" = some none
  xf_hand : ∀ C, okX A.x "hand" C → XfC K C ∧ PySem.W.findIn K (.ref C) "hand" = some none
  xf_most : ∀ C, okX A.x "most" C → XfC K C ∧ PySem.W.findIn K (.ref C) "most" = some none
  xf_number : ∀ C, okX A.x "number" C → XfC K C ∧ PySem.W.findIn K (.ref C) "number" = some none
  kt_0 : ∀ D b, tabX A.x 0 D b → ExcK K D ∧ PySem.W.kitOne K (.ref D) (.ref A.C_Busy) = some b
  kt_1 : ∀ D b, tabX A.x 1 D b → ExcK K D ∧ PySem.W.kitOne K (.ref D) (.ref A.C_Fallen) = some b
  kt_2 : ∀ D b, tabX A.x 2 D b → ExcK K D ∧ PySem.W.kitOne K (.ref D) (.ref A.C_NoDeed) = some b
  kt_3 : ∀ D b, tabX A.x 3 D b → ExcK K D ∧ PySem.W.kitOne K (.ref D) (.ref A.C_NoHand) = some b
  kt_4 : ∀ D b, tabX A.x 4 D b → ExcK K D ∧ PySem.W.kitOne K (.ref D) (.ref A.C_NoHands) = some b
  kt_5 : ∀ D b, tabX A.x 5 D b → ExcK K D ∧ PySem.W.kitOne K (.ref D) (.ref A.C_NoKind) = some b
  kt_6 : ∀ D b, tabX A.x 6 D b → ExcK K D ∧ PySem.W.kitOne K (.ref D) (.ref A.C_NoLetter) = some b
  kt_7 : ∀ D b, tabX A.x 7 D b → ExcK K D ∧ PySem.W.kitOne K (.ref D) (.ref A.C_NoText) = some b
  kt_8 : ∀ D b, tabX A.x 8 D b → ExcK K D ∧ PySem.W.kitOne K (.ref D) (.ref A.C_NoWorth) = some b
  kt_9 : ∀ D b, tabX A.x 9 D b → ExcK K D ∧ PySem.W.kitOne K (.ref D) (.ref A.C_TooLong) = some b
  kt_10 : ∀ D b, tabX A.x 10 D b → ExcK K D ∧ PySem.W.kitOne K (.ref D) (.ref A.C_JoinError) = some b
  kt_11 : ∀ D b, tabX A.x 11 D b → ExcK K D ∧ PySem.W.kitOne K (.ref D) (.type "ValueError") = some b
section
variable {P : Program} {wd : World} {K : PySem.W.Frag} {mg : Str → Option Value} {base : Heap} {A : Ad}
theorem ok_Busyu_initu (T : Txt wd K mg A) : FnOk P wd K mg base CX0 1 A.f_Busyu_initu A.d_Busyu_initu ["self", "hand"] (spI K "hand") := init_ok T.F_Busyu_initu sc_Busyu_initu rfl (by first | exact Or.inl rfl | exact Or.inr (Or.inl rfl) | exact Or.inr (Or.inr rfl)) (by first | exact Or.inl rfl | exact Or.inr (Or.inl rfl) | exact Or.inr (Or.inr rfl))
theorem ok_Fallenu_initu (T : Txt wd K mg A) : FnOk P wd K mg base CX0 1 A.f_Fallenu_initu A.d_Fallenu_initu ["self", "hand"] (spI K "hand") := init_ok T.F_Fallenu_initu sc_Fallenu_initu rfl (by first | exact Or.inl rfl | exact Or.inr (Or.inl rfl) | exact Or.inr (Or.inr rfl)) (by first | exact Or.inl rfl | exact Or.inr (Or.inl rfl) | exact Or.inr (Or.inr rfl))
theorem ok_NoDeedu_initu (T : Txt wd K mg A) : FnOk P wd K mg base CX0 1 A.f_NoDeedu_initu A.d_NoDeedu_initu ["self", "deed"] (spI K "deed") := init_ok T.F_NoDeedu_initu sc_NoDeedu_initu rfl (by first | exact Or.inl rfl | exact Or.inr (Or.inl rfl) | exact Or.inr (Or.inr rfl)) (by first | exact Or.inl rfl | exact Or.inr (Or.inl rfl) | exact Or.inr (Or.inr rfl))
theorem ok_NoHandu_initu (T : Txt wd K mg A) : FnOk P wd K mg base CX0 1 A.f_NoHandu_initu A.d_NoHandu_initu ["self", "hand"] (spI K "hand") := init_ok T.F_NoHandu_initu sc_NoHandu_initu rfl (by first | exact Or.inl rfl | exact Or.inr (Or.inl rfl) | exact Or.inr (Or.inr rfl)) (by first | exact Or.inl rfl | exact Or.inr (Or.inl rfl) | exact Or.inr (Or.inr rfl))
theorem ok_NoLetteru_initu (T : Txt wd K mg A) : FnOk P wd K mg base CX0 1 A.f_NoLetteru_initu A.d_NoLetteru_initu ["self", "number"] (spI K "number") := init_ok T.F_NoLetteru_initu sc_NoLetteru_initu rfl (by first | exact Or.inl rfl | exact Or.inr (Or.inl rfl) | exact Or.inr (Or.inr rfl)) (by first | exact Or.inl rfl | exact Or.inr (Or.inl rfl) | exact Or.inr (Or.inr rfl))
theorem ok_TooLongu_initu (T : Txt wd K mg A) : FnOk P wd K mg base CX0 1 A.f_TooLongu_initu A.d_TooLongu_initu ["self", "most"] (spI K "most") := init_ok T.F_TooLongu_initu sc_TooLongu_initu rfl (by first | exact Or.inl rfl | exact Or.inr (Or.inl rfl) | exact Or.inr (Or.inr rfl)) (by first | exact Or.inl rfl | exact Or.inr (Or.inl rfl) | exact Or.inr (Or.inr rfl))
theorem ok_law_cell_at (T : Txt wd K mg A) : FnOk P wd K mg base CX0 (1 + 1) A.f_law_cell_at A.d_law_cell_at ["script", "k"] (spN K c_law_cell_at) :=
  DL.Fun.okD T.F_law_cell_at sc_law_cell_at (fun ss w R h => len_law_cell_at h) (tb := t_law_cell_at) (fun cdv A0 outer s H E hr =>
    (ds_cons (ds_if (dt_lt (dv 1) (de_len rfl T.n_len (da_cons (dv 0) da_nil))) (ds_one (ds_ret (de_ix (dv 0) (dv 1) (fun _ _ => rfl)))) ds_nil)
      (ds_one (ds_ret de_int))))
    (fun ss w R h => rd_law_cell_at h)
theorem ok_lb_bag (T : Txt wd K mg A) : FnOk P wd K mg base CX0 (1 + 1) A.f_lb_bag A.d_lb_bag ["cell", "k"] (spN K c_law_bag) :=
  DL.Fun.okD T.F_lb_bag sc_lb_bag (fun ss w R h => len_law_bag h) (tb := t_lb_bag) (fun cdv A0 outer s H E hr =>
    (ds_one (ds_ret (de_lstD (dd_cons (de_max rfl rfl T.n_max (da_cons de_int (da_cons (de_sub (dv 0) (de_pow de_int de_int)) da_nil))) (dd_cons (de_add (de_mod (dv 0) de_int) (de_mul de_int (de_add (dv 1) de_int))) (dd_cons de_int dd_nil)))))))
    (fun ss w R h => rd_lb_bag h)
theorem ok_lb_take (T : Txt wd K mg A) : FnOk P wd K mg base CX0 (1 + 1) A.f_lb_take A.d_lb_take ["bag", "many"] (spN K c_law_draw) :=
  DL.Fun.okD T.F_lb_take sc_lb_take (fun ss w R h => len_law_draw h) (tb := t_lb_take) (fun cdv A0 outer s H E hr =>
    (ds_cons (ds_if (dt_gt (de_ix (dv 0) de_int (fun _ _ => rfl)) de_int) (ds_cons (ds_set (i := 2) sc_lb_take.nd rfl (Or.inl rfl) (de_mod (de_ix (dv 0) de_int (fun _ _ => rfl)) (dv 1)))
      (ds_cons (ds_asg (de_div (de_ix (dv 0) de_int (fun _ _ => rfl)) (dv 1)) (dg_sub (dv 0) de_int))
      (ds_one (ds_ret (dv 2))))) ds_nil)
      (ds_cons (ds_asg (de_add (de_ix (dv 0) de_int (fun _ _ => rfl)) de_int) (dg_sub (dv 0) de_int))
      (ds_cons (ds_set (i := 3) sc_lb_take.nd rfl (Or.inl rfl) (de_mod (de_pow (de_add (de_ix (dv 0) de_int (fun _ _ => rfl)) (de_mul de_int (de_ix (dv 0) de_int (fun _ _ => rfl)))) de_int) de_int))
      (ds_cons (ds_set (i := 3) sc_lb_take.nd rfl (Or.inl rfl) (de_mod (de_pow (de_add (dv 3) (de_mul de_int (de_ix (dv 0) de_int (fun _ _ => rfl)))) de_int) de_int))
      (ds_one (ds_ret (de_mod (de_div (dv 3) de_int) (dv 1)))))))))
    (fun ss w R h => rd_lb_take h)
theorem step_lb_alike (T : Txt wd K mg A) (n : Nat) (G : FnOk P wd K mg base CX0 (2 + n) A.f_lb_alike A.d_lb_alike ["found", "due"] (spN K (prev c_lb_alike n))) : FnOk P wd K mg base CX0 ((2 + n) + 1) A.f_lb_alike A.d_lb_alike ["found", "due"] (spN K (c_lb_alike n)) :=
  DL.Fun.okD T.F_lb_alike sc_lb_alike (fun ss w R h => len_lb_alike h) (tb := (t_lb_alike (prev c_lb_alike n))) (fun cdv A0 outer s H E hr =>
    (ds_cons (ds_if (dt_val (de_isi2 .list .tuple (dv 1) rfl T.n_isinstance rfl T.n_list (by decide +kernel) rfl T.n_tuple (by decide +kernel))) (ds_cons (ds_if (dt_w (dw_or (dt_ne hr.units (de_isi .list (dv 0) rfl T.n_isinstance rfl T.n_list (by decide +kernel)) (de_isi .list (dv 1) rfl T.n_isinstance rfl T.n_list (by decide +kernel))) (dw_or1 (dt_not (dt_val (de_isi2 .list .tuple (dv 0) rfl T.n_isinstance rfl T.n_list (by decide +kernel) rfl T.n_tuple (by decide +kernel))))))) (ds_one (ds_ret de_bl)) ds_nil)
      (ds_one (ds_ret (de_fz (de_and (de_eq hr.units (de_len rfl T.n_len (da_cons (dv 0) da_nil)) (de_len rfl T.n_len (da_cons (dv 1) da_nil))) (de_one (de_all rfl rfl T.n_all (da_cons (de_fz (de_lc (own := [("k", 2)]) rfl sc_lb_alike.nd (di_range1 rfl T.n_range (da_cons (de_len rfl T.n_len (da_cons (dv 1) da_nil)) da_nil)) (blkOk_by (own := [("k", 2)]) (N := N_lb_alike) (sc := defScope s_lb_alike) (by decide +kernel)) (fun _ _ _ _ _ => (dvt_name (i := 2) (by decide) sc_lb_alike.nd rfl (Or.inl rfl))) (fun _ _ _ _ _ => dts_nil) (fun _ _ _ _ _ => (de_call G hr rfl T.g_lb_alike T.k_lb_alike T.b_lb_alike .nil (fun _ => .nil) (da_cons (de_ix (dv 0) (dv 2) (fun _ _ => rfl)) (da_cons (de_ix (dv 1) (dv 2) (fun _ _ => rfl)) da_nil)))))) da_nil)))))))) ds_nil)
      (ds_cons (ds_if (dt_w (dw_or (dt_val (de_isi .bool (dv 1) rfl T.n_isinstance rfl T.n_bool (by decide +kernel))) (dw_or1 (dt_val (de_isi .bool (dv 0) rfl T.n_isinstance rfl T.n_bool (by decide +kernel)))))) (ds_one (ds_ret (de_fz (de_and (de_isi .bool (dv 1) rfl T.n_isinstance rfl T.n_bool (by decide +kernel)) (de_and (de_isi .bool (dv 0) rfl T.n_isinstance rfl T.n_bool (by decide +kernel)) (de_one (de_eq hr.units (dv 0) (dv 1)))))))) ds_nil)
      (ds_one (ds_ret (de_fz (de_eq hr.units (dv 0) (dv 1))))))))
    (fun ss w R h => rd_lb_alike n h)
theorem ok_lb_alike (T : Txt wd K mg A) (n : Nat) : FnOk P wd K mg base CX0 (2 + n + 1) A.f_lb_alike A.d_lb_alike ["found", "due"] (spN K (c_lb_alike n)) := rec_ok c_lb_alike (step_lb_alike T) n
theorem ok_law_classes (T : Txt wd K mg A) : FnOk P wd K mg base CX0 (8 + 1) A.f_law_classes A.d_law_classes ["caught"] (spN K (c_law_classes A.x)) :=
  DL.Fun.okD T.F_law_classes sc_law_classes (fun ss w R h => len_law_classes h) (tb := (t_law_classes A.x)) (fun cdv A0 outer s H E hr =>
    (ds_cons (ds_set (i := 1) sc_law_classes.nd rfl (Or.inl rfl) (de_lstD dd_nil))
      (ds_cons (ds_set (i := 2) sc_law_classes.nd rfl (Or.inl rfl) (de_fz (de_lstD (dd_cons (de_tup (dd_cons de_str (dd_cons (de_isV (tab := tabX A.x 0) T.kt_0 (dv 0) rfl T.n_isinstance rfl T.g_Busy) dd_nil))) (dd_cons (de_tup (dd_cons de_str (dd_cons (de_isV (tab := tabX A.x 1) T.kt_1 (dv 0) rfl T.n_isinstance rfl T.g_Fallen) dd_nil))) dd_nil)))))
      (ds_cons (ds_set (i := 2) sc_law_classes.nd rfl (Or.inl rfl) (de_fz (de_add (dv 2) (de_fz (de_lstD (dd_cons (de_tup (dd_cons de_str (dd_cons (de_isV (tab := tabX A.x 2) T.kt_2 (dv 0) rfl T.n_isinstance rfl T.g_NoDeed) dd_nil))) (dd_cons (de_tup (dd_cons de_str (dd_cons (de_isV (tab := tabX A.x 3) T.kt_3 (dv 0) rfl T.n_isinstance rfl T.g_NoHand) dd_nil))) dd_nil)))))))
      (ds_cons (ds_set (i := 2) sc_law_classes.nd rfl (Or.inl rfl) (de_fz (de_add (dv 2) (de_fz (de_lstD (dd_cons (de_tup (dd_cons de_str (dd_cons (de_isV (tab := tabX A.x 4) T.kt_4 (dv 0) rfl T.n_isinstance rfl T.g_NoHands) dd_nil))) (dd_cons (de_tup (dd_cons de_str (dd_cons (de_isV (tab := tabX A.x 5) T.kt_5 (dv 0) rfl T.n_isinstance rfl T.g_NoKind) dd_nil))) dd_nil)))))))
      (ds_cons (ds_set (i := 2) sc_law_classes.nd rfl (Or.inl rfl) (de_fz (de_add (dv 2) (de_fz (de_lstD (dd_cons (de_tup (dd_cons de_str (dd_cons (de_isV (tab := tabX A.x 6) T.kt_6 (dv 0) rfl T.n_isinstance rfl T.g_NoLetter) dd_nil))) (dd_cons (de_tup (dd_cons de_str (dd_cons (de_isV (tab := tabX A.x 7) T.kt_7 (dv 0) rfl T.n_isinstance rfl T.g_NoText) dd_nil))) dd_nil)))))))
      (ds_cons (ds_set (i := 2) sc_law_classes.nd rfl (Or.inl rfl) (de_fz (de_add (dv 2) (de_fz (de_lstD (dd_cons (de_tup (dd_cons de_str (dd_cons (de_isV (tab := tabX A.x 8) T.kt_8 (dv 0) rfl T.n_isinstance rfl T.g_NoWorth) dd_nil))) (dd_cons (de_tup (dd_cons de_str (dd_cons (de_isV (tab := tabX A.x 9) T.kt_9 (dv 0) rfl T.n_isinstance rfl T.g_TooLong) dd_nil))) dd_nil)))))))
      (ds_cons (ds_set (i := 2) sc_law_classes.nd rfl (Or.inl rfl) (de_fz (de_add (dv 2) (de_fz (de_lstD (dd_cons (de_tup (dd_cons de_str (dd_cons (de_isV (tab := tabX A.x 10) T.kt_10 (dv 0) rfl T.n_isinstance rfl T.g_JoinError) dd_nil))) (dd_cons (de_tup (dd_cons de_str (dd_cons (de_isVB (tab := tabX A.x 11) T.kt_11 (dv 0) rfl T.n_isinstance rfl T.n_ValueError (by decide +kernel)) dd_nil))) dd_nil)))))))
      (ds_cons (ds_for PassesOwn.never rfl (di_seq (dv 2)) (dg_tup (n := 2) rfl (dgs_cons (dg_name (i := 3) sc_law_classes.nd rfl (Or.inl rfl)) (dgs_cons (dg_name (i := 4) sc_law_classes.nd rfl (Or.inl rfl)) dgs_nil))) (ds_one (ds_if (dt_val (dv 4)) (ds_one (ds_expr (de_append (dv 1) (dv 3)))) ds_nil)))
      (ds_one (ds_ret (de_fz (dv 1)))))))))))))
    (fun ss w R h => rd_law_classes h)
theorem ok_law_field (T : Txt wd K mg A) : FnOk P wd K mg base CX0 (12 + 1) A.f_law_field A.d_law_field ["pick", "thing"] (spN K (c_law_field A.x)) :=
  DL.Fun.okD T.F_law_field sc_law_field (fun ss w R h => len_law_field h) (tb := (t_law_field A.x)) (fun cdv A0 outer s H E hr =>
    (ds_cons (ds_if (dt_eq hr.units (dv 0) de_int) (ds_cons (ds_set (i := 2) sc_law_field.nd rfl (Or.inl rfl) (de_mkE T.oe_Busy T.ii_Busy T.ti_Busy T.nx_Busy (ok_Busyu_initu T) (hr.mono (by decide)) T.b_Busyu_initu rfl T.g_Busy (da_cons (dv 1) da_nil)))
      (ds_one (ds_ret (de_tup (dd_cons (de_call (ok_law_classes T) (hr.mono (by omega)) rfl T.g_law_classes T.k_law_classes T.b_law_classes .nil (fun _ => .nil) (da_cons (dv 2) da_nil)) (dd_cons (de_xf (ok := okX A.x "hand") T.xf_hand (dv 2)) (dd_cons de_str dd_nil))))))) ds_nil)
      (ds_cons (ds_if (dt_eq hr.units (dv 0) de_int) (ds_cons (ds_set (i := 2) sc_law_field.nd rfl (Or.inl rfl) (de_mkE T.oe_Fallen T.ii_Fallen T.ti_Fallen T.nx_Fallen (ok_Fallenu_initu T) (hr.mono (by decide)) T.b_Fallenu_initu rfl T.g_Fallen (da_cons (dv 1) da_nil)))
      (ds_one (ds_ret (de_tup (dd_cons (de_call (ok_law_classes T) (hr.mono (by omega)) rfl T.g_law_classes T.k_law_classes T.b_law_classes .nil (fun _ => .nil) (da_cons (dv 2) da_nil)) (dd_cons (de_xf (ok := okX A.x "hand") T.xf_hand (dv 2)) (dd_cons de_str dd_nil))))))) ds_nil)
      (ds_cons (ds_if (dt_eq hr.units (dv 0) de_int) (ds_cons (ds_set (i := 2) sc_law_field.nd rfl (Or.inl rfl) (de_mkE T.oe_NoDeed T.ii_NoDeed T.ti_NoDeed T.nx_NoDeed (ok_NoDeedu_initu T) (hr.mono (by decide)) T.b_NoDeedu_initu rfl T.g_NoDeed (da_cons (dv 1) da_nil)))
      (ds_one (ds_ret (de_tup (dd_cons (de_call (ok_law_classes T) (hr.mono (by omega)) rfl T.g_law_classes T.k_law_classes T.b_law_classes .nil (fun _ => .nil) (da_cons (dv 2) da_nil)) (dd_cons (de_xf (ok := okX A.x "deed") T.xf_deed (dv 2)) (dd_cons de_str dd_nil))))))) ds_nil)
      (ds_cons (ds_if (dt_eq hr.units (dv 0) de_int) (ds_cons (ds_set (i := 2) sc_law_field.nd rfl (Or.inl rfl) (de_mkE T.oe_NoHand T.ii_NoHand T.ti_NoHand T.nx_NoHand (ok_NoHandu_initu T) (hr.mono (by decide)) T.b_NoHandu_initu rfl T.g_NoHand (da_cons (dv 1) da_nil)))
      (ds_one (ds_ret (de_tup (dd_cons (de_call (ok_law_classes T) (hr.mono (by omega)) rfl T.g_law_classes T.k_law_classes T.b_law_classes .nil (fun _ => .nil) (da_cons (dv 2) da_nil)) (dd_cons (de_xf (ok := okX A.x "hand") T.xf_hand (dv 2)) (dd_cons de_str dd_nil))))))) ds_nil)
      (ds_cons (ds_if (dt_eq hr.units (dv 0) de_int) (ds_cons (ds_set (i := 2) sc_law_field.nd rfl (Or.inl rfl) (de_mkE T.oe_NoLetter T.ii_NoLetter T.ti_NoLetter T.nx_NoLetter (ok_NoLetteru_initu T) (hr.mono (by decide)) T.b_NoLetteru_initu rfl T.g_NoLetter (da_cons (dv 1) da_nil)))
      (ds_one (ds_ret (de_tup (dd_cons (de_call (ok_law_classes T) (hr.mono (by omega)) rfl T.g_law_classes T.k_law_classes T.b_law_classes .nil (fun _ => .nil) (da_cons (dv 2) da_nil)) (dd_cons (de_xf (ok := okX A.x "number") T.xf_number (dv 2)) (dd_cons de_str dd_nil))))))) ds_nil)
      (ds_cons (ds_set (i := 2) sc_law_field.nd rfl (Or.inl rfl) (de_mkE T.oe_TooLong T.ii_TooLong T.ti_TooLong T.nx_TooLong (ok_TooLongu_initu T) (hr.mono (by decide)) T.b_TooLongu_initu rfl T.g_TooLong (da_cons (dv 1) da_nil)))
      (ds_one (ds_ret (de_tup (dd_cons (de_call (ok_law_classes T) (hr.mono (by omega)) rfl T.g_law_classes T.k_law_classes T.b_law_classes .nil (fun _ => .nil) (da_cons (dv 2) da_nil)) (dd_cons (de_xf (ok := okX A.x "most") T.xf_most (dv 2)) (dd_cons de_str dd_nil)))))))))))))
    (fun ss w R h => rd_law_field h)
theorem ok_law_plain (T : Txt wd K mg A) : FnOk P wd K mg base CX0 (12 + 1) A.f_law_plain A.d_law_plain ["pick"] (spN K (c_law_plain A.x)) :=
  DL.Fun.okD T.F_law_plain sc_law_plain (fun ss w R h => len_law_plain h) (tb := (t_law_plain A.x)) (fun cdv A0 outer s H E hr =>
    (ds_cons (ds_if (dt_eq hr.units (dv 0) de_int) (ds_one (ds_ret (de_tup (dd_cons (de_call (ok_law_classes T) (hr.mono (by omega)) rfl T.g_law_classes T.k_law_classes T.b_law_classes .nil (fun _ => .nil) (da_cons (de_mk0 PySem.F.excBase_ValueError T.x_NoKind T.g_NoKind T.kp_NoKind (raises_own T.sb_NoKind T.ty_NoKind) rfl) da_nil)) (dd_cons de_str dd_nil))))) ds_nil)
      (ds_cons (ds_if (dt_eq hr.units (dv 0) de_int) (ds_one (ds_ret (de_tup (dd_cons (de_call (ok_law_classes T) (hr.mono (by omega)) rfl T.g_law_classes T.k_law_classes T.b_law_classes .nil (fun _ => .nil) (da_cons (de_mk0 PySem.F.excBase_ValueError T.x_NoHands T.g_NoHands T.kp_NoHands (raises_own T.sb_NoHands T.ty_NoHands) rfl) da_nil)) (dd_cons de_str dd_nil))))) ds_nil)
      (ds_cons (ds_if (dt_eq hr.units (dv 0) de_int) (ds_one (ds_ret (de_tup (dd_cons (de_call (ok_law_classes T) (hr.mono (by omega)) rfl T.g_law_classes T.k_law_classes T.b_law_classes .nil (fun _ => .nil) (da_cons (de_mk0 PySem.F.excBase_ValueError T.x_NoWorth T.g_NoWorth T.kp_NoWorth (raises_own T.sb_NoWorth T.ty_NoWorth) rfl) da_nil)) (dd_cons de_str dd_nil))))) ds_nil)
      (ds_one (ds_ret (de_tup (dd_cons (de_call (ok_law_classes T) (hr.mono (by omega)) rfl T.g_law_classes T.k_law_classes T.b_law_classes .nil (fun _ => .nil) (da_cons (de_mk0 PySem.F.excBase_ValueError T.x_NoText T.g_NoText T.kp_NoText (raises_own T.sb_NoText T.ty_NoText) rfl) da_nil)) (dd_cons de_str dd_nil)))))))))
    (fun ss w R h => rd_law_plain h)
theorem ok_law (T : Txt wd K mg A) : FnOk P wd K mg base CX0 (30 + 1) A.f_law A.d_law ["script"] (spN K cLaw) :=
  DL.Fun.okD T.F_law sc_law (fun ss w R h => len_law h) (tb := (t_law A.x)) (fun cdv A0 outer s H E hr =>
    (ds_cons (ds_for PassesOwn.never rfl (di_range1 rfl T.n_range (da_cons (de_max rfl rfl T.n_max (da_cons de_int (da_cons (de_min rfl rfl T.n_min (da_cons de_int (da_cons (de_len rfl T.n_len (da_cons (dv 0) da_nil)) da_nil))) da_nil))) da_nil)) (dg_name (i := 1) sc_law.nd rfl (Or.inl rfl)) (ds_cons (ds_set (i := 2) sc_law.nd rfl (Or.inl rfl) (de_call (ok_lb_bag T) (hr.mono (by decide)) rfl T.g_lb_bag T.k_lb_bag T.b_lb_bag .nil (fun _ => .nil) (da_cons (de_call (ok_law_cell_at T) (hr.mono (by decide)) rfl T.g_law_cell_at T.k_law_cell_at T.b_law_cell_at .nil (fun _ => .nil) (da_cons (dv 0) (da_cons (dv 1) da_nil))) (da_cons (dv 1) da_nil))))
      (ds_cons (ds_for PassesOwn.never rfl (di_range1 rfl T.n_range (da_cons de_int da_nil)) (dg_name (i := 3) sc_law.nd rfl (Or.inl rfl)) (ds_cons (ds_set (i := 4) sc_law.nd rfl (Or.inl rfl) (de_ix (de_fz (de_lstD (dd_cons (de_call (ok_lb_take T) (hr.mono (by omega)) rfl T.g_lb_take T.k_lb_take T.b_lb_take .nil (fun _ => .nil) (da_cons (dv 2) (da_cons (de_pow de_int de_int) da_nil))) (dd_cons (de_neg de_int) (dd_cons de_bl (dd_cons de_non (dd_cons de_str (dd_cons (de_tup (dd_cons de_int (dd_cons de_int dd_nil))) dd_nil)))))))) (de_call (ok_lb_take T) (hr.mono (by omega)) rfl T.g_lb_take T.k_lb_take T.b_lb_take .nil (fun _ => .nil) (da_cons (dv 2) (da_cons de_int da_nil))) (fun _ _ => rfl)))
      (ds_cons (ds_asg (de_call (ok_law_field T) (hr.mono (by omega)) rfl T.g_law_field T.k_law_field T.b_law_field .nil (fun _ => .nil) (da_cons (dv 3) (da_cons (dv 4) da_nil))) (dg_tup (n := 3) rfl (dgs_cons (dg_name (i := 5) sc_law.nd rfl (Or.inl rfl)) (dgs_cons (dg_name (i := 6) sc_law.nd rfl (Or.inl rfl)) (dgs_cons (dg_name (i := 7) sc_law.nd rfl (Or.inl rfl)) dgs_nil)))))
      (ds_one (ds_if (dt_w (dw_or (dt_ne hr.units (dv 5) (de_fz (de_lstD (dd_cons (dv 7) (dd_cons de_str (dd_cons de_str dd_nil)))))) (dw_or1 (dt_not (dt_val (de_call (ok_lb_alike T 16) (hr.mono (by omega)) rfl T.g_lb_alike T.k_lb_alike T.b_lb_alike .nil (fun _ => .nil) (da_cons (dv 6) (da_cons (dv 4) da_nil)))))))) (ds_one (ds_ret de_bl)) ds_nil)))))
      (ds_one (ds_for PassesOwn.never rfl (di_range1 rfl T.n_range (da_cons de_int da_nil)) (dg_name (i := 3) sc_law.nd rfl (Or.inl rfl)) (ds_cons (ds_asg (de_call (ok_law_plain T) (hr.mono (by omega)) rfl T.g_law_plain T.k_law_plain T.b_law_plain .nil (fun _ => .nil) (da_cons (dv 3) da_nil)) (dg_tup (n := 2) rfl (dgs_cons (dg_name (i := 5) sc_law.nd rfl (Or.inl rfl)) (dgs_cons (dg_name (i := 7) sc_law.nd rfl (Or.inl rfl)) dgs_nil))))
      (ds_one (ds_if (dt_ne hr.units (dv 5) (de_fz (de_lstD (dd_cons (dv 7) (dd_cons de_str (dd_cons de_str dd_nil)))))) (ds_one (ds_ret de_bl)) ds_nil))))))))
      (ds_one (ds_ret de_bl))))
    (fun ss w R h => rd_law h)
end
theorem all_mk {l : PySem.W.OpenLaw} {wd : World} {K : PySem.W.Frag} {h : Heap} {mg : Str → Option Value} {fa : Addr} (X : K.In h) (G : h.Ns mainGlobals mg) (hfa : mg "law" = some (.ref fa))
    {E_NoHands : Addr}
    {E_NoKind : Addr}
    {E_NoText : Addr}
    {E_NoWorth : Addr}
    {E_Busy : Addr}
    {E_Fallen : Addr}
    {E_NoDeed : Addr}
    {E_NoHand : Addr}
    {E_NoLetter : Addr}
    {E_TooLong : Addr}
    {E_JoinError : Addr}
    {xn_Busy xq_Busy : Str} {xN_Busy : Addr} {xb_Busy xm_Busy xs_Busy : List Value} {xsn_Busy : List Str} {xab_Busy : Bool} {xcol_Busy : Option Bool} {xdd_Busy : Option Addr} {x0_Busy x1_Busy x2_Busy x3_Busy x5_Busy : Option Value}
    {xn_Fallen xq_Fallen : Str} {xN_Fallen : Addr} {xb_Fallen xm_Fallen xs_Fallen : List Value} {xsn_Fallen : List Str} {xab_Fallen : Bool} {xcol_Fallen : Option Bool} {xdd_Fallen : Option Addr} {x0_Fallen x1_Fallen x2_Fallen x3_Fallen x5_Fallen : Option Value}
    {xn_NoDeed xq_NoDeed : Str} {xN_NoDeed : Addr} {xb_NoDeed xm_NoDeed xs_NoDeed : List Value} {xsn_NoDeed : List Str} {xab_NoDeed : Bool} {xcol_NoDeed : Option Bool} {xdd_NoDeed : Option Addr} {x0_NoDeed x1_NoDeed x2_NoDeed x3_NoDeed x5_NoDeed : Option Value}
    {xn_NoHand xq_NoHand : Str} {xN_NoHand : Addr} {xb_NoHand xm_NoHand xs_NoHand : List Value} {xsn_NoHand : List Str} {xab_NoHand : Bool} {xcol_NoHand : Option Bool} {xdd_NoHand : Option Addr} {x0_NoHand x1_NoHand x2_NoHand x3_NoHand x5_NoHand : Option Value}
    {xn_NoLetter xq_NoLetter : Str} {xN_NoLetter : Addr} {xb_NoLetter xm_NoLetter xs_NoLetter : List Value} {xsn_NoLetter : List Str} {xab_NoLetter : Bool} {xcol_NoLetter : Option Bool} {xdd_NoLetter : Option Addr} {x0_NoLetter x1_NoLetter x2_NoLetter x3_NoLetter x5_NoLetter : Option Value}
    {xn_TooLong xq_TooLong : Str} {xN_TooLong : Addr} {xb_TooLong xm_TooLong xs_TooLong : List Value} {xsn_TooLong : List Str} {xab_TooLong : Bool} {xcol_TooLong : Option Bool} {xdd_TooLong : Option Addr} {x0_TooLong x1_TooLong x2_TooLong x3_TooLong x5_TooLong : Option Value}
    {f0 : Addr} {od0 an0 : Option Addr} {sl0 : Array (Option Value)} {oc0 kV0 dc0 pm0 cd0 ct0 : Value}
    {f1 : Addr} {od1 an1 : Option Addr} {sl1 : Array (Option Value)} {oc1 kV1 dc1 pm1 cd1 ct1 : Value}
    {f2 : Addr} {od2 an2 : Option Addr} {sl2 : Array (Option Value)} {oc2 kV2 dc2 pm2 cd2 ct2 : Value}
    {f3 : Addr} {od3 an3 : Option Addr} {sl3 : Array (Option Value)} {oc3 kV3 dc3 pm3 cd3 ct3 : Value}
    {f4 : Addr} {od4 an4 : Option Addr} {sl4 : Array (Option Value)} {oc4 kV4 dc4 pm4 cd4 ct4 : Value}
    {f5 : Addr} {od5 an5 : Option Addr} {sl5 : Array (Option Value)} {oc5 kV5 dc5 pm5 cd5 ct5 : Value}
    {f6 : Addr} {od6 an6 : Option Addr} {sl6 : Array (Option Value)} {oc6 kV6 dc6 pm6 cd6 ct6 : Value}
    {f7 : Addr} {od7 an7 : Option Addr} {sl7 : Array (Option Value)} {oc7 kV7 dc7 pm7 cd7 ct7 : Value}
    {f8 : Addr} {od8 an8 : Option Addr} {sl8 : Array (Option Value)} {oc8 kV8 dc8 pm8 cd8 ct8 : Value}
    {f9 : Addr} {od9 an9 : Option Addr} {sl9 : Array (Option Value)} {oc9 kV9 dc9 pm9 cd9 ct9 : Value}
    {f10 : Addr} {od10 an10 : Option Addr} {sl10 : Array (Option Value)} {oc10 kV10 dc10 pm10 cd10 ct10 : Value}
    {f11 : Addr} {od11 an11 : Option Addr} {sl11 : Array (Option Value)} {oc11 kV11 dc11 pm11 cd11 ct11 : Value}
    {f12 : Addr} {od12 an12 : Option Addr} {sl12 : Array (Option Value)} {oc12 kV12 dc12 pm12 cd12 ct12 : Value}
    {f13 : Addr} {od13 an13 : Option Addr} {sl13 : Array (Option Value)} {oc13 kV13 dc13 pm13 cd13 ct13 : Value}
    (ea_NoHands : PySem.W.nsIn K mainGlobals "NoHands" = some (some (.ref E_NoHands)))
    (ea_NoKind : PySem.W.nsIn K mainGlobals "NoKind" = some (some (.ref E_NoKind)))
    (ea_NoText : PySem.W.nsIn K mainGlobals "NoText" = some (some (.ref E_NoText)))
    (ea_NoWorth : PySem.W.nsIn K mainGlobals "NoWorth" = some (some (.ref E_NoWorth)))
    (ea_Busy : PySem.W.nsIn K mainGlobals "Busy" = some (some (.ref E_Busy)))
    (ea_Fallen : PySem.W.nsIn K mainGlobals "Fallen" = some (some (.ref E_Fallen)))
    (ea_NoDeed : PySem.W.nsIn K mainGlobals "NoDeed" = some (some (.ref E_NoDeed)))
    (ea_NoHand : PySem.W.nsIn K mainGlobals "NoHand" = some (some (.ref E_NoHand)))
    (ea_NoLetter : PySem.W.nsIn K mainGlobals "NoLetter" = some (some (.ref E_NoLetter)))
    (ea_TooLong : PySem.W.nsIn K mainGlobals "TooLong" = some (some (.ref E_TooLong)))
    (ea_JoinError : PySem.W.nsIn K mainGlobals "JoinError" = some (some (.ref E_JoinError)))
    (eh_n : PySem.W.specialIn K (.builtin "object.__class__") "__get__" = some (some (.builtin "getset_descriptor.__get__")))
    (eh_t : PySem.W.takesIn K (.builtin "object.__class__") = some true)
    (ex_NoHands : PySem.W.excIn K E_NoHands [.type "ValueError", .type "Exception", .type "BaseException", .type "object"] "ValueError.__new__" = true)
    (ek_NoHands : PySem.W.keepIn K (.ref E_NoHands) = true)
    (es_NoHands : PySem.W.subIn K (.ref E_NoHands) (.type "BaseException") = some true)
    (et_NoHands : PySem.W.typeIn K (.ref E_NoHands) = some (.type "type"))
    (ehg_NoHands : PySem.W.findIn K (.ref E_NoHands) "__getattribute__" = some (some (.builtin "BaseException.__getattribute__")))
    (ehk_NoHands : PySem.W.findIn K (.ref E_NoHands) "__getattr__" = some none)
    (ehd_NoHands : PySem.W.hasDictIn K E_NoHands = true)
    (eha_NoHands : PySem.W.findIn K (.ref E_NoHands) "__class__" = some (some (.builtin "object.__class__")))
    (ehm_NoHands : PySem.W.mroIn K E_NoHands (.type "object") = some true)
    (ex_NoKind : PySem.W.excIn K E_NoKind [.type "ValueError", .type "Exception", .type "BaseException", .type "object"] "ValueError.__new__" = true)
    (ek_NoKind : PySem.W.keepIn K (.ref E_NoKind) = true)
    (es_NoKind : PySem.W.subIn K (.ref E_NoKind) (.type "BaseException") = some true)
    (et_NoKind : PySem.W.typeIn K (.ref E_NoKind) = some (.type "type"))
    (ehg_NoKind : PySem.W.findIn K (.ref E_NoKind) "__getattribute__" = some (some (.builtin "BaseException.__getattribute__")))
    (ehk_NoKind : PySem.W.findIn K (.ref E_NoKind) "__getattr__" = some none)
    (ehd_NoKind : PySem.W.hasDictIn K E_NoKind = true)
    (eha_NoKind : PySem.W.findIn K (.ref E_NoKind) "__class__" = some (some (.builtin "object.__class__")))
    (ehm_NoKind : PySem.W.mroIn K E_NoKind (.type "object") = some true)
    (ex_NoText : PySem.W.excIn K E_NoText [.type "ValueError", .type "Exception", .type "BaseException", .type "object"] "ValueError.__new__" = true)
    (ek_NoText : PySem.W.keepIn K (.ref E_NoText) = true)
    (es_NoText : PySem.W.subIn K (.ref E_NoText) (.type "BaseException") = some true)
    (et_NoText : PySem.W.typeIn K (.ref E_NoText) = some (.type "type"))
    (ehg_NoText : PySem.W.findIn K (.ref E_NoText) "__getattribute__" = some (some (.builtin "BaseException.__getattribute__")))
    (ehk_NoText : PySem.W.findIn K (.ref E_NoText) "__getattr__" = some none)
    (ehd_NoText : PySem.W.hasDictIn K E_NoText = true)
    (eha_NoText : PySem.W.findIn K (.ref E_NoText) "__class__" = some (some (.builtin "object.__class__")))
    (ehm_NoText : PySem.W.mroIn K E_NoText (.type "object") = some true)
    (ex_NoWorth : PySem.W.excIn K E_NoWorth [.type "ValueError", .type "Exception", .type "BaseException", .type "object"] "ValueError.__new__" = true)
    (ek_NoWorth : PySem.W.keepIn K (.ref E_NoWorth) = true)
    (es_NoWorth : PySem.W.subIn K (.ref E_NoWorth) (.type "BaseException") = some true)
    (et_NoWorth : PySem.W.typeIn K (.ref E_NoWorth) = some (.type "type"))
    (ehg_NoWorth : PySem.W.findIn K (.ref E_NoWorth) "__getattribute__" = some (some (.builtin "BaseException.__getattribute__")))
    (ehk_NoWorth : PySem.W.findIn K (.ref E_NoWorth) "__getattr__" = some none)
    (ehd_NoWorth : PySem.W.hasDictIn K E_NoWorth = true)
    (eha_NoWorth : PySem.W.findIn K (.ref E_NoWorth) "__class__" = some (some (.builtin "object.__class__")))
    (ehm_NoWorth : PySem.W.mroIn K E_NoWorth (.type "object") = some true)
    (ek_Busy : PySem.W.keepIn K (.ref E_Busy) = true)
    (es_Busy : PySem.W.subIn K (.ref E_Busy) (.type "BaseException") = some true)
    (et_Busy : PySem.W.typeIn K (.ref E_Busy) = some (.type "type"))
    (ehg_Busy : PySem.W.findIn K (.ref E_Busy) "__getattribute__" = some (some (.builtin "BaseException.__getattribute__")))
    (ehk_Busy : PySem.W.findIn K (.ref E_Busy) "__getattr__" = some none)
    (ehd_Busy : PySem.W.hasDictIn K E_Busy = true)
    (eha_Busy : PySem.W.findIn K (.ref E_Busy) "__class__" = some (some (.builtin "object.__class__")))
    (ehm_Busy : PySem.W.mroIn K E_Busy (.type "object") = some true)
    (il_Busy : PySem.W.isClsIn K E_Busy = true)
    (ek_Fallen : PySem.W.keepIn K (.ref E_Fallen) = true)
    (es_Fallen : PySem.W.subIn K (.ref E_Fallen) (.type "BaseException") = some true)
    (et_Fallen : PySem.W.typeIn K (.ref E_Fallen) = some (.type "type"))
    (ehg_Fallen : PySem.W.findIn K (.ref E_Fallen) "__getattribute__" = some (some (.builtin "BaseException.__getattribute__")))
    (ehk_Fallen : PySem.W.findIn K (.ref E_Fallen) "__getattr__" = some none)
    (ehd_Fallen : PySem.W.hasDictIn K E_Fallen = true)
    (eha_Fallen : PySem.W.findIn K (.ref E_Fallen) "__class__" = some (some (.builtin "object.__class__")))
    (ehm_Fallen : PySem.W.mroIn K E_Fallen (.type "object") = some true)
    (il_Fallen : PySem.W.isClsIn K E_Fallen = true)
    (ek_NoDeed : PySem.W.keepIn K (.ref E_NoDeed) = true)
    (es_NoDeed : PySem.W.subIn K (.ref E_NoDeed) (.type "BaseException") = some true)
    (et_NoDeed : PySem.W.typeIn K (.ref E_NoDeed) = some (.type "type"))
    (ehg_NoDeed : PySem.W.findIn K (.ref E_NoDeed) "__getattribute__" = some (some (.builtin "BaseException.__getattribute__")))
    (ehk_NoDeed : PySem.W.findIn K (.ref E_NoDeed) "__getattr__" = some none)
    (ehd_NoDeed : PySem.W.hasDictIn K E_NoDeed = true)
    (eha_NoDeed : PySem.W.findIn K (.ref E_NoDeed) "__class__" = some (some (.builtin "object.__class__")))
    (ehm_NoDeed : PySem.W.mroIn K E_NoDeed (.type "object") = some true)
    (il_NoDeed : PySem.W.isClsIn K E_NoDeed = true)
    (ek_NoHand : PySem.W.keepIn K (.ref E_NoHand) = true)
    (es_NoHand : PySem.W.subIn K (.ref E_NoHand) (.type "BaseException") = some true)
    (et_NoHand : PySem.W.typeIn K (.ref E_NoHand) = some (.type "type"))
    (ehg_NoHand : PySem.W.findIn K (.ref E_NoHand) "__getattribute__" = some (some (.builtin "BaseException.__getattribute__")))
    (ehk_NoHand : PySem.W.findIn K (.ref E_NoHand) "__getattr__" = some none)
    (ehd_NoHand : PySem.W.hasDictIn K E_NoHand = true)
    (eha_NoHand : PySem.W.findIn K (.ref E_NoHand) "__class__" = some (some (.builtin "object.__class__")))
    (ehm_NoHand : PySem.W.mroIn K E_NoHand (.type "object") = some true)
    (il_NoHand : PySem.W.isClsIn K E_NoHand = true)
    (il_NoHands : PySem.W.isClsIn K E_NoHands = true)
    (il_NoKind : PySem.W.isClsIn K E_NoKind = true)
    (ek_NoLetter : PySem.W.keepIn K (.ref E_NoLetter) = true)
    (es_NoLetter : PySem.W.subIn K (.ref E_NoLetter) (.type "BaseException") = some true)
    (et_NoLetter : PySem.W.typeIn K (.ref E_NoLetter) = some (.type "type"))
    (ehg_NoLetter : PySem.W.findIn K (.ref E_NoLetter) "__getattribute__" = some (some (.builtin "BaseException.__getattribute__")))
    (ehk_NoLetter : PySem.W.findIn K (.ref E_NoLetter) "__getattr__" = some none)
    (ehd_NoLetter : PySem.W.hasDictIn K E_NoLetter = true)
    (eha_NoLetter : PySem.W.findIn K (.ref E_NoLetter) "__class__" = some (some (.builtin "object.__class__")))
    (ehm_NoLetter : PySem.W.mroIn K E_NoLetter (.type "object") = some true)
    (il_NoLetter : PySem.W.isClsIn K E_NoLetter = true)
    (il_NoText : PySem.W.isClsIn K E_NoText = true)
    (il_NoWorth : PySem.W.isClsIn K E_NoWorth = true)
    (ek_TooLong : PySem.W.keepIn K (.ref E_TooLong) = true)
    (es_TooLong : PySem.W.subIn K (.ref E_TooLong) (.type "BaseException") = some true)
    (et_TooLong : PySem.W.typeIn K (.ref E_TooLong) = some (.type "type"))
    (ehg_TooLong : PySem.W.findIn K (.ref E_TooLong) "__getattribute__" = some (some (.builtin "BaseException.__getattribute__")))
    (ehk_TooLong : PySem.W.findIn K (.ref E_TooLong) "__getattr__" = some none)
    (ehd_TooLong : PySem.W.hasDictIn K E_TooLong = true)
    (eha_TooLong : PySem.W.findIn K (.ref E_TooLong) "__class__" = some (some (.builtin "object.__class__")))
    (ehm_TooLong : PySem.W.mroIn K E_TooLong (.type "object") = some true)
    (il_TooLong : PySem.W.isClsIn K E_TooLong = true)
    (xl_Busy : K.lookup E_Busy = some (excClassObj xn_Busy xq_Busy E_Busy xN_Busy xb_Busy xm_Busy true xsn_Busy xs_Busy xab_Busy xcol_Busy xdd_Busy x0_Busy x1_Busy x2_Busy x3_Busy x5_Busy "ValueError.__new__"))
    (xr_Busy : PySem.HandSPX.refsVE xm_Busy = true)
    (xa_Busy : PySem.W.findIn K (.ref E_Busy) "__setattr__" = some (some (.builtin "object.__setattr__")))
    (nx_Busy : PySem.W.findIn K (.ref E_Busy) "hand" = some none)
    (xl_Fallen : K.lookup E_Fallen = some (excClassObj xn_Fallen xq_Fallen E_Fallen xN_Fallen xb_Fallen xm_Fallen true xsn_Fallen xs_Fallen xab_Fallen xcol_Fallen xdd_Fallen x0_Fallen x1_Fallen x2_Fallen x3_Fallen x5_Fallen "ValueError.__new__"))
    (xr_Fallen : PySem.HandSPX.refsVE xm_Fallen = true)
    (xa_Fallen : PySem.W.findIn K (.ref E_Fallen) "__setattr__" = some (some (.builtin "object.__setattr__")))
    (nx_Fallen : PySem.W.findIn K (.ref E_Fallen) "hand" = some none)
    (xl_NoDeed : K.lookup E_NoDeed = some (excClassObj xn_NoDeed xq_NoDeed E_NoDeed xN_NoDeed xb_NoDeed xm_NoDeed true xsn_NoDeed xs_NoDeed xab_NoDeed xcol_NoDeed xdd_NoDeed x0_NoDeed x1_NoDeed x2_NoDeed x3_NoDeed x5_NoDeed "ValueError.__new__"))
    (xr_NoDeed : PySem.HandSPX.refsVE xm_NoDeed = true)
    (xa_NoDeed : PySem.W.findIn K (.ref E_NoDeed) "__setattr__" = some (some (.builtin "object.__setattr__")))
    (nx_NoDeed : PySem.W.findIn K (.ref E_NoDeed) "deed" = some none)
    (xl_NoHand : K.lookup E_NoHand = some (excClassObj xn_NoHand xq_NoHand E_NoHand xN_NoHand xb_NoHand xm_NoHand true xsn_NoHand xs_NoHand xab_NoHand xcol_NoHand xdd_NoHand x0_NoHand x1_NoHand x2_NoHand x3_NoHand x5_NoHand "ValueError.__new__"))
    (xr_NoHand : PySem.HandSPX.refsVE xm_NoHand = true)
    (xa_NoHand : PySem.W.findIn K (.ref E_NoHand) "__setattr__" = some (some (.builtin "object.__setattr__")))
    (nx_NoHand : PySem.W.findIn K (.ref E_NoHand) "hand" = some none)
    (xl_NoLetter : K.lookup E_NoLetter = some (excClassObj xn_NoLetter xq_NoLetter E_NoLetter xN_NoLetter xb_NoLetter xm_NoLetter true xsn_NoLetter xs_NoLetter xab_NoLetter xcol_NoLetter xdd_NoLetter x0_NoLetter x1_NoLetter x2_NoLetter x3_NoLetter x5_NoLetter "ValueError.__new__"))
    (xr_NoLetter : PySem.HandSPX.refsVE xm_NoLetter = true)
    (xa_NoLetter : PySem.W.findIn K (.ref E_NoLetter) "__setattr__" = some (some (.builtin "object.__setattr__")))
    (nx_NoLetter : PySem.W.findIn K (.ref E_NoLetter) "number" = some none)
    (xl_TooLong : K.lookup E_TooLong = some (excClassObj xn_TooLong xq_TooLong E_TooLong xN_TooLong xb_TooLong xm_TooLong true xsn_TooLong xs_TooLong xab_TooLong xcol_TooLong xdd_TooLong x0_TooLong x1_TooLong x2_TooLong x3_TooLong x5_TooLong "ValueError.__new__"))
    (xr_TooLong : PySem.HandSPX.refsVE xm_TooLong = true)
    (xa_TooLong : PySem.W.findIn K (.ref E_TooLong) "__setattr__" = some (some (.builtin "object.__setattr__")))
    (nx_TooLong : PySem.W.findIn K (.ref E_TooLong) "most" = some none)
    (ko_0_0 : PySem.W.kitOne K (.ref E_Busy) (.ref E_Busy) = some true)
    (ko_0_1 : PySem.W.kitOne K (.ref E_Busy) (.ref E_Fallen) = some false)
    (ko_0_2 : PySem.W.kitOne K (.ref E_Busy) (.ref E_NoDeed) = some false)
    (ko_0_3 : PySem.W.kitOne K (.ref E_Busy) (.ref E_NoHand) = some false)
    (ko_0_4 : PySem.W.kitOne K (.ref E_Busy) (.ref E_NoHands) = some false)
    (ko_0_5 : PySem.W.kitOne K (.ref E_Busy) (.ref E_NoKind) = some false)
    (ko_0_6 : PySem.W.kitOne K (.ref E_Busy) (.ref E_NoLetter) = some false)
    (ko_0_7 : PySem.W.kitOne K (.ref E_Busy) (.ref E_NoText) = some false)
    (ko_0_8 : PySem.W.kitOne K (.ref E_Busy) (.ref E_NoWorth) = some false)
    (ko_0_9 : PySem.W.kitOne K (.ref E_Busy) (.ref E_TooLong) = some false)
    (ko_0_10 : PySem.W.kitOne K (.ref E_Busy) (.ref E_JoinError) = some true)
    (ko_0_11 : PySem.W.kitOne K (.ref E_Busy) (.type "ValueError") = some true)
    (ko_1_0 : PySem.W.kitOne K (.ref E_Fallen) (.ref E_Busy) = some false)
    (ko_1_1 : PySem.W.kitOne K (.ref E_Fallen) (.ref E_Fallen) = some true)
    (ko_1_2 : PySem.W.kitOne K (.ref E_Fallen) (.ref E_NoDeed) = some false)
    (ko_1_3 : PySem.W.kitOne K (.ref E_Fallen) (.ref E_NoHand) = some false)
    (ko_1_4 : PySem.W.kitOne K (.ref E_Fallen) (.ref E_NoHands) = some false)
    (ko_1_5 : PySem.W.kitOne K (.ref E_Fallen) (.ref E_NoKind) = some false)
    (ko_1_6 : PySem.W.kitOne K (.ref E_Fallen) (.ref E_NoLetter) = some false)
    (ko_1_7 : PySem.W.kitOne K (.ref E_Fallen) (.ref E_NoText) = some false)
    (ko_1_8 : PySem.W.kitOne K (.ref E_Fallen) (.ref E_NoWorth) = some false)
    (ko_1_9 : PySem.W.kitOne K (.ref E_Fallen) (.ref E_TooLong) = some false)
    (ko_1_10 : PySem.W.kitOne K (.ref E_Fallen) (.ref E_JoinError) = some true)
    (ko_1_11 : PySem.W.kitOne K (.ref E_Fallen) (.type "ValueError") = some true)
    (ko_2_0 : PySem.W.kitOne K (.ref E_NoDeed) (.ref E_Busy) = some false)
    (ko_2_1 : PySem.W.kitOne K (.ref E_NoDeed) (.ref E_Fallen) = some false)
    (ko_2_2 : PySem.W.kitOne K (.ref E_NoDeed) (.ref E_NoDeed) = some true)
    (ko_2_3 : PySem.W.kitOne K (.ref E_NoDeed) (.ref E_NoHand) = some false)
    (ko_2_4 : PySem.W.kitOne K (.ref E_NoDeed) (.ref E_NoHands) = some false)
    (ko_2_5 : PySem.W.kitOne K (.ref E_NoDeed) (.ref E_NoKind) = some false)
    (ko_2_6 : PySem.W.kitOne K (.ref E_NoDeed) (.ref E_NoLetter) = some false)
    (ko_2_7 : PySem.W.kitOne K (.ref E_NoDeed) (.ref E_NoText) = some false)
    (ko_2_8 : PySem.W.kitOne K (.ref E_NoDeed) (.ref E_NoWorth) = some false)
    (ko_2_9 : PySem.W.kitOne K (.ref E_NoDeed) (.ref E_TooLong) = some false)
    (ko_2_10 : PySem.W.kitOne K (.ref E_NoDeed) (.ref E_JoinError) = some true)
    (ko_2_11 : PySem.W.kitOne K (.ref E_NoDeed) (.type "ValueError") = some true)
    (ko_3_0 : PySem.W.kitOne K (.ref E_NoHand) (.ref E_Busy) = some false)
    (ko_3_1 : PySem.W.kitOne K (.ref E_NoHand) (.ref E_Fallen) = some false)
    (ko_3_2 : PySem.W.kitOne K (.ref E_NoHand) (.ref E_NoDeed) = some false)
    (ko_3_3 : PySem.W.kitOne K (.ref E_NoHand) (.ref E_NoHand) = some true)
    (ko_3_4 : PySem.W.kitOne K (.ref E_NoHand) (.ref E_NoHands) = some false)
    (ko_3_5 : PySem.W.kitOne K (.ref E_NoHand) (.ref E_NoKind) = some false)
    (ko_3_6 : PySem.W.kitOne K (.ref E_NoHand) (.ref E_NoLetter) = some false)
    (ko_3_7 : PySem.W.kitOne K (.ref E_NoHand) (.ref E_NoText) = some false)
    (ko_3_8 : PySem.W.kitOne K (.ref E_NoHand) (.ref E_NoWorth) = some false)
    (ko_3_9 : PySem.W.kitOne K (.ref E_NoHand) (.ref E_TooLong) = some false)
    (ko_3_10 : PySem.W.kitOne K (.ref E_NoHand) (.ref E_JoinError) = some true)
    (ko_3_11 : PySem.W.kitOne K (.ref E_NoHand) (.type "ValueError") = some true)
    (ko_4_0 : PySem.W.kitOne K (.ref E_NoHands) (.ref E_Busy) = some false)
    (ko_4_1 : PySem.W.kitOne K (.ref E_NoHands) (.ref E_Fallen) = some false)
    (ko_4_2 : PySem.W.kitOne K (.ref E_NoHands) (.ref E_NoDeed) = some false)
    (ko_4_3 : PySem.W.kitOne K (.ref E_NoHands) (.ref E_NoHand) = some false)
    (ko_4_4 : PySem.W.kitOne K (.ref E_NoHands) (.ref E_NoHands) = some true)
    (ko_4_5 : PySem.W.kitOne K (.ref E_NoHands) (.ref E_NoKind) = some false)
    (ko_4_6 : PySem.W.kitOne K (.ref E_NoHands) (.ref E_NoLetter) = some false)
    (ko_4_7 : PySem.W.kitOne K (.ref E_NoHands) (.ref E_NoText) = some false)
    (ko_4_8 : PySem.W.kitOne K (.ref E_NoHands) (.ref E_NoWorth) = some false)
    (ko_4_9 : PySem.W.kitOne K (.ref E_NoHands) (.ref E_TooLong) = some false)
    (ko_4_10 : PySem.W.kitOne K (.ref E_NoHands) (.ref E_JoinError) = some true)
    (ko_4_11 : PySem.W.kitOne K (.ref E_NoHands) (.type "ValueError") = some true)
    (ko_5_0 : PySem.W.kitOne K (.ref E_NoKind) (.ref E_Busy) = some false)
    (ko_5_1 : PySem.W.kitOne K (.ref E_NoKind) (.ref E_Fallen) = some false)
    (ko_5_2 : PySem.W.kitOne K (.ref E_NoKind) (.ref E_NoDeed) = some false)
    (ko_5_3 : PySem.W.kitOne K (.ref E_NoKind) (.ref E_NoHand) = some false)
    (ko_5_4 : PySem.W.kitOne K (.ref E_NoKind) (.ref E_NoHands) = some false)
    (ko_5_5 : PySem.W.kitOne K (.ref E_NoKind) (.ref E_NoKind) = some true)
    (ko_5_6 : PySem.W.kitOne K (.ref E_NoKind) (.ref E_NoLetter) = some false)
    (ko_5_7 : PySem.W.kitOne K (.ref E_NoKind) (.ref E_NoText) = some false)
    (ko_5_8 : PySem.W.kitOne K (.ref E_NoKind) (.ref E_NoWorth) = some false)
    (ko_5_9 : PySem.W.kitOne K (.ref E_NoKind) (.ref E_TooLong) = some false)
    (ko_5_10 : PySem.W.kitOne K (.ref E_NoKind) (.ref E_JoinError) = some true)
    (ko_5_11 : PySem.W.kitOne K (.ref E_NoKind) (.type "ValueError") = some true)
    (ko_6_0 : PySem.W.kitOne K (.ref E_NoLetter) (.ref E_Busy) = some false)
    (ko_6_1 : PySem.W.kitOne K (.ref E_NoLetter) (.ref E_Fallen) = some false)
    (ko_6_2 : PySem.W.kitOne K (.ref E_NoLetter) (.ref E_NoDeed) = some false)
    (ko_6_3 : PySem.W.kitOne K (.ref E_NoLetter) (.ref E_NoHand) = some false)
    (ko_6_4 : PySem.W.kitOne K (.ref E_NoLetter) (.ref E_NoHands) = some false)
    (ko_6_5 : PySem.W.kitOne K (.ref E_NoLetter) (.ref E_NoKind) = some false)
    (ko_6_6 : PySem.W.kitOne K (.ref E_NoLetter) (.ref E_NoLetter) = some true)
    (ko_6_7 : PySem.W.kitOne K (.ref E_NoLetter) (.ref E_NoText) = some false)
    (ko_6_8 : PySem.W.kitOne K (.ref E_NoLetter) (.ref E_NoWorth) = some false)
    (ko_6_9 : PySem.W.kitOne K (.ref E_NoLetter) (.ref E_TooLong) = some false)
    (ko_6_10 : PySem.W.kitOne K (.ref E_NoLetter) (.ref E_JoinError) = some true)
    (ko_6_11 : PySem.W.kitOne K (.ref E_NoLetter) (.type "ValueError") = some true)
    (ko_7_0 : PySem.W.kitOne K (.ref E_NoText) (.ref E_Busy) = some false)
    (ko_7_1 : PySem.W.kitOne K (.ref E_NoText) (.ref E_Fallen) = some false)
    (ko_7_2 : PySem.W.kitOne K (.ref E_NoText) (.ref E_NoDeed) = some false)
    (ko_7_3 : PySem.W.kitOne K (.ref E_NoText) (.ref E_NoHand) = some false)
    (ko_7_4 : PySem.W.kitOne K (.ref E_NoText) (.ref E_NoHands) = some false)
    (ko_7_5 : PySem.W.kitOne K (.ref E_NoText) (.ref E_NoKind) = some false)
    (ko_7_6 : PySem.W.kitOne K (.ref E_NoText) (.ref E_NoLetter) = some false)
    (ko_7_7 : PySem.W.kitOne K (.ref E_NoText) (.ref E_NoText) = some true)
    (ko_7_8 : PySem.W.kitOne K (.ref E_NoText) (.ref E_NoWorth) = some false)
    (ko_7_9 : PySem.W.kitOne K (.ref E_NoText) (.ref E_TooLong) = some false)
    (ko_7_10 : PySem.W.kitOne K (.ref E_NoText) (.ref E_JoinError) = some true)
    (ko_7_11 : PySem.W.kitOne K (.ref E_NoText) (.type "ValueError") = some true)
    (ko_8_0 : PySem.W.kitOne K (.ref E_NoWorth) (.ref E_Busy) = some false)
    (ko_8_1 : PySem.W.kitOne K (.ref E_NoWorth) (.ref E_Fallen) = some false)
    (ko_8_2 : PySem.W.kitOne K (.ref E_NoWorth) (.ref E_NoDeed) = some false)
    (ko_8_3 : PySem.W.kitOne K (.ref E_NoWorth) (.ref E_NoHand) = some false)
    (ko_8_4 : PySem.W.kitOne K (.ref E_NoWorth) (.ref E_NoHands) = some false)
    (ko_8_5 : PySem.W.kitOne K (.ref E_NoWorth) (.ref E_NoKind) = some false)
    (ko_8_6 : PySem.W.kitOne K (.ref E_NoWorth) (.ref E_NoLetter) = some false)
    (ko_8_7 : PySem.W.kitOne K (.ref E_NoWorth) (.ref E_NoText) = some false)
    (ko_8_8 : PySem.W.kitOne K (.ref E_NoWorth) (.ref E_NoWorth) = some true)
    (ko_8_9 : PySem.W.kitOne K (.ref E_NoWorth) (.ref E_TooLong) = some false)
    (ko_8_10 : PySem.W.kitOne K (.ref E_NoWorth) (.ref E_JoinError) = some true)
    (ko_8_11 : PySem.W.kitOne K (.ref E_NoWorth) (.type "ValueError") = some true)
    (ko_9_0 : PySem.W.kitOne K (.ref E_TooLong) (.ref E_Busy) = some false)
    (ko_9_1 : PySem.W.kitOne K (.ref E_TooLong) (.ref E_Fallen) = some false)
    (ko_9_2 : PySem.W.kitOne K (.ref E_TooLong) (.ref E_NoDeed) = some false)
    (ko_9_3 : PySem.W.kitOne K (.ref E_TooLong) (.ref E_NoHand) = some false)
    (ko_9_4 : PySem.W.kitOne K (.ref E_TooLong) (.ref E_NoHands) = some false)
    (ko_9_5 : PySem.W.kitOne K (.ref E_TooLong) (.ref E_NoKind) = some false)
    (ko_9_6 : PySem.W.kitOne K (.ref E_TooLong) (.ref E_NoLetter) = some false)
    (ko_9_7 : PySem.W.kitOne K (.ref E_TooLong) (.ref E_NoText) = some false)
    (ko_9_8 : PySem.W.kitOne K (.ref E_TooLong) (.ref E_NoWorth) = some false)
    (ko_9_9 : PySem.W.kitOne K (.ref E_TooLong) (.ref E_TooLong) = some true)
    (ko_9_10 : PySem.W.kitOne K (.ref E_TooLong) (.ref E_JoinError) = some true)
    (ko_9_11 : PySem.W.kitOne K (.ref E_TooLong) (.type "ValueError") = some true)
    (a0 : PySem.W.findIn K (.ref E_NoHand) "__init__" = some (some (.ref f0)))
    (ty0 : PySem.W.typeIn K (.ref f0) = some (.type "function"))
    (i0 : PySem.W.isFn K (.ref f0) = true)
    (l0 : K.lookup f0 = some ⟨oc0, od0, .func (PySem.W.fnOf "__init__" "NoHand.__init__" (defArgs s_NoHandu_initu) (defBody s_NoHandu_initu) (defScope s_NoHandu_initu) .none kV0 dc0 pm0 an0 cd0 ct0), sl0⟩)
    (c0 : PySem.W.codeIn K cd0 "NoHand.__init__" = true)
    (k0 : PySem.W.keepIn K (.ref f0) = true)
    (a1 : PySem.W.findIn K (.ref E_Fallen) "__init__" = some (some (.ref f1)))
    (ty1 : PySem.W.typeIn K (.ref f1) = some (.type "function"))
    (i1 : PySem.W.isFn K (.ref f1) = true)
    (l1 : K.lookup f1 = some ⟨oc1, od1, .func (PySem.W.fnOf "__init__" "Fallen.__init__" (defArgs s_Fallenu_initu) (defBody s_Fallenu_initu) (defScope s_Fallenu_initu) .none kV1 dc1 pm1 an1 cd1 ct1), sl1⟩)
    (c1 : PySem.W.codeIn K cd1 "Fallen.__init__" = true)
    (k1 : PySem.W.keepIn K (.ref f1) = true)
    (a2 : PySem.W.findIn K (.ref E_NoLetter) "__init__" = some (some (.ref f2)))
    (ty2 : PySem.W.typeIn K (.ref f2) = some (.type "function"))
    (i2 : PySem.W.isFn K (.ref f2) = true)
    (l2 : K.lookup f2 = some ⟨oc2, od2, .func (PySem.W.fnOf "__init__" "NoLetter.__init__" (defArgs s_NoLetteru_initu) (defBody s_NoLetteru_initu) (defScope s_NoLetteru_initu) .none kV2 dc2 pm2 an2 cd2 ct2), sl2⟩)
    (c2 : PySem.W.codeIn K cd2 "NoLetter.__init__" = true)
    (k2 : PySem.W.keepIn K (.ref f2) = true)
    (a3 : PySem.W.findIn K (.ref E_TooLong) "__init__" = some (some (.ref f3)))
    (ty3 : PySem.W.typeIn K (.ref f3) = some (.type "function"))
    (i3 : PySem.W.isFn K (.ref f3) = true)
    (l3 : K.lookup f3 = some ⟨oc3, od3, .func (PySem.W.fnOf "__init__" "TooLong.__init__" (defArgs s_TooLongu_initu) (defBody s_TooLongu_initu) (defScope s_TooLongu_initu) .none kV3 dc3 pm3 an3 cd3 ct3), sl3⟩)
    (c3 : PySem.W.codeIn K cd3 "TooLong.__init__" = true)
    (k3 : PySem.W.keepIn K (.ref f3) = true)
    (a4 : PySem.W.findIn K (.ref E_Busy) "__init__" = some (some (.ref f4)))
    (ty4 : PySem.W.typeIn K (.ref f4) = some (.type "function"))
    (i4 : PySem.W.isFn K (.ref f4) = true)
    (l4 : K.lookup f4 = some ⟨oc4, od4, .func (PySem.W.fnOf "__init__" "Busy.__init__" (defArgs s_Busyu_initu) (defBody s_Busyu_initu) (defScope s_Busyu_initu) .none kV4 dc4 pm4 an4 cd4 ct4), sl4⟩)
    (c4 : PySem.W.codeIn K cd4 "Busy.__init__" = true)
    (k4 : PySem.W.keepIn K (.ref f4) = true)
    (a5 : PySem.W.findIn K (.ref E_NoDeed) "__init__" = some (some (.ref f5)))
    (ty5 : PySem.W.typeIn K (.ref f5) = some (.type "function"))
    (i5 : PySem.W.isFn K (.ref f5) = true)
    (l5 : K.lookup f5 = some ⟨oc5, od5, .func (PySem.W.fnOf "__init__" "NoDeed.__init__" (defArgs s_NoDeedu_initu) (defBody s_NoDeedu_initu) (defScope s_NoDeedu_initu) .none kV5 dc5 pm5 an5 cd5 ct5), sl5⟩)
    (c5 : PySem.W.codeIn K cd5 "NoDeed.__init__" = true)
    (k5 : PySem.W.keepIn K (.ref f5) = true)
    (a6 : PySem.W.nsIn K mainGlobals "_law_cell_at" = some (some (.ref f6)))
    (l6 : K.lookup f6 = some ⟨oc6, od6, .func (PySem.W.fnOf "_law_cell_at" "_law_cell_at" (defArgs s_law_cell_at) (defBody s_law_cell_at) (defScope s_law_cell_at) .none kV6 dc6 pm6 an6 cd6 ct6), sl6⟩)
    (c6 : PySem.W.codeIn K cd6 "_law_cell_at" = true)
    (k6 : PySem.W.keepIn K (.ref f6) = true)
    (a7 : PySem.W.nsIn K mainGlobals "_law_bag" = some (some (.ref f7)))
    (l7 : K.lookup f7 = some ⟨oc7, od7, .func (PySem.W.fnOf "_law_bag" "_law_bag" (defArgs s_lb_bag) (defBody s_lb_bag) (defScope s_lb_bag) .none kV7 dc7 pm7 an7 cd7 ct7), sl7⟩)
    (c7 : PySem.W.codeIn K cd7 "_law_bag" = true)
    (k7 : PySem.W.keepIn K (.ref f7) = true)
    (a8 : PySem.W.nsIn K mainGlobals "_law_take" = some (some (.ref f8)))
    (l8 : K.lookup f8 = some ⟨oc8, od8, .func (PySem.W.fnOf "_law_take" "_law_take" (defArgs s_lb_take) (defBody s_lb_take) (defScope s_lb_take) .none kV8 dc8 pm8 an8 cd8 ct8), sl8⟩)
    (c8 : PySem.W.codeIn K cd8 "_law_take" = true)
    (k8 : PySem.W.keepIn K (.ref f8) = true)
    (a9 : PySem.W.nsIn K mainGlobals "_law_alike" = some (some (.ref f9)))
    (l9 : K.lookup f9 = some ⟨oc9, od9, .func (PySem.W.fnOf "_law_alike" "_law_alike" (defArgs s_lb_alike) (defBody s_lb_alike) (defScope s_lb_alike) .none kV9 dc9 pm9 an9 cd9 ct9), sl9⟩)
    (c9 : PySem.W.codeIn K cd9 "_law_alike" = true)
    (k9 : PySem.W.keepIn K (.ref f9) = true)
    (a10 : PySem.W.nsIn K mainGlobals "_law_classes" = some (some (.ref f10)))
    (l10 : K.lookup f10 = some ⟨oc10, od10, .func (PySem.W.fnOf "_law_classes" "_law_classes" (defArgs s_law_classes) (defBody s_law_classes) (defScope s_law_classes) .none kV10 dc10 pm10 an10 cd10 ct10), sl10⟩)
    (c10 : PySem.W.codeIn K cd10 "_law_classes" = true)
    (k10 : PySem.W.keepIn K (.ref f10) = true)
    (a11 : PySem.W.nsIn K mainGlobals "_law_field" = some (some (.ref f11)))
    (l11 : K.lookup f11 = some ⟨oc11, od11, .func (PySem.W.fnOf "_law_field" "_law_field" (defArgs s_law_field) (defBody s_law_field) (defScope s_law_field) .none kV11 dc11 pm11 an11 cd11 ct11), sl11⟩)
    (c11 : PySem.W.codeIn K cd11 "_law_field" = true)
    (k11 : PySem.W.keepIn K (.ref f11) = true)
    (a12 : PySem.W.nsIn K mainGlobals "_law_plain" = some (some (.ref f12)))
    (l12 : K.lookup f12 = some ⟨oc12, od12, .func (PySem.W.fnOf "_law_plain" "_law_plain" (defArgs s_law_plain) (defBody s_law_plain) (defScope s_law_plain) .none kV12 dc12 pm12 an12 cd12 ct12), sl12⟩)
    (c12 : PySem.W.codeIn K cd12 "_law_plain" = true)
    (k12 : PySem.W.keepIn K (.ref f12) = true)
    (a13 : PySem.W.nsIn K mainGlobals "law" = some (some (.ref f13)))
    (l13 : K.lookup f13 = some ⟨oc13, od13, .func (PySem.W.fnOf "law" "law" (defArgs s_law) (defBody s_law) (defScope s_law) .none kV13 dc13 pm13 an13 cd13 ct13), sl13⟩)
    (c13 : PySem.W.codeIn K cd13 "law" = true)
    (k13 : PySem.W.keepIn K (.ref f13) = true)
    (z_ValueError : PySem.W.nsIn K mainGlobals "ValueError" = some none)
    (z_all : PySem.W.nsIn K mainGlobals "all" = some none)
    (z_bool : PySem.W.nsIn K mainGlobals "bool" = some none)
    (z_isinstance : PySem.W.nsIn K mainGlobals "isinstance" = some none)
    (z_len : PySem.W.nsIn K mainGlobals "len" = some none)
    (z_list : PySem.W.nsIn K mainGlobals "list" = some none)
    (z_max : PySem.W.nsIn K mainGlobals "max" = some none)
    (z_min : PySem.W.nsIn K mainGlobals "min" = some none)
    (z_range : PySem.W.nsIn K mainGlobals "range" = some none)
    (z_tuple : PySem.W.nsIn K mainGlobals "tuple" = some none) :
    ∃ fd : FuncData, (∀ (s : Shared) (v : Value), BindsTo s fd ⟨[v], []⟩ [("script", v)]) ∧ ∀ base : Heap, K.In base → base.Ns mainGlobals mg → FnOk l.prog wd K mg base CX0 (30 + 1) fa fd ["script"] (spN K cLaw) := by
  have e := hfa.symm.trans (PySem.W.mg_of X G a13)
  have e2 : f13 = fa := by cases e; rfl
  subst e2
  have F0 := fun_mk (st := s_NoHandu_initu) l0 c0 k0
  have B0 := F0.binds (ps := ["self", "hand"]) fun _ _ _ _ _ _ us hl => match us, hl with | [_, _], _ => rfl
  have F1 := fun_mk (st := s_Fallenu_initu) l1 c1 k1
  have B1 := F1.binds (ps := ["self", "hand"]) fun _ _ _ _ _ _ us hl => match us, hl with | [_, _], _ => rfl
  have F2 := fun_mk (st := s_NoLetteru_initu) l2 c2 k2
  have B2 := F2.binds (ps := ["self", "number"]) fun _ _ _ _ _ _ us hl => match us, hl with | [_, _], _ => rfl
  have F3 := fun_mk (st := s_TooLongu_initu) l3 c3 k3
  have B3 := F3.binds (ps := ["self", "most"]) fun _ _ _ _ _ _ us hl => match us, hl with | [_, _], _ => rfl
  have F4 := fun_mk (st := s_Busyu_initu) l4 c4 k4
  have B4 := F4.binds (ps := ["self", "hand"]) fun _ _ _ _ _ _ us hl => match us, hl with | [_, _], _ => rfl
  have F5 := fun_mk (st := s_NoDeedu_initu) l5 c5 k5
  have B5 := F5.binds (ps := ["self", "deed"]) fun _ _ _ _ _ _ us hl => match us, hl with | [_, _], _ => rfl
  have F6 := fun_mk (st := s_law_cell_at) l6 c6 k6
  have B6 := F6.binds (ps := ["script", "k"]) fun _ _ _ _ _ _ us hl => match us, hl with | [_, _], _ => rfl
  have F7 := fun_mk (st := s_lb_bag) l7 c7 k7
  have B7 := F7.binds (ps := ["cell", "k"]) fun _ _ _ _ _ _ us hl => match us, hl with | [_, _], _ => rfl
  have F8 := fun_mk (st := s_lb_take) l8 c8 k8
  have B8 := F8.binds (ps := ["bag", "many"]) fun _ _ _ _ _ _ us hl => match us, hl with | [_, _], _ => rfl
  have F9 := fun_mk (st := s_lb_alike) l9 c9 k9
  have B9 := F9.binds (ps := ["found", "due"]) fun _ _ _ _ _ _ us hl => match us, hl with | [_, _], _ => rfl
  have F10 := fun_mk (st := s_law_classes) l10 c10 k10
  have B10 := F10.binds (ps := ["caught"]) fun _ _ _ _ _ _ us hl => match us, hl with | [_], _ => rfl
  have F11 := fun_mk (st := s_law_field) l11 c11 k11
  have B11 := F11.binds (ps := ["pick", "thing"]) fun _ _ _ _ _ _ us hl => match us, hl with | [_, _], _ => rfl
  have F12 := fun_mk (st := s_law_plain) l12 c12 k12
  have B12 := F12.binds (ps := ["pick"]) fun _ _ _ _ _ _ us hl => match us, hl with | [_], _ => rfl
  have F13 := fun_mk (st := s_law) l13 c13 k13
  have B13 := F13.binds (ps := ["script"]) fun _ _ _ _ _ _ us hl => match us, hl with | [_], _ => rfl
  have xk_Busy : ExcK K E_Busy := ⟨il_Busy, ehg_Busy, ehk_Busy, es_Busy, eha_Busy, eh_n, eh_t, ehm_Busy⟩
  have xk_Fallen : ExcK K E_Fallen := ⟨il_Fallen, ehg_Fallen, ehk_Fallen, es_Fallen, eha_Fallen, eh_n, eh_t, ehm_Fallen⟩
  have xk_NoDeed : ExcK K E_NoDeed := ⟨il_NoDeed, ehg_NoDeed, ehk_NoDeed, es_NoDeed, eha_NoDeed, eh_n, eh_t, ehm_NoDeed⟩
  have xk_NoHand : ExcK K E_NoHand := ⟨il_NoHand, ehg_NoHand, ehk_NoHand, es_NoHand, eha_NoHand, eh_n, eh_t, ehm_NoHand⟩
  have xk_NoHands : ExcK K E_NoHands := ⟨il_NoHands, ehg_NoHands, ehk_NoHands, es_NoHands, eha_NoHands, eh_n, eh_t, ehm_NoHands⟩
  have xk_NoKind : ExcK K E_NoKind := ⟨il_NoKind, ehg_NoKind, ehk_NoKind, es_NoKind, eha_NoKind, eh_n, eh_t, ehm_NoKind⟩
  have xk_NoLetter : ExcK K E_NoLetter := ⟨il_NoLetter, ehg_NoLetter, ehk_NoLetter, es_NoLetter, eha_NoLetter, eh_n, eh_t, ehm_NoLetter⟩
  have xk_NoText : ExcK K E_NoText := ⟨il_NoText, ehg_NoText, ehk_NoText, es_NoText, eha_NoText, eh_n, eh_t, ehm_NoText⟩
  have xk_NoWorth : ExcK K E_NoWorth := ⟨il_NoWorth, ehg_NoWorth, ehk_NoWorth, es_NoWorth, eha_NoWorth, eh_n, eh_t, ehm_NoWorth⟩
  have xk_TooLong : ExcK K E_TooLong := ⟨il_TooLong, ehg_TooLong, ehk_TooLong, es_TooLong, eha_TooLong, eh_n, eh_t, ehm_TooLong⟩
  have T : Txt wd K mg { f_NoHandu_initu := f0, d_NoHandu_initu := _, f_Fallenu_initu := f1, d_Fallenu_initu := _, f_NoLetteru_initu := f2, d_NoLetteru_initu := _, f_TooLongu_initu := f3, d_TooLongu_initu := _, f_Busyu_initu := f4, d_Busyu_initu := _, f_NoDeedu_initu := f5, d_NoDeedu_initu := _, f_law_cell_at := f6, d_law_cell_at := _, f_lb_bag := f7, d_lb_bag := _, f_lb_take := f8, d_lb_take := _, f_lb_alike := f9, d_lb_alike := _, f_law_classes := f10, d_law_classes := _, f_law_field := f11, d_law_field := _, f_law_plain := f12, d_law_plain := _, f_law := f13, d_law := _, C_NoHands := E_NoHands, C_NoKind := E_NoKind, C_NoText := E_NoText, C_NoWorth := E_NoWorth, C_Busy := E_Busy, C_Fallen := E_Fallen, C_NoDeed := E_NoDeed, C_NoHand := E_NoHand, C_NoLetter := E_NoLetter, C_TooLong := E_TooLong, C_JoinError := E_JoinError } :=
    { n_ValueError := PySem.W.mg_none_of X G z_ValueError,
      n_all := PySem.W.mg_none_of X G z_all,
      n_bool := PySem.W.mg_none_of X G z_bool,
      n_isinstance := PySem.W.mg_none_of X G z_isinstance,
      n_len := PySem.W.mg_none_of X G z_len,
      n_list := PySem.W.mg_none_of X G z_list,
      n_max := PySem.W.mg_none_of X G z_max,
      n_min := PySem.W.mg_none_of X G z_min,
      n_range := PySem.W.mg_none_of X G z_range,
      n_tuple := PySem.W.mg_none_of X G z_tuple,
      b_NoHandu_initu := B0,
      F_NoHandu_initu := F0,
      b_Fallenu_initu := B1,
      F_Fallenu_initu := F1,
      b_NoLetteru_initu := B2,
      F_NoLetteru_initu := F2,
      b_TooLongu_initu := B3,
      F_TooLongu_initu := F3,
      b_Busyu_initu := B4,
      F_Busyu_initu := F4,
      b_NoDeedu_initu := B5,
      F_NoDeedu_initu := F5,
      b_law_cell_at := B6,
      F_law_cell_at := F6,
      g_law_cell_at := PySem.W.mg_of X G a6,
      k_law_cell_at := k6,
      b_lb_bag := B7,
      F_lb_bag := F7,
      g_lb_bag := PySem.W.mg_of X G a7,
      k_lb_bag := k7,
      b_lb_take := B8,
      F_lb_take := F8,
      g_lb_take := PySem.W.mg_of X G a8,
      k_lb_take := k8,
      b_lb_alike := B9,
      F_lb_alike := F9,
      g_lb_alike := PySem.W.mg_of X G a9,
      k_lb_alike := k9,
      b_law_classes := B10,
      F_law_classes := F10,
      g_law_classes := PySem.W.mg_of X G a10,
      k_law_classes := k10,
      b_law_field := B11,
      F_law_field := F11,
      g_law_field := PySem.W.mg_of X G a11,
      k_law_field := k11,
      b_law_plain := B12,
      F_law_plain := F12,
      g_law_plain := PySem.W.mg_of X G a12,
      k_law_plain := k12,
      b_law := B13,
      F_law := F13,
      g_law := PySem.W.mg_of X G a13,
      k_law := k13,
      g_NoHands := PySem.W.mg_of X G ea_NoHands,
      g_NoKind := PySem.W.mg_of X G ea_NoKind,
      g_NoText := PySem.W.mg_of X G ea_NoText,
      g_NoWorth := PySem.W.mg_of X G ea_NoWorth,
      g_Busy := PySem.W.mg_of X G ea_Busy,
      g_Fallen := PySem.W.mg_of X G ea_Fallen,
      g_NoDeed := PySem.W.mg_of X G ea_NoDeed,
      g_NoHand := PySem.W.mg_of X G ea_NoHand,
      g_NoLetter := PySem.W.mg_of X G ea_NoLetter,
      g_TooLong := PySem.W.mg_of X G ea_TooLong,
      g_JoinError := PySem.W.mg_of X G ea_JoinError,
      x_NoHands := ex_NoHands,
      kp_NoHands := ek_NoHands,
      sb_NoHands := es_NoHands,
      ty_NoHands := et_NoHands,
      xc_NoHands := ⟨ehg_NoHands, ehk_NoHands, es_NoHands, ehd_NoHands, eha_NoHands, eh_n, eh_t, ehm_NoHands⟩,
      x_NoKind := ex_NoKind,
      kp_NoKind := ek_NoKind,
      sb_NoKind := es_NoKind,
      ty_NoKind := et_NoKind,
      xc_NoKind := ⟨ehg_NoKind, ehk_NoKind, es_NoKind, ehd_NoKind, eha_NoKind, eh_n, eh_t, ehm_NoKind⟩,
      x_NoText := ex_NoText,
      kp_NoText := ek_NoText,
      sb_NoText := es_NoText,
      ty_NoText := et_NoText,
      xc_NoText := ⟨ehg_NoText, ehk_NoText, es_NoText, ehd_NoText, eha_NoText, eh_n, eh_t, ehm_NoText⟩,
      x_NoWorth := ex_NoWorth,
      kp_NoWorth := ek_NoWorth,
      sb_NoWorth := es_NoWorth,
      ty_NoWorth := et_NoWorth,
      xc_NoWorth := ⟨ehg_NoWorth, ehk_NoWorth, es_NoWorth, ehd_NoWorth, eha_NoWorth, eh_n, eh_t, ehm_NoWorth⟩,
      oe_Busy := ⟨⟨_, _, _, _, _, _, _, _, _, _, _, _, _, _, _, xl_Busy, xr_Busy⟩, xa_Busy, es_Busy, et_Busy, ek_Busy⟩,
      ii_Busy := a4,
      ti_Busy := ty4,
      nx_Busy := nx_Busy,
      oe_Fallen := ⟨⟨_, _, _, _, _, _, _, _, _, _, _, _, _, _, _, xl_Fallen, xr_Fallen⟩, xa_Fallen, es_Fallen, et_Fallen, ek_Fallen⟩,
      ii_Fallen := a1,
      ti_Fallen := ty1,
      nx_Fallen := nx_Fallen,
      oe_NoDeed := ⟨⟨_, _, _, _, _, _, _, _, _, _, _, _, _, _, _, xl_NoDeed, xr_NoDeed⟩, xa_NoDeed, es_NoDeed, et_NoDeed, ek_NoDeed⟩,
      ii_NoDeed := a5,
      ti_NoDeed := ty5,
      nx_NoDeed := nx_NoDeed,
      oe_NoHand := ⟨⟨_, _, _, _, _, _, _, _, _, _, _, _, _, _, _, xl_NoHand, xr_NoHand⟩, xa_NoHand, es_NoHand, et_NoHand, ek_NoHand⟩,
      ii_NoHand := a0,
      ti_NoHand := ty0,
      nx_NoHand := nx_NoHand,
      oe_NoLetter := ⟨⟨_, _, _, _, _, _, _, _, _, _, _, _, _, _, _, xl_NoLetter, xr_NoLetter⟩, xa_NoLetter, es_NoLetter, et_NoLetter, ek_NoLetter⟩,
      ii_NoLetter := a2,
      ti_NoLetter := ty2,
      nx_NoLetter := nx_NoLetter,
      oe_TooLong := ⟨⟨_, _, _, _, _, _, _, _, _, _, _, _, _, _, _, xl_TooLong, xr_TooLong⟩, xa_TooLong, es_TooLong, et_TooLong, ek_TooLong⟩,
      ii_TooLong := a3,
      ti_TooLong := ty3,
      nx_TooLong := nx_TooLong,
      xf_deed := (by
        rintro C (⟨hh, _⟩ | ⟨hh, rfl⟩ | ⟨hh, _⟩ | ⟨hh, _⟩)
        · exact absurd hh (by decide +kernel)
        · exact ⟨⟨ehg_NoDeed, ehk_NoDeed, es_NoDeed, ehd_NoDeed⟩, nx_NoDeed⟩
        · exact absurd hh (by decide +kernel)
        · exact absurd hh (by decide +kernel)),
      xf_hand := (by
        rintro C (⟨hh, rfl | rfl | rfl⟩ | ⟨hh, _⟩ | ⟨hh, _⟩ | ⟨hh, _⟩)
        · exact ⟨⟨ehg_Busy, ehk_Busy, es_Busy, ehd_Busy⟩, nx_Busy⟩
        · exact ⟨⟨ehg_Fallen, ehk_Fallen, es_Fallen, ehd_Fallen⟩, nx_Fallen⟩
        · exact ⟨⟨ehg_NoHand, ehk_NoHand, es_NoHand, ehd_NoHand⟩, nx_NoHand⟩
        · exact absurd hh (by decide +kernel)
        · exact absurd hh (by decide +kernel)
        · exact absurd hh (by decide +kernel)),
      xf_most := (by
        rintro C (⟨hh, _⟩ | ⟨hh, _⟩ | ⟨hh, _⟩ | ⟨hh, rfl⟩)
        · exact absurd hh (by decide +kernel)
        · exact absurd hh (by decide +kernel)
        · exact absurd hh (by decide +kernel)
        · exact ⟨⟨ehg_TooLong, ehk_TooLong, es_TooLong, ehd_TooLong⟩, nx_TooLong⟩),
      xf_number := (by
        rintro C (⟨hh, _⟩ | ⟨hh, _⟩ | ⟨hh, rfl⟩ | ⟨hh, _⟩)
        · exact absurd hh (by decide +kernel)
        · exact absurd hh (by decide +kernel)
        · exact ⟨⟨ehg_NoLetter, ehk_NoLetter, es_NoLetter, ehd_NoLetter⟩, nx_NoLetter⟩
        · exact absurd hh (by decide +kernel)),
      kt_0 := fun D b ⟨i, hi, hb⟩ => (by
        subst hb
        match i, hi with
        | 0, hi => cases hi; exact ⟨xk_Busy, ko_0_0⟩
        | 1, hi => cases hi; exact ⟨xk_Fallen, ko_1_0⟩
        | 2, hi => cases hi; exact ⟨xk_NoDeed, ko_2_0⟩
        | 3, hi => cases hi; exact ⟨xk_NoHand, ko_3_0⟩
        | 4, hi => cases hi; exact ⟨xk_NoHands, ko_4_0⟩
        | 5, hi => cases hi; exact ⟨xk_NoKind, ko_5_0⟩
        | 6, hi => cases hi; exact ⟨xk_NoLetter, ko_6_0⟩
        | 7, hi => cases hi; exact ⟨xk_NoText, ko_7_0⟩
        | 8, hi => cases hi; exact ⟨xk_NoWorth, ko_8_0⟩
        | 9, hi => cases hi; exact ⟨xk_TooLong, ko_9_0⟩
        | i + 10, hi => cases hi),
      kt_1 := fun D b ⟨i, hi, hb⟩ => (by
        subst hb
        match i, hi with
        | 0, hi => cases hi; exact ⟨xk_Busy, ko_0_1⟩
        | 1, hi => cases hi; exact ⟨xk_Fallen, ko_1_1⟩
        | 2, hi => cases hi; exact ⟨xk_NoDeed, ko_2_1⟩
        | 3, hi => cases hi; exact ⟨xk_NoHand, ko_3_1⟩
        | 4, hi => cases hi; exact ⟨xk_NoHands, ko_4_1⟩
        | 5, hi => cases hi; exact ⟨xk_NoKind, ko_5_1⟩
        | 6, hi => cases hi; exact ⟨xk_NoLetter, ko_6_1⟩
        | 7, hi => cases hi; exact ⟨xk_NoText, ko_7_1⟩
        | 8, hi => cases hi; exact ⟨xk_NoWorth, ko_8_1⟩
        | 9, hi => cases hi; exact ⟨xk_TooLong, ko_9_1⟩
        | i + 10, hi => cases hi),
      kt_2 := fun D b ⟨i, hi, hb⟩ => (by
        subst hb
        match i, hi with
        | 0, hi => cases hi; exact ⟨xk_Busy, ko_0_2⟩
        | 1, hi => cases hi; exact ⟨xk_Fallen, ko_1_2⟩
        | 2, hi => cases hi; exact ⟨xk_NoDeed, ko_2_2⟩
        | 3, hi => cases hi; exact ⟨xk_NoHand, ko_3_2⟩
        | 4, hi => cases hi; exact ⟨xk_NoHands, ko_4_2⟩
        | 5, hi => cases hi; exact ⟨xk_NoKind, ko_5_2⟩
        | 6, hi => cases hi; exact ⟨xk_NoLetter, ko_6_2⟩
        | 7, hi => cases hi; exact ⟨xk_NoText, ko_7_2⟩
        | 8, hi => cases hi; exact ⟨xk_NoWorth, ko_8_2⟩
        | 9, hi => cases hi; exact ⟨xk_TooLong, ko_9_2⟩
        | i + 10, hi => cases hi),
      kt_3 := fun D b ⟨i, hi, hb⟩ => (by
        subst hb
        match i, hi with
        | 0, hi => cases hi; exact ⟨xk_Busy, ko_0_3⟩
        | 1, hi => cases hi; exact ⟨xk_Fallen, ko_1_3⟩
        | 2, hi => cases hi; exact ⟨xk_NoDeed, ko_2_3⟩
        | 3, hi => cases hi; exact ⟨xk_NoHand, ko_3_3⟩
        | 4, hi => cases hi; exact ⟨xk_NoHands, ko_4_3⟩
        | 5, hi => cases hi; exact ⟨xk_NoKind, ko_5_3⟩
        | 6, hi => cases hi; exact ⟨xk_NoLetter, ko_6_3⟩
        | 7, hi => cases hi; exact ⟨xk_NoText, ko_7_3⟩
        | 8, hi => cases hi; exact ⟨xk_NoWorth, ko_8_3⟩
        | 9, hi => cases hi; exact ⟨xk_TooLong, ko_9_3⟩
        | i + 10, hi => cases hi),
      kt_4 := fun D b ⟨i, hi, hb⟩ => (by
        subst hb
        match i, hi with
        | 0, hi => cases hi; exact ⟨xk_Busy, ko_0_4⟩
        | 1, hi => cases hi; exact ⟨xk_Fallen, ko_1_4⟩
        | 2, hi => cases hi; exact ⟨xk_NoDeed, ko_2_4⟩
        | 3, hi => cases hi; exact ⟨xk_NoHand, ko_3_4⟩
        | 4, hi => cases hi; exact ⟨xk_NoHands, ko_4_4⟩
        | 5, hi => cases hi; exact ⟨xk_NoKind, ko_5_4⟩
        | 6, hi => cases hi; exact ⟨xk_NoLetter, ko_6_4⟩
        | 7, hi => cases hi; exact ⟨xk_NoText, ko_7_4⟩
        | 8, hi => cases hi; exact ⟨xk_NoWorth, ko_8_4⟩
        | 9, hi => cases hi; exact ⟨xk_TooLong, ko_9_4⟩
        | i + 10, hi => cases hi),
      kt_5 := fun D b ⟨i, hi, hb⟩ => (by
        subst hb
        match i, hi with
        | 0, hi => cases hi; exact ⟨xk_Busy, ko_0_5⟩
        | 1, hi => cases hi; exact ⟨xk_Fallen, ko_1_5⟩
        | 2, hi => cases hi; exact ⟨xk_NoDeed, ko_2_5⟩
        | 3, hi => cases hi; exact ⟨xk_NoHand, ko_3_5⟩
        | 4, hi => cases hi; exact ⟨xk_NoHands, ko_4_5⟩
        | 5, hi => cases hi; exact ⟨xk_NoKind, ko_5_5⟩
        | 6, hi => cases hi; exact ⟨xk_NoLetter, ko_6_5⟩
        | 7, hi => cases hi; exact ⟨xk_NoText, ko_7_5⟩
        | 8, hi => cases hi; exact ⟨xk_NoWorth, ko_8_5⟩
        | 9, hi => cases hi; exact ⟨xk_TooLong, ko_9_5⟩
        | i + 10, hi => cases hi),
      kt_6 := fun D b ⟨i, hi, hb⟩ => (by
        subst hb
        match i, hi with
        | 0, hi => cases hi; exact ⟨xk_Busy, ko_0_6⟩
        | 1, hi => cases hi; exact ⟨xk_Fallen, ko_1_6⟩
        | 2, hi => cases hi; exact ⟨xk_NoDeed, ko_2_6⟩
        | 3, hi => cases hi; exact ⟨xk_NoHand, ko_3_6⟩
        | 4, hi => cases hi; exact ⟨xk_NoHands, ko_4_6⟩
        | 5, hi => cases hi; exact ⟨xk_NoKind, ko_5_6⟩
        | 6, hi => cases hi; exact ⟨xk_NoLetter, ko_6_6⟩
        | 7, hi => cases hi; exact ⟨xk_NoText, ko_7_6⟩
        | 8, hi => cases hi; exact ⟨xk_NoWorth, ko_8_6⟩
        | 9, hi => cases hi; exact ⟨xk_TooLong, ko_9_6⟩
        | i + 10, hi => cases hi),
      kt_7 := fun D b ⟨i, hi, hb⟩ => (by
        subst hb
        match i, hi with
        | 0, hi => cases hi; exact ⟨xk_Busy, ko_0_7⟩
        | 1, hi => cases hi; exact ⟨xk_Fallen, ko_1_7⟩
        | 2, hi => cases hi; exact ⟨xk_NoDeed, ko_2_7⟩
        | 3, hi => cases hi; exact ⟨xk_NoHand, ko_3_7⟩
        | 4, hi => cases hi; exact ⟨xk_NoHands, ko_4_7⟩
        | 5, hi => cases hi; exact ⟨xk_NoKind, ko_5_7⟩
        | 6, hi => cases hi; exact ⟨xk_NoLetter, ko_6_7⟩
        | 7, hi => cases hi; exact ⟨xk_NoText, ko_7_7⟩
        | 8, hi => cases hi; exact ⟨xk_NoWorth, ko_8_7⟩
        | 9, hi => cases hi; exact ⟨xk_TooLong, ko_9_7⟩
        | i + 10, hi => cases hi),
      kt_8 := fun D b ⟨i, hi, hb⟩ => (by
        subst hb
        match i, hi with
        | 0, hi => cases hi; exact ⟨xk_Busy, ko_0_8⟩
        | 1, hi => cases hi; exact ⟨xk_Fallen, ko_1_8⟩
        | 2, hi => cases hi; exact ⟨xk_NoDeed, ko_2_8⟩
        | 3, hi => cases hi; exact ⟨xk_NoHand, ko_3_8⟩
        | 4, hi => cases hi; exact ⟨xk_NoHands, ko_4_8⟩
        | 5, hi => cases hi; exact ⟨xk_NoKind, ko_5_8⟩
        | 6, hi => cases hi; exact ⟨xk_NoLetter, ko_6_8⟩
        | 7, hi => cases hi; exact ⟨xk_NoText, ko_7_8⟩
        | 8, hi => cases hi; exact ⟨xk_NoWorth, ko_8_8⟩
        | 9, hi => cases hi; exact ⟨xk_TooLong, ko_9_8⟩
        | i + 10, hi => cases hi),
      kt_9 := fun D b ⟨i, hi, hb⟩ => (by
        subst hb
        match i, hi with
        | 0, hi => cases hi; exact ⟨xk_Busy, ko_0_9⟩
        | 1, hi => cases hi; exact ⟨xk_Fallen, ko_1_9⟩
        | 2, hi => cases hi; exact ⟨xk_NoDeed, ko_2_9⟩
        | 3, hi => cases hi; exact ⟨xk_NoHand, ko_3_9⟩
        | 4, hi => cases hi; exact ⟨xk_NoHands, ko_4_9⟩
        | 5, hi => cases hi; exact ⟨xk_NoKind, ko_5_9⟩
        | 6, hi => cases hi; exact ⟨xk_NoLetter, ko_6_9⟩
        | 7, hi => cases hi; exact ⟨xk_NoText, ko_7_9⟩
        | 8, hi => cases hi; exact ⟨xk_NoWorth, ko_8_9⟩
        | 9, hi => cases hi; exact ⟨xk_TooLong, ko_9_9⟩
        | i + 10, hi => cases hi),
      kt_10 := fun D b ⟨i, hi, hb⟩ => (by
        subst hb
        match i, hi with
        | 0, hi => cases hi; exact ⟨xk_Busy, ko_0_10⟩
        | 1, hi => cases hi; exact ⟨xk_Fallen, ko_1_10⟩
        | 2, hi => cases hi; exact ⟨xk_NoDeed, ko_2_10⟩
        | 3, hi => cases hi; exact ⟨xk_NoHand, ko_3_10⟩
        | 4, hi => cases hi; exact ⟨xk_NoHands, ko_4_10⟩
        | 5, hi => cases hi; exact ⟨xk_NoKind, ko_5_10⟩
        | 6, hi => cases hi; exact ⟨xk_NoLetter, ko_6_10⟩
        | 7, hi => cases hi; exact ⟨xk_NoText, ko_7_10⟩
        | 8, hi => cases hi; exact ⟨xk_NoWorth, ko_8_10⟩
        | 9, hi => cases hi; exact ⟨xk_TooLong, ko_9_10⟩
        | i + 10, hi => cases hi),
      kt_11 := fun D b ⟨i, hi, hb⟩ => (by
        subst hb
        match i, hi with
        | 0, hi => cases hi; exact ⟨xk_Busy, ko_0_11⟩
        | 1, hi => cases hi; exact ⟨xk_Fallen, ko_1_11⟩
        | 2, hi => cases hi; exact ⟨xk_NoDeed, ko_2_11⟩
        | 3, hi => cases hi; exact ⟨xk_NoHand, ko_3_11⟩
        | 4, hi => cases hi; exact ⟨xk_NoHands, ko_4_11⟩
        | 5, hi => cases hi; exact ⟨xk_NoKind, ko_5_11⟩
        | 6, hi => cases hi; exact ⟨xk_NoLetter, ko_6_11⟩
        | 7, hi => cases hi; exact ⟨xk_NoText, ko_7_11⟩
        | 8, hi => cases hi; exact ⟨xk_NoWorth, ko_8_11⟩
        | 9, hi => cases hi; exact ⟨xk_TooLong, ko_9_11⟩
        | i + 10, hi => cases hi) }
  exact ⟨_, fun s v => .of_eq rfl, fun base _ _ => ok_law T⟩
end G
open PySem PySem.W PyProof.Rows
set_option maxRecDepth 100000 in
set_option maxHeartbeats 0 in
theorem PySem.Challenge.cw_growjoin_k18_refusals_made_holds : PySem.Challenge.rw_growjoin_k18_refusals_made.Holds := by
  w_on; o_law; k_head; (case hw => w_witness2)
  k_fill
  refine DL.walk (l := PySem.Challenge.rw_growjoin_k18_refusals_made) (k := 30 + 1) ⟨rfl, by decide, by decide⟩ rfl rfl (fun w h Y => PySem.W.kIn_of Y) ?F
  case F =>
    intro w mg fa h KX GX hmg
    refine' G.all_mk KX GX hmg ?ea_NoHands ?ea_NoKind ?ea_NoText ?ea_NoWorth ?ea_Busy ?ea_Fallen ?ea_NoDeed ?ea_NoHand ?ea_NoLetter ?ea_TooLong ?ea_JoinError ?eh_n ?eh_t ?ex_NoHands ?ek_NoHands ?es_NoHands ?et_NoHands ?ehg_NoHands ?ehk_NoHands ?ehd_NoHands ?eha_NoHands ?ehm_NoHands ?ex_NoKind ?ek_NoKind ?es_NoKind ?et_NoKind ?ehg_NoKind ?ehk_NoKind ?ehd_NoKind ?eha_NoKind ?ehm_NoKind ?ex_NoText ?ek_NoText ?es_NoText ?et_NoText ?ehg_NoText ?ehk_NoText ?ehd_NoText ?eha_NoText ?ehm_NoText ?ex_NoWorth ?ek_NoWorth ?es_NoWorth ?et_NoWorth ?ehg_NoWorth ?ehk_NoWorth ?ehd_NoWorth ?eha_NoWorth ?ehm_NoWorth ?ek_Busy ?es_Busy ?et_Busy ?ehg_Busy ?ehk_Busy ?ehd_Busy ?eha_Busy ?ehm_Busy ?il_Busy ?ek_Fallen ?es_Fallen ?et_Fallen ?ehg_Fallen ?ehk_Fallen ?ehd_Fallen ?eha_Fallen ?ehm_Fallen ?il_Fallen ?ek_NoDeed ?es_NoDeed ?et_NoDeed ?ehg_NoDeed ?ehk_NoDeed ?ehd_NoDeed ?eha_NoDeed ?ehm_NoDeed ?il_NoDeed ?ek_NoHand ?es_NoHand ?et_NoHand ?ehg_NoHand ?ehk_NoHand ?ehd_NoHand ?eha_NoHand ?ehm_NoHand ?il_NoHand ?il_NoHands ?il_NoKind ?ek_NoLetter ?es_NoLetter ?et_NoLetter ?ehg_NoLetter ?ehk_NoLetter ?ehd_NoLetter ?eha_NoLetter ?ehm_NoLetter ?il_NoLetter ?il_NoText ?il_NoWorth ?ek_TooLong ?es_TooLong ?et_TooLong ?ehg_TooLong ?ehk_TooLong ?ehd_TooLong ?eha_TooLong ?ehm_TooLong ?il_TooLong ?xl_Busy ?xr_Busy ?xa_Busy ?nx_Busy ?xl_Fallen ?xr_Fallen ?xa_Fallen ?nx_Fallen ?xl_NoDeed ?xr_NoDeed ?xa_NoDeed ?nx_NoDeed ?xl_NoHand ?xr_NoHand ?xa_NoHand ?nx_NoHand ?xl_NoLetter ?xr_NoLetter ?xa_NoLetter ?nx_NoLetter ?xl_TooLong ?xr_TooLong ?xa_TooLong ?nx_TooLong ?ko_0_0 ?ko_0_1 ?ko_0_2 ?ko_0_3 ?ko_0_4 ?ko_0_5 ?ko_0_6 ?ko_0_7 ?ko_0_8 ?ko_0_9 ?ko_0_10 ?ko_0_11 ?ko_1_0 ?ko_1_1 ?ko_1_2 ?ko_1_3 ?ko_1_4 ?ko_1_5 ?ko_1_6 ?ko_1_7 ?ko_1_8 ?ko_1_9 ?ko_1_10 ?ko_1_11 ?ko_2_0 ?ko_2_1 ?ko_2_2 ?ko_2_3 ?ko_2_4 ?ko_2_5 ?ko_2_6 ?ko_2_7 ?ko_2_8 ?ko_2_9 ?ko_2_10 ?ko_2_11 ?ko_3_0 ?ko_3_1 ?ko_3_2 ?ko_3_3 ?ko_3_4 ?ko_3_5 ?ko_3_6 ?ko_3_7 ?ko_3_8 ?ko_3_9 ?ko_3_10 ?ko_3_11 ?ko_4_0 ?ko_4_1 ?ko_4_2 ?ko_4_3 ?ko_4_4 ?ko_4_5 ?ko_4_6 ?ko_4_7 ?ko_4_8 ?ko_4_9 ?ko_4_10 ?ko_4_11 ?ko_5_0 ?ko_5_1 ?ko_5_2 ?ko_5_3 ?ko_5_4 ?ko_5_5 ?ko_5_6 ?ko_5_7 ?ko_5_8 ?ko_5_9 ?ko_5_10 ?ko_5_11 ?ko_6_0 ?ko_6_1 ?ko_6_2 ?ko_6_3 ?ko_6_4 ?ko_6_5 ?ko_6_6 ?ko_6_7 ?ko_6_8 ?ko_6_9 ?ko_6_10 ?ko_6_11 ?ko_7_0 ?ko_7_1 ?ko_7_2 ?ko_7_3 ?ko_7_4 ?ko_7_5 ?ko_7_6 ?ko_7_7 ?ko_7_8 ?ko_7_9 ?ko_7_10 ?ko_7_11 ?ko_8_0 ?ko_8_1 ?ko_8_2 ?ko_8_3 ?ko_8_4 ?ko_8_5 ?ko_8_6 ?ko_8_7 ?ko_8_8 ?ko_8_9 ?ko_8_10 ?ko_8_11 ?ko_9_0 ?ko_9_1 ?ko_9_2 ?ko_9_3 ?ko_9_4 ?ko_9_5 ?ko_9_6 ?ko_9_7 ?ko_9_8 ?ko_9_9 ?ko_9_10 ?ko_9_11 ?ty0 ?a0 ?i0 ?l0 ?c0 ?k0 ?ty1 ?a1 ?i1 ?l1 ?c1 ?k1 ?ty2 ?a2 ?i2 ?l2 ?c2 ?k2 ?ty3 ?a3 ?i3 ?l3 ?c3 ?k3 ?ty4 ?a4 ?i4 ?l4 ?c4 ?k4 ?ty5 ?a5 ?i5 ?l5 ?c5 ?k5 ?a6 ?l6 ?c6 ?k6 ?a7 ?l7 ?c7 ?k7 ?a8 ?l8 ?c8 ?k8 ?a9 ?l9 ?c9 ?k9 ?a10 ?l10 ?c10 ?k10 ?a11 ?l11 ?c11 ?k11 ?a12 ?l12 ?c12 ?k12 ?a13 ?l13 ?c13 ?k13 ?z_ValueError ?z_all ?z_bool ?z_isinstance ?z_len ?z_list ?z_max ?z_min ?z_range ?z_tuple
    (case ea_NoHands => k_is)
    (case ea_NoKind => k_is)
    (case ea_NoText => k_is)
    (case ea_NoWorth => k_is)
    (case ea_Busy => k_is)
    (case ea_Fallen => k_is)
    (case ea_NoDeed => k_is)
    (case ea_NoHand => k_is)
    (case ea_NoLetter => k_is)
    (case ea_TooLong => k_is)
    (case ea_JoinError => k_is)
    (case eh_n => k_is)
    (case eh_t => k_is)
    (case ex_NoHands => k_exc)
    (case ek_NoHands => k_is)
    (case es_NoHands => k_is)
    (case et_NoHands => k_is)
    (case ehg_NoHands => k_is)
    (case ehk_NoHands => k_is)
    (case ehd_NoHands => k_is)
    (case eha_NoHands => k_is)
    (case ehm_NoHands => k_is)
    (case ex_NoKind => k_exc)
    (case ek_NoKind => k_is)
    (case es_NoKind => k_is)
    (case et_NoKind => k_is)
    (case ehg_NoKind => k_is)
    (case ehk_NoKind => k_is)
    (case ehd_NoKind => k_is)
    (case eha_NoKind => k_is)
    (case ehm_NoKind => k_is)
    (case ex_NoText => k_exc)
    (case ek_NoText => k_is)
    (case es_NoText => k_is)
    (case et_NoText => k_is)
    (case ehg_NoText => k_is)
    (case ehk_NoText => k_is)
    (case ehd_NoText => k_is)
    (case eha_NoText => k_is)
    (case ehm_NoText => k_is)
    (case ex_NoWorth => k_exc)
    (case ek_NoWorth => k_is)
    (case es_NoWorth => k_is)
    (case et_NoWorth => k_is)
    (case ehg_NoWorth => k_is)
    (case ehk_NoWorth => k_is)
    (case ehd_NoWorth => k_is)
    (case eha_NoWorth => k_is)
    (case ehm_NoWorth => k_is)
    (case ek_Busy => k_is)
    (case es_Busy => k_is)
    (case et_Busy => k_is)
    (case ehg_Busy => k_is)
    (case ehk_Busy => k_is)
    (case ehd_Busy => k_is)
    (case eha_Busy => k_is)
    (case ehm_Busy => k_is)
    (case il_Busy => k_is)
    (case ek_Fallen => k_is)
    (case es_Fallen => k_is)
    (case et_Fallen => k_is)
    (case ehg_Fallen => k_is)
    (case ehk_Fallen => k_is)
    (case ehd_Fallen => k_is)
    (case eha_Fallen => k_is)
    (case ehm_Fallen => k_is)
    (case il_Fallen => k_is)
    (case ek_NoDeed => k_is)
    (case es_NoDeed => k_is)
    (case et_NoDeed => k_is)
    (case ehg_NoDeed => k_is)
    (case ehk_NoDeed => k_is)
    (case ehd_NoDeed => k_is)
    (case eha_NoDeed => k_is)
    (case ehm_NoDeed => k_is)
    (case il_NoDeed => k_is)
    (case ek_NoHand => k_is)
    (case es_NoHand => k_is)
    (case et_NoHand => k_is)
    (case ehg_NoHand => k_is)
    (case ehk_NoHand => k_is)
    (case ehd_NoHand => k_is)
    (case eha_NoHand => k_is)
    (case ehm_NoHand => k_is)
    (case il_NoHand => k_is)
    (case il_NoHands => k_is)
    (case il_NoKind => k_is)
    (case ek_NoLetter => k_is)
    (case es_NoLetter => k_is)
    (case et_NoLetter => k_is)
    (case ehg_NoLetter => k_is)
    (case ehk_NoLetter => k_is)
    (case ehd_NoLetter => k_is)
    (case eha_NoLetter => k_is)
    (case ehm_NoLetter => k_is)
    (case il_NoLetter => k_is)
    (case il_NoText => k_is)
    (case il_NoWorth => k_is)
    (case ek_TooLong => k_is)
    (case es_TooLong => k_is)
    (case et_TooLong => k_is)
    (case ehg_TooLong => k_is)
    (case ehk_TooLong => k_is)
    (case ehd_TooLong => k_is)
    (case eha_TooLong => k_is)
    (case ehm_TooLong => k_is)
    (case il_TooLong => k_is)
    (case xl_Busy => k_is)
    (case xr_Busy => first | rfl | decide)
    (case xa_Busy => k_is)
    (case nx_Busy => k_is)
    (case xl_Fallen => k_is)
    (case xr_Fallen => first | rfl | decide)
    (case xa_Fallen => k_is)
    (case nx_Fallen => k_is)
    (case xl_NoDeed => k_is)
    (case xr_NoDeed => first | rfl | decide)
    (case xa_NoDeed => k_is)
    (case nx_NoDeed => k_is)
    (case xl_NoHand => k_is)
    (case xr_NoHand => first | rfl | decide)
    (case xa_NoHand => k_is)
    (case nx_NoHand => k_is)
    (case xl_NoLetter => k_is)
    (case xr_NoLetter => first | rfl | decide)
    (case xa_NoLetter => k_is)
    (case nx_NoLetter => k_is)
    (case xl_TooLong => k_is)
    (case xr_TooLong => first | rfl | decide)
    (case xa_TooLong => k_is)
    (case nx_TooLong => k_is)
    (case ko_0_0 => first | rfl | k_is)
    (case ko_0_1 => first | rfl | k_is)
    (case ko_0_2 => first | rfl | k_is)
    (case ko_0_3 => first | rfl | k_is)
    (case ko_0_4 => first | rfl | k_is)
    (case ko_0_5 => first | rfl | k_is)
    (case ko_0_6 => first | rfl | k_is)
    (case ko_0_7 => first | rfl | k_is)
    (case ko_0_8 => first | rfl | k_is)
    (case ko_0_9 => first | rfl | k_is)
    (case ko_0_10 => first | rfl | k_is)
    (case ko_0_11 => first | rfl | k_is)
    (case ko_1_0 => first | rfl | k_is)
    (case ko_1_1 => first | rfl | k_is)
    (case ko_1_2 => first | rfl | k_is)
    (case ko_1_3 => first | rfl | k_is)
    (case ko_1_4 => first | rfl | k_is)
    (case ko_1_5 => first | rfl | k_is)
    (case ko_1_6 => first | rfl | k_is)
    (case ko_1_7 => first | rfl | k_is)
    (case ko_1_8 => first | rfl | k_is)
    (case ko_1_9 => first | rfl | k_is)
    (case ko_1_10 => first | rfl | k_is)
    (case ko_1_11 => first | rfl | k_is)
    (case ko_2_0 => first | rfl | k_is)
    (case ko_2_1 => first | rfl | k_is)
    (case ko_2_2 => first | rfl | k_is)
    (case ko_2_3 => first | rfl | k_is)
    (case ko_2_4 => first | rfl | k_is)
    (case ko_2_5 => first | rfl | k_is)
    (case ko_2_6 => first | rfl | k_is)
    (case ko_2_7 => first | rfl | k_is)
    (case ko_2_8 => first | rfl | k_is)
    (case ko_2_9 => first | rfl | k_is)
    (case ko_2_10 => first | rfl | k_is)
    (case ko_2_11 => first | rfl | k_is)
    (case ko_3_0 => first | rfl | k_is)
    (case ko_3_1 => first | rfl | k_is)
    (case ko_3_2 => first | rfl | k_is)
    (case ko_3_3 => first | rfl | k_is)
    (case ko_3_4 => first | rfl | k_is)
    (case ko_3_5 => first | rfl | k_is)
    (case ko_3_6 => first | rfl | k_is)
    (case ko_3_7 => first | rfl | k_is)
    (case ko_3_8 => first | rfl | k_is)
    (case ko_3_9 => first | rfl | k_is)
    (case ko_3_10 => first | rfl | k_is)
    (case ko_3_11 => first | rfl | k_is)
    (case ko_4_0 => first | rfl | k_is)
    (case ko_4_1 => first | rfl | k_is)
    (case ko_4_2 => first | rfl | k_is)
    (case ko_4_3 => first | rfl | k_is)
    (case ko_4_4 => first | rfl | k_is)
    (case ko_4_5 => first | rfl | k_is)
    (case ko_4_6 => first | rfl | k_is)
    (case ko_4_7 => first | rfl | k_is)
    (case ko_4_8 => first | rfl | k_is)
    (case ko_4_9 => first | rfl | k_is)
    (case ko_4_10 => first | rfl | k_is)
    (case ko_4_11 => first | rfl | k_is)
    (case ko_5_0 => first | rfl | k_is)
    (case ko_5_1 => first | rfl | k_is)
    (case ko_5_2 => first | rfl | k_is)
    (case ko_5_3 => first | rfl | k_is)
    (case ko_5_4 => first | rfl | k_is)
    (case ko_5_5 => first | rfl | k_is)
    (case ko_5_6 => first | rfl | k_is)
    (case ko_5_7 => first | rfl | k_is)
    (case ko_5_8 => first | rfl | k_is)
    (case ko_5_9 => first | rfl | k_is)
    (case ko_5_10 => first | rfl | k_is)
    (case ko_5_11 => first | rfl | k_is)
    (case ko_6_0 => first | rfl | k_is)
    (case ko_6_1 => first | rfl | k_is)
    (case ko_6_2 => first | rfl | k_is)
    (case ko_6_3 => first | rfl | k_is)
    (case ko_6_4 => first | rfl | k_is)
    (case ko_6_5 => first | rfl | k_is)
    (case ko_6_6 => first | rfl | k_is)
    (case ko_6_7 => first | rfl | k_is)
    (case ko_6_8 => first | rfl | k_is)
    (case ko_6_9 => first | rfl | k_is)
    (case ko_6_10 => first | rfl | k_is)
    (case ko_6_11 => first | rfl | k_is)
    (case ko_7_0 => first | rfl | k_is)
    (case ko_7_1 => first | rfl | k_is)
    (case ko_7_2 => first | rfl | k_is)
    (case ko_7_3 => first | rfl | k_is)
    (case ko_7_4 => first | rfl | k_is)
    (case ko_7_5 => first | rfl | k_is)
    (case ko_7_6 => first | rfl | k_is)
    (case ko_7_7 => first | rfl | k_is)
    (case ko_7_8 => first | rfl | k_is)
    (case ko_7_9 => first | rfl | k_is)
    (case ko_7_10 => first | rfl | k_is)
    (case ko_7_11 => first | rfl | k_is)
    (case ko_8_0 => first | rfl | k_is)
    (case ko_8_1 => first | rfl | k_is)
    (case ko_8_2 => first | rfl | k_is)
    (case ko_8_3 => first | rfl | k_is)
    (case ko_8_4 => first | rfl | k_is)
    (case ko_8_5 => first | rfl | k_is)
    (case ko_8_6 => first | rfl | k_is)
    (case ko_8_7 => first | rfl | k_is)
    (case ko_8_8 => first | rfl | k_is)
    (case ko_8_9 => first | rfl | k_is)
    (case ko_8_10 => first | rfl | k_is)
    (case ko_8_11 => first | rfl | k_is)
    (case ko_9_0 => first | rfl | k_is)
    (case ko_9_1 => first | rfl | k_is)
    (case ko_9_2 => first | rfl | k_is)
    (case ko_9_3 => first | rfl | k_is)
    (case ko_9_4 => first | rfl | k_is)
    (case ko_9_5 => first | rfl | k_is)
    (case ko_9_6 => first | rfl | k_is)
    (case ko_9_7 => first | rfl | k_is)
    (case ko_9_8 => first | rfl | k_is)
    (case ko_9_9 => first | rfl | k_is)
    (case ko_9_10 => first | rfl | k_is)
    (case ko_9_11 => first | rfl | k_is)
    (case ty0 => k_is)
    (case a0 => k_is)
    (case i0 => k_is)
    (case l0 => k_is)
    (case c0 => k_is)
    (case k0 => k_is)
    (case ty1 => k_is)
    (case a1 => k_is)
    (case i1 => k_is)
    (case l1 => k_is)
    (case c1 => k_is)
    (case k1 => k_is)
    (case ty2 => k_is)
    (case a2 => k_is)
    (case i2 => k_is)
    (case l2 => k_is)
    (case c2 => k_is)
    (case k2 => k_is)
    (case ty3 => k_is)
    (case a3 => k_is)
    (case i3 => k_is)
    (case l3 => k_is)
    (case c3 => k_is)
    (case k3 => k_is)
    (case ty4 => k_is)
    (case a4 => k_is)
    (case i4 => k_is)
    (case l4 => k_is)
    (case c4 => k_is)
    (case k4 => k_is)
    (case ty5 => k_is)
    (case a5 => k_is)
    (case i5 => k_is)
    (case l5 => k_is)
    (case c5 => k_is)
    (case k5 => k_is)
    (case a6 => k_is)
    (case l6 => k_is)
    (case c6 => k_is)
    (case k6 => k_is)
    (case a7 => k_is)
    (case l7 => k_is)
    (case c7 => k_is)
    (case k7 => k_is)
    (case a8 => k_is)
    (case l8 => k_is)
    (case c8 => k_is)
    (case k8 => k_is)
    (case a9 => k_is)
    (case l9 => k_is)
    (case c9 => k_is)
    (case k9 => k_is)
    (case a10 => k_is)
    (case l10 => k_is)
    (case c10 => k_is)
    (case k10 => k_is)
    (case a11 => k_is)
    (case l11 => k_is)
    (case c11 => k_is)
    (case k11 => k_is)
    (case a12 => k_is)
    (case l12 => k_is)
    (case c12 => k_is)
    (case k12 => k_is)
    (case a13 => k_is)
    (case l13 => k_is)
    (case c13 => k_is)
    (case k13 => k_is)
    (case z_ValueError => k_is)
    (case z_all => k_is)
    (case z_bool => k_is)
    (case z_isinstance => k_is)
    (case z_len => k_is)
    (case z_list => k_is)
    (case z_max => k_is)
    (case z_min => k_is)
    (case z_range => k_is)
    (case z_tuple => k_is)
#print axioms PySem.Challenge.cw_growjoin_k18_refusals_made_holds
