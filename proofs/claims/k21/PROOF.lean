import PyProof.Rows.All
import HandS.ForMost
import HandS.ForExc
import HandS.ExcCtx
import HandS.TupAny
import HandS.Deep
import KE.KIndexOf
import HandS.Style
import HandS.Walk
import HandS.IsInst
import HandS.TupMul
import HandS.Conv
import HandS.Wide
import KE.SortData
import HandS.More
import KE.KDictKeyed
import HandS.Small
import KE.GoesEnum
import HandS.NoneIn
import HandS.TupSets
import PyProof.Rows.StrRev
import HandS.HotCalls
import PyProof.ZipIter
import HandS.ExcIs
import HandS.StrSplit
import KE.KDictZip
import HandS.Zip
import HandS.GenList
import PySem.Challenge.RW_twintorn_k21_whole_what_is_sure
set_option Elab.async false
set_option linter.all false
set_option maxRecDepth 100000
/-! The layer over data: what a piece of the text computes, told of data alone (no heap). -/
namespace Tt
open PySem PySem.Spec PyProof.Rows L2

abbrev D := PyData
/-- a text by its signs -/
abbrev S (l : List Nat) : Str := ⟨l.toArray⟩
/-- a dict of texts, each True (it is walked and asked, never changed any more) -/
def dictD (ks : List Str) : D := .dict (ks.map fun k => (.str k, .bool true))
def dictO (ks : List Str) : HO := .dK (ks.map fun k => (Sum.inr k, V.bl true))

/-- I lies within H (a dict may be locked there) -/
def Sub (I H : Hp) : Prop := ∀ a o, I a = some o → H a = some o ∨ ((∃ kvs, o = .dK kvs) ∧ ∃ b, H a = some (.frz b o))
theorem Sub.refl (H : Hp) : Sub H H := fun _ _ h => .inl h
theorem Sub.same {I J H : Hp} (a : Same I J) (b : Sub J H) : Sub I H := fun x o h => b x o (a x o h)
theorem Sub.grow {I H H' : Hp} (a : Sub I H) (b : Same H H') : Sub I H' := fun x o h => (a x o h).imp (b x o) fun ⟨k, c, e⟩ => ⟨k, c, b x _ e⟩
theorem Sub.of {I H : Hp} (a : Same I H) : Sub I H := fun x o h => .inl (a x o h)
theorem Sub.there {I H : Hp} (a : Sub I H) {x : Addr} {o : HO} (h : I x = some o) : ∃ u, H x = some u := by
  rcases a x o h with e | ⟨_, b, e⟩
  · exact ⟨_, e⟩
  · exact ⟨_, e⟩
theorem Sub.nn {I H : Hp} (a : Sub I H) {x : Addr} (h : H x = none) : I x = none := by
  cases e : I x with
  | none => rfl
  | some o =>
    obtain ⟨u, e2⟩ := a.there e
    rw [h] at e2
    cases e2

theorem Sub.lst {I H : Hp} (s : Sub I H) {a : Addr} {xs : List V} (h : I a = some (.lst xs)) : H a = some (.lst xs) := by
  rcases s a _ h with e | ⟨⟨kvs, z⟩, _⟩
  · exact e
  · cases z
theorem Sub.frz {I H : Hp} (s : Sub I H) {a : Addr} {o : Obj} {u : HO} (h : I a = some (.frz o u)) : H a = some (.frz o u) := by
  rcases s a _ h with e | ⟨⟨kvs, z⟩, _⟩
  · exact e
  · cases z
/-- a tuple that is known to have no dict -/
def TupAt (H : Hp) (a : Addr) (xs : List V) : Prop := ∃ o : Obj, o.dict = none ∧ H a = some (.frz o (.tup xs))
theorem TupAt.same {I J : Hp} (e : Same I J) {a : Addr} {xs : List V} (h : TupAt I a xs) : TupAt J a xs := h.imp fun _ ⟨d, k⟩ => ⟨d, e _ _ k⟩
theorem Sub.tup {I H : Hp} (s : Sub I H) {a : Addr} {xs : List V} (h : TupAt I a xs) : TupAt H a xs := h.imp fun _ ⟨d, k⟩ => ⟨d, s.frz k⟩
theorem TupAt.sq {K : PySem.W.Frag} {H : Hp} {a : Addr} {xs : List V} (h : TupAt H a xs) : SqT K H a xs := by
  obtain ⟨o, _, h⟩ := h
  exact .inl (.inr ⟨o, h⟩)
theorem TupAt.ob {P : Program} {w : World} {H : Hp} {h : Heap} (ok : HOk P w H h) {a : Addr} {xs : List V} (t : TupAt H a xs) : ObjOk P w H h a (.tup xs) := by
  obtain ⟨o, _, k⟩ := t
  exact (ok a _ k).2
mutual
/-- v stands for d; lists and tuples stand in I -/
inductive Dq (I : Hp) : V → D → Prop
  | non : Dq I .non .none
  | bl (b : Bool) : Dq I (.bl b) (.bool b)
  | int (i : Int) : Dq I (.int i) (.int i)
  | str (x : Str) : Dq I (.str x) (.str x)
  | lst {a : Addr} {xs : List V} {ds : List D} : I a = some (.lst xs) → DqAll I xs ds → Dq I (.ref a) (.list ds)
  | tup {a : Addr} {xs : List V} {ds : List D} : TupAt I a xs → DqAll I xs ds → Dq I (.ref a) (.tuple ds)
inductive DqAll (I : Hp) : List V → List D → Prop
  | nil : DqAll I [] []
  | cons {v : V} {vs : List V} {d : D} {ds : List D} : Dq I v d → DqAll I vs ds → DqAll I (v :: vs) (d :: ds)
end
mutual
theorem Dq.same {I J : Hp} (e : Same I J) : ∀ {v : V} {d : D}, Dq I v d → Dq J v d
  | _, _, .non => .non
  | _, _, .bl b => .bl b
  | _, _, .int i => .int i
  | _, _, .str x => .str x
  | _, _, .lst h t => .lst (e _ _ h) (DqAll.same e t)
  | _, _, .tup h t => .tup (h.same e) (DqAll.same e t)
theorem DqAll.same {I J : Hp} (e : Same I J) : ∀ {vs : List V} {ds : List D}, DqAll I vs ds → DqAll J vs ds
  | _, _, .nil => .nil
  | _, _, .cons h t => .cons (Dq.same e h) (DqAll.same e t)
end
mutual
theorem Dq.sub {I H : Hp} (s : Sub I H) : ∀ {v : V} {d : D}, Dq I v d → Dq H v d
  | _, _, .non => .non
  | _, _, .bl b => .bl b
  | _, _, .int i => .int i
  | _, _, .str x => .str x
  | _, _, .lst h t => .lst (s.lst h) (DqAll.sub s t)
  | _, _, .tup h t => .tup (s.tup h) (DqAll.sub s t)
theorem DqAll.sub {I H : Hp} (s : Sub I H) : ∀ {vs : List V} {ds : List D}, DqAll I vs ds → DqAll H vs ds
  | _, _, .nil => .nil
  | _, _, .cons h t => .cons (Dq.sub s h) (DqAll.sub s t)
end
mutual
/-- as the hand layer tells it -/
theorem Dq.dp {K : PySem.W.Frag} {I : Hp} : ∀ {v : V} {d : D}, Dq I v d → Dp K I v d
  | _, _, .non => .non
  | _, _, .bl b => .bl b
  | _, _, .int i => .int i
  | _, _, .str x => .str x
  | _, _, .lst h t => .lst (SqL.of h) (DqAll.dp t)
  | _, _, .tup h t => .tup h.sq (DqAll.dp t)
theorem DqAll.dp {K : PySem.W.Frag} {I : Hp} : ∀ {vs : List V} {ds : List D}, DqAll I vs ds → DpAll K I vs ds
  | _, _, .nil => .nil
  | _, _, .cons h t => .cons (Dq.dp h) (DqAll.dp t)
end
theorem DqAll.len {I : Hp} : ∀ {vs : List V} {ds : List D}, DqAll I vs ds → vs.length = ds.length
  | _, _, .nil => rfl
  | _, _, .cons _ t => by rw [List.length_cons, List.length_cons, DqAll.len t]
theorem DqAll.get {I : Hp} : ∀ {vs : List V} {ds : List D} {i : Nat} {d : D}, DqAll I vs ds → ds[i]? = some d → ∃ v, vs[i]? = some v ∧ Dq I v d
  | _, _, _, _, .nil, e => by simp at e
  | _, _, 0, _, .cons h _, e => by simp at e; subst e; exact ⟨_, rfl, h⟩
  | _, _, i + 1, d, .cons _ t, e => by
    obtain ⟨v, h1, h2⟩ := DqAll.get (i := i) (d := d) t (by simpa using e)
    exact ⟨v, by simpa using h1, h2⟩
theorem DqAll.getV {I : Hp} : ∀ {vs : List V} {ds : List D} {i : Nat} {v : V}, DqAll I vs ds → vs[i]? = some v → ∃ d, ds[i]? = some d ∧ Dq I v d
  | _, _, _, _, .nil, e => by simp at e
  | _, _, 0, _, .cons h _, e => by simp at e; subst e; exact ⟨_, rfl, h⟩
  | _, _, i + 1, v, .cons _ t, e => by
    obtain ⟨d, h1, h2⟩ := DqAll.getV (i := i) (v := v) t (by simpa using e)
    exact ⟨d, by simpa using h1, h2⟩
theorem DqAll.app {I : Hp} : ∀ {vs ws : List V} {ds es : List D}, DqAll I vs ds → DqAll I ws es → DqAll I (vs ++ ws) (ds ++ es)
  | _, _, _, _, .nil, s => s
  | _, _, _, _, .cons r t, s => .cons r (DqAll.app t s)
theorem DqAll.take {I : Hp} : ∀ {vs : List V} {ds : List D} (n : Nat), DqAll I vs ds → DqAll I (vs.take n) (ds.take n)
  | _, _, 0, _ => .nil
  | _, _, _ + 1, .nil => .nil
  | _, _, n + 1, .cons r t => .cons r (DqAll.take n t)
theorem DqAll.drop {I : Hp} : ∀ {vs : List V} {ds : List D} (n : Nat), DqAll I vs ds → DqAll I (vs.drop n) (ds.drop n)
  | _, _, 0, r => r
  | _, _, _ + 1, .nil => .nil
  | _, _, n + 1, .cons _ t => DqAll.drop n t
theorem DqAll.set {I : Hp} {v : V} {d : D} (h : Dq I v d) : ∀ {vs : List V} {ds : List D} (n : Nat), DqAll I vs ds → DqAll I (vs.set n v) (ds.set n d)
  | _, _, _, .nil => .nil
  | _, _, 0, .cons _ t => .cons h t
  | _, _, n + 1, .cons r t => .cons r (DqAll.set h n t)
theorem DqAll.erase {I : Hp} : ∀ {vs : List V} {ds : List D} (n : Nat), DqAll I vs ds → DqAll I (vs.eraseIdx n) (ds.eraseIdx n)
  | _, _, _, .nil => .nil
  | _, _, 0, .cons _ t => t
  | _, _, n + 1, .cons r t => .cons r (DqAll.erase n t)
theorem DqAll.dropLast {I : Hp} {vs : List V} {ds : List D} (h : DqAll I vs ds) : DqAll I vs.dropLast ds.dropLast := by
  rw [List.dropLast_eq_take, List.dropLast_eq_take, h.len]
  exact DqAll.take _ h
theorem DqAll.rev {I : Hp} : ∀ {vs : List V} {ds : List D}, DqAll I vs ds → DqAll I vs.reverse ds.reverse
  | _, _, .nil => .nil
  | _, _, .cons r t => by
    rw [List.reverse_cons, List.reverse_cons]
    exact DqAll.app (DqAll.rev t) (.cons r .nil)
theorem DqAll.ints {I : Hp} : ∀ {vs : List V} {ns : List Int}, DqAll I vs (ns.map .int) → vs = ns.map V.int
  | _, [], .nil => rfl
  | _, _ :: ns, .cons r t => by cases r; rw [DqAll.ints t]; rfl
theorem DqAll.mkInts {I : Hp} : ∀ (ns : List Int), DqAll I (ns.map V.int) (ns.map .int)
  | [] => .nil
  | n :: ns => .cons (.int n) (DqAll.mkInts ns)
theorem DqAll.strs {I : Hp} : ∀ {vs : List V} {ns : List Str}, DqAll I vs (ns.map .str) → vs = ns.map V.str
  | _, [], .nil => rfl
  | _, _ :: ns, .cons r t => by cases r; rw [DqAll.strs t]; rfl
theorem DqAll.mkStrs {I : Hp} : ∀ (ns : List Str), DqAll I (ns.map V.str) (ns.map .str)
  | [] => .nil
  | n :: ns => .cons (.str n) (DqAll.mkStrs ns)
theorem DqAll.bls {I : Hp} : ∀ {vs : List V} {ns : List Bool}, DqAll I vs (ns.map .bool) → vs = ns.map V.bl
  | _, [], .nil => rfl
  | _, _ :: ns, .cons r t => by cases r; rw [DqAll.bls t]; rfl

/-- the script, told apart from other lists -/
def scriptD (ns : List Int) : D := .dict [(.none, .list (ns.map .int))]
/-- the script stands at a: locked, or a constant of the world's -/
def ScrAt (K : PySem.W.Frag) (I : Hp) (a : Addr) (ns : List Int) : Prop := (∃ o, I a = some (.frz o (.lst (ns.map .int)))) ∨ SqL K (fun _ => none) a (ns.map .int)
theorem ScrAt.same {K : PySem.W.Frag} {I J : Hp} {a : Addr} {ns : List Int} (e : Same I J) (h : ScrAt K I a ns) : ScrAt K J a ns := h.imp (fun ⟨o, h⟩ => ⟨o, e a _ h⟩) id
theorem ScrAt.sq {K : PySem.W.Frag} {I H : Hp} {a : Addr} {ns : List Int} (s : Sub I H) (h : ScrAt K I a ns) : SqL K H a (ns.map .int) := by
  rcases h with ⟨o, h⟩ | h
  · exact .inl (.inr ⟨o, s.frz h⟩)
  · rcases h with h | h
    · rcases h with h | ⟨o, h⟩ <;> cases h
    · exact .inr h
/-- v stands for d -/
structure Rv (K : PySem.W.Frag) (I : Hp) (v : V) (d : D) : Prop where
  is : Dq I v d ∨ (∃ a ks o, v = .ref a ∧ d = dictD ks ∧ I a = some (.frz o (dictO ks))) ∨ ∃ a ns, v = .ref a ∧ d = scriptD ns ∧ ScrAt K I a ns
theorem Rv.same {K : PySem.W.Frag} {I J : Hp} {v : V} {d : D} (e : Same I J) (h : Rv K I v d) : Rv K J v d :=
  ⟨h.is.imp (Dq.same e) fun h => h.imp (fun ⟨a, ks, o, h1, h2, h3⟩ => ⟨a, ks, o, h1, h2, e a _ h3⟩) fun ⟨a, ns, h1, h2, h3⟩ => ⟨a, ns, h1, h2, h3.same e⟩⟩
/-- what is no dict -/
def nd : D → Bool
  | .dict _ => false
  | _ => true
theorem Rv.dp {K : PySem.W.Frag} {I : Hp} {v : V} {d : D} (h : Rv K I v d) (n : nd d = true) : Dq I v d := by
  rcases h.is with h | ⟨a, ks, _, _, rfl, _⟩ | ⟨a, ns, _, rfl, _⟩
  · exact h
  · cases n
  · cases n
theorem Rv.script {K : PySem.W.Frag} {I : Hp} {v : V} {ns : List Int} (h : Rv K I v (scriptD ns)) : ∃ a, v = .ref a ∧ ScrAt K I a ns := by
  rcases h.is with h | ⟨a, ks, _, _, e, _⟩ | ⟨a, ns', rfl, e, h⟩
  · cases h
  · unfold scriptD dictD at e
    cases ks with
    | nil => cases e
    | cons k r => cases e
  · unfold scriptD at e
    simp only [PyData.dict.injEq, List.cons.injEq, Prod.mk.injEq, PyData.list.injEq, and_true, true_and] at e
    have z : ns = ns' := List.map_inj_right (fun _ _ h => PyData.int.inj h) |>.mp e
    subst z
    exact ⟨a, rfl, h⟩
theorem Rv.dict {K : PySem.W.Frag} {I : Hp} {v : V} {ks : List Str} (h : Rv K I v (dictD ks)) : ∃ a o, v = .ref a ∧ I a = some (.frz o (dictO ks)) := by
  rcases h.is with h | ⟨a, ks', o, rfl, e, h⟩ | ⟨a, ns', rfl, e, h⟩
  · cases h
  · unfold dictD at e
    simp only [PyData.dict.injEq] at e
    have z : ks = ks' := List.map_inj_right (fun _ _ h => by simpa using h) |>.mp e
    subst z
    exact ⟨a, o, rfl, h⟩
  · unfold scriptD dictD at e
    cases ks with
    | nil => cases e
    | cons k r => cases e
theorem Rv.int {K : PySem.W.Frag} {I : Hp} {v : V} {i : Int} (h : Rv K I v (.int i)) : v = .int i := by cases h.dp rfl; rfl
theorem Rv.str {K : PySem.W.Frag} {I : Hp} {v : V} {i : Str} (h : Rv K I v (.str i)) : v = .str i := by cases h.dp rfl; rfl
theorem Rv.bl {K : PySem.W.Frag} {I : Hp} {v : V} {i : Bool} (h : Rv K I v (.bool i)) : v = .bl i := by cases h.dp rfl; rfl
theorem Rv.non {K : PySem.W.Frag} {I : Hp} {v : V} (h : Rv K I v .none) : v = .non := by cases h.dp rfl; rfl
theorem Rv.lst {K : PySem.W.Frag} {I : Hp} {v : V} {ds : List D} (h : Rv K I v (.list ds)) : ∃ a xs, v = .ref a ∧ I a = some (.lst xs) ∧ DqAll I xs ds := by cases h.dp rfl with | lst q t => exact ⟨_, _, rfl, q, t⟩
theorem Rv.tup {K : PySem.W.Frag} {I : Hp} {v : V} {ds : List D} (h : Rv K I v (.tuple ds)) : ∃ a xs, v = .ref a ∧ TupAt I a xs ∧ DqAll I xs ds := by cases h.dp rfl with | tup q t => exact ⟨_, _, rfl, q, t⟩
theorem Rv.mkInt {K : PySem.W.Frag} {I : Hp} {i : Int} : Rv K I (.int i) (.int i) := ⟨.inl (.int i)⟩
theorem Rv.mkStr {K : PySem.W.Frag} {I : Hp} {i : Str} : Rv K I (.str i) (.str i) := ⟨.inl (.str i)⟩
theorem Rv.mkBl {K : PySem.W.Frag} {I : Hp} {i : Bool} : Rv K I (.bl i) (.bool i) := ⟨.inl (.bl i)⟩
theorem Rv.mkNon {K : PySem.W.Frag} {I : Hp} : Rv K I .non .none := ⟨.inl .non⟩
theorem Rv.mkL {K : PySem.W.Frag} {I : Hp} {a : Addr} {xs : List V} {ds : List D} (h : I a = some (.lst xs)) (t : DqAll I xs ds) : Rv K I (.ref a) (.list ds) := ⟨.inl (.lst h t)⟩
theorem Rv.mkT {K : PySem.W.Frag} {I : Hp} {a : Addr} {xs : List V} {ds : List D} (h : TupAt I a xs) (t : DqAll I xs ds) : Rv K I (.ref a) (.tuple ds) := ⟨.inl (.tup h t)⟩

/-! ### what changes: objects that one holds alone -/
structure MO where
  φ : PySem.W.Frag → Hp → HO → Prop
  mono : ∀ {K I J o}, Same I J → φ K I o → φ K J o
/-- a list -/
def MO.lst (ds : List D) : MO := ⟨fun K I o => ∃ xs, o = .lst xs ∧ DqAll I xs ds, fun e ⟨xs, h, t⟩ => ⟨xs, h, DqAll.same e t⟩⟩
/-- a dict of texts, each True -/
def MO.dk (ks : List Str) : MO := ⟨fun _ _ o => o = dictO ks, fun _ h => h⟩
/-- what a slot holds: nothing told, data, an object of one's own at p, a list of such, a value as it is -/
inductive Sl where
  | no
  | va (d : D)
  | mo (p : Addr) (m : MO)
  | ll (p : Addr) (ps : List Addr) (ms : List MO)
  | rw (v : V)
def foot : Sl → List Addr
  | .mo p _ => [p]
  | .ll p ps _ => p :: ps
  | _ => []
def ft (ρ : List Sl) (i : Nat) : List Addr := ((ρ[i]?).map foot).getD []
def Mt (ρ : List Sl) (a : Addr) : Prop := ∃ i, a ∈ ft ρ i
theorem ft_at {ρ : List Sl} {i : Nat} {s : Sl} (h : ρ[i]? = some s) : ft ρ i = foot s := by unfold ft; rw [h]; rfl
theorem ft_no {ρ : List Sl} {i : Nat} (h : ρ[i]? = none) : ft ρ i = [] := by unfold ft; rw [h]; rfl
theorem ft_set {ρ : List Sl} {i j : Nat} {s : Sl} : ft (ρ.set i s) j = if i = j ∧ j < ρ.length then foot s else ft ρ j := by
  unfold ft
  rw [List.getElem?_set]
  by_cases e : i = j
  · subst e
    rw [if_pos rfl]
    by_cases l : i < ρ.length
    · rw [if_pos l, if_pos ⟨rfl, l⟩]; rfl
    · rw [if_neg l, if_neg fun q => l q.2, List.getElem?_eq_none (Nat.le_of_not_lt l)]
  · rw [if_neg e, if_neg fun q => e q.1]

def ObjAt (K : PySem.W.Frag) (I H : Hp) (q : Addr) (m : MO) : Prop := ∃ o, H q = some o ∧ m.φ K I o
def SlOk (K : PySem.W.Frag) (I H : Hp) : Option V → Sl → Prop
  | _, .no => True
  | some v, .va d => Rv K I v d
  | some v, .mo p m => v = .ref p ∧ ObjAt K I H p m
  | some v, .ll p ps ms => v = .ref p ∧ H p = some (.lst (ps.map .ref)) ∧ Paired (ObjAt K I H) ps ms
  | some v, .rw x => v = x
  | none, _ => False
/-- the slots -/
structure EnvOk (K : PySem.W.Frag) (I H : Hp) (σ : L2.St) (ρ : List Sl) : Prop where
  len : σ.length = ρ.length
  ok : ∀ (i : Nat) (s : Sl), ρ[i]? = some s → SlOk K I H ((σ[i]?).getD none) s
  nd : ∀ i : Nat, (ft ρ i).Nodup
  dj : ∀ (i j : Nat) (a : Addr), a ∈ ft ρ i → a ∈ ft ρ j → i = j
  out : ∀ (i : Nat) (a : Addr), a ∈ ft ρ i → I a = none
  sub : Sub I H

/-- new objects alone -/
structure Grow (I H I' H' : Hp) : Prop where
  ii : Same I I'
  hh : Same H H'
  sub : Sub I' H'
  fr : ∀ a o, H a = some o → I a = none → I' a = none
theorem Grow.refl {I H : Hp} (s : Sub I H) : Grow I H I H := ⟨Same.refl I, Same.refl H, s, fun _ _ _ h => h⟩
theorem Grow.trans {I H I1 H1 I2 H2 : Hp} (a : Grow I H I1 H1) (b : Grow I1 H1 I2 H2) : Grow I H I2 H2 :=
  ⟨a.ii.trans b.ii, a.hh.trans b.hh, b.sub, fun x o h n => b.fr x o (a.hh x o h) (a.fr x o h n)⟩
/-- a new object -/
theorem Grow.new {I H : Hp} {p : Addr} {o : HO} (s : Sub I H) (n : H p = none) : Grow I H (upd I p o) (upd H p o) :=
  ⟨fun a u h => by rw [upd_ne (ne_of_none h (s.nn n))]; exact h, fun a u h => by rw [upd_ne (ne_of_none h n)]; exact h,
    fun a u h => by
      by_cases e : a = p
      · subst e
        rw [upd_same] at h ⊢
        exact .inl h
      · rw [upd_ne e] at h ⊢
        exact s a u h,
    fun a u h m => by rw [upd_ne (ne_of_none h n)]; exact m⟩
/-- a new object that is not told of -/
theorem Grow.dark {I H : Hp} {p : Addr} {o : HO} (s : Sub I H) (n : H p = none) : Grow I H I (upd H p o) :=
  ⟨Same.refl I, fun a u h => by rw [upd_ne (ne_of_none h n)]; exact h, s.grow fun a u h => by rw [upd_ne (ne_of_none h n)]; exact h, fun _ _ _ m => m⟩

structure Step (I H : Hp) (M : Addr → Prop) (I' H' : Hp) (M' : Addr → Prop) : Prop where
  ii : Same I I'
  oth : ∀ a o, H a = some o → ¬ M a → H' a = some o
  fr : ∀ a o, H a = some o → I a = none → ¬ M a → I' a = none
  mm : ∀ a, M' a → M a ∨ H a = none
  al : ∀ a o, H a = some o → ∃ u, H' a = some u
theorem Step.refl {I H : Hp} {M : Addr → Prop} : Step I H M I H M := ⟨Same.refl I, fun _ _ h _ => h, fun _ _ _ n _ => n, fun _ h => .inl h, fun _ o h => ⟨o, h⟩⟩
theorem Step.trans {I H I1 H1 I2 H2 : Hp} {M M1 M2 : Addr → Prop} (a : Step I H M I1 H1 M1) (b : Step I1 H1 M1 I2 H2 M2) : Step I H M I2 H2 M2 := by
  have k : ∀ x o, H x = some o → ¬ M x → ¬ M1 x := fun x o h n m => by
    rcases a.mm x m with z | z
    · exact n z
    · rw [h] at z; cases z
  refine ⟨a.ii.trans b.ii, fun x o h n => b.oth x o (a.oth x o h n) (k x o h n), fun x o h m n => b.fr x o (a.oth x o h n) (a.fr x o h m n) (k x o h n), fun x m => ?_, fun x o h => ?_⟩
  · rcases b.mm x m with z | z
    · exact a.mm x z
    · refine .inr ?_
      cases e : H x with
      | none => rfl
      | some o =>
        obtain ⟨u, e2⟩ := a.al x o e
        rw [z] at e2
        cases e2
  · obtain ⟨u, e⟩ := a.al x o h
    exact b.al x u e
theorem Grow.step {I H I' H' : Hp} (g : Grow I H I' H') (M : Addr → Prop) : Step I H M I' H' M :=
  ⟨g.ii, fun x o h _ => g.hh x o h, fun x o h m _ => g.fr x o h m, fun _ h => .inl h, fun x o h => ⟨o, g.hh x o h⟩⟩
/-- nothing of one's own was changed -/
theorem Step.grow {I H I' H' : Hp} {M M' : Addr → Prop} (s : Step I H M I' H' M') (n : ∀ a, ¬ M a) (b : Sub I' H') : Grow I H I' H' :=
  ⟨s.ii, fun x o h => s.oth x o h (n x), b, fun x o h m => s.fr x o h m (n x)⟩

theorem ObjAt.grow {K : PySem.W.Frag} {I H I' H' : Hp} {q : Addr} {m : MO} (a : Same I I') (b : ∀ o, H q = some o → H' q = some o) (h : ObjAt K I H q m) : ObjAt K I' H' q m := by
  obtain ⟨o, h1, h2⟩ := h
  exact ⟨o, b o h1, m.mono a h2⟩
theorem paired_imp {α β : Type} {P Q : α → β → Prop} : ∀ {as : List α} {bs : List β}, (∀ a ∈ as, ∀ b, P a b → Q a b) → Paired P as bs → Paired Q as bs
  | _, _, _, .nil => .nil
  | _, _, f, .cons h t => .cons (f _ (List.mem_cons_self ..) _ h) (paired_imp (fun a m => f a (List.mem_cons_of_mem _ m)) t)
theorem SlOk.grow {K : PySem.W.Frag} {I H I' H' : Hp} (a : Same I I') : ∀ {v : Option V} {s : Sl}, (∀ q o, q ∈ foot s → H q = some o → H' q = some o) → SlOk K I H v s → SlOk K I' H' v s
  | none, .no, _, h => h
  | some _, .no, _, h => h
  | some _, .va _, _, h => Rv.same (K := K) a h
  | some _, .mo p _, b, ⟨h1, h2⟩ => ⟨h1, h2.grow a fun o => b p o (List.mem_singleton.mpr rfl)⟩
  | some _, .ll p ps _, b, ⟨h1, h2, h3⟩ => ⟨h1, b p _ (List.mem_cons_self ..) h2, paired_imp (fun q hq m h => h.grow a fun o => b q o (List.mem_cons_of_mem _ hq)) h3⟩
  | some _, .rw _, _, h => h
theorem paired_there {K : PySem.W.Frag} {I H : Hp} {a : Addr} : ∀ {ps : List Addr} {ms : List MO}, Paired (ObjAt K I H) ps ms → a ∈ ps → ∃ o, H a = some o
  | _, _, .nil, m => by cases m
  | _, _, .cons h t, m => by
    rcases List.mem_cons.mp m with rfl | m
    · obtain ⟨o, h, _⟩ := h
      exact ⟨o, h⟩
    · exact paired_there t m
theorem SlOk.there {K : PySem.W.Frag} {I H : Hp} {v : Option V} {s : Sl} {a : Addr} (h : SlOk K I H v s) (m : a ∈ foot s) : ∃ o, H a = some o := by
  cases s with
  | no => cases m
  | va d => cases m
  | rw x => cases m
  | mo p mo =>
    cases v with
    | none => exact h.elim
    | some v =>
      obtain ⟨_, o, h, _⟩ := h
      rw [List.mem_singleton.mp m]
      exact ⟨o, h⟩
  | ll p ps ms =>
    cases v with
    | none => exact h.elim
    | some v =>
      obtain ⟨_, h2, h3⟩ := h
      rcases List.mem_cons.mp m with rfl | m
      · exact ⟨_, h2⟩
      · exact paired_there h3 m
section
variable {K : PySem.W.Frag} {I H I' H' : Hp} {σ : L2.St} {ρ ρ' : List Sl}
theorem EnvOk.there (ok : EnvOk K I H σ ρ) {a : Addr} (m : Mt ρ a) : ∃ o, H a = some o := by
  obtain ⟨i, m⟩ := m
  cases e : ρ[i]? with
  | none => rw [ft_no e] at m; cases m
  | some s => rw [ft_at e] at m; exact (ok.ok i s e).there m
theorem EnvOk.grow (ok : EnvOk K I H σ ρ) (g : Grow I H I' H') : EnvOk K I' H' σ ρ :=
  ⟨ok.len, fun i s h => (ok.ok i s h).grow g.ii fun q o _ e => g.hh q o e, ok.nd, ok.dj, fun i a m => by
    obtain ⟨o, e⟩ := ok.there ⟨i, m⟩
    exact g.fr a o e (ok.out i a m), g.sub⟩
theorem EnvOk.at (ok : EnvOk K I H σ ρ) {i : Nat} {s : Sl} (h : ρ[i]? = some s) (n : s ≠ .no) : ∃ v, σ[i]? = some (some v) ∧ SlOk K I H (some v) s := by
  have q := ok.ok i s h
  cases e : (σ[i]?).getD none with
  | none =>
    rw [e] at q
    cases s <;> first | exact absurd rfl n | exact q.elim
  | some v =>
    rw [e] at q
    refine ⟨v, ?_, q⟩
    cases e2 : σ[i]? with
    | none => rw [e2] at e; cases e
    | some o => rw [e2] at e; exact congrArg some e
/-- m: nothing but new objects; else one's own may change, too -/
def Go (m : Bool) (K : PySem.W.Frag) (σ : L2.St) (ρ : List Sl) (I H : Hp) (ρ' : List Sl) (I' H' : Hp) : Prop :=
  if m = true then ρ' = ρ ∧ Grow I H I' H' else EnvOk K I' H' σ ρ' ∧ Step I H (Mt ρ) I' H' (Mt ρ') ∧ ∀ a, Mt ρ' a → Mt ρ a
theorem Go.env {m : Bool} (g : Go m K σ ρ I H ρ' I' H') (ok : EnvOk K I H σ ρ) : EnvOk K I' H' σ ρ' := by
  cases m with
  | true => obtain ⟨rfl, g⟩ := g; exact ok.grow g
  | false => exact g.1
theorem Go.step {m : Bool} (g : Go m K σ ρ I H ρ' I' H') : Step I H (Mt ρ) I' H' (Mt ρ') := by
  cases m with
  | true => obtain ⟨rfl, g⟩ := g; exact g.step _
  | false => exact g.2.1
theorem Go.mt {m : Bool} (g : Go m K σ ρ I H ρ' I' H') : ∀ a, Mt ρ' a → Mt ρ a := by
  cases m with
  | true => obtain ⟨rfl, g⟩ := g; exact fun _ h => h
  | false => exact g.2.2
theorem Go.ii {m : Bool} (g : Go m K σ ρ I H ρ' I' H') : Same I I' := g.step.ii
theorem Go.refl {m : Bool} (ok : EnvOk K I H σ ρ) : Go m K σ ρ I H ρ I H := by
  cases m with
  | true => exact ⟨rfl, Grow.refl ok.sub⟩
  | false => exact ⟨ok, Step.refl, fun _ h => h⟩
theorem Go.trans {m : Bool} {ρ2 : List Sl} {I2 H2 : Hp} (a : Go m K σ ρ I H ρ' I' H') (b : Go m K σ ρ' I' H' ρ2 I2 H2) : Go m K σ ρ I H ρ2 I2 H2 := by
  cases m with
  | true =>
    obtain ⟨rfl, a⟩ := a
    obtain ⟨rfl, b⟩ := b
    exact ⟨rfl, a.trans b⟩
  | false => exact ⟨b.1, a.2.1.trans b.2.1, fun x h => a.2.2 x (b.2.2 x h)⟩
theorem Go.of {m : Bool} (ok : EnvOk K I H σ ρ) (g : Grow I H I' H') : Go m K σ ρ I H ρ I' H' := by
  cases m with
  | true => exact ⟨rfl, g⟩
  | false => exact ⟨ok.grow g, g.step _, fun _ h => h⟩
theorem Go.grow {m : Bool} {I2 H2 : Hp} (a : Go m K σ ρ I H ρ' I' H') (ok : EnvOk K I H σ ρ) (g : Grow I' H' I2 H2) : Go m K σ ρ I H ρ' I2 H2 := a.trans (Go.of (a.env ok) g)
theorem Go.any {m : Bool} (g : Go true K σ ρ I H ρ' I' H') (ok : EnvOk K I H σ ρ) : Go m K σ ρ I H ρ' I' H' := by
  obtain ⟨rfl, g⟩ := g
  exact Go.of ok g
end

/-- what an expression gives: data, or (true) a new list of one's own -/
def RsOk (K : PySem.W.Frag) (H I' H' : Hp) (v : V) : Bool → D → Prop
  | false, d => Rv K I' v d
  | true, d => ∃ p xs ds, v = .ref p ∧ d = .list ds ∧ H p = none ∧ I' p = none ∧ H' p = some (.lst xs) ∧ DqAll I' xs ds
section
variable {K : PySem.W.Frag} {I H I' H' : Hp} {σ : L2.St} {ρ ρ' : List Sl} {m : Bool}
/-- one's own new list told of as data -/
theorem Go.freeze {p : Addr} {o : HO} (g : Go m K σ ρ I H ρ' I' H') (ok : EnvOk K I H σ ρ) (n : H p = none) (ni : I' p = none) (h : H' p = some o) : Go m K σ ρ I H ρ' (upd I' p o) H' := by
  have ij : Same I' (upd I' p o) := fun a u e => by rw [upd_ne (ne_of_none e ni)]; exact e
  have sj : Sub I' H' → Sub (upd I' p o) H' := fun s a u e => by
    by_cases z : a = p
    · subst z
      rw [upd_same] at e
      cases e
      exact .inl h
    · rw [upd_ne z] at e
      exact s a u e
  have np : ∀ a u, H a = some u → a ≠ p := fun a u e => ne_of_none e n
  cases m with
  | true =>
    obtain ⟨rfl, g⟩ := g
    exact ⟨rfl, g.ii.trans ij, g.hh, sj g.sub, fun a u e z => by rw [upd_ne (np a u e)]; exact g.fr a u e z⟩
  | false =>
    obtain ⟨ok', st, mt⟩ := g
    refine ⟨⟨ok'.len, fun i s e => (ok'.ok i s e).grow ij fun _ _ _ e => e, ok'.nd, ok'.dj, fun i a z => ?_, sj ok'.sub⟩, ⟨st.ii.trans ij, st.oth, fun a u e z q => by rw [upd_ne (np a u e)]; exact st.fr a u e z q, st.mm, st.al⟩, mt⟩
    obtain ⟨u, e⟩ := ok.there (mt a ⟨i, z⟩)
    rw [upd_ne (np a u e)]
    exact ok'.out i a z
theorem RsOk.data {v : V} {o : Bool} {d : D} (r : RsOk K H I' H' v o d) (g : Go m K σ ρ I H ρ' I' H') (ok : EnvOk K I H σ ρ) : ∃ J, Go m K σ ρ I H ρ' J H' ∧ Rv K J v d := by
  cases o with
  | false => exact ⟨I', g, r⟩
  | true =>
    obtain ⟨p, xs, ds, rfl, rfl, n, ni, h, t⟩ := r
    refine ⟨_, g.freeze ok n ni h, Rv.mkL upd_same (DqAll.same (fun a u e => ?_) t)⟩
    rw [upd_ne (ne_of_none e ni)]
    exact e
end

/-! ### what may be raised: classes W, with all that stood ahead of the def kept -/
def Thr (X : Cx) (H0 : Hp) (W : Value → Prop) : Prop := L2N.Takes X (fun cls d _ H' => W cls ∧ d = none ∧ Same H0 H')
structure XOk (X : Cx) (W : Value → Prop) (H : Hp) (ρ : List Sl) : Prop where
  ex : ∃ H0, Thr X H0 W ∧ Same H0 H ∧ ∀ a, Mt ρ a → H0 a = none
/-- nothing is raised -/
abbrev W0 : Value → Prop := fun _ => False
theorem XOk.zero {X : Cx} {H : Hp} {ρ : List Sl} : XOk X W0 H ρ :=
  ⟨fun _ => none, fun _ _ ⟨_, _, _, _, _, _, _, _, _, _, _, _, _, _, _, _, z⟩ => z.1.elim, fun _ _ z => (nomatch z), fun _ _ => rfl⟩
theorem XOk.step {X : Cx} {W : Value → Prop} {I H I' H' : Hp} {ρ ρ' : List Sl} (x : XOk X W H ρ) (s : Step I H (Mt ρ) I' H' (Mt ρ')) : XOk X W H' ρ' := by
  obtain ⟨H0, t, h, k⟩ := x.ex
  have nm : ∀ a o, H0 a = some o → ¬ Mt ρ a := fun a o e m => by rw [k a m] at e; cases e
  refine ⟨H0, t, fun a o e => s.oth a o (h a o e) (nm a o e), fun a m => ?_⟩
  rcases s.mm a m with z | z
  · exact k a z
  · cases e : H0 a with
    | none => rfl
    | some o => rw [h a o e] at z; cases z
end Tt

/-! new tuples, told as known objects without a dict; t.index(x) -/
namespace Tt
open PySem PySem.Spec PyProof.Rows L2
def tupOb (us : List Value) : Obj := { cls := .type "tuple", data := .seq us.toArray }
theorem tupOb_ok {P : Program} {w : World} {H : Hp} {h : Heap} {xs : List V} {us : List Value} (z : xs.length ≤ sizeLine) (r : Vals xs us) : ObjOk P w H (h.push (tupOb us)) h.objs.size (.frz (tupOb us) (.tup xs)) :=
  ⟨Heap.get?_push_size _ rfl, z, us, r, IsTup.new _ _⟩
section
variable {X : Cx} {es : List Expr} {t : TA} {pos : Pos}
def tTupF (t : TA) : TE := fun σ H Q => t σ H fun xs H1 => xs.length ≤ sizeLine ∧ ∀ (p : Addr) (o : Obj), o.dict = none → H1 p = none → Q (.ref p) (upd H1 p (.frz o (.tup xs)))
theorem pe_tupF {x1} (h : PA X es t) : PE X (.Tuple es x1 pos) (tTupF t) := by
  refine ⟨fun pins s σ H Q I hq => ?_⟩
  refine wpAny_Tuple_spliced (thn (h.run pos pins s σ H _ I hq) fun us s1 ⟨xs, H1, I1, r, z, q⟩ => ⟨Nat.le_trans (Nat.le_of_eq r.length.symm) z, ?_⟩)
  have new : ObjOk X.prog X.w (upd H1 s1.heap.objs.size (.frz (tupOb us) (.tup xs))) (s1.heap.push (tupOb us)) s1.heap.objs.size (.frz (tupOb us) (.tup xs)) := tupOb_ok z r
  exact ⟨.ref s1.heap.objs.size, _, I1.laid (t' := s1.toks) (fun b u e => Heap.get?_push_of_some _ e) (Nat.le_refl _) new, rfl, q _ _ rfl (I1.hok.fresh (Nat.le_refl _))⟩
/-- t + u -/
def rCatF (K : PySem.W.Frag) : R2 := fun x y H Q => ∃ a b xs ys, x = .ref a ∧ y = .ref b ∧ SqT K H a xs ∧ SqT K H b ys ∧ xs.length + ys.length ≤ sizeLine ∧
  (xs = [] → Q (.ref b) H) ∧ (ys = [] → Q (.ref a) H) ∧ ∀ (p : Addr) (o : Obj), o.dict = none → H p = none → Q (.ref p) (upd H p (.frz o (.tup (xs ++ ys))))
theorem op_catF : OpR X (binaryOp .Add) (rCatF X.K) := by
  intro pins s σ H x y v u Q I rx ry h
  obtain ⟨a, b, xs, ys, rfl, rfl, ha, hb, hz, q0, q1, q2⟩ := h
  cases rx
  cases ry
  obtain ⟨is1, r1, p1, _⟩ := I.tuple ha
  obtain ⟨is2, r2, p2, _⟩ := I.tuple hb
  cases xs with
  | nil =>
    cases r1
    exact cat_tup0 p1 p2 ⟨.ref b, H, I, rfl, q0 rfl⟩
  | cons x0 xs =>
    refine HT.cat_tup p1 p2 (fun z => ?_) (fun z => ?_) (fun z => ?_) ?_
    · rw [z] at r1
      cases r1
    · subst z
      cases r2
      exact ⟨.ref a, H, I, rfl, q1 rfl⟩
    · have new : ObjOk X.prog X.w (upd H s.heap.objs.size (.frz (tupOb (is1 ++ is2)) (.tup (x0 :: xs ++ ys)))) (s.heap.push (tupOb (is1 ++ is2))) s.heap.objs.size (.frz (tupOb (is1 ++ is2)) (.tup (x0 :: xs ++ ys))) := tupOb_ok (by rw [List.length_append]; exact hz) (r1.append r2)
      exact ⟨.ref s.heap.objs.size, _, I.laid (t' := s.toks) (fun b ob e => Heap.get?_push_of_some _ e) (Nat.le_refl _) new, rfl, q2 _ _ rfl (I.hok.fresh (Nat.le_refl _))⟩
    · rw [← r1.length, ← r2.length]
      exact hz
/-- t[lo:hi] -/
def rSlF (K : PySem.W.Frag) : V → Option Int → Option Int → Hp → VK → Prop := fun x lo hi H Q => ∃ a xs, x = .ref a ∧ SqT K H a xs ∧
  (HT.sIx xs.length 0 lo = 0 ∧ HT.sIx xs.length xs.length hi = xs.length → Q (.ref a) H) ∧ (∀ (p : Addr) (o : Obj), o.dict = none → H p = none → Q (.ref p) (upd H p (.frz o (.tup (cutV xs lo hi)))))
theorem sl_tupF : SlR X (rSlF X.K) := by
  intro pins s σ H x v vl vu lo hi sl Q I rx hs pl pu h
  obtain ⟨a, xs, rfl, hx, q1, q2⟩ := h
  cases rx
  obtain ⟨its, r, ht, hz⟩ := I.tuple hx
  have len : its.toArray.size = xs.length := by rw [List.size_toArray]; exact r.length.symm
  refine ⟨"tuple", _, PyProof.Rows.slot_tuple_getitem.lookup, ht.typeIs, ?_⟩
  by_cases whole : HT.sIx xs.length 0 lo = 0 ∧ HT.sIx xs.length xs.length hi = xs.length
  · exact getItem_tuple_whole ht hs pl pu (by rw [len]; exact whole) ⟨.ref a, H, I, rfl, q1 whole⟩
  · refine HT.getItem_tuple_cut ht hs pl pu (by rw [len]; exact whole) ?_ (by rw [len]; exact hz)
    rw [len]
    have cut_ := (r.drop (HT.sIx xs.length 0 lo)).take (HT.sIx xs.length xs.length hi - HT.sIx xs.length 0 lo)
    have new : ObjOk X.prog X.w (upd H s.heap.objs.size (.frz (tupOb ((its.drop (HT.sIx xs.length 0 lo)).take (HT.sIx xs.length xs.length hi - HT.sIx xs.length 0 lo))) (.tup (cutV xs lo hi)))) (s.heap.push (tupOb ((its.drop (HT.sIx xs.length 0 lo)).take (HT.sIx xs.length xs.length hi - HT.sIx xs.length 0 lo)))) s.heap.objs.size (.frz (tupOb ((its.drop (HT.sIx xs.length 0 lo)).take (HT.sIx xs.length xs.length hi - HT.sIx xs.length 0 lo))) (.tup (cutV xs lo hi))) := tupOb_ok (Nat.le_trans (cutV_length xs lo hi) hz) cut_
    exact ⟨.ref s.heap.objs.size, _, I.laid (t' := s.toks) (fun b ob e => Heap.get?_push_of_some _ e) (Nat.le_refl _) new, rfl, q2 _ _ rfl (I.hok.fresh (Nat.le_refl _))⟩
/-- tuple(x), x a list or a tuple -/
theorem call_tuple_ofF : CallR X (.type "tuple") (fun xs H Q => ∃ p ys, xs = [.ref p] ∧ ((SqL X.K H p ys ∧ ∀ (l : Addr) (o : Obj), o.dict = none → H l = none → Q (.ref l) (upd H l (.frz o (.tup ys)))) ∨ (SqT X.K H p ys ∧ Q (.ref p) H))) := by
  intro pins s σ H xs us Q I r h
  obtain ⟨p, ys, rfl, h⟩ := h
  obtain ⟨u, rfl, rx⟩ := vals1 r
  cases rx
  rcases h with ⟨hq, q⟩ | ⟨hq, q⟩
  · obtain ⟨its, r2, pl, hz⟩ := I.list hq
    have len := r2.length
    refine call_tuple_list pl.isList (fun h2 kp => ?_) (by simp only [List.size_toArray] <;> omega)
    have Ik : Inv X pins σ H { s with heap := h2 } := I.kept (t' := s.toks) kp
    have new : ObjOk X.prog X.w (upd H h2.objs.size (.frz (tupOb its) (.tup ys))) (h2.push (tupOb its)) h2.objs.size (.frz (tupOb its) (.tup ys)) := tupOb_ok hz r2
    exact ⟨.ref h2.objs.size, _, Ik.laid (t' := s.toks) (fun b o e => Heap.get?_push_of_some _ e) (Nat.le_refl _) new, rfl, q _ _ rfl (Ik.hok.fresh (Nat.le_refl _))⟩
  · obtain ⟨its, r2, pl, hz⟩ := I.tuple hq
    exact call_tuple_same pl ⟨.ref p, H, I, rfl, q⟩
/-- t.index(x): whole numbers, x is there -/
def tTix (K : PySem.W.Frag) (to : TE) (t : TA) : TE := fun σ H Q => to σ H fun x H1 => ∃ (p : Addr) (ns : List Int), x = .ref p ∧ TupAt H1 p (ns.map V.int) ∧ t σ H1 fun xs H2 => ∃ k : Int, xs = [.int k] ∧ TupAt H2 p (ns.map V.int) ∧ k ∈ ns ∧ Q (.int (ns.idxOf k : Nat)) H2
theorem pe_tindex {o e : Expr} {to : TE} {t : TA} {apos cpos : Pos} (ho : PE X o to) (ha : PA X [e] t)
    (hbase : attributeBase o "index" X.env (eval o X.env) = eval o X.env := by rfl)
    (hfew : ((backTo cpos (starEach [e] X.env)).all (fun x => !x.1) && (backToKw cpos (keywordEach [] X.env)).all (fun x => x.1.isSome)
      && decide (([e] : List Expr).length + ([] : List Keyword).length + (if ([] : List Keyword).isEmpty then 0 else 1) < 30)) = true := by rfl)
    (hline : (apos.endLine == cpos.line) = true := by rfl) (hs : starEach [e] X.env = (false, eval e X.env) :: starEach [] X.env := by rfl) (hplain : (backTo cpos (starEach [] X.env)).any (·.1) = false := by rfl) :
    PE X (.Call (.Attribute o "index" apos) [e] [] cpos) (tTix X.K to t) := by
  refine ⟨fun pins s σ H Q I h => ?_⟩
  refine wpAny_Call_method_late hbase hfew hline rfl (thn (ho.run pins s σ H _ I h) fun v s1 ⟨x, H1, I1, r1, p, ns, ex, tp, q1⟩ => ?_)
  subst ex
  cases r1
  obtain ⟨ob, nd, hp⟩ := tp
  obtain ⟨hg, _, its, _, tup⟩ : ObjOk X.prog X.w H1 s1.heap p (.frz ob (.tup (ns.map V.int))) := I1.hok p _ hp
  have ht : s1.TypeIs (.ref p) "tuple" := by
    obtain ⟨o2, e2, c2, _⟩ := tup
    exact ⟨o2, e2, c2⟩
  refine ⟨"tuple", "tuple.index", PySem.F.plainAttrs_tuple, PySem.F.slot_tuple_index, PySem.F.type_tuple_index, ht, fun a e => by cases e; exact ⟨ob, hg, nd⟩, ?_⟩
  have hA := ha.run cpos pins s1 σ H1 _ I1 q1
  rw [hs] at hA ⊢
  refine Calls.callWith_builtin (by show (false || (backTo cpos (starEach [] X.env)).any (·.1)) = false; rw [hplain] <;> rfl) (Calls.evalArgs_plain ?_)
  refine thn hA fun us s2 ⟨vs, H2, I2, r2, k, ev, tp2, hk, q2⟩ => ?_
  subst ev
  obtain ⟨u, rfl, tk, rfl⟩ := vals1 r2
  obtain ⟨ob2, nd2, hp2⟩ := tp2
  obtain ⟨hg2, _, its2, ri, tup2⟩ : ObjOk X.prog X.w H2 s2.heap p (.frz ob2 (.tup (ns.map V.int))) := I2.hok p _ hp2
  exact PySem.SeqAt.tuple_index_ints (vs := its2) tup2 (intsAre_of ri) hk ⟨.int (ns.idxOf k : Nat), H2, I2.tok _, ⟨_, rfl⟩, q2⟩
end
end Tt

namespace Tt
open PySem PySem.Spec PyProof.Rows L2

/-! ### the weakest readings -/
section
variable {X : Cx}
def wE (X : Cx) (e : Expr) : TE := fun σ H Q => ∃ t, PE X e t ∧ t σ H Q
theorem pe_w {e : Expr} : PE X e (wE X e) := ⟨fun pins s σ H Q I ⟨_, h, q⟩ => h.run pins s σ H Q I q⟩
def wT (X : Cx) (e : Expr) : TT := fun σ H Q => ∃ t, PT X e t ∧ t σ H Q
theorem pt_w {e : Expr} : PT X e (wT X e) := ⟨fun pins s σ H Q I ⟨_, h, q⟩ => h.run pins s σ H Q I q⟩
def wW (X : Cx) (e : Expr) : TT := fun σ H Q => ∃ t, PW X e t ∧ t σ H Q
theorem pw_w {e : Expr} : PW X e (wW X e) := ⟨fun w pins s σ H Q I ⟨_, h, q⟩ => h.run w pins s σ H Q I q⟩
def wA (X : Cx) (es : List Expr) : TA := fun σ H Q => ∃ t, PA X es t ∧ t σ H Q
theorem pa_w {es : List Expr} : PA X es (wA X es) := ⟨fun pos pins s σ H Q I ⟨_, h, q⟩ => h.run pos pins s σ H Q I q⟩
def wS (X : Cx) (ss : List Stmt) : TS := fun D σ H => ∃ t, PSs X ss t ∧ t D σ H
theorem pss_w {ss : List Stmt} : PSs X ss (wS X ss) := ⟨fun pins s σ H D I ⟨_, h, q⟩ => h.run pins s σ H D I q⟩
def w1 (X : Cx) (st : Stmt) : TS := fun D σ H => ∃ t, PS X st t ∧ t D σ H
theorem ps_w {st : Stmt} : PS X st (w1 X st) := ⟨fun pins s σ H D I ⟨_, h, q⟩ => h.run pins s σ H D I q⟩
def wOp (X : Cx) (f : Value → Value → Sem Value) : R2 := fun x y H Q => ∃ r, OpR X f r ∧ r x y H Q
theorem op_w {f : Value → Value → Sem Value} : OpR X f (wOp X f) := fun pins s σ H x y v u Q I rx ry ⟨_, h, q⟩ => h pins s σ H x y v u Q I rx ry q
def wUn (X : Cx) (f : Value → Sem Value) : V → Hp → VK → Prop := fun x H Q => ∃ r, UnR X f r ∧ r x H Q
theorem un_w {f : Value → Sem Value} : UnR X f (wUn X f) := fun pins s σ H x v Q I rx ⟨_, h, q⟩ => h pins s σ H x v Q I rx q
def wCall (X : Cx) (f : Value) : List V → Hp → VK → Prop := fun xs H Q => ∃ r, CallR X f r ∧ r xs H Q
theorem call_w {f : Value} : CallR X f (wCall X f) := fun pins s σ H xs us Q I rx ⟨_, h, q⟩ => h pins s σ H xs us Q I rx q
def wMt (X : Cx) (id : String) : V → List V → Hp → VK → Prop := fun x xs H Q => ∃ r, MtR X id r ∧ r x xs H Q
theorem mt_w {id : String} : MtR X id (wMt X id) := fun pins s σ H x xs v us Q I rx rs ⟨_, h, q⟩ => h pins s σ H x xs v us Q I rx rs q
def wIx (X : Cx) : R2 := fun x y H Q => ∃ r, IxR X r ∧ r x y H Q
theorem ix_w : IxR X (wIx X) := fun a b pins s σ H x y v u Q I rx ry ⟨_, h, q⟩ e => h a b pins s σ H x y v u Q I rx ry q e
def wSl (X : Cx) : V → Option Int → Option Int → Hp → VK → Prop := fun x lo hi H Q => ∃ r, SlR X r ∧ r x lo hi H Q
theorem sl_w : SlR X (wSl X) := fun pins s σ H x v vl vu lo hi sl Q I rx hs pl pu ⟨_, h, q⟩ => h pins s σ H x v vl vu lo hi sl Q I rx hs pl pu q
def wI (X : Cx) (tg iter : Expr) : TI := fun σ H R => ∃ w, PI X tg iter w ∧ w σ H R
theorem pi_w {tg iter : Expr} : PI X tg iter (wI X tg iter) := ⟨fun pins s σ H R I ⟨_, h, q⟩ => h.run pins s σ H R I q⟩
def wTs (X : Cx) (ifs : List Expr) : TT := fun σ H Q => ∃ t, PTs X ifs t ∧ t σ H Q
theorem pts_w {ifs : List Expr} : PTs X ifs (wTs X ifs) := ⟨fun pins s σ H Q I ⟨_, h, q⟩ => h.run pins s σ H Q I q⟩
def wSet (X : Cx) : TSet := fun o i v H Q => ∃ t, PSet X t ∧ t o i v H Q
theorem set_w : PSet X (wSet X) := fun pins s σ H o i v ov iv u Q I ro ri rv ⟨_, h, q⟩ => h pins s σ H o i v ov iv u Q I ro ri rv q
def wIp (X : Cx) (op : Operator) : TIp := fun x y H Q => ∃ t, PIp X op t ∧ t x y H Q
theorem ip_w {op : Operator} : PIp X op (wIp X op) := fun pins s σ H x y v u Q I rx ry ⟨_, h, q⟩ => h pins s σ H x y v u Q I rx ry q
end

/-! ### the judgements over data -/
abbrev Wx := Value → Prop
def EM (m : Bool) (X : Cx) (e : Expr) (ρ : List Sl) (W : Wx) (Q : Bool → D → List Sl → Prop) : Prop :=
  ∀ σ I H, EnvOk X.K I H σ ρ → XOk X W H ρ → ∀ R : VK, (∀ v o d ρ' I' H', Go m X.K σ ρ I H ρ' I' H' → RsOk X.K H I' H' v o d → Q o d ρ' → R v H') → wE X e σ H R
def TM (m : Bool) (X : Cx) (e : Expr) (ρ : List Sl) (W : Wx) (Q : Bool → List Sl → Prop) : Prop :=
  ∀ σ I H, EnvOk X.K I H σ ρ → XOk X W H ρ → ∀ R : Bool → Hp → Prop, (∀ b ρ' I' H', Go m X.K σ ρ I H ρ' I' H' → Q b ρ' → R b H') → wT X e σ H R
def UM (m : Bool) (X : Cx) (e : Expr) (ρ : List Sl) (W : Wx) (Q : Bool → List Sl → Prop) : Prop :=
  ∀ σ I H, EnvOk X.K I H σ ρ → XOk X W H ρ → ∀ R : Bool → Hp → Prop, (∀ b ρ' I' H', Go m X.K σ ρ I H ρ' I' H' → Q b ρ' → R b H') → wW X e σ H R
def AM (m : Bool) (X : Cx) (es : List Expr) (ρ : List Sl) (W : Wx) (Q : List D → List Sl → Prop) : Prop :=
  ∀ σ I H, EnvOk X.K I H σ ρ → XOk X W H ρ → ∀ R : List V → Hp → Prop, (∀ vs ds ρ' I' H', Go m X.K σ ρ I H ρ' I' H' → Paired (Rv X.K I') vs ds → Q ds ρ' → R vs H') → wA X es σ H R
/-- what an operation on values comes to (o: a new list) -/
def Res (X : Cx) (I H : Hp) (Q : Bool → D → Prop) (R : VK) : Prop := ∀ z o d I' H', Grow I H I' H' → RsOk X.K H I' H' z o d → Q o d → R z H'
/-- an operation on data -/
def FD (X : Cx) (f : Value → Value → Sem Value) (x y : D) (Q : Bool → D → Prop) : Prop :=
  ∀ I H v u, Sub I H → Rv X.K I v x → Rv X.K I u y → ∀ R : VK, Res X I H Q R → wOp X f v u H R
def GD (X : Cx) (f : Value → Sem Value) (x : D) (Q : Bool → D → Prop) : Prop :=
  ∀ I H v, Sub I H → Rv X.K I v x → ∀ R : VK, Res X I H Q R → wUn X f v H R
def ID (X : Cx) (x y : D) (Q : Bool → D → Prop) : Prop :=
  ∀ I H v u, Sub I H → Rv X.K I v x → Rv X.K I u y → ∀ R : VK, Res X I H Q R → wIx X v u H R
def LD (X : Cx) (x : D) (lo hi : Option Int) (Q : Bool → D → Prop) : Prop :=
  ∀ I H v, Sub I H → Rv X.K I v x → ∀ R : VK, Res X I H Q R → wSl X v lo hi H R
/-- a call of a built-in on data -/
def KD (X : Cx) (f : Value) (ds : List D) (Q : Bool → D → Prop) : Prop :=
  ∀ I H vs, Sub I H → Paired (Rv X.K I) vs ds → ∀ R : VK, Res X I H Q R → wCall X f vs H R
/-- a method of a text -/
def MD (X : Cx) (id : String) (x : Str) (ds : List D) (Q : Bool → D → Prop) : Prop :=
  ∀ I H vs, Sub I H → Paired (Rv X.K I) vs ds → ∀ R : VK, Res X I H Q R → wMt X id (.str x) vs H R

theorem pairedR_same {K : PySem.W.Frag} {I J : Hp} (e : Same I J) {vs : List V} {ds : List D} (h : Paired (Rv K I) vs ds) : Paired (Rv K J) vs ds := paired_imp (fun _ _ _ q => q.same e) h
theorem RsOk.back {K : PySem.W.Frag} {H H1 I' H' : Hp} {v : V} {d : D} (n : ∀ p, H1 p = none → H p = none) : ∀ {o : Bool}, RsOk K H1 I' H' v o d → RsOk K H I' H' v o d
  | false, r => r
  | true, ⟨p, xs, ds, h1, h2, h3, h4⟩ => ⟨p, xs, ds, h1, h2, n p h3, h4⟩

section
variable {X : Cx} {m : Bool} {ρ ρ1 : List Sl} {W : Wx} {a b c e : Expr} {es : List Expr} {pos p : Pos} {Q : Bool → D → List Sl → Prop} {QT : Bool → List Sl → Prop} {QA : List D → List Sl → Prop} {σ : L2.St} {I H I1 H1 : Hp}

theorem Go.nn (g : Go m X.K σ ρ I H ρ1 I1 H1) (p : Addr) (n : H1 p = none) : H p = none := by
  cases e : H p with
  | none => rfl
  | some o =>
    obtain ⟨u, e2⟩ := g.step.al p o e
    rw [n] at e2
    cases e2
theorem EM.run (h : EM m X e ρ W Q) (ok : EnvOk X.K I H σ ρ) (xk : XOk X W H ρ) {R : VK} (f : ∀ v o d ρ' I' H', Go m X.K σ ρ I H ρ' I' H' → Rv X.K I' v d → Q o d ρ' → R v H') : wE X e σ H R :=
  h σ I H ok xk R fun v o d ρ' I' H' g r q => by
    obtain ⟨J, g', r'⟩ := r.data g ok
    exact f v o d ρ' J H' g' r' q
/-- a last operation's end -/
theorem Res.fin {R : VK} {Q1 : Bool → D → Prop} (ok : EnvOk X.K I H σ ρ) (g : Go m X.K σ ρ I H ρ1 I1 H1) (f : ∀ v o d ρ' I' H', Go m X.K σ ρ I H ρ' I' H' → RsOk X.K H I' H' v o d → Q o d ρ' → R v H') (k : ∀ o d, Q1 o d → Q o d ρ1) : Res X I1 H1 Q1 R :=
  fun z o d I' H' g3 r3 q3 => f z o d ρ1 I' H' (g.grow ok g3) (r3.back (g.nn)) (k o d q3)

theorem em_mono {Q' : Bool → D → List Sl → Prop} (h : EM m X e ρ W Q) (k : ∀ o d ρ', Q o d ρ' → Q' o d ρ') : EM m X e ρ W Q' := fun σ I H ok xk R f => h σ I H ok xk R fun v o d ρ' I' H' g r q => f v o d ρ' I' H' g r (k o d ρ' q)
theorem tm_mono {Q' : Bool → List Sl → Prop} (h : TM m X e ρ W QT) (k : ∀ d ρ', QT d ρ' → Q' d ρ') : TM m X e ρ W Q' := fun σ I H ok xk R f => h σ I H ok xk R fun d ρ' I' H' g q => f d ρ' I' H' g (k d ρ' q)
/-- a pure expression anywhere -/
theorem em_pure (h : EM true X e ρ W fun o d ρ' => ρ' = ρ → Q o d ρ) : EM m X e ρ W Q := fun σ I H ok xk R f => h σ I H ok xk R fun v o d ρ' I' H' g r q => by
  obtain rfl : ρ' = ρ := g.1
  exact f v o d _ I' H' (g.any ok) r (q rfl)
theorem tm_pure (h : TM true X e ρ W fun d ρ' => ρ' = ρ → QT d ρ) : TM m X e ρ W QT := fun σ I H ok xk R f => h σ I H ok xk R fun d ρ' I' H' g q => by
  obtain rfl : ρ' = ρ := g.1
  exact f d _ I' H' (g.any ok) (q rfl)

/-! names and constants -/
theorem em_var (i : Nat) {x : Str} {d : D} (h : ρ[i]? = some (.va d)) (q : Q false d ρ) (hN : X.N[i]? = some x := by rfl) (hv : Vis X.env.scope x := by first | exact Or.inl rfl | exact Or.inr (Or.inl rfl) | exact Or.inr (Or.inr rfl))
    (hd : (x == ("__debug__" : Str)) = false := by decide) (hcd : (x == ("__classdict__" : Str)) = false := by decide) : EM m X (.Name x pos) ρ W Q := fun σ I H ok xk R f => by
  obtain ⟨v, e, r⟩ := ok.at h (fun z => nomatch z)
  exact ⟨_, pe_var hN hv hd hcd, v, e, f v false d ρ I H (Go.refl ok) r q⟩
theorem em_int {i : Int} {j} (q : Q false (.int i) ρ) : EM m X (.Constant (.int i) j pos) ρ W Q := fun σ I H ok xk R f => ⟨_, pe_int, f _ false _ ρ I H (Go.refl ok) Rv.mkInt q⟩
theorem em_bool {i : Bool} {j} (q : Q false (.bool i) ρ) : EM m X (.Constant (.bool i) j pos) ρ W Q := fun σ I H ok xk R f => ⟨_, pe_bl, f _ false _ ρ I H (Go.refl ok) Rv.mkBl q⟩
theorem em_str {i : Str} {j} (q : Q false (.str i) ρ) : EM m X (.Constant (.str i) j pos) ρ W Q := fun σ I H ok xk R f => ⟨_, pe_str, f _ false _ ρ I H (Go.refl ok) Rv.mkStr q⟩
theorem em_none {j} (q : Q false .none ρ) : EM m X (.Constant .none j pos) ρ W Q := fun σ I H ok xk R f => ⟨_, pe_non, f _ false _ ρ I H (Go.refl ok) Rv.mkNon q⟩
theorem em_globInt {x : Str} {i : Int} {t : Tok} (hm : X.mg x = some (.int i t)) (q : Q false (.int i) ρ) (hg : Gl X x := by rfl) (hd : (x == ("__debug__" : Str)) = false := by decide) : EM m X (.Name x pos) ρ W Q := fun σ I H ok xk R f => ⟨_, pe_glob hg hm (v := .int i) ⟨t, rfl⟩ hd, f _ false _ ρ I H (Go.refl ok) Rv.mkInt q⟩
theorem em_globStr {x : Str} {i : Str} {t : Tok} (hm : X.mg x = some (.str i t)) (q : Q false (.str i) ρ) (hg : Gl X x := by rfl) (hd : (x == ("__debug__" : Str)) = false := by decide) : EM m X (.Name x pos) ρ W Q := fun σ I H ok xk R f => ⟨_, pe_glob hg hm (v := .str i) ⟨t, rfl⟩ hd, f _ false _ ρ I H (Go.refl ok) Rv.mkStr q⟩

/-! operators -/
theorem em_bin {op : Operator} (h : EM m X a ρ W fun _ x ρ1 => EM m X b ρ1 W fun _ y ρ2 => FD X (binaryOp op) x y fun o z => Q o z ρ2) : EM m X (.BinOp a op b pos) ρ W Q := fun σ I H ok xk R f =>
  ⟨_, pe_op op_w pe_w pe_w, h.run ok xk fun v _ x ρ1 I1 H1 g1 r1 q1 => q1.run (g1.env ok) (xk.step g1.step) fun u _ y ρ2 I2 H2 g2 r2 q2 =>
    q2 I2 H2 v u (g2.env (g1.env ok)).sub (r1.same g2.ii) r2 R (Res.fin ok (g1.trans g2) f fun _ _ h => h)⟩
theorem em_un {op : UnaryOp} (h : EM m X a ρ W fun _ x ρ1 => GD X (unaryOp op) x fun o z => Q o z ρ1) : EM m X (.UnaryOp op a pos) ρ W Q := fun σ I H ok xk R f =>
  ⟨_, pe_un un_w pe_w, h.run ok xk fun v _ x ρ1 I1 H1 g1 r1 q1 => q1 I1 H1 v (g1.env ok).sub r1 R (Res.fin ok g1 f fun _ _ h => h)⟩
theorem em_cmp {op : CmpOp} (hm : behindInMarks op b = false) (h : EM m X a ρ W fun _ x ρ1 => EM m X b ρ1 W fun _ y ρ2 => FD X (compareOp op) x y fun o z => Q o z ρ2) : EM m X (.Compare a [op] [b] pos) ρ W Q := fun σ I H ok xk R f =>
  ⟨_, pe_cmpR op_w pe_w pe_w hm, h.run ok xk fun v _ x ρ1 I1 H1 g1 r1 q1 => q1.run (g1.env ok) (xk.step g1.step) fun u _ y ρ2 I2 H2 g2 r2 q2 =>
    q2 I2 H2 v u (g2.env (g1.env ok)).sub (r1.same g2.ii) r2 R (Res.fin ok (g1.trans g2) f fun _ _ h => h)⟩
theorem Rs.bool {K : PySem.W.Frag} {H I' H' : Hp} {v : V} {k : Bool} : ∀ {o : Bool}, RsOk K H I' H' v o (.bool k) → v = .bl k
  | false, r => Rv.bl r
  | true, ⟨_, _, _, _, z, _⟩ => by cases z
theorem tm_cmp {op : CmpOp} (hm : behindInMarks op b = false) (h : EM m X a ρ W fun _ x ρ1 => EM m X b ρ1 W fun _ y ρ2 => FD X (compareOp op) x y fun _ z => ∃ k, z = .bool k ∧ QT k ρ2) : TM m X (.Compare a [op] [b] pos) ρ W QT := fun σ I H ok xk R f =>
  ⟨_, pt_cmpR op_w pe_w pe_w hm, h.run ok xk fun v _ x ρ1 I1 H1 g1 r1 q1 => q1.run (g1.env ok) (xk.step g1.step) fun u _ y ρ2 I2 H2 g2 r2 q2 =>
    q2 I2 H2 v u (g2.env (g1.env ok)).sub (r1.same g2.ii) r2 _ fun z _ d I3 H3 g3 r3 ⟨k, e, q3⟩ => by
      subst e
      exact ⟨k, Rs.bool r3, f k ρ2 I3 H3 ((g1.trans g2).grow ok g3) q3⟩⟩
/-- x op y op' z -/
theorem em_chain {op op' : CmpOp} (hm : lastMarks [op, op'] [b, c] = false) (h : EM m X a ρ W fun _ x ρ1 => EM m X b ρ1 W fun _ y ρ2 => FD X (compareOp op) x y fun _ z => ∃ k, z = .bool k ∧ (k = false → Q false (.bool false) ρ2) ∧ (k = true → EM m X c ρ2 W fun _ w ρ3 => FD X (compareOp op') y w fun o z => Q o z ρ3)) : EM m X (.Compare a [op, op'] [b, c] pos) ρ W Q := by
  intro σ I H ok xk R f
  refine ⟨_, pe_chain op_w op_w pe_w pe_w pe_w hm, ?_⟩
  refine h.run ok xk fun v _ x ρ1 I1 H1 g1 r1 q1 => q1.run (g1.env ok) (xk.step g1.step) fun u _ y ρ2 I2 H2 g2 r2 q2 => ?_
  refine q2 I2 H2 v u (g2.env (g1.env ok)).sub (r1.same g2.ii) r2 _ fun z _ d I3 H3 g3 r3 q3 => ?_
  obtain ⟨k, e, q3, q4⟩ := q3
  subst e
  have g := (g1.trans g2).grow ok g3
  refine ⟨k, Rs.bool r3, ?_⟩
  cases k with
  | false => exact iteF (f _ false _ ρ2 I3 H3 g Rv.mkBl (q3 rfl))
  | true =>
    refine iteT ((q4 rfl).run (g.env ok) (xk.step g.step) fun u4 _ y4 ρ4 I4 H4 g4 r4 q5 => ?_)
    exact q5 I4 H4 u u4 (g4.env (g.env ok)).sub ((r2.same g3.ii).same g4.ii) r4 R (Res.fin ok (g.trans g4) f fun _ _ h => h)
theorem tm_chain {op op' : CmpOp} (hm : lastMarks [op, op'] [b, c] = false) (h : EM m X a ρ W fun _ x ρ1 => EM m X b ρ1 W fun _ y ρ2 => FD X (compareOp op) x y fun _ z => ∃ k, z = .bool k ∧ (k = false → QT false ρ2) ∧ (k = true → EM m X c ρ2 W fun _ w ρ3 => FD X (compareOp op') y w fun _ z => ∃ k, z = .bool k ∧ QT k ρ3)) : TM m X (.Compare a [op, op'] [b, c] pos) ρ W QT := by
  intro σ I H ok xk R f
  refine ⟨_, pt_chain op_w op_w pe_w pe_w pe_w hm, ?_⟩
  refine h.run ok xk fun v _ x ρ1 I1 H1 g1 r1 q1 => q1.run (g1.env ok) (xk.step g1.step) fun u _ y ρ2 I2 H2 g2 r2 q2 => ?_
  refine q2 I2 H2 v u (g2.env (g1.env ok)).sub (r1.same g2.ii) r2 _ fun z _ d I3 H3 g3 r3 q3 => ?_
  obtain ⟨k, e, q3, q4⟩ := q3
  subst e
  have g := (g1.trans g2).grow ok g3
  refine ⟨k, Rs.bool r3, ?_⟩
  cases k with
  | false => exact iteF ⟨false, rfl, f _ ρ2 I3 H3 g (q3 rfl)⟩
  | true =>
    refine iteT ((q4 rfl).run (g.env ok) (xk.step g.step) fun u4 _ y4 ρ4 I4 H4 g4 r4 q5 => ?_)
    refine q5 I4 H4 u u4 (g4.env (g.env ok)).sub ((r2.same g3.ii).same g4.ii) r4 _ fun z _ d I5 H5 g5 r5 q6 => ?_
    obtain ⟨k, e, q6⟩ := q6
    subst e
    exact ⟨k, Rs.bool r5, f k ρ4 I5 H5 ((g.trans g4).grow ok g5) q6⟩

/-! and, or, not, if -/
theorem em_then (ok : EnvOk X.K I H σ ρ) (xk : XOk X W H ρ) (g1 : Go m X.K σ ρ I H ρ1 I1 H1) (q : EM m X e ρ1 W Q) {R : VK} (f : ∀ v o d ρ' I' H', Go m X.K σ ρ I H ρ' I' H' → RsOk X.K H I' H' v o d → Q o d ρ' → R v H') : wE X e σ H1 R :=
  q σ I1 H1 (g1.env ok) (xk.step g1.step) R fun v o d ρ' I' H' g r q => f v o d ρ' I' H' (g1.trans g) (r.back g1.nn) q
theorem em_and (h : EM m X a ρ W fun _ x ρ1 => ∃ k, x = .bool k ∧ (k = true → EM m X (.BoolOp .And (b :: es) pos) ρ1 W Q) ∧ (k = false → Q false (.bool false) ρ1)) : EM m X (.BoolOp .And (a :: b :: es) pos) ρ W Q := fun σ I H ok xk R f =>
  ⟨_, pe_and pe_w pe_w, h.run ok xk fun v _ x ρ1 I1 H1 g1 r1 ⟨k, e, q1, q2⟩ => by
    subst e
    refine ⟨k, r1.bl, ?_⟩
    cases k with
    | false => exact f _ false _ ρ1 I1 H1 g1 Rv.mkBl (q2 rfl)
    | true => exact em_then ok xk g1 (q1 rfl) f⟩
theorem em_or (h : EM m X a ρ W fun _ x ρ1 => ∃ k, x = .bool k ∧ (k = false → EM m X (.BoolOp .Or (b :: es) pos) ρ1 W Q) ∧ (k = true → Q false (.bool true) ρ1)) : EM m X (.BoolOp .Or (a :: b :: es) pos) ρ W Q := fun σ I H ok xk R f =>
  ⟨_, pe_or pe_w pe_w, h.run ok xk fun v _ x ρ1 I1 H1 g1 r1 ⟨k, e, q1, q2⟩ => by
    subst e
    refine ⟨k, r1.bl, ?_⟩
    cases k with
    | true => exact f _ false _ ρ1 I1 H1 g1 Rv.mkBl (q2 rfl)
    | false => exact em_then ok xk g1 (q1 rfl) f⟩
theorem em_one {op} (h : EM m X a ρ W Q) : EM m X (.BoolOp op [a] pos) ρ W Q := fun σ I H ok xk R f => ⟨_, pe_one pe_w, h σ I H ok xk R f⟩
theorem em_not (h : EM m X a ρ W fun _ x ρ1 => ∃ k, x = .bool k ∧ Q false (.bool !k) ρ1) : EM m X (.UnaryOp .Not a pos) ρ W Q := fun σ I H ok xk R f =>
  ⟨_, pe_not pe_w, h.run ok xk fun v _ x ρ1 I1 H1 g1 r1 ⟨k, e, q⟩ => by
    subst e
    exact ⟨k, r1.bl, f _ false _ ρ1 I1 H1 g1 Rv.mkBl q⟩⟩
theorem em_ite (h : TM m X c ρ W fun k ρ1 => (k = true → EM m X a ρ1 W Q) ∧ (k = false → EM m X b ρ1 W Q)) : EM m X (.IfExp c a b pos) ρ W Q := fun σ I H ok xk R f =>
  ⟨_, pe_ifExp pt_w pe_w pe_w, h σ I H ok xk _ fun k ρ1 I1 H1 g1 ⟨q1, q2⟩ => by
    cases k with
    | true => exact em_then ok xk g1 (q1 rfl) f
    | false => exact em_then ok xk g1 (q2 rfl) f⟩
theorem tm_val (h : EM m X e ρ W fun _ d ρ1 => ∃ k, d = .bool k ∧ QT k ρ1) (he : ∀ whole, isTrue e X.env whole = (do let v ← whole; standAt e.pos; holding [v] (truthy v)) := by intro _; rfl) : TM m X e ρ W QT := fun σ I H ok xk R f =>
  ⟨_, pt_val pe_w he, h.run ok xk fun v _ x ρ1 I1 H1 g1 r1 ⟨k, e, q⟩ => by
    subst e
    exact ⟨k, r1.bl, f _ ρ1 I1 H1 g1 q⟩⟩
theorem tm_of_um (h : UM m X e ρ W QT) : TM m X e ρ W QT := fun σ I H ok xk R f => by
  obtain ⟨t, h1, h2⟩ := h σ I H ok xk R f
  exact ⟨t, h1.pt, h2⟩
theorem um_and (h : TM m X a ρ W fun k ρ1 => (k = true → UM m X (.BoolOp .And (b :: es) pos) ρ1 W QT) ∧ (k = false → QT false ρ1)) : UM m X (.BoolOp .And (a :: b :: es) pos) ρ W QT := fun σ I H ok xk R f =>
  ⟨_, pw_and pt_w pw_w, h σ I H ok xk _ fun k ρ1 I1 H1 g1 ⟨q1, q2⟩ => by
    cases k with
    | true => exact q1 rfl σ I1 H1 (g1.env ok) (xk.step g1.step) R fun d ρ' I' H' g q => f d ρ' I' H' (g1.trans g) q
    | false => exact f _ ρ1 I1 H1 g1 (q2 rfl)⟩
theorem um_or (h : TM m X a ρ W fun k ρ1 => (k = false → UM m X (.BoolOp .Or (b :: es) pos) ρ1 W QT) ∧ (k = true → QT true ρ1)) : UM m X (.BoolOp .Or (a :: b :: es) pos) ρ W QT := fun σ I H ok xk R f =>
  ⟨_, pw_or pt_w pw_w, h σ I H ok xk _ fun k ρ1 I1 H1 g1 ⟨q1, q2⟩ => by
    cases k with
    | false => exact q1 rfl σ I1 H1 (g1.env ok) (xk.step g1.step) R fun d ρ' I' H' g q => f d ρ' I' H' (g1.trans g) q
    | true => exact f _ ρ1 I1 H1 g1 (q2 rfl)⟩
theorem um_and1 (h : TM m X a ρ W QT) : UM m X (.BoolOp .And [a] pos) ρ W QT := fun σ I H ok xk R f => ⟨_, pw_and1 pt_w, h σ I H ok xk R f⟩
theorem um_or1 (h : TM m X a ρ W QT) : UM m X (.BoolOp .Or [a] pos) ρ W QT := fun σ I H ok xk R f => ⟨_, pw_or1 pt_w, h σ I H ok xk R f⟩
theorem tm_not (h : TM m X a ρ W fun k ρ1 => QT (!k) ρ1) : TM m X (.UnaryOp .Not a pos) ρ W QT := fun σ I H ok xk R f =>
  ⟨_, pt_not pt_w, h σ I H ok xk _ fun k ρ1 I1 H1 g1 q => f _ ρ1 I1 H1 g1 q⟩

/-! arguments, displays -/
theorem am_nil (q : QA [] ρ) : AM m X [] ρ W QA := fun σ I H ok xk R f => ⟨_, pa_nil, f [] [] ρ I H (Go.refl ok) .nil q⟩
theorem am_cons (h : EM m X e ρ W fun _ d ρ1 => AM m X es ρ1 W fun ds ρ2 => QA (d :: ds) ρ2) (hs : starEach (e :: es) X.env = (false, eval e X.env) :: starEach es X.env := by rfl) : AM m X (e :: es) ρ W QA := fun σ I H ok xk R f =>
  ⟨_, pa_cons pe_w pa_w hs, h.run ok xk fun v _ x ρ1 I1 H1 g1 r1 q1 => q1 σ I1 H1 (g1.env ok) (xk.step g1.step) _ fun vs ds ρ2 I2 H2 g2 r2 q2 => f (v :: vs) (x :: ds) ρ2 I2 H2 (g1.trans g2) (.cons (r1.same g2.ii) r2) q2⟩
theorem dpAll_of {K : PySem.W.Frag} {I : Hp} : ∀ {vs : List V} {ds : List D}, Paired (Rv K I) vs ds → ds.all nd = true → DqAll I vs ds
  | _, _, .nil, _ => .nil
  | _, _, .cons h t, n => by
    rw [List.all_cons, Bool.and_eq_true] at n
    exact .cons (h.dp n.1) (dpAll_of t n.2)
theorem paired_len {α β : Type} {P : α → β → Prop} {as : List α} {bs : List β} (h : Paired P as bs) : as.length = bs.length := Paired.length h
theorem em_tup {k} (h : AM m X es ρ W fun ds ρ1 => ds.length ≤ sizeLine ∧ ds.all nd = true ∧ Q false (.tuple ds) ρ1) : EM m X (.Tuple es k pos) ρ W Q := fun σ I H ok xk R f =>
  ⟨_, pe_tupF pa_w, h σ I H ok xk _ fun vs ds ρ1 I1 H1 g1 r1 ⟨l, n, q⟩ => ⟨by rw [paired_len r1]; exact l, fun p o od np => by
    have g := Grow.new (o := .frz o (.tup vs)) (g1.env ok).sub np
    exact f _ false _ ρ1 _ _ (g1.grow ok g) (Rv.mkT ⟨o, od, upd_same⟩ (DqAll.same g.ii (dpAll_of r1 n))) q⟩⟩
theorem em_lst (h : AM m X es ρ W fun ds ρ1 => ds.length ≤ sizeLine ∧ ds.all nd = true ∧ Q true (.list ds) ρ1) : EM m X (.List es pos) ρ W Q := fun σ I H ok xk R f =>
  ⟨_, pe_lst pa_w, h σ I H ok xk _ fun vs ds ρ1 I1 H1 g1 r1 ⟨l, n, q⟩ => ⟨by rw [paired_len r1]; exact l, fun p np => by
    have g := Grow.dark (o := .lst vs) (g1.env ok).sub np
    exact f _ true _ ρ1 _ _ (g1.grow ok g) ⟨p, vs, ds, rfl, rfl, g1.nn p np, (g1.env ok).sub.nn np, upd_same, dpAll_of r1 n⟩ q⟩⟩

/-! subscripts, slices -/
theorem em_ix (hs : PlainIx b) (h : EM m X a ρ W fun _ x ρ1 => EM m X b ρ1 W fun _ y ρ2 => ID X x y fun o z => Q o z ρ2) : EM m X (.Subscript a b pos) ρ W Q := fun σ I H ok xk R f =>
  ⟨_, pe_ix ix_w pe_w pe_w hs, h.run ok xk fun v _ x ρ1 I1 H1 g1 r1 q1 => q1.run (g1.env ok) (xk.step g1.step) fun u _ y ρ2 I2 H2 g2 r2 q2 =>
    q2 I2 H2 v u (g2.env (g1.env ok)).sub (r1.same g2.ii) r2 R (Res.fin ok (g1.trans g2) f fun _ _ h => h)⟩
/-- a part of a slice -/
def OM (m : Bool) (X : Cx) (e : Option Expr) (ρ : List Sl) (W : Wx) (Q : Option Int → List Sl → Prop) : Prop :=
  match e with
  | none => Q none ρ
  | some e => EM m X e ρ W fun _ d ρ1 => ∃ i, d = .int i ∧ Q (some i) ρ1
theorem om_run {e : Option Expr} {QO : Option Int → List Sl → Prop} (h : OM m X e ρ W QO) : ∀ σ I H, EnvOk X.K I H σ ρ → XOk X W H ρ → ∃ t, PO X e t ∧ ∀ R : Option Int → Hp → Prop, (∀ o ρ' I' H', Go m X.K σ ρ I H ρ' I' H' → QO o ρ' → R o H') → t σ H R := fun σ I H ok xk => by
  cases e with
  | none => exact ⟨_, po_none, fun R f => f none ρ I H (Go.refl ok) h⟩
  | some e => exact ⟨_, po_some pe_w, fun R f => EM.run (show EM m X e ρ W _ from h) ok xk fun v _ d ρ1 I1 H1 g1 r1 ⟨i, e, q⟩ => by
      subst e
      exact ⟨i, r1.int, f _ ρ1 I1 H1 g1 q⟩⟩
def wO (X : Cx) (e : Option Expr) : TO := fun σ H Q => ∃ t, PO X e t ∧ t σ H Q
theorem po_w {e : Option Expr} : PO X e (wO X e) := ⟨fun pins s σ H Q I ⟨_, h, q⟩ => h.run pins s σ H Q I q⟩
theorem em_sl {lo hi : Option Expr} {p2} (h : EM m X a ρ W fun _ x ρ1 => OM m X lo ρ1 W fun l ρ2 => OM m X hi ρ2 W fun u ρ3 => LD X x l u fun o z => Q o z ρ3) : EM m X (.Subscript a (.Slice lo hi none p2) pos) ρ W Q := fun σ I H ok xk R f =>
  ⟨_, pe_slice sl_w pe_w po_w po_w, h.run ok xk fun v _ x ρ1 I1 H1 g1 r1 q1 => by
    obtain ⟨t, ht, k⟩ := om_run q1 σ I1 H1 (g1.env ok) (xk.step g1.step)
    refine ⟨t, ht, k _ fun l ρ2 I2 H2 g2 q2 => ?_⟩
    have g12 := g1.trans g2
    obtain ⟨t', ht', k'⟩ := om_run q2 σ I2 H2 (g12.env ok) (xk.step g12.step)
    refine ⟨t', ht', k' _ fun u ρ3 I3 H3 g3 q3 => ?_⟩
    have g := g12.trans g3
    exact q3 I3 H3 v (g.env ok).sub ((r1.same g2.ii).same g3.ii) R (Res.fin ok g f fun _ _ h => h)⟩

/-! calls of built-ins, methods of texts -/
theorem em_callB {x : Str} {id : String} (hm : X.mg x = none) (hv : bootBuiltins x = some (.builtin id)) (h : AM m X (e :: es) ρ W fun ds ρ1 => KD X (.builtin id) ds fun o z => Q o z ρ1) (hg : Gl X x := by rfl) (hn : x ≠ "__name__" := by decide) (hdb : (x == ("__debug__" : Str)) = false := by decide)
    (he : starEach (e :: es) X.env = (false, eval e X.env) :: starEach es X.env := by rfl) (hpl : (backTo pos (starEach es X.env)).any (·.1) = false := by rfl) : EM m X (.Call (.Name x p) (e :: es) [] pos) ρ W Q := fun σ I H ok xk R f =>
  ⟨_, pe_callB call_w hg hm hv pa_w hn hdb he hpl, h σ I H ok xk _ fun vs ds ρ1 I1 H1 g1 r1 q1 => q1 I1 H1 vs (g1.env ok).sub r1 R (Res.fin ok g1 f fun _ _ h => h)⟩
theorem em_callTy {x : Str} {T : String} (hm : X.mg x = none) (hv : bootBuiltins x = some (.type T)) (h : AM m X (e :: es) ρ W fun ds ρ1 => KD X (.type T) ds fun o z => Q o z ρ1) (hg : Gl X x := by rfl) (hn : x ≠ "__name__" := by decide) (hdb : (x == ("__debug__" : Str)) = false := by decide)
    (he : starEach (e :: es) X.env = (false, eval e X.env) :: starEach es X.env := by rfl) (hpl : (backTo pos (starEach es X.env)).any (·.1) = false := by rfl) : EM m X (.Call (.Name x p) (e :: es) [] pos) ρ W Q := fun σ I H ok xk R f =>
  ⟨_, pe_callTy call_w hg hm hv pa_w hn hdb he hpl, h σ I H ok xk _ fun vs ds ρ1 I1 H1 g1 r1 q1 => q1 I1 H1 vs (g1.env ok).sub r1 R (Res.fin ok g1 f fun _ _ h => h)⟩
theorem em_meth {o : Expr} {name : Str} {apos cpos : Pos} {id : String} (slot : Slot "str" name id) (hty : typeOf (.builtin id) = pure (.type "method_descriptor"))
    (h : EM m X o ρ W fun _ x ρ1 => ∃ z, x = .str z ∧ AM m X (e :: es) ρ1 W fun ds ρ2 => MD X id z ds fun o z => Q o z ρ2)
    (hbase : attributeBase o name X.env (eval o X.env) = eval o X.env := by rfl)
    (hfew : ((backTo cpos (starEach (e :: es) X.env)).all (fun x => !x.1) && (backToKw cpos (keywordEach [] X.env)).all (fun x => x.1.isSome)
      && decide ((e :: es).length + ([] : List Keyword).length + (if ([] : List Keyword).isEmpty then 0 else 1) < 30)) = true := by rfl)
    (hline : (apos.endLine == cpos.line) = true := by rfl) (hs : starEach (e :: es) X.env = (false, eval e X.env) :: starEach es X.env := by rfl) (hplain : (backTo cpos (starEach es X.env)).any (·.1) = false := by rfl) :
    EM m X (.Call (.Attribute o name apos) (e :: es) [] cpos) ρ W Q := fun σ I H ok xk R f =>
  ⟨_, pe_bm PySem.F.plainAttrs_str slot hty mt_w pe_w pa_w hbase hfew hline hs hplain, h.run ok xk fun v _ x ρ1 I1 H1 g1 r1 ⟨z, e, q1⟩ => by
    subst e
    rw [r1.str]
    exact ⟨rfl, q1 σ I1 H1 (g1.env ok) (xk.step g1.step) _ fun vs ds ρ2 I2 H2 g2 r2 q2 => q2 I2 H2 vs (g2.env (g1.env ok)).sub r2 R (Res.fin ok (g1.trans g2) f fun _ _ h => h)⟩⟩
end
end Tt

namespace Tt
open PySem PySem.Spec PyProof.Rows L2

/-! ### values that are to be stored -/
def NewOk (K : PySem.W.Frag) (H I' H' : Hp) (v : V) (s : Sl) : Prop := SlOk K I' H' (some v) s ∧ (foot s).Nodup ∧ ∀ a ∈ foot s, H a = none ∧ I' a = none
def VM (m : Bool) (X : Cx) (e : Expr) (ρ : List Sl) (W : Wx) (Q : Sl → List Sl → Prop) : Prop :=
  ∀ σ I H, EnvOk X.K I H σ ρ → XOk X W H ρ → ∀ R : VK, (∀ v s ρ' I' H', Go m X.K σ ρ I H ρ' I' H' → NewOk X.K H I' H' v s → Q s ρ' → R v H') → wE X e σ H R

section
variable {K : PySem.W.Frag} {I H I' H' : Hp} {σ : L2.St} {ρ ρ' : List Sl} {m : Bool} {v : V} {s : Sl} {i : Nat}
theorem mt_set {a : Addr} (h : Mt (ρ.set i s) a) : Mt ρ a ∨ a ∈ foot s := by
  obtain ⟨j, h⟩ := h
  rw [ft_set] at h
  split at h
  · exact .inr h
  · exact .inl ⟨j, h⟩
theorem EnvOk.put (ok : EnvOk K I H σ ρ) (h : SlOk K I H (some v) s) (nd : (foot s).Nodup) (nm : ∀ a ∈ foot s, ¬ Mt ρ a) (out : ∀ a ∈ foot s, I a = none) : EnvOk K I H (σ.set i (some v)) (ρ.set i s) := by
  refine ⟨by rw [List.length_set, List.length_set, ok.len], fun j t e => ?_, fun j => ?_, fun j k a h1 h2 => ?_, fun j a h1 => ?_, ok.sub⟩
  · by_cases z : i = j
    · subst z
      have hl : i < ρ.length := by
        have := (List.getElem?_eq_some_iff.mp e).1
        rwa [List.length_set] at this
      rw [List.getElem?_set_self hl] at e
      cases e
      rw [List.getElem?_set_self (by rw [ok.len]; exact hl)]
      exact h
    · rw [List.getElem?_set_ne z] at e ⊢
      exact ok.ok j t e
  · rw [ft_set]
    split
    · exact nd
    · exact ok.nd j
  · rw [ft_set] at h1 h2
    split at h1 <;> split at h2
    · rename_i z1 z2; exact z1.1.symm.trans z2.1
    · exact absurd ⟨k, h2⟩ (nm a h1)
    · exact absurd ⟨j, h1⟩ (nm a h2)
    · exact ok.dj j k a h1 h2
  · rw [ft_set] at h1
    split at h1
    · exact out a h1
    · exact ok.out j a h1
/-- what is new lies apart -/
theorem NewOk.apart (n : NewOk K H I' H' v s) (ok : EnvOk K I H σ ρ) (g : Go m K σ ρ I H ρ' I' H') : ∀ a ∈ foot s, ¬ Mt ρ' a := fun a h z => by
  obtain ⟨u, e⟩ := ok.there (g.mt a z)
  rw [(n.2.2 a h).1] at e
  cases e
theorem NewOk.put (n : NewOk K H I' H' v s) (ok : EnvOk K I H σ ρ) (g : Go m K σ ρ I H ρ' I' H') : EnvOk K I' H' (σ.set i (some v)) (ρ'.set i s) ∧ Step I H (Mt ρ) I' H' (Mt (ρ'.set i s)) := by
  refine ⟨(g.env ok).put n.1 n.2.1 (n.apart ok g) fun a h => (n.2.2 a h).2, ?_⟩
  have st := g.step
  refine ⟨st.ii, st.oth, st.fr, fun a h => ?_, st.al⟩
  rcases mt_set h with z | z
  · exact st.mm a z
  · exact .inr (n.2.2 a z).1
theorem NewOk.of_data {d : D} (r : Rv K I' v d) : NewOk K H I' H' v (.va d) := ⟨r, List.nodup_nil, fun _ h => by cases h⟩
/-- it stays new while others are made -/
theorem NewOk.step {σ : L2.St} {ρ1 ρ2 : List Sl} {I2 H2 : Hp} (n : NewOk K H I' H' v s) (nm : ∀ a ∈ foot s, ¬ Mt ρ1 a) (st : Step I' H' (Mt ρ1) I2 H2 (Mt ρ2)) : NewOk K H I2 H2 v s :=
  ⟨n.1.grow st.ii fun q o hq e => st.oth q o e (nm q hq), n.2.1, fun a h => ⟨(n.2.2 a h).1, by
    obtain ⟨u, e⟩ := n.1.there h
    exact st.fr a u e (n.2.2 a h).2 (nm a h)⟩⟩
end

section
variable {X : Cx} {m : Bool} {ρ ρ1 : List Sl} {W : Wx} {a b c e : Expr} {es : List Expr} {pos p : Pos} {Q : Sl → List Sl → Prop} {σ : L2.St} {I H I1 H1 : Hp}
theorem vm_data (h : EM m X e ρ W fun _ d ρ1 => Q (.va d) ρ1) : VM m X e ρ W Q := fun σ I H ok xk R f => h.run ok xk fun v o d ρ' I' H' g r q => f v _ ρ' I' H' g (.of_data r) q
theorem vm_own (h : EM m X e ρ W fun o d ρ1 => o = true ∧ ∃ ds, d = .list ds ∧ ∀ p, Q (.mo p (.lst ds)) ρ1) : VM m X e ρ W Q := fun σ I H ok xk R f => h σ I H ok xk R fun v o d ρ' I' H' g r ⟨e, ds, e2, q⟩ => by
  subst e e2
  obtain ⟨p, xs, ds', rfl, e, n, ni, h, t⟩ := r
  cases e
  exact f _ (.mo p (.lst ds)) ρ' I' H' g ⟨⟨rfl, _, h, xs, rfl, t⟩, List.pairwise_singleton _ _, fun a z => by rw [List.mem_singleton.mp z]; exact ⟨n, ni⟩⟩ (q p)
theorem vm_newDk (h : ∀ p, Q (.mo p (.dk [])) ρ) : VM m X (.Dict [] [] pos) ρ W Q := fun σ I H ok xk R f => ⟨_, pe_dnewK, fun p np => by
  have g := Grow.dark (o := .dK []) ok.sub np
  exact f _ (.mo p (.dk [])) ρ _ _ (Go.of ok g) ⟨⟨rfl, _, upd_same, rfl⟩, List.pairwise_singleton _ _, fun a z => by rw [List.mem_singleton.mp z]; exact ⟨np, ok.sub.nn np⟩⟩ (h p)⟩
theorem vm_ite (h : TM m X c ρ W fun k ρ1 => (k = true → VM m X a ρ1 W Q) ∧ (k = false → VM m X b ρ1 W Q)) : VM m X (.IfExp c a b pos) ρ W Q := fun σ I H ok xk R f =>
  ⟨_, pe_ifExp pt_w pe_w pe_w, h σ I H ok xk _ fun k ρ1 I1 H1 g1 ⟨q1, q2⟩ => by
    have go : ∀ {e : Expr}, VM m X e ρ1 W Q → wE X e σ H1 R := fun {e} q => q σ I1 H1 (g1.env ok) (xk.step g1.step) R fun v s ρ' I' H' g r q => f v s ρ' I' H' (g1.trans g) ⟨r.1, r.2.1, fun a h => ⟨g1.nn a (r.2.2 a h).1, (r.2.2 a h).2⟩⟩ q
    cases k with
    | true => exact go (q1 rfl)
    | false => exact go (q2 rfl)⟩
/-- several, from the left -/
inductive NewAll (K : PySem.W.Frag) (H I' H' : Hp) : List V → List Sl → Prop where
  | nil : NewAll K H I' H' [] []
  | cons {v s vs ss} : NewOk K H I' H' v s → (∀ a ∈ foot s, ∀ t ∈ ss, a ∉ foot t) → NewAll K H I' H' vs ss → NewAll K H I' H' (v :: vs) (s :: ss)
def LM (m : Bool) (X : Cx) (es : List Expr) (ρ : List Sl) (W : Wx) (Q : List Sl → List Sl → Prop) : Prop :=
  ∀ σ I H, EnvOk X.K I H σ ρ → XOk X W H ρ → ∀ R : List V → Hp → Prop, (∀ vs ss ρ' I' H', Go m X.K σ ρ I H ρ' I' H' → NewAll X.K H I' H' vs ss → Q ss ρ' → R vs H') → wA X es σ H R
theorem lm_nil {QL : List Sl → List Sl → Prop} (q : QL [] ρ) : LM m X [] ρ W QL := fun σ I H ok xk R f => ⟨_, pa_nil, f [] [] ρ I H (Go.refl ok) .nil q⟩
theorem NewAll.back {K : PySem.W.Frag} {H H1 I' H' : Hp} (n : ∀ p, H1 p = none → H p = none) : ∀ {vs : List V} {ss : List Sl}, NewAll K H1 I' H' vs ss → NewAll K H I' H' vs ss
  | _, _, .nil => .nil
  | _, _, .cons h d t => .cons ⟨h.1, h.2.1, fun a z => ⟨n a (h.2.2 a z).1, (h.2.2 a z).2⟩⟩ d (t.back n)
theorem NewAll.newer {K : PySem.W.Frag} {H I' H' : Hp} : ∀ {vs : List V} {ss : List Sl}, NewAll K H I' H' vs ss → ∀ t ∈ ss, ∀ a ∈ foot t, H a = none
  | _, _, .nil, _, m => by cases m
  | _, _, .cons h d t, s, m => by
    rcases List.mem_cons.mp m with rfl | m
    · exact fun a z => (h.2.2 a z).1
    · exact t.newer s m
theorem lm_cons {QL : List Sl → List Sl → Prop} (h : VM m X e ρ W fun s ρ1 => LM m X es ρ1 W fun ss ρ2 => QL (s :: ss) ρ2) (hs : starEach (e :: es) X.env = (false, eval e X.env) :: starEach es X.env := by rfl) : LM m X (e :: es) ρ W QL := fun σ I H ok xk R f =>
  ⟨_, pa_cons pe_w pa_w hs, h σ I H ok xk _ fun v s ρ1 I1 H1 g1 r1 q1 => q1 σ I1 H1 (g1.env ok) (xk.step g1.step) _ fun vs ss ρ2 I2 H2 g2 r2 q2 => by
    refine f (v :: vs) (s :: ss) ρ2 I2 H2 (g1.trans g2) (.cons (r1.step (σ := σ) (r1.apart ok g1) g2.step) (fun a ha t ht z => ?_) (r2.back g1.nn)) q2
    obtain ⟨u, e⟩ := r1.1.there ha
    rw [r2.newer t ht a z] at e
    cases e⟩
end

/-! ### statements -/
structure DE where
  nx : List Sl → Prop
  rt : Bool → D → List Sl → Prop
  bk : List Sl → Prop := fun _ => False
  ct : List Sl → Prop := fun _ => False
/-- what is handed back -/
def RtOk (K : PySem.W.Frag) (H : Hp) (M : Addr → Prop) (I' H' : Hp) (v : V) : Bool → D → Prop
  | false, d => Rv K I' v d
  | true, d => ∃ p xs ds, v = .ref p ∧ d = .list ds ∧ (H p = none ∨ M p) ∧ I' p = none ∧ H' p = some (.lst xs) ∧ DqAll I' xs ds
theorem RsOk.rt {K : PySem.W.Frag} {H I' H' : Hp} {M : Addr → Prop} {v : V} {d : D} : ∀ {o : Bool}, RsOk K H I' H' v o d → RtOk K H M I' H' v o d
  | false, r => r
  | true, ⟨p, xs, ds, h1, h2, h3, h4⟩ => ⟨p, xs, ds, h1, h2, .inl h3, h4⟩
theorem RtOk.back {K : PySem.W.Frag} {I H I1 H1 I' H' : Hp} {M M1 : Addr → Prop} {v : V} {d : D} (st : Step I H M I1 H1 M1) : ∀ {o : Bool}, RtOk K H1 M1 I' H' v o d → RtOk K H M I' H' v o d
  | false, r => r
  | true, ⟨p, xs, ds, h1, h2, h3, h4⟩ => ⟨p, xs, ds, h1, h2, by
    rcases h3 with z | z
    · refine .inl ?_
      cases e : H p with
      | none => rfl
      | some o =>
        obtain ⟨u, e2⟩ := st.al p o e
        rw [z] at e2
        cases e2
    · exact (st.mm p z).symm, h4⟩
structure Fin (X : Cx) (ρ : List Sl) (I H : Hp) (E : DE) (T : Ends) : Prop where
  nx : ∀ σ' ρ' I' H', EnvOk X.K I' H' σ' ρ' → Step I H (Mt ρ) I' H' (Mt ρ') → E.nx ρ' → T.nx σ' H'
  rt : ∀ v o d σ' ρ' I' H', EnvOk X.K I' H' σ' ρ' → Step I H (Mt ρ) I' H' (Mt ρ') → RtOk X.K H (Mt ρ) I' H' v o d → E.rt o d ρ' → T.rt v H'
  bk : ∀ σ' ρ' I' H', EnvOk X.K I' H' σ' ρ' → Step I H (Mt ρ) I' H' (Mt ρ') → E.bk ρ' → T.bk σ' H'
  ct : ∀ σ' ρ' I' H', EnvOk X.K I' H' σ' ρ' → Step I H (Mt ρ) I' H' (Mt ρ') → E.ct ρ' → T.ct σ' H'
def SD (X : Cx) (ss : List Stmt) (ρ : List Sl) (W : Wx) (E : DE) : Prop := ∀ σ I H, EnvOk X.K I H σ ρ → XOk X W H ρ → ∀ T : Ends, Fin X ρ I H E T → wS X ss T σ H
def S1 (X : Cx) (st : Stmt) (ρ : List Sl) (W : Wx) (E : DE) : Prop := ∀ σ I H, EnvOk X.K I H σ ρ → XOk X W H ρ → ∀ T : Ends, Fin X ρ I H E T → w1 X st T σ H
theorem Fin.step {X : Cx} {ρ ρ1 : List Sl} {I H I1 H1 : Hp} {E : DE} {T : Ends} (k : Fin X ρ I H E T) (st : Step I H (Mt ρ) I1 H1 (Mt ρ1)) : Fin X ρ1 I1 H1 E T :=
  ⟨fun σ' ρ' I' H' ok s q => k.nx σ' ρ' I' H' ok (st.trans s) q, fun v o d σ' ρ' I' H' ok s r q => k.rt v o d σ' ρ' I' H' ok (st.trans s) (r.back st) q,
    fun σ' ρ' I' H' ok s q => k.bk σ' ρ' I' H' ok (st.trans s) q, fun σ' ρ' I' H' ok s q => k.ct σ' ρ' I' H' ok (st.trans s) q⟩

section
variable {X : Cx} {m : Bool} {ρ ρ1 : List Sl} {W : Wx} {a b c e : Expr} {es : List Expr} {pos p : Pos} {σ : L2.St} {I H I1 H1 : Hp} {E : DE} {st : Stmt} {ss : List Stmt}
theorem sd_re {ρ' : List Sl} (e : ρ = ρ') (h : SD X ss ρ' W E) : SD X ss ρ W E := by
  subst e
  exact h
theorem sd_nil (h : E.nx ρ) : SD X [] ρ W E := fun σ I H ok xk T k => ⟨_, pss_nil, k.nx σ ρ I H ok Step.refl h⟩
theorem sd_cons (h : S1 X st ρ W { E with nx := fun ρ1 => SD X ss ρ1 W E }) : SD X (st :: ss) ρ W E := fun σ I H ok xk T k =>
  ⟨_, pss_cons ps_w pss_w, h σ I H ok xk _ ⟨fun σ' ρ' I' H' ok' s q => q σ' I' H' ok' (xk.step s) T (k.step s), k.rt, k.bk, k.ct⟩⟩
theorem sd_one (h : S1 X st ρ W E) : SD X [st] ρ W E := fun σ I H ok xk T k => ⟨_, pss_one ps_w, h σ I H ok xk T k⟩
theorem sd_mono {E' : DE} (h : SD X ss ρ W E) (h1 : ∀ ρ, E.nx ρ → E'.nx ρ) (h2 : ∀ o d ρ, E.rt o d ρ → E'.rt o d ρ) (h3 : ∀ ρ, E.bk ρ → E'.bk ρ) (h4 : ∀ ρ, E.ct ρ → E'.ct ρ) : SD X ss ρ W E' := fun σ I H ok xk T k =>
  h σ I H ok xk T ⟨fun σ' ρ' I' H' o s q => k.nx σ' ρ' I' H' o s (h1 _ q), fun v o d σ' ρ' I' H' ok s r q => k.rt v o d σ' ρ' I' H' ok s r (h2 _ _ _ q), fun σ' ρ' I' H' o s q => k.bk σ' ρ' I' H' o s (h3 _ q), fun σ' ρ' I' H' o s q => k.ct σ' ρ' I' H' o s (h4 _ q)⟩
theorem s1_pass (h : E.nx ρ) : S1 X (.Pass pos) ρ W E := fun σ I H ok xk T k => ⟨_, ps_pass, k.nx σ ρ I H ok Step.refl h⟩
theorem s1_break (h : E.bk ρ) : S1 X (.Break pos) ρ W E := fun σ I H ok xk T k => ⟨_, ps_break, k.bk σ ρ I H ok Step.refl h⟩
theorem s1_cont (h : E.ct ρ) : S1 X (.Continue pos) ρ W E := fun σ I H ok xk T k => ⟨_, ps_continue, k.ct σ ρ I H ok Step.refl h⟩
/-- x = e -/
theorem s1_set (i : Nat) {x : Str} {pos' : Pos} (hN : X.N.Nodup) (h : VM false X e ρ W fun s ρ1 => E.nx (ρ1.set i s)) (hi : X.N[i]? = some x := by rfl) (hx : Loc X.env.scope x := by first | exact Or.inl rfl | exact Or.inr rfl) (hs : swapsWith e (some (.Name x pos')) pos.line X.env = pure false := by rfl)
    (hf : X.fn x = true ∨ X.env.scope.names.lookup x = some .local := by first | exact .inl rfl | exact .inr rfl | assumption) : S1 X (.Assign [.Name x pos'] e pos) ρ W E := fun σ I H ok xk T k =>
  ⟨_, ps_set hN hi hx pe_w hs hf, h σ I H ok xk _ fun v s ρ' I' H' g r q => by
    obtain ⟨o, st⟩ := r.put (i := i) ok g
    exact k.nx _ _ I' H' o st q⟩
/-- x, y = e, e' -/
theorem newAll_put {K : PySem.W.Frag} {H I' H' : Hp} {σ : L2.St} {ρ : List Sl} {i : Nat} {v : V} {s : Sl} (n : NewOk K H I' H' v s) (ok : EnvOk K I' H' σ ρ) (ap : ∀ a ∈ foot s, ¬ Mt ρ a) : EnvOk K I' H' (σ.set i (some v)) (ρ.set i s) := ok.put n.1 n.2.1 ap fun a h => (n.2.2 a h).2
theorem s1_par2 (i j : Nat) {x y : Str} {px py pt : Pos} {kt k2 pt2} (hc : X.calm = true) (hN : X.N.Nodup) (h : LM false X [a, b] ρ W fun ss ρ1 => ∃ s t, ss = [s, t] ∧ E.nx ((ρ1.set i s).set j t)) (hij : i ≠ j := by decide) (hi : X.N[i]? = some x := by rfl) (hj : X.N[j]? = some y := by rfl)
    (hx : X.env.scope.names.lookup x = some .local := by rfl) (hy : X.env.scope.names.lookup y = some .local := by rfl)
    (hw : swappedStores [.Tuple [.Name x px, .Name y py] kt pt] (.Tuple [a, b] k2 pt2) X.env = pure (some [x, y]) := by rfl)
    (hs : swapsWithSole [.Tuple [.Name x px, .Name y py] kt pt] (.Tuple [a, b] k2 pt2) pos.line X.env = pure false := by rfl) : S1 X (.Assign [.Tuple [.Name x px, .Name y py] kt pt] (.Tuple [a, b] k2 pt2) pos) ρ W E := fun σ I H ok xk T k =>
  ⟨_, ps_par hc hN hi hj hij hx hy pa_w hw hs, h σ I H ok xk _ fun vs ss ρ' I' H' g r ⟨s, t, e, q⟩ => by
    subst e
    cases r with
    | cons n1 d1 r =>
      cases r with
      | cons n2 d2 r =>
        cases r
        refine ⟨_, _, rfl, k.nx _ _ I' H' (newAll_put n2 (newAll_put n1 (g.env ok) (n1.apart ok g)) fun a ha z => ?_) ⟨g.step.ii, g.step.oth, g.step.fr, fun a z => ?_, g.step.al⟩ q⟩
        · rcases mt_set z with z | z
          · exact n2.apart ok g a ha z
          · exact d1 a z t (List.mem_singleton.mpr rfl) ha
        · rcases mt_set z with z | z
          · rcases mt_set z with z | z
            · exact g.step.mm a z
            · exact .inr (n1.2.2 a z).1
          · exact .inr (n2.2.2 a z).1⟩
theorem s1_par3 (i j l : Nat) {x y z : Str} {px py pz pt : Pos} {kt k2 pt2} (hc : X.calm = true) (hN : X.N.Nodup) (h : LM false X [a, b, c] ρ W fun ss ρ1 => ∃ s t u, ss = [s, t, u] ∧ E.nx (((ρ1.set i s).set j t).set l u)) (hij : i ≠ j := by decide) (hil : i ≠ l := by decide) (hjl : j ≠ l := by decide) (hi : X.N[i]? = some x := by rfl) (hj : X.N[j]? = some y := by rfl) (hl : X.N[l]? = some z := by rfl)
    (hx : X.env.scope.names.lookup x = some .local := by rfl) (hy : X.env.scope.names.lookup y = some .local := by rfl) (hz : X.env.scope.names.lookup z = some .local := by rfl)
    (hw : swappedStores [.Tuple [.Name x px, .Name y py, .Name z pz] kt pt] (.Tuple [a, b, c] k2 pt2) X.env = pure (some [x, y, z]) := by rfl)
    (hs : swapsWithSole [.Tuple [.Name x px, .Name y py, .Name z pz] kt pt] (.Tuple [a, b, c] k2 pt2) pos.line X.env = pure false := by rfl) : S1 X (.Assign [.Tuple [.Name x px, .Name y py, .Name z pz] kt pt] (.Tuple [a, b, c] k2 pt2) pos) ρ W E := fun σ I H ok xk T k =>
  ⟨_, ps_par3 hc hN hi hj hl hij hil hjl hx hy hz pa_w hw hs, h σ I H ok xk _ fun vs ss ρ' I' H' g r ⟨s, t, u, e, q⟩ => by
    subst e
    cases r with
    | cons n1 d1 r =>
      cases r with
      | cons n2 d2 r =>
        cases r with
        | cons n3 d3 r =>
          cases r
          refine ⟨_, _, _, rfl, k.nx _ _ I' H' (newAll_put n3 (newAll_put n2 (newAll_put n1 (g.env ok) (n1.apart ok g)) fun a ha z => ?_) fun a ha z => ?_) ⟨g.step.ii, g.step.oth, g.step.fr, fun a z => ?_, g.step.al⟩ q⟩
          · rcases mt_set z with z | z
            · exact n2.apart ok g a ha z
            · exact d1 a z t (by simp) ha
          · rcases mt_set z with z | z
            · rcases mt_set z with z | z
              · exact n3.apart ok g a ha z
              · exact d1 a z u (by simp) ha
            · exact d2 a z u (by simp) ha
          · rcases mt_set z with z | z
            · rcases mt_set z with z | z
              · rcases mt_set z with z | z
                · exact g.step.mm a z
                · exact .inr (n1.2.2 a z).1
              · exact .inr (n2.2.2 a z).1
            · exact .inr (n3.2.2 a z).1⟩
/-- e alone -/
theorem s1_expr (h : EM false X e ρ W fun _ _ ρ1 => E.nx ρ1) (hs : swapsWith e none pos.line X.env = pure false := by rfl) : S1 X (.Expr e pos) ρ W E := fun σ I H ok xk T k =>
  ⟨_, ps_expr pe_w hs, h.run ok xk fun v _ d ρ' I' H' g r q => k.nx _ _ I' H' (g.env ok) g.step q⟩
theorem s1_ret (h : EM false X e ρ W fun o d ρ1 => E.rt o d ρ1) : S1 X (.Return (some e) pos) ρ W E := fun σ I H ok xk T k =>
  ⟨_, ps_ret pe_w, h σ I H ok xk _ fun v o d ρ' I' H' g r q => k.rt v o d σ ρ' I' H' (g.env ok) g.step r.rt q⟩
/-- .. as data, whatever it is -/
theorem s1_retD (h : EM false X e ρ W fun _ d ρ1 => E.rt false d ρ1) : S1 X (.Return (some e) pos) ρ W E := fun σ I H ok xk T k =>
  ⟨_, ps_ret pe_w, h.run ok xk fun v o d ρ' I' H' g r q => k.rt v false d σ ρ' I' H' (g.env ok) g.step r q⟩
/-- a list of one's own is handed back -/
theorem s1_retOwn (i : Nat) {x : Str} {q : Addr} {ds : List D} {p' : Pos} (h0 : ρ[i]? = some (.mo q (.lst ds))) (h : E.rt true (.list ds) ρ) (hN : X.N[i]? = some x := by rfl) (hv : Vis X.env.scope x := by first | exact Or.inl rfl | exact Or.inr (Or.inl rfl) | exact Or.inr (Or.inr rfl))
    (hd : (x == ("__debug__" : Str)) = false := by decide) (hcd : (x == ("__classdict__" : Str)) = false := by decide) : S1 X (.Return (some (.Name x p')) pos) ρ W E := fun σ I H ok xk T k => by
  obtain ⟨v, e, r, o, ho, xs, rfl, t⟩ := ok.at h0 (fun z => nomatch z)
  subst r
  exact ⟨_, ps_ret (pe_var hN hv hd hcd), _, e, k.rt _ true _ σ ρ I H ok Step.refl ⟨q, xs, ds, rfl, rfl, .inr ⟨i, by rw [ft_at h0]; exact List.mem_singleton.mpr rfl⟩, ok.out i q (by rw [ft_at h0]; exact List.mem_singleton.mpr rfl), ho, t⟩ h⟩
theorem s1_retN (h : E.rt false .none ρ) : S1 X (.Return none pos) ρ W E := fun σ I H ok xk T k => ⟨_, ps_retN, k.rt _ false .none σ ρ I H ok Step.refl Rv.mkNon h⟩
theorem s1_if {x y : List Stmt} (h : TM false X c ρ W fun k ρ1 => (k = true → SD X x ρ1 W E) ∧ (k = false → SD X y ρ1 W E)) : S1 X (.If c x y pos) ρ W E := fun σ I H ok xk T k =>
  ⟨_, ps_if pt_w pss_w pss_w, h σ I H ok xk _ fun b ρ1 I1 H1 g ⟨q1, q2⟩ => by
    cases b with
    | true => exact iteT (q1 rfl σ I1 H1 (g.env ok) (xk.step g.step) T (k.step g.step))
    | false => exact iteF (q2 rfl σ I1 H1 (g.env ok) (xk.step g.step) T (k.step g.step))⟩
theorem s1_never (h : False) : S1 X st ρ W E := h.elim
end
end Tt

namespace Tt
open PySem PySem.Spec PyProof.Rows L2

/-! ### targets -/
inductive Tg where
  | nm (i : Nat)
  | tp (ts : List Tg)
mutual
def Tg.g (K : PySem.W.Frag) : Tg → TG
  | .nm i => gName i
  | .tp ts => gTup K ts.length (Tg.gs K ts)
def Tg.gs (K : PySem.W.Frag) : List Tg → TGs
  | [] => gNil
  | t :: ts => gCons (Tg.g K t) (Tg.gs K ts)
end
mutual
def Tg.put : Tg → D → List Sl → Option (List Sl)
  | .nm i, d, ρ => some (ρ.set i (.va d))
  | .tp ts, .tuple ds, ρ => Tg.puts ts ds ρ
  | .tp _, _, _ => none
def Tg.puts : List Tg → List D → List Sl → Option (List Sl)
  | [], [], ρ => some ρ
  | t :: ts, d :: ds, ρ => match Tg.put t d ρ with
    | some ρ' => Tg.puts ts ds ρ'
    | none => none
  | _, _, _ => none
end
mutual
def Tg.slots : Tg → List Nat
  | .nm i => [i]
  | .tp ts => Tg.slotss ts
def Tg.slotss : List Tg → List Nat
  | [] => []
  | t :: ts => Tg.slots t ++ Tg.slotss ts
end
structure PutOk (K : PySem.W.Frag) (I H : Hp) (σ σ' : L2.St) (ρ ρ' : List Sl) (vs : List Nat) : Prop where
  env : EnvOk K I H σ' ρ'
  mt : ∀ a, Mt ρ' a → Mt ρ a
  same : ∀ j, j ∉ vs → σ'[j]? = σ[j]?
  sameR : ∀ j, j ∉ vs → ρ'[j]? = ρ[j]?
  len : σ'.length = σ.length
section
variable {K : PySem.W.Frag} {I H : Hp}
theorem PutOk.trans {σ σ1 σ2 : L2.St} {ρ ρ1 ρ2 : List Sl} {vs ws : List Nat} (a : PutOk K I H σ σ1 ρ ρ1 vs) (b : PutOk K I H σ1 σ2 ρ1 ρ2 ws) : PutOk K I H σ σ2 ρ ρ2 (vs ++ ws) :=
  ⟨b.env, fun x h => a.mt x (b.mt x h), fun j h => (b.same j fun z => h (List.mem_append_right _ z)).trans (a.same j fun z => h (List.mem_append_left _ z)),
    fun j h => (b.sameR j fun z => h (List.mem_append_right _ z)).trans (a.sameR j fun z => h (List.mem_append_left _ z)), b.len.trans a.len⟩
mutual
theorem Tg.run : ∀ (t : Tg) {v : V} {d : D} {σ : L2.St} {ρ ρ' : List Sl}, EnvOk K I H σ ρ → Rv K I v d → Tg.put t d ρ = some ρ' →
    ∃ σ', PutOk K I H σ σ' ρ ρ' (Tg.slots t) ∧ ∀ Q : L2.St → Hp → Prop, Q σ' H → Tg.g K t v σ H Q
  | .nm i, v, d, σ, ρ, ρ', ok, r, e => by
    have e' : ρ.set i (.va d) = ρ' := by
      simp only [Tg.put] at e
      exact Option.some.inj e
    subst e'
    refine ⟨σ.set i (some v), ⟨ok.put (s := .va d) r List.nodup_nil (fun _ h => by cases h) (fun _ h => by cases h), fun a h => ?_, fun j h => ?_, fun j h => ?_, List.length_set⟩, fun Q q => by
      unfold Tg.g
      exact q⟩
    · rcases mt_set h with z | z
      · exact z
      · cases z
    · refine List.getElem?_set_ne fun z => h ?_
      subst z
      unfold Tg.slots
      exact List.mem_singleton.mpr rfl
    · refine List.getElem?_set_ne fun z => h ?_
      subst z
      unfold Tg.slots
      exact List.mem_singleton.mpr rfl
  | .tp ts, v, .tuple ds, σ, ρ, ρ', ok, r, e => by
    have e' : Tg.puts ts ds ρ = some ρ' := by
      simp only [Tg.put] at e
      exact e
    obtain ⟨a, xs, rfl, hq, ha⟩ := r.tup
    obtain ⟨σ', p, q⟩ := Tg.runs ts ok ha e'
    refine ⟨σ', by
      unfold Tg.slots
      exact p, fun Q k => by
      unfold Tg.g
      exact ⟨a, xs, rfl, (ok.sub.tup hq).sq, (q Q k).1, (q Q k).2⟩⟩
  | .tp _, _, .none, _, _, _, _, _, e => by simp [Tg.put] at e
  | .tp _, _, .bool _, _, _, _, _, _, e => by simp [Tg.put] at e
  | .tp _, _, .int _, _, _, _, _, _, e => by simp [Tg.put] at e
  | .tp _, _, .str _, _, _, _, _, _, e => by simp [Tg.put] at e
  | .tp _, _, .list _, _, _, _, _, _, e => by simp [Tg.put] at e
  | .tp _, _, .dict _, _, _, _, _, _, e => by simp [Tg.put] at e
theorem Tg.runs : ∀ (ts : List Tg) {vs : List V} {ds : List D} {σ : L2.St} {ρ ρ' : List Sl}, EnvOk K I H σ ρ → DqAll I vs ds → Tg.puts ts ds ρ = some ρ' →
    ∃ σ', PutOk K I H σ σ' ρ ρ' (Tg.slotss ts) ∧ ∀ Q : L2.St → Hp → Prop, Q σ' H → vs.length = ts.length ∧ Tg.gs K ts vs σ H Q
  | [], _, _, σ, ρ, ρ', ok, .nil, e => by
    have e' : ρ = ρ' := by
      simp only [Tg.puts] at e
      exact Option.some.inj e
    subst e'
    refine ⟨σ, ⟨ok, fun _ h => h, fun _ _ => rfl, fun _ _ => rfl, rfl⟩, fun Q q => ⟨rfl, ?_⟩⟩
    unfold Tg.gs
    exact ⟨rfl, q⟩
  | [], _, _, _, _, _, _, .cons _ _, e => by simp [Tg.puts] at e
  | _ :: _, _, _, _, _, _, _, .nil, e => by simp [Tg.puts] at e
  | t :: ts, _, _, σ, ρ, ρ', ok, .cons h t2, e => by
    simp only [Tg.puts] at e
    split at e
    · rename_i ρ1 e1
      obtain ⟨σ1, p1, q1⟩ := Tg.run t ok ⟨.inl h⟩ e1
      obtain ⟨σ2, p2, q2⟩ := Tg.runs ts p1.env t2 e
      refine ⟨σ2, by
        unfold Tg.slotss
        exact p1.trans p2, fun Q q => ⟨?_, ?_⟩⟩
      · rw [List.length_cons, List.length_cons, (q2 Q q).1]
      · unfold Tg.gs
        exact ⟨_, _, rfl, q1 _ (q2 Q q).2⟩
    · cases e
end
end

/-! ### what is walked -/
structure WalkD (K : PySem.W.Frag) (J : It) (I0 : Hp) (its : List D) : Prop where
  w : Walk J its.length (Sub I0) fun i H v H' => ∃ d, its[i]? = some d ∧ ∀ I, Same I0 I → Sub I H → ∃ I', Grow I H I' H' ∧ Rv K I' v d
def IM (m : Bool) (X : Cx) (tg iter : Expr) (ρ : List Sl) (W : Wx) (Q : List D → List Sl → Prop) : Prop :=
  ∀ σ I H, EnvOk X.K I H σ ρ → XOk X W H ρ → ∀ R : It → Hp → Prop, (∀ J its ρ' I' H', Go m X.K σ ρ I H ρ' I' H' → WalkD X.K J I' its → Q its ρ' → R J H') → wI X tg iter σ H R
section
variable {X : Cx} {m : Bool} {ρ ρ1 : List Sl} {W : Wx} {a b c e tg iter elt : Expr} {es : List Expr} {pos p : Pos} {σ : L2.St} {I H I1 H1 : Hp} {E : DE} {Q : List D → List Sl → Prop}
theorem WalkD.list {K : PySem.W.Frag} {I : Hp} {q : Addr} {xs : List V} {ds : List D} (h : I q = some (.lst xs)) (t : DqAll I xs ds) : WalkD K (Itl K q) I ds :=
  ⟨by
    have w := walk_list (K := K) (a := q) (xs := xs)
    rw [t.len] at w
    refine w.mono (fun H s => SqL.of (s.lst h)) fun i H v H' hi s y => ?_
    obtain ⟨e, hv⟩ := y
    subst e
    obtain ⟨d, hd, r⟩ := t.getV hv
    exact ⟨d, hd, fun I1 ii s1 => ⟨I1, Grow.refl s1, ⟨.inl (Dq.same ii r)⟩⟩⟩⟩
theorem WalkD.tuple {K : PySem.W.Frag} {I : Hp} {q : Addr} {xs : List V} {ds : List D} (h : TupAt I q xs) (t : DqAll I xs ds) : WalkD K (Itt K q) I ds :=
  ⟨by
    have w := walk_tup (K := K) (a := q) (xs := xs)
    rw [t.len] at w
    refine w.mono (fun H s => (s.tup h).sq) fun i H v H' hi s y => ?_
    obtain ⟨e, hv⟩ := y
    subst e
    obtain ⟨d, hd, r⟩ := t.getV hv
    exact ⟨d, hd, fun I1 ii s1 => ⟨I1, Grow.refl s1, ⟨.inl (Dq.same ii r)⟩⟩⟩⟩
theorem im_list (h : EM m X iter ρ W fun _ d ρ1 => ∃ ds, d = .list ds ∧ Q ds ρ1) : IM m X tg iter ρ W Q := fun σ I H ok xk R f =>
  ⟨_, pi_list pe_w, h.run ok xk fun v o d ρ1 I1 H1 g r ⟨ds, e, q⟩ => by
    subst e
    obtain ⟨q', xs, rfl, hq, t⟩ := r.lst
    exact ⟨q', rfl, ⟨xs, SqL.of ((g.env ok).sub.lst hq)⟩, f _ ds ρ1 I1 H1 g (.list hq t) q⟩⟩
theorem im_tuple (h : EM m X iter ρ W fun _ d ρ1 => ∃ ds, d = .tuple ds ∧ Q ds ρ1) : IM m X tg iter ρ W Q := fun σ I H ok xk R f =>
  ⟨_, pi_tup pe_w, h.run ok xk fun v o d ρ1 I1 H1 g r ⟨ds, e, q⟩ => by
    subst e
    obtain ⟨q', xs, rfl, hq, t⟩ := r.tup
    exact ⟨q', rfl, ⟨xs, ((g.env ok).sub.tup hq).sq⟩, f _ ds ρ1 I1 H1 g (.tuple hq t) q⟩⟩
def chars (z : Str) : List D := z.cps.toList.map fun c => .str ⟨#[c]⟩
theorem im_str (h : EM m X iter ρ W fun _ d ρ1 => ∃ z, d = .str z ∧ Q (chars z) ρ1) : IM m X tg iter ρ W Q := fun σ I H ok xk R f =>
  ⟨_, pi_str pe_w, h.run ok xk fun v o d ρ1 I1 H1 g r ⟨z, e, q⟩ => by
    subst e
    refine ⟨z, r.str, f _ (chars z) ρ1 I1 H1 g ⟨?_⟩ q⟩
    have l : z.cps.size = (chars z).length := by simp [chars]
    rw [← l]
    refine walk_str.mono (fun _ _ => trivial) fun i H v H' hi s y => ?_
    obtain ⟨rfl, c, hc, rfl⟩ := y
    exact ⟨.str ⟨#[c]⟩, by simp [chars, hc], fun I1 ii s1 => ⟨I1, Grow.refl s1, .mkStr⟩⟩⟩
def rngD (lo : Int) (n : Nat) : List D := (List.range n).map fun (i : Nat) => .int (lo + (i : Int))
theorem WalkD.range {K : PySem.W.Frag} {I : Hp} {lo : Int} {n : Nat} : WalkD K (Itr lo n) I (rngD lo n) := ⟨by
    have l : (rngD lo n).length = n := by simp [rngD]
    rw [l]
    refine walk_range.mono (fun _ _ => trivial) fun i H v H' hi s y => ?_
    obtain ⟨rfl, rfl⟩ := y
    exact ⟨.int (lo + (i : Int)), by simp [rngD, hi], fun I1 ii s1 => ⟨I1, Grow.refl s1, .mkInt⟩⟩⟩
theorem im_range1 (hm : X.mg "range" = none) (h : EM m X a ρ W fun _ d ρ1 => ∃ n : Int, d = .int n ∧ -(2 ^ 62) ≤ n ∧ n < 2 ^ 62 ∧ Q (rngD 0 n.toNat) ρ1) (hg : Gl X "range" := by rfl) (hs : starEach [a] X.env = [(false, eval a X.env)] := by rfl) : IM m X tg (.Call (.Name "range" p) [a] [] pos) ρ W Q := fun σ I H ok xk R f =>
  ⟨_, pi_range1 hg hm (pa_cons pe_w pa_nil hs) hs, h.run ok xk fun v o d ρ1 I1 H1 g r ⟨n, e, l, u, q⟩ => by
    subst e
    rw [r.int]
    exact ⟨n, rfl, l, u, f _ _ ρ1 I1 H1 g .range q⟩⟩
theorem im_range2 (hm : X.mg "range" = none) (h : EM m X a ρ W fun _ d ρ1 => EM m X b ρ1 W fun _ d' ρ2 => ∃ i n : Int, d = .int i ∧ d' = .int n ∧ -(2 ^ 62) ≤ i ∧ i < 2 ^ 62 ∧ -(2 ^ 62) ≤ n ∧ n < 2 ^ 62 ∧ Q (rngD i (n - i).toNat) ρ2) (hg : Gl X "range" := by rfl)
    (hs : starEach [a, b] X.env = [(false, eval a X.env), (false, eval b X.env)] := by rfl) (hs2 : starEach [b] X.env = [(false, eval b X.env)] := by rfl) (hs3 : starEach [a, b] X.env = (false, eval a X.env) :: starEach [b] X.env := by rfl) : IM m X tg (.Call (.Name "range" p) [a, b] [] pos) ρ W Q := fun σ I H ok xk R f =>
  ⟨_, pi_range2 hg hm (pa_cons pe_w (pa_cons pe_w pa_nil hs2) hs3) hs hs2, h.run ok xk fun v o d ρ1 I1 H1 g1 r1 q1 => q1.run (g1.env ok) (xk.step g1.step) fun u o d' ρ2 I2 H2 g2 r2 ⟨i, n, e, e2, l1, l2, l3, l4, q⟩ => by
    subst e e2
    rw [r1.int, r2.int]
    exact ⟨i, n, rfl, ⟨l1, l2, l3, l4⟩, f _ _ ρ2 I2 H2 (g1.trans g2) .range q⟩⟩

/-! ### for, while -/
theorem s1_for {body : List Stmt} (t : Tg) (hp : PassesOwn (model X.prog X.w) X.A X.env X.xe) (hc : X.calm = true) (hg : PG X tg (Tg.g X.K t))
    (h : IM false X tg iter ρ W fun its ρ1 => ∃ P : Nat → List Sl → Prop, P 0 ρ1 ∧ (∀ i d ρ2, its[i]? = some d → P i ρ2 → ∃ ρ3, Tg.put t d ρ2 = some ρ3 ∧ SD X body ρ3 W { nx := P (i + 1), ct := P (i + 1), bk := E.nx, rt := E.rt }) ∧ ∀ ρ2, P its.length ρ2 → E.nx ρ2)
    (hs : ∀ x, foldedSetIterable iter X.env x = pure x := by intro _; rfl) : S1 X (.For tg iter body [] pos) ρ W E := fun σ I H ok xk T k =>
  ⟨_, ps_for hp hc pi_w hg pss_w hs, h σ I H ok xk _ fun J its ρ1 I1 H1 g w ⟨P, p0, ps, pd⟩ => by
    refine for_it w.w (fun i σ' H' => ∃ ρ' I', EnvOk X.K I' H' σ' ρ' ∧ Step I H (Mt ρ) I' H' (Mt ρ') ∧ Same I1 I' ∧ P i ρ') ⟨ρ1, I1, g.env ok, g.step, Same.refl _, p0⟩ (fun i σ' H' _ ⟨ρ', I', o, _, ii, _⟩ => o.sub.same ii) (fun i x σ' H' H'' hi ⟨ρ', I', o, st, ii, pi⟩ y => ?_) fun σ' H' ⟨ρ', I', o, st, ii, pn⟩ => k.nx σ' ρ' I' H' o st (pd ρ' pn)
    obtain ⟨d, hd, y⟩ := y
    obtain ⟨I2, g2, r2⟩ := y I' ii o.sub
    obtain ⟨ρ3, e3, body⟩ := ps i d ρ' hd pi
    obtain ⟨σ3, p3, q3⟩ := Tg.run t (o.grow g2) r2 e3
    have st3 : Step I H (Mt ρ) I2 H'' (Mt ρ3) := by
      have s := st.trans (g2.step (Mt ρ'))
      exact ⟨s.ii, s.oth, s.fr, fun a h => s.mm a (p3.mt a h), s.al⟩
    refine q3 _ (body σ3 I2 H'' p3.env (xk.step st3) _ ?_)
    exact ⟨fun σ4 ρ4 I4 H4 o4 s4 q4 => ⟨ρ4, I4, o4, st3.trans s4, (ii.trans g2.ii).trans s4.ii, q4⟩, fun v oo d' σ4 ρ4 I4 H4 o4 s4 r4 q4 => k.rt v oo d' σ4 ρ4 I4 H4 o4 (st3.trans s4) (r4.back st3) q4,
      fun σ4 ρ4 I4 H4 o4 s4 q4 => k.nx σ4 ρ4 I4 H4 o4 (st3.trans s4) q4, fun σ4 ρ4 I4 H4 o4 s4 q4 => ⟨ρ4, I4, o4, st3.trans s4, (ii.trans g2.ii).trans s4.ii, q4⟩⟩⟩
/-- P: the word, by a number that falls -/
theorem s1_while {body : List Stmt} (hp : PassesOwn (model X.prog X.w) X.A X.env X.xe) (P : Nat → List Sl → Prop) (n : Nat) (h0 : P n ρ)
    (h : ∀ n ρ1, P n ρ1 → TM false X c ρ1 W fun k ρ2 => (k = true → SD X body ρ2 W { nx := fun ρ3 => ∃ n', n' < n ∧ P n' ρ3, ct := fun ρ3 => ∃ n', n' < n ∧ P n' ρ3, bk := E.nx, rt := E.rt }) ∧ (k = false → E.nx ρ2)) : S1 X (.While c body [] pos) ρ W E := fun σ I H ok xk T k =>
  ⟨_, ps_while hp pt_w pss_w, fun n σ' H' => ∃ ρ' I', EnvOk X.K I' H' σ' ρ' ∧ Step I H (Mt ρ) I' H' (Mt ρ') ∧ P n ρ', ⟨n, ρ, I, ok, Step.refl, h0⟩, fun n σ' H' ⟨ρ', I', o, st, pn⟩ => by
    refine h n ρ' pn σ' I' H' o (xk.step st) _ fun b ρ2 I2 H2 g ⟨q1, q2⟩ => ?_
    have st2 := st.trans g.step
    cases b with
    | false => exact iteF (k.nx σ' ρ2 I2 H2 (g.env o) st2 (q2 rfl))
    | true =>
      refine iteT ⟨fun σ3 H3 => ∃ n', n' < n ∧ ∃ ρ3 I3, EnvOk X.K I3 H3 σ3 ρ3 ∧ Step I H (Mt ρ) I3 H3 (Mt ρ3) ∧ P n' ρ3, fun σ3 H3 ⟨n', l, q⟩ => ⟨n', l, q⟩, q1 rfl σ' I2 H2 (g.env o) (xk.step st2) _ ?_⟩
      exact ⟨fun σ4 ρ4 I4 H4 o4 s4 ⟨n', l, q4⟩ => ⟨n', l, ρ4, I4, o4, st2.trans s4, q4⟩, fun v oo d' σ4 ρ4 I4 H4 o4 s4 r4 q4 => k.rt v oo d' σ4 ρ4 I4 H4 o4 (st2.trans s4) (r4.back st2) q4,
        fun σ4 ρ4 I4 H4 o4 s4 q4 => k.nx σ4 ρ4 I4 H4 o4 (st2.trans s4) q4, fun σ4 ρ4 I4 H4 o4 s4 ⟨n', l, q4⟩ => ⟨n', l, ρ4, I4, o4, st2.trans s4, q4⟩⟩⟩
/-- (a, b, ..) = e, a tuple -/
theorem s1_unpack (t : Tg) (hg : PG X tg (Tg.g X.K t)) (h : EM false X e ρ W fun _ d ρ1 => ∃ ρ2, Tg.put t d ρ1 = some ρ2 ∧ E.nx ρ2) (hs : swapsWithSole [tg] e pos.line X.env = pure false := by rfl) (hw : swappedStores [tg] e X.env = pure none := by rfl) (h1 : List.map (fun x => x.snd) (assignEach [tg] X.env) = [assign tg X.env] := by rfl) : S1 X (.Assign [tg] e pos) ρ W E := fun σ I H ok xk T k =>
  ⟨_, ps_asg pe_w hg hs hw h1, h.run ok xk fun v o d ρ1 I1 H1 g r ⟨ρ2, e2, q⟩ => by
    obtain ⟨σ2, p2, q2⟩ := Tg.run t (g.env ok) r e2
    have st := g.step
    exact q2 _ (k.nx σ2 ρ2 I1 H1 p2.env ⟨st.ii, st.oth, st.fr, fun a h => st.mm a (p2.mt a h), st.al⟩ q)⟩
end

/-! ### comprehensions -/
def wipeS (ρ : List Sl) : List Nat → List Sl
  | [] => ρ
  | v :: vs => (wipeS ρ vs).set v .no
def backS (vs : List Nat) (ρ2 ρ5 : List Sl) : List Sl := (List.range ρ2.length).map fun i => if i ∈ vs then ρ2.getD i .no else ρ5.getD i .no
theorem wipeS_len (ρ : List Sl) : ∀ vs, (wipeS ρ vs).length = ρ.length
  | [] => rfl
  | v :: vs => by unfold wipeS; rw [List.length_set, wipeS_len ρ vs]
theorem wipeS_out {ρ : List Sl} {i : Nat} : ∀ {vs : List Nat}, i ∉ vs → (wipeS ρ vs)[i]? = ρ[i]?
  | [], _ => rfl
  | v :: vs, h => by
    have h1 : v ≠ i := fun e => h (by rw [e]; exact List.mem_cons_self)
    unfold wipeS
    rw [List.getElem?_set_ne h1]
    exact wipeS_out fun m => h (List.mem_cons_of_mem _ m)
theorem wipeS_in {ρ : List Sl} {i : Nat} : ∀ {vs : List Nat}, i ∈ vs → i < ρ.length → (wipeS ρ vs)[i]? = some .no
  | [], h, _ => by cases h
  | v :: vs, h, l => by
    unfold wipeS
    by_cases z : v = i
    · subst z
      rw [List.getElem?_set_self (by rw [wipeS_len]; exact l)]
    · rw [List.getElem?_set_ne z]
      rcases List.mem_cons.mp h with e | h
      · exact absurd e.symm z
      · exact wipeS_in h l
theorem wipe_in {σ : L2.St} {i : Nat} : ∀ {vs : List Nat}, i ∈ vs → i < σ.length → (wipe σ vs)[i]? = some none
  | [], h, _ => by cases h
  | v :: vs, h, l => by
    unfold wipe
    by_cases z : v = i
    · subst z
      rw [List.getElem?_set_self (by rw [wipe_length]; exact l)]
    · rw [List.getElem?_set_ne z]
      rcases List.mem_cons.mp h with e | h
      · exact absurd e.symm z
      · exact wipe_in h l
section
variable {K : PySem.W.Frag} {I H I' H' : Hp} {σ : L2.St} {ρ ρ' : List Sl} {m : Bool} {vs : List Nat}
theorem ft_wipe {a : Addr} {j : Nat} (h : a ∈ ft (wipeS ρ vs) j) : a ∈ ft ρ j ∧ j ∉ vs := by
  by_cases z : j ∈ vs
  · by_cases l : j < ρ.length
    · rw [ft_at (wipeS_in z l)] at h
      cases h
    · rw [ft_no (List.getElem?_eq_none (by rw [wipeS_len]; omega))] at h
      cases h
  · refine ⟨?_, z⟩
    unfold ft at h ⊢
    rw [wipeS_out z] at h
    exact h
theorem EnvOk.wiped (ok : EnvOk K I H σ ρ) : EnvOk K I H (wipe σ vs) (wipeS ρ vs) := by
  refine ⟨by rw [wipe_length, wipeS_len, ok.len], fun i s e => ?_, fun i => ?_, fun i j a h1 h2 => ok.dj i j a (ft_wipe h1).1 (ft_wipe h2).1, fun i a h => ok.out i a (ft_wipe h).1, ok.sub⟩
  · by_cases z : i ∈ vs
    · have l : i < ρ.length := by
        have := (List.getElem?_eq_some_iff.mp e).1
        rwa [wipeS_len] at this
      rw [wipeS_in z l] at e
      cases e
      rw [wipe_in z (by rw [ok.len]; exact l)]
      trivial
    · rw [wipeS_out z] at e
      rw [wipe_out z]
      exact ok.ok i s e
  · by_cases z : i ∈ vs
    · have : ft (wipeS ρ vs) i = [] := by
        cases q : ft (wipeS ρ vs) i with
        | nil => rfl
        | cons a r => exact absurd z (ft_wipe (a := a) (ρ := ρ) (vs := vs) (by rw [q]; exact List.mem_cons_self)).2
      rw [this]
      exact List.nodup_nil
    · have : ft (wipeS ρ vs) i = ft ρ i := by
        unfold ft
        rw [wipeS_out z]
      rw [this]
      exact ok.nd i
theorem backS_at {ρ5 : List Sl} {i : Nat} (l : i < ρ.length) : (backS vs ρ ρ5)[i]? = some (if i ∈ vs then ρ.getD i .no else ρ5.getD i .no) := by
  unfold backS
  rw [List.getElem?_map, List.getElem?_range l]
  rfl
theorem backS_len {ρ5 : List Sl} : (backS vs ρ ρ5).length = ρ.length := by simp [backS]
theorem getD_some {α : Type} {l : List α} {i : Nat} {d s : α} (e : l[i]? = some s) : l.getD i d = s := by rw [List.getD_eq_getElem?_getD, e]; rfl
theorem backS_in {ρ5 : List Sl} {i : Nat} (z : i ∈ vs) : (backS vs ρ ρ5)[i]? = ρ[i]? := by
  by_cases l : i < ρ.length
  · rw [backS_at l, if_pos z, List.getD_eq_getElem?_getD, List.getElem?_eq_getElem l]
    rfl
  · rw [List.getElem?_eq_none (by rw [backS_len]; omega), List.getElem?_eq_none (by omega)]
theorem backS_out {ρ5 : List Sl} {i : Nat} (z : i ∉ vs) (l5 : ρ5.length = ρ.length) : (backS vs ρ ρ5)[i]? = ρ5[i]? := by
  by_cases l : i < ρ.length
  · rw [backS_at l, if_neg z, List.getD_eq_getElem?_getD, List.getElem?_eq_getElem (by omega)]
    rfl
  · rw [List.getElem?_eq_none (by rw [backS_len]; omega), List.getElem?_eq_none (by omega)]
theorem ft_back {ρ5 : List Sl} {i : Nat} (l5 : ρ5.length = ρ.length) : ft (backS vs ρ ρ5) i = if i ∈ vs then ft ρ i else ft ρ5 i := by
  unfold ft
  by_cases z : i ∈ vs
  · rw [backS_in z, if_pos z]
  · rw [backS_out z l5, if_neg z]
/-- behind a block's turn: the slots of one's own again -/
theorem Go.back {σ3 : L2.St} {ρ3 ρ5 : List Sl} (ok : EnvOk K I H σ ρ) (p : PutOk K I H (wipe σ vs) σ3 (wipeS ρ vs) ρ3 vs) (g : Go m K σ3 ρ3 I H ρ5 I' H') : Go m K σ ρ I H (backS vs ρ ρ5) I' H' := by
  have l3 : ρ3.length = ρ.length := by rw [← p.env.len, p.len, wipe_length, ok.len]
  cases m with
  | true =>
    obtain ⟨rfl, g⟩ := g
    refine ⟨List.ext_getElem? fun i => ?_, g⟩
    by_cases z : i ∈ vs
    · exact backS_in z
    · rw [backS_out z l3, p.sameR i z, wipeS_out z]
  | false =>
    obtain ⟨ok5, st, mt⟩ := g
    have l5 : ρ5.length = ρ.length := by rw [← ok5.len, p.env.len, l3]
    have far : ∀ i a, i ∈ vs → a ∈ ft ρ i → ¬ Mt ρ3 a := fun i a z h q => by
      obtain ⟨j, hj⟩ := p.mt a q
      obtain ⟨h1, h2⟩ := ft_wipe hj
      exact h2 (by rw [← ok.dj i j a h h1]; exact z)
    have near : ∀ a, Mt ρ3 a → Mt ρ a := fun a q => by
      obtain ⟨j, hj⟩ := p.mt a q
      exact ⟨j, (ft_wipe hj).1⟩
    have mtb : ∀ a, Mt (backS vs ρ ρ5) a → Mt ρ a := fun a ⟨i, h⟩ => by
      rw [ft_back l5] at h
      split at h
      · exact ⟨i, h⟩
      · exact near a (mt a ⟨i, h⟩)
    refine ⟨⟨by rw [backS_len]; exact ok.len, fun i s e => ?_, fun i => ?_, fun i j a h1 h2 => ?_, fun i a h => ?_, ok5.sub⟩, ⟨st.ii, fun a o e n => st.oth a o e fun q => n (near a q), fun a o e z n => st.fr a o e z fun q => n (near a q), fun a h => .inl (mtb a h), st.al⟩, mtb⟩
    · by_cases z : i ∈ vs
      · rw [backS_in z] at e
        exact (ok.ok i s e).grow st.ii fun q o hq e2 => st.oth q o e2 (far i q z (by rw [ft_at e]; exact hq))
      · rw [backS_out z l5] at e
        have q := ok5.ok i s e
        rw [p.same i z, wipe_out z] at q
        exact q
    · rw [ft_back l5]
      split
      · exact ok.nd i
      · exact ok5.nd i
    · rw [ft_back l5] at h1 h2
      split at h1 <;> split at h2
      · exact ok.dj i j a h1 h2
      · rename_i z1 z2
        exact absurd (mt a ⟨j, h2⟩) (far i a z1 h1)
      · rename_i z1 z2
        exact absurd (mt a ⟨i, h1⟩) (far j a z2 h2)
      · exact ok5.dj i j a h1 h2
    · rw [ft_back l5] at h
      split at h
      · rename_i z
        obtain ⟨o, e⟩ := ok.there ⟨i, h⟩
        exact st.fr a o e (ok.out i a h) (far i a z h)
      · exact ok5.out i a h
theorem Go.dark {D : Addr} {o : HO} (ok : EnvOk K I H σ ρ) (g : Go m K σ ρ I H ρ' I' H') (n : H D = none) (ni : I' D = none) : Go m K σ ρ I H ρ' I' (upd H' D o) := by
  have keep : ∀ a u, H a = some u → a ≠ D := fun a u e => ne_of_none e n
  have sub : Sub I' H' → Sub I' (upd H' D o) := fun s a u e => by
    have : a ≠ D := fun z => by rw [z, ni] at e; cases e
    rw [upd_ne this]
    exact s a u e
  cases m with
  | true =>
    obtain ⟨rfl, g⟩ := g
    exact ⟨rfl, g.ii, fun a u e => by rw [upd_ne (keep a u e)]; exact g.hh a u e, sub g.sub, g.fr⟩
  | false =>
    obtain ⟨ok', st, mt⟩ := g
    refine ⟨⟨ok'.len, fun i s e => (ok'.ok i s e).grow (Same.refl _) fun q u hq e2 => ?_, ok'.nd, ok'.dj, ok'.out, sub ok'.sub⟩, ⟨st.ii, fun a u e z => by rw [upd_ne (keep a u e)]; exact st.oth a u e z, st.fr, st.mm, fun a u e => by rw [upd_ne (keep a u e)]; exact st.al a u e⟩, mt⟩
    obtain ⟨u', e'⟩ := ok.there (mt q ⟨i, by rw [ft_at e]; exact hq⟩)
    rw [upd_ne (keep q u' e')]
    exact e2
end
theorem wipe_put {K : PySem.W.Frag} {I H : Hp} {σ σ3 : L2.St} {ρ ρ3 : List Sl} {vs ws : List Nat} (p : PutOk K I H (wipe σ vs) σ3 ρ ρ3 ws) (hw : ∀ i ∈ ws, i ∈ vs) : wipe σ3 vs = wipe σ vs := by
  refine List.ext_getElem? fun i => ?_
  by_cases z : i ∈ vs
  · by_cases l : i < σ.length
    · rw [wipe_in z l, wipe_in z (by rw [p.len, wipe_length]; exact l)]
    · rw [List.getElem?_eq_none (show (wipe σ3 vs).length ≤ i by rw [wipe_length, p.len, wipe_length]; omega), List.getElem?_eq_none (show (wipe σ vs).length ≤ i by rw [wipe_length]; omega)]
  · rw [wipe_out z, p.same i fun h => z (hw i h)]
theorem PutOk.wide {K : PySem.W.Frag} {I H : Hp} {σ σ3 : L2.St} {ρ ρ3 : List Sl} {vs ws : List Nat} (p : PutOk K I H σ σ3 ρ ρ3 ws) (hw : ∀ i ∈ ws, i ∈ vs) : PutOk K I H σ σ3 ρ ρ3 vs :=
  ⟨p.env, p.mt, fun j h => p.same j fun z => h (hw j z), fun j h => p.sameR j fun z => h (hw j z), p.len⟩

/-- a clause's tests -/
def SM (m : Bool) (X : Cx) (ifs : List Expr) (ρ : List Sl) (Q : Bool → List Sl → Prop) : Prop :=
  match ifs with
  | [] => Q true ρ
  | [c] => TM m X c ρ W0 Q
  | _ => False
theorem sm_run {X : Cx} {m : Bool} {ifs : List Expr} {ρ : List Sl} {Q : Bool → List Sl → Prop} {σ : L2.St} {I H : Hp} (h : SM m X ifs ρ Q) (ok : EnvOk X.K I H σ ρ) {R : Bool → Hp → Prop} (f : ∀ b ρ' I' H', Go m X.K σ ρ I H ρ' I' H' → Q b ρ' → R b H') : wTs X ifs σ H R := by
  match ifs, h with
  | [], h => exact ⟨_, pts_nil, f true ρ I H (Go.refl ok) h⟩
  | [c], h => exact ⟨_, pts_one pt_w, (show TM m X c ρ W0 Q from h) σ I H ok XOk.zero R f⟩
end Tt

namespace Tt
open PySem PySem.Spec PyProof.Rows L2

/-! ### list comprehensions -/
abbrev bk (X : Cx) (scope : Scope) (s : Shared) (H0 : Hp) (C : Addr) (cl : List (Str × Addr)) (fp : List Addr) : Cx := X.blk s H0 scope (compEnvC scope cl C X.env) fp
def wEb (X : Cx) (scope : Scope) (e : Expr) : TE := fun σ H Q => ∀ s H0 C cl fp, wE (bk X scope s H0 C cl fp) e σ H Q
theorem pe_wb {X : Cx} {scope : Scope} {e : Expr} (s : Shared) (H0 : Hp) (C : Addr) (cl : List (Str × Addr)) (fp : List Addr) : PE (bk X scope s H0 C cl fp) e (wEb X scope e) :=
  ⟨fun pins s1 σ H Q I h => by
    obtain ⟨t, ht, q⟩ := h s H0 C cl fp
    exact ht.run pins s1 σ H Q I q⟩
def wTsb (X : Cx) (scope : Scope) (es : List Expr) : TT := fun σ H Q => ∀ s H0 C cl fp, wTs (bk X scope s H0 C cl fp) es σ H Q
theorem pts_wb {X : Cx} {scope : Scope} {es : List Expr} (s : Shared) (H0 : Hp) (C : Addr) (cl : List (Str × Addr)) (fp : List Addr) : PTs (bk X scope s H0 C cl fp) es (wTsb X scope es) :=
  ⟨fun pins s1 σ H Q I h => by
    obtain ⟨t, ht, q⟩ := h s H0 C cl fp
    exact ht.run pins s1 σ H Q I q⟩
/-- in every block -/
def InB (X : Cx) (scope : Scope) (f : Cx → Prop) : Prop := ∀ s H0 C cl fp, f (bk X scope s H0 C cl fp)
/-- one turn of a comprehension -/
def TurnD (m : Bool) (X : Cx) (elt : Expr) (ifs : List Expr) (scope : Scope) (t : Tg) (vs : List Nat) (d : D) (ys : List D) (ρ2 : List Sl) (Pn : List D → List Sl → Prop) : Prop :=
  ∃ ρ3, Tg.put t d (wipeS ρ2 vs) = some ρ3 ∧ InB X scope fun Y => SM m Y ifs ρ3 fun b ρ4 => (b = true → InB X scope fun Z => EM m Z elt ρ4 W0 fun _ y ρ5 => nd y = true ∧ ys.length < sizeLine ∧ Pn (ys ++ [y]) (backS vs ρ2 ρ5)) ∧ (b = false → Pn ys (backS vs ρ2 ρ4))
def HLc (m : Bool) (X : Cx) (elt tg iter : Expr) (ifs : List Expr) (scope : Scope) (t : Tg) (vs : List Nat) (ρ : List Sl) (W : Wx) (Q : List D → List Sl → Prop) : Prop :=
  IM m X tg iter ρ W fun its ρ1 => ∃ P : Nat → List D → List Sl → Prop, P 0 [] ρ1 ∧ (∀ i d ys ρ2, its[i]? = some d → P i ys ρ2 → TurnD m X elt ifs scope t vs d ys ρ2 (P (i + 1))) ∧ ∀ ys ρ2, P its.length ys ρ2 → Q ys ρ2

section
variable {X : Cx} {m : Bool} {ρ : List Sl} {W : Wx} {elt tg iter : Expr} {ifs : List Expr} {scope : Scope} {pos : Pos} {Q : Bool → D → List Sl → Prop}
theorem lc_data {t : Tg} {own : List (Str × Nat)} {QL : List D → List Sl → Prop} (ht : ∀ i ∈ Tg.slots t, i ∈ own.map (·.2)) (h : HLc m X elt tg iter ifs scope t (own.map (·.2)) ρ W QL) {σ : L2.St} {I H : Hp} (ok : EnvOk X.K I H σ ρ) (xk : XOk X W H ρ) {R : VK}
    (f : ∀ v ds ρ' I' H', Go m X.K σ ρ I H ρ' I' H' → RsOk X.K H I' H' v true (.list ds) → QL ds ρ' → R v H') : tLc (wI X tg iter) (Tg.g X.K t) (wTsb X scope ifs) (wEb X scope elt) (own.map (·.2)) σ H R := by
  refine h σ I H ok xk _ fun J its ρ1 I1 H1 g1 w ⟨P, p0, ps, pd⟩ D nD => ?_
  have ok1 := g1.env ok
  have nI1 : I1 D = none := ok1.sub.nn nD
  refine lc_it w.w (fun i H' => ∃ ρ2 I2 ys acc, Go m X.K σ ρ1 I1 H1 ρ2 I2 H' ∧ I2 D = none ∧ H' D = some (.lst acc) ∧ DqAll I2 acc ys ∧ P i ys ρ2)
    ⟨ρ1, I1, [], [], (Go.refl ok1).dark ok1 nD nI1, nI1, upd_same, .nil, p0⟩ (fun i H' _ ⟨ρ2, I2, ys, acc, g, _⟩ => (g.env ok1).sub.same g.ii) (fun i x H' H'' hi ⟨ρ2, I2, ys, acc, g, nd2, hD, ha, pi⟩ y => ?_) fun H' ⟨ρ2, I2, ys, acc, g, nd2, hD, ha, pn⟩ => ?_
  · obtain ⟨d, hd, y⟩ := y
    have ok2 := g.env ok1
    obtain ⟨I3, g3, r3⟩ := y I2 g.ii ok2.sub
    obtain ⟨ρ3, e3, body⟩ := ps i d ys ρ2 hd pi
    have ok3 := ok2.grow g3
    obtain ⟨σ3, p3, q3⟩ := Tg.run t (EnvOk.wiped (vs := own.map (·.2)) ok3) r3 e3
    have gg := g.grow ok1 g3
    have hD3 : H'' D = some (.lst acc) := g3.hh D _ hD
    have nd3 : I3 D = none := g3.fr D _ hD nd2
    have nm : ¬ Mt ρ3 D := fun z => by
      obtain ⟨j, hj⟩ := p3.mt D z
      obtain ⟨o, e⟩ := ok1.there (g.mt D ⟨j, (ft_wipe hj).1⟩)
      rw [nD] at e
      cases e
    have pw := p3.wide ht
    refine q3 _ ⟨wipe_put p3 ht, fun s0 H0 C cl fp => ?_⟩
    refine sm_run (body s0 H0 C cl fp) p3.env fun b ρ4 I4 H4 g4 ⟨q1, q2⟩ => ?_
    have hD4 : H4 D = some (.lst acc) := g4.step.oth D _ hD3 nm
    have nd4 : I4 D = none := g4.step.fr D _ hD3 nd3 nm
    cases b with
    | false =>
      refine iteF ⟨backS (own.map (·.2)) ρ2 ρ4, I4, ys, acc, gg.trans (Go.back ok3 pw g4), nd4, hD4, DqAll.same (g3.ii.trans g4.ii) ha, q2 rfl⟩
    | true =>
      refine iteT fun s1 H1' C1 cl1 fp1 => ?_
      refine EM.run (q1 rfl s1 H1' C1 cl1 fp1) (g4.env p3.env) XOk.zero fun v o y ρ5 I5 H5 g5 r5 ⟨ny, ly, pp⟩ => ?_
      have g45 := g4.trans g5
      have nm4 : ¬ Mt ρ4 D := fun z => nm (g4.mt D z)
      have hD5 : H5 D = some (.lst acc) := g5.step.oth D _ hD4 nm4
      have nd5 : I5 D = none := g5.step.fr D _ hD4 nd4 nm4
      have ha5 := DqAll.same ((g3.ii.trans g4.ii).trans g5.ii) ha
      refine ⟨acc, hD5, by rw [ha5.len]; exact ly, backS (own.map (·.2)) ρ2 ρ5, I5, ys ++ [y], acc ++ [v], (gg.trans (Go.back ok3 pw g45)).dark ok1 nD nd5, nd5, upd_same, DqAll.app ha5 (.cons (r5.dp ny) .nil), pp⟩
  · exact f _ ys ρ2 I2 H' (g1.trans g) ⟨D, acc, ys, rfl, rfl, g1.nn D nD, nd2, hD, ha⟩ (pd ys ρ2 pn)
theorem em_lc (t : Tg) (own : List (Str × Nat)) (hc : X.calm = true) (hN : X.N.Nodup) (ok : BlkOk X.N X.env.scope scope own) (hg : InB X scope fun Y => PG Y tg (Tg.g X.K t)) (ht : ∀ i ∈ Tg.slots t, i ∈ own.map (·.2))
    (h : HLc m X elt tg iter ifs scope t (own.map (·.2)) ρ W fun ys ρ' => Q true (.list ys) ρ') (hs : ∀ x, foldedSetIterable iter X.env x = pure x := by intro _; rfl) : EM m X (.ListComp elt [⟨tg, iter, ifs, 0⟩] scope pos) ρ W Q := fun σ I H okk xk R f =>
  ⟨_, pe_lc hc hN pi_w ok (fun s H C cl fp => hg s H C cl fp) pts_wb pe_wb hs, lc_data ht h okk xk fun v ds ρ' I' H' g r q => f v true _ ρ' I' H' g r q⟩
/-- y = [..] -/
theorem s1_setLc (i : Nat) {y : Str} {py spos : Pos} {E : DE} (t : Tg) (own : List (Str × Nat)) (hc : X.calm = true) (hN : X.N.Nodup) (ok : BlkOk X.N X.env.scope scope own) (hg : InB X scope fun Y => PG Y tg (Tg.g X.K t)) (ht : ∀ i ∈ Tg.slots t, i ∈ own.map (·.2))
    (h : HLc false X elt tg iter ifs scope t (own.map (·.2)) ρ W fun ys ρ' => ∀ p, E.nx (ρ'.set i (.mo p (.lst ys)))) (hsw : swapsWith (.ListComp elt [⟨tg, iter, ifs, 0⟩] scope pos) (some (.Name y py)) spos.line X.env = pure true)
    (hy : X.N[i]? = some y := by rfl) (hyl : X.env.scope.names.lookup y = some .local := by rfl) (hs : ∀ x, foldedSetIterable iter X.env x = pure x := by intro _; rfl) : S1 X (.Assign [.Name y py] (.ListComp elt [⟨tg, iter, ifs, 0⟩] scope pos) spos) ρ W E := fun σ I H okk xk T k =>
  ⟨_, ps_setLc hc hN hy hyl hsw pi_w ok (fun s H C cl fp => hg s H C cl fp) pts_wb pe_wb hs, lc_data ht h okk xk fun v ds ρ' I' H' g r q => by
    obtain ⟨p, xs, ds', rfl, e, n, ni, hh, tt⟩ := r
    cases e
    obtain ⟨o, st⟩ := NewOk.put (i := i) (s := .mo p (.lst ds)) ⟨⟨rfl, _, hh, xs, rfl, tt⟩, List.pairwise_singleton _ _, fun a z => by rw [List.mem_singleton.mp z]; exact ⟨n, ni⟩⟩ okk g
    exact k.nx _ _ I' H' o st (q p)⟩
/-- .. told as data -/
theorem s1_setLcD (i : Nat) {y : Str} {py spos : Pos} {E : DE} (t : Tg) (own : List (Str × Nat)) (hc : X.calm = true) (hN : X.N.Nodup) (ok : BlkOk X.N X.env.scope scope own) (hg : InB X scope fun Y => PG Y tg (Tg.g X.K t)) (ht : ∀ i ∈ Tg.slots t, i ∈ own.map (·.2))
    (h : HLc false X elt tg iter ifs scope t (own.map (·.2)) ρ W fun ys ρ' => E.nx (ρ'.set i (.va (.list ys)))) (hsw : swapsWith (.ListComp elt [⟨tg, iter, ifs, 0⟩] scope pos) (some (.Name y py)) spos.line X.env = pure true)
    (hy : X.N[i]? = some y := by rfl) (hyl : X.env.scope.names.lookup y = some .local := by rfl) (hs : ∀ x, foldedSetIterable iter X.env x = pure x := by intro _; rfl) : S1 X (.Assign [.Name y py] (.ListComp elt [⟨tg, iter, ifs, 0⟩] scope pos) spos) ρ W E := fun σ I H okk xk T k =>
  ⟨_, ps_setLc hc hN hy hyl hsw pi_w ok (fun s H C cl fp => hg s H C cl fp) pts_wb pe_wb hs, lc_data ht h okk xk fun v ds ρ' I' H' g r q => by
    obtain ⟨J, g', r'⟩ := r.data g okk
    obtain ⟨o, st⟩ := NewOk.put (i := i) (s := .va (.list ds)) (.of_data r') okk g'
    exact k.nx _ _ J H' o st q⟩

/-! pure elements: a map, behind a filter -/
theorem em_eq {e : Expr} (h : EM true X e ρ W fun o d ρ' => ρ' = ρ → Q o d ρ') : EM true X e ρ W Q := fun σ I H ok xk R f => h σ I H ok xk R fun v o d ρ' I' H' g r q => f v o d ρ' I' H' g r (q g.1)
theorem sm_eq {QT : Bool → List Sl → Prop} (h : SM true X ifs ρ fun b ρ' => ρ' = ρ → QT b ρ') : SM true X ifs ρ QT := by
  match ifs, h with
  | [], h => exact h rfl
  | [c], h =>
    intro σ I H ok xk R f
    exact (show TM true X c ρ W0 _ from h) σ I H ok xk R fun b ρ' I' H' g q => f b ρ' I' H' g (q g.1)
mutual
theorem Tg.putR : ∀ (t : Tg) {d : D} {ρ ρ' : List Sl}, Tg.put t d ρ = some ρ' → ρ'.length = ρ.length ∧ ∀ j, j ∉ Tg.slots t → ρ'[j]? = ρ[j]?
  | .nm i, d, ρ, ρ', e => by
    simp only [Tg.put] at e
    cases e
    refine ⟨List.length_set, fun j h => List.getElem?_set_ne fun z => h ?_⟩
    subst z
    unfold Tg.slots
    exact List.mem_singleton.mpr rfl
  | .tp ts, .tuple ds, ρ, ρ', e => by
    simp only [Tg.put] at e
    unfold Tg.slots
    exact Tg.putRs ts e
  | .tp _, .none, _, _, e => by simp [Tg.put] at e
  | .tp _, .bool _, _, _, e => by simp [Tg.put] at e
  | .tp _, .int _, _, _, e => by simp [Tg.put] at e
  | .tp _, .str _, _, _, e => by simp [Tg.put] at e
  | .tp _, .list _, _, _, e => by simp [Tg.put] at e
  | .tp _, .dict _, _, _, e => by simp [Tg.put] at e
theorem Tg.putRs : ∀ (ts : List Tg) {ds : List D} {ρ ρ' : List Sl}, Tg.puts ts ds ρ = some ρ' → ρ'.length = ρ.length ∧ ∀ j, j ∉ Tg.slotss ts → ρ'[j]? = ρ[j]?
  | [], [], ρ, ρ', e => by
    simp only [Tg.puts] at e
    cases e
    exact ⟨rfl, fun _ _ => rfl⟩
  | [], _ :: _, _, _, e => by simp [Tg.puts] at e
  | _ :: _, [], _, _, e => by simp [Tg.puts] at e
  | t :: ts, d :: ds, ρ, ρ', e => by
    simp only [Tg.puts] at e
    split at e
    · rename_i ρ1 e1
      obtain ⟨l1, h1⟩ := Tg.putR t e1
      obtain ⟨l2, h2⟩ := Tg.putRs ts e
      refine ⟨l2.trans l1, fun j h => ?_⟩
      unfold Tg.slotss at h
      exact (h2 j fun z => h (List.mem_append_right _ z)).trans (h1 j fun z => h (List.mem_append_left _ z))
    · cases e
end
theorem backS_put {t : Tg} {d : D} {ρ3 : List Sl} {vs : List Nat} (e : Tg.put t d (wipeS ρ vs) = some ρ3) (ht : ∀ i ∈ Tg.slots t, i ∈ vs) : backS vs ρ ρ3 = ρ := by
  obtain ⟨l, h⟩ := Tg.putR t e
  rw [wipeS_len] at l
  refine List.ext_getElem? fun i => ?_
  by_cases z : i ∈ vs
  · exact backS_in z
  · rw [backS_out z l, h i fun q => z (ht i q), wipeS_out z]
/-- [elt for tg in iter if ..] with pure parts: the items are xs told by enc, p the test, g the element -/
def HFm (X : Cx) (elt tg iter : Expr) (ifs : List Expr) (scope : Scope) (t : Tg) (vs : List Nat) (ρ : List Sl) (W : Wx) (Q : List D → Prop) : Prop :=
  IM true X tg iter ρ W fun its _ => its.length ≤ sizeLine ∧ ∃ (α : Type) (xs : List α) (enc : α → D) (p : α → Bool) (g : α → D), its = xs.map enc ∧ (∀ a ∈ xs, ∃ ρ3, Tg.put t (enc a) (wipeS ρ vs) = some ρ3 ∧ InB X scope fun Y => SM true Y ifs ρ3 (fun b _ => b = p a) ∧ (p a = true → EM true Y elt ρ3 W0 fun _ y _ => nd y = true ∧ y = g a)) ∧ Q ((xs.filter p).map g)
theorem hlc_of {t : Tg} {vs : List Nat} {QL : List D → List Sl → Prop} (ht : ∀ i ∈ Tg.slots t, i ∈ vs) (h : HFm X elt tg iter ifs scope t vs ρ W fun ys => QL ys ρ) : HLc true X elt tg iter ifs scope t vs ρ W QL := by
  intro σ I H ok xk R f
  refine h σ I H ok xk R fun J its ρ1 I1 H1 g1 w ⟨hz, α, xs, enc, p, g, es, turn, q⟩ => f J its ρ1 I1 H1 g1 w ?_
  obtain rfl : ρ1 = ρ := g1.1
  subst es
  rw [List.length_map] at hz
  refine ⟨fun i ys ρ2 => ρ2 = ρ1 ∧ i ≤ xs.length ∧ ys = ((xs.take i).filter p).map g, ⟨rfl, Nat.zero_le _, rfl⟩, fun i d ys ρ2 hd ⟨e1, hi, e2⟩ => ?_, fun ys ρ2 ⟨e1, _, e2⟩ => ?_⟩
  · subst e1 e2
    rw [List.getElem?_map] at hd
    obtain ⟨x, hx, ed⟩ := Option.map_eq_some_iff.mp hd
    subst ed
    have hl : i < xs.length := (List.getElem?_eq_some_iff.mp hx).1
    obtain ⟨ρ3, e3, body⟩ := turn x (List.mem_of_getElem? hx)
    have tk : xs.take (i + 1) = xs.take i ++ [x] := by rw [List.take_add_one, hx]; rfl
    have ly : (((xs.take i).filter p).map g).length < sizeLine := by
      rw [List.length_map]
      refine Nat.lt_of_le_of_lt (List.length_filter_le _ _) ?_
      rw [List.length_take]
      omega
    refine ⟨ρ3, e3, fun s H0 C cl fp => sm_eq ?_⟩
    have b1 := (body s H0 C cl fp).1
    have go : ∀ b ρ4, b = p x → ρ4 = ρ3 → (b = true → InB X scope fun Z => EM true Z elt ρ4 W0 fun _ y ρ5 => nd y = true ∧ (((xs.take i).filter p).map g).length < sizeLine ∧ (backS vs ρ2 ρ5 = ρ2 ∧ i + 1 ≤ xs.length ∧ ((xs.take i).filter p).map g ++ [y] = ((xs.take (i + 1)).filter p).map g)) ∧
        (b = false → (backS vs ρ2 ρ4 = ρ2 ∧ i + 1 ≤ xs.length ∧ ((xs.take i).filter p).map g = ((xs.take (i + 1)).filter p).map g)) := by
      rintro b ρ4 rfl rfl
      refine ⟨fun hp s1 H1 C1 cl1 fp1 => em_eq (em_mono ((body s1 H1 C1 cl1 fp1).2 hp) fun o y ρ5 ⟨ny, ey⟩ e5 => ⟨ny, ly, by rw [e5]; exact backS_put e3 ht, hl, ?_⟩), fun hp => ⟨backS_put e3 ht, hl, ?_⟩⟩
      · rw [tk, List.filter_append, List.map_append, List.filter_cons_of_pos hp, ey]
        rfl
      · rw [tk, List.filter_append, List.map_append, List.filter_cons_of_neg (by rw [hp]; exact Bool.false_ne_true)]
        simp
    match ifs, b1 with
    | [], b1 => exact fun _ => go true ρ3 b1 rfl
    | [c], b1 => exact tm_mono (show TM true _ c ρ3 W0 _ from b1) fun b ρ4 eb e4 => go b ρ4 eb e4
  · subst e1 e2
    rw [List.length_map, List.take_length]
    exact q
/-- .. without a test -/
theorem HFm.map {α : Type} {t : Tg} {vs : List Nat} {Q : List D → Prop} (enc g : α → D)
    (h : IM true X tg iter ρ W fun its _ => ∃ xs : List α, its = xs.map enc ∧ xs.length ≤ sizeLine ∧ (∀ a ∈ xs, ∃ ρ3, Tg.put t (enc a) (wipeS ρ vs) = some ρ3 ∧ InB X scope fun Y => EM true Y elt ρ3 W0 fun _ y _ => nd y = true ∧ y = g a) ∧ Q (xs.map g)) : HFm X elt tg iter [] scope t vs ρ W Q := by
  intro σ I H ok xk R f
  refine h σ I H ok xk R fun J its ρ1 I1 H1 g1 w ⟨xs, e, hz, turn, q⟩ => f J its ρ1 I1 H1 g1 w ⟨by rw [e, List.length_map]; exact hz, α, xs, enc, fun _ => true, g, e, fun a ha => ?_, ?_⟩
  · obtain ⟨ρ3, e3, b⟩ := turn a ha
    exact ⟨ρ3, e3, fun s H0 C cl fp => ⟨rfl, fun _ => b s H0 C cl fp⟩⟩
  · have ef : xs.filter (fun _ => true) = xs := List.filter_eq_self.mpr fun _ _ => rfl
    rw [ef]
    exact q
/-- .. with a test -/
theorem HFm.filter {α : Type} {t : Tg} {vs : List Nat} {Q : List D → Prop} {c : Expr} (enc : α → D) (p : α → Bool) (g : α → D)
    (h : IM true X tg iter ρ W fun its _ => ∃ xs : List α, its = xs.map enc ∧ xs.length ≤ sizeLine ∧ (∀ a ∈ xs, ∃ ρ3, Tg.put t (enc a) (wipeS ρ vs) = some ρ3 ∧ InB X scope fun Y => TM true Y c ρ3 W0 (fun b _ => b = p a) ∧ (p a = true → EM true Y elt ρ3 W0 fun _ y _ => nd y = true ∧ y = g a)) ∧ Q ((xs.filter p).map g)) : HFm X elt tg iter [c] scope t vs ρ W Q := by
  intro σ I H ok xk R f
  exact h σ I H ok xk R fun J its ρ1 I1 H1 g1 w ⟨xs, e, hz, turn, q⟩ => f J its ρ1 I1 H1 g1 w ⟨by rw [e, List.length_map]; exact hz, α, xs, enc, p, g, e, turn, q⟩
theorem im_pure {QI : List D → List Sl → Prop} (h : IM true X tg iter ρ W fun d ρ' => ρ' = ρ → QI d ρ) : IM m X tg iter ρ W QI := fun σ I H ok xk R f => h σ I H ok xk R fun J its ρ' I' H' g w q => by
  obtain rfl : ρ' = ρ := g.1
  exact f J its _ I' H' (g.any ok) w (q rfl)
theorem em_fm (t : Tg) (own : List (Str × Nat)) (hc : X.calm = true) (hN : X.N.Nodup) (ok : BlkOk X.N X.env.scope scope own) (hg : InB X scope fun Y => PG Y tg (Tg.g X.K t)) (ht : ∀ i ∈ Tg.slots t, i ∈ own.map (·.2))
    (h : HFm X elt tg iter ifs scope t (own.map (·.2)) ρ W fun ys => Q true (.list ys) ρ) (hs : ∀ x, foldedSetIterable iter X.env x = pure x := by intro _; rfl) : EM m X (.ListComp elt [⟨tg, iter, ifs, 0⟩] scope pos) ρ W Q :=
  em_pure (em_lc t own hc hN ok hg ht (hlc_of (QL := fun ys ρ' => ρ' = ρ → Q true (.list ys) ρ) ht (by
    intro σ I H ok xk R f
    exact h σ I H ok xk R fun J its ρ1 I1 H1 g1 w ⟨hz, α, xs, enc, p, g, e, turn, q⟩ => f J its ρ1 I1 H1 g1 w ⟨hz, α, xs, enc, p, g, e, turn, fun _ => q⟩)) hs)
theorem s1_setFm (i : Nat) {y : Str} {py spos : Pos} {E : DE} (t : Tg) (own : List (Str × Nat)) (hc : X.calm = true) (hN : X.N.Nodup) (ok : BlkOk X.N X.env.scope scope own) (hg : InB X scope fun Y => PG Y tg (Tg.g X.K t)) (ht : ∀ i ∈ Tg.slots t, i ∈ own.map (·.2))
    (h : HFm X elt tg iter ifs scope t (own.map (·.2)) ρ W fun ys => ∀ p, E.nx (ρ.set i (.mo p (.lst ys)))) (hsw : swapsWith (.ListComp elt [⟨tg, iter, ifs, 0⟩] scope pos) (some (.Name y py)) spos.line X.env = pure true := by rfl)
    (hy : X.N[i]? = some y := by rfl) (hyl : X.env.scope.names.lookup y = some .local := by rfl) (hs : ∀ x, foldedSetIterable iter X.env x = pure x := by intro _; rfl) : S1 X (.Assign [.Name y py] (.ListComp elt [⟨tg, iter, ifs, 0⟩] scope pos) spos) ρ W E := fun σ I H okk xk T k =>
  ⟨_, ps_setLc hc hN hy hyl hsw pi_w ok (fun s H C cl fp => hg s H C cl fp) pts_wb pe_wb hs, lc_data ht (hlc_of (QL := fun ys ρ' => ρ' = ρ → ∀ p, E.nx (ρ.set i (.mo p (.lst ys)))) ht (by
    intro σ I H ok xk R f
    exact h σ I H ok xk R fun J its ρ1 I1 H1 g1 w ⟨hz, α, xs, enc, p, g, e, turn, q⟩ => f J its ρ1 I1 H1 g1 w ⟨hz, α, xs, enc, p, g, e, turn, fun _ => q⟩)) okk xk fun v ds ρ' I' H' g r q => by
    obtain ⟨p, xs, ds', rfl, e, n, ni, hh, tt⟩ := r
    cases e
    have e0 : ρ' = ρ := g.1
    subst e0
    obtain ⟨o, st⟩ := NewOk.put (i := i) (s := .mo p (.lst ds)) ⟨⟨rfl, _, hh, xs, rfl, tt⟩, List.pairwise_singleton _ _, fun a z => by rw [List.mem_singleton.mp z]; exact ⟨n, ni⟩⟩ okk g
    exact k.nx _ _ I' H' o st (q rfl p)⟩
end
end Tt

namespace Tt
open PySem PySem.Spec PyProof.Rows L2

/-! ### what a def is worth, told of data -/
abbrev DSp := List Sl → (Bool → D → List Sl → Prop) → Wx → Prop
def toSp (K : PySem.W.Frag) (ds : DSp) : Sp := fun vs H Q E => ∃ ss I P W, EnvOk K I H (vs.map some) ss ∧ ds ss P W ∧
  (∀ v o d ss' I' H', EnvOk K I' H' (vs.map some) ss' → Step I H (Mt ss) I' H' (Mt ss') → (∀ a, Mt ss' a → Mt ss a) → RsOk K H I' H' v o d → P o d ss' → Q v H') ∧
  ((∀ c, ¬ W c) ∨ ((∀ a, ¬ Mt ss a) ∧ ∀ cls H', Same H H' → W cls → E cls none H'))
/-- the def x of the module keeps sp -/
def Cal (P : Program) (w : World) (K : PySem.W.Frag) (mg : Str → Option Value) (base : Heap) (x : Str) (k : Nat) (ps : List Str) (sp : DSp) : Prop :=
  ∃ f fd, FnOk P w K mg base (L2N.CX P w) k f fd ps (toSp K sp) ∧ mg x = some (.ref f) ∧ PySem.W.keepIn K (.ref f) = true ∧ Binds K fd ps []
theorem Cal.mono {P : Program} {w : World} {K : PySem.W.Frag} {mg : Str → Option Value} {base : Heap} {x : Str} {j k : Nat} {ps : List Str} {sp : DSp} (c : Cal P w K mg base x j ps sp) (h : j ≤ k) : Cal P w K mg base x k ps sp := by
  obtain ⟨f, fd, F, r⟩ := c
  exact ⟨f, fd, F.mono h, r⟩
theorem Cal.imp {P : Program} {w : World} {K : PySem.W.Frag} {mg : Str → Option Value} {base : Heap} {x : Str} {k : Nat} {ps : List Str} {sp sp' : DSp} (c : Cal P w K mg base x k ps sp) (h : ∀ ss Q W, sp' ss Q W → sp ss Q W) : Cal P w K mg base x k ps sp' := by
  obtain ⟨f, fd, F, r⟩ := c
  exact ⟨f, fd, F.imp fun vs H Q E ⟨ss, I, P', W, a, b, c, d⟩ => ⟨ss, I, P', W, a, h _ _ _ b, c, d⟩, r⟩

/-- no mutable arguments -/
theorem mt_va {ds : List D} {a : Addr} : ¬ Mt (ds.map Sl.va) a := fun ⟨i, h⟩ => by
  unfold ft at h
  rw [List.getElem?_map] at h
  cases e : ds[i]? with
  | none => rw [e] at h; cases h
  | some d => rw [e] at h; cases h
theorem envOk_va {K : PySem.W.Frag} {I H : Hp} (s : Sub I H) : ∀ {vs : List V} {ds : List D}, Paired (Rv K I) vs ds → EnvOk K I H (vs.map some) (ds.map Sl.va) := fun {vs ds} h => by
  refine ⟨by rw [List.length_map, List.length_map, paired_len h], fun i s e => ?_, fun i => ?_, fun i j a h1 _ => absurd ⟨i, h1⟩ mt_va, fun i a h1 => absurd ⟨i, h1⟩ mt_va, s⟩
  · induction h generalizing i with
    | nil => simp at e
    | cons h t ih =>
      cases i with
      | zero =>
        simp at e
        subst e
        exact h
      | succ i => exact ih i (by simpa using e)
  · have : ft (ds.map Sl.va) i = [] := by
      cases q : ft (ds.map Sl.va) i with
      | nil => rfl
      | cons a r => exact absurd ⟨i, by rw [q]; exact List.mem_cons_self⟩ (mt_va (ds := ds) (a := a))
    rw [this]
    exact List.nodup_nil
section
variable {X : Cx} {m : Bool} {ρ ρ1 : List Sl} {W : Wx} {a b c e : Expr} {es : List Expr} {pos p : Pos} {σ : L2.St} {I H I1 H1 : Hp} {E : DE} {Q : Bool → D → List Sl → Prop} {k : Nat} {ps : List Str} {sp : DSp} {x : Str}
theorem em_call (F : Cal X.prog X.w X.K X.mg X.base x k ps sp) (hr : Room k X.A) (h : AM m X (e :: es) ρ W fun ds ρ1 => ∃ W', (∀ c, W' c → W c) ∧ sp (ds.map Sl.va) (fun o d _ => Q o d ρ1) W') (hg : Gl X x := by rfl) (hdb : (x == ("__debug__" : Str)) = false := by decide)
    (he : starEach (e :: es) X.env = (false, eval e X.env) :: starEach es X.env := by rfl) (hpl : (backTo pos (starEach es X.env)).any (·.1) = false := by rfl) : EM m X (.Call (.Name x p) (e :: es) [] pos) ρ W Q := fun σ I H ok xk R f => by
  obtain ⟨fa, fd, F, hm, hk, hb⟩ := F
  obtain ⟨H0, thr, s0, k0⟩ := xk.ex
  refine ⟨_, pe_call F hr hg hm hk hb .nil (E := fun cls d H' => W cls ∧ d = none ∧ Same H0 H') (L2N.passes_call thr fun cls d _ H' h => h) pa_w hdb he hpl, ?_⟩
  refine h σ I H ok xk _ fun vs ds ρ1 I1 H1 g1 r1 ⟨W', hW, q1⟩ => ?_
  have ok1 := g1.env ok
  rw [List.append_nil]
  obtain ⟨H0', thr', s0', k0'⟩ := (xk.step g1.step).ex
  have s01 : Same H0 H1 := fun a o e => g1.step.oth a o (s0 a o e) fun z => by rw [k0 a z] at e; cases e
  refine ⟨ds.map Sl.va, I1, _, W', envOk_va ok1.sub r1, q1, fun v o d ss' I' H' ok' st mt r q => ?_, .inr ⟨fun _ => mt_va, fun cls H' s wc => ⟨hW cls wc, rfl, s01.trans s⟩⟩⟩
  have gr : Grow I1 H1 I' H' := st.grow (fun _ => mt_va) ok'.sub
  exact f v o d ρ1 I' H' (g1.grow ok gr) (r.back g1.nn) q
theorem em_call0 (F : Cal X.prog X.w X.K X.mg X.base x k ps sp) (hr : Room k X.A) (h : ∃ W', (∀ c, W' c → W c) ∧ sp [] (fun o d _ => Q o d ρ) W') (hg : Gl X x := by rfl) (hdb : (x == ("__debug__" : Str)) = false := by decide) : EM m X (.Call (.Name x p) [] [] pos) ρ W Q := fun σ I H ok xk R f => by
  obtain ⟨fa, fd, F, hm, hk, hb⟩ := F
  obtain ⟨H0, thr, s0, k0⟩ := xk.ex
  refine ⟨_, pe_call0 F hr hg hm hk hb .nil (E := fun cls d H' => W cls ∧ d = none ∧ Same H0 H') (L2N.passes_call thr fun cls d _ H' h => h) hdb, ?_⟩
  obtain ⟨W', hW, q1⟩ := h
  refine ⟨[], I, _, W', envOk_va (ds := []) ok.sub .nil, q1, fun v o d ss' I' H' ok' st mt r q => ?_, .inr ⟨fun _ => mt_va (ds := []), fun cls H' s wc => ⟨hW cls wc, rfl, s0.trans s⟩⟩⟩
  have gr : Grow I H I' H' := st.grow (fun _ => mt_va (ds := [])) ok'.sub
  exact f v o d ρ I' H' (Go.of ok gr) r q

/-! calls that change what is handed in -/
abbrev Arg := Sum D Nat
def ArgR (K : PySem.W.Frag) (I : Hp) (σ : L2.St) (v : V) : Arg → Prop
  | .inl d => Rv K I v d
  | .inr i => σ[i]? = some (some v)
def argSl (ρ : List Sl) : Arg → Sl
  | .inl d => .va d
  | .inr i => ρ.getD i .no
def slotsOf : List Arg → List Nat
  | [] => []
  | .inl _ :: r => slotsOf r
  | .inr i :: r => i :: slotsOf r
def lookS : List Arg → List Sl → Nat → Option Sl
  | .inr i :: as, s :: ss, k => if i = k then some s else lookS as ss k
  | .inl _ :: as, _ :: ss, k => lookS as ss k
  | _, _, _ => none
def putB (as : List Arg) (ss : List Sl) (ρ : List Sl) : List Sl := (List.range ρ.length).map fun k => match lookS as ss k with
  | some s => s
  | none => ρ.getD k .no
def ZM (X : Cx) (es : List Expr) (ρ : List Sl) (W : Wx) (Q : List Arg → List Sl → Prop) : Prop :=
  ∀ σ I H, EnvOk X.K I H σ ρ → XOk X W H ρ → ∀ R : List V → Hp → Prop, (∀ vs as ρ' I' H', Go false X.K σ ρ I H ρ' I' H' → Paired (ArgR X.K I' σ) vs as → Q as ρ' → R vs H') → wA X es σ H R
theorem argR_same {K : PySem.W.Frag} {I J : Hp} {σ : L2.St} (e : Same I J) {v : V} : ∀ {a : Arg}, ArgR K I σ v a → ArgR K J σ v a
  | .inl _, h => Rv.same e h
  | .inr _, h => h
theorem zm_nil {QZ : List Arg → List Sl → Prop} (q : QZ [] ρ) : ZM X [] ρ W QZ := fun σ I H ok xk R f => ⟨_, pa_nil, f [] [] ρ I H (Go.refl ok) .nil q⟩
theorem zm_d {QZ : List Arg → List Sl → Prop} (h : EM false X e ρ W fun _ d ρ1 => ZM X es ρ1 W fun as ρ2 => QZ (.inl d :: as) ρ2) (hs : starEach (e :: es) X.env = (false, eval e X.env) :: starEach es X.env := by rfl) : ZM X (e :: es) ρ W QZ := fun σ I H ok xk R f =>
  ⟨_, pa_cons pe_w pa_w hs, h.run ok xk fun v _ x ρ1 I1 H1 g1 r1 q1 => q1 σ I1 H1 (g1.env ok) (xk.step g1.step) _ fun vs as ρ2 I2 H2 g2 r2 q2 => f (v :: vs) (.inl x :: as) ρ2 I2 H2 (g1.trans g2) (.cons (r1.same g2.ii) r2) q2⟩
theorem zm_s (i : Nat) {y : Str} {py : Pos} {q : Addr} {mo : MO} {QZ : List Arg → List Sl → Prop} (h0 : ρ[i]? = some (.mo q mo)) (h : ZM X es ρ W fun as ρ2 => QZ (.inr i :: as) ρ2) (hN : X.N[i]? = some y := by rfl) (hv : Vis X.env.scope y := by first | exact Or.inl rfl | exact Or.inr (Or.inl rfl) | exact Or.inr (Or.inr rfl))
    (hd : (y == ("__debug__" : Str)) = false := by decide) (hcd : (y == ("__classdict__" : Str)) = false := by decide) (hs : starEach (.Name y py :: es) X.env = (false, eval (.Name y py) X.env) :: starEach es X.env := by rfl) : ZM X (.Name y py :: es) ρ W QZ := fun σ I H ok xk R f => by
  obtain ⟨v, e, r⟩ := ok.at h0 (fun z => nomatch z)
  exact ⟨_, pa_cons (pe_var hN hv hd hcd) pa_w hs, v, e, h σ I H ok xk _ fun vs as ρ2 I2 H2 g2 r2 q2 => f (v :: vs) (.inr i :: as) ρ2 I2 H2 g2 (.cons e r2) q2⟩
theorem lookS_some : ∀ {as : List Arg} {ss : List Sl} {k : Nat} {s : Sl}, lookS as ss k = some s → ∃ j : Nat, as[j]? = some (Sum.inr k) ∧ ss[j]? = some s
  | [], _, _, _, h => by simp [lookS] at h
  | .inl _ :: _, [], _, _, h => by simp [lookS] at h
  | .inr _ :: _, [], _, _, h => by simp [lookS] at h
  | .inl _ :: as, _ :: ss, k, s, h => by
    simp only [lookS] at h
    obtain ⟨j, h1, h2⟩ := lookS_some h
    exact ⟨j + 1, by simpa using h1, by simpa using h2⟩
  | .inr i :: as, t :: ss, k, s, h => by
    simp only [lookS] at h
    split at h
    · rename_i e
      subst e
      exact ⟨0, rfl, h⟩
    · obtain ⟨j, h1, h2⟩ := lookS_some h
      exact ⟨j + 1, by simpa using h1, by simpa using h2⟩
theorem lookS_none : ∀ {as : List Arg} {ss : List Sl} {k : Nat}, as.length = ss.length → lookS as ss k = none → k ∉ slotsOf as
  | [], _, _, _, _, m => by cases m
  | .inl _ :: _, [], _, l, _, _ => by simp at l
  | .inr _ :: _, [], _, l, _, _ => by simp at l
  | .inl _ :: as, _ :: ss, k, l, h, m => by
    simp only [lookS] at h
    exact lookS_none (by simpa using l) h m
  | .inr i :: as, t :: ss, k, l, h, m => by
    simp only [lookS] at h
    split at h
    · cases h
    · rename_i e
      rcases List.mem_cons.mp m with z | z
      · exact e z.symm
      · exact lookS_none (by simpa using l) h z
theorem slotsOf_mem : ∀ {as : List Arg} {j i : Nat}, as[j]? = some (.inr i) → i ∈ slotsOf as
  | [], _, _, h => by simp at h
  | .inl _ :: _, 0, _, h => by simp at h
  | .inr _ :: _, 0, _, h => by
    simp at h
    subst h
    exact List.mem_cons_self
  | .inl _ :: as, j + 1, i, h => slotsOf_mem (as := as) (j := j) (by simpa using h)
  | .inr _ :: as, j + 1, i, h => List.mem_cons_of_mem _ (slotsOf_mem (as := as) (j := j) (by simpa using h))
theorem slotsOf_inj : ∀ {as : List Arg} {j1 j2 i : Nat}, (slotsOf as).Nodup → as[j1]? = some (.inr i) → as[j2]? = some (.inr i) → j1 = j2
  | [], _, _, _, _, h, _ => by simp at h
  | .inl _ :: _, 0, _, _, _, h, _ => by simp at h
  | .inl _ :: _, _, 0, _, _, _, h => by simp at h
  | .inl _ :: as, j1 + 1, j2 + 1, i, nd, h1, h2 => by rw [slotsOf_inj (as := as) (j1 := j1) (j2 := j2) nd (by simpa using h1) (by simpa using h2)]
  | .inr _ :: _, 0, 0, _, _, _, _ => rfl
  | .inr _ :: as, 0, j2 + 1, i, nd, h1, h2 => by
    simp at h1
    subst h1
    exact absurd (slotsOf_mem (as := as) (j := j2) (by simpa using h2)) (List.nodup_cons.mp nd).1
  | .inr _ :: as, j1 + 1, 0, i, nd, h1, h2 => by
    simp at h2
    subst h2
    exact absurd (slotsOf_mem (as := as) (j := j1) (by simpa using h1)) (List.nodup_cons.mp nd).1
  | .inr _ :: as, j1 + 1, j2 + 1, i, nd, h1, h2 => by rw [slotsOf_inj (as := as) (j1 := j1) (j2 := j2) (List.nodup_cons.mp nd).2 (by simpa using h1) (by simpa using h2)]
theorem paired_at {α β : Type} {P : α → β → Prop} : ∀ {as : List α} {bs : List β} {i : Nat} {b : β}, Paired P as bs → bs[i]? = some b → ∃ a, as[i]? = some a ∧ P a b
  | _, _, _, _, .nil, e => by simp at e
  | _, _, 0, _, .cons h _, e => by simp at e; subst e; exact ⟨_, rfl, h⟩
  | _, _, i + 1, b, .cons _ t, e => by
    obtain ⟨a, h1, h2⟩ := paired_at (i := i) (b := b) t (by simpa using e)
    exact ⟨a, by simpa using h1, h2⟩
theorem paired_at' {α β : Type} {P : α → β → Prop} : ∀ {as : List α} {bs : List β} {i : Nat} {a : α}, Paired P as bs → as[i]? = some a → ∃ b, bs[i]? = some b ∧ P a b
  | _, _, _, _, .nil, e => by simp at e
  | _, _, 0, _, .cons h _, e => by simp at e; subst e; exact ⟨_, rfl, h⟩
  | _, _, i + 1, a, .cons _ t, e => by
    obtain ⟨b, h1, h2⟩ := paired_at' (i := i) (a := a) t (by simpa using e)
    exact ⟨b, by simpa using h1, h2⟩
/-- the slots handed in are told apart, each of an object -/
def GoodArgs (ρ : List Sl) (as : List Arg) : Prop := (slotsOf as).Nodup ∧ ∀ i ∈ slotsOf as, ∃ q mo, ρ[i]? = some (.mo q mo)
theorem args_ft {as : List Arg} {j : Nat} {a : Addr} (h : a ∈ ft (as.map (argSl ρ)) j) : ∃ i, as[j]? = some (.inr i) ∧ a ∈ ft ρ i := by
  unfold ft at h
  rw [List.getElem?_map] at h
  cases e : as[j]? with
  | none => rw [e] at h; cases h
  | some x =>
    rw [e] at h
    cases x with
    | inl d => cases h
    | inr i =>
      refine ⟨i, rfl, ?_⟩
      have h : a ∈ foot (ρ.getD i .no) := h
      unfold ft
      rw [List.getD_eq_getElem?_getD] at h
      cases e2 : ρ[i]? with
      | none => rw [e2] at h; cases h
      | some s => rw [e2] at h; exact h
theorem args_env {K : PySem.W.Frag} {vs : List V} {as : List Arg} (ok : EnvOk K I H σ ρ) (r : Paired (ArgR K I σ) vs as) (g : GoodArgs ρ as) : EnvOk K I H (vs.map some) (as.map (argSl ρ)) := by
  refine ⟨by rw [List.length_map, List.length_map, paired_len r], fun j s e => ?_, fun j => ?_, fun j1 j2 a h1 h2 => ?_, fun j a h => ?_, ok.sub⟩
  · rw [List.getElem?_map] at e
    cases e1 : as[j]? with
    | none => rw [e1] at e; cases e
    | some x =>
      rw [e1] at e
      cases e
      obtain ⟨v, hv, rv⟩ := paired_at r e1
      rw [List.getElem?_map, hv]
      cases x with
      | inl d => exact rv
      | inr i =>
        obtain ⟨q, mo, e2⟩ := g.2 i (slotsOf_mem e1)
        have k := ok.ok i _ e2
        rw [show σ[i]? = some (some v) from rv] at k
        show SlOk K I H (some v) (ρ.getD i .no)
        rw [getD_some e2]
        exact k
  · cases q : ft (as.map (argSl ρ)) j with
    | nil => exact List.nodup_nil
    | cons a r =>
      obtain ⟨i, e1, h1⟩ := args_ft (ρ := ρ) (as := as) (j := j) (a := a) (by rw [q]; exact List.mem_cons_self)
      obtain ⟨q2, mo, e2⟩ := g.2 i (slotsOf_mem e1)
      have : ft (as.map (argSl ρ)) j = [q2] := by
        unfold ft
        rw [List.getElem?_map, e1]
        show foot (ρ.getD i .no) = [q2]
        rw [getD_some e2]
        rfl
      rw [← q, this]
      exact List.pairwise_singleton _ _
  · obtain ⟨i1, e1, k1⟩ := args_ft h1
    obtain ⟨i2, e2, k2⟩ := args_ft h2
    have z := ok.dj i1 i2 a k1 k2
    subst z
    exact slotsOf_inj g.1 e1 e2
  · obtain ⟨i, _, k⟩ := args_ft h
    exact ok.out i a k
theorem putB_at {as : List Arg} {ss : List Sl} {k : Nat} (l : k < ρ.length) : (putB as ss ρ)[k]? = some (match lookS as ss k with
  | some s => s
  | none => ρ.getD k .no) := by
  unfold putB
  rw [List.getElem?_map, List.getElem?_range l]
  rfl
theorem putB_len {as : List Arg} {ss : List Sl} : (putB as ss ρ).length = ρ.length := by simp [putB]
theorem ft_putB {as : List Arg} {ss : List Sl} {k : Nat} {a : Addr} (h : a ∈ ft (putB as ss ρ) k) : (∃ j, as[j]? = some (.inr k) ∧ a ∈ ft ss j) ∨ (lookS as ss k = none ∧ a ∈ ft ρ k) := by
  by_cases l : k < ρ.length
  · rw [ft_at (putB_at l)] at h
    split at h
    · rename_i s e
      obtain ⟨j, h1, h2⟩ := lookS_some e
      exact .inl ⟨j, h1, by rw [ft_at h2]; exact h⟩
    · rename_i e
      refine .inr ⟨e, ?_⟩
      rw [List.getD_eq_getElem?_getD, List.getElem?_eq_getElem l] at h
      rw [ft_at (List.getElem?_eq_getElem l)]
      exact h
  · rw [ft_no (List.getElem?_eq_none (by rw [putB_len]; omega))] at h
    cases h
theorem args_back {K : PySem.W.Frag} {vs : List V} {as : List Arg} {ss' : List Sl} {I' H' : Hp} (ok : EnvOk K I H σ ρ) (r : Paired (ArgR K I σ) vs as) (g : GoodArgs ρ as) (ok' : EnvOk K I' H' (vs.map some) ss') (st : Step I H (Mt (as.map (argSl ρ))) I' H' (Mt ss')) (mt : ∀ a, Mt ss' a → Mt (as.map (argSl ρ)) a) :
    Go false K σ ρ I H (putB as ss' ρ) I' H' := by
  have near : ∀ a, Mt (as.map (argSl ρ)) a → Mt ρ a := fun a ⟨j, h⟩ => by
    obtain ⟨i, _, h⟩ := args_ft h
    exact ⟨i, h⟩
  have far : ∀ a k, a ∈ ft ρ k → k ∉ slotsOf as → ¬ Mt (as.map (argSl ρ)) a := fun a k h n ⟨j, hj⟩ => by
    obtain ⟨i, e, h2⟩ := args_ft hj
    exact n (by rw [← ok.dj i k a h2 h]; exact slotsOf_mem e)
  have la : as.length = ss'.length := by
    have := ok'.len
    rw [List.length_map, paired_len r] at this
    exact this
  have mtb : ∀ a, Mt (putB as ss' ρ) a → Mt ρ a := fun a ⟨k, h⟩ => by
    rcases ft_putB h with ⟨j, _, h⟩ | ⟨_, h⟩
    · exact near a (mt a ⟨j, h⟩)
    · exact ⟨k, h⟩
  refine ⟨⟨by rw [putB_len]; exact ok.len, fun k s e => ?_, fun k => ?_, fun k1 k2 a h1 h2 => ?_, fun k a h => ?_, ok'.sub⟩, ⟨st.ii, fun a o e n => st.oth a o e fun z => n (near a z), fun a o e z n => st.fr a o e z fun q => n (near a q), fun a h => .inl (mtb a h), st.al⟩, mtb⟩
  · have l : k < ρ.length := by
      have := (List.getElem?_eq_some_iff.mp e).1
      rwa [putB_len] at this
    rw [putB_at l] at e
    cases e1 : lookS as ss' k with
    | some t =>
      rw [e1] at e
      cases e
      obtain ⟨j, h1, h2⟩ := lookS_some e1
      obtain ⟨v, hv, rv⟩ := paired_at r h1
      have q := ok'.ok j _ h2
      rw [List.getElem?_map, hv] at q
      rw [show σ[k]? = some (some v) from rv]
      exact q
    | none =>
      rw [e1] at e
      cases e
      have h2 : ρ[k]? = some (ρ.getD k .no) := by rw [List.getD_eq_getElem?_getD, List.getElem?_eq_getElem l]; rfl
      refine (ok.ok k _ h2).grow st.ii fun q o hq e2 => st.oth q o e2 (far q k ?_ (lookS_none la e1))
      rw [ft_at h2]
      exact hq
  · by_cases l : k < ρ.length
    · rw [ft_at (putB_at l)]
      cases e1 : lookS as ss' k with
      | some t =>
        obtain ⟨j, h1, h2⟩ := lookS_some e1
        have := ok'.nd j
        rw [ft_at h2] at this
        exact this
      | none =>
        have h2 : ρ[k]? = some (ρ.getD k .no) := by rw [List.getD_eq_getElem?_getD, List.getElem?_eq_getElem l]; rfl
        have := ok.nd k
        rw [ft_at h2] at this
        exact this
    · rw [ft_no (List.getElem?_eq_none (by rw [putB_len]; omega))]
      exact List.nodup_nil
  · rcases ft_putB h1 with ⟨j1, e1, m1⟩ | ⟨n1, m1⟩ <;> rcases ft_putB h2 with ⟨j2, e2, m2⟩ | ⟨n2, m2⟩
    · have z := ok'.dj j1 j2 a m1 m2
      subst z
      rw [e1] at e2
      cases e2
      rfl
    · exact absurd (mt a ⟨j1, m1⟩) (far a k2 m2 (lookS_none la n2))
    · exact absurd (mt a ⟨j2, m2⟩) (far a k1 m1 (lookS_none la n1))
    · exact ok.dj k1 k2 a m1 m2
  · rcases ft_putB h with ⟨j, e, m⟩ | ⟨n, m⟩
    · exact ok'.out j a m
    · obtain ⟨o, e⟩ := ok.there ⟨k, m⟩
      exact st.fr a o e (ok.out k a m) (far a k m (lookS_none la n))
theorem em_callM (F : Cal X.prog X.w X.K X.mg X.base x k ps sp) (hr : Room k X.A) (h : ZM X (e :: es) ρ W fun as ρ1 => GoodArgs ρ1 as ∧ sp (as.map (argSl ρ1)) (fun o d ss' => Q o d (putB as ss' ρ1)) W0) (hg : Gl X x := by rfl) (hdb : (x == ("__debug__" : Str)) = false := by decide)
    (he : starEach (e :: es) X.env = (false, eval e X.env) :: starEach es X.env := by rfl) (hpl : (backTo pos (starEach es X.env)).any (·.1) = false := by rfl) : EM false X (.Call (.Name x p) (e :: es) [] pos) ρ W Q := fun σ I H ok xk R f => by
  obtain ⟨fa, fd, F, hm, hk, hb⟩ := F
  refine ⟨_, pe_call F hr hg hm hk hb .nil (L2N.passes_call (W := fun _ _ _ _ => False) (fun _ _ ⟨_, _, _, _, _, _, _, _, _, _, _, _, _, _, _, _, w⟩ => w.elim) fun _ _ _ _ z => z) pa_w hdb he hpl, ?_⟩
  refine h σ I H ok xk _ fun vs as ρ1 I1 H1 g1 r1 ⟨ga, q1⟩ => ?_
  have ok1 := g1.env ok
  rw [List.append_nil]
  refine ⟨as.map (argSl ρ1), I1, _, W0, args_env ok1 r1 ga, q1, fun v o d ss' I' H' ok' st mt r q => ?_, .inl fun _ z => z⟩
  exact f v o d _ I' H' (g1.trans (args_back ok1 r1 ga ok' st mt)) (r.back g1.nn) q
end

/-! ### the rule of a def -/
/-- what the slots handed in hold at the end -/
structure ParOk (ss ρ ss' : List Sl) : Prop where
  len : ss'.length = ss.length
  at_ : ∀ (i : Nat) (s : Sl), ss'[i]? = some s → (ss[i]? = some s ∧ ∃ d, s = .va d) ∨ (∃ p m m', ss[i]? = some (.mo p m) ∧ s = .mo p m' ∧ ρ[i]? = some s)
theorem ParOk.va {ds : List D} {ρ : List Sl} : ParOk (ds.map Sl.va) ρ (ds.map Sl.va) := ⟨rfl, fun i s e => .inl ⟨e, by
  rw [List.getElem?_map] at e
  cases e1 : ds[i]? with
  | none => rw [e1] at e; cases e
  | some d => rw [e1] at e; cases e; exact ⟨d, rfl⟩⟩⟩
theorem ParOk.mt {ss ρ ss' : List Sl} (p : ParOk ss ρ ss') {i : Nat} {a : Addr} (h : a ∈ ft ss' i) : a ∈ ft ss i ∧ a ∈ ft ρ i := by
  unfold ft at h
  cases e : ss'[i]? with
  | none => rw [e] at h; cases h
  | some s =>
    rw [e] at h
    rcases p.at_ i s e with ⟨e1, d, rfl⟩ | ⟨q, m, m', e1, rfl, e2⟩
    · cases h
    · exact ⟨by rw [ft_at e1]; exact h, by rw [ft_at e2]; exact h⟩
/-- the end of a def -/
def FinP (ss : List Sl) (P : Bool → D → List Sl → Prop) (o : Bool) (d : D) (ρ : List Sl) : Prop := ∃ ss', ParOk ss ρ ss' ∧ P o d ss' ∧ (o = true → ∀ a, ¬ Mt ss a)
theorem FinP.va {ds : List D} {P : Bool → D → List Sl → Prop} {o : Bool} {d : D} {ρ : List Sl} (h : P o d (ds.map Sl.va)) : FinP (ds.map Sl.va) P o d ρ := ⟨_, .va, h, fun _ _ => mt_va⟩
def startS (n : Nat) (ss : List Sl) : List Sl := ss ++ List.replicate (n - ss.length) .no
theorem startS_at {n : Nat} {ss : List Sl} {i : Nat} {s : Sl} (h : (startS n ss)[i]? = some s) : ss[i]? = some s ∨ s = .no := by
  unfold startS at h
  by_cases l : i < ss.length
  · rw [List.getElem?_append_left l] at h
    exact .inl h
  · rw [List.getElem?_append_right (by omega), List.getElem?_replicate] at h
    split at h
    · cases h; exact .inr rfl
    · cases h
theorem startS_ft {n : Nat} {ss : List Sl} {i : Nat} {a : Addr} (h : a ∈ ft (startS n ss) i) : a ∈ ft ss i := by
  unfold ft at h ⊢
  cases e : (startS n ss)[i]? with
  | none => rw [e] at h; cases h
  | some s =>
    rw [e] at h
    rcases startS_at e with z | rfl
    · rw [z]; exact h
    · cases h
section
variable {P : Program} {w : World} {K : PySem.W.Frag} {mg : Str → Option Value} {base : Heap}
theorem fn_okF {x qual : Str} {st : Stmt} {f : Addr} {fd : FuncData} {N ps : List Str} {k : Nat} {sp : DSp} (F : Fun K x qual st f fd) (S : FnScope N ps (defScope st)) (len : ∀ ss P W, sp ss P W → ss.length = ps.length)
    (hbody : ∀ (cdv : Value) (A : Around) (outer : List Env) (s : Shared) (H : Hp) (E : XK), Room k (A.deeper (envOfC qual (defScope st) s.heap.objs.size f cdv)) → ∀ ss Q W, sp ss Q W →
      SD (cxOf (L2N.CX P w) P w K mg base N qual (defScope st) f cdv A outer s H E) (defBody st) (startS N.length ss) W { nx := FinP ss Q false .none, rt := FinP ss Q }) : FnOk P w K mg base (L2N.CX P w) (k + 1) f fd ps (toSp K sp) := by
  obtain ⟨oc, od, kV, doc, pm, an, cdv, ct, osl, rfl, lk, hcd⟩ := F.ex
  refine fn_of lk hcd S (fun vs H Q E ⟨ss, I, P, W, ok, h, _⟩ => ?_) (fun A outer s H vs Q E hr ⟨ss, I, P', W, ok, h, hq, hx⟩ => ?_)
  · have := ok.len
    rw [List.length_map] at this
    rw [this, len _ _ _ h]
  · have el : vs.length = ss.length := by
      have := ok.len
      rw [List.length_map] at this
      exact this
    have ok0 : EnvOk K I H (L2.start N vs) (startS N.length ss) := by
      refine ⟨?_, fun i t e => ?_, fun i => ?_, fun i j a h1 h2 => ok.dj i j a (startS_ft h1) (startS_ft h2), fun i a h => ok.out i a (startS_ft h), ok.sub⟩
      · unfold L2.start startS
        rw [List.length_append, List.length_append, List.length_map, List.length_replicate, List.length_replicate, el]
      · by_cases l : i < ss.length
        · have e1 : ss[i]? = some t := by
            unfold startS at e
            rwa [List.getElem?_append_left l] at e
          have e2 : (L2.start N vs)[i]? = (vs.map some)[i]? := by
            unfold L2.start
            rw [List.getElem?_append_left (by rw [List.length_map, el]; exact l)]
          rw [e2]
          exact ok.ok i t e1
        · rcases startS_at e with z | z
          · exact absurd (List.getElem?_eq_some_iff.mp z).1 l
          · subst z
            trivial
      · cases q : ft (startS N.length ss) i with
        | nil => exact List.nodup_nil
        | cons a r =>
          have m : a ∈ ft ss i := startS_ft (n := N.length) (by rw [q]; exact List.mem_cons_self)
          have l : i < ss.length := by
            apply Decidable.byContradiction
            intro l
            rw [ft_no (List.getElem?_eq_none (by omega))] at m
            cases m
          have : ft (startS N.length ss) i = ft ss i := by
            unfold ft startS
            rw [List.getElem?_append_left l]
          rw [← q, this]
          exact ok.nd i
    have mt0 : ∀ a, Mt (startS N.length ss) a → Mt ss a := fun a ⟨i, h⟩ => ⟨i, startS_ft h⟩
    have xk : XOk (cxOf (L2N.CX P w) P w K mg base N qual (defScope st) f cdv A outer s H E) W H (startS N.length ss) := by
      rcases hx with hx | ⟨nm, hx⟩
      · have e : W = W0 := by
          funext c
          exact propext ⟨fun z => hx c z, fun z => z.elim⟩
        rw [e]
        exact .zero
      · exact ⟨H, (L2N.takes_of rfl rfl rfl rfl).imp fun cls d σ H' ⟨wc, e, sm⟩ => by
          subst e
          exact hx cls H' sm wc, Same.refl H, fun a m => absurd (mt0 a m) (nm a)⟩
    have fin : ∀ v o d σ' ρ' I' H', EnvOk K I' H' σ' ρ' → Step I H (Mt (startS N.length ss)) I' H' (Mt ρ') → RtOk K H (Mt (startS N.length ss)) I' H' v o d → FinP ss P' o d ρ' → Q v H' := by
      intro v o d σ' ρ' I' H' ok' st' r ⟨ss', po, q, ho⟩
      have nms : ∀ a, ¬ Mt ss a → ¬ Mt (startS N.length ss) a := fun a n z => n (mt0 a z)
      refine hq v o d ss' I' H' ⟨by rw [ok.len, po.len], fun i t e => ?_, fun i => ?_, fun i j a h1 h2 => ok'.dj i j a (po.mt h1).2 (po.mt h2).2, fun i a h => ok'.out i a (po.mt h).2, ok'.sub⟩
        ⟨st'.ii, fun a u e n => st'.oth a u e (nms a n), fun a u e z n => st'.fr a u e z (nms a n), fun a ⟨i, h⟩ => .inl ⟨i, (po.mt h).1⟩, st'.al⟩ (fun a ⟨i, h⟩ => ⟨i, (po.mt h).1⟩) ?_ q
      · rcases po.at_ i t e with ⟨e1, d', rfl⟩ | ⟨p, m, m', e1, rfl, e2⟩
        · exact (ok.ok i _ e1).grow st'.ii fun q o hq => by cases hq
        · obtain ⟨v1, h1, r1⟩ := ok.at e1 (fun z => nomatch z)
          obtain ⟨v2, h2, r2⟩ := ok'.at e2 (fun z => nomatch z)
          rw [h1]
          exact ⟨r1.1, r2.2⟩
      · cases q2 : ft ss' i with
        | nil => exact List.nodup_nil
        | cons a r2 =>
          have ex : ∃ t, ss'[i]? = some t := by
            cases e : ss'[i]? with
            | none => rw [ft_no e] at q2; cases q2
            | some t => exact ⟨t, rfl⟩
          obtain ⟨t, e⟩ := ex
          rcases po.at_ i t e with ⟨e1, d', rfl⟩ | ⟨p, m, m', e1, rfl, e2⟩
          · rw [ft_at e] at q2
            cases q2
          · rw [← q2, ft_at e]
            exact List.pairwise_singleton _ _
      · cases o with
        | false => exact r
        | true =>
          obtain ⟨p, xs, ds, h1, h2, h3, h4⟩ := r
          refine ⟨p, xs, ds, h1, h2, ?_, h4⟩
          rcases h3 with z | z
          · exact z
          · exact absurd (mt0 p z) (ho rfl p)
    obtain ⟨t, ht, q⟩ := hbody cdv A outer s H E hr ss P' W h (L2.start N vs) I H ok0 xk { nx := fun _ H' => Q .non H', rt := Q }
      ⟨fun σ' ρ' I' H' ok' st' q => fin .non false .none σ' ρ' I' H' ok' st' Rv.mkNon q, fun v o d σ' ρ' I' H' ok' st' r q => fin v o d σ' ρ' I' H' ok' st' r q, fun _ _ _ _ _ _ q => q.elim, fun _ _ _ _ _ _ q => q.elim⟩
    exact ⟨t, ht, q⟩
theorem fn_ok {x qual : Str} {st : Stmt} {f : Addr} {fd : FuncData} {N ps : List Str} {k : Nat} {sp : DSp} (F : Fun K x qual st f fd) (hm : mg x = some (.ref f)) (hb : Binds K fd ps []) (S : FnScope N ps (defScope st)) (len : ∀ ss P W, sp ss P W → ss.length = ps.length)
    (hbody : ∀ (cdv : Value) (A : Around) (outer : List Env) (s : Shared) (H : Hp) (E : XK), Room k (A.deeper (envOfC qual (defScope st) s.heap.objs.size f cdv)) → ∀ ss Q W, sp ss Q W →
      SD (cxOf (L2N.CX P w) P w K mg base N qual (defScope st) f cdv A outer s H E) (defBody st) (startS N.length ss) W { nx := FinP ss Q false .none, rt := FinP ss Q }) : Cal P w K mg base x (k + 1) ps sp := ⟨f, fd, fn_okF F S len hbody, hm, F.kp, hb⟩
end
end Tt

namespace Tt
open PySem PySem.Spec PyProof.Rows L2

abbrev tx (l : List Nat) : D := .str (S l)
theorem S_toList (z : Str) : S z.cps.toList = z := by
  cases z
  simp [S]
theorem S_len (l : List Nat) : (S l).length = l.length := by simp [S, Str.length]
theorem S_app (a b : List Nat) : S a ++ S b = S (a ++ b) := by
  show (⟨a.toArray ++ b.toArray⟩ : Str) = ⟨(a ++ b).toArray⟩
  simp
theorem S_inj {a b : List Nat} : S a = S b ↔ a = b := ⟨fun h => by
  have := congrArg (fun z : Str => z.cps.toList) h
  simpa [S] using this, fun h => by rw [h]⟩
/-- the items of xs[lo:hi] -/
def cut {α : Type} (xs : List α) (lo hi : Option Int) : List α := (xs.drop (HT.sIx xs.length 0 lo)).take (HT.sIx xs.length xs.length hi - HT.sIx xs.length 0 lo)
theorem cut_map {α β : Type} (f : α → β) (xs : List α) (lo hi : Option Int) : cut (xs.map f) lo hi = (cut xs lo hi).map f := by simp [cut, List.map_take, List.map_drop]
theorem cutS_S (l : List Nat) (lo hi : Option Int) : cutS (S l) lo hi = S (cut l lo hi) := by
  have e : (S l).length = l.length := S_len l
  unfold cutS cut
  rw [e]
theorem sIx_of (n d : Nat) (i : Int) : HT.sIx n d (some i) = if i < 0 then (i + n).toNat else min i.toNat n := by
  by_cases h : i < 0
  · rw [if_pos h]
    have e := HT.clip_eq i n d
    rw [if_pos h] at e
    omega
  · rw [if_neg h]
    have e := HT.clip_eq i n d
    rw [if_neg h] at e
    omega
theorem cut_drop {α : Type} (xs : List α) (k : Nat) : cut xs (some (k : Int)) none = xs.drop k := by
  unfold cut
  rw [sIx_of, if_neg (by omega), HT.sIx_none]
  have e : min (k : Int).toNat xs.length = min k xs.length := by simp
  rw [e]
  by_cases h : k ≤ xs.length
  · rw [Nat.min_eq_left h]
    exact List.take_of_length_le (by simp)
  · rw [Nat.min_eq_right (by omega), List.drop_eq_nil_of_le (by omega : xs.length ≤ k)]
    simp
theorem cut_take {α : Type} (xs : List α) (k : Nat) : cut xs none (some (k : Int)) = xs.take k := by
  unfold cut
  rw [sIx_of, if_neg (by omega), HT.sIx_none]
  have e : min (k : Int).toNat xs.length = min k xs.length := by simp
  rw [e, List.drop_zero, Nat.sub_zero, ← List.take_take, List.take_length]
theorem cut_init {α : Type} (xs : List α) : cut xs none (some (-1)) = xs.dropLast := by
  unfold cut
  rw [sIx_of, if_pos (by omega), HT.sIx_none, List.drop_zero, List.dropLast_eq_take]
  congr 1
  omega
theorem cut_mid {α : Type} (xs : List α) (i j : Nat) : cut xs (some (i : Int)) (some (j : Int)) = (xs.take j).drop i := by
  unfold cut
  rw [sIx_of, if_neg (by omega), sIx_of, if_neg (by omega)]
  have e1 : min (i : Int).toNat xs.length = min i xs.length := by simp
  have e2 : min (j : Int).toNat xs.length = min j xs.length := by simp
  rw [e1, e2, List.drop_take]
  by_cases h : i ≤ xs.length
  · rw [Nat.min_eq_left h]
    by_cases hj : j ≤ xs.length
    · rw [Nat.min_eq_left hj]
    · rw [Nat.min_eq_right (by omega), List.take_of_length_le (by simp), List.take_of_length_le (by simp; omega)]
  · rw [List.drop_eq_nil_of_le (by omega : xs.length ≤ i), List.drop_eq_nil_of_le (by omega : xs.length ≤ min i xs.length)]
    simp

section
variable {X : Cx} {Q : Bool → D → Prop} {i j : Int} {x y : Str}
theorem Res.val {I H : Hp} {R : VK} {v : V} {d : D} (k : Res X I H Q R) (s : Sub I H) (r : Rv X.K I v d) (q : Q false d) : R v H := k v false d I H (Grow.refl s) r q
theorem Res.lst {I H : Hp} {R : VK} {xs : List V} {ds : List D} (k : Res X I H Q R) (s : Sub I H) (t : DqAll I xs ds) (q : Q true (.list ds)) {p : Addr} (n : H p = none) : R (.ref p) (upd H p (.lst xs)) :=
  k _ true _ I _ (Grow.dark s n) ⟨p, xs, ds, rfl, rfl, n, s.nn n, upd_same, t⟩ q
theorem Res.tup {I H : Hp} {R : VK} {xs : List V} {ds : List D} (k : Res X I H Q R) (s : Sub I H) (t : DqAll I xs ds) (q : Q false (.tuple ds)) {p : Addr} {o : Obj} (od : o.dict = none) (n : H p = none) : R (.ref p) (upd H p (.frz o (.tup xs))) := by
  have g := Grow.new (o := .frz o (.tup xs)) s n
  exact k _ false _ _ _ g (Rv.mkT ⟨o, od, upd_same⟩ (DqAll.same g.ii t)) q

/-! numbers -/
theorem fd_add_int (q : Q false (.int (i + j))) : FD X (binaryOp .Add) (.int i) (.int j) Q := fun I H v u s rv ru R k => by
  rw [rv.int, ru.int]
  exact ⟨_, op_add, i, j, rfl, rfl, k.val s .mkInt q⟩
theorem fd_sub_int (q : Q false (.int (i - j))) : FD X (binaryOp .Sub) (.int i) (.int j) Q := fun I H v u s rv ru R k => by
  rw [rv.int, ru.int]
  exact ⟨_, op_sub, i, j, rfl, rfl, k.val s .mkInt q⟩
theorem fd_mul_int (c : CMul i j) (q : Q false (.int (i * j))) : FD X (binaryOp .Mult) (.int i) (.int j) Q := fun I H v u s rv ru R k => by
  rw [rv.int, ru.int]
  exact ⟨_, op_mul, i, j, rfl, rfl, c, k.val s .mkInt q⟩
theorem fd_mod_int (c : 0 < j) (q : Q false (.int (i % j))) : FD X (binaryOp .Mod) (.int i) (.int j) Q := fun I H v u s rv ru R k => by
  rw [rv.int, ru.int]
  exact ⟨_, op_mod, i, j, rfl, rfl, c, k.val s .mkInt q⟩
theorem fd_div_int (c : CDiv i j) (q : Q false (.int (i / j))) : FD X (binaryOp .FloorDiv) (.int i) (.int j) Q := fun I H v u s rv ru R k => by
  rw [rv.int, ru.int]
  exact ⟨_, op_fdiv, i, j, rfl, rfl, c, k.val s .mkInt q⟩
theorem fd_pow_int (c : CPow i j) (q : Q false (.int (i ^ j.toNat))) : FD X (binaryOp .Pow) (.int i) (.int j) Q := fun I H v u s rv ru R k => by
  rw [rv.int, ru.int]
  exact ⟨_, op_pow, i, j, rfl, rfl, c, k.val s .mkInt q⟩
theorem gd_neg (q : Q false (.int (-i))) : GD X (unaryOp .USub) (.int i) Q := fun I H v s rv R k => by
  rw [rv.int]
  exact ⟨_, un_neg, i, rfl, k.val s .mkInt q⟩
theorem fd_lt (q : Q false (.bool (decide (i < j)))) : FD X (compareOp .Lt) (.int i) (.int j) Q := fun I H v u s rv ru R k => by
  rw [rv.int, ru.int]
  exact ⟨_, op_lt, i, j, rfl, rfl, k.val s .mkBl q⟩
theorem fd_le (q : Q false (.bool (decide (i ≤ j)))) : FD X (compareOp .LtE) (.int i) (.int j) Q := fun I H v u s rv ru R k => by
  rw [rv.int, ru.int]
  exact ⟨_, op_le, i, j, rfl, rfl, k.val s .mkBl q⟩
theorem fd_gt (q : Q false (.bool (decide (j < i)))) : FD X (compareOp .Gt) (.int i) (.int j) Q := fun I H v u s rv ru R k => by
  rw [rv.int, ru.int]
  exact ⟨_, op_gt, i, j, rfl, rfl, k.val s .mkBl q⟩
theorem fd_ge (q : Q false (.bool (decide (j ≤ i)))) : FD X (compareOp .GtE) (.int i) (.int j) Q := fun I H v u s rv ru R k => by
  rw [rv.int, ru.int]
  exact ⟨_, op_ge, i, j, rfl, rfl, k.val s .mkBl q⟩
theorem fd_eq_int (q : Q false (.bool (decide (i = j)))) : FD X (compareOp .Eq) (.int i) (.int j) Q := fun I H v u s rv ru R k => by
  rw [rv.int, ru.int]
  refine ⟨_, op_eq, rfl, ?_⟩
  have e : decide (V.int i = V.int j) = decide (i = j) := by simp
  rw [e]
  exact k.val s .mkBl q
theorem fd_ne_int (q : Q false (.bool (!decide (i = j)))) : FD X (compareOp .NotEq) (.int i) (.int j) Q := fun I H v u s rv ru R k => by
  rw [rv.int, ru.int]
  refine ⟨_, op_ne, rfl, ?_⟩
  have e : decide (V.int i = V.int j) = decide (i = j) := by simp
  rw [e]
  exact k.val s .mkBl q
/-! texts -/
theorem fd_eq_str (q : Q false (.bool (decide (x = y)))) : FD X (compareOp .Eq) (.str x) (.str y) Q := fun I H v u s rv ru R k => by
  rw [rv.str, ru.str]
  refine ⟨_, op_eq, rfl, ?_⟩
  have e : decide (V.str x = V.str y) = decide (x = y) := by simp
  rw [e]
  exact k.val s .mkBl q
theorem fd_ne_str (q : Q false (.bool (!decide (x = y)))) : FD X (compareOp .NotEq) (.str x) (.str y) Q := fun I H v u s rv ru R k => by
  rw [rv.str, ru.str]
  refine ⟨_, op_ne, rfl, ?_⟩
  have e : decide (V.str x = V.str y) = decide (x = y) := by simp
  rw [e]
  exact k.val s .mkBl q
theorem fd_eq_bool {b c : Bool} (q : Q false (.bool (decide (b = c)))) : FD X (compareOp .Eq) (.bool b) (.bool c) Q := fun I H v u s rv ru R k => by
  rw [rv.bl, ru.bl]
  refine ⟨_, op_eq, rfl, ?_⟩
  have e : decide (V.bl b = V.bl c) = decide (b = c) := by simp
  rw [e]
  exact k.val s .mkBl q
theorem fd_ne_bool {b c : Bool} (q : Q false (.bool (!decide (b = c)))) : FD X (compareOp .NotEq) (.bool b) (.bool c) Q := fun I H v u s rv ru R k => by
  rw [rv.bl, ru.bl]
  refine ⟨_, op_ne, rfl, ?_⟩
  have e : decide (V.bl b = V.bl c) = decide (b = c) := by simp
  rw [e]
  exact k.val s .mkBl q
theorem fd_add_str (c : x.length + y.length ≤ sizeLine) (q : Q false (.str (x ++ y))) : FD X (binaryOp .Add) (.str x) (.str y) Q := fun I H v u s rv ru R k => by
  rw [rv.str, ru.str]
  exact ⟨_, op_add_str, x, y, rfl, rfl, c, k.val s .mkStr q⟩
theorem fd_le_str (q : Q false (.bool (!decide (y.cps.toList < x.cps.toList)))) : FD X (compareOp .LtE) (.str x) (.str y) Q := fun I H v u s rv ru R k => by
  rw [rv.str, ru.str]
  exact ⟨_, op_le_str, x, y, rfl, rfl, k.val s .mkBl q⟩
theorem fd_in_sign {c : Nat} (q : Q false (.bool (decide (c ∈ y.cps.toList)))) : FD X (compareOp .In) (.str ⟨#[c]⟩) (.str y) Q := fun I H v u s rv ru R k => by
  rw [rv.str, ru.str]
  exact ⟨_, op_in_sign, c, y, rfl, rfl, k.val s .mkBl q⟩
theorem fd_notIn_sign {c : Nat} (q : Q false (.bool (!decide (c ∈ y.cps.toList)))) : FD X (compareOp .NotIn) (.str ⟨#[c]⟩) (.str y) Q := fun I H v u s rv ru R k => by
  rw [rv.str, ru.str]
  exact ⟨_, op_notIn_sign, c, y, rfl, rfl, k.val s .mkBl q⟩
/-! None -/
/-- whether it is None -/
def isN : D → Bool
  | .none => true
  | _ => false
theorem Rv.isNone {K : PySem.W.Frag} {I : Hp} {v : V} {d : D} (h : Rv K I v d) : decide (v = .non) = isN d := by
  rcases h.is with h | ⟨a, ks, _, rfl, rfl, _⟩ | ⟨a, ns, rfl, rfl, _⟩
  · cases h <;> simp [isN]
  · simp [dictD, isN]
  · simp [scriptD, isN]
theorem fd_is_none {d : D} (q : Q false (.bool (isN d))) : FD X (compareOp .Is) d .none Q := fun I H v u s rv ru R k => by
  rw [ru.non]
  refine ⟨_, op_isN, rfl, ?_⟩
  rw [rv.isNone]
  exact k.val s .mkBl q
theorem fd_isnot_none {d : D} (q : Q false (.bool (!isN d))) : FD X (compareOp .IsNot) d .none Q := fun I H v u s rv ru R k => by
  rw [ru.non]
  refine ⟨_, op_notN, rfl, ?_⟩
  rw [rv.isNone]
  exact k.val s .mkBl q
/-! data -/
theorem Rv.dpH {K : PySem.W.Frag} {I H : Hp} {v : V} {d : D} (s : Sub I H) (h : Rv K I v d) (n : nd d = true) : Dp K H v d := Dq.dp (Dq.sub s (h.dp n))
theorem nd_shaped {d : D} (h : SeqAt.shaped d = true) : nd d = true := by
  cases d <;> first | rfl | (simp [SeqAt.shaped, PyData.canLay0] at h)
theorem fd_eq {d e : D} (hu : X.A.units + 64 < cLine) (h1 : SeqAt.shaped d = true) (h2 : SeqAt.shaped e = true) (q : Q false (.bool (PyData.eqv d e))) : FD X (compareOp .Eq) d e Q := fun I H v u s rv ru R k =>
  ⟨_, op_eqD hu, d, e, rv.dpH s (nd_shaped h1), ru.dpH s (nd_shaped h2), h1, h2, k.val s .mkBl q⟩
theorem fd_ne {d e : D} (hu : X.A.units + 64 < cLine) (h1 : SeqAt.shaped d = true) (h2 : SeqAt.shaped e = true) (q : Q false (.bool (!PyData.eqv d e))) : FD X (compareOp .NotEq) d e Q := fun I H v u s rv ru R k =>
  ⟨_, op_neD hu, d, e, rv.dpH s (nd_shaped h1), ru.dpH s (nd_shaped h2), h1, h2, k.val s .mkBl q⟩
theorem fd_in_list {d : D} {ds : List D} (hu : X.A.units + 65 < cLine) (h1 : SeqAt.shaped d = true) (h2 : SeqAt.shaped (.list ds) = true) (q : Q false (.bool (ds.any fun z => PyData.eqv z d))) : FD X (compareOp .In) d (.list ds) Q := fun I H v u s rv ru R k =>
  ⟨_, op_inD hu, d, ds, rv.dpH s (nd_shaped h1), ru.dpH s rfl, h1, h2, k.val s .mkBl q⟩
theorem fd_notIn_list {d : D} {ds : List D} (hu : X.A.units + 65 < cLine) (h1 : SeqAt.shaped d = true) (h2 : SeqAt.shaped (.list ds) = true) (q : Q false (.bool (!ds.any fun z => PyData.eqv z d))) : FD X (compareOp .NotIn) d (.list ds) Q := fun I H v u s rv ru R k =>
  ⟨_, op_notInD hu, d, ds, rv.dpH s (nd_shaped h1), ru.dpH s rfl, h1, h2, k.val s .mkBl q⟩
def rInT (K : PySem.W.Frag) : R2 := fun x y H Q => ∃ d ds, Dp K H x d ∧ Dp K H y (.tuple ds) ∧ SeqAt.shaped d = true ∧ SeqAt.shaped (.tuple ds) = true ∧ Q (.bl (ds.any fun z => PyData.eqv z d)) H
def rNotInT (K : PySem.W.Frag) : R2 := fun x y H Q => ∃ d ds, Dp K H x d ∧ Dp K H y (.tuple ds) ∧ SeqAt.shaped d = true ∧ SeqAt.shaped (.tuple ds) = true ∧ Q (.bl (!ds.any fun z => PyData.eqv z d)) H
theorem op_inT (hu : X.A.units + 65 < cLine) : OpR X (compareOp .In) (rInT X.K) := by
  intro pins s σ H x y v u Q I rx ry h
  obtain ⟨d, ds, hd, he, sd, se, q⟩ := h
  obtain ⟨as, r1⟩ := Dp.reads I d x v hd rx
  obtain ⟨bs, r2⟩ := Dp.reads I (.tuple ds) y u he ry
  exact SeqAt.in_tuple_reads r2 r1 (SeqAt.canLay_of_shaped se) (SeqAt.canLay_of_shaped sd) (room_in_shaped sd hu) ⟨.bl _, H, I, rfl, q⟩
theorem op_notInT (hu : X.A.units + 65 < cLine) : OpR X (compareOp .NotIn) (rNotInT X.K) := by
  intro pins s σ H x y v u Q I rx ry h
  obtain ⟨d, ds, hd, he, sd, se, q⟩ := h
  obtain ⟨as, r1⟩ := Dp.reads I d x v hd rx
  obtain ⟨bs, r2⟩ := Dp.reads I (.tuple ds) y u he ry
  exact SeqAt.notIn_tuple_reads r2 r1 (SeqAt.canLay_of_shaped se) (SeqAt.canLay_of_shaped sd) (room_in_shaped sd hu) ⟨.bl _, H, I, rfl, q⟩
theorem fd_in_tuple {d : D} {ds : List D} (hu : X.A.units + 65 < cLine) (h1 : SeqAt.shaped d = true) (h2 : SeqAt.shaped (.tuple ds) = true) (q : Q false (.bool (ds.any fun z => PyData.eqv z d))) : FD X (compareOp .In) d (.tuple ds) Q := fun I H v u s rv ru R k =>
  ⟨_, op_inT hu, d, ds, rv.dpH s (nd_shaped h1), ru.dpH s rfl, h1, h2, k.val s .mkBl q⟩
theorem fd_notIn_tuple {d : D} {ds : List D} (hu : X.A.units + 65 < cLine) (h1 : SeqAt.shaped d = true) (h2 : SeqAt.shaped (.tuple ds) = true) (q : Q false (.bool (!ds.any fun z => PyData.eqv z d))) : FD X (compareOp .NotIn) d (.tuple ds) Q := fun I H v u s rv ru R k =>
  ⟨_, op_notInT hu, d, ds, rv.dpH s (nd_shaped h1), ru.dpH s rfl, h1, h2, k.val s .mkBl q⟩
/-! lists, tuples put together -/
theorem fd_add_list {ds es : List D} (c : ds.length + es.length ≤ sizeLine) (q : Q true (.list (ds ++ es))) : FD X (binaryOp .Add) (.list ds) (.list es) Q := fun I H v u s rv ru R k => by
  obtain ⟨a, xs, rfl, ha, t⟩ := rv.lst
  obtain ⟨b, ys, rfl, hb, t'⟩ := ru.lst
  exact ⟨_, op_cat, a, b, xs, ys, rfl, rfl, s.lst ha, s.lst hb, by rw [t.len, t'.len]; exact c, fun p n => k.lst s (DqAll.app t t') q n⟩
theorem fd_add_tuple {ds es : List D} (c : ds.length + es.length ≤ sizeLine) (q : Q false (.tuple (ds ++ es))) : FD X (binaryOp .Add) (.tuple ds) (.tuple es) Q := fun I H v u s rv ru R k => by
  obtain ⟨a, xs, rfl, ha, t⟩ := rv.tup
  obtain ⟨b, ys, rfl, hb, t'⟩ := ru.tup
  refine ⟨_, op_catF, a, b, xs, ys, rfl, rfl, (s.tup ha).sq, (s.tup hb).sq, by rw [t.len, t'.len]; exact c, fun e => ?_, fun e => ?_, fun p o od n => k.tup s (DqAll.app t t') q od n⟩
  · subst e
    cases t
    exact k.val s ru q
  · subst e
    cases t'
    rw [List.append_nil] at q
    exact k.val s rv q
theorem dqAll_rep {I : Hp} {xs : List V} {ds : List D} (t : DqAll I xs ds) : ∀ n : Nat, DqAll I (List.replicate n xs).flatten (List.replicate n ds).flatten
  | 0 => .nil
  | n + 1 => by
    rw [List.replicate_succ, List.replicate_succ, List.flatten_cons, List.flatten_cons]
    exact DqAll.app t (dqAll_rep t n)
theorem fd_mul_list {ds : List D} (h1 : -(2 ^ 63) ≤ i) (h2 : i < 2 ^ 63) (c : ds.length * i.toNat ≤ sizeLine) (q : Q true (.list (List.replicate i.toNat ds).flatten)) : FD X (binaryOp .Mult) (.list ds) (.int i) Q := fun I H v u s rv ru R k => by
  obtain ⟨a, xs, rfl, ha, t⟩ := rv.lst
  rw [ru.int]
  exact ⟨_, op_rep, a, i, xs, rfl, rfl, s.lst ha, h1, h2, by rw [t.len]; exact c, fun p n => k.lst s (dqAll_rep t _) q n⟩
/-! places -/
theorem atI_map {α β : Type} {f : α → β} {xs : List α} {i : Int} : atI (xs.map f) i = (atI xs i).map f := by
  unfold atI
  rw [List.length_map]
  cases ixN xs.length i with
  | none => rfl
  | some j => simp
theorem DqAll.atI {I : Hp} {xs : List V} {ds : List D} {i : Int} {d : D} (t : DqAll I xs ds) (h : L2.atI ds i = some d) : ∃ v, L2.atI xs i = some v ∧ Dq I v d := by
  unfold L2.atI at h ⊢
  rw [← t.len] at h
  cases e : ixN xs.length i with
  | none => rw [e] at h; cases h
  | some j =>
    rw [e] at h
    exact t.get h
theorem id_list {ds : List D} {d : D} (h : atI ds i = some d) (q : Q false d) : ID X (.list ds) (.int i) Q := fun I H v u s rv ru R k => by
  obtain ⟨a, xs, rfl, ha, t⟩ := rv.lst
  rw [ru.int]
  obtain ⟨v, hv, r⟩ := t.atI h
  exact ⟨_, ix_list, a, xs, i, v, rfl, rfl, SqL.of (s.lst ha), hv, k.val s ⟨.inl r⟩ q⟩
theorem id_tuple {ds : List D} {d : D} (h : atI ds i = some d) (q : Q false d) : ID X (.tuple ds) (.int i) Q := fun I H v u s rv ru R k => by
  obtain ⟨a, xs, rfl, ha, t⟩ := rv.tup
  rw [ru.int]
  obtain ⟨v, hv, r⟩ := t.atI h
  exact ⟨_, ix_tup, a, xs, i, v, rfl, rfl, (s.tup ha).sq, hv, k.val s ⟨.inl r⟩ q⟩
theorem id_str {c : Nat} (hz : x.length ≤ sizeLine) (h : atI x.cps.toList i = some c) (q : Q false (.str ⟨#[c]⟩)) : ID X (.str x) (.int i) Q := fun I H v u s rv ru R k => by
  rw [rv.str, ru.int]
  exact ⟨_, ix_str, x, i, c, rfl, rfl, hz, h, k.val s .mkStr q⟩
theorem id_script {ns : List Int} {n : Int} (h : atI ns i = some n) (q : Q false (.int n)) : ID X (scriptD ns) (.int i) Q := fun I H v u s rv ru R k => by
  obtain ⟨a, rfl, ha⟩ := rv.script
  rw [ru.int]
  exact ⟨_, ix_list, a, _, i, .int n, rfl, rfl, ha.sq s, by rw [atI_map, h]; rfl, k.val s .mkInt q⟩
/-! slices -/
theorem dqAll_cut {I : Hp} {xs : List V} {ds : List D} (t : DqAll I xs ds) (lo hi : Option Int) : DqAll I (cutV xs lo hi) (cut ds lo hi) := by
  unfold cutV cut
  rw [t.len]
  exact DqAll.take _ (DqAll.drop _ t)
theorem ld_list {ds : List D} {lo hi : Option Int} (q : Q true (.list (cut ds lo hi))) : LD X (.list ds) lo hi Q := fun I H v s rv R k => by
  obtain ⟨a, xs, rfl, ha, t⟩ := rv.lst
  exact ⟨_, sl_list, a, xs, rfl, SqL.of (s.lst ha), fun p n => k.lst s (dqAll_cut t lo hi) q n⟩
theorem ld_tuple {ds : List D} {lo hi : Option Int} (q : Q false (.tuple (cut ds lo hi))) : LD X (.tuple ds) lo hi Q := fun I H v s rv R k => by
  obtain ⟨a, xs, rfl, ha, t⟩ := rv.tup
  refine ⟨_, sl_tupF, a, xs, rfl, (s.tup ha).sq, fun ⟨h1, h2⟩ => ?_, fun p o od n => k.tup s (dqAll_cut t lo hi) q od n⟩
  rw [t.len] at h1 h2
  have e : cut ds lo hi = ds := by
    unfold cut
    rw [h1, h2, List.drop_zero, Nat.sub_zero, List.take_length]
  rw [e] at q
  exact k.val s rv q
theorem ld_str {lo hi : Option Int} (hz : x.length ≤ sizeLine) (q : Q false (.str (cutS x lo hi))) : LD X (.str x) lo hi Q := fun I H v s rv R k => by
  rw [rv.str]
  exact ⟨_, sl_str, x, rfl, hz, k.val s .mkStr q⟩
/-! built-ins -/
theorem kd_one {K : PySem.W.Frag} {I : Hp} {vs : List V} {d : D} (r : Paired (Rv K I) vs [d]) : ∃ v, vs = [v] ∧ Rv K I v d := by
  cases r with
  | cons h t => cases t; exact ⟨_, rfl, h⟩
theorem kd_len_list {ds : List D} (q : Q false (.int ds.length)) : KD X (.builtin "len") [.list ds] Q := fun I H vs s r R k => by
  obtain ⟨v, rfl, r'⟩ := kd_one r
  obtain ⟨a, xs, rfl, ha, t⟩ := r'.lst
  rw [← t.len] at q
  exact ⟨_, call_len_seq, a, xs, rfl, .inl (SqL.of (s.lst ha)), k.val s .mkInt q⟩
theorem kd_len_tuple {ds : List D} (q : Q false (.int ds.length)) : KD X (.builtin "len") [.tuple ds] Q := fun I H vs s r R k => by
  obtain ⟨v, rfl, r'⟩ := kd_one r
  obtain ⟨a, xs, rfl, ha, t⟩ := r'.tup
  rw [← t.len] at q
  exact ⟨_, call_len_seq, a, xs, rfl, .inr ((s.tup ha).sq), k.val s .mkInt q⟩
theorem kd_len_str (hz : x.length ≤ sizeLine) (q : Q false (.int x.length)) : KD X (.builtin "len") [.str x] Q := fun I H vs s r R k => by
  obtain ⟨v, rfl, r'⟩ := kd_one r
  rw [r'.str]
  exact ⟨_, call_len_str, x, rfl, hz, k.val s .mkInt q⟩
theorem kd_len_script {ns : List Int} (q : Q false (.int ns.length)) : KD X (.builtin "len") [scriptD ns] Q := fun I H vs s r R k => by
  obtain ⟨v, rfl, r'⟩ := kd_one r
  obtain ⟨a, rfl, ha⟩ := r'.script
  refine ⟨_, call_len_seq, a, _, rfl, .inl (ha.sq s), ?_⟩
  rw [List.length_map]
  exact k.val s .mkInt q
theorem kd_all {bs : List Bool} (hc : X.calm = true) (q : Q false (.bool (bs.all id))) : KD X (.builtin "all") [.list (bs.map .bool)] Q := fun I H vs s r R k => by
  obtain ⟨v, rfl, r'⟩ := kd_one r
  obtain ⟨a, xs, rfl, ha, t⟩ := r'.lst
  rw [DqAll.bls t] at ha
  exact ⟨_, cr_all hc, a, bs, rfl, SqL.of (s.lst ha), k.val s .mkBl q⟩
theorem kd_any {bs : List Bool} (hc : X.calm = true) (q : Q false (.bool (bs.any id))) : KD X (.builtin "any") [.list (bs.map .bool)] Q := fun I H vs s r R k => by
  obtain ⟨v, rfl, r'⟩ := kd_one r
  obtain ⟨a, xs, rfl, ha, t⟩ := r'.lst
  rw [DqAll.bls t] at ha
  exact ⟨_, cr_any hc, a, bs, rfl, SqL.of (s.lst ha), k.val s .mkBl q⟩
theorem kd_sum {ns : List Int} (hc : X.calm = true) (q : Q false (.int ns.sum)) : KD X (.builtin "sum") [.list (ns.map .int)] Q := fun I H vs s r R k => by
  obtain ⟨v, rfl, r'⟩ := kd_one r
  obtain ⟨a, xs, rfl, ha, t⟩ := r'.lst
  rw [DqAll.ints t] at ha
  exact ⟨_, cr_sum hc, a, ns, rfl, SqL.of (s.lst ha), k.val s .mkInt q⟩
theorem kd_int_bool {b : Bool} (q : Q false (.int (if b then 1 else 0))) : KD X (.type "int") [.bool b] Q := fun I H vs s r R k => by
  obtain ⟨v, rfl, r'⟩ := kd_one r
  rw [r'.bl]
  exact ⟨_, call_int1, .inr ⟨b, rfl, k.val s .mkInt q⟩⟩
theorem kd_list_list {ds : List D} (q : Q true (.list ds)) : KD X (.type "list") [.list ds] Q := fun I H vs s r R k => by
  obtain ⟨v, rfl, r'⟩ := kd_one r
  obtain ⟨a, xs, rfl, ha, t⟩ := r'.lst
  exact ⟨_, call_list_of, a, xs, rfl, .inl (SqL.of (s.lst ha)), fun p n => k.lst s t q n⟩
theorem kd_list_tuple {ds : List D} (q : Q true (.list ds)) : KD X (.type "list") [.tuple ds] Q := fun I H vs s r R k => by
  obtain ⟨v, rfl, r'⟩ := kd_one r
  obtain ⟨a, xs, rfl, ha, t⟩ := r'.tup
  exact ⟨_, call_list_of, a, xs, rfl, .inr ((s.tup ha).sq), fun p n => k.lst s t q n⟩
theorem kd_tuple_list {ds : List D} (q : Q false (.tuple ds)) : KD X (.type "tuple") [.list ds] Q := fun I H vs s r R k => by
  obtain ⟨v, rfl, r'⟩ := kd_one r
  obtain ⟨a, xs, rfl, ha, t⟩ := r'.lst
  exact ⟨_, call_tuple_ofF, a, xs, rfl, .inl ⟨SqL.of (s.lst ha), fun p o od n => k.tup s t q od n⟩⟩
theorem kd_tuple_tuple {ds : List D} (q : Q false (.tuple ds)) : KD X (.type "tuple") [.tuple ds] Q := fun I H vs s r R k => by
  obtain ⟨v, rfl, r'⟩ := kd_one r
  obtain ⟨a, xs, e, ha, t⟩ := id r'.tup
  subst e
  exact ⟨_, call_tuple_ofF, a, xs, rfl, .inr ⟨(s.tup ha).sq, k.val s r' q⟩⟩
/-! methods of texts -/
theorem md_startswith (q : Q false (.bool (Txt.startswith x y))) : MD X "str.startswith" x [.str y] Q := fun I H vs s r R k => by
  obtain ⟨v, rfl, r'⟩ := kd_one r
  rw [r'.str]
  exact ⟨_, mt_startswith, x, y, rfl, rfl, k.val s .mkBl q⟩
theorem md_join {ys : List Str} (hz : (ys.map (·.length)).sum + ys.length * x.length ≤ 16777216) (q : Q false (.str (Txt.join x ys))) : MD X "str.join" x [.list (ys.map .str)] Q := fun I H vs s r R k => by
  obtain ⟨v, rfl, r'⟩ := kd_one r
  obtain ⟨a, xs, rfl, ha, t⟩ := r'.lst
  rw [DqAll.strs t] at ha
  exact ⟨_, mt_join, x, a, ys, rfl, rfl, .inl (SqL.of (s.lst ha)), hz, k.val s .mkStr q⟩
end
/-! isinstance -/
def tyD : D → String
  | .none => "NoneType"
  | .bool _ => "bool"
  | .int _ => "int"
  | .str _ => "str"
  | .list _ => "list"
  | .tuple _ => "tuple"
  | .dict _ => "dict"
def isTy (T : String) : D → Bool
  | .bool _ => T == "bool" || T == "int"
  | d => tyD d == T
theorem Rv.tyX {K : PySem.W.Frag} {I H : Hp} {v : V} {d : D} (s : Sub I H) (r : Rv K I v d) (n : nd d = true) : TyX K H v (.type (tyD d)) := by
  cases r.dp n with
  | non => exact .base .non
  | bl b => exact .base (.bl b)
  | int i => exact .base (.int i)
  | str z => exact .base (.str z)
  | lst h t => exact .base (.lst (s.lst h))
  | tup h t => obtain ⟨o, _, k⟩ := s.tup h; exact .fTuple k
theorem kit_isTy {K : PySem.W.Frag} {T : String} (hT : T = "int" ∨ T = "bool" ∨ T = "str" ∨ T = "tuple" ∨ T = "list") (d : D) (n : nd d = true) : PySem.W.kitOne K (.type (tyD d)) (.type T) = some (isTy T d) := by
  refine kit_ty ?_
  rcases hT with rfl | rfl | rfl | rfl | rfl <;> cases d <;> first | (cases n; done) | (simp only [tyD, isTy]; decide +kernel)
section
variable {X : Cx} {m : Bool} {ρ : List Sl} {W : Wx} {a : Expr} {pos p tp : Pos} {Q : Bool → D → List Sl → Prop}
theorem em_isi {T : String} (hT : T = "int" ∨ T = "bool" ∨ T = "str" ∨ T = "tuple" ∨ T = "list") {x : Str} (hm : X.mg "isinstance" = none) (hmT : X.mg x = none) (hx : bootBuiltins x = some (.type T)) (h : EM m X a ρ W fun _ d ρ1 => nd d = true ∧ Q false (.bool (isTy T d)) ρ1)
    (hg : Gl X "isinstance" := by rfl) (hgT : Gl X x := by rfl) (hn : x ≠ "__name__" := by decide) (hdb : (x == ("__debug__" : Str)) = false := by decide)
    (he : starEach [a, .Name x tp] X.env = (false, eval a X.env) :: starEach [.Name x tp] X.env := by rfl) (he2 : starEach [.Name x tp] X.env = (false, eval (.Name x tp) X.env) :: starEach [] X.env := by rfl) (hpl : (backTo pos (starEach [.Name x tp] X.env)).any (·.1) = false := by rfl) :
    EM m X (.Call (.Name "isinstance" p) [a, .Name x tp] [] pos) ρ W Q := fun σ I H ok xk R f =>
  ⟨_, pe_callB call_isi hg hm boot_isinstance (pa_cons pe_w (pa_cons (pe_bltn (v := .ty T) hgT hmT hx rfl hn hdb) pa_nil he2) he) (by decide) (by decide) he hpl, h.run ok xk fun v _ d ρ1 I1 H1 g1 r1 ⟨n, q⟩ =>
    ⟨v, .ty T, _, _, _, rfl, .ty T, r1.tyX (g1.env ok).sub n, kit_isTy hT d n, f _ false _ ρ1 I1 H1 g1 Rv.mkBl q⟩⟩
end
/-! targets by name -/
section
variable {X : Cx}
theorem pg_nm {K : PySem.W.Frag} {i : Nat} {x : Str} {pos : Pos} (hN : X.N.Nodup) (hi : X.N[i]? = some x := by rfl) (hx : Loc X.env.scope x := by first | exact Or.inl rfl | exact Or.inr rfl) (hf : X.fn x = true ∨ X.env.scope.names.lookup x = some .local := by first | exact .inl rfl | exact .inr rfl | assumption) : PG X (.Name x pos) (Tg.g K (.nm i)) := by
  unfold Tg.g
  exact pg_name hN hi hx hf
theorem pgs_0 {K : PySem.W.Frag} : PGs X [] (Tg.gs K []) := by
  unfold Tg.gs
  exact pgs_nil
theorem pgs_1 {K : PySem.W.Frag} {e : Expr} {es : List Expr} {t : Tg} {ts : List Tg} (h : PG X e (Tg.g K t)) (h2 : PGs X es (Tg.gs K ts)) (hs : (assignEach (e :: es) X.env).map (·.2) = assign e X.env :: (assignEach es X.env).map (·.2) := by rfl) : PGs X (e :: es) (Tg.gs K (t :: ts)) := by
  unfold Tg.gs
  exact pgs_cons h h2 hs
theorem pg_tp {es : List Expr} {k : Nat} {ts : List Tg} {pos : Pos} (hc : X.calm = true) (h : PGs X es (Tg.gs X.K ts)) (hn : (assignEach es X.env).length = ts.length := by rfl) (hst : (assignEach es X.env).findIdx? (·.1) = none := by rfl) : PG X (.Tuple es k pos) (Tg.g X.K (.tp ts)) := by
  unfold Tg.g
  exact pg_tup hc h hn hst
end
end Tt

namespace Tt
open PySem PySem.Spec PyProof.Rows L2

/-! ### lists and dicts of one's own -/
theorem EnvOk.mut {K : PySem.W.Frag} {I H : Hp} {σ : L2.St} {ρ : List Sl} {i : Nat} {q : Addr} {mo mo' : MO} {o : HO} (ok : EnvOk K I H σ ρ) (h : ρ[i]? = some (.mo q mo)) (ho : mo'.φ K I o) : Go false K σ ρ I H (ρ.set i (.mo q mo')) I (upd H q o) := by
  obtain ⟨v, hv, rfl, u, hu, _⟩ := ok.at h (fun z => nomatch z)
  have hl : i < ρ.length := (List.getElem?_eq_some_iff.mp h).1
  have fi : ft ρ i = [q] := ft_at h
  have qi : q ∈ ft ρ i := by rw [fi]; exact List.mem_singleton.mpr rfl
  have nI : I q = none := ok.out i q qi
  have fs : ∀ j, ft (ρ.set i (.mo q mo')) j = ft ρ j := fun j => by
    rw [ft_set]
    split
    · rename_i z
      rw [← z.1, fi]
      rfl
    · rfl
  have mts : ∀ a, Mt (ρ.set i (.mo q mo')) a → Mt ρ a := fun a ⟨j, hj⟩ => ⟨j, by rw [← fs j]; exact hj⟩
  refine ⟨⟨by rw [List.length_set]; exact ok.len, fun j s e => ?_, fun j => by rw [fs]; exact ok.nd j, fun j k a h1 h2 => ok.dj j k a (by rw [← fs j]; exact h1) (by rw [← fs k]; exact h2), fun j a h1 => ok.out j a (by rw [← fs j]; exact h1), fun a u' e => ?_⟩, ⟨Same.refl I, fun a u' e n => ?_, fun _ _ _ n _ => n, fun a m => .inl (mts a m), fun a u' e => ?_⟩, mts⟩
  · by_cases z : i = j
    · subst z
      rw [List.getElem?_set_self hl] at e
      cases e
      rw [hv]
      exact ⟨rfl, o, upd_same, ho⟩
    · rw [List.getElem?_set_ne z] at e
      refine (ok.ok j s e).grow (Same.refl I) fun a u' ha e2 => ?_
      rw [upd_ne]
      · exact e2
      · intro z2
        subst z2
        exact z (ok.dj i j a qi (by rw [ft_at e]; exact ha))
  · rw [upd_ne (ne_of_none e nI)]
    exact ok.sub a u' e
  · rw [upd_ne]
    · exact e
    · intro z
      subst z
      exact n ⟨i, qi⟩
  · by_cases z : a = q
    · subst z
      exact ⟨o, upd_same⟩
    · exact ⟨u', by rw [upd_ne z]; exact e⟩
/-- an object that one holds alone told of as data from now on -/
def Fz (mo : MO) (d : D) : Prop := ∀ K I o p, I p = none → mo.φ K I o → Rv K (upd I p o) (.ref p) d
theorem fz_lst (ds : List D) : Fz (.lst ds) (.list ds) := fun K I o p n ⟨xs, e, t⟩ => by
  subst e
  exact Rv.mkL upd_same (DqAll.same (fun a u e => by rw [upd_ne (ne_of_none e n)]; exact e) t)
theorem EnvOk.freeze {K : PySem.W.Frag} {I H : Hp} {σ : L2.St} {ρ : List Sl} {i : Nat} {q : Addr} {mo : MO} {d : D} (ok : EnvOk K I H σ ρ) (h : ρ[i]? = some (.mo q mo)) (f : Fz mo d) :
    ∃ J, Same I J ∧ EnvOk K J H σ (ρ.set i (.va d)) ∧ (∀ a, J a ≠ none → I a = none → a = q) ∧ J q ≠ none := by
  obtain ⟨v, hv, rfl, u, hu, hφ⟩ := ok.at h (fun z => nomatch z)
  have hl : i < ρ.length := (List.getElem?_eq_some_iff.mp h).1
  have fi : ft ρ i = [q] := ft_at h
  have qi : q ∈ ft ρ i := by rw [fi]; exact List.mem_singleton.mpr rfl
  have nI : I q = none := ok.out i q qi
  have ij : Same I (upd I q u) := fun a o e => by rw [upd_ne (ne_of_none e nI)]; exact e
  have fs : ∀ j a, a ∈ ft (ρ.set i (.va d)) j → a ∈ ft ρ j ∧ j ≠ i := fun j a hj => by
    rw [ft_set] at hj
    split at hj
    · cases hj
    · rename_i z
      refine ⟨hj, fun e => ?_⟩
      subst e
      exact z ⟨rfl, hl⟩
  refine ⟨upd I q u, ij, ⟨by rw [List.length_set]; exact ok.len, fun j s e => ?_, fun j => ?_, fun j k a h1 h2 => ok.dj j k a (fs j a h1).1 (fs k a h2).1, fun j a h1 => ?_, fun a o e => ?_⟩, fun a n1 n2 => ?_, by rw [upd_same]; exact fun z => nomatch z⟩
  · by_cases z : i = j
    · subst z
      rw [List.getElem?_set_self hl] at e
      cases e
      rw [hv]
      exact f K I u q nI hφ
    · rw [List.getElem?_set_ne z] at e
      exact (ok.ok j s e).grow ij fun _ _ _ e => e
  · rw [ft_set]
    split
    · exact List.nodup_nil
    · exact ok.nd j
  · obtain ⟨m, ne⟩ := fs j a h1
    rw [upd_ne (fun z => ne (ok.dj j i a m (by rw [z]; exact qi)))]
    exact ok.out j a m
  · by_cases z : a = q
    · subst z
      rw [upd_same] at e
      cases e
      exact .inl hu
    · rw [upd_ne z] at e
      exact ok.sub a o e
  · apply Decidable.byContradiction
    intro z
    rw [upd_ne z] at n1
    exact n1 n2
/-- what holds no address -/
def flat : D → Bool
  | .none | .bool _ | .int _ | .str _ => true
  | _ => false
theorem Rv.flat {K : PySem.W.Frag} {I J : Hp} {v : V} {d : D} (r : Rv K I v d) (f : flat d = true) : Rv K J v d := by
  rcases r.is with h | ⟨a, ks, _, rfl, rfl, _⟩ | ⟨a, ns, rfl, rfl, _⟩
  · cases h with
    | non => exact .mkNon
    | bl b => exact .mkBl
    | int i => exact .mkInt
    | str z => exact .mkStr
    | lst _ _ => cases f
    | tup _ _ => cases f
  · cases f
  · cases f
section
variable {X : Cx} {m : Bool} {ρ ρ1 : List Sl} {W : Wx} {a b c e : Expr} {es : List Expr} {pos p : Pos} {σ : L2.St} {I H I1 H1 : Hp} {E : DE} {Q : Bool → D → List Sl → Prop} {ss : List Stmt} {st : Stmt}
/-- from here on it is data -/
theorem sd_freeze (i : Nat) {q : Addr} {mo : MO} {d : D} (h0 : ρ[i]? = some (.mo q mo)) (f : Fz mo d) (h : SD X ss (ρ.set i (.va d)) W E) : SD X ss ρ W E := fun σ I H ok xk T k => by
  obtain ⟨J, ij, ok', hq, _⟩ := ok.freeze h0 f
  have mts : ∀ a, Mt (ρ.set i (.va d)) a → Mt ρ a := fun a m => (mt_set m).elim id fun z => by cases z
  have qm : Mt ρ q := ⟨i, by rw [ft_at h0]; exact List.mem_singleton.mpr rfl⟩
  have st : Step I H (Mt ρ) J H (Mt (ρ.set i (.va d))) := ⟨ij, fun _ _ e _ => e, fun a o e n nm => by
    cases z : J a with
    | none => rfl
    | some u => exact absurd (by rw [hq a (by rw [z]; exact fun z => nomatch z) n]; exact qm) nm, fun a m => .inl (mts a m), fun a o e => ⟨o, e⟩⟩
  exact h σ J H ok' (xk.step st) T (k.step st)
/-- looked at as data for a while; what comes of it holds no address -/
theorem em_view (i : Nat) {q : Addr} {mo : MO} {d : D} (h0 : ρ[i]? = some (.mo q mo)) (f : Fz mo d) (h : EM true X e (ρ.set i (.va d)) W fun _ x _ => flat x = true ∧ Q false x ρ) : EM m X e ρ W Q := fun σ I H ok xk R k => by
  obtain ⟨J, ij, ok', hq, _⟩ := ok.freeze h0 f
  have mts : ∀ a, Mt (ρ.set i (.va d)) a → Mt ρ a := fun a m => (mt_set m).elim id fun z => by cases z
  have qm : Mt ρ q := ⟨i, by rw [ft_at h0]; exact List.mem_singleton.mpr rfl⟩
  have st : Step I H (Mt ρ) J H (Mt (ρ.set i (.va d))) := ⟨ij, fun _ _ e _ => e, fun a o e n nm => by
    cases z : J a with
    | none => rfl
    | some u => exact absurd (by rw [hq a (by rw [z]; exact fun z => nomatch z) n]; exact qm) nm, fun a m => .inl (mts a m), fun a o e => ⟨o, e⟩⟩
  refine EM.run h ok' (xk.step st) fun v o x ρ' I' H' g r ⟨fx, q⟩ => ?_
  obtain ⟨_, g⟩ := g
  exact k v false x ρ I H' (Go.of ok ⟨Same.refl I, g.hh, Sub.same (ij.trans g.ii) g.sub, fun _ _ _ n => n⟩) (r.flat fx) q
theorem tm_view (i : Nat) {q : Addr} {mo : MO} {d : D} {QT : Bool → List Sl → Prop} (h0 : ρ[i]? = some (.mo q mo)) (f : Fz mo d) (h : TM true X e (ρ.set i (.va d)) W fun x _ => QT x ρ) : TM m X e ρ W QT := fun σ I H ok xk R k => by
  obtain ⟨J, ij, ok', hq, _⟩ := ok.freeze h0 f
  have mts : ∀ a, Mt (ρ.set i (.va d)) a → Mt ρ a := fun a m => (mt_set m).elim id fun z => by cases z
  have qm : Mt ρ q := ⟨i, by rw [ft_at h0]; exact List.mem_singleton.mpr rfl⟩
  have st : Step I H (Mt ρ) J H (Mt (ρ.set i (.va d))) := ⟨ij, fun _ _ e _ => e, fun a o e n nm => by
    cases z : J a with
    | none => rfl
    | some u => exact absurd (by rw [hq a (by rw [z]; exact fun z => nomatch z) n]; exact qm) nm, fun a m => .inl (mts a m), fun a o e => ⟨o, e⟩⟩
  refine h σ J H ok' (xk.step st) R fun x ρ' I' H' g q => ?_
  obtain ⟨_, g⟩ := g
  exact k x ρ I H' (Go.of ok ⟨Same.refl I, g.hh, Sub.same (ij.trans g.ii) g.sub, fun _ _ _ n => n⟩) q
/-- the name of a list of one's own -/
theorem own_at {i : Nat} {q : Addr} {ds : List D} (ok : EnvOk X.K I H σ ρ) (h0 : ρ[i]? = some (.mo q (.lst ds))) : ∃ xs, σ[i]? = some (some (.ref q)) ∧ H q = some (.lst xs) ∧ DqAll I xs ds := by
  obtain ⟨v, hv, rfl, u, hu, xs, rfl, t⟩ := ok.at h0 (fun z => nomatch z)
  exact ⟨xs, hv, hu, t⟩
/-- xs[k], an item of a list of one's own -/
theorem em_ixOwn (i : Nat) {x : Str} {q : Addr} {ds : List D} {p' : Pos} (h0 : ρ[i]? = some (.mo q (.lst ds))) (hs : PlainIx b) (h : EM m X b ρ W fun _ y ρ2 => ∃ k ds' d, y = .int k ∧ ρ2[i]? = some (.mo q (.lst ds')) ∧ atI ds' k = some d ∧ Q false d ρ2) (hN : X.N[i]? = some x := by rfl) (hv : Vis X.env.scope x := by first | exact Or.inl rfl | exact Or.inr (Or.inl rfl) | exact Or.inr (Or.inr rfl))
    (hd : (x == ("__debug__" : Str)) = false := by decide) (hcd : (x == ("__classdict__" : Str)) = false := by decide) : EM m X (.Subscript (.Name x p') b pos) ρ W Q := fun σ I H ok xk R f => by
  obtain ⟨xs, hσ, _, _⟩ := own_at ok h0
  refine ⟨_, pe_ix ix_list (pe_var hN hv hd hcd) pe_w hs, _, hσ, ?_⟩
  refine EM.run h ok xk fun v _ y ρ2 I2 H2 g2 r2 ⟨k, ds', d, e, h2, hd, q2⟩ => ?_
  subst e
  obtain ⟨xs', _, hq, t⟩ := own_at (g2.env ok) h2
  obtain ⟨z, hz, rz⟩ := t.atI hd
  rw [r2.int]
  exact ⟨q, xs', k, z, rfl, rfl, SqL.of hq, hz, f z false d ρ2 I2 H2 g2 ⟨.inl rz⟩ q2⟩
theorem tyL {K : PySem.W.Frag} {H : Hp} {q : Addr} {xs : List V} (h : H q = some (.lst xs)) : tyV K "list" (.ref q) H := .inl ⟨rfl, xs, SqL.of h⟩
/-- xs.append(e) -/
theorem em_append (i : Nat) {x : Str} {q : Addr} {ds : List D} {p' apos cpos : Pos} (h0 : ρ[i]? = some (.mo q (.lst ds)))
    (h : EM false X e ρ W fun _ y ρ2 => ∃ ds', nd y = true ∧ ρ2[i]? = some (.mo q (.lst ds')) ∧ ds'.length < sizeLine ∧ Q false .none (ρ2.set i (.mo q (.lst (ds' ++ [y]))))) (hN : X.N[i]? = some x := by rfl) (hv : Vis X.env.scope x := by first | exact Or.inl rfl | exact Or.inr (Or.inl rfl) | exact Or.inr (Or.inr rfl))
    (hd : (x == ("__debug__" : Str)) = false := by decide) (hcd : (x == ("__classdict__" : Str)) = false := by decide)
    (hbase : attributeBase (.Name x p') "append" X.env (eval (.Name x p') X.env) = eval (.Name x p') X.env := by rfl)
    (hfew : ((backTo cpos (starEach (e :: []) X.env)).all (fun x => !x.1) && (backToKw cpos (keywordEach [] X.env)).all (fun x => x.1.isSome)
      && decide ((e :: ([] : List Expr)).length + ([] : List Keyword).length + (if ([] : List Keyword).isEmpty then 0 else 1) < 30)) = true := by rfl)
    (hline : (apos.endLine == cpos.line) = true := by rfl) (hs : starEach [e] X.env = (false, eval e X.env) :: starEach [] X.env := by rfl) (hplain : (backTo cpos (starEach [] X.env)).any (·.1) = false := by rfl) :
    EM false X (.Call (.Attribute (.Name x p') "append" apos) [e] [] cpos) ρ W Q := fun σ I H ok xk R f => by
  obtain ⟨xs, hσ, hH, _⟩ := own_at ok h0
  refine ⟨_, pe_bm PySem.F.plainAttrs_list PySem.F.slot_list_append PySem.F.type_list_append mt_append (pe_var hN hv hd hcd) (pa_cons pe_w pa_nil hs) hbase hfew hline hs hplain, _, hσ, tyL hH, ?_⟩
  refine EM.run h ok xk fun v _ y ρ2 I2 H2 g2 r2 ⟨ds', ny, h2, hl, q2⟩ => ?_
  have ok2 := g2.env ok
  obtain ⟨xs', _, hq, t⟩ := own_at ok2 h2
  have g := ok2.mut (mo' := .lst (ds' ++ [y])) h2 ⟨_, rfl, DqAll.app t (.cons (r2.dp ny) .nil)⟩
  exact ⟨q, xs', v, rfl, rfl, hq, by rw [t.len]; exact hl, f _ false _ _ _ _ (g2.trans g) Rv.mkNon q2⟩
/-- xs.extend(e), e a list -/
theorem em_extend (i : Nat) {x : Str} {q : Addr} {ds : List D} {p' apos cpos : Pos} (h0 : ρ[i]? = some (.mo q (.lst ds)))
    (h : EM false X e ρ W fun _ y ρ2 => ∃ ds' es, y = .list es ∧ ρ2[i]? = some (.mo q (.lst ds')) ∧ ds'.length + es.length ≤ sizeLine ∧ Q false .none (ρ2.set i (.mo q (.lst (ds' ++ es))))) (hN : X.N[i]? = some x := by rfl) (hv : Vis X.env.scope x := by first | exact Or.inl rfl | exact Or.inr (Or.inl rfl) | exact Or.inr (Or.inr rfl))
    (hd : (x == ("__debug__" : Str)) = false := by decide) (hcd : (x == ("__classdict__" : Str)) = false := by decide)
    (hbase : attributeBase (.Name x p') "extend" X.env (eval (.Name x p') X.env) = eval (.Name x p') X.env := by rfl)
    (hfew : ((backTo cpos (starEach (e :: []) X.env)).all (fun x => !x.1) && (backToKw cpos (keywordEach [] X.env)).all (fun x => x.1.isSome)
      && decide ((e :: ([] : List Expr)).length + ([] : List Keyword).length + (if ([] : List Keyword).isEmpty then 0 else 1) < 30)) = true := by rfl)
    (hline : (apos.endLine == cpos.line) = true := by rfl) (hs : starEach [e] X.env = (false, eval e X.env) :: starEach [] X.env := by rfl) (hplain : (backTo cpos (starEach [] X.env)).any (·.1) = false := by rfl) :
    EM false X (.Call (.Attribute (.Name x p') "extend" apos) [e] [] cpos) ρ W Q := fun σ I H ok xk R f => by
  obtain ⟨xs, hσ, hH, _⟩ := own_at ok h0
  refine ⟨_, pe_bm PySem.F.plainAttrs_list PySem.F.slot_list_extend PySem.F.type_list_extend mt_extend (pe_var hN hv hd hcd) (pa_cons pe_w pa_nil hs) hbase hfew hline hs hplain, _, hσ, tyL hH, ?_⟩
  refine EM.run h ok xk fun v _ y ρ2 I2 H2 g2 r2 ⟨ds', es, ey, h2, hl, q2⟩ => ?_
  subst ey
  have ok2 := g2.env ok
  obtain ⟨xs', _, hq, t⟩ := own_at ok2 h2
  obtain ⟨b, zs, rfl, hb, t'⟩ := r2.lst
  have g := ok2.mut (mo' := .lst (ds' ++ es)) h2 ⟨_, rfl, DqAll.app t t'⟩
  exact ⟨q, b, xs', zs, rfl, rfl, hq, ok2.sub.lst hb, by rw [t.len, t'.len]; exact hl, f _ false _ _ _ _ (g2.trans g) Rv.mkNon q2⟩
/-- xs.pop() -/
theorem em_pop (i : Nat) {x : Str} {q : Addr} {ds : List D} {d : D} {p' apos cpos : Pos} (h0 : ρ[i]? = some (.mo q (.lst (ds ++ [d])))) (h : Q false d (ρ.set i (.mo q (.lst ds)))) (hN : X.N[i]? = some x := by rfl) (hv : Vis X.env.scope x := by first | exact Or.inl rfl | exact Or.inr (Or.inl rfl) | exact Or.inr (Or.inr rfl))
    (hd : (x == ("__debug__" : Str)) = false := by decide) (hcd : (x == ("__classdict__" : Str)) = false := by decide)
    (hbase : attributeBase (.Name x p') "pop" X.env (eval (.Name x p') X.env) = eval (.Name x p') X.env := by rfl) (hline : (apos.endLine == cpos.line) = true := by rfl) :
    EM false X (.Call (.Attribute (.Name x p') "pop" apos) [] [] cpos) ρ W Q := fun σ I H ok xk R f => by
  obtain ⟨xs, hσ, hH, t⟩ := own_at ok h0
  have el : xs.length = ds.length + 1 := by rw [t.len, List.length_append]; rfl
  obtain ⟨y, hy, ry⟩ := t.get (i := ds.length) (d := d) (by simp)
  have td : DqAll I xs.dropLast ds := by
    have := t.dropLast
    rwa [List.dropLast_concat] at this
  have g := ok.mut (mo' := .lst ds) h0 ⟨_, rfl, td⟩
  refine ⟨_, pe_bm0 PySem.F.plainAttrs_list PySem.F.slot_list_pop PySem.F.type_list_pop mt_pop (pe_var hN hv hd hcd) hbase hline, _, hσ, tyL hH, q, xs, y, rfl, rfl, hH, by rw [el]; exact hy, ?_⟩
  exact f y false d _ _ _ g ⟨.inl ry⟩ h
/-- xs.pop(k) -/
theorem em_popAt (i : Nat) {x : Str} {q : Addr} {ds : List D} {p' apos cpos : Pos} (h0 : ρ[i]? = some (.mo q (.lst ds)))
    (h : EM false X e ρ W fun _ y ρ2 => ∃ ds' k d, y = .int (k : Nat) ∧ ρ2[i]? = some (.mo q (.lst ds')) ∧ ds'.length ≤ sizeLine ∧ ds'[k]? = some d ∧ Q false d (ρ2.set i (.mo q (.lst (ds'.eraseIdx k))))) (hN : X.N[i]? = some x := by rfl) (hv : Vis X.env.scope x := by first | exact Or.inl rfl | exact Or.inr (Or.inl rfl) | exact Or.inr (Or.inr rfl))
    (hd : (x == ("__debug__" : Str)) = false := by decide) (hcd : (x == ("__classdict__" : Str)) = false := by decide)
    (hbase : attributeBase (.Name x p') "pop" X.env (eval (.Name x p') X.env) = eval (.Name x p') X.env := by rfl)
    (hfew : ((backTo cpos (starEach (e :: []) X.env)).all (fun x => !x.1) && (backToKw cpos (keywordEach [] X.env)).all (fun x => x.1.isSome)
      && decide ((e :: ([] : List Expr)).length + ([] : List Keyword).length + (if ([] : List Keyword).isEmpty then 0 else 1) < 30)) = true := by rfl)
    (hline : (apos.endLine == cpos.line) = true := by rfl) (hs : starEach [e] X.env = (false, eval e X.env) :: starEach [] X.env := by rfl) (hplain : (backTo cpos (starEach [] X.env)).any (·.1) = false := by rfl) :
    EM false X (.Call (.Attribute (.Name x p') "pop" apos) [e] [] cpos) ρ W Q := fun σ I H ok xk R f => by
  obtain ⟨xs, hσ, hH, _⟩ := own_at ok h0
  refine ⟨_, pe_bm PySem.F.plainAttrs_list PySem.F.slot_list_pop PySem.F.type_list_pop mt_popAt (pe_var hN hv hd hcd) (pa_cons pe_w pa_nil hs) hbase hfew hline hs hplain, _, hσ, tyL hH, ?_⟩
  refine EM.run h ok xk fun v _ y ρ2 I2 H2 g2 r2 ⟨ds', k, d, ey, h2, hz, hk, q2⟩ => ?_
  subst ey
  have ok2 := g2.env ok
  obtain ⟨xs', _, hq, t⟩ := own_at ok2 h2
  obtain ⟨z, hz', rz⟩ := t.get hk
  have hl : k < ds'.length := (List.getElem?_eq_some_iff.mp hk).1
  have g := ok2.mut (mo' := .lst (ds'.eraseIdx k)) h2 ⟨_, rfl, t.erase k⟩
  rw [r2.int]
  have hz2 := hz
  rw [sizeLine_eq] at hz2
  have sx : seqIndex? (k : Int) xs'.length = some k := (atI_get (xs := xs') (i := (k : Int)) (v := z) (atI_nat hz')).elim fun j hj => by
    have e2 : j = k := by
      have h3 := (ixN_seq (n := xs'.length) (i := (k : Int)) (j := k) (by unfold ixN; rw [if_pos (by omega), if_pos (by rw [t.len]; omega)]; simp)).1
      rw [hj.1] at h3
      exact Option.some.inj h3
    rw [← e2]
    rw [e2]
    rw [e2] at hj
    exact hj.1
  exact ⟨q, xs', (k : Int), k, z, rfl, rfl, hq, by omega, by omega, sx, hz', f z false d _ _ _ (g2.trans g) ⟨.inl rz⟩ q2⟩
/-- xs[k] = e -/
theorem s1_setItem (i : Nat) {x : Str} {q : Addr} {ds : List D} {p' p2 : Pos} (h0 : ρ[i]? = some (.mo q (.lst ds)))
    (h : EM false X e ρ W fun _ y ρ2 => nd y = true ∧ ∃ ds2, ρ2[i]? = some (.mo q (.lst ds2)) ∧ EM false X b ρ2 W fun _ kk ρ3 => ∃ ds3 k, kk = .int (k : Nat) ∧ ρ3[i]? = some (.mo q (.lst ds3)) ∧ k < ds3.length ∧ E.nx (ρ3.set i (.mo q (.lst (ds3.set k y))))) (hN : X.N[i]? = some x := by rfl) (hv : Vis X.env.scope x := by first | exact Or.inl rfl | exact Or.inr (Or.inl rfl) | exact Or.inr (Or.inr rfl))
    (hd : (x == ("__debug__" : Str)) = false := by decide) (hcd : (x == ("__classdict__" : Str)) = false := by decide)
    (ha : ∀ v, assign (.Subscript (.Name x p') b p2) X.env v = (do
      let ov ← holding [v] (eval (.Name x p') X.env)
      let iv ← holding [v, ov] (eval b X.env)
      standAt p2
      holding [v, ov, iv] (setItem ov iv v)
      release [v, ov, iv] []) := by intro _; rfl)
    (hs : swapsWithSole [.Subscript (.Name x p') b p2] e pos.line X.env = pure false := by rfl) (hw : swappedStores [.Subscript (.Name x p') b p2] e X.env = pure none := by rfl) (h1 : List.map (fun x => x.snd) (assignEach [.Subscript (.Name x p') b p2] X.env) = [assign (.Subscript (.Name x p') b p2) X.env] := by rfl) :
    S1 X (.Assign [.Subscript (.Name x p') b p2] e pos) ρ W E := fun σ I H ok xk T k =>
  ⟨_, ps_asg pe_w (pg_sub (pe_var hN hv hd hcd) pe_w set_list ha) hs hw h1, EM.run h ok xk fun v _ y ρ2 I2 H2 g2 r2 ⟨ny, ds2, h2, q2⟩ => by
    have ok2 := g2.env ok
    obtain ⟨xs2, hσ, hH2, _⟩ := own_at ok2 h2
    refine ⟨_, hσ, EM.run q2 ok2 (xk.step g2.step) fun u _ kk ρ3 I3 H3 g3 r3 ⟨ds3, j, ek, h3, hl, q3⟩ => ?_⟩
    subst ek
    have ok3 := g3.env ok2
    obtain ⟨xs3, _, hH3, t3⟩ := own_at ok3 h3
    have g := ok3.mut (mo' := .lst (ds3.set j y)) h3 ⟨_, rfl, t3.set (Dq.same g3.ii (r2.dp ny)) j⟩
    rw [r3.int]
    have gg := (g2.trans g3).trans g
    refine ⟨q, xs3, (j : Int), j, rfl, rfl, hH3, ?_, k.nx _ _ _ _ (gg.env ok) gg.step q3⟩
    unfold ixN
    rw [if_pos (by omega), if_pos (by rw [t3.len]; omega)]
    simp⟩
/-- x op= e, data -/
def PD (X : Cx) (op : Operator) (x y : D) (Q : Bool → D → Prop) : Prop :=
  ∀ I H v u, Sub I H → Rv X.K I v x → Rv X.K I u y → ∀ R : VK, Res X I H Q R → wIp X op v u H R
theorem pd_add_int {i j : Int} {Q : Bool → D → Prop} (q : Q false (.int (i + j))) : PD X .Add (.int i) (.int j) Q := fun I H v u s rv ru R k => by
  rw [rv.int, ru.int]
  exact ⟨_, ip_add, i, j, rfl, rfl, k.val s .mkInt q⟩
theorem ip_str : PIp X .Add (fun x y H Q => ∃ i j, x = .str i ∧ y = .str j ∧ i.length + j.length ≤ sizeLine ∧ Q (.str (i ++ j)) H) := fun pins s σ H x y v u Q I rx ry h => iop_add_str pins s σ H x y v u Q I rx ry h
theorem pd_add_str {i j : Str} {Q : Bool → D → Prop} (c : i.length + j.length ≤ sizeLine) (q : Q false (.str (i ++ j))) : PD X .Add (.str i) (.str j) Q := fun I H v u s rv ru R k => by
  rw [rv.str, ru.str]
  exact ⟨_, ip_str, i, j, rfl, rfl, c, k.val s .mkStr q⟩
theorem s1_aug (i : Nat) {x : Str} {op : Operator} {d : D} {pos' : Pos} (hNd : X.N.Nodup) (h0 : ρ[i]? = some (.va d)) (h : EM false X e ρ W fun _ y ρ2 => PD X op d y fun _ z => E.nx (ρ2.set i (.va z))) (hi : X.N[i]? = some x := by rfl) (hx : Loc X.env.scope x := by first | exact Or.inl rfl | exact Or.inr rfl)
    (hf : X.fn x = true ∨ X.env.scope.names.lookup x = some .local := by first | exact .inl rfl | exact .inr rfl | assumption) : S1 X (.AugAssign (.Name x pos') op e pos) ρ W E := fun σ I H ok xk T k => by
  obtain ⟨v, hv, r⟩ := ok.at h0 (fun z => nomatch z)
  refine ⟨_, ps_aug hNd hi hx pe_w ip_w hf, v, hv, EM.run h ok xk fun u _ y ρ2 I2 H2 g2 r2 q2 => ?_⟩
  refine q2 I2 H2 v u (g2.env ok).sub (Rv.same g2.ii r) r2 _ fun z o d' I3 H3 g3 r3 q3 => ?_
  have g := g2.grow ok g3
  obtain ⟨J, g', r'⟩ := (r3.back g2.nn).data g ok
  obtain ⟨ok', st'⟩ := NewOk.put (i := i) (s := .va d') (NewOk.of_data r') ok g'
  exact k.nx _ _ _ _ ok' st' q3
end
end Tt

namespace Tt
open PySem PySem.Spec PyProof.Rows L2
theorem join0 (ys : List (List Nat)) : Txt.join (S []) (ys.map S) = S ys.flatten := by
  rw [TL.join_eq]
  induction ys with
  | nil => rfl
  | cons x r ih =>
    cases r with
    | nil =>
      show S x = S ([x] : List (List Nat)).flatten
      simp
    | cons y r =>
      show S x ++ S [] ++ Str.join (S []) ((y :: r).map S) = _
      rw [ih, S_app, S_app]
      simp
theorem startswith_S (a b : List Nat) : Txt.startswith (S a) (S b) = b.isPrefixOf a := by
  unfold Txt.startswith
  rw [PySem.StrLaws.subAt_eq]
  have e1 : (S a).length = a.length := S_len a
  have e2 : (S b).length = b.length := S_len b
  rw [e1, e2]
  have e3 : (S a).cps.toList = a := by simp [S]
  have e4 : (S b).cps.toList = b := by simp [S]
  rw [e3, e4, List.drop_zero, Nat.zero_add]
  apply Bool.eq_iff_iff.mpr
  rw [List.isPrefixOf_iff_prefix, Bool.and_eq_true, decide_eq_true_eq, beq_iff_eq, List.prefix_iff_eq_take]
  constructor
  · rintro ⟨_, h⟩
    exact h.symm
  · intro h
    refine ⟨?_, h.symm⟩
    have := congrArg List.length h
    rw [List.length_take] at this
    omega
section
variable {X : Cx} {m : Bool} {ρ : List Sl} {W : Wx} {e : Expr} {QO : Option Int → List Sl → Prop}
theorem om_none (h : QO none ρ) : OM m X none ρ W QO := h
theorem om_some (h : EM m X e ρ W fun _ d ρ1 => ∃ i, d = .int i ∧ QO (some i) ρ1) : OM m X (some e) ρ W QO := h
end
/-- the built-ins' names are the built-ins' -/
structure Bare (mg : Str → Option Value) : Prop where
  len : mg "len" = none
  all_ : mg "all" = none
  any_ : mg "any" = none
  sorted_ : mg "sorted" = none
  list_ : mg "list" = none
  tuple_ : mg "tuple" = none
  set_ : mg "set" = none
  range_ : mg "range" = none
  enumerate_ : mg "enumerate" = none
  zip_ : mg "zip" = none
  isinstance_ : mg "isinstance" = none
  int_ : mg "int" = none
  bool_ : mg "bool" = none
  str_ : mg "str" = none
  sum_ : mg "sum" = none
  min_ : mg "min" = none
  max_ : mg "max" = none
theorem small_line {n : Nat} (h : n ≤ 1000000) : n ≤ sizeLine := by
  rw [sizeLine_eq]
  omega
theorem boot_all : bootBuiltins "all" = some (.builtin "all") := by decide +kernel
theorem boot_any : bootBuiltins "any" = some (.builtin "any") := by decide +kernel
theorem boot_sum : bootBuiltins "sum" = some (.builtin "sum") := by decide +kernel
end Tt

namespace Tt
open PySem PySem.Spec PyProof.Rows L2

/-! ### tables -/
section
variable {α β κ : Type} [DecidableEq κ]
def fnd (key : α → κ) (l : List α) (k : κ) : Option α := l.find? fun x => decide (key x = k)
def ptb (key : α → κ) (l : List α) (k : κ) (f : α → α) (new : α) : List α := if (fnd key l k).isSome then l.map fun x => if key x = k then f x else x else l ++ [new]
def RO (R : α → β → Prop) : Option α → Option β → Prop
  | some a, some b => R a b
  | none, none => True
  | _, _ => False
theorem RO.isSome {R : α → β → Prop} {a : Option α} {b : Option β} (h : RO R a b) : a.isSome = b.isSome := by
  cases a <;> cases b <;> first | rfl | exact h.elim
theorem fnd_paired {ka : α → κ} {kb : β → κ} {R : α → β → Prop} (hk : ∀ a b, R a b → ka a = kb b) (k : κ) : ∀ {as : List α} {bs : List β}, Paired R as bs → RO R (fnd ka as k) (fnd kb bs k)
  | _, _, .nil => True.intro
  | _, _, .cons (a := a) (b := b) h t => by
    unfold fnd
    rw [List.find?_cons, List.find?_cons, ← hk a b h]
    by_cases e : ka a = k
    · rw [decide_eq_true e]
      exact h
    · rw [decide_eq_false e]
      exact fnd_paired hk k t
theorem paired_map2 {R R' : α → β → Prop} {f : α → α} {g : β → β} (h : ∀ a b, R a b → R' (f a) (g b)) : ∀ {as : List α} {bs : List β}, Paired R as bs → Paired R' (as.map f) (bs.map g)
  | _, _, .nil => .nil
  | _, _, .cons r t => .cons (h _ _ r) (paired_map2 h t)
theorem ptb_paired {ka : α → κ} {kb : β → κ} {R : α → β → Prop} (hk : ∀ a b, R a b → ka a = kb b) {k : κ} {f : α → α} {g : β → β} {na : α} {nb : β} (hf : ∀ a b, R a b → ka a = k → R (f a) (g b)) (hn : R na nb) {as : List α} {bs : List β} (p : Paired R as bs) : Paired R (ptb ka as k f na) (ptb kb bs k g nb) := by
  have e := (fnd_paired hk k p).isSome
  unfold ptb
  rw [e]
  split
  · refine paired_map2 (fun a b r => ?_) p
    by_cases z : ka a = k
    · rw [if_pos z, if_pos ((hk a b r).symm.trans z)]
      exact hf a b r z
    · rw [if_neg z, if_neg fun w => z ((hk a b r).trans w)]
      exact r
  · exact Paired.snoc p hn
theorem ptb_length {key : α → κ} {l : List α} {k : κ} {f : α → α} {new : α} : (ptb key l k f new).length ≤ l.length + 1 := by
  unfold ptb
  split
  · rw [List.length_map]; omega
  · rw [List.length_append]; simp
theorem fnd_ptb {key : α → κ} {k j : κ} {f : α → α} {new : α} (hf : ∀ a, key (f a) = key a) (hn : key new = k) : ∀ l : List α, fnd key (ptb key l k f new) j = if j = k then ((fnd key l k).map f).or (some new) else fnd key l j := by
  intro l
  have hm : ∀ l : List α, fnd key (l.map fun x => if key x = k then f x else x) j = if j = k then (fnd key l k).map f else fnd key l j := by
    intro l
    induction l with
    | nil => unfold fnd; split <;> rfl
    | cons x l ih =>
      unfold fnd at ih ⊢
      rw [List.map_cons, List.find?_cons]
      by_cases e : key x = k
      · rw [if_pos e, hf]
        by_cases z : j = k
        · rw [if_pos z, List.find?_cons, decide_eq_true e, decide_eq_true (e.trans z.symm)]
          rfl
        · rw [if_neg z, List.find?_cons, decide_eq_false (fun w => z (w.symm.trans e)), ih, if_neg z]
      · rw [if_neg e]
        by_cases w : key x = j
        · rw [decide_eq_true w]
          by_cases z : j = k
          · exact absurd (w.trans z) e
          · rw [if_neg z, List.find?_cons, decide_eq_true w]
        · rw [decide_eq_false w, ih]
          by_cases z : j = k
          · rw [if_pos z, if_pos z, List.find?_cons, decide_eq_false e]
          · rw [if_neg z, if_neg z, List.find?_cons, decide_eq_false w]
  unfold ptb
  cases e : fnd key l k with
  | some a =>
    rw [if_pos (show (some a).isSome = true from rfl), hm, e]
    rfl
  | none =>
    rw [if_neg (by simp)]
    unfold fnd at e ⊢
    rw [List.find?_append]
    by_cases z : j = k
    · subst z
      rw [if_pos rfl, e, List.find?_cons, decide_eq_true hn]
      rfl
    · rw [if_neg z, List.find?_cons, decide_eq_false (fun w => z (w.symm.trans hn)), List.find?_nil, Option.or_none]
theorem nodup_ptb {key : α → κ} {k : κ} {f : α → α} {new : α} (hf : ∀ a, key (f a) = key a) (hn : key new = k) {l : List α} (h : (l.map key).Nodup) : ((ptb key l k f new).map key).Nodup := by
  unfold ptb
  split
  · rename_i e
    have : (l.map fun x => if key x = k then f x else x).map key = l.map key := by
      rw [List.map_map]
      refine List.map_congr_left fun x _ => ?_
      show key (if key x = k then f x else x) = key x
      split
      · exact hf x
      · rfl
    rw [this]
    exact h
  · rename_i e
    rw [List.map_append, List.map_cons, List.map_nil, List.nodup_append]
    refine ⟨h, List.nodup_cons.mpr ⟨List.not_mem_nil, List.nodup_nil⟩, fun a ha b hb => ?_⟩
    rw [List.mem_singleton.mp hb, hn]
    intro z
    subst z
    obtain ⟨x, hx, e2⟩ := List.mem_map.mp ha
    refine e ?_
    unfold fnd
    rw [List.find?_isSome]
    exact ⟨x, hx, decide_eq_true e2⟩
end

/-! ### dicts whose keys are nested tuples -/
/-- an entry: the key, where its tuple stands, the value -/
abbrev EN := NestedKey × Addr × V
def RelN (w : World) (x : EN) (e : DictEntry) : Prop := ∃ u, RelV x.2.2 u ∧ e = ⟨x.1.hash w, .ref x.2.1, u⟩
def ndO (w : World) (a : Addr) (xs : List EN) : HO := .ext fun h => (a == sysModules) = false ∧ xs.length ≤ sizeLine ∧ (xs.map (·.1)).Nodup ∧ ∃ o es ep, h.get? a = some o ∧ o.ExactDict ∧ o.data = .dict es ep ∧ Paired (RelN w) xs es.toList
/-- the keys stand there -/
def NK (H : Hp) (xs : List EN) : Prop := ∀ x ∈ xs, Dq H (.ref x.2.1) x.1.data ∧ x.1.depth ≤ 8
def RelY (x : EN) (y : NestedKey × Addr × Value) : Prop := x.1 = y.1 ∧ x.2.1 = y.2.1 ∧ RelV x.2.2 y.2.2

section
variable {P : Program} {w : World} {H : Hp} {h : Heap}
mutual
theorem dq_nested (ok : HOk P w H h) : ∀ (k : NestedKey) {v : V} {u : Value}, Dq H v k.data → RelV v u → NestedIs h k u
  | .none, v, u, q, r => by
    have q : Dq H v .none := q
    cases q
    cases r
    exact .none
  | .num i, v, u, q, r => by
    have q : Dq H v (.int i) := q
    cases q
    obtain ⟨t, rfl⟩ := r
    exact .int i t
  | .text x, v, u, q, r => by
    have q : Dq H v (.str x) := q
    cases q
    obtain ⟨t, rfl⟩ := r
    exact .text x t
  | .tup ks, v, u, q, r => by
    have q : Dq H v (.tuple (NestedKey.datas ks)) := q
    cases q with
    | tup ha t =>
      cases r
      obtain ⟨_, its, rv, ob, e, hc, n, hd⟩ := ha.ob ok
      exact .tup e hc hd (by simpa using dqs_nested ok ks t rv)
theorem dqs_nested (ok : HOk P w H h) : ∀ (ks : List NestedKey) {vs : List V} {us : List Value}, DqAll H vs (NestedKey.datas ks) → Vals vs us → NestedAll h ks us
  | [], vs, us, q, r => by
    have q : DqAll H vs [] := q
    cases q
    cases r
    exact .nil
  | k :: ks, vs, us, q, r => by
    have q : DqAll H vs (k.data :: NestedKey.datas ks) := q
    cases q with
    | cons h1 t =>
      cases r with
      | cons r1 rt => exact .cons (dq_nested ok k h1 r1) (dqs_nested ok ks t rt)
end
theorem nd_entries {P : Program} {w : World} : ∀ {xs : List EN} {es : List DictEntry}, Paired (RelN w) xs es → ∃ ys : List (NestedKey × Addr × Value), Paired RelY xs ys ∧ es = ys.map (entryOfKey (nestedKind P w))
  | _, _, .nil => ⟨[], .nil, rfl⟩
  | _, _, .cons (a := x) h t => by
    obtain ⟨ys, p, e⟩ := nd_entries (P := P) t
    obtain ⟨u, r, rfl⟩ := h
    exact ⟨(x.1, x.2.1, u) :: ys, .cons ⟨rfl, rfl, r⟩ p, by rw [e]; rfl⟩
theorem entries_nd : ∀ {xs : List EN} {ys : List (NestedKey × Addr × Value)}, Paired RelY xs ys → Paired (RelN w) xs (ys.map (entryOfKey (nestedKind P w)))
  | _, _, .nil => .nil
  | _, _, .cons (a := x) (b := y) h t => .cons ⟨y.2.2, h.2.2, by rw [h.1, h.2.1]; rfl⟩ (entries_nd t)
theorem relY_keys : ∀ {xs : List EN} {ys : List (NestedKey × Addr × Value)}, Paired RelY xs ys → xs.map (·.1) = ys.map (·.1)
  | _, _, .nil => rfl
  | _, _, .cons h t => by rw [List.map_cons, List.map_cons, h.1, relY_keys t]
theorem relY_mem : ∀ {xs : List EN} {ys : List (NestedKey × Addr × Value)}, Paired RelY xs ys → ∀ y ∈ ys, ∃ x ∈ xs, RelY x y
  | _, _, .nil, _, m => by cases m
  | _, _, .cons h t, y, m => by
    rcases List.mem_cons.mp m with rfl | m
    · exact ⟨_, List.mem_cons_self, h⟩
    · obtain ⟨x, mx, r⟩ := relY_mem t y m
      exact ⟨x, List.mem_cons_of_mem _ mx, r⟩
theorem nd_of {a : Addr} {xs : List EN} (ok : HOk P w H h) (e : H a = some (ndO w a xs)) (k : NK H xs) : (a == sysModules) = false ∧ xs.length ≤ sizeLine ∧ ∃ ys, Paired RelY xs ys ∧ h.DictOfH (nestedKind P w) a ys := by
  obtain ⟨⟨hs, hl, hn, o, es, ep, h1, h2, h3, h4⟩, _⟩ := ok a _ e
  obtain ⟨ys, p, e2⟩ := nd_entries (P := P) h4
  refine ⟨hs, hl, ys, p, o, es, ep, h1, h2, h3, e2, fun y my => ?_, by rw [← relY_keys p]; exact hn⟩
  obtain ⟨x, mx, r⟩ := relY_mem p y my
  obtain ⟨q1, q2⟩ := k x mx
  rw [← r.1, ← r.2.1]
  exact ⟨dq_nested ok _ q1 rfl, q2⟩
theorem nd_obj {a : Addr} {xs : List EN} {ys : List (NestedKey × Addr × Value)} (hs : (a == sysModules) = false) (hl : xs.length ≤ sizeLine) (p : Paired RelY xs ys) (d : h.DictOfH (nestedKind P w) a ys) : ObjOk P w H h a (ndO w a xs) := by
  obtain ⟨o, es, ep, h1, h2, h3, h4, _, h5⟩ := d
  refine ⟨⟨hs, hl, by rw [relY_keys p]; exact h5, o, es, ep, h1, h2, h3, by rw [h4]; exact entries_nd p⟩, ⟨o, h1⟩, ?_⟩
  rintro g1 g2 ⟨q1, q2, q3, o', es', ep', q4, q5⟩ kp
  exact ⟨q1, q2, q3, o', es', ep', kp _ q4, q5⟩
end

def findN (xs : List EN) (k : NestedKey) : Option EN := fnd (·.1) xs k
def storeN (xs : List EN) (k : NestedKey) (b : Addr) (v : V) : List EN := ptb (·.1) xs k (fun x => (x.1, x.2.1, v)) (k, b, v)
theorem findN_at {xs : List EN} {ys : List (NestedKey × Addr × Value)} (p : Paired RelY xs ys) (k : NestedKey) : RO (fun (x : EN) (z : Addr × Value) => RelV x.2.2 z.2) (findN xs k) (atKey ys k) := by
  have q := fnd_paired (ka := fun x : EN => x.1) (kb := fun y : NestedKey × Addr × Value => y.1) (R := RelY) (fun _ _ r => r.1) k p
  unfold findN atKey
  unfold fnd at q ⊢
  cases e1 : xs.find? fun x => decide (x.1 = k) with
  | none =>
    rw [e1] at q
    cases e2 : ys.find? fun y => decide (y.1 = k) with
    | none => exact True.intro
    | some y => rw [e2] at q; exact q.elim
  | some x =>
    rw [e1] at q
    cases e2 : ys.find? fun y => decide (y.1 = k) with
    | none => rw [e2] at q; exact q.elim
    | some y =>
      rw [e2] at q
      exact q.2.2
theorem storeN_paired {xs : List EN} {ys : List (NestedKey × Addr × Value)} (p : Paired RelY xs ys) (k : NestedKey) (b : Addr) {v : V} {u : Value} (r : RelV v u) : Paired RelY (storeN xs k b v) (storedH ys k b u) := by
  have q := ptb_paired (ka := fun x : EN => x.1) (kb := fun y : NestedKey × Addr × Value => y.1) (R := RelY) (fun _ _ r => r.1) (k := k) (f := fun x => (x.1, x.2.1, v)) (g := fun y => (y.1, y.2.1, u)) (na := (k, b, v)) (nb := (k, b, u)) (fun x y r2 _ => ⟨r2.1, r2.2.1, r⟩) ⟨rfl, rfl, r⟩ p
  have e : ptb (fun y : NestedKey × Addr × Value => y.1) ys k (fun y => (y.1, y.2.1, u)) (k, b, u) = storedH ys k b u := by
    unfold ptb storedH fnd atKey
    rw [Option.isSome_map]
    rfl
  rw [e] at q
  exact q

/-! the operations, by values -/
def KeyAt (H : Hp) (b : Addr) (k : NestedKey) : Prop := Dq H (.ref b) k.data ∧ k.depth ≤ 8
def rNin (w : World) : R2 := fun x y H Q => ∃ a b xs k, x = .ref b ∧ y = .ref a ∧ H a = some (ndO w a xs) ∧ NK H xs ∧ KeyAt H b k ∧ Q (.bl (findN xs k).isSome) H
def rNnotin (w : World) : R2 := fun x y H Q => ∃ a b xs k, x = .ref b ∧ y = .ref a ∧ H a = some (ndO w a xs) ∧ NK H xs ∧ KeyAt H b k ∧ Q (.bl (!(findN xs k).isSome)) H
def rNget (w : World) : R2 := fun x y H Q => ∃ a b xs k e, x = .ref a ∧ y = .ref b ∧ H a = some (ndO w a xs) ∧ NK H xs ∧ KeyAt H b k ∧ findN xs k = some e ∧ Q e.2.2 H
def rNset (w : World) : TSet := fun o i v H Q => ∃ a b xs k, o = .ref a ∧ i = .ref b ∧ H a = some (ndO w a xs) ∧ NK H xs ∧ KeyAt H b k ∧ xs.length < sizeLine ∧ Q (upd H a (ndO w a (storeN xs k b v)))
section
variable {X : Cx}
theorem room_n (hu : X.A.units + 64 < cLine) : (nestedKind X.prog X.w).room X.A.in1 := by
  show X.A.in1.units + 8 < cLine
  rw [Around.in1_units]
  omega
theorem key_n {P : Program} {w : World} {H : Hp} {h : Heap} {b : Addr} {k : NestedKey} (ok : HOk P w H h) (q : KeyAt H b k) : (nestedKind P w).is h k b := ⟨dq_nested ok k q.1 rfl, q.2⟩
theorem op_nin (hu : X.A.units + 64 < cLine) : OpR X (compareOp .In) (rNin X.w) := by
  intro pins s σ H x y v u Q I rx ry h
  obtain ⟨a, b, xs, k, rfl, rfl, ha, nk, hk, q⟩ := h
  cases rx
  cases ry
  obtain ⟨hs, hl, ys, p, d⟩ := nd_of I.hok ha nk
  refine wpAny_in_heap (room_n hu) (key_n I.hok hk) hs d ⟨.bl _, H, I.tok _, ?_, q⟩
  rw [(findN_at p k).isSome]
  rfl
theorem op_nnotin (hu : X.A.units + 64 < cLine) : OpR X (compareOp .NotIn) (rNnotin X.w) := by
  intro pins s σ H x y v u Q I rx ry h
  obtain ⟨a, b, xs, k, rfl, rfl, ha, nk, hk, q⟩ := h
  cases rx
  cases ry
  obtain ⟨hs, hl, ys, p, d⟩ := nd_of I.hok ha nk
  refine wpAny_notIn_heap (room_n hu) (key_n I.hok hk) hs d ⟨.bl _, H, I.tok _, ?_, q⟩
  rw [(findN_at p k).isSome]
  rfl
theorem ix_n (hu : X.A.units + 64 < cLine) : IxR X (rNget X.w) := by
  intro value slice pins s σ H x y v u Q I rx ry h hs
  obtain ⟨a, b, xs, k, e, rfl, rfl, ha, nk, hk, he, q⟩ := h
  cases rx
  cases ry
  obtain ⟨hm, hl, ys, p, d⟩ := nd_of I.hok ha nk
  have r := findN_at p k
  rw [he] at r
  cases e2 : atKey ys k with
  | none => rw [e2] at r; exact r.elim
  | some z =>
    rw [e2] at r
    exact subscriptTail_builtinR (x := z.2) d.typeIs PySem.F.slot_dict_getitem.lookup (wpAny_getItem_heap (Q := fun r s' => r = z.2 ∧ EP X pins σ Q r s') (room_n hu) (key_n I.hok hk) d e2 ⟨rfl, e.2.2, H, I.tok _, r, q⟩) hs
theorem set_n (hu : X.A.units + 64 < cLine) : PSet X (rNset X.w) := by
  intro pins s σ H o i v ov iv u Q I ro ri rv h
  obtain ⟨a, b, xs, k, rfl, rfl, ha, nk, hk, hl, q⟩ := h
  cases ro
  cases ri
  obtain ⟨hs, hz, ys, p, d⟩ := nd_of I.hok ha nk
  have el : ys.length ≤ sizeLine := by rw [← Paired.length p]; exact hz
  refine wpAny_setItem_heap (hsz := el) (room_n hu) (key_n I.hok hk) d fun h' d' sb => ?_
  have p' := storeN_paired p k b rv
  have hl' : (storeN xs k b v).length ≤ sizeLine := by
    have : (storeN xs k b v).length ≤ xs.length + 1 := ptb_length
    omega
  exact ⟨_, d_write I (by rw [ha]; exact True.intro) sb (let ⟨o, _, _, h1, _⟩ := d'; ⟨o, h1⟩) (nd_obj hs hl' p' d'), q⟩
def tNew (w : World) : TE := fun _ H Q => ∀ p, H p = none → Q (.ref p) (upd H p (ndO w p []))
theorem pe_nnew {pos : Pos} : PE X (.Dict [] [] pos) (tNew X.w) := ⟨fun pins s σ H Q I h =>
  wpAny_Dict_empty ⟨.ref s.heap.objs.size, _, I.laid (a := s.heap.objs.size) (o := ndO X.w s.heap.objs.size []) (t' := s.toks) (fun _ _ q => Heap.get?_push_of_some _ q) (Nat.le_refl _)
    (nd_obj (beq_eq_false_iff_ne.mpr (Ne.symm (Nat.ne_of_lt I.big))) (Nat.zero_le _) .nil (Heap.DictOfH.new (knd := nestedKind X.prog X.w) s.heap)), rfl, h _ (I.hok.fresh (Nat.le_refl _))⟩⟩
end
end Tt

namespace Tt
open PySem PySem.Spec PyProof.Rows L2

/-! ### dicts with nested tuple keys, told of data -/
def DnR (K : PySem.W.Frag) (I : Hp) (p : NestedKey × D) (x : EN) : Prop := p.1 = x.1 ∧ KeyAt I x.2.1 x.1 ∧ Rv K I x.2.2 p.2
def MO.dn (w : World) (a : Addr) (kvs : List (NestedKey × D)) : MO := ⟨fun K I o => ∃ xs, o = ndO w a xs ∧ Paired (DnR K I) kvs xs, fun e ⟨xs, h, t⟩ => ⟨xs, h, paired_imp (fun _ _ _ r => ⟨r.1, ⟨Dq.same e r.2.1.1, r.2.1.2⟩, Rv.same e r.2.2⟩) t⟩⟩
def valD (kvs : List (NestedKey × D)) (k : NestedKey) : Option D := (fnd (·.1) kvs k).map (·.2)
def putD (kvs : List (NestedKey × D)) (k : NestedKey) (d : D) : List (NestedKey × D) := ptb (·.1) kvs k (fun x => (x.1, d)) (k, d)
theorem valD_putD (kvs : List (NestedKey × D)) (k j : NestedKey) (d : D) : valD (putD kvs k d) j = if j = k then some d else valD kvs j := by
  unfold valD putD
  rw [fnd_ptb (key := fun x : NestedKey × D => x.1) (k := k) (f := fun x => (x.1, d)) (new := (k, d)) (fun _ => rfl) rfl]
  split
  · cases fnd (fun x : NestedKey × D => x.1) kvs k <;> rfl
  · rfl
theorem putD_length {kvs : List (NestedKey × D)} {k : NestedKey} {d : D} : (putD kvs k d).length ≤ kvs.length + 1 := ptb_length
theorem putD_nodup {kvs : List (NestedKey × D)} {k : NestedKey} {d : D} (h : (kvs.map (·.1)).Nodup) : ((putD kvs k d).map (·.1)).Nodup := nodup_ptb (key := fun x : NestedKey × D => x.1) (k := k) (f := fun x => (x.1, d)) (new := (k, d)) (fun _ => rfl) rfl h
theorem valD_nil {k : NestedKey} : valD [] k = none := rfl
theorem putD_new {kvs : List (NestedKey × D)} {k : NestedKey} {d : D} (h : valD kvs k = none) : putD kvs k d = kvs ++ [(k, d)] := by
  unfold putD ptb
  unfold valD at h
  rw [Option.map_eq_none_iff] at h
  rw [h]
  rfl
theorem valD_isSome {kvs : List (NestedKey × D)} {k : NestedKey} : (valD kvs k).isSome = true ↔ k ∈ kvs.map (·.1) := by
  unfold valD fnd
  rw [Option.isSome_map, List.find?_isSome]
  constructor
  · rintro ⟨x, hx, e⟩
    exact List.mem_map.mpr ⟨x, hx, of_decide_eq_true e⟩
  · intro h
    obtain ⟨x, hx, e⟩ := List.mem_map.mp h
    exact ⟨x, hx, decide_eq_true e⟩
section
variable {K : PySem.W.Frag} {I H : Hp}
theorem dn_nk (s : Sub I H) : ∀ {kvs : List (NestedKey × D)} {xs : List EN}, Paired (DnR K I) kvs xs → NK H xs
  | _, _, .nil, _, m => by cases m
  | _, _, .cons h t, x, m => by
    rcases List.mem_cons.mp m with rfl | m
    · exact ⟨Dq.sub s h.2.1.1, h.2.1.2⟩
    · exact dn_nk s t x m
theorem dn_find {kvs : List (NestedKey × D)} {xs : List EN} (p : Paired (DnR K I) kvs xs) (k : NestedKey) : RO (fun (d : D) (x : EN) => Rv K I x.2.2 d) (valD kvs k) (findN xs k) := by
  have q := fnd_paired (ka := fun x : NestedKey × D => x.1) (kb := fun x : EN => x.1) (fun _ _ r => r.1) k p
  unfold valD findN
  cases e1 : fnd (fun x : NestedKey × D => x.1) kvs k with
  | none =>
    rw [e1] at q
    cases e2 : fnd (fun x : EN => x.1) xs k with
    | none => exact True.intro
    | some x => rw [e2] at q; exact q.elim
  | some a =>
    rw [e1] at q
    cases e2 : fnd (fun x : EN => x.1) xs k with
    | none => rw [e2] at q; exact q.elim
    | some x => rw [e2] at q; exact q.2.2
theorem dn_store {kvs : List (NestedKey × D)} {xs : List EN} (p : Paired (DnR K I) kvs xs) {k : NestedKey} {b : Addr} {v : V} {d : D} (hk : KeyAt I b k) (r : Rv K I v d) : Paired (DnR K I) (putD kvs k d) (storeN xs k b v) :=
  ptb_paired (ka := fun x : NestedKey × D => x.1) (kb := fun x : EN => x.1) (fun _ _ r => r.1) (fun _ _ r2 _ => ⟨r2.1, r2.2.1, r⟩) ⟨rfl, hk, r⟩ p
theorem key_ref {v : V} {ks : List NestedKey} (hd : (NestedKey.tup ks).depth ≤ 8) (r : Rv K I v (NestedKey.tup ks).data) : ∃ b, v = .ref b ∧ KeyAt I b (.tup ks) := by
  obtain ⟨b, xs, rfl, h, t⟩ := Rv.tup (ds := NestedKey.datas ks) r
  exact ⟨b, rfl, .tup h t, hd⟩
end
section
variable {X : Cx} {m : Bool} {ρ ρ1 : List Sl} {W : Wx} {a b c e : Expr} {es : List Expr} {pos p : Pos} {σ : L2.St} {I H I1 H1 : Hp} {E : DE} {Q : Bool → D → List Sl → Prop} {QT : Bool → List Sl → Prop} {ss : List Stmt} {st : Stmt}
theorem dn_at {i : Nat} {q : Addr} {kvs : List (NestedKey × D)} (ok : EnvOk X.K I H σ ρ) (h0 : ρ[i]? = some (.mo q (.dn X.w q kvs))) : ∃ xs, σ[i]? = some (some (.ref q)) ∧ H q = some (ndO X.w q xs) ∧ Paired (DnR X.K I) kvs xs := by
  obtain ⟨v, hv, rfl, u, hu, xs, rfl, t⟩ := ok.at h0 (fun z => nomatch z)
  exact ⟨xs, hv, hu, t⟩
theorem vm_newDn {QV : Sl → List Sl → Prop} (h : ∀ p, QV (.mo p (.dn X.w p [])) ρ) : VM m X (.Dict [] [] pos) ρ W QV := fun σ I H ok xk R f => ⟨_, pe_nnew, fun p np => by
  have g := Grow.dark (o := ndO X.w p []) ok.sub np
  exact f _ (.mo p (.dn X.w p [])) ρ _ _ (Go.of ok g) ⟨⟨rfl, _, upd_same, [], rfl, .nil⟩, List.pairwise_singleton _ _, fun a z => by rw [List.mem_singleton.mp z]; exact ⟨np, ok.sub.nn np⟩⟩ (h p)⟩
/-- e in x -/
theorem tm_nin (i : Nat) {x : Str} {p' : Pos} (hu : X.A.units + 64 < cLine) (h : EM m X e ρ W fun _ d ρ1 => ∃ q kvs ks, d = (NestedKey.tup ks).data ∧ (NestedKey.tup ks).depth ≤ 8 ∧ ρ1[i]? = some (.mo q (.dn X.w q kvs)) ∧ QT (valD kvs (.tup ks)).isSome ρ1) (hN : X.N[i]? = some x := by rfl) (hv : Vis X.env.scope x := by first | exact Or.inl rfl | exact Or.inr (Or.inl rfl) | exact Or.inr (Or.inr rfl))
    (hd : (x == ("__debug__" : Str)) = false := by decide) (hcd : (x == ("__classdict__" : Str)) = false := by decide) (hm : behindInMarks .In (.Name x p') = false := by rfl) : TM m X (.Compare e [.In] [.Name x p'] pos) ρ W QT := fun σ I H ok xk R f =>
  ⟨_, pt_cmpR (op_nin hu) pe_w (pe_var hN hv hd hcd) hm, EM.run h ok xk fun v _ y ρ2 I2 H2 g2 r2 ⟨q, kvs, ks, ed, dp, h2, q2⟩ => by
    subst ed
    have ok2 := g2.env ok
    obtain ⟨xs, hσ, hH, t⟩ := dn_at ok2 h2
    obtain ⟨bb, rfl, hk⟩ := key_ref dp r2
    refine ⟨_, hσ, q, bb, xs, .tup ks, rfl, rfl, hH, dn_nk ok2.sub t, ⟨Dq.sub ok2.sub hk.1, hk.2⟩, _, rfl, ?_⟩
    rw [← (dn_find t (.tup ks)).isSome]
    exact f _ ρ2 I2 H2 g2 q2⟩
/-- e not in x -/
theorem tm_nnotin (i : Nat) {x : Str} {p' : Pos} (hu : X.A.units + 64 < cLine) (h : EM m X e ρ W fun _ d ρ1 => ∃ q kvs ks, d = (NestedKey.tup ks).data ∧ (NestedKey.tup ks).depth ≤ 8 ∧ ρ1[i]? = some (.mo q (.dn X.w q kvs)) ∧ QT (!(valD kvs (.tup ks)).isSome) ρ1) (hN : X.N[i]? = some x := by rfl) (hv : Vis X.env.scope x := by first | exact Or.inl rfl | exact Or.inr (Or.inl rfl) | exact Or.inr (Or.inr rfl))
    (hd : (x == ("__debug__" : Str)) = false := by decide) (hcd : (x == ("__classdict__" : Str)) = false := by decide) (hm : behindInMarks .NotIn (.Name x p') = false := by rfl) : TM m X (.Compare e [.NotIn] [.Name x p'] pos) ρ W QT := fun σ I H ok xk R f =>
  ⟨_, pt_cmpR (op_nnotin hu) pe_w (pe_var hN hv hd hcd) hm, EM.run h ok xk fun v _ y ρ2 I2 H2 g2 r2 ⟨q, kvs, ks, ed, dp, h2, q2⟩ => by
    subst ed
    have ok2 := g2.env ok
    obtain ⟨xs, hσ, hH, t⟩ := dn_at ok2 h2
    obtain ⟨bb, rfl, hk⟩ := key_ref dp r2
    refine ⟨_, hσ, q, bb, xs, .tup ks, rfl, rfl, hH, dn_nk ok2.sub t, ⟨Dq.sub ok2.sub hk.1, hk.2⟩, _, rfl, ?_⟩
    rw [← (dn_find t (.tup ks)).isSome]
    exact f _ ρ2 I2 H2 g2 q2⟩
/-- x[e], there -/
theorem em_nget (i : Nat) {x : Str} {p' : Pos} {q0 : Addr} {kvs0 : List (NestedKey × D)} (hu : X.A.units + 64 < cLine) (h0 : ρ[i]? = some (.mo q0 (.dn X.w q0 kvs0))) (hs : PlainIx b) (h : EM m X b ρ W fun _ d ρ1 => ∃ kvs ks y, d = (NestedKey.tup ks).data ∧ (NestedKey.tup ks).depth ≤ 8 ∧ ρ1[i]? = some (.mo q0 (.dn X.w q0 kvs)) ∧ valD kvs (.tup ks) = some y ∧ Q false y ρ1) (hN : X.N[i]? = some x := by rfl) (hv : Vis X.env.scope x := by first | exact Or.inl rfl | exact Or.inr (Or.inl rfl) | exact Or.inr (Or.inr rfl))
    (hd : (x == ("__debug__" : Str)) = false := by decide) (hcd : (x == ("__classdict__" : Str)) = false := by decide) : EM m X (.Subscript (.Name x p') b pos) ρ W Q := fun σ I H ok xk R f => by
  obtain ⟨xs0, hσ, _, _⟩ := dn_at ok h0
  refine ⟨_, pe_ix (ix_n hu) (pe_var hN hv hd hcd) pe_w hs, _, hσ, ?_⟩
  refine EM.run h ok xk fun v _ y ρ2 I2 H2 g2 r2 ⟨kvs, ks, z, ed, dp, h2, hz, q2⟩ => ?_
  subst ed
  have ok2 := g2.env ok
  obtain ⟨xs, _, hH, t⟩ := dn_at ok2 h2
  obtain ⟨bb, rfl, hk⟩ := key_ref dp r2
  have rr := dn_find t (.tup ks)
  rw [hz] at rr
  cases e2 : findN xs (.tup ks) with
  | none => rw [e2] at rr; exact rr.elim
  | some en =>
    rw [e2] at rr
    exact ⟨q0, bb, xs, .tup ks, en, rfl, rfl, hH, dn_nk ok2.sub t, ⟨Dq.sub ok2.sub hk.1, hk.2⟩, e2, f en.2.2 false z ρ2 I2 H2 g2 rr q2⟩
/-- x[b] = e -/
theorem s1_nset (i : Nat) {x : Str} {p' p2 : Pos} (hu : X.A.units + 64 < cLine)
    (h : EM false X e ρ W fun _ y ρ2 => ∃ q kvs2, ρ2[i]? = some (.mo q (.dn X.w q kvs2)) ∧ EM false X b ρ2 W fun _ kk ρ3 => ∃ kvs ks, kk = (NestedKey.tup ks).data ∧ (NestedKey.tup ks).depth ≤ 8 ∧ ρ3[i]? = some (.mo q (.dn X.w q kvs)) ∧ kvs.length < sizeLine ∧ E.nx (ρ3.set i (.mo q (.dn X.w q (putD kvs (.tup ks) y))))) (hN : X.N[i]? = some x := by rfl) (hv : Vis X.env.scope x := by first | exact Or.inl rfl | exact Or.inr (Or.inl rfl) | exact Or.inr (Or.inr rfl))
    (hd : (x == ("__debug__" : Str)) = false := by decide) (hcd : (x == ("__classdict__" : Str)) = false := by decide)
    (ha : ∀ v, assign (.Subscript (.Name x p') b p2) X.env v = (do
      let ov ← holding [v] (eval (.Name x p') X.env)
      let iv ← holding [v, ov] (eval b X.env)
      standAt p2
      holding [v, ov, iv] (setItem ov iv v)
      release [v, ov, iv] []) := by intro _; rfl)
    (hs : swapsWithSole [.Subscript (.Name x p') b p2] e pos.line X.env = pure false := by rfl) (hw : swappedStores [.Subscript (.Name x p') b p2] e X.env = pure none := by rfl) (h1 : List.map (fun x => x.snd) (assignEach [.Subscript (.Name x p') b p2] X.env) = [assign (.Subscript (.Name x p') b p2) X.env] := by rfl) :
    S1 X (.Assign [.Subscript (.Name x p') b p2] e pos) ρ W E := fun σ I H ok xk T k =>
  ⟨_, ps_asg pe_w (pg_sub (pe_var hN hv hd hcd) pe_w (set_n hu) ha) hs hw h1, EM.run h ok xk fun v _ y ρ2 I2 H2 g2 r2 ⟨q, kvs2, h2, q2⟩ => by
    have ok2 := g2.env ok
    obtain ⟨xs2, hσ, hH2, _⟩ := dn_at ok2 h2
    refine ⟨_, hσ, EM.run q2 ok2 (xk.step g2.step) fun u _ kk ρ3 I3 H3 g3 r3 ⟨kvs, ks, ek, dp, h3, hl, q3⟩ => ?_⟩
    subst ek
    have ok3 := g3.env ok2
    obtain ⟨xs3, _, hH3, t3⟩ := dn_at ok3 h3
    obtain ⟨bb, rfl, hk⟩ := key_ref dp r3
    have g := ok3.mut (mo' := .dn X.w q (putD kvs (.tup ks) y)) h3 ⟨_, rfl, dn_store t3 hk (Rv.same g3.ii r2)⟩
    have gg := (g2.trans g3).trans g
    exact ⟨q, bb, xs3, .tup ks, rfl, rfl, hH3, dn_nk ok3.sub t3, ⟨Dq.sub ok3.sub hk.1, hk.2⟩, by rw [← Paired.length t3]; exact hl, k.nx _ _ _ _ (gg.env ok) gg.step q3⟩⟩

/-! ### dicts of texts -/
/-- from here on it is data: no one writes at it any more -/
theorem pss_lock {t : TS} (h : PSs X ss t) : PSs X ss (fun D σ H => ∃ d u, H d = some u ∧ Mut (some u) ∧ ∀ od, t D σ (upd H d (.frz od u))) := ⟨fun pins s σ H D I ⟨d, u, hd, mu, hw⟩ => by
  obtain ⟨od, I1⟩ := I.lock hd mu
  exact h.run pins s σ _ D I1 (hw od)⟩
theorem sd_lock (i : Nat) {q : Addr} {ks : List Str} (h0 : ρ[i]? = some (.mo q (.dk ks))) (h : SD X ss (ρ.set i (.va (dictD ks))) W E) : SD X ss ρ W E := fun σ I H ok xk T k => by
  obtain ⟨v, hv, rfl, u, hu, hφ⟩ := ok.at h0 (fun z => nomatch z)
  have hφ : u = dictO ks := hφ
  subst hφ
  have hl : i < ρ.length := (List.getElem?_eq_some_iff.mp h0).1
  have fi : ft ρ i = [q] := ft_at h0
  have qi : q ∈ ft ρ i := by rw [fi]; exact List.mem_singleton.mpr rfl
  have nI : I q = none := ok.out i q qi
  have fs : ∀ j a, a ∈ ft (ρ.set i (.va (dictD ks))) j → a ∈ ft ρ j ∧ j ≠ i := fun j a hj => by
    rw [ft_set] at hj
    split at hj
    · cases hj
    · rename_i z
      refine ⟨hj, fun e => ?_⟩
      subst e
      exact z ⟨rfl, hl⟩
  have mts : ∀ a, Mt (ρ.set i (.va (dictD ks))) a → Mt ρ a := fun a m => (mt_set m).elim id fun z => by cases z
  have qm : Mt ρ q := ⟨i, qi⟩
  refine ⟨_, pss_lock pss_w, q, _, hu, True.intro, fun od => ?_⟩
  have ij : Same I (upd I q (.frz od (dictO ks))) := fun a o e => by rw [upd_ne (ne_of_none e nI)]; exact e
  have ok' : EnvOk X.K (upd I q (.frz od (dictO ks))) (upd H q (.frz od (dictO ks))) σ (ρ.set i (.va (dictD ks))) := by
    refine ⟨by rw [List.length_set]; exact ok.len, fun j s e => ?_, fun j => ?_, fun j k a h1 h2 => ok.dj j k a (fs j a h1).1 (fs k a h2).1, fun j a h1 => ?_, fun a o e => ?_⟩
    · by_cases z : i = j
      · subst z
        rw [List.getElem?_set_self hl] at e
        cases e
        rw [hv]
        exact ⟨.inr (.inl ⟨q, ks, od, rfl, rfl, upd_same⟩)⟩
      · rw [List.getElem?_set_ne z] at e
        refine (ok.ok j s e).grow ij fun a u' ha e2 => ?_
        rw [upd_ne]
        · exact e2
        · intro z2
          subst z2
          exact z (ok.dj i j a qi (by rw [ft_at e]; exact ha))
    · rw [ft_set]
      split
      · exact List.nodup_nil
      · exact ok.nd j
    · obtain ⟨m, ne⟩ := fs j a h1
      rw [upd_ne (fun z => ne (ok.dj j i a m (by rw [z]; exact qi)))]
      exact ok.out j a m
    · by_cases z : a = q
      · subst z
        rw [upd_same] at e ⊢
        exact .inl e
      · rw [upd_ne z] at e ⊢
        exact ok.sub a o e
  have st : Step I H (Mt ρ) (upd I q (.frz od (dictO ks))) (upd H q (.frz od (dictO ks))) (Mt (ρ.set i (.va (dictD ks)))) := by
    refine ⟨ij, fun a o e nm => ?_, fun a o e n nm => ?_, fun a m => .inl (mts a m), fun a o e => ?_⟩
    · rw [upd_ne (fun z => nm (by rw [z]; exact qm))]
      exact e
    · rw [upd_ne (fun z => nm (by rw [z]; exact qm))]
      exact n
    · by_cases z : a = q
      · subst z
        exact ⟨_, upd_same⟩
      · exact ⟨o, by rw [upd_ne z]; exact e⟩
  exact h σ _ _ ok' (xk.step st) T (k.step st)
theorem WalkD.keys {K : PySem.W.Frag} {I : Hp} {q : Addr} {o : Obj} {ks : List Str} (h : I q = some (.frz o (dictO ks))) : WalkD K (Itk q o (ks.map fun k => (Sum.inr k, V.bl true))) I (ks.map .str) := ⟨by
  have w := walk_keys (d := q) (o := o) (kvs := ks.map fun k => (Sum.inr k, V.bl true))
  rw [List.length_map] at w
  rw [List.length_map]
  refine w.mono (fun H s => s.frz h) fun i H v H' hi s y => ?_
  obtain ⟨e, k, v', hk, rfl⟩ := y
  subst e
  rw [List.getElem?_map] at hk
  obtain ⟨z, hz, e⟩ := Option.map_eq_some_iff.mp hk
  cases e
  exact ⟨.str z, by rw [List.getElem?_map, hz]; rfl, fun I1 ii s1 => ⟨I1, Grow.refl s1, .mkStr⟩⟩⟩
/-- for k in e, a dict of texts -/
theorem im_dict {tg iter : Expr} {QI : List D → List Sl → Prop} (h : EM m X iter ρ W fun _ d ρ1 => ∃ ks, d = dictD ks ∧ QI (ks.map .str) ρ1) : IM m X tg iter ρ W QI := fun σ I H ok xk R f =>
  ⟨_, pi_keys pe_w, h.run ok xk fun v o d ρ1 I1 H1 g r ⟨ks, e, q⟩ => by
    subst e
    obtain ⟨a, od, rfl, ha⟩ := r.dict
    exact ⟨a, od, rfl, .inl ⟨_, (g.env ok).sub.frz ha, f _ _ ρ1 I1 H1 g (.keys ha) q⟩⟩⟩
/-- the keys behind d[k] = True -/
def addS (ks : List Str) (k : Str) : List Str := if k ∈ ks then ks else ks ++ [k]
theorem putK_dict (ks : List Str) (k : Str) : putK (ks.map fun k => ((Sum.inr k : Key), V.bl true)) (Sum.inr k) (V.bl true) = (addS ks k).map fun k => ((Sum.inr k : Key), V.bl true) := by
  unfold putK addS
  have e : ((ks.map fun k => ((Sum.inr k : Key), V.bl true)).any fun kv => decide (kv.1 = Sum.inr k)) = decide (k ∈ ks) := by
    rw [List.any_map]
    induction ks with
    | nil => rfl
    | cons x r ih =>
      rw [List.any_cons, ih]
      simp only [Function.comp, Sum.inr.injEq, List.mem_cons]
      by_cases z : x = k
      · simp [z]
      · simp [z]
        exact fun w => absurd w.symm z
  rw [e]
  by_cases m : k ∈ ks
  · rw [if_pos (decide_eq_true m), if_pos m, List.map_map]
    refine List.map_congr_left fun x _ => ?_
    simp only [Function.comp]
    split <;> rfl
  · rw [if_neg (by rw [decide_eq_false m]; exact Bool.false_ne_true), if_neg m, List.map_append]
    rfl
theorem dk_at {i : Nat} {q : Addr} {ks : List Str} (ok : EnvOk X.K I H σ ρ) (h0 : ρ[i]? = some (.mo q (.dk ks))) : σ[i]? = some (some (.ref q)) ∧ H q = some (dictO ks) := by
  obtain ⟨v, hv, rfl, u, hu, t⟩ := ok.at h0 (fun z => nomatch z)
  have t : u = dictO ks := t
  subst t
  exact ⟨hv, hu⟩
/-- x[b] = True -/
theorem s1_kset (i : Nat) {x : Str} {p' p2 pc : Pos} {j} (hu : X.A.units + 64 < cLine) {q : Addr} {ks0 : List Str} (h0 : ρ[i]? = some (.mo q (.dk ks0)))
    (h : EM false X b ρ W fun _ kk ρ3 => ∃ ks z, kk = .str z ∧ ρ3[i]? = some (.mo q (.dk ks)) ∧ ks.length < sizeLine ∧ E.nx (ρ3.set i (.mo q (.dk (addS ks z))))) (hN : X.N[i]? = some x := by rfl) (hv : Vis X.env.scope x := by first | exact Or.inl rfl | exact Or.inr (Or.inl rfl) | exact Or.inr (Or.inr rfl))
    (hd : (x == ("__debug__" : Str)) = false := by decide) (hcd : (x == ("__classdict__" : Str)) = false := by decide)
    (ha : ∀ v, assign (.Subscript (.Name x p') b p2) X.env v = (do
      let ov ← holding [v] (eval (.Name x p') X.env)
      let iv ← holding [v, ov] (eval b X.env)
      standAt p2
      holding [v, ov, iv] (setItem ov iv v)
      release [v, ov, iv] []) := by intro _; rfl)
    (hs : swapsWithSole [.Subscript (.Name x p') b p2] (.Constant (.bool true) j pc) pos.line X.env = pure false := by rfl) (hw : swappedStores [.Subscript (.Name x p') b p2] (.Constant (.bool true) j pc) X.env = pure none := by rfl) (h1 : List.map (fun x => x.snd) (assignEach [.Subscript (.Name x p') b p2] X.env) = [assign (.Subscript (.Name x p') b p2) X.env] := by rfl) :
    S1 X (.Assign [.Subscript (.Name x p') b p2] (.Constant (.bool true) j pc) pos) ρ W E := fun σ I H ok xk T k =>
  ⟨_, ps_asg pe_bl (pg_sub (pe_var hN hv hd hcd) pe_w (set_dict (by omega)) ha) hs hw h1, by
    obtain ⟨hσ, hH2⟩ := dk_at ok h0
    refine ⟨_, hσ, EM.run h ok xk fun u _ kk ρ3 I3 H3 g3 r3 ⟨ks, z, ek, h3, hl, q3⟩ => ?_⟩
    subst ek
    have ok3 := g3.env ok
    obtain ⟨_, hH3⟩ := dk_at ok3 h3
    have g := ok3.mut (mo' := .dk (addS ks z)) (o := dictO (addS ks z)) h3 rfl
    rw [r3.str]
    have gg := g3.trans g
    refine ⟨q, _, rfl, DPut.k (k := Sum.inr z) hH3 (by rw [List.length_map]; exact hl), ?_⟩
    rw [putK_dict]
    exact k.nx _ _ _ _ (gg.env ok) gg.step q3⟩
end
end Tt

namespace Tt
open PySem PySem.Spec PyProof.Rows L2 PySem.W

section
variable {prog : Program} {w : World} {A : Around} {E : Value → Shared → Prop} {s : Shared}
theorem collect_tuple {l : Addr} {vs : List Value} {Q : List Value → Shared → Prop} (hl : IsTup s.heap l vs.toArray)
    (h : Q vs { s with heap := (s.heap.push (seqObj "list" #[] 0)).update s.heap.objs.size (Obj.mapSeq (· ++ vs.toArray)) }) (hsz : vs.length ≤ sizeLine) :
    wpAny (model prog w) A (collect (.ref l)) Q E s := by
  obtain ⟨o, ho, hc, n, hd⟩ := id hl
  unfold collect
  refine wpAny_bind (wpAny_runValue (codeAny_builtin entry_proto_collect' ?_))
  show wpAny _ _ (do again (.builtin "list.__iadd__" ⟨[← newList [], .ref l], []⟩)) _ _ s
  refine wpAny_bind (wpAny_newList (wpAny_pure ⟨Code.quiet_builtin _ (by decide +kernel), codeAny_builtin entry_list_iadd' ?_⟩))
  show wpAny _ _ (Builtin.List.listExtendWith (.ref s.heap.objs.size) (.ref l) (.ref s.heap.objs.size)) _ _ { s with heap := s.heap.push (seqObj "list" #[] 0) }
  unfold Builtin.List.listExtendWith
  have ho' : (s.heap.push (seqObj "list" #[] 0)).get? l = some o := Heap.get?_push_of_some _ ho
  refine wpAny_bind (wpAny_typeOf (T := "tuple") ⟨o, ho', hc⟩ ?_)
  have ht : (Value.type "tuple" == Value.type "tuple") = true := by rfl
  rw [if_pos (by rw [ht]; simp)]
  refine wpAny_bind (listItems_at ho' hd ?_)
  refine wpAny_bind (listItems_at (xs := #[]) (n := 0) (Heap.get?_push_size _ rfl) rfl ?_)
  rw [if_neg (by simp)]
  refine wpAny_bind (listUpdate_at (xs := #[]) (n := 0) (Heap.get?_push_size _ rfl) rfl ?_ (Nat.zero_le _) (by show (#[] ++ vs.toArray).size ≤ sizeLine + 1; simp only [Array.size_append, List.size_toArray, List.length_nil]; omega))
  refine wpAny_pure ?_
  show wpAny (model prog w) A (do
      let o ← load s.heap.objs.size
      match o.data with
      | .seq xs _ => pure xs.toList
      | _ => unsupported "internal:collect") Q E { s with heap := (s.heap.push (seqObj "list" #[] 0)).update s.heap.objs.size (Obj.mapSeq (· ++ vs.toArray)) }
  refine wpAny_bind (wpAny_load (get?_update_seq (Heap.get?_push_size _ rfl) _) ?_)
  show wpAny _ _ (pure ((#[] : Array Value) ++ vs.toArray).toList) Q E _
  rw [show ((#[] : Array Value) ++ vs.toArray).toList = vs by simp]
  exact wpAny_pure h
/-- sorted(x), x collected to vs -/
theorem sorted_coll {β : Type} {bs : List β} {enc : β → D} {R : Value → β → Prop} {arg : Value} {P : List Value → Prop} {Q : Value → Shared → Prop}
    (col : ∀ {E' : Value → Shared → Prop} {Q' : List Value → Shared → Prop}, (∀ h' tk vs, (∀ b o, s.heap.get? b = some o → h'.get? b = some o) → P vs → Q' vs { s with heap := h', toks := tk }) → wpAny (model prog w) A.in1 (collect arg) Q' E' s)
    (e : ∀ vs, P vs → EachIs R vs bs) (er : ∀ vs, P vs → EachIs (fun v b => ∃ as, Reads s.heap v (enc b) as) vs bs) (hal : AllAlike (bs.map enc)) (hk : Sortable (bs.map enc)) (hL : bs.length ≤ sizeLine)
    (hu : ∀ b, b ∈ bs → A.units + 2 + (enc b).depth < cLine)
    (h : ∀ (h1 h' : Heap) tk out n, (∀ b o, s.heap.get? b = some o → h1.get? b = some o) → (∀ b o, h1.get? b = some o → h'.get? b = some o) → out.length = bs.length → EachIs R out (bs.mergeSort (dataLe false enc)) → h'.get? h1.objs.size = some (seqObj "list" (List.toArray out) n) → Q (.ref h1.objs.size) { s with heap := h', toks := tk }) :
    wpAny (model prog w) A (call (.builtin "sorted") [arg]) Q E s := by
  refine Calls.call_function_entry kind_sorted plain_sorted entry_sorted (args_sorted1 _) ?_
  unfold Builtin.«sorted»
  refine wpAny_bind (m := checkCount "sorted" 1 1 _) (wpAny_pure ?_)
  refine wpAny_bind (col fun h1 tk vs kp pv => ?_)
  have ev := e vs pv
  have hv : vs.length ≤ sizeLine := by rw [ev.length]; exact hL
  refine wpAny_bind (wpAny_newList ?_ hv)
  have hoL : (h1.push (seqObj "list" vs.toArray 0)).get? h1.objs.size = some (seqObj "list" vs.toArray 0) := Heap.get?_push_size _ rfl
  show wpAny _ _ _ _ _ { s with heap := h1.push (seqObj "list" vs.toArray 0), toks := tk }
  have kp2 : ∀ b o, s.heap.get? b = some o → (h1.push (seqObj "list" vs.toArray 0)).get? b = some o := fun b o q => Heap.get?_push_of_some _ (kp b o q)
  have er' : EachIs (fun v b => ∃ as, Reads (sortingHeap (h1.push (seqObj "list" vs.toArray 0)) h1.objs.size vs) v (enc b) as) vs bs :=
    (er vs pv).mono fun _ _ ⟨as, r⟩ => ⟨as, PyProof.Rows.Reads.keeps (fun b o q => sortingHeap_old (Nat.ne_of_lt (Heap.lt_size (kp b o q))) (kp2 b o q)) r⟩
  refine wpAny_bind (wpAny_holding (wpAny_call_entry slot_list_sort ⟨_, hoL, rfl⟩ entry_list_sort
    (list_sort_vals (s := { s with heap := h1.push (seqObj "list" vs.toArray 0), toks := tk }) (κ := dataKind (sortingHeap (h1.push (seqObj "list" vs.toArray 0)) h1.objs.size vs) (bs.map enc)) hoL
      (SortsAt.data (s := { s with heap := sortingHeap (h1.push (seqObj "list" vs.toArray 0)) h1.objs.size vs, toks := tk }) (each_map (R := fun v d => ∃ as, Reads (sortingHeap (h1.push (seqObj "list" vs.toArray 0)) h1.objs.size vs) v d as) enc er') hal hk (bound_map hu)) hv ⟨_, rfl, ?_⟩) (args_list_sort _)))
  obtain ⟨n, he⟩ := PyProof.Rows.sortedHeap_at (vs := vs) (out := (sortVals (dataKind (sortingHeap (h1.push (seqObj "list" vs.toArray 0)) h1.objs.size vs) (bs.map enc)) false vs vs).toArray) hoL
  refine wpAny_pure ⟨_, rfl, h h1 _ tk _ n kp (fun b o q => ?_) (by rw [sortVals_length false rfl]; exact ev.length) (sortVals_data false ev er' hal) he⟩
  have hb : b < h1.objs.size := Heap.lt_size q
  rw [PyProof.Rows.sortedHeap_old (Nat.ne_of_lt hb) (by rw [size_push']; exact Nat.lt_succ_of_lt hb)]
  exact Heap.get?_push_of_some _ q
end
/-! ### sorted(x) of data -/
def Sb (I : Hp) (v : Value) (d : D) : Prop := ∃ x, RelV x v ∧ Dq I x d
theorem each_sb {I : Hp} : ∀ {xs : List V} {vs : List Value} {ds : List D}, Vals xs vs → DqAll I xs ds → EachIs (Sb I) vs ds
  | _, _, _, .nil, .nil => .nil
  | _, _, _, .cons r t, .cons q t' => .cons ⟨_, r, q⟩ (each_sb t t')
theorem sb_each {I : Hp} : ∀ {vs : List Value} {ds : List D}, EachIs (Sb I) vs ds → ∃ xs, Vals xs vs ∧ DqAll I xs ds
  | _, _, .nil => ⟨[], .nil, .nil⟩
  | _, _, .cons ⟨x, r, q⟩ t => by
    obtain ⟨xs, h1, h2⟩ := sb_each t
    exact ⟨x :: xs, .cons r h1, .cons q h2⟩
theorem each_unmap {α β : Type} {R : Value → D → Prop} (enc : β → D) : ∀ {vs : List Value} {bs : List β}, EachIs R vs (bs.map enc) → EachIs (fun v b => R v (enc b)) vs bs
  | _, [], h => by cases h; exact .nil
  | _, b :: bs, h => by
    cases h with
    | cons h t => exact .cons h (each_unmap (α := α) enc t)
section
variable {X : Cx} {pins : List (Addr × Obj)} {σ : L2.St} {H I : Hp} {s : Shared} {β : Type} {bs : List β} {enc : β → D}
/-- data that can be sorted -/
structure Sorts (enc : β → D) (bs : List β) : Prop where
  al : AllAlike (bs.map enc)
  so : Sortable (bs.map enc)
  dp : ∀ b ∈ bs, (enc b).depth ≤ 32
  ln : bs.length ≤ sizeLine
theorem sorted_inv {arg : Value} {P : List Value → Prop} {Q : VK} (Iv : Inv X pins σ H s) (sb : Sub I H) (S : Sorts enc bs) (hu : X.A.units + 64 < cLine)
    (col : ∀ {E' : Value → Shared → Prop} {Q' : List Value → Shared → Prop}, (∀ h' tk vs, (∀ b o, s.heap.get? b = some o → h'.get? b = some o) → P vs → Q' vs { s with heap := h', toks := tk }) → wpAny (model X.prog X.w) X.A.in1 (collect arg) Q' E' s)
    (hP : ∀ vs, P vs → ∃ xs, Vals xs vs ∧ DqAll I xs (bs.map enc))
    (q : ∀ p ys, H p = none → DqAll I ys ((bs.mergeSort (dataLe false enc)).map enc) → Q (.ref p) (upd H p (.lst ys))) : wpAny (model X.prog X.w) X.A (call (.builtin "sorted") [arg]) (EP X pins σ Q) X.xe s := by
  have e : ∀ vs, P vs → EachIs (fun v b => Sb I v (enc b)) vs bs := fun vs pv => by
    obtain ⟨xs, h1, h2⟩ := hP vs pv
    exact each_unmap (α := Unit) enc (each_sb h1 h2)
  refine sorted_coll (R := fun v b => Sb I v (enc b)) (P := P) col e (fun vs pv => (e vs pv).mono fun v b ⟨x, r, hq⟩ => Dp.reads Iv (enc b) x v (Dq.dp (Dq.sub sb hq)) r) S.al S.so S.ln (fun b hb => by have := S.dp b hb; omega) fun h1 h' tk out n k1 k2 hl eo hg => ?_
  obtain ⟨ys, r1, r2⟩ := sb_each (each_map (R := Sb I) enc eo)
  have I1 : Inv X pins σ H { s with heap := h1, toks := tk } := Iv.kept k1
  refine ⟨.ref h1.objs.size, upd H h1.objs.size (.lst ys), I1.laid (t' := tk) k2 (Nat.le_refl _) (show ObjOk X.prog X.w _ _ _ (.lst ys) from ⟨?_, out, n, r1, hg⟩), rfl, q _ ys (I1.hok.fresh (Nat.le_refl _)) r2⟩
  rw [r1.length, hl]
  exact S.ln
def rSort (I : Hp) (enc : β → D) (bs : List β) : List V → Hp → VK → Prop := fun vs H Q => ∃ p xs, vs = [.ref p] ∧ (H p = some (.lst xs) ∨ TupAt H p xs) ∧ Sub I H ∧ DqAll I xs (bs.map enc) ∧ Sorts enc bs ∧
  ∀ q ys, H q = none → DqAll I ys ((bs.mergeSort (dataLe false enc)).map enc) → Q (.ref q) (upd H q (.lst ys))
theorem cr_sort (hu : X.A.units + 64 < cLine) : CallR X (.builtin "sorted") (rSort I enc bs) := by
  intro pins s σ H xs us Q Iv r h
  obtain ⟨p, vs, rfl, ha, sb, t, S, q⟩ := h
  obtain ⟨u, rfl, rx⟩ := vals1 r
  cases rx
  have hl : vs.length ≤ sizeLine := by rw [t.len, List.length_map]; exact S.ln
  rcases ha with ha | ha
  · obtain ⟨its, rv, pl, hz⟩ := Iv.list (SqL.of ha)
    refine sorted_inv (P := fun vs' => vs' = its) Iv sb S hu (fun {E' Q'} k => collect_list (vs := its) pl.isList (k _ s.toks its (fun b o e => ?_) rfl) (by rw [← rv.length]; exact hl)) (fun vs' e => by subst e; exact ⟨vs, rv, t⟩) q
    rw [Heap.get?_update_ne _ _ _ _ (Nat.ne_of_lt (Heap.lt_size e))]
    exact Heap.get?_push_of_some _ e
  · obtain ⟨its, rv, pl, hz⟩ := Iv.tuple ha.sq
    refine sorted_inv (P := fun vs' => vs' = its) Iv sb S hu (fun {E' Q'} k => collect_tuple (vs := its) pl (k _ s.toks its (fun b o e => ?_) rfl) (by rw [← rv.length]; exact hl)) (fun vs' e => by subst e; exact ⟨vs, rv, t⟩) q
    rw [Heap.get?_update_ne _ _ _ _ (Nat.ne_of_lt (Heap.lt_size e))]
    exact Heap.get?_push_of_some _ e
theorem kd_sorted_list {Q : Bool → D → Prop} (hu : X.A.units + 64 < cLine) (S : Sorts enc bs) (q : Q true (.list ((bs.mergeSort (dataLe false enc)).map enc))) : KD X (.builtin "sorted") [.list (bs.map enc)] Q := fun I H vs s r R k => by
  obtain ⟨v, rfl, r'⟩ := kd_one r
  obtain ⟨a, xs, rfl, ha, t⟩ := r'.lst
  exact ⟨_, cr_sort (I := I) hu, a, xs, rfl, .inl (s.lst ha), s, t, S, fun p ys n t' => k.lst s t' q n⟩
theorem kd_sorted_tuple {Q : Bool → D → Prop} (hu : X.A.units + 64 < cLine) (S : Sorts enc bs) (q : Q true (.list ((bs.mergeSort (dataLe false enc)).map enc))) : KD X (.builtin "sorted") [.tuple (bs.map enc)] Q := fun I H vs s r R k => by
  obtain ⟨v, rfl, r'⟩ := kd_one r
  obtain ⟨a, xs, rfl, ha, t⟩ := r'.tup
  exact ⟨_, cr_sort (I := I) hu, a, xs, rfl, .inr (s.tup ha), s, t, S, fun p ys n t' => k.lst s t' q n⟩
end
end Tt

namespace Tt
open PySem PySem.Spec PyProof.Rows L2 PySem.W

section
variable {X : Cx} {β : Type} {bs : List β} {enc : β → D} {I : Hp}
theorem cr_sortDk (hc : X.calm = true) (hu : X.A.units + 64 < cLine) {ks : List Str} (S : Sorts PyData.str ks) : CallR X (.builtin "sorted") (fun vs H Q => ∃ p, vs = [.ref p] ∧ Rd H p (dictO ks) ∧ Sub I H ∧
    ∀ q ys, H q = none → DqAll I ys ((ks.mergeSort (dataLe false PyData.str)).map PyData.str) → Q (.ref q) (upd H q (.lst ys))) := by
  intro pins s σ H xs us Q Iv r h
  obtain ⟨p, rfl, hd, sb, q⟩ := h
  obtain ⟨u, rfl, rx⟩ := vals1 r
  cases rx
  obtain ⟨z, lo, vs, rel, dd⟩ := dk_rd Iv.hok hd
  obtain ⟨ep, hat⟩ := dd.dictAt
  have hkeys : vs.map (·.1) = ks.map Sum.inr := by
    have := rel.keys
    rw [List.map_map] at this
    exact this.symm
  have hl : vs.length = ks.length := by
    have e := congrArg List.length hkeys
    rw [List.length_map, List.length_map] at e
    exact e
  have hh : X.A.in1.handled = none := Iv.ok.hd hc
  refine sorted_inv (P := fun us => StrsAre us ks) Iv sb S hu (fun {E' Q'} k => kdu_collect (A := X.A.in1) (kdl_dict (knd := mixKind X.prog X.w) (kvs := vs) (ep := ep) lo) hh hat (by rw [hl]; exact S.ln) fun h' tk acc kp hacc => k h' tk acc.toList kp ?_) (fun us su => ⟨ks.map V.str, vals_of_strs su, DqAll.mkStrs ks⟩) q
  refine strs_at (by rw [Array.length_toList, hacc.1, hl]) fun j v e => ?_
  obtain ⟨k, x, e1, e2⟩ := hacc.2 j v (by rw [← Array.getElem?_toList]; exact e)
  have e3 : (vs.map (·.1))[j]? = some k := by rw [List.getElem?_map, e1]; rfl
  rw [hkeys, List.getElem?_map] at e3
  cases e4 : ks[j]? with
  | none => rw [e4] at e3; cases e3
  | some y =>
    rw [e4] at e3
    have e5 : Sum.inr y = k := Option.some.inj e3
    subst e5
    obtain ⟨t, ev⟩ := Value.isStrOf_shape (x := y) (v := v) e2
    exact ⟨y, t, rfl, ev⟩
theorem nd_vals : ∀ {K : PySem.W.Frag} {kvs : List (NestedKey × D)} {xs : List EN}, Paired (DnR K I) kvs xs → DqAll I (xs.map fun x => V.ref x.2.1) (kvs.map fun p => p.1.data)
  | _, _, _, .nil => .nil
  | _, _, _, .cons (b := x) h t => .cons (by
      have := h.2.1.1
      rw [← h.1] at this
      exact this) (nd_vals t)
theorem cr_sortDn (hc : X.calm = true) (hu : X.A.units + 64 < cLine) {kvs : List (NestedKey × D)} {dec : β → NestedKey} (ek : kvs.map (·.1) = bs.map dec) (S : Sorts (fun b => (dec b).data) bs) : CallR X (.builtin "sorted") (fun vs H Q => ∃ p xs, vs = [.ref p] ∧ H p = some (ndO X.w p xs) ∧ Sub I H ∧ Paired (DnR X.K I) kvs xs ∧
    ∀ q ys, H q = none → DqAll I ys ((bs.mergeSort (dataLe false fun b => (dec b).data)).map fun b => (dec b).data) → Q (.ref q) (upd H q (.lst ys))) := by
  intro pins s σ H xs0 us Q Iv r h
  obtain ⟨p, xs, rfl, hd, sb, t, q⟩ := h
  obtain ⟨u, rfl, rx⟩ := vals1 r
  cases rx
  obtain ⟨hs, hl, ys, pr, o, es, ep, ho, hx, hdt, he, _, _⟩ := nd_of Iv.hok hd (dn_nk sb t)
  have l1 : es.size = ys.length := size_of_entries he
  have l2 : xs.length = ys.length := Paired.length pr
  have hh : X.A.in1.handled = none := Iv.ok.hd hc
  refine sorted_inv (P := fun us => us = ys.map fun y => Value.ref y.2.1) Iv sb S hu (fun {E' Q'} k => kdu_collect (A := X.A.in1) (kdl_raw hs hx hdt) hh ho (by omega) fun h' tk acc kp it => k h' tk acc.toList kp ?_) (fun us e => ?_) q
  · have hl : acc.toList.length = ys.length := by rw [Array.length_toList, it.1]; exact l1
    apply List.ext_getElem?
    intro j
    rw [List.getElem?_map]
    cases hj : acc.toList[j]? with
    | none =>
      have h1 := List.getElem?_eq_none_iff.mp hj
      rw [List.getElem?_eq_none (by omega)]
      rfl
    | some v =>
      obtain ⟨en, hen, hv⟩ := it.2 j v (by rw [← Array.getElem?_toList]; exact hj)
      have qe := entry_at he j
      rw [hen] at qe
      cases hb : ys[j]? with
      | none =>
        rw [hb] at qe
        cases qe
      | some b =>
        rw [hb] at qe
        have e2 : en = entryOfKey (nestedKind X.prog X.w) b := Option.some.inj qe
        rw [hv, e2]
        rfl
  · subst e
    refine ⟨xs.map fun x => V.ref x.2.1, ?_, ?_⟩
    · have : ∀ {xs : List EN} {ys : List (NestedKey × Addr × Value)}, Paired RelY xs ys → Vals (xs.map fun x => V.ref x.2.1) (ys.map fun y => Value.ref y.2.1) := by
        intro xs ys p
        induction p with
        | nil => exact .nil
        | cons h t ih => exact .cons (show Value.ref _ = Value.ref _ by rw [h.2.1]) ih
      exact this pr
    · have e : (kvs.map fun p => p.1.data) = bs.map fun b => (dec b).data := by
        have := congrArg (List.map NestedKey.data) ek
        rw [List.map_map, List.map_map] at this
        exact this
      rw [← e]
      exact nd_vals t
end
section
variable {X : Cx} {m : Bool} {ρ ρ1 : List Sl} {W : Wx} {pos p p' : Pos} {Q : Bool → D → List Sl → Prop}
/-- sorted(x), x a dict of texts of one's own -/
theorem em_sortedK (i : Nat) {x : Str} {q : Addr} {ks : List Str} (hc : X.calm = true) (hu : X.A.units + 64 < cLine) (hms : X.mg "sorted" = none) (h0 : ρ[i]? = some (.mo q (.dk ks))) (S : Sorts PyData.str ks) (h : Q true (.list ((ks.mergeSort (dataLe false PyData.str)).map .str)) ρ)
    (hN : X.N[i]? = some x := by rfl) (hv : Vis X.env.scope x := by first | exact Or.inl rfl | exact Or.inr (Or.inl rfl) | exact Or.inr (Or.inr rfl))
    (hd : (x == ("__debug__" : Str)) = false := by decide) (hcd : (x == ("__classdict__" : Str)) = false := by decide) (hg : Gl X "sorted" := by rfl)
    (he : starEach [Expr.Name x p'] X.env = (false, eval (.Name x p') X.env) :: starEach [] X.env := by rfl) (hpl : (backTo pos (starEach [] X.env)).any (·.1) = false := by rfl) : EM m X (.Call (.Name "sorted" p) [.Name x p'] [] pos) ρ W Q := fun σ I H ok xk R f => by
  obtain ⟨hσ, hH⟩ := dk_at ok h0
  refine ⟨_, pe_callB (cr_sortDk (I := I) hc hu S) hg hms PyProof.Rows.boot_sorted (pa_cons (pe_var hN hv hd hcd) pa_nil he) (by decide) (by decide) he hpl, _, hσ, q, rfl, .inl hH, ok.sub, fun r ys n t => ?_⟩
  exact f _ true _ ρ I _ (Go.of ok (Grow.dark ok.sub n)) ⟨r, ys, _, rfl, rfl, n, ok.sub.nn n, upd_same, t⟩ h
/-- sorted(x), x a dict with nested keys of one's own -/
theorem em_sortedN (i : Nat) {x : Str} {q : Addr} {kvs : List (NestedKey × D)} {β : Type} {bs : List β} {dec : β → NestedKey} (hc : X.calm = true) (hu : X.A.units + 64 < cLine) (hms : X.mg "sorted" = none) (h0 : ρ[i]? = some (.mo q (.dn X.w q kvs))) (ek : kvs.map (·.1) = bs.map dec) (S : Sorts (fun b => (dec b).data) bs)
    (h : Q true (.list ((bs.mergeSort (dataLe false fun b => (dec b).data)).map fun b => (dec b).data)) ρ)
    (hN : X.N[i]? = some x := by rfl) (hv : Vis X.env.scope x := by first | exact Or.inl rfl | exact Or.inr (Or.inl rfl) | exact Or.inr (Or.inr rfl))
    (hd : (x == ("__debug__" : Str)) = false := by decide) (hcd : (x == ("__classdict__" : Str)) = false := by decide) (hg : Gl X "sorted" := by rfl)
    (he : starEach [Expr.Name x p'] X.env = (false, eval (.Name x p') X.env) :: starEach [] X.env := by rfl) (hpl : (backTo pos (starEach [] X.env)).any (·.1) = false := by rfl) : EM m X (.Call (.Name "sorted" p) [.Name x p'] [] pos) ρ W Q := fun σ I H ok xk R f => by
  obtain ⟨xs, hσ, hH, t⟩ := dn_at ok h0
  refine ⟨_, pe_callB (cr_sortDn (I := I) hc hu ek S) hg hms PyProof.Rows.boot_sorted (pa_cons (pe_var hN hv hd hcd) pa_nil he) (by decide) (by decide) he hpl, _, hσ, q, xs, rfl, hH, ok.sub, t, fun r ys n t => ?_⟩
  exact f _ true _ ρ I _ (Go.of ok (Grow.dark ok.sub n)) ⟨r, ys, _, rfl, rfl, n, ok.sub.nn n, upd_same, t⟩ h
end
end Tt

namespace Tt
open PySem PySem.Spec PyProof.Rows L2 PySem.W
/-! ### the order of alike data -/
section
variable {β : Type} {enc : β → D}
theorem toks_inj {x y : D} (h : alike x y = true) (e : keyToks x = keyToks y) : PyData.eqv x y = true := by
  cases q : PyData.eqv x y with
  | true => rfl
  | false =>
    have k := (toks_eqv x y h).2 q [] [Sum.inl 0]
    rw [e, lex_pre, lex_irrefl] at k
    exact absurd (show true = false from k) (by decide)
theorem perm_sort (al : ∀ a b, alike (enc a) (enc b) = true) (inj : ∀ a b, PyData.eqv (enc a) (enc b) = true → a = b) {l m : List β} (p : l.Perm m) : l.mergeSort (dataLe false enc) = m.mergeSort (dataLe false enc) := by
  have T : TotalLe (dataLe false enc) := sortLe_total (listOrd itemOrd) false fun b => keyToks (enc b)
  refine List.Perm.eq_of_pairwise (le := fun a b => dataLe false enc a b = true) (fun a b _ _ h1 h2 => ?_) (List.pairwise_mergeSort (fun a b c => T.trans a b c) (fun a b => by rw [Bool.or_eq_true]; exact T.total a b) _) (List.pairwise_mergeSort (fun a b c => T.trans a b c) (fun a b => by rw [Bool.or_eq_true]; exact T.total a b) _) ((List.mergeSort_perm _ _).trans (p.trans (List.mergeSort_perm _ _).symm))
  refine inj a b (toks_inj (al a b) ?_)
  have k1 : lexLt itemOrd (keyToks (enc b)) (keyToks (enc a)) = false := by
    have : (!lexLt itemOrd (keyToks (enc b)) (keyToks (enc a))) = true := h1
    simpa using this
  have k2 : lexLt itemOrd (keyToks (enc a)) (keyToks (enc b)) = false := by
    have : (!lexLt itemOrd (keyToks (enc a)) (keyToks (enc b))) = true := h2
    simpa using this
  exact lex_total _ _ k2 k1
end
end Tt

namespace Tt
open PySem PySem.Spec PyProof.Rows L2 PySem.W

/-! ### enumerate of a tuple, of a text -/
set_option maxHeartbeats 1000000 in
theorem meets_enum1 {v : Value} {o : Obj} {H : Heap → Prop} (B : Begins v o H) :
    Meets (Builtin.«enumerate.__new__» ⟨[.type "enumerate", v], []⟩) (fun _ R s => H s.heap ∧
      R (.ok (.ret (.ref (s.heap.push o).objs.size))) { s with heap := (s.heap.push o).push { cls := .type "enumerate", data := .fields #[.none, .bool false, .ref s.heap.objs.size, rawInt 0, .none, .none] } }) :=
  .of_wp fun prog w A R s h => by
    obtain ⟨hp, g, d, tk, os⟩ := s; obtain ⟨h1, h⟩ := h
    have hsub := sub_enumerate
    have q1 : ∀ {A' : Around} {E : Value → Shared → Prop} {Q : Value → Shared → Prop}, Q (.ref hp.objs.size) ⟨hp.push o, g, d, tk, os⟩ → wpAny (model prog w) A' (pyIter v) Q E ⟨hp, g, d, tk, os⟩ :=
      fun q => B.iter prog w _ _ ⟨hp, g, d, tk, os⟩ _ h1 q
    wp_walk using q1
    refine wpAny_stack_any fun st => wpAny_pure ?_
    split
    · rename_i c _ _ _ _ _
      cases (c == Value.type "enumerate")
      · wp_walk using q1
        exact ⟨_, rfl, h⟩
      · wp_walk using q1
        exact ⟨_, rfl, h⟩
    · wp_walk using q1
      exact ⟨_, rfl, h⟩
section
variable {prog : Program} {w : World} {A : Around} {E : Value → Shared → Prop} {s : Shared}
theorem enum1 {v : Value} {o : Obj} {H : Heap → Prop} {Q : Value → Shared → Prop} (B : Begins v o H) (h1 : H s.heap)
    (h : ∀ h', IsEnum h' (s.heap.objs.size + 1) s.heap.objs.size 0 .none → h'.get? s.heap.objs.size = some o → h'.objs.size = s.heap.objs.size + 2 →
      (∀ b o, s.heap.get? b = some o → h'.get? b = some o) → Q (.ref (s.heap.objs.size + 1)) { s with heap := h' }) :
    wpAny (model prog w) A (call (.type "enumerate") [v]) Q E s := by
  refine callType_new F.called_enumerate (by decide) (F.typeCall_enumerate_1 _) (F.newCall_enumerate_1 _) (fun obj => F.args_object_init_2 obj _) F.entry_enumerate_new (meets_enum1 B) ⟨h1, ?_⟩
  have hz : (s.heap.push o).objs.size = s.heap.objs.size + 1 := Heap.size_push ..
  show _ ∧ _
  rw [hz]
  have he : IsEnum ((s.heap.push o).push { cls := .type "enumerate", data := .fields #[.none, .bool false, .ref s.heap.objs.size, rawInt 0, .none, .none] }) (s.heap.objs.size + 1) s.heap.objs.size 0 .none := by
    have := Heap.get?_push_size (s.heap.push o) (o := { cls := .type "enumerate", data := .fields #[.none, .bool false, .ref s.heap.objs.size, rawInt 0, .none, .none] }) rfl
    rw [hz] at this; exact this
  refine ⟨⟨_, he, rfl⟩, h _ he (Heap.get?_push_of_some _ (Heap.get?_push_size _ B.free)) (by rw [Heap.size_push, hz]) fun b o x => Heap.get?_push_of_some _ (Heap.get?_push_of_some _ x)⟩
end
/-- the items f of a source G, each in a new pair with its number; n of them -/
def ItN (n : Nat) (G : Hp → Prop) (f : Nat → V → Prop) : It :=
  ⟨fun i H => G H ∧ i < n, fun i H v H' => ∃ T x o, v = .ref T ∧ o.dict = none ∧ H T = none ∧ H' = upd H T (.frz o (.tup [.int (i : Nat), x])) ∧ f i x, fun i H => G H ∧ n ≤ i⟩
/-- what an iterator draws, given by values -/
structure DrawV (P : Program) (w : World) (K : PySem.W.Frag) (n : Nat) (G : Hp → Prop) (f : Nat → V → Prop) (it : Addr) (St : Nat → Heap → Prop) : Prop where
  obj : ∀ i h, St i h → ∃ o, h.get? it = some o ∧ ∀ v, o.data ≠ .cell v
  keep : ∀ i h h', St i h → (∀ o, h.get? it = some o → h'.get? it = some o) → St i h'
  draws : ∀ (X : Cx), X.prog = P → X.w = w → X.K = K → X.calm = true → ∀ (i : Nat) (pins : List (Addr × Obj)) (s : Shared) (σ : L2.St) (H : Hp) (e : Addr) (oe : Obj), Inv X pins σ H s → St i s.heap → G H → s.heap.get? e = some oe → oe.cls = .type "enumerate" →
    ∃ (fp : List Addr) (Pv : Nat → Value → Prop) (S2 : Nat → Heap → Prop), Draws P w X.A.in1 it fp n Pv S2 ∧ S2 i s.heap ∧ e ∉ fp ∧ (∀ j h, S2 j h → St j h) ∧ ∀ j v, Pv j v → ∃ x, RelV x v ∧ f j x
theorem turn_enumV {P : Program} {w : World} {K : PySem.W.Frag} {elts : List Expr} {kk : Nat} {tpos : Pos} {n : Nat} {G : Hp → Prop} {f : Nat → V → Prop} {St : Nat → Heap → Prop} (e it : Addr) (D : DrawV P w K n G f it St) :
    Turn P w K (.Tuple elts kk tpos) (ItN n G f) [e, it] e (fun i h => (∃ old, IsEnum h e it ((i : Nat) : Int) old) ∧ St i h ∧ e ≠ it ∧ i ≤ n) where
  mem := by simp
  obj := fun i h st b hb => by
    obtain ⟨⟨old, he⟩, hs, _, _⟩ := st
    have e' : b = e ∨ b = it := by simpa using hb
    rcases e' with z | z
    · rw [z]; exact ⟨_, he, fun v q => nomatch q⟩
    · rw [z]; exact D.obj i h hs
  keep := fun i h h' st k => let ⟨⟨old, he⟩, hi, hne, hl⟩ := st; ⟨⟨old, k e (by simp) _ he⟩, D.keep i h h' hi fun o q => k it (by simp) o q, hne, hl⟩
  item := by
    intro X hP hw hK hc i pins s σ H E I hf st hg
    obtain ⟨⟨old, he⟩, hit, hne, hl⟩ := st
    obtain ⟨hG, hi⟩ := hg
    obtain ⟨fp, Pv, S2, Dr, s2, ef, back, val⟩ := D.draws X hP hw hK hc i pins s σ H e _ I hit hG he rfl
    subst hP hw hK
    have hel : e < s.heap.objs.size := Heap.lt_size he
    have hil : it < s.heap.objs.size := by obtain ⟨_, q⟩ := Dr.live _ _ s2; exact Heap.lt_size q
    refine wpAny_pyNext_enum_itemD Dr he s2 hi hne ef fun u h' tk pu ho hs' hT hsz hk => ?_
    refine ⟨_, rfl, wpAny_letOwnedTupleGo_enum (s := { s with heap := h', toks := tk + 1 }) ho fun h'' he' sb => ?_⟩
    obtain ⟨x, ru, fx⟩ := val i u pu
    have hT2 : h''.get? s.heap.objs.size = some { cls := .type "tuple", data := .seq #[.int i tk, u] } := (sb.2 _ (Nat.ne_of_gt hel)).trans hT
    have new : ObjOk X.prog X.w (upd H s.heap.objs.size (.frz { cls := .type "tuple", data := .seq #[.int i tk, u] } (.tup [.int (i : Nat), x]))) h'' s.heap.objs.size (.frz { cls := .type "tuple", data := .seq #[.int i tk, u] } (.tup [.int (i : Nat), x])) :=
      ⟨hT2, by show 2 ≤ sizeLine; decide, [.int i tk, u], .cons ⟨_, rfl⟩ (.cons ru .nil), ⟨_, hT2, rfl, _, rfl⟩⟩
    have I1 : Inv X pins σ (upd H s.heap.objs.size (.frz { cls := .type "tuple", data := .seq #[.int i tk, u] } (.tup [.int (i : Nat), x]))) { s with heap := h'', toks := tk + 1 } :=
      I.turnedNew (ch := [e, it]) (fun b ob hb q => (sb.2 b (fun z => hb (by simp [z]))).trans (hk b ob (fun z => hb (by simp [z])) (fun z => hb (by simp [z])) q)) hf (Nat.le_refl _) new
    refine ⟨.ref s.heap.objs.size, _, I1, rfl, ⟨_, x, _, rfl, rfl, I.hok.fresh (Nat.le_refl _), rfl, fx⟩, ⟨⟨u, ?_⟩, D.keep _ _ _ (back _ _ hs') fun o q => (sb.2 it (Ne.symm hne)).trans q, hne, hi⟩, fun b hb => ?_⟩
    · have e1 : ((i + 1 : Nat) : Int) = (i : Int) + 1 := by omega
      rw [e1]; exact he'
    · have hb' : b < s.heap.objs.size := by
        have e' : b = e ∨ b = it := by simpa using hb
        rcases e' with z | z
        · rw [z]; exact hel
        · rw [z]; exact hil
      rw [upd_ne (Nat.ne_of_lt hb')]
      exact (hf b hb).1
  done := by
    intro X hP hw hK hc i pins s σ H E I hf st hg
    obtain ⟨⟨old, he⟩, hit, hne, hl⟩ := st
    obtain ⟨hG, hi⟩ := hg
    obtain ⟨fp, Pv, S2, Dr, s2, ef, back, val⟩ := D.draws X hP hw hK hc i pins s σ H e _ I hit hG he rfl
    subst hP hw hK
    obtain rfl : i = n := Nat.le_antisymm hl hi
    obtain ⟨f0, f1, f2, f3, f4, f5⟩ := hf it (by simp)
    exact wpAny_pyNext_enum_endD Dr he s2 fun h' eb => ⟨rfl, I.turned (t' := s.toks) (fun b o hb q => eb b o hb q) f0 f1 f3 f4 f5⟩
  self := fun A i s Q E st h => let ⟨⟨_, he⟩, _⟩ := st; wpAny_pyIter_enum he h
theorem drawV_tuple {P : Program} {w : World} {K : PySem.W.Frag} {a it : Addr} {xs : List V} : DrawV P w K xs.length (fun H => SqT K H a xs) (fun i x => xs[i]? = some x) it (fun i h => h.IsTupleIter it a i ∧ a ≠ it) where
  obj := fun i h st => by
    obtain ⟨⟨o, ho, hc, hd⟩, _⟩ := st
    exact ⟨o, ho, fun v q => by rw [hd] at q; cases q⟩
  keep := fun i h h' st k => ⟨st.1.at k, st.2⟩
  draws := by
    intro X hP hw hK hc i pins s σ H e oe I st hG he hce
    obtain ⟨hit, hne⟩ := st
    subst hP hw hK
    obtain ⟨its, rv, p, hz⟩ := I.tuple hG
    obtain ⟨o1, g1, c1, n1, d1⟩ := id p
    have l : its.toArray.size = xs.length := by rw [List.size_toArray, ← rv.length]
    have D := Draws.tuple (prog := X.prog) (w := X.w) (A := X.A.in1) (I.ok.hd hc) it a hne its.toArray
    rw [l] at D
    refine ⟨_, _, _, D, ⟨hit, p⟩, fun m => ?_, fun j h q => ⟨q.1, hne⟩, fun j v q => ?_⟩
    · obtain ⟨o2, g2, c2, d2⟩ := id hit
      rcases List.mem_cons.mp m with z | m
      · rw [z, g2] at he
        cases he
        rw [c2] at hce
        exact absurd (Value.type.inj hce) (by decide)
      · have z := List.mem_singleton.mp m
        rw [z, g1] at he
        cases he
        rw [c1] at hce
        exact absurd (Value.type.inj hce) (by decide)
    · have hl : j < its.length := by
        have := (Array.getElem?_eq_some_iff.mp q).1
        simpa using this
      have hx : j < xs.length := by rw [rv.length]; exact hl
      obtain ⟨u, hu, ru⟩ := rv.get (i := j) (x := xs[j]) (List.getElem?_eq_getElem hx)
      have : u = v := by
        have q' : its[j]? = some v := by simpa using q
        rw [hu] at q'
        exact Option.some.inj q'
      subst this
      exact ⟨xs[j], ru, List.getElem?_eq_getElem hx⟩
theorem drawV_text {P : Program} {w : World} {K : PySem.W.Frag} {it : Addr} {z : Str} {t : Tok} : DrawV P w K z.cps.size (fun _ => True) (fun i x => ∃ c, z.cps[i]? = some c ∧ x = .str ⟨#[c]⟩) it (fun i h => h.IsStrIter it (strIterType z) z t i) where
  obj := fun i h st => by
    obtain ⟨o, ho, hc, hd⟩ := st
    exact ⟨o, ho, fun v q => by rw [hd] at q; cases q⟩
  keep := fun i h h' st k => let ⟨o, ho, r⟩ := st; ⟨o, k o ho, r⟩
  draws := by
    intro X hP hw hK hc i pins s σ H e oe I st hG he hce
    subst hP hw hK
    refine ⟨_, _, _, Draws.text (prog := X.prog) (w := X.w) (A := X.A.in1) (I.ok.hd hc) it z t, st, fun m => ?_, fun j h q => q, fun j v q => ?_⟩
    · obtain ⟨o2, g2, c2, d2⟩ := id st
      have y := List.mem_singleton.mp m
      rw [y, g2] at he
      cases he
      rw [c2] at hce
      unfold strIterType at hce
      split at hce <;> exact absurd (Value.type.inj hce) (by decide)
    · obtain ⟨c, u, hcs, rfl⟩ := q
      exact ⟨.str ⟨#[c]⟩, ⟨_, rfl⟩, c, hcs, rfl⟩
def iEnumT (K : PySem.W.Frag) (ta : TA) : TI := fun σ H R => ta σ H fun vs H1 => ∃ a xs, vs = [.ref a] ∧ SqT K H1 a xs ∧ R (ItN xs.length (fun H => SqT K H a xs) fun i x => xs[i]? = some x) H1
def iEnumS (ta : TA) : TI := fun σ H R => ta σ H fun vs H1 => ∃ z, vs = [.str z] ∧ R (ItN z.cps.size (fun _ => True) fun i x => ∃ c, z.cps[i]? = some c ∧ x = .str ⟨#[c]⟩) H1
section
variable {X : Cx} {e : Expr} {ta : TA} {p pos tpos : Pos} {elts : List Expr} {kk : Nat}
theorem pi_enumT (hg : Gl X "enumerate") (hm : X.mg "enumerate" = none) (ha : PA X [e] ta) (hs : starEach [e] X.env = [(false, eval e X.env)] := by rfl) :
    PI X (.Tuple elts kk tpos) (.Call (.Name "enumerate" p) [e] [] pos) (iEnumT X.K ta) := by
  refine ⟨fun pins s σ H R I h => ?_⟩
  refine Call_ (ld_blt I hg hm boot_enumerate (PyProof.Rows.callWith_type1 (thn (ha.run pos pins s σ H _ I h) fun us s1 ⟨vs, H1, I1, r1, q1⟩ => ?_) hs rfl))
  obtain ⟨a, xs, ex, hq, q⟩ := q1
  subst ex
  obtain ⟨u, rfl, r⟩ := vals1 r1
  cases r
  obtain ⟨its, rv, p', hz⟩ := I1.tuple hq
  have al : a < s1.heap.objs.size := let ⟨_, g, _⟩ := p'; Heap.lt_size g
  refine enum1 (begins_tuple a its.toArray) p' fun h' he hit hsz hk => wpAny_pyIter_enum he ?_
  have I2 : Inv X pins σ H1 { s1 with heap := h' } := I1.kept (t' := s1.toks) hk
  refine ⟨s1.heap.objs.size + 1, [s1.heap.objs.size + 1, s1.heap.objs.size], _, _, H1, rfl, I2, turn_enumV (s1.heap.objs.size + 1) s1.heap.objs.size drawV_tuple, ⟨⟨.none, he⟩, ⟨⟨_, hit, rfl, rfl⟩, Nat.ne_of_lt al⟩, Nat.succ_ne_self _, Nat.zero_le _⟩, fun b hb => ?_, q⟩
  have e' : b = s1.heap.objs.size + 1 ∨ b = s1.heap.objs.size := by simpa using hb
  have hle : s1.heap.objs.size ≤ b := by
    rcases e' with z | z
    · rw [z]; exact Nat.le_add_right _ _
    · rw [z]; exact Nat.le_refl _
  exact I1.fpOk hle (I1.hok.fresh hle)
theorem pi_enumS (hg : Gl X "enumerate") (hm : X.mg "enumerate" = none) (ha : PA X [e] ta) (hs : starEach [e] X.env = [(false, eval e X.env)] := by rfl) :
    PI X (.Tuple elts kk tpos) (.Call (.Name "enumerate" p) [e] [] pos) (iEnumS ta) := by
  refine ⟨fun pins s σ H R I h => ?_⟩
  refine Call_ (ld_blt I hg hm boot_enumerate (PyProof.Rows.callWith_type1 (thn (ha.run pos pins s σ H _ I h) fun us s1 ⟨vs, H1, I1, r1, q1⟩ => ?_) hs rfl))
  obtain ⟨z, ex, q⟩ := q1
  subst ex
  obtain ⟨u, rfl, r⟩ := vals1 r1
  obtain ⟨t, rfl⟩ := r
  refine enum1 (begins_text z t) trivial fun h' he hit hsz hk => wpAny_pyIter_enum he ?_
  have I2 : Inv X pins σ H1 { s1 with heap := h' } := I1.kept (t' := s1.toks) hk
  refine ⟨s1.heap.objs.size + 1, [s1.heap.objs.size + 1, s1.heap.objs.size], _, _, H1, rfl, I2, turn_enumV (s1.heap.objs.size + 1) s1.heap.objs.size (drawV_text (t := t)), ⟨⟨.none, he⟩, ⟨_, hit, rfl, rfl⟩, Nat.succ_ne_self _, Nat.zero_le _⟩, fun b hb => ?_, q⟩
  have e' : b = s1.heap.objs.size + 1 ∨ b = s1.heap.objs.size := by simpa using hb
  have hle : s1.heap.objs.size ≤ b := by
    rcases e' with z | z
    · rw [z]; exact Nat.le_add_right _ _
    · rw [z]; exact Nat.le_refl _
  exact I1.fpOk hle (I1.hok.fresh hle)
end
/-! as data -/
def enumD (ds : List D) : List D := (List.range ds.length).map fun i => .tuple [.int (i : Nat), ds.getD i .none]
theorem enumD_at {ds : List D} {i : Nat} {d : D} (h : ds[i]? = some d) : (enumD ds)[i]? = some (.tuple [.int (i : Nat), d]) := by
  have hl : i < ds.length := (List.getElem?_eq_some_iff.mp h).1
  unfold enumD
  rw [List.getElem?_map, List.getElem?_range hl]
  simp [List.getD_eq_getElem?_getD, h]
theorem enumD_len {ds : List D} : (enumD ds).length = ds.length := by simp [enumD]
theorem WalkD.enumN {K : PySem.W.Frag} {I : Hp} {n : Nat} {G : Hp → Prop} {f : Nat → V → Prop} {ds : List D} (hn : ds.length = n) (hG : ∀ H, Sub I H → G H) (hf : ∀ i x, i < n → f i x → ∃ d, ds[i]? = some d ∧ Dq I x d) : WalkD K (ItN n G f) I (enumD ds) := ⟨by
  rw [enumD_len, hn]
  refine ⟨fun i H hi s => ⟨hG H s, hi⟩, fun H s => ⟨hG H s, Nat.le_refl _⟩, fun i H v H' hi s y => ?_⟩
  obtain ⟨T, x, o, rfl, od, nT, rfl, fx⟩ := y
  obtain ⟨d, hd, r⟩ := hf i x hi fx
  refine ⟨_, enumD_at hd, fun I1 ii s1 => ?_⟩
  have g := Grow.new (o := .frz o (.tup [.int (i : Nat), x])) s1 nT
  exact ⟨_, g, Rv.mkT ⟨o, od, upd_same⟩ (.cons (.int _) (.cons (Dq.same (ii.trans g.ii) r) .nil))⟩⟩
section
variable {X : Cx} {m : Bool} {ρ ρ1 : List Sl} {W : Wx} {e : Expr} {p pos tpos : Pos} {elts : List Expr} {kk : Nat} {Q : List D → List Sl → Prop}
theorem im_enumT (hm : X.mg "enumerate" = none) (h : EM m X e ρ W fun _ d ρ1 => ∃ ds, d = .tuple ds ∧ Q (enumD ds) ρ1) (hg : Gl X "enumerate" := by rfl) (hs : starEach [e] X.env = [(false, eval e X.env)] := by rfl) : IM m X (.Tuple elts kk tpos) (.Call (.Name "enumerate" p) [e] [] pos) ρ W Q := fun σ I H ok xk R f =>
  ⟨_, pi_enumT hg hm (pa_cons pe_w pa_nil hs) hs, h.run ok xk fun v o d ρ1 I1 H1 g r ⟨ds, e, q⟩ => by
    subst e
    obtain ⟨a, xs, rfl, ha, t⟩ := r.tup
    exact ⟨a, xs, rfl, ((g.env ok).sub.tup ha).sq, f _ _ ρ1 I1 H1 g (.enumN t.len.symm (fun H s => (s.tup ha).sq) fun i x hi hx => t.getV hx) q⟩⟩
theorem im_enumS (hm : X.mg "enumerate" = none) (h : EM m X e ρ W fun _ d ρ1 => ∃ z, d = .str z ∧ Q (enumD (chars z)) ρ1) (hg : Gl X "enumerate" := by rfl) (hs : starEach [e] X.env = [(false, eval e X.env)] := by rfl) : IM m X (.Tuple elts kk tpos) (.Call (.Name "enumerate" p) [e] [] pos) ρ W Q := fun σ I H ok xk R f =>
  ⟨_, pi_enumS hg hm (pa_cons pe_w pa_nil hs) hs, h.run ok xk fun v o d ρ1 I1 H1 g r ⟨z, e, q⟩ => by
    subst e
    exact ⟨z, by rw [r.str], f _ _ ρ1 I1 H1 g (.enumN (by simp [chars]) (fun H s => trivial) fun i x hi ⟨c, hc, ex⟩ => ⟨.str ⟨#[c]⟩, by simp [chars, hc], by rw [ex]; exact .str _⟩) q⟩⟩
end
end Tt

namespace Tt
open PySem PySem.Spec PyProof.Rows L2 PySem.W
/-! zip of two lists: the pairs are known -/
def YzF (K : PySem.W.Frag) (a b : Addr) : Nat → Hp → V → Hp → Prop := fun i H v H' => ∃ T x y o, v = .ref T ∧ o.dict = none ∧ H T = none ∧ H' = upd H T (.frz o (.tup [x, y])) ∧ (∀ xs, SqL K H a xs → xs[i]? = some x) ∧ ∀ ys, SqL K H b ys → ys[i]? = some y
def ItzF (K : PySem.W.Frag) (a b : Addr) : It := ⟨(Itz K a b).go, YzF K a b, (Itz K a b).stop⟩
theorem turn_zipF {P : Program} {w : World} {K : PySem.W.Frag} {elts : List Expr} {kk : Nat} {tpos : Pos} {a b z TI TO i1 i2 : Addr} (D : ZipApart z TI TO i1 i2 a b) :
    Turn P w K (.Tuple elts kk tpos) (ItzF K a b) [z, TI, TO, i1, i2] z (fun i h => IsZip h z TI TO .none ∧ PySem.IsPair h TI (.ref i1) (.ref i2) ∧ (∃ x y, PySem.IsPair h TO x y) ∧ h.IsListIter i1 a i ∧ h.IsListIter i2 b i) where
  mem := List.mem_cons_self
  obj := fun i h st c hc => by
    obtain ⟨hz, hTI, ⟨x, y, hTO⟩, ⟨o1, e1, _, d1⟩, ⟨o2, e2, _, d2⟩⟩ := st
    simp only [List.mem_cons, List.not_mem_nil, or_false] at hc
    rcases hc with rfl | rfl | rfl | rfl | rfl
    · exact ⟨_, hz, fun v q => nomatch q⟩
    · exact ⟨_, hTI, fun v q => nomatch q⟩
    · exact ⟨_, hTO, fun v q => nomatch q⟩
    · exact ⟨o1, e1, fun v q => by rw [d1] at q; cases q⟩
    · exact ⟨o2, e2, fun v q => by rw [d2] at q; cases q⟩
  keep := fun i h h' st k => by
    obtain ⟨hz, hTI, ⟨x, y, hTO⟩, h1, h2⟩ := st
    exact ⟨k z (by simp) _ hz, k TI (by simp) _ hTI, ⟨x, y, k TO (by simp) _ hTO⟩, h1.at fun o q => k i1 (by simp) o q, h2.at fun o q => k i2 (by simp) o q⟩
  item := by
    intro X hP hw hK hc i pins s σ H E I hf st hg
    subst hP hw hK
    obtain ⟨hz, hTI, ⟨x0, y0, hTO⟩, h1, h2⟩ := st
    obtain ⟨xs, ys, x, y, hqx, hqy, hx, hy⟩ := hg
    obtain ⟨its, rv, p, _⟩ := I.list hqx
    obtain ⟨its2, rv2, p2, _⟩ := I.list hqy
    obtain ⟨u, hu, ru⟩ := rv.get hx
    obtain ⟨u2, hu2, ru2⟩ := rv2.get hy
    have hlt : ∀ c ∈ [z, TI, TO, i1, i2], c < s.heap.objs.size := fun c hcm => by
      simp only [List.mem_cons, List.not_mem_nil, or_false] at hcm
      rcases hcm with q | q | q | q | q <;> rw [q]
      · exact Heap.lt_size hz
      · exact Heap.lt_size hTI
      · exact Heap.lt_size hTO
      · obtain ⟨_, e1, _⟩ := h1; exact Heap.lt_size e1
      · obtain ⟨_, e2, _⟩ := h2; exact Heap.lt_size e2
    have hzl := hlt z List.mem_cons_self
    refine wpAny_pyNext_zip_item D hz hTI hTO h1 h2 p.isList p2.isList (x := u) (y := u2) (by simpa using hu) (by simpa using hu2) fun h' z' TO' h1' h2' hT hsz hk => ?_
    refine ⟨_, rfl, wpAny_letOwnedTupleGo_zip (s := { s with heap := h' }) z' fun h'' z'' sb => ?_⟩
    have hT2 : h''.get? s.heap.objs.size = some { cls := .type "tuple", data := .seq #[u, u2] } := (sb.2 _ (Nat.ne_of_gt hzl)).trans hT
    have old : ∀ c o, c ∉ [z, TI, TO, i1, i2] → s.heap.get? c = some o → h''.get? c = some o := fun c o hb q => by
      simp only [List.mem_cons, List.not_mem_nil, or_false, not_or] at hb
      exact (sb.2 c hb.1).trans (hk c o hb.1 hb.2.2.1 hb.2.2.2.1 hb.2.2.2.2 q)
    have new : ObjOk X.prog X.w (upd H s.heap.objs.size (.frz { cls := .type "tuple", data := .seq #[u, u2] } (.tup [x, y]))) h'' s.heap.objs.size (.frz { cls := .type "tuple", data := .seq #[u, u2] } (.tup [x, y])) :=
      ⟨hT2, by show 2 ≤ sizeLine; decide, [u, u2], .cons ru (.cons ru2 .nil), ⟨_, hT2, rfl, _, rfl⟩⟩
    have I1 : Inv X pins σ (upd H s.heap.objs.size (.frz { cls := .type "tuple", data := .seq #[u, u2] } (.tup [x, y]))) { s with heap := h'' } := I.turnedNew (t' := s.toks) (ch := [z, TI, TO, i1, i2]) old hf (Nat.le_refl _) new
    refine ⟨.ref s.heap.objs.size, _, I1, rfl, ⟨_, x, y, _, rfl, rfl, I.hok.fresh (Nat.le_refl _), rfl, fun l hl => by rw [I.list_inj hl hqx]; exact hx, fun l hl => by rw [I.list_inj hl hqy]; exact hy⟩, ⟨z'', ?_, ⟨u, u2, ?_⟩, ?_, ?_⟩, fun c hcm => ?_⟩
    · exact (sb.2 _ D.TIz).trans (hk _ _ D.TIz D.TITO D.TIi1 D.TIi2 hTI)
    · exact (sb.2 _ D.TOz).trans TO'
    · exact h1'.at fun o q => (sb.2 _ D.i1z).trans q
    · exact h2'.at fun o q => (sb.2 _ D.i2z).trans q
    · rw [upd_ne (Nat.ne_of_lt (hlt c hcm))]
      exact (hf c hcm).1
  done := by
    intro X hP hw hK hc i pins s σ H E I hf st hg
    subst hP hw hK
    obtain ⟨hz, hTI, ⟨x0, y0, hTO⟩, h1, h2⟩ := st
    obtain ⟨xs, ys, hqx, hqy, hend⟩ := hg
    obtain ⟨its, rv, p, _⟩ := I.list hqx
    obtain ⟨its2, rv2, p2, _⟩ := I.list hqy
    have l1 := rv.length
    have l2 := rv2.length
    have over : its.toArray[i]? = none ∨ its2.toArray[i]? = none := hend.imp (fun q => by simp; omega) fun q => by simp; omega
    refine wpAny_pyNext_zip_end (I.ok.hd hc) D hz hTI hTO h1 h2 p.isList p2.isList over fun h' hk => ⟨rfl, I.turnedL (t' := s.toks) (ch := [z, TI, TO, i1, i2]) (fun c o hb q => ?_) hf⟩
    simp only [List.mem_cons, List.not_mem_nil, or_false, not_or] at hb
    exact hk c o hb.1 hb.2.2.1 hb.2.2.2.1 hb.2.2.2.2 q
  self := fun A i s Q E st h => wpAny_pyIter_zip st.1 h
def iZipF (K : PySem.W.Frag) (ta : TA) : TI := fun σ H R => ta σ H fun vs H1 => ∃ a b xs ys, vs = [.ref a, .ref b] ∧ SqL K H1 a xs ∧ SqL K H1 b ys ∧ R (ItzF K a b) H1
theorem pi_zipF {X : Cx} {e e2 : Expr} {ta : TA} {p pos tpos : Pos} {elts : List Expr} {kk : Nat} (hg : Gl X "zip") (hm : X.mg "zip" = none) (ha : PA X [e, e2] ta)
    (hs : starEach [e, e2] X.env = (false, eval e X.env) :: starEach [e2] X.env := by rfl) (hpl : (backTo pos (starEach [e2] X.env)).any (·.1) = false := by rfl) :
    PI X (.Tuple elts kk tpos) (.Call (.Name "zip" p) [e, e2] [] pos) (iZipF X.K ta) := by
  refine ⟨fun pins s σ H R I h => ?_⟩
  refine Call_ (ld_blt I hg hm PyProof.Rows.boot_zip (PyProof.Rows.callWith_type1 (thn (ha.run pos pins s σ H _ I h) fun us s1 ⟨vs, H1, I1, r1, q1⟩ => ?_) hs hpl))
  obtain ⟨a, b, xs, ys, ex, hqx, hqy, q⟩ := q1
  subst ex
  cases r1 with
  | cons r rr =>
    cases rr with
    | cons r' rr =>
      cases rr
      cases r
      cases r'
      obtain ⟨its, rv, p1, _⟩ := I1.list hqx
      obtain ⟨its2, rv2, p2, _⟩ := I1.list hqy
      refine call_zip_2 p1.isList p2.isList fun h' hz hTI hTO h1 h2 hsz hk => wpAny_pyIter_zip hz ?_
      have I2 : Inv X pins σ H1 { s1 with heap := h' } := I1.kept (t' := s1.toks) hk
      refine ⟨s1.heap.objs.size + 4, [s1.heap.objs.size + 4, s1.heap.objs.size + 2, s1.heap.objs.size + 3, s1.heap.objs.size, s1.heap.objs.size + 1], _, _, H1, rfl, I2, turn_zipF (PySem.W.ktu_apart s1.heap.objs.size a b p1.lt p2.lt), ⟨hz, hTI, ⟨_, _, hTO⟩, h1, h2⟩, fun c hcm => ?_, q⟩
      have hle : s1.heap.objs.size ≤ c := by
        have e' : c = s1.heap.objs.size + 4 ∨ c = s1.heap.objs.size + 2 ∨ c = s1.heap.objs.size + 3 ∨ c = s1.heap.objs.size ∨ c = s1.heap.objs.size + 1 := by simpa using hcm
        rcases e' with z | z | z | z | z <;> rw [z]
        · exact Nat.le_add_right _ _
        · exact Nat.le_add_right _ _
        · exact Nat.le_add_right _ _
        · exact Nat.le_refl _
        · exact Nat.le_add_right _ _
      exact I1.fpOk hle (I1.hok.fresh hle)
theorem walk_zipF {K : PySem.W.Frag} {a b : Addr} {xs ys : List V} : Walk (ItzF K a b) (min xs.length ys.length) (fun H => SqL K H a xs ∧ SqL K H b ys) (fun i H v H' => ∃ T x y o, v = .ref T ∧ o.dict = none ∧ H T = none ∧ H' = upd H T (.frz o (.tup [x, y])) ∧ xs[i]? = some x ∧ ys[i]? = some y) := by
  have w := walk_zip (K := K) (a := a) (b := b) (xs := xs) (ys := ys) rfl
  refine ⟨w.goes, w.stops, fun i H v H' _ q y => ?_⟩
  obtain ⟨T, x, z, o, h1, h2, h3, h4, h5, h6⟩ := y
  exact ⟨T, x, z, o, h1, h2, h3, h4, h5 xs q.1, h6 ys q.2⟩
section
variable {X : Cx} {m : Bool} {ρ ρ1 : List Sl} {W : Wx} {a b e : Expr} {p pos tpos : Pos} {elts : List Expr} {kk : Nat}
/-- {'z': True} -/
theorem vm_dk1 {z : Str} {j1 j2} {p1 p2 : Pos} {QV : Sl → List Sl → Prop} (h : ∀ p, QV (.mo p (.dk [z])) ρ) : VM m X (.Dict [some (.Constant (.str z) j1 p1)] [.Constant (.bool true) j2 p2] pos) ρ W QV := fun σ I H ok xk R f =>
  ⟨_, pe_disp (pps_cons pe_str pe_bl pps_nil) rfl rfl (by simp) (by simp), fun p np => ⟨upd_same, [(Sum.inr z, V.bl true)], rfl, by simp, by
    rw [upd_upd]
    have g := Grow.dark (o := dictO [z]) ok.sub np
    exact f _ (.mo p (.dk [z])) ρ _ _ (Go.of ok g) ⟨⟨rfl, _, upd_same, rfl⟩, List.pairwise_singleton _ _, fun a z => by rw [List.mem_singleton.mp z]; exact ⟨np, ok.sub.nn np⟩⟩ (h p)⟩⟩
/-! zip of two lists -/
def zipD (ds es : List D) : List D := (List.range (min ds.length es.length)).map fun i => .tuple [ds.getD i .none, es.getD i .none]
theorem zipD_len {ds es : List D} : (zipD ds es).length = min ds.length es.length := by simp [zipD]
theorem zipD_at {ds es : List D} {i : Nat} {d e : D} (h : ds[i]? = some d) (h2 : es[i]? = some e) : (zipD ds es)[i]? = some (.tuple [d, e]) := by
  have hl : i < ds.length := (List.getElem?_eq_some_iff.mp h).1
  have hl2 : i < es.length := (List.getElem?_eq_some_iff.mp h2).1
  unfold zipD
  rw [List.getElem?_map, List.getElem?_range (by omega)]
  simp [List.getD_eq_getElem?_getD, h, h2]
theorem im_zipL {Q : List D → List Sl → Prop} (hm : X.mg "zip" = none) (h : AM m X [a, b] ρ W fun vs ρ1 => ∃ ds es, vs = [.list ds, .list es] ∧ Q (zipD ds es) ρ1) (hg : Gl X "zip" := by rfl)
    (hs : starEach [a, b] X.env = (false, eval a X.env) :: starEach [b] X.env := by rfl) (hpl : (backTo pos (starEach [b] X.env)).any (·.1) = false := by rfl) : IM m X (.Tuple elts kk tpos) (.Call (.Name "zip" p) [a, b] [] pos) ρ W Q := fun σ I H ok xk R f =>
  ⟨_, pi_zipF hg hm pa_w hs hpl, h σ I H ok xk _ fun vs ds ρ1 I1 H1 g r ⟨ds, es, e, q⟩ => by
    subst e
    cases r with
    | cons r1 r =>
      cases r with
      | cons r2 r =>
        cases r
        obtain ⟨a1, xs, rfl, ha, t⟩ := r1.lst
        obtain ⟨a2, ys, rfl, hb, t2⟩ := r2.lst
        refine ⟨a1, a2, xs, ys, rfl, SqL.of ((g.env ok).sub.lst ha), SqL.of ((g.env ok).sub.lst hb), f _ _ ρ1 I1 H1 g ⟨?_⟩ q⟩
        rw [zipD_len, ← t.len, ← t2.len]
        refine (walk_zipF (xs := xs) (ys := ys)).mono (fun H s => ⟨SqL.of (s.lst ha), SqL.of (s.lst hb)⟩) fun i H v H' hi s y => ?_
        obtain ⟨T, x, x2, ob, rfl, od, nT, rfl, e1, e2⟩ := y
        obtain ⟨d, hd, r⟩ := t.getV e1
        obtain ⟨d2, hd2, r2⟩ := t2.getV e2
        refine ⟨_, zipD_at hd hd2, fun I1' ii s1 => ?_⟩
        have g := Grow.new (o := .frz ob (.tup [x, x2])) s1 nT
        exact ⟨_, g, Rv.mkT ⟨ob, od, upd_same⟩ (.cons (Dq.same (ii.trans g.ii) r) (.cons (Dq.same (ii.trans g.ii) r2) .nil))⟩⟩
/-! list(range(n)) -/
theorem em_listRg {Q : Bool → D → List Sl → Prop} (hc : X.calm = true) (hm : X.mg "list" = none) (hr : X.mg "range" = none) {p2 pos2 : Pos} (h : EM m X a ρ W fun _ d ρ1 => ∃ n : Nat, d = .int n ∧ n ≤ 16777216 ∧ Q true (.list (rngD 0 n)) ρ1) (hg : Gl X "list" := by rfl) (hg2 : Gl X "range" := by rfl) (na : starEach [a] X.env = (false, eval a X.env) :: starEach [] X.env := by rfl)
    (na2 : starEach [Expr.Call (.Name "range" p2) [a] [] pos2] X.env = (false, eval (Expr.Call (.Name "range" p2) [a] [] pos2) X.env) :: starEach [] X.env := by rfl) : EM m X (.Call (.Name "list" p) [.Call (.Name "range" p2) [a] [] pos2] [] pos) ρ W Q := fun σ I H ok xk R f =>
  ⟨_, pe_listRg hc hg hm (prg_1 hg2 hr pe_w na) na2, h.run ok xk fun v _ d ρ1 I1 H1 g1 r1 ⟨n, e, hn, q⟩ => by
    subst e
    rw [r1.int]
    refine ⟨(n : Int), rfl, .of_le (Int.le_refl 0) (by omega) (by omega) (by omega), fun q' nq => ?_⟩
    have e2 : rgV 0 (n : Int) = (rgV 0 (n : Int)) := rfl
    have t : DqAll I1 (rgV 0 (n : Int)) (rngD 0 n) := by
      unfold rgV rngD
      have : ((n : Int) - 0).toNat = n := by omega
      rw [this]
      have : ∀ l : List Nat, DqAll I1 (l.map fun i => V.int (0 + (i : Nat))) (l.map fun (i : Nat) => PyData.int (0 + (i : Int))) := by
        intro l
        induction l with
        | nil => exact .nil
        | cons x l ih => exact .cons (.int _) ih
      exact this _
    have gr := Grow.dark (o := .lst (rgV 0 (n : Int))) (g1.env ok).sub nq
    exact f _ true _ ρ1 I1 _ (g1.grow ok gr) ⟨q', _, _, rfl, rfl, g1.nn q' nq, (g1.env ok).sub.nn nq, upd_same, t⟩ q⟩
end
end Tt

namespace Tt
open PySem PySem.Spec PyProof.Rows L2 PySem.W
/-! ### a list of two lists of one's own -/
theorem EnvOk.atLL {K : PySem.W.Frag} {I H : Hp} {σ : L2.St} {ρ : List Sl} {i : Nat} {p p1 p2 : Addr} {d1 d2 : List D} (ok : EnvOk K I H σ ρ) (h : ρ[i]? = some (.ll p [p1, p2] [.lst d1, .lst d2])) :
    ∃ x1 x2, σ[i]? = some (some (.ref p)) ∧ H p = some (.lst [.ref p1, .ref p2]) ∧ H p1 = some (.lst x1) ∧ H p2 = some (.lst x2) ∧ DqAll I x1 d1 ∧ DqAll I x2 d2 ∧ p ≠ p1 ∧ p ≠ p2 ∧ p1 ≠ p2 ∧ I p = none ∧ I p1 = none ∧ I p2 = none := by
  obtain ⟨v, hv, rfl, hp, pr⟩ := ok.at h (fun z => nomatch z)
  have fi : ft ρ i = [p, p1, p2] := ft_at h
  have nd := ok.nd i
  rw [fi] at nd
  simp only [List.nodup_cons, List.mem_cons, List.not_mem_nil, or_false, not_or, not_false_eq_true, and_true] at nd
  have o := fun a (m : a ∈ [p, p1, p2]) => ok.out i a (by rw [fi]; exact m)
  cases pr with
  | cons h1 t =>
    cases t with
    | cons h2 t =>
      obtain ⟨o1, e1, x1, rfl, t1⟩ := h1
      obtain ⟨o2, e2, x2, rfl, t2⟩ := h2
      exact ⟨x1, x2, hv, hp, e1, e2, t1, t2, nd.1.1, nd.1.2, nd.2.1, o p (by simp), o p1 (by simp), o p2 (by simp)⟩
theorem EnvOk.freezeLL {K : PySem.W.Frag} {I H : Hp} {σ : L2.St} {ρ : List Sl} {i : Nat} {p p1 p2 : Addr} {d1 d2 : List D} (ok : EnvOk K I H σ ρ) (h : ρ[i]? = some (.ll p [p1, p2] [.lst d1, .lst d2])) :
    ∃ J, Same I J ∧ EnvOk K J H σ (ρ.set i (.va (.list [.list d1, .list d2]))) ∧ ∀ a, J a ≠ none → I a = none → Mt ρ a := by
  obtain ⟨x1, x2, hv, hp, h1, h2, t1, t2, n1, n2, n3, o0, o1, o2⟩ := ok.atLL h
  have hl : i < ρ.length := (List.getElem?_eq_some_iff.mp h).1
  have fi : ft ρ i = [p, p1, p2] := ft_at h
  have ij : Same I (upd (upd (upd I p1 (.lst x1)) p2 (.lst x2)) p (.lst [.ref p1, .ref p2])) := fun a o e => by
    rw [upd_ne (ne_of_none e o0), upd_ne (ne_of_none e o2), upd_ne (ne_of_none e o1)]
    exact e
  have fs : ∀ j a, a ∈ ft (ρ.set i (.va (.list [.list d1, .list d2]))) j → a ∈ ft ρ j ∧ j ≠ i := fun j a hj => by
    rw [ft_set] at hj
    split at hj
    · cases hj
    · rename_i z
      refine ⟨hj, fun e => ?_⟩
      subst e
      exact z ⟨rfl, hl⟩
  have far : ∀ j a, a ∈ ft ρ j → j ≠ i → a ≠ p ∧ a ≠ p1 ∧ a ≠ p2 := fun j a hj ne => ⟨fun e => ne (ok.dj j i a hj (by rw [fi, e]; simp)), fun e => ne (ok.dj j i a hj (by rw [fi, e]; simp)), fun e => ne (ok.dj j i a hj (by rw [fi, e]; simp))⟩
  refine ⟨_, ij, ⟨by rw [List.length_set]; exact ok.len, fun j s e => ?_, fun j => ?_, fun j k a q1 q2 => ok.dj j k a (fs j a q1).1 (fs k a q2).1, fun j a q1 => ?_, fun a o e => ?_⟩, fun a q1 q2 => ?_⟩
  · by_cases z : i = j
    · subst z
      rw [List.getElem?_set_self hl] at e
      cases e
      rw [hv]
      refine Rv.mkL upd_same (.cons (.lst (xs := x1) ?_ (DqAll.same ij t1)) (.cons (.lst (xs := x2) ?_ (DqAll.same ij t2)) .nil))
      · rw [upd_ne (Ne.symm n1), upd_ne n3, upd_same]
      · rw [upd_ne (Ne.symm n2), upd_same]
    · rw [List.getElem?_set_ne z] at e
      exact (ok.ok j s e).grow ij fun _ _ _ e => e
  · rw [ft_set]
    split
    · exact List.nodup_nil
    · exact ok.nd j
  · obtain ⟨m, ne⟩ := fs j a q1
    obtain ⟨f1, f2, f3⟩ := far j a m ne
    rw [upd_ne f1, upd_ne f3, upd_ne f2]
    exact ok.out j a m
  · by_cases z : a = p
    · subst z
      rw [upd_same] at e
      cases e
      exact .inl hp
    · rw [upd_ne z] at e
      by_cases z2 : a = p2
      · subst z2
        rw [upd_same] at e
        cases e
        exact .inl h2
      · rw [upd_ne z2] at e
        by_cases z1 : a = p1
        · subst z1
          rw [upd_same] at e
          cases e
          exact .inl h1
        · rw [upd_ne z1] at e
          exact ok.sub a o e
  · refine ⟨i, ?_⟩
    rw [fi]
    apply Decidable.byContradiction
    intro m
    simp only [List.mem_cons, List.not_mem_nil, or_false, not_or] at m
    rw [upd_ne m.1, upd_ne m.2.2, upd_ne m.2.1] at q1
    exact q1 q2
section
variable {X : Cx} {m : Bool} {ρ ρ1 : List Sl} {W : Wx} {a b c e : Expr} {es : List Expr} {pos p' : Pos} {σ : L2.St} {I H I1 H1 : Hp} {E : DE} {Q : Bool → D → List Sl → Prop} {ss : List Stmt} {st : Stmt}
theorem sd_freezeLL (i : Nat) {p p1 p2 : Addr} {d1 d2 : List D} (h0 : ρ[i]? = some (.ll p [p1, p2] [.lst d1, .lst d2])) (h : SD X ss (ρ.set i (.va (.list [.list d1, .list d2]))) W E) : SD X ss ρ W E := fun σ I H ok xk T k => by
  obtain ⟨J, ij, ok', hq⟩ := ok.freezeLL h0
  have mts : ∀ a, Mt (ρ.set i (.va (.list [.list d1, .list d2]))) a → Mt ρ a := fun a m => (mt_set m).elim id fun z => by cases z
  have st : Step I H (Mt ρ) J H (Mt (ρ.set i (.va (.list [.list d1, .list d2])))) := ⟨ij, fun _ _ e _ => e, fun a o e n nm => by
    cases z : J a with
    | none => rfl
    | some u => exact absurd (hq a (by rw [z]; exact fun z => nomatch z) n) nm, fun a m => .inl (mts a m), fun a o e => ⟨o, e⟩⟩
  exact h σ J H ok' (xk.step st) T (k.step st)
theorem tm_viewLL (i : Nat) {p p1 p2 : Addr} {d1 d2 : List D} {QT : Bool → List Sl → Prop} (h0 : ρ[i]? = some (.ll p [p1, p2] [.lst d1, .lst d2])) (h : TM true X e (ρ.set i (.va (.list [.list d1, .list d2]))) W fun x _ => QT x ρ) : TM m X e ρ W QT := fun σ I H ok xk R k => by
  obtain ⟨J, ij, ok', hq⟩ := ok.freezeLL h0
  have mts : ∀ a, Mt (ρ.set i (.va (.list [.list d1, .list d2]))) a → Mt ρ a := fun a m => (mt_set m).elim id fun z => by cases z
  have st : Step I H (Mt ρ) J H (Mt (ρ.set i (.va (.list [.list d1, .list d2])))) := ⟨ij, fun _ _ e _ => e, fun a o e n nm => by
    cases z : J a with
    | none => rfl
    | some u => exact absurd (hq a (by rw [z]; exact fun z => nomatch z) n) nm, fun a m => .inl (mts a m), fun a o e => ⟨o, e⟩⟩
  refine h σ J H ok' (xk.step st) R fun x ρ' I' H' g q => ?_
  obtain ⟨_, g⟩ := g
  exact k x ρ I H' (Go.of ok ⟨Same.refl I, g.hh, Sub.same (ij.trans g.ii) g.sub, fun _ _ _ n => n⟩) q
/-- [[], []] -/
theorem vm_LL {q1 q2 : Pos} {QV : Sl → List Sl → Prop} (h : ∀ p p1 p2, QV (.ll p [p1, p2] [.lst [], .lst []]) ρ) (hs1 : starEach [Expr.List [] q1, Expr.List [] q2] X.env = (false, eval (Expr.List [] q1) X.env) :: starEach [Expr.List [] q2] X.env := by rfl)
    (hs2 : starEach [Expr.List [] q2] X.env = (false, eval (Expr.List [] q2) X.env) :: starEach [] X.env := by rfl) : VM m X (.List [.List [] q1, .List [] q2] pos) ρ W QV := fun σ I H ok xk R f =>
  ⟨_, pe_lst (pa_cons (pe_lst pa_nil) (pa_cons (pe_lst pa_nil) pa_nil hs2) hs1), ⟨by simp, fun p1 n1 => ⟨by simp, fun p2 n2 => ⟨by simp; exact small_line (by decide), fun p n => by
    have hp21 : p2 ≠ p1 := fun z => by subst z; rw [upd_same] at n2; cases n2
    have n2' : H p2 = none := by rwa [upd_ne hp21] at n2
    have hp2 : p ≠ p2 := fun z => by subst z; rw [upd_same] at n; cases n
    rw [upd_ne hp2] at n
    have hp1 : p ≠ p1 := fun z => by subst z; rw [upd_same] at n; cases n
    rw [upd_ne hp1] at n
    have g1 := Grow.dark (o := .lst []) ok.sub n1
    have g2 := Grow.dark (o := .lst []) g1.sub n2
    have g3 := Grow.dark (o := .lst [.ref p1, .ref p2]) g2.sub (show upd (upd H p1 (.lst [])) p2 (.lst []) p = none by rw [upd_ne hp2, upd_ne hp1]; exact n)
    refine f _ (.ll p [p1, p2] [.lst [], .lst []]) ρ _ _ (Go.of ok ((g1.trans g2).trans g3)) ⟨⟨rfl, upd_same, .cons ⟨_, ?_, [], rfl, .nil⟩ (.cons ⟨_, ?_, [], rfl, .nil⟩ .nil)⟩, ?_, fun a z => ?_⟩ (h p p1 p2)
    · rw [upd_ne (Ne.symm hp1), upd_ne (Ne.symm hp21), upd_same]
    · rw [upd_ne (Ne.symm hp2), upd_same]
    · show [p, p1, p2].Nodup
      simp [hp1, hp2, Ne.symm hp21]
    · have z : a ∈ [p, p1, p2] := z
      simp only [List.mem_cons, List.not_mem_nil, or_false] at z
      rcases z with rfl | rfl | rfl
      · exact ⟨n, ok.sub.nn n⟩
      · exact ⟨n1, ok.sub.nn n1⟩
      · exact ⟨n2', ok.sub.nn n2'⟩⟩⟩⟩⟩
theorem mutLL {k : Bool} {i : Nat} {p p1 p2 : Addr} {d1 d2 e1 e2 : List D} {xs : List V} (ok : EnvOk X.K I H σ ρ) (h : ρ[i]? = some (.ll p [p1, p2] [.lst d1, .lst d2])) (he : if k = true then e1 = d1 ∧ DqAll I xs e2 else DqAll I xs e1 ∧ e2 = d2) :
    Go false X.K σ ρ I H (ρ.set i (.ll p [p1, p2] [.lst e1, .lst e2])) I (upd H (if k = true then p2 else p1) (.lst xs)) := by
  obtain ⟨x1, x2, hv, hp, h1, h2, t1, t2, n1, n2, n3, o0, o1, o2⟩ := ok.atLL h
  have hl : i < ρ.length := (List.getElem?_eq_some_iff.mp h).1
  have fi : ft ρ i = [p, p1, p2] := ft_at h
  generalize hq : (if k = true then p2 else p1) = q
  have qi : q ∈ ft ρ i := by rw [fi, ← hq]; split <;> simp
  have nI : I q = none := ok.out i q qi
  have fs : ∀ j, ft (ρ.set i (.ll p [p1, p2] [.lst e1, .lst e2])) j = ft ρ j := fun j => by
    rw [ft_set]
    split
    · rename_i z
      rw [← z.1, fi]
      rfl
    · rfl
  have mts : ∀ a, Mt (ρ.set i (.ll p [p1, p2] [.lst e1, .lst e2])) a → Mt ρ a := fun a ⟨j, hj⟩ => ⟨j, by rw [← fs j]; exact hj⟩
  have pq : p ≠ q := by rw [← hq]; split; exact n2; exact n1
  have hq' : ∃ o, H q = some o := by rw [← hq]; split; exact ⟨_, h2⟩; exact ⟨_, h1⟩
  refine ⟨⟨by rw [List.length_set]; exact ok.len, fun j s e => ?_, fun j => by rw [fs]; exact ok.nd j, fun j k a q1 q2 => ok.dj j k a (by rw [← fs j]; exact q1) (by rw [← fs k]; exact q2), fun j a q1 => ok.out j a (by rw [← fs j]; exact q1), fun a u' e => ?_⟩, ⟨Same.refl I, fun a u' e n => ?_, fun _ _ _ n _ => n, fun a m => .inl (mts a m), fun a u' e => ?_⟩, mts⟩
  · by_cases z : i = j
    · subst z
      rw [List.getElem?_set_self hl] at e
      cases e
      rw [hv]
      refine ⟨rfl, by rw [upd_ne pq]; exact hp, ?_⟩
      cases k with
      | true =>
        rw [if_pos rfl] at he hq
        obtain ⟨rfl, he⟩ := he
        subst hq
        exact .cons ⟨_, by rw [upd_ne n3]; exact h1, x1, rfl, t1⟩ (.cons ⟨_, upd_same, xs, rfl, he⟩ .nil)
      | false =>
        rw [if_neg Bool.false_ne_true] at he hq
        obtain ⟨he, rfl⟩ := he
        subst hq
        exact .cons ⟨_, upd_same, xs, rfl, he⟩ (.cons ⟨_, by rw [upd_ne (Ne.symm n3)]; exact h2, x2, rfl, t2⟩ .nil)
    · rw [List.getElem?_set_ne z] at e
      refine (ok.ok j s e).grow (Same.refl I) fun a u' ha e2 => ?_
      rw [upd_ne]
      · exact e2
      · intro z2
        subst z2
        exact z (ok.dj i j a qi (by rw [ft_at e]; exact ha))
  · rw [upd_ne (ne_of_none e nI)]
    exact ok.sub a u' e
  · rw [upd_ne]
    · exact e
    · intro z
      subst z
      exact n ⟨i, qi⟩
  · by_cases z : a = q
    · subst z
      exact ⟨_, upd_same⟩
    · exact ⟨u', by rw [upd_ne z]; exact e⟩
/-- x[b].append(e) -/
theorem em_appendLL (i : Nat) {x : Str} {p p1 p2 : Addr} {ms0 : List MO} {pn ps apos cpos : Pos} (h0 : ρ[i]? = some (.ll p [p1, p2] ms0)) (hix : PlainIx b)
    (h : EM false X b ρ W fun _ kk ρ2 => ∃ k : Bool, kk = .int (if k = true then 1 else 0) ∧ (∃ d1 d2, ρ2[i]? = some (.ll p [p1, p2] [.lst d1, .lst d2])) ∧ EM false X e ρ2 W fun _ y ρ3 => ∃ d1 d2, nd y = true ∧ ρ3[i]? = some (.ll p [p1, p2] [.lst d1, .lst d2]) ∧ d1.length < sizeLine ∧ d2.length < sizeLine ∧ Q false .none (ρ3.set i (.ll p [p1, p2] [.lst (if k = true then d1 else d1 ++ [y]), .lst (if k = true then d2 ++ [y] else d2)])))
    (hN : X.N[i]? = some x := by rfl) (hv : Vis X.env.scope x := by first | exact Or.inl rfl | exact Or.inr (Or.inl rfl) | exact Or.inr (Or.inr rfl))
    (hd : (x == ("__debug__" : Str)) = false := by decide) (hcd : (x == ("__classdict__" : Str)) = false := by decide)
    (hbase : attributeBase (.Subscript (.Name x pn) b ps) "append" X.env (eval (.Subscript (.Name x pn) b ps) X.env) = eval (.Subscript (.Name x pn) b ps) X.env := by rfl)
    (hfew : ((backTo cpos (starEach (e :: []) X.env)).all (fun x => !x.1) && (backToKw cpos (keywordEach [] X.env)).all (fun x => x.1.isSome)
      && decide ((e :: ([] : List Expr)).length + ([] : List Keyword).length + (if ([] : List Keyword).isEmpty then 0 else 1) < 30)) = true := by rfl)
    (hline : (apos.endLine == cpos.line) = true := by rfl) (hs : starEach [e] X.env = (false, eval e X.env) :: starEach [] X.env := by rfl) (hplain : (backTo cpos (starEach [] X.env)).any (·.1) = false := by rfl) :
    EM false X (.Call (.Attribute (.Subscript (.Name x pn) b ps) "append" apos) [e] [] cpos) ρ W Q := fun σ I H ok xk R f => by
  obtain ⟨v0, hσ, rfl, _⟩ := ok.at h0 (fun z => nomatch z)
  refine ⟨_, pe_bm PySem.F.plainAttrs_list PySem.F.slot_list_append PySem.F.type_list_append mt_append (pe_ix ix_list (pe_var hN hv hd hcd) pe_w hix) (pa_cons pe_w pa_nil hs) hbase hfew hline hs hplain, _, hσ, ?_⟩
  refine EM.run h ok xk fun v _ kk ρ2 I2 H2 g2 r2 ⟨k, ek, ⟨d1, d2, h2⟩, q2⟩ => ?_
  subst ek
  have ok2 := g2.env ok
  obtain ⟨x1, x2, hv2, hp, e1, e2, t1, t2, _⟩ := ok2.atLL h2
  rw [r2.int]
  refine ⟨p, _, _, .ref (if k = true then p2 else p1), rfl, rfl, SqL.of hp, ?_, ?_⟩
  · cases k <;> rfl
  have hk : H2 (if k = true then p2 else p1) = some (.lst (if k = true then x2 else x1)) := by cases k; exact e1; exact e2
  refine ⟨tyL hk, EM.run q2 ok2 (xk.step g2.step) fun u _ y ρ3 I3 H3 g3 r3 ⟨c1, c2, ny, h3, l1, l2, q3⟩ => ?_⟩
  have ok3 := g3.env ok2
  obtain ⟨y1, y2, hv3, hp3, f1, f2, s1, s2, _⟩ := ok3.atLL h3
  have hk3 : H3 (if k = true then p2 else p1) = some (.lst (if k = true then y2 else y1)) := by cases k; exact f1; exact f2
  have g := mutLL (k := k) (xs := (if k = true then y2 else y1) ++ [u]) (e1 := if k = true then c1 else c1 ++ [y]) (e2 := if k = true then c2 ++ [y] else c2) ok3 h3 (by
    cases k with
    | true => exact ⟨rfl, DqAll.app s2 (.cons (r3.dp ny) .nil)⟩
    | false => exact ⟨DqAll.app s1 (.cons (r3.dp ny) .nil), rfl⟩)
  refine ⟨_, _, u, rfl, rfl, hk3, ?_, f _ false _ _ _ _ ((g2.trans g3).trans g) Rv.mkNon q3⟩
  cases k with
  | true => show y2.length < _; rw [s2.len]; exact l2
  | false => show y1.length < _; rw [s1.len]; exact l1
/-- a, b, .. = e, a list -/
theorem s1_unpackL (ts : List Tg) {tgs : List Expr} {kt : Nat} {pt : Pos} (hc : X.calm = true) (hg : PGs X tgs (Tg.gs X.K ts)) (h : EM false X e ρ W fun _ d ρ1 => ∃ ds ρ2, d = .list ds ∧ Tg.puts ts ds ρ1 = some ρ2 ∧ E.nx ρ2) (hn : (assignEach tgs X.env).length = ts.length := by rfl) (hst : (assignEach tgs X.env).findIdx? (·.1) = none := by rfl)
    (hs : swapsWithSole [Expr.Tuple tgs kt pt] e pos.line X.env = pure false := by rfl) (hw : swappedStores [Expr.Tuple tgs kt pt] e X.env = pure none := by rfl) (h1 : List.map (fun x => x.snd) (assignEach [Expr.Tuple tgs kt pt] X.env) = [assign (Expr.Tuple tgs kt pt) X.env] := by rfl) : S1 X (.Assign [.Tuple tgs kt pt] e pos) ρ W E := fun σ I H ok xk T k =>
  ⟨_, ps_asg pe_w (pg_unl hc hg hn hst) hs hw h1, h.run ok xk fun v o d ρ1 I1 H1 g r ⟨ds, ρ2, ed, e2, q⟩ => by
    subst ed
    obtain ⟨a, xs, rfl, ha, t⟩ := r.lst
    obtain ⟨σ2, p2, q2⟩ := Tg.runs ts (g.env ok) t e2
    have st := g.step
    have z := q2 _ (k.nx σ2 ρ2 I1 H1 p2.env ⟨st.ii, st.oth, st.fr, fun a h => st.mm a (p2.mt a h), st.al⟩ q)
    exact ⟨a, xs, rfl, SqL.of ((g.env ok).sub.lst ha), z.1, z.2⟩⟩
end
end Tt

/-! Sets of texts: set(a list of texts), sorted(such a set). -/
namespace Tt
open PySem PySem.Spec PyProof.Rows L2 PySem.W

def keyS (e : Int × Value) : Str := match e.2 with | .str k _ => k | _ => ⟨#[]⟩
def GoodS (w : World) (e : Int × Value) : Prop := ∃ k tk, e.2 = Value.str k tk ∧ e.1 = hashStr w k
/-- the set at a holds just the texts l, each once; it can be walked -/
def SetS (w : World) (h : Heap) (a : Addr) (l : List Str) : Prop :=
  ∃ o es ep t, h.get? a = some o ∧ o.ExactSet ∧ o.data = .set es ep t ∧ (∀ e ∈ es.toList, GoodS w e) ∧ (es.toList.map keyS).Perm l ∧ l.Nodup ∧
    es.size < scanBound ∧ t.fits es.size = true ∧ Ris t.place.toList ∧ (w.params.followText "set-order" = true ∨ t.led = true)
section
variable {P : Program} {w : World} {h h' : Heap} {a : Addr} {l : List Str}
theorem SetS.at (R : SetS w h a l) (k : ∀ o, h.get? a = some o → h'.get? a = some o) : SetS w h' a l := by
  obtain ⟨o, es, ep, t, ho, r⟩ := R
  exact ⟨o, es, ep, t, k o ho, r⟩
theorem goodS_elems {es : List (Int × Value)} (g : ∀ e ∈ es, GoodS w e) : ElemsOf (PySem.strKind P w) es := fun e he => by
  obtain ⟨k, tk, h1, h2⟩ := g e he
  exact ⟨⟨k, by rw [h1]; exact PySem.strKind_is P w k tk, h2⟩, by rw [h1] <;> rfl⟩
theorem goodS_is {e : Int × Value} (g : GoodS w e) (k : Str) : (PySem.strKind P w).is k e.2 = true ↔ keyS e = k := by
  obtain ⟨k0, tk, h1, _⟩ := g
  unfold keyS
  rw [h1]
  show (Value.isStrOf k (.str k0 tk) = true) ↔ k0 = k
  simp [Value.isStrOf]
theorem goodS_mem {es : List (Int × Value)} (g : ∀ e ∈ es, GoodS w e) (k : Str) : k ∈ es.map keyS ↔ ∃ e ∈ es, (PySem.strKind P w).is k e.2 = true := by
  rw [List.mem_map]
  constructor
  · rintro ⟨e, he, q⟩
    exact ⟨e, he, (goodS_is (g e he) k).2 q⟩
  · rintro ⟨e, he, q⟩
    exact ⟨e, he, (goodS_is (g e he) k).1 q⟩
end
section
variable {P : Program} {w : World} {A : Around} {E : Value → Shared → Prop} {s : Shared} {a : Addr} {l : List Str}
theorem setS_tail {g : Bool → Sem Unit} (hg : ∀ (b : Bool) (s₁ : Shared) (Q' : Unit → Shared → Prop), Q' () s₁ → wpAny (model P w) A (g b) Q' E s₁)
    {o : Obj} {es : Array (Int × Value)} {ep : Nat} {t : SetTable} (ho : s.heap.get? a = some o) (hex : o.ExactSet) (hd : o.data = .set es ep t)
    {es1 : Array (Int × Value)} {t2 : SetTable} (g1 : ∀ e ∈ es1.toList, GoodS w e) (m1 : (es1.toList.map keyS).Perm l) (nd1 : l.Nodup)
    (hb1 : es1.size < scanBound) (hf2 : t2.fits es1.size = true) (hr : Ris t2.place.toList) (hl : w.params.followText "set-order" = true ∨ t2.led = true) {wasDummy : Bool} {R : Option Bool → Shared → Prop}
    (hR : ∀ h', Heap.SameBut a s.heap h' → SetS w h' a l → R (some true) { s with heap := h' }) :
    wpAny (model P w) A (do
        storeSet a es1 t2
        if (!wasDummy && t2.tooFull) = true then do
            g (relayAll t2 es1 (SetTable.grown es1.size)).2.2
            storeSet a (relayAll t2 es1 (SetTable.grown es1.size)).1 (relayAll t2 es1 (SetTable.grown es1.size)).2.1
            pure (some true)
          else pure (some true)) R E s := by
  refine wpAny_bind (wpAny_storeSet_of ho hd ?_ (fits_of_scanBound hb1))
  have ho1 := store_at (es' := es1) (t' := t2) ho hd
  have sb1 := Heap.SameBut.update s.heap a (Obj.putSet es1 t2)
  split
  · have pm := relayAll_perm t2 es1 (SetTable.grown es1.size)
    have hf3 := relayAll_fits t2 es1 (SetTable.grown es1.size)
    have hr3 := relayAll_ris t2 es1 (SetTable.grown es1.size)
    have hl3 := relayAll_led t2 es1 (SetTable.grown es1.size)
    generalize relayAll t2 es1 (SetTable.grown es1.size) = Z at pm hf3 hr3 hl3 ⊢
    obtain ⟨es2, t3, gave⟩ := Z
    dsimp only at pm hf3 hr3 hl3 ⊢
    have hsz : es2.size = es1.size := by rw [← Array.length_toList, pm.length_eq, Array.length_toList]
    have hb2 : es2.size < scanBound := by rw [hsz]; exact hb1
    refine wpAny_bind (hg _ _ _ ?_)
    refine wpAny_bind (wpAny_storeSet_of ho1 rfl ?_ (fits_of_scanBound hb2))
    have ho2 := store_at (es' := es2) (t' := t3) ho1 rfl
    refine wpAny_pure (hR _ (sb1.trans (Heap.SameBut.update _ a _)) ?_)
    exact ⟨_, es2, _, t3, ho2, hex, rfl, fun e he => g1 e (pm.mem_iff.mp he), (pm.map keyS).trans m1, nd1, hb2, hf3, hr3, hl.imp id fun z => by rw [hl3]; exact z⟩
  · exact wpAny_pure (hR _ sb1 ⟨_, es1, _, t2, ho1, hex, rfl, g1, m1, nd1, hb1, hf2, hr, hl⟩)
theorem setS_add {k : Str} {tk : Tok} {Q : Bool → Shared → Prop} (R : SetS w s.heap a l) (room : l.length + 1 < scanBound)
    (hQ : ∀ b h', Heap.SameBut a s.heap h' → SetS w h' a (addS l k) → Q b { s with heap := h' }) :
    wpAny (model P w) A (setAddHashed a (.str k tk) ((PySem.strKind P w).hash k)) Q E s := by
  obtain ⟨o, es, ep, t, ho, hex, hd, g, hm, nd, hb, hf, hr, hl⟩ := R
  have hkey : (PySem.strKind P w).is k (.str k tk) = true := PySem.strKind_is P w k tk
  have hsc : (Value.str k tk).scannable = true := rfl
  have hel : ElemsOf (PySem.strKind P w) es.toList := goodS_elems g
  have hn : es.size = l.length := by rw [← Array.length_toList, ← hm.length_eq, List.length_map]
  unfold setAddHashed setAddHashedIn
  refine wpAny_holding (wpAny_bind (wpAny_setState_of ho hd hf ?_))
  dsimp only
  rw [byScan_of hsc hb hel]
  simp only [↓reduceIte]
  unfold setAddByScan
  refine wpAny_bind ?_
  refine wpAny_bind (wpAny_rule ?_)
  refine wpAny_bind (wpAny_setScan_of hkey ho hd hf hel ?_)
  cases hfi : List.findIdx? (fun e => (PySem.strKind P w).is k e.2) es.toList with
  | some j =>
    dsimp only
    obtain ⟨hj, pj, _⟩ := List.findIdx?_eq_some_iff_getElem.mp hfi
    have hk : k ∈ l := hm.mem_iff.mp ((goodS_mem (P := P) (w := w) g k).2 ⟨es.toList[j], List.getElem_mem hj, pj⟩)
    refine wpAny_pure (wpAny_pure ?_)
    refine hQ _ s.heap (Heap.SameBut.refl a s.heap) ?_
    unfold addS
    rw [if_pos hk]
    exact ⟨o, es, ep, t, ho, hex, hd, g, hm, nd, hb, hf, hr, hl⟩
  | none =>
    dsimp only
    have hnk : k ∉ l := fun z => by
      obtain ⟨e, he, q⟩ := (goodS_mem (P := P) (w := w) g k).1 (hm.mem_iff.mpr z)
      have c := List.findIdx?_eq_none_iff.mp hfi e he
      rw [q] at c
      cases c
    have hgw : ∀ (b : Bool) {s₁ : Shared} {Q' : Unit → Shared → Prop}, Q' () s₁ → wpAny (model P w) A (match b with | true => rule "set.scan.the-table-gave-way" | false => pure ()) Q' E s₁ :=
      fun b s₁ Q' q => by cases b <;> first | exact wpAny_pure q | exact wpAny_rule q
    have pm := layNew_perm t es ((PySem.strKind P w).hash k) (.str k tk)
    have hf1 := layNew_fits t es ((PySem.strKind P w).hash k) (.str k tk)
    have hr1 := layNew_ris t es ((PySem.strKind P w).hash k) (.str k tk) hr
    have hl1 := layNew_led t es ((PySem.strKind P w).hash k) (.str k tk)
    generalize layNew t es ((PySem.strKind P w).hash k) (.str k tk) = Z at pm hf1 hr1 hl1 ⊢
    obtain ⟨es1, t1, wasDummy, gave⟩ := Z
    dsimp only at pm hf1 hr1 hl1 ⊢
    rw [Array.toList_push] at pm
    have pk : (es1.toList.map keyS).Perm (l ++ [k]) := by
      have q := pm.map keyS
      rw [List.map_append] at q
      exact q.trans (hm.append_right _)
    have g1 : ∀ e ∈ es1.toList, GoodS w e := fun e he => by
      rcases List.mem_append.mp (pm.mem_iff.mp he) with z | z
      · exact g e z
      · rw [List.mem_singleton.mp z]; exact ⟨k, tk, rfl, rfl⟩
    have ea : addS l k = l ++ [k] := by unfold addS; rw [if_neg hnk]
    have nd1 : (l ++ [k]).Nodup := by
      rw [List.nodup_append]
      exact ⟨nd, List.pairwise_singleton _ _, fun x hx y hy e => hnk (by rw [← List.mem_singleton.mp hy, ← e]; exact hx)⟩
    have hsz : es1.size = l.length + 1 := by rw [← Array.length_toList, pm.length_eq, List.length_append, Array.length_toList, hn]; rfl
    have hb1 : es1.size < scanBound := by rw [hsz]; exact room
    have hled : w.params.followText "set-order" = true ∨ t1.led = true := hl.imp id fun z => by rw [hl1]; exact z
    have fin : ∀ h', Heap.SameBut a s.heap h' → SetS w h' a (l ++ [k]) → Q true { s with heap := h' } := fun h' sb r => hQ _ h' sb (by rw [ea]; exact r)
    refine wpAny_bind (hgw _ ?_)
    split
    · refine wpAny_bind ?_
      rw [hashByValue_scannable 8 hsc]
      refine wpAny_pure ?_
      refine setS_tail ?_ ho hex hd g1 pk nd1 hb1 ?_ ?_ ?_ ?_
      · intro b s₁ Q' q; cases b <;> first | exact wpAny_pure q | exact wpAny_rule q
      · first | (split <;> first | exact hf1 | exact SetTable.fits_plain_off hf1) | exact hf1
      · first | (split <;> exact hr1) | exact hr1
      · first | (split <;> exact hled) | exact hled
      · intro h' sb r; dsimp only; exact wpAny_pure (fin h' sb r)
    · refine wpAny_bind (wpAny_pure ?_)
      simp only [↓reduceIte]
      refine setS_tail ?_ ho hex hd g1 pk nd1 hb1 hf1 hr1 hled ?_
      · intro b s₁ Q' q; cases b <;> first | exact wpAny_pure q | exact wpAny_rule q
      · intro h' sb r; dsimp only; exact wpAny_pure (fin h' sb r)
end
end Tt

/-! tuple(range(n)) -/
namespace Tt
open PySem PySem.Spec PyProof.Rows L2 PySem.W
section
variable {X : Cx} {m : Bool} {ρ ρ1 : List Sl} {W : Wx} {pos p : Pos} {a : Expr}
end
section
variable {X : Cx} {ρ : List Sl} {W : Wx} {E : DE} {st : Stmt} {ss : List Stmt}
theorem sd_cut (J : List Sl → Prop) (h : S1 X st ρ W { E with nx := J }) (k : ∀ ρ, J ρ → SD X ss ρ W E) : SD X (st :: ss) ρ W E := fun σ I0 H ok xk T kf =>
  ⟨_, pss_cons ps_w pss_w, h σ I0 H ok xk _ ⟨fun σ' ρ' I' H' ok' s q => k _ q σ' I' H' ok' (xk.step s) T (kf.step s), kf.rt, kf.bk, kf.ct⟩⟩
end
end Tt

/-! x[::-1] of a text; text.index(text). -/
namespace Tt
open PySem PySem.Spec PyProof.Rows L2 PySem.W
def revS (x : Str) : Str := ⟨x.cps.toList.reverse.toArray⟩
theorem revS_len (x : Str) : (revS x).length = x.length := by simp [revS, Str.length]
theorem picked_revS (x : Str) : (⟨((Builtin.Str.strSliceIndices none none (-1) x.length).filterMap (x.cps[·]?)).toArray⟩ : Str) = revS x := by
  have h := step_rev_list x 0
  unfold revS
  congr 1
  congr 1
  have e : (Txt.sliceBy x none none (-1, 0)).cps.toList = (Builtin.Str.strSliceIndices none none (-1) x.length).filterMap (x.cps[·]?) := by
    unfold Txt.sliceBy slicePicked
    have h1 : ¬ (((((some ((-1 : Int), (0 : Tok))).map (·.1)).getD 1 == 1) && ((Builtin.Str.strSliceIndices ((none : Option (Int × Tok)).map (·.1)) ((none : Option (Int × Tok)).map (·.1)) (((some ((-1 : Int), (0 : Tok))).map (·.1)).getD 1) x.length).length == x.length)) = true) := by
      have : ((((some ((-1 : Int), (0 : Tok))).map (·.1)).getD 1 == 1)) = false := rfl
      rw [this]; simp
    rw [if_neg h1]
    rfl
  rw [← e, h]
  apply List.ext_getElem
  · simp [Str.length]
  · intro i h1 h2
    simp only [List.length_map, List.length_range] at h1
    rw [List.getElem_map, List.getElem_range, List.getElem_reverse]
    simp only [Array.getElem_toList, Array.length_toList]
    have h3 : x.cps.size - 1 - i < x.cps.size := by
      have : i < x.cps.size := h1
      omega
    show x.cps.getD (x.cps.size - 1 - i) 0 = _
    simp [Array.getD, h3]
section
variable {X : Cx} {m : Bool} {ρ : List Sl} {W : Wx} {Q : Bool → D → List Sl → Prop}
def tRevS (te : TE) : TE := fun σ H Q => te σ H fun x H1 => ∃ z, x = .str z ∧ z.length ≤ sizeLine ∧ Q (.str (revS z)) H1
theorem pe_revS {e : Expr} {te : TE} {k : Nat} {p1 p2 p3 pos : Pos} (he : PE X e te) : PE X (.Subscript e (.Slice none none (some (.UnaryOp .USub (.Constant (.int 1) k p1) p2)) p3) pos) (tRevS te) := by
  refine ⟨fun pins s σ H Q I h => ?_⟩
  refine Subscript_ (thn (he.run pins s σ H _ I h) fun v s1 ⟨x, H1, I1, r1, q1⟩ => ?_)
  obtain ⟨z, ex, hz, q⟩ := q1
  subst ex
  obtain ⟨t, rfl⟩ := r1
  have hst : PO X (some (.UnaryOp .USub (.Constant (.int 1) k p1) p2)) (tPart (tUn (rU fun i => .int (-i)) (tC (.int 1)))) := po_some (pe_un un_neg pe_int)
  refine wpAny_Slice (thn (po_none.run pins s1 σ H1 (fun o H2 => o = none ∧ H2 = H1) I1 ⟨rfl, rfl⟩) fun vl s2 ⟨l, H2, I2, pl, el, e2⟩ => ?_)
  subst el e2
  refine thn (po_none.run pins s2 σ H2 (fun o H3 => o = none ∧ H3 = H2) I2 ⟨rfl, rfl⟩) fun vu s3 ⟨u, H3, I3, pu, eu, e3⟩ => ?_
  subst eu e3
  refine thn (hst.run pins s3 σ H3 (fun o H4 => o = some (-1) ∧ H4 = H3) I3 ⟨1, rfl, -1, rfl, rfl, rfl⟩) fun vs s4 ⟨o, H4, I4, ps, eo, e4⟩ => ?_
  subst eo e4
  have I5 : Inv X pins σ H4 { s4 with heap := s4.heap.push { cls := .type "slice", data := .fields #[vl, vu, vs] } } := I4.kept (t' := s4.toks) fun b ob q => Heap.get?_push_of_some _ q
  cases pl
  cases pu
  cases ps with
  | int i tk =>
  show wpAny (model X.prog X.w) X.A (subscriptTail e (.Slice none none (some (.UnaryOp .USub (.Constant (.int 1) k p1) p2)) p3) (.str z t) (.ref s4.heap.objs.size)) (EP X pins σ Q) X.xe { s4 with heap := s4.heap.push { cls := .type "slice", data := .fields #[.none, .none, .int (-1) tk] } }
  refine tail_any (ops := [.str z t, .ref s4.heap.objs.size]) (typeIs_str _ _ _) (PySem.F.slot_str_getitem.lookup) ?_ (by with_unfolding_all rfl)
  refine wpAny_getItem_str_slice (l := none) (u := none) (st := some (-1, tk)) ⟨_, Heap.get?_push_size _ rfl, rfl, rfl⟩ rfl ?_
  show Made.post (if ((-1 : Int) == 1 && (Builtin.Str.strSliceIndices none none (-1) z.length).length == z.length) = true then Made.val (.str z t)
    else Made.str ⟨((Builtin.Str.strSliceIndices none none (-1) z.length).filterMap (z.cps[·]?)).toArray⟩) _ _
  rw [if_neg (by simp)]
  rw [picked_revS]
  exact ⟨by rw [revS_len]; exact hz, .str _, H4, I5.tok _, ⟨_, rfl⟩, q⟩
theorem em_rev {a : Expr} {k : Nat} {p1 p2 p3 pos : Pos} (h : EM m X a ρ W fun _ x ρ1 => ∃ z, x = .str z ∧ z.length ≤ sizeLine ∧ Q false (.str (revS z)) ρ1) : EM m X (.Subscript a (.Slice none none (some (.UnaryOp .USub (.Constant (.int 1) k p1) p2)) p3) pos) ρ W Q := fun σ I H ok xk R f =>
  ⟨_, pe_revS pe_w, h.run ok xk fun v _ x ρ1 I1 H1 g1 r1 q1 => by
    obtain ⟨z, rfl, hz, q⟩ := q1
    rw [r1.str]
    exact ⟨z, rfl, hz, f _ false _ _ I1 H1 g1 Rv.mkStr q⟩⟩
theorem mt_indexS : MtR X "str.index" (fun x xs H Q => ∃ a b i rest, x = .str a ∧ xs = [.str b] ∧ Builtin.Str.occurrences a b 0 a.length 1 = i :: rest ∧ Q (.int (i : Int)) H) := by
  intro pins s σ H x xs v us Q I rx rs h
  obtain ⟨a, b, i, rest, rfl, rfl, ho, h⟩ := h
  obtain ⟨t, rfl⟩ := rx
  cases rs with
  | cons r1 rs =>
    cases rs
    obtain ⟨u, rfl⟩ := r1
    refine call_gives F.slot_str_index (typeIs_str _ _ _) F.entry_str_index (F.args_str_index_2 _ _) (gives_str_index a b t u i rest ho) ?_
    exact ⟨.int i, H, I.tok _, ⟨_, rfl⟩, h⟩
theorem md_index {x y : Str} {i : Nat} {rest : List Nat} {Q : Bool → D → Prop} (ho : Builtin.Str.occurrences x y 0 x.length 1 = i :: rest) (q : Q false (.int (i : Int))) : MD X "str.index" x [.str y] Q := fun I H vs s r R k => by
  obtain ⟨v, rfl, r'⟩ := kd_one r
  rw [r'.str]
  exact ⟨_, mt_indexS, x, y, i, rest, rfl, rfl, ho, k.val s .mkInt q⟩
end
end Tt

/-! zip of two lists, drawn to its end while an exception is handled. -/
namespace Tt
open PySem PySem.Spec PyProof.Rows L2 PySem.W HotX
section
variable {prog : Program} {w : World} {A : Around} {E : Value → Shared → Prop} {s : Shared}
theorem hot_up {h h' : Heap} {x1 : Addr} (hot : HotAt A x1 h) (k : ∀ o, h.get? x1 = some o → h'.get? x1 = some o) : HotAt A x1 h' := by
  obtain ⟨a, o, vs, b, c, d⟩ := hot
  exact ⟨a, o, vs, k o b, c, d⟩
theorem list_end_hot {it l x1 : Addr} {i : Nat} {items} {Q : Value → Shared → Prop} (hot : HotAt A x1 s.heap)
    (hit : s.heap.IsListIter it l i) (hl : s.heap.IsList l items) (hx : items[i]? = none)
    (hE : ∀ h' e, Heap.ExtBut it s.heap h' → (∃ o, h'.get? e = some o ∧ o.cls = .type "StopIteration") → E (.ref e) { s with heap := h' }) :
    wpAny (model prog w) A (Builtin.SmallTypes.nextOf (.ref it)) Q E s := by
  obtain ⟨o, ho, hc, hd⟩ := id hit
  obtain ⟨ol, hol, _, nl, hdl⟩ := hl
  have hx1 : x1 ≠ it := by
    rintro rfl
    obtain ⟨_, o1, vs, e1, d1, c1⟩ := hot
    rw [ho] at e1
    cases e1
    rw [hd] at d1
    cases d1
    simp at c1
  unfold Builtin.SmallTypes.nextOf
  refine wpAny_bind (wpAny_callSpecial?_slot (name := Str.ofString "__next__") hit.typeIs slot_listiter_next
    (wpAny_call_entry slot_listiter_next hit.typeIs entry_listiter_next ?_ (args_listiter_next _)))
  show wpAny _ _ (field (.ref it) 0 >>= _) _ _ s
  refine wpAny_bind (wpAny_field ho hd (x := .ref l) rfl ?_)
  show wpAny _ _ (if (Value.ref l == Value.none) = true then _ else _) _ _ s
  rw [if_neg (show ¬ ((Value.ref l == Value.none) = true) from Bool.false_ne_true)]
  show wpAny _ _ (field (.ref it) 1 >>= _) _ _ s
  refine wpAny_bind (wpAny_field ho hd (x := .int i 0) rfl ?_)
  show wpAny _ _ (seqItems? (.ref l) >>= _) _ _ s
  refine wpAny_bind (wpAny_seqItems hol hdl ?_)
  simp only [Int.toNat_natCast, hx]
  refine wpAny_bind (wpAny_rule (wpAny_bind (wpAny_setField ho hd (by simp) ?_)))
  show wpAny _ _ (newExc (.type "StopIteration") [] >>= _) _ _ _
  refine wpAny_bind ?_
  simp only [newExc, newTuple]
  refine wpAny_bind (wpAny_newObj_type ?_ (by size_fits))
  refine wpAny_bind (m := firstArgMember _ _) (wpAny_of_eq (a := Value.none) (by first | rfl | (simp only [firstArgMember]; rfl)) ?_)
  refine wpAny_newObj_type ?_ (by size_fits)
  have kx : ∀ o1, s.heap.get? x1 = some o1 → (s.heap.update it (Obj.mapFields (·.setIfInBounds 0 .none))).get? x1 = some o1 := fun o1 e => by
    rw [Heap.get?_update_other _ _ (Ne.symm hx1)]
    exact e
  refine raiseNew_hot (hot_up hot fun o1 e => Heap.get?_push_of_some _ (Heap.get?_push_of_some _ (kx o1 e))) ?_ (Heap.get?_push_size _ rfl) rfl (by first | (simp; done) | (simp; omega) | (simp only [Array.size_append]; simp; omega)) ?_
  · obtain ⟨_, o1, vs1, h1, _⟩ := id hot
    exact Nat.ne_of_lt (Heap.lt_size (Heap.get?_push_of_some _ (kx o1 h1)))
  · refine hE _ _ ?_ ⟨_, Heap.get?_update_self _ (Heap.get?_push_size _ rfl) (by rfl), by rfl⟩
    intro b ob hb e
    have e2 : (s.heap.update it (Obj.mapFields (·.setIfInBounds 0 .none))).get? b = some ob := by
      rw [Heap.get?_update_other _ _ (Ne.symm hb)]
      exact e
    refine (Heap.get?_update_other _ _ (Nat.ne_of_gt (Heap.lt_size (Heap.get?_push_of_some _ e2)))).trans ?_
    exact Heap.get?_push_of_some _ (Heap.get?_push_of_some _ e2)
/-- zip of two lists at its end -/
theorem zip_end_hot {z TI TO i1 i2 l1 l2 x1 : Addr} {k1 k2 : Nat} {xs ys : Array Value} {a b : Value} {Q : PySem.Fin → Shared → Prop} (hot : HotAt A x1 s.heap) (D : ZipApart z TI TO i1 i2 l1 l2)
    (hz : IsZip s.heap z TI TO .none) (hTI : PySem.IsPair s.heap TI (.ref i1) (.ref i2)) (h1 : s.heap.IsListIter i1 l1 k1) (hl1 : s.heap.IsList l1 xs) (hx : xs[k1]? = none)
    (hE : ∀ h' e, (∀ c o, c ≠ z → c ≠ i1 → s.heap.get? c = some o → h'.get? c = some o) → (∃ o, h'.get? e = some o ∧ o.cls = .type "StopIteration") → E (.ref e) { s with heap := h' }) :
    wpAny (model prog w) A (Builtin.«zip.__next__» ⟨[.ref z], []⟩) Q E s := by
  have hxz : x1 ≠ z := by
    rintro rfl
    obtain ⟨_, o1, vs, e1, d1, c1⟩ := hot
    rw [hz] at e1
    cases e1
    cases d1
    simp at c1
  show wpAny _ _ (field (.ref z) 2 >>= _) _ _ _
  refine wpAny_bind (wpAny_field hz rfl (x := .bool false) rfl ?_)
  show wpAny _ _ (field (.ref z) 3 >>= _) _ _ _
  refine wpAny_bind (wpAny_field hz rfl (x := .ref TI) rfl ?_)
  refine wpAny_bind (wpAny_seqItems hTI rfl ?_)
  show wpAny _ _ (Builtin.SmallTypes.ownedTupleIsFree (.ref z) >>= _) _ _ _
  refine wpAny_bind ?_
  unfold Builtin.SmallTypes.ownedTupleIsFree
  refine wpAny_bind (wpAny_field hz rfl (x := .none) rfl (wpAny_pure ?_))
  simp only [if_true]
  refine wpAny_bind (wpAny_rule ?_)
  refine wpAny_bind (wpAny_field hz rfl (x := .ref TO) rfl ?_)
  refine wpAny_bind (wpAny_setField_rec hz (by simp) fun h₁ hz₁ hs₁ => ?_)
  replace hz₁ : IsZip h₁ z TI TO .ellipsis := hz₁
  refine wpAny_bind ?_
  simp only [List.zipIdx_cons, List.zipIdx_nil, List.forIn_cons, List.forIn_nil]
  refine wpAny_bind (wpAny_bind (wpAny_onRaise ?_))
  show wpAny _ _ (Builtin.SmallTypes.nextOf (.ref i1) >>= _) _ _ _
  refine wpAny_bind (list_end_hot (hot_up hot fun o q => hs₁.extBut _ _ hxz q) (h1.extBut hs₁.extBut D.i1z) (hl1.extBut hs₁.extBut D.l1z) hx fun h₂ e hs₂ he => ?_)
  obtain ⟨oe, hoe, hce⟩ := he
  have hz₂ : IsZip h₂ z TI TO .ellipsis := hs₂ _ _ D.i1z.symm hz₁
  have hez : e ≠ z := fun x => by subst x; rw [hz₂] at hoe; cases hoe; simp at hce
  exact wpAny_setField_rec hz₂ (by simp) fun h₃ _ hs₃ => hE h₃ e (fun c o c1 c3 x => hs₃.extBut _ _ c1 (hs₂ _ _ c3 (hs₁.extBut _ _ c1 x))) ⟨oe, hs₃.extBut _ _ hez hoe, hce⟩
theorem next_zip_end_hot {z TI TO i1 i2 l1 l2 x1 : Addr} {k1 k2 : Nat} {xs ys : Array Value} {a b : Value} {Q : Option Value → Shared → Prop} (hot : HotAt A x1 s.heap) (D : ZipApart z TI TO i1 i2 l1 l2)
    (hz : IsZip s.heap z TI TO .none) (hTI : PySem.IsPair s.heap TI (.ref i1) (.ref i2)) (h1 : s.heap.IsListIter i1 l1 k1) (hl1 : s.heap.IsList l1 xs) (hx : xs[k1]? = none)
    (hQ : ∀ h', (∀ c o, c ≠ z → c ≠ i1 → s.heap.get? c = some o → h'.get? c = some o) → Q none { s with heap := h' }) : wpAny (model prog w) A (pyNext (.ref z)) Q E s := by
  have hT : s.TypeIs (.ref z) "zip" := ⟨_, hz, rfl⟩
  unfold pyNext
  refine wpAny_bind (wpAny_attempt (wpAny_callSpecial?_slot (name := Str.ofString "__next__") hT F.slot_zip_next
    (wpAny_call_entry F.slot_zip_next hT F.entry_zip_next (zip_end_hot (k2 := k2) (a := a) (b := b) (ys := ys) hot D hz hTI h1 hl1 hx fun h' e hk he => ?_) (F.args_zip_next_1 _))))
  obtain ⟨o, ho, hc⟩ := he
  refine wpAny_bind (wpAny_isInstance (T := "StopIteration") (b := true) ⟨o, ho, hc⟩ isSubtype_stop ?_)
  exact wpAny_pure (hQ _ hk)
end
end Tt

/-! loops over zip of two lists while an exception is handled. -/
namespace Tt
open PySem PySem.Spec PyProof.Rows L2 L2H
/-- zip of the lists at a and b, the first one ends first -/
def ItzH (K : PySem.W.Frag) (a b : Addr) : It :=
  ⟨(Itz K a b).go, YzF K a b, fun i H => ∃ xs : List V, SqL K H a xs ∧ xs.length ≤ i⟩
theorem turn_zipH {P : Program} {w : World} {K : PySem.W.Frag} {elts : List Expr} {kk : Nat} {tpos : Pos} {a b z TI TO i1 i2 : Addr} (D : ZipApart z TI TO i1 i2 a b) :
    TurnH P w K (.Tuple elts kk tpos) (ItzH K a b) [z, TI, TO, i1, i2] z (fun i h => IsZip h z TI TO .none ∧ PySem.IsPair h TI (.ref i1) (.ref i2) ∧ (∃ x y, PySem.IsPair h TO x y) ∧ h.IsListIter i1 a i ∧ h.IsListIter i2 b i) where
  mem := List.mem_cons_self
  obj := fun i h st c hc => by
    obtain ⟨hz, hTI, ⟨x, y, hTO⟩, ⟨o1, e1, _, d1⟩, ⟨o2, e2, _, d2⟩⟩ := st
    simp only [List.mem_cons, List.not_mem_nil, or_false] at hc
    rcases hc with rfl | rfl | rfl | rfl | rfl
    · exact ⟨_, hz, fun v q => nomatch q⟩
    · exact ⟨_, hTI, fun v q => nomatch q⟩
    · exact ⟨_, hTO, fun v q => nomatch q⟩
    · exact ⟨o1, e1, fun v q => by rw [d1] at q; cases q⟩
    · exact ⟨o2, e2, fun v q => by rw [d2] at q; cases q⟩
  keep := fun i h h' st k => by
    obtain ⟨hz, hTI, ⟨x, y, hTO⟩, h1, h2⟩ := st
    exact ⟨k z (by simp) _ hz, k TI (by simp) _ hTI, ⟨x, y, k TO (by simp) _ hTO⟩, h1.at fun o q => k i1 (by simp) o q, h2.at fun o q => k i2 (by simp) o q⟩
  item := by
    intro X hP hw hK hc i pins s σ H E I hf st hg
    subst hP hw hK
    obtain ⟨hz, hTI, ⟨x0, y0, hTO⟩, h1, h2⟩ := st
    obtain ⟨xs, ys, x, y, hqx, hqy, hx, hy⟩ := hg
    obtain ⟨its, rv, p, _⟩ := I.list hqx
    obtain ⟨its2, rv2, p2, _⟩ := I.list hqy
    obtain ⟨u, hu, ru⟩ := rv.get hx
    obtain ⟨u2, hu2, ru2⟩ := rv2.get hy
    have hlt : ∀ c ∈ [z, TI, TO, i1, i2], c < s.heap.objs.size := fun c hcm => by
      simp only [List.mem_cons, List.not_mem_nil, or_false] at hcm
      rcases hcm with q | q | q | q | q <;> rw [q]
      · exact Heap.lt_size hz
      · exact Heap.lt_size hTI
      · exact Heap.lt_size hTO
      · obtain ⟨_, e1, _⟩ := h1; exact Heap.lt_size e1
      · obtain ⟨_, e2, _⟩ := h2; exact Heap.lt_size e2
    have hzl := hlt z List.mem_cons_self
    refine wpAny_pyNext_zip_item D hz hTI hTO h1 h2 p.isList p2.isList (x := u) (y := u2) (by simpa using hu) (by simpa using hu2) fun h' z' TO' h1' h2' hT hsz hk => ?_
    refine ⟨_, rfl, wpAny_letOwnedTupleGo_zip (s := { s with heap := h' }) z' fun h'' z'' sb => ?_⟩
    have hT2 : h''.get? s.heap.objs.size = some { cls := .type "tuple", data := .seq #[u, u2] } := (sb.2 _ (Nat.ne_of_gt hzl)).trans hT
    have old : ∀ c o, c ∉ [z, TI, TO, i1, i2] → s.heap.get? c = some o → h''.get? c = some o := fun c o hb q => by
      simp only [List.mem_cons, List.not_mem_nil, or_false, not_or] at hb
      exact (sb.2 c hb.1).trans (hk c o hb.1 hb.2.2.1 hb.2.2.2.1 hb.2.2.2.2 q)
    have new : ObjOk X.prog X.w (upd H s.heap.objs.size (.frz { cls := .type "tuple", data := .seq #[u, u2] } (.tup [x, y]))) h'' s.heap.objs.size (.frz { cls := .type "tuple", data := .seq #[u, u2] } (.tup [x, y])) :=
      ⟨hT2, by show 2 ≤ sizeLine; decide, [u, u2], .cons ru (.cons ru2 .nil), ⟨_, hT2, rfl, _, rfl⟩⟩
    have I1 : Inv X pins σ (upd H s.heap.objs.size (.frz { cls := .type "tuple", data := .seq #[u, u2] } (.tup [x, y]))) { s with heap := h'' } := I.turnedNew (t' := s.toks) (ch := [z, TI, TO, i1, i2]) old hf (Nat.le_refl _) new
    refine ⟨.ref s.heap.objs.size, _, I1, rfl, ⟨_, x, y, _, rfl, rfl, I.hok.fresh (Nat.le_refl _), rfl, fun l hl => by rw [I.list_inj hl hqx]; exact hx, fun l hl => by rw [I.list_inj hl hqy]; exact hy⟩, ⟨z'', ?_, ⟨u, u2, ?_⟩, ?_, ?_⟩, fun c hcm => ?_⟩
    · exact (sb.2 _ D.TIz).trans (hk _ _ D.TIz D.TITO D.TIi1 D.TIi2 hTI)
    · exact (sb.2 _ D.TOz).trans TO'
    · exact h1'.at fun o q => (sb.2 _ D.i1z).trans q
    · exact h2'.at fun o q => (sb.2 _ D.i2z).trans q
    · rw [upd_ne (Nat.ne_of_lt (hlt c hcm))]
      exact (hf c hcm).1
  done := by
    intro X hP hw hK hc i pins s σ H E I hf st hg
    subst hP hw hK
    obtain ⟨hz, hTI, _, h1, h2⟩ := st
    obtain ⟨xs, hqx, hend⟩ := hg
    obtain ⟨its, rv, p, _⟩ := I.list hqx
    have l1 := rv.length
    obtain ⟨x1, hot⟩ := hc.at I
    refine next_zip_end_hot (k2 := 0) (ys := #[]) (a := .none) (b := .none) hot D hz hTI h1 p.isList (by simp; omega) fun h' hk => ⟨rfl, I.turnedL (t' := s.toks) (ch := [z, TI, TO, i1, i2]) (fun c o hb q => ?_) hf⟩
    simp only [List.mem_cons, List.not_mem_nil, or_false, not_or] at hb
    exact hk c o hb.1 hb.2.2.2.1 q
  self := fun A i s Q E st h => wpAny_pyIter_zip st.1 h
def iZipH (K : PySem.W.Frag) (ta : TA) : TI := fun σ H R => ta σ H fun vs H1 => ∃ a b xs ys, vs = [.ref a, .ref b] ∧ SqL K H1 a xs ∧ SqL K H1 b ys ∧ R (ItzH K a b) H1
theorem pi_zipH {X : Cx} {e e2 : Expr} {ta : TA} {p pos tpos : Pos} {elts : List Expr} {kk : Nat} (hg : Gl X "zip") (hm : X.mg "zip" = none) (ha : PA X [e, e2] ta)
    (hs : starEach [e, e2] X.env = (false, eval e X.env) :: starEach [e2] X.env := by rfl) (hpl : (backTo pos (starEach [e2] X.env)).any (·.1) = false := by rfl) :
    PIH X (.Tuple elts kk tpos) (.Call (.Name "zip" p) [e, e2] [] pos) (iZipH X.K ta) := by
  refine ⟨fun pins s σ H R I h => ?_⟩
  refine Call_ (ld_blt I hg hm PyProof.Rows.boot_zip (PyProof.Rows.callWith_type1 (thn (ha.run pos pins s σ H _ I h) fun us s1 ⟨vs, H1, I1, r1, q1⟩ => ?_) hs hpl))
  obtain ⟨a, b, xs, ys, ex, hqx, hqy, q⟩ := q1
  subst ex
  cases r1 with
  | cons r rr =>
    cases rr with
    | cons r' rr =>
      cases rr
      cases r
      cases r'
      obtain ⟨its, rv, p1, _⟩ := I1.list hqx
      obtain ⟨its2, rv2, p2, _⟩ := I1.list hqy
      refine call_zip_2 p1.isList p2.isList fun h' hz hTI hTO h1 h2 hsz hk => wpAny_pyIter_zip hz ?_
      have I2 : Inv X pins σ H1 { s1 with heap := h' } := I1.kept (t' := s1.toks) hk
      refine ⟨s1.heap.objs.size + 4, [s1.heap.objs.size + 4, s1.heap.objs.size + 2, s1.heap.objs.size + 3, s1.heap.objs.size, s1.heap.objs.size + 1], _, _, H1, rfl, I2, turn_zipH (PySem.W.ktu_apart s1.heap.objs.size a b p1.lt p2.lt), ⟨hz, hTI, ⟨_, _, hTO⟩, h1, h2⟩, fun c hcm => ?_, q⟩
      have hle : s1.heap.objs.size ≤ c := by
        have e' : c = s1.heap.objs.size + 4 ∨ c = s1.heap.objs.size + 2 ∨ c = s1.heap.objs.size + 3 ∨ c = s1.heap.objs.size ∨ c = s1.heap.objs.size + 1 := by simpa using hcm
        rcases e' with z | z | z | z | z <;> rw [z]
        · exact Nat.le_add_right _ _
        · exact Nat.le_add_right _ _
        · exact Nat.le_add_right _ _
        · exact Nat.le_refl _
        · exact Nat.le_add_right _ _
      exact I1.fpOk hle (I1.hok.fresh hle)
end Tt

/-! a list comprehension while an exception is handled. -/
namespace Tt
open PySem PySem.Spec PyProof.Rows L2 L2H
/-- the block of a comprehension in which the handled exception stands, too -/
abbrev blkH (X : Cx) (p : Addr × Obj) (s : Shared) (H : Hp) (scope : Scope) (cenv : Env) (fp : List Addr) : Cx := { X.blk s H scope cenv fp with pn := [p] }
section
variable {X : Cx} {p : Addr × Obj}
theorem blkH_of {s0 s : Shared} {H0 H : Hp} {scope : Scope} {cenv : Env} {fp : List Addr} {σ : L2.St} (I : Inv (X.blk s0 H0 scope cenv fp) [] σ H s)
    (h : s.heap.get? p.1 = some p.2 ∧ H p.1 = none ∧ p.1 ≠ cenv.locals ∧ p.1 ∉ (X.blk s0 H0 scope cenv fp).fs ∧ ∀ v, p.2.data ≠ .cell v) : Inv (blkH X p s0 H0 scope cenv fp) [] σ H s :=
  ⟨⟨I.ok.mod, I.ok.kind, I.ok.glob, I.ok.blt, I.ok.above, I.ok.inj, I.ok.has, I.ok.cab, I.ok.hd, I.ok.frames, I.ok.stk, I.ok.exf, I.ok.bs, I.ok.bsz, I.ok.noex, I.ok.exfs, I.ok.funs, I.ok.frf⟩, I.os, I.bare, I.base, I.loc, I.cell, I.free, I.freeC,
    fun q hq => by
      have e : q = p := by simpa using (show q ∈ [p] ++ ([] : List (Addr × Obj)) from hq)
      rw [e]
      exact h, I.hok, I.len⟩
theorem pe_lcH {elt tg iter : Expr} {ifs : List Expr} {scope : Scope} {own : List (Str × Nat)} {pos : Pos} {wi : TI} {g : TG} {tt : TT} {te : TE} (hot : Hot1 X.A p) (hp : p ∈ X.pn) (hN : X.N.Nodup) (hi : PIH X tg iter wi) (ok : BlkOk X.N X.env.scope scope own)
    (hg : ∀ (s : Shared) (H : Hp) (C : Addr) (cl : List (Str × Addr)) (fp : List Addr), PG (blkH X p s H scope (compEnvC scope cl C X.env) fp) tg g) (ht : ∀ (s : Shared) (H : Hp) (C : Addr) (cl : List (Str × Addr)) (fp : List Addr), PTs (blkH X p s H scope (compEnvC scope cl C X.env) fp) ifs tt)
    (he : ∀ (s : Shared) (H : Hp) (C : Addr) (cl : List (Str × Addr)) (fp : List Addr), PE (blkH X p s H scope (compEnvC scope cl C X.env) fp) elt te) (hs : ∀ x, foldedSetIterable iter X.env x = pure x := by intro _; rfl) :
    PE X (.ListComp elt [⟨tg, iter, ifs, 0⟩] scope pos) (tLc wi g tt te (own.map (·.2))) := by
  refine ⟨fun pins s σ H Q I h => ?_⟩
  rw [eval_ListComp]
  have hfree : ∀ y ∈ scope.names, y.2 = .free → ∃ c, X.env.cells.lookup y.1 = some c := fun y hy e => (ok.free y hy e).elim (fun k => I.ok.has _ (.inl k)) fun k => I.ok.has _ (.inr k)
  refine wpAny_comprehension_free (use := none) rfl hs (closure_ok hfree) ok.kind (fun y hy e => by rw [ok.uniq y hy, e]) (thn (hi.run pins s σ H _ I h) fun xv s1 hx => thn hx fun itv s2 h2 => ?_)
  obtain ⟨it, fp, tn, J, H2, e, I2, T, st2, f2, q⟩ := h2
  subst e
  refine wpAny_newObj_type (newEnv_comp ?_) (by show 0 ≤ sizeLine; decide)
  generalize hD : s2.heap.objs.size = D
  obtain ⟨W, ⟨m0, w0⟩, turn⟩ := q D (I2.hok.fresh (Nat.le_of_eq hD))
  generalize hs3 : ({ s2 with heap := s2.heap.push { cls := .type "list", data := .seq ([] : List Value).toArray } } : Shared) = s3
  have I3 : Inv X pins σ (upd H2 D (.lst [])) s3 := by
    rw [← hs3]
    refine I2.laid (t' := s2.toks) (fun b o e => Heap.get?_push_of_some _ e) (Nat.le_of_eq hD) ⟨Nat.zero_le _, [], 0, .nil, ?_⟩
    rw [← hD]
    exact Heap.get?_push_size _ rfl
  have h3 : s3.heap = s2.heap.push { cls := .type "list", data := .seq ([] : List Value).toArray } := by rw [← hs3]
  have sz : ∀ b ∈ fp, b < s2.heap.objs.size := fun b hb => by
    obtain ⟨o, e, _⟩ := T.obj _ _ st2 b hb
    exact Heap.lt_size e
  have f3 : ∀ b ∈ fp, FpOk X pins (upd H2 D (.lst [])) b ∧ b < s3.heap.objs.size := fun b hb => by
    have hlt := sz b hb
    refine ⟨⟨?_, (f2 b hb).2⟩, by rw [h3, Heap.size_push]; exact Nat.lt_succ_of_lt hlt⟩
    rw [upd_ne (by rw [← hD]; exact Nat.ne_of_lt hlt)]
    exact (f2 b hb).1
  have st3 : tn 0 s3.heap := T.keep _ _ _ st2 fun b _ o e => by rw [h3]; exact Heap.get?_push_of_some _ e
  have I4 := block_start I3 ok hN f3
  have pg := hg s3 (upd H2 D (.lst [])) s3.heap.objs.size (cellsFrom (s3.heap.objs.size + 1) scope.names (cloFrom X.env.cells scope.names [])) fp
  have pt := ht s3 (upd H2 D (.lst [])) s3.heap.objs.size (cellsFrom (s3.heap.objs.size + 1) scope.names (cloFrom X.env.cells scope.names [])) fp
  have pe := he s3 (upd H2 D (.lst [])) s3.heap.objs.size (cellsFrom (s3.heap.objs.size + 1) scope.names (cloFrom X.env.cells scope.names [])) fp
  show codeAny _ _ (.compStart (.ListComp elt [⟨tg, iter, ifs, 0⟩] scope pos) 0 (.ref it) (.ref D) (compEnvC scope (cellsFrom (s3.heap.objs.size + 1) scope.names (cloFrom X.env.cells scope.names [])) s3.heap.objs.size X.env)) (compPost (model X.prog X.w) X.A X.xe none (EP X pins σ Q) (.ref D) s3.heap.objs.size) { s3 with heap := pushCells (s3.heap.push { cls := .type "dict", data := .dict #[] }) scope.names }
  have nfp : ∀ b ∈ fp, (upd H2 D (.lst [])) b = none := fun b hb => (f3 b hb).1.1
  have p3 := I3.pin p (List.mem_append_left _ hp)
  have pfp : p.1 ∉ fp := fun hm => (f2 p.1 hm).2.2.2.2.2 p (List.mem_append_left _ hp) rfl
  generalize hce : compEnvC scope (cellsFrom (s3.heap.objs.size + 1) scope.names (cloFrom X.env.cells scope.names [])) s3.heap.objs.size X.env = ce at I4 pg pt pe ⊢
  have cL : ce.locals = s3.heap.objs.size := by subst hce; rfl
  generalize hH3 : upd H2 D (.lst []) = H3 at I3 I4 pg pt pe w0 nfp f3 p3
  generalize hs4 : ({ s3 with heap := pushCells (s3.heap.push { cls := .type "dict", data := .dict #[] }) scope.names } : Shared) = s4 at I4 ⊢
  have k4 : ∀ b o, s3.heap.get? b = some o → s4.heap.get? b = some o := fun b o e => by rw [← hs4]; exact pushCells_keeps _ _ _ _ (Heap.get?_push_of_some _ e)
  have st4 : tn 0 s4.heap := T.keep _ _ _ st3 fun b _ o e => k4 b o e
  have pstk : p.1 ∉ (X.blk s3 H3 scope ce fp).fs := by
    intro hm
    have hm : p.1 ∈ frs X.stack := hm
    rcases I3.ok.stk with e | ⟨e, ef⟩
    · rw [e] at hm
      exact p3.2.2.2.1 hm
    · rw [e] at hm
      obtain ⟨en, me, q⟩ := List.mem_filterMap.mp hm
      rcases List.mem_cons.mp me with rfl | me
      · rw [ef] at q
        exact p3.2.2.1 (Option.some.inj q).symm
      · exact p3.2.2.2.1 (List.mem_filterMap.mpr ⟨en, me, q⟩)
  have I4' : Inv (blkH X p s3 H3 scope ce fp) [] (wipe σ (own.map (·.2))) H3 s4 := blkH_of I4 ⟨k4 _ _ p3.1, p3.2.1, by rw [cL]; exact Nat.ne_of_lt (Heap.lt_size p3.1), pstk, p3.2.2.2.2⟩
  have hc : HotC (blkH X p s3 H3 scope ce fp) := ⟨p, hot, List.mem_singleton.mpr rfl⟩
  have stat : ∀ {σ' : L2.St} {H' : Hp} {s' : Shared}, Inv (blkH X p s3 H3 scope ce fp) [] σ' H' s' → (∀ b ∈ fp, H' b = none) → ∀ b ∈ fp, FpOk (blkH X p s3 H3 scope ce fp) [] H' b := fun {σ' H' s'} I' hn b hb =>
    ⟨hn b hb, (I'.ok.exf b hb).1, I'.ok.exfs b hb, .inl hb, fun x c e => (I'.ok.exf b hb).2 x c e, fun q hq => by
      have e : q = p := by simpa using (show q ∈ [p] ++ ([] : List (Addr × Obj)) from hq)
      rw [e]
      rintro rfl
      exact pfp hb⟩
  have loop : codeAny (model X.prog X.w) X.A (.compLoop (.ListComp elt [⟨tg, iter, ifs, 0⟩] scope pos) 0 (.ref it) (.ref D) ce) (compPost (model X.prog X.w) X.A X.xe none (EP X pins σ Q) (.ref D) s3.heap.objs.size) s4 := by
    refine compLoop_any (fun n s' => ∃ i H', Inv (blkH X p s3 H3 scope ce fp) [] (wipe σ (own.map (·.2))) H' s' ∧ tn i s'.heap ∧ (∀ b ∈ fp, H' b = none) ∧ W i n H') ?_ m0 ⟨0, H3, I4', st4, nfp, w0⟩
    rintro n s5 ⟨i, H5, I5, st5, n5, w5⟩
    rcases turn i n H5 w5 with ⟨stop, qq⟩ | ⟨go, Nx, hNx, step⟩
    · refine thnF (T.done (blkH X p s3 H3 scope ce fp) rfl rfl rfl hc i [] s5 _ H5 (fun _ _ => False) I5 (stat I5 n5) st5 stop) fun r s6 ⟨hr, I6⟩ => ?_
      subst hr
      have I7 : Inv X pins σ H5 s6 := I3.call' (ch := fp) I6.os I6.base I6.hok I6.bare fun b hb => ⟨(f3 b hb).1.2.2.2.1, (f3 b hb).1.2.1, (f3 b hb).1.2.2.2.2.1, (f3 b hb).1.2.2.2.2.2⟩
      have nC : H5 s3.heap.objs.size = none := by
        have z : H5 ce.locals = none := I6.free
        rwa [cL] at z
      obtain ⟨m, hn, _⟩ := I6.loc
      have hn : s6.heap.Ns ce.locals m := hn
      rw [cL] at hn
      obtain ⟨f0, f1, _, f3', f4, f5⟩ := I3.fpOk (Nat.le_refl _) nC
      refine ⟨m, hn, fun h'' sb => ?_⟩
      exact ⟨.ref D, H5, I7.turned (t' := s6.toks) (fun b o hb e => (sb.2 b hb).trans e) f0 f1 f3' f4 f5, rfl, qq⟩
    · refine thnF (T.item (blkH X p s3 H3 scope ce fp) rfl rfl rfl hc i [] s5 _ H5 (fun _ _ => False) I5 (stat I5 n5) st5 go) fun r s6 ⟨u, hr, h6⟩ => ?_
      subst hr
      refine thnF h6 fun _ s7 ⟨x, H7, I7, r7, y7, st7, n7⟩ => ?_
      have I7' := I7.pinned (stat I7 n7) (T.obj _ _ st7)
      refine thnF (pg.run _ s7 _ H7 x u _ I7' r7 (step x H7 y7)) fun _ s8 ⟨σ8, H8, I8, hw8, q8⟩ => ?_
      refine thnF (pt.run _ s8 σ8 H8 _ I8 q8) fun b s9 ⟨H9, I9, q9⟩ => ?_
      have fin : ∀ {s' : Shared} {H' : Hp}, Inv (blkH X p s3 H3 scope ce fp) ([] ++ pinsAt fp s7.heap) σ8 H' s' → Nx H' → ∃ m, m < n ∧ ∃ i H', Inv (blkH X p s3 H3 scope ce fp) [] (wipe σ (own.map (·.2))) H' s' ∧ tn i s'.heap ∧ (∀ b ∈ fp, H' b = none) ∧ W i m H' := fun {s' H'} I' nx => by
        obtain ⟨m', hm, w'⟩ := hNx H' nx
        have pin' : ∀ b ∈ fp, ∀ o, s7.heap.get? b = some o → s'.heap.get? b = some o ∧ H' b = none := fun b hb o e =>
          let z := I'.pin (b, o) (List.mem_append_right _ (List.mem_append_right _ (mem_pinsAt hb e)))
          ⟨z.1, z.2.1⟩
        have hl : (wipe σ (own.map (·.2))).length = σ8.length := by rw [← hw8, wipe_length]
        refine ⟨m', hm, i + 1, H', (I'.unpinned (pins := [])).weak hl (fun j v e => ?_), T.keep _ _ _ st7 fun b hb o e => (pin' b hb o e).1, fun b hb => ?_, w'⟩
        · rw [← hw8] at e
          exact (wipe_some e).1
        · obtain ⟨o, e, _⟩ := T.obj _ _ st7 b hb
          exact (pin' b hb o e).2
      cases b with
      | false =>
        simp only [Bool.false_eq_true, if_false] at q9 ⊢
        exact fin I9 q9
      | true =>
        simp only [if_true] at q9 ⊢
        refine thnF (pe.run _ s9 σ8 H9 _ I9 q9) fun z s10 ⟨yv, H10, I10, r10, acc, hD10, hz10, nx⟩ => ?_
        exact app_ok (X := blkH X p s3 H3 scope ce fp) I10 hD10 hz10 r10 fun s11 I11 => fin I11 nx
  exact codeAny_compStart_list loop (T.self X.A 0 _ _ _ st4 loop)
end
end Tt

/-! defs that run while an exception is handled, and are told which one. -/
namespace Tt
open PySem PySem.Spec PyProof.Rows L2 L2H
/-- a def's promise: sp may speak of the exception that is handled -/
structure FnP (P : Program) (w : World) (K : PySem.W.Frag) (mg : Str → Option Value) (base : Heap) (CX : CXT) (k : Nat) (f : Addr) (fd : FuncData) (ps : List Str) (sp : Addr × Obj → Sp) : Prop where
  len : ∀ p vs H Q E, sp p vs H Q E → vs.length = ps.length
  run : ∀ (A : Around) (outer : List Env) (s : Shared) (H : Hp) (args : Args) (us : List Value) (vs : List V) (Q : VK) (E : XK) (p : Addr × Obj), RoomH k A → Hot1 A p → PinOk outer H s p → Env0 P w K mg base A outer s H → BindsTo s fd args (ps.zip us) → Vals vs us → sp p vs H Q E →
    codeAny (model P w) A (.call (.ref f) args) (CR CX outer P w H s Q E) s
theorem fnP_of {CX : CXT} {P : Program} {w : World} {K : PySem.W.Frag} {mg : Str → Option Value} {base : Heap} {k : Nat} {f : Addr} {name qual : Str} {params : Arguments} {body : List Stmt} {scope : Scope} {dV kV doc pm cdv ct oc : Value} {an od : Option Addr}
    {osl : Array (Option Value)} {N ps : List Str} {sp : Addr × Obj → Sp} (lk : K.lookup f = some ⟨oc, od, .func (PySem.W.fnOf name qual params body scope dV kV doc pm an cdv ct), osl⟩) (hcd : PySem.W.codeIn K cdv qual = true) (S : FnScope N ps scope)
    (len : ∀ p vs H Q E, sp p vs H Q E → vs.length = ps.length)
    (hbody : ∀ (A : Around) (outer : List Env) (s : Shared) (H : Hp) (vs : List V) (Q : VK) (E : XK) (p : Addr × Obj), Hot1 A p → RoomH k (A.deeper (envOfC qual scope s.heap.objs.size f cdv)) → sp p vs H Q E →
      ∃ t, PSs (cxH CX P w K mg base N qual scope f cdv A outer s H E p) body t ∧ t { nx := fun _ H' => Q .non H', rt := Q } (L2.start N vs) H) :
    FnP P w K mg base CX (k + 1) f (PySem.W.fnOf name qual params body scope dV kV doc pm an cdv ct) ps sp := by
  refine ⟨len, fun A outer s H args us vs Q E p hr hot hpin e0 hb r hsp => ?_⟩
  have hl := len _ _ _ _ _ hsp
  have KX : K.In s.heap := e0.mod.kin.keeps fun b o e => (e0.bs b o e).1
  have lim : s.heap.NoLimit := e0.mod.nolimit.keeps fun b o e => (e0.bs b o e).1
  have hkind : ∀ y ∈ ps.zip us, scope.names.lookup y.1 = some .local ∨ (scope.names.lookup y.1 = some .cell ∧ ((cellsFrom (s.heap.objs.size + 1) scope.names []).lookup y.1).isSome = true) := fun ⟨n, v⟩ hy =>
    (S.par n (List.of_mem_zip hy).1).elim .inl fun q => .inr ⟨q, PySem.W.cellsFrom_some _ _ _ (.inl q)⟩
  refine codeAny_call_function hr.depth (KX _ _ lk) rfl S.co S.gen rfl (PySem.W.codeRec_of KX hcd) (hb _ _ _ _ ?_)
  refine wpAny_newFunctionEnv_cells S.kind hkind fun env he s1 x => ?_
  subst he
  refine ⟨lim.keeps x.toInCall.keep, codeAny_func ?_⟩
  obtain ⟨t, ht, hq⟩ := hbody A outer s H vs Q E p hot (hr.deeper _) hsp
  refine wpAny_mono (ht.run [] s1 (L2.start N vs) H _ (inv_startH S hpin e0 hl r x) hq) (fun fl s' hs => ?_) fun e s' hs => hs
  cases fl with
  | ret u =>
    obtain ⟨v, σ', H', J, rv, q⟩ := hs
    exact ⟨v, H', J.os, J.bare, J.base, J.hok, rv, q⟩
  | next =>
    obtain ⟨σ', H', J, q⟩ := hs
    exact ⟨.non, H', J.os, J.bare, J.base, J.hok, rfl, q⟩
  | brk =>
    obtain ⟨_, _, _, q⟩ := hs
    exact q.elim
  | cont =>
    obtain ⟨_, _, _, q⟩ := hs
    exact q.elim
section
variable {X : Cx} {CX : CXT} {k : Nat} {f : Addr} {fd : FuncData} {ps : List Str} {sp : Addr × Obj → Sp} {E : L2.St → XK} {x : Str} {q pos : Pos} {e : Expr} {es : List Expr} {t : TA} {p : Addr × Obj}
theorem pe_callP (F : FnP X.prog X.w X.K X.mg X.base CX k f fd ps sp) (hr : RoomH k X.A) (hot : Hot1 X.A p) (hp : p ∈ X.pn) (hg : Gl X x) (hm : X.mg x = some (.ref f)) (hk : PySem.W.keepIn X.K (.ref f) = true) (hb : Binds X.K fd ps []) (hx : ∀ σ, PassesAt CX X σ (E σ))
    (ha : PA X (e :: es) t) (hdb : (x == ("__debug__" : Str)) = false := by decide) (he : starEach (e :: es) X.env = (false, eval e X.env) :: starEach es X.env := by rfl) (hpl : (backTo pos (starEach es X.env)).any (·.1) = false := by rfl) :
    PE X (.Call (.Name x q) (e :: es) [] pos) (tCallS (sp p) E t) := by
  refine ⟨fun pins s σ H Q I h => ?_⟩
  refine wpAny_Call_Name_kw (ld_glob I hg hm ?_ hdb)
  refine PySem.W.callWith_K (h₀ := X.base) I.ok.mod.kin hk (thn (ha.run pos pins s σ H _ I h) fun us s1 ⟨vs, H1, I1, r, q⟩ => ⟨I1.kIn, ?_⟩) he hpl
  have hl : us.length = ps.length := by rw [← r.length]; exact F.len _ _ _ _ _ q
  have b := hb s1 us I1.kIn (by rw [List.append_nil]; exact hl)
  rw [List.append_nil] at b
  have P1 := I1.pin p (List.mem_append_left _ hp)
  have hpin : PinOk X.stack H1 s1 p := ⟨P1.1, P1.2.1, fun hm => (List.mem_cons.mp (I1.stkSub p.1 hm)).elim P1.2.2.1 P1.2.2.2.1, P1.2.2.2.2⟩
  refine wpAny_call (codeAny_mono (F.run X.A X.stack s1 H1 ⟨us, []⟩ us vs Q (E σ) p hr hot hpin I1.env0 b r q) fun r s' hq => ?_)
  cases r with
  | error e => exact hx σ pins H1 s1 e s' I1 hq
  | ok fl =>
    cases fl with
    | ret u => exact I1.after hq
    | next => exact hq.elim
    | brk => exact hq.elim
    | cont => exact hq.elim
end
end Tt

/-! a tuple taken apart while an exception is handled. -/
namespace Tt
open PySem PySem.Spec PyProof.Rows L2 L2H HotX
section
variable {prog : Program} {w : World} {A : Around} {E : Value → Shared → Prop} {s : Shared}
theorem tup_end_hot {it t x1 : Addr} {i : Nat} {items} {Q : Option Value → Shared → Prop} (hot : HotAt A x1 s.heap)
    (hit : IsTupIter s.heap it t i) (ht : IsTup s.heap t items) (hx : items[i]? = none)
    (hQ : ∀ h', Heap.ExtBut it s.heap h' → Q none { s with heap := h' }) : wpAny (model prog w) A (pyNext (.ref it)) Q E s := by
  obtain ⟨o, ho, hc, hd⟩ := id hit
  obtain ⟨ol, hol, _, nl, hdl⟩ := ht
  have hx1 : x1 ≠ it := by
    rintro rfl
    obtain ⟨_, o1, vs, e1, d1, c1⟩ := hot
    rw [ho] at e1
    cases e1
    rw [hd] at d1
    cases d1
    simp at c1
  unfold pyNext
  refine wpAny_bind (wpAny_attempt (wpAny_callSpecial?_slot (name := Str.ofString "__next__") hit.typeIs slot_tupleiter_next
    (wpAny_call_entry slot_tupleiter_next hit.typeIs entry_tupleiter_next ?_ (args_tupleiter_next _))))
  show wpAny _ _ (field (.ref it) 0 >>= _) _ _ s
  refine wpAny_bind (wpAny_field ho hd (x := .ref t) rfl ?_)
  show wpAny _ _ (if (Value.ref t == Value.none) = true then _ else _) _ _ s
  rw [if_neg (show ¬ ((Value.ref t == Value.none) = true) from Bool.false_ne_true)]
  show wpAny _ _ (field (.ref it) 1 >>= _) _ _ s
  refine wpAny_bind (wpAny_field ho hd (x := .int i 0) rfl ?_)
  show wpAny _ _ (seqItems? (.ref t) >>= _) _ _ s
  refine wpAny_bind (wpAny_seqItems hol hdl ?_)
  simp only [Int.toNat_natCast, hx]
  refine wpAny_bind (wpAny_rule (wpAny_bind (wpAny_setField ho hd (by simp) ?_)))
  show wpAny _ _ (newExc (.type "StopIteration") [] >>= _) _ _ _
  refine wpAny_bind ?_
  simp only [newExc, newTuple]
  refine wpAny_bind (wpAny_newObj_type ?_ (by size_fits))
  refine wpAny_bind (m := firstArgMember _ _) (wpAny_of_eq (a := Value.none) (by first | rfl | (simp only [firstArgMember]; rfl)) ?_)
  refine wpAny_newObj_type ?_ (by size_fits)
  have kx : ∀ b ob, b ≠ it → s.heap.get? b = some ob → (s.heap.update it (Obj.mapFields (·.setIfInBounds 0 .none))).get? b = some ob := fun b ob n e => by
    rw [Heap.get?_update_other _ _ (Ne.symm n)]
    exact e
  refine raiseNew_hot (hot_up hot fun o1 e => Heap.get?_push_of_some _ (Heap.get?_push_of_some _ (kx _ o1 hx1 e))) ?_ (Heap.get?_push_size _ rfl) rfl (by first | (simp; done) | (simp; omega) | (simp only [Array.size_append]; simp; omega)) ?_
  · obtain ⟨_, o1, vs1, h1, _⟩ := id hot
    exact Nat.ne_of_lt (Heap.lt_size (Heap.get?_push_of_some _ (kx _ o1 hx1 h1)))
  refine wpAny_bind (wpAny_isInstance (T := "StopIteration") (b := true) ⟨_, Heap.get?_update_self _ (Heap.get?_push_size _ rfl) (by rfl), by rfl⟩ isSubtype_stop ?_)
  refine wpAny_pure (hQ _ fun b ob hb e => ?_)
  refine (Heap.get?_update_other _ _ (Nat.ne_of_gt (Heap.lt_size (Heap.get?_push_of_some _ (kx b ob hb e))))).trans ?_
  exact Heap.get?_push_of_some _ (Heap.get?_push_of_some _ (kx b ob hb e))
theorem items_hot {t x1 : Addr} {items : Array Value} {Q : List Value → Shared → Prop} (hot : HotAt A x1 s.heap) (ht : IsTup s.heap t items)
    (hQ : ∀ h', Heap.ExtBut s.heap.objs.size s.heap h' → Q items.toList { s with heap := h' }) : wpAny (model prog w) A (unpackItems (.ref t) items.size none) Q E s := by
  have hlt : t ≠ s.heap.objs.size := by obtain ⟨o, ho, _⟩ := ht; exact Nat.ne_of_lt (Heap.lt_size ho)
  have hx : x1 ≠ s.heap.objs.size := by obtain ⟨_, o1, vs, e1, _⟩ := id hot; exact Nat.ne_of_lt (Heap.lt_size e1)
  unfold unpackItems
  refine wpAny_bind ?_
  unfold notIterableAtAll
  refine wpAny_bind (wpAny_specialOf ht.typeIs slot_tuple_iter.lookup ?_)
  refine wpAny_pure ?_
  simp only [Bool.false_eq_true, if_false]
  refine wpAny_bind (wpAny_holding (iter_tuple ht ?_))
  refine wpAny_bind (wpAny_holding (draw_tuple hlt items.size 0 _ _ ⟨_, Heap.get?_push_size _ rfl, rfl, rfl⟩ (ht.push _) (by omega) fun h₁ hit₁ hs₁ => ?_))
  rw [show List.take items.size (List.drop 0 items.toList) = items.toList by rw [List.drop_zero]; exact List.take_of_length_le (by simp), if_neg (by simp)]
  refine wpAny_bind (wpAny_holding (tup_end_hot (hot_up hot fun o1 e => hs₁.extBut _ _ hx (Heap.get?_push_of_some _ e)) hit₁ ((ht.push _).extBut hs₁.extBut hlt) (by simp) fun h₂ he₂ => ?_))
  simp only [Option.isSome_none, Bool.false_eq_true, if_false]
  exact wpAny_pure (hQ h₂ fun b o hb e => he₂ b o hb (hs₁.extBut b o hb (Heap.get?_push_of_some _ e)))
end
theorem pg_tupH {X : Cx} {es : List Expr} {k : Nat} {t : TGs} {n : Nat} {pos : Pos} (hc : HotC X) (h : PGs X es t)
    (hn : (assignEach es X.env).length = n := by rfl) (hst : (assignEach es X.env).findIdx? (·.1) = none := by rfl) : PG X (.Tuple es k pos) (gTup X.K n t) := by
  refine ⟨fun pins s σ H v u Q I r hw => ?_⟩
  obtain ⟨a, xs, e1, hq, hl, hw⟩ := hw
  subst e1
  cases r
  obtain ⟨its, rv, ht, hz⟩ := I.tuple hq
  obtain ⟨x1, hot⟩ := hc.at I
  rw [assign_Tuple]
  refine wpAny_bind (wpAny_standAt ?_)
  unfold unpack
  rw [show (assignEach es X.env).length = its.toArray.size by simp [hn, ← hl, rv.length], hst]
  refine wpAny_bind (wpAny_holding (items_hot hot ht fun h' hx => ?_))
  have I1 : Inv X pins σ H { s with heap := h' } := I.kept (t' := s.toks) fun b o e => hx b o (Nat.ne_of_lt (Heap.lt_size e)) e
  exact h.run pins _ σ H xs _ Q I1 (by simpa using rv) hw
end Tt

/-! what is told of the exception that is handled. -/
namespace Tt
open PySem PySem.Spec PyProof.Rows L2 L2H
/-- isinstance(e, c), e the exception that is handled -/
theorem call_isP {X : Cx} {D : Addr} {p : Addr × Obj} (hp : p ∈ X.pn) (C : ExcC X.K D) (hz : Zc (.ref D) none p.2) (hf : ∃ vs, p.2.data = .fields vs) : CallR X (.builtin "isinstance") (rIsE X.K D p.1) := by
  intro pins s σ H xs us Q I r h
  obtain ⟨c, cv, b, rfl, hcv, e, q⟩ := h
  cases r with
  | cons rx rr =>
    cases rr with
    | cons rt rr =>
      cases rr
      cases rx
      have ec := hcv _ rt
      subst ec
      obtain ⟨hget, _⟩ := I.pin p (List.mem_append_left _ hp)
      obtain ⟨vs, hv⟩ := hf
      have J : PySem.W.InstAt s.heap p.1 p.2 D none := by
        obtain ⟨a, oc, od, oda, osl⟩ := p
        obtain ⟨h1, h2⟩ := hz
        dsimp only at h1 h2 hv
        subst h1 h2 hv
        exact ⟨hget, rfl, rfl, trivial⟩
      exact PySem.W.kia_one (PySem.W.handS_kitx_exc C.hg C.hk C.hs C.hd C.ha C.hn C.ht C.hm) I.kIn J e (fun z => nomatch z) fun tk => ⟨.bl b, H, I.kept (t' := tk) fun _ _ z => z, rfl, q⟩
section
variable {X : Cx} {m : Bool} {ρ : List Sl} {W : Wx} {pos pf pe tp : Pos} {Q : Bool → D → List Sl → Prop} {p : Addr × Obj} {D C : Addr} {b : Bool}
theorem em_isP (i : Nat) {ex cx : Str} (hp : p ∈ X.pn) (Ce : ExcC X.K D) (hz : Zc (.ref D) none p.2) (hf : ∃ vs, p.2.data = .fields vs) (hm : X.mg "isinstance" = none) (hC : X.mg cx = some (.ref C)) (hk : PySem.W.kitOne X.K (.ref D) (.ref C) = some b)
    (h0 : ρ[i]? = some (.rw (.ref p.1))) (q : Q false (.bool b) ρ) (hN : X.N[i]? = some ex := by rfl) (hv : Vis X.env.scope ex := by first | exact Or.inl rfl | exact Or.inr (Or.inl rfl) | exact Or.inr (Or.inr rfl))
    (hd : (ex == ("__debug__" : Str)) = false := by decide) (hcd : (ex == ("__classdict__" : Str)) = false := by decide) (hg : Gl X "isinstance" := by rfl) (hgC : Gl X cx := by rfl) (hdC : (cx == ("__debug__" : Str)) = false := by decide)
    (he : starEach [.Name ex pe, .Name cx tp] X.env = (false, eval (.Name ex pe) X.env) :: starEach [.Name cx tp] X.env := by rfl) (he2 : starEach [.Name cx tp] X.env = (false, eval (.Name cx tp) X.env) :: starEach [] X.env := by rfl) (hpl : (backTo pos (starEach [.Name cx tp] X.env)).any (·.1) = false := by rfl) :
    EM m X (.Call (.Name "isinstance" pf) [.Name ex pe, .Name cx tp] [] pos) ρ W Q := fun σ I H ok xk R f => by
  obtain ⟨v, e, r⟩ := ok.at h0 (fun z => nomatch z)
  have r : v = .ref p.1 := r
  subst r
  exact ⟨_, pe_callB (call_isP hp Ce hz hf) hg hm boot_isinstance (pa_cons (pe_var hN hv hd hcd) (pa_cons (pe_glob (v := .ref C) hgC hC rfl hdC) pa_nil he2) he) (by decide) (by decide) he hpl,
    .ref p.1, e, .ref C, .ref C, b, rfl, fun u hu => hu, hk, f _ false _ ρ I H (Go.refl ok) Rv.mkBl q⟩
theorem em_isPT (i : Nat) {ex cx : Str} {T : String} (hp : p ∈ X.pn) (Ce : ExcC X.K D) (hz : Zc (.ref D) none p.2) (hf : ∃ vs, p.2.data = .fields vs) (hm : X.mg "isinstance" = none) (hC : X.mg cx = none) (hx : bootBuiltins cx = some (.type T)) (hk : PySem.W.kitOne X.K (.ref D) (.type T) = some b)
    (h0 : ρ[i]? = some (.rw (.ref p.1))) (q : Q false (.bool b) ρ) (hN : X.N[i]? = some ex := by rfl) (hv : Vis X.env.scope ex := by first | exact Or.inl rfl | exact Or.inr (Or.inl rfl) | exact Or.inr (Or.inr rfl))
    (hd : (ex == ("__debug__" : Str)) = false := by decide) (hcd : (ex == ("__classdict__" : Str)) = false := by decide) (hg : Gl X "isinstance" := by rfl) (hgC : Gl X cx := by rfl) (hn : cx ≠ "__name__" := by decide) (hdC : (cx == ("__debug__" : Str)) = false := by decide)
    (he : starEach [.Name ex pe, .Name cx tp] X.env = (false, eval (.Name ex pe) X.env) :: starEach [.Name cx tp] X.env := by rfl) (he2 : starEach [.Name cx tp] X.env = (false, eval (.Name cx tp) X.env) :: starEach [] X.env := by rfl) (hpl : (backTo pos (starEach [.Name cx tp] X.env)).any (·.1) = false := by rfl) :
    EM m X (.Call (.Name "isinstance" pf) [.Name ex pe, .Name cx tp] [] pos) ρ W Q := fun σ I H ok xk R f => by
  obtain ⟨v, e, r⟩ := ok.at h0 (fun z => nomatch z)
  have r : v = .ref p.1 := r
  subst r
  exact ⟨_, pe_callB (call_isP hp Ce hz hf) hg hm boot_isinstance (pa_cons (pe_var hN hv hd hcd) (pa_cons (pe_bltn (v := .ty T) hgC hC hx rfl hn hdC) pa_nil he2) he) (by decide) (by decide) he hpl,
    .ref p.1, e, .ty T, .type T, b, rfl, fun u hu => hu, hk, f _ false _ ρ I H (Go.refl ok) Rv.mkBl q⟩
end
/-! a def of the exception alone -/
def spE (K : PySem.W.Frag) (sp : Addr × Obj → (Bool → D → Prop) → Prop) : Addr × Obj → Sp := fun p vs H Q _ => ∃ I P, Sub I H ∧ vs = [.ref p.1] ∧ sp p P ∧ ∀ v o d I' H', Grow I H I' H' → RsOk K H I' H' v o d → P o d → Q v H'
def CalE (P : Program) (w : World) (K : PySem.W.Frag) (mg : Str → Option Value) (base : Heap) (x : Str) (k : Nat) (sp : Addr × Obj → (Bool → D → Prop) → Prop) : Prop :=
  ∃ f fd e, FnP P w K mg base (L2N.CX P w) k f fd [e] (spE K sp) ∧ mg x = some (.ref f) ∧ PySem.W.keepIn K (.ref f) = true ∧ Binds K fd [e] []
theorem em_callE {X : Cx} {m : Bool} {ρ : List Sl} {W : Wx} {pos pf pe : Pos} {Q : Bool → D → List Sl → Prop} {p : Addr × Obj} {k : Nat} {sp : Addr × Obj → (Bool → D → Prop) → Prop} (i : Nat) {x ex : Str} (F : CalE X.prog X.w X.K X.mg X.base x k sp) (hr : RoomH k X.A) (hot : Hot1 X.A p) (hp : p ∈ X.pn)
    (h0 : ρ[i]? = some (.rw (.ref p.1))) (q : sp p fun o d => Q o d ρ) (hN : X.N[i]? = some ex := by rfl) (hv : Vis X.env.scope ex := by first | exact Or.inl rfl | exact Or.inr (Or.inl rfl) | exact Or.inr (Or.inr rfl))
    (hd : (ex == ("__debug__" : Str)) = false := by decide) (hcd : (ex == ("__classdict__" : Str)) = false := by decide) (hg : Gl X x := by rfl) (hdb : (x == ("__debug__" : Str)) = false := by decide)
    (he : starEach [.Name ex pe] X.env = (false, eval (.Name ex pe) X.env) :: starEach [] X.env := by rfl) (hpl : (backTo pos (starEach [] X.env)).any (·.1) = false := by rfl) :
    EM m X (.Call (.Name x pf) [.Name ex pe] [] pos) ρ W Q := fun σ I H ok xk R f => by
  obtain ⟨fa, fd, en, F, hm, hk, hb⟩ := F
  obtain ⟨v, e, r⟩ := ok.at h0 (fun z => nomatch z)
  have r : v = .ref p.1 := r
  subst r
  exact ⟨_, pe_callP F hr hot hp hg hm hk hb (E := fun _ _ _ _ => False) (fun σ => L2N.passAt (W := fun _ _ _ _ => False) (fun _ _ ⟨_, _, _, _, _, _, _, _, _, _, _, _, _, _, _, _, w⟩ => w.elim) σ) (pa_cons (pe_var hN hv hd hcd) pa_nil he) hdb he hpl,
    .ref p.1, e, I, _, ok.sub, rfl, q, fun v o d I' H' g r qq => f v o d ρ I' H' (Go.of ok g) r qq⟩
section
variable {P : Program} {w : World} {K : PySem.W.Frag} {mg : Str → Option Value} {base : Heap}
theorem fnE_ok {x qual : Str} {st : Stmt} {f : Addr} {fd : FuncData} {N : List Str} {en : Str} {k : Nat} {sp : Addr × Obj → (Bool → D → Prop) → Prop} (F : Fun K x qual st f fd) (hm : mg x = some (.ref f)) (hb : Binds K fd [en] []) (S : FnScope N [en] (defScope st))
    (hbody : ∀ (cdv : Value) (A : Around) (outer : List Env) (s : Shared) (H : Hp) (E : XK) (p : Addr × Obj), Hot1 (A.deeper (envOfC qual (defScope st) s.heap.objs.size f cdv)) p → RoomH k (A.deeper (envOfC qual (defScope st) s.heap.objs.size f cdv)) → ∀ Q, sp p Q →
      SD (cxH (L2N.CX P w) P w K mg base N qual (defScope st) f cdv A outer s H E p) (defBody st) (startS N.length [.rw (.ref p.1)]) W0 { nx := fun _ => Q false .none, rt := fun o d _ => Q o d }) : CalE P w K mg base x (k + 1) sp := by
  refine ⟨f, fd, en, ?_, hm, F.kp, hb⟩
  obtain ⟨oc, od, kV, doc, pm, an, cdv, ct, osl, rfl, lk, hcd⟩ := F.ex
  refine fnP_of lk hcd S (fun p vs H Q E ⟨_, _, _, e, _⟩ => by rw [e]; rfl) fun A outer s H vs Q E p hot hr ⟨I, P', sub, ev, h, hq⟩ => ?_
  subst ev
  have nft : ∀ i, ft (startS N.length [.rw (.ref p.1)]) i = [] := fun i => by
    cases q : ft (startS N.length [.rw (.ref p.1)]) i with
    | nil => rfl
    | cons a r =>
      have z : a ∈ ft [Sl.rw (.ref p.1)] i := startS_ft (n := N.length) (by rw [q]; exact List.mem_cons_self)
      unfold ft at z
      cases i with
      | zero => cases z
      | succ i => cases z
  have nmt : ∀ a, ¬ Mt (startS N.length [.rw (.ref p.1)]) a := fun a ⟨i, h⟩ => by rw [nft i] at h; cases h
  have ok0 : EnvOk K I H (L2.start N [.ref p.1]) (startS N.length [.rw (.ref p.1)]) := by
    refine ⟨?_, fun i t e => ?_, fun i => (by rw [nft i]; exact List.nodup_nil), fun i j a h1 _ => (by rw [nft i] at h1; cases h1), fun i a h => (by rw [nft i] at h; cases h), sub⟩
    · unfold L2.start startS
      simp
    · cases i with
      | zero =>
        have e1 : t = .rw (.ref p.1) := by
          have : (startS N.length [.rw (.ref p.1)])[0]? = some (.rw (.ref p.1)) := rfl
          rw [this] at e
          exact (Option.some.inj e).symm
        subst e1
        rfl
      | succ i =>
        rcases startS_at e with z | z
        · cases z
        · subst z
          trivial
  have fin : ∀ v o d σ' ρ' I' H', EnvOk K I' H' σ' ρ' → Step I H (Mt (startS N.length [.rw (.ref p.1)])) I' H' (Mt ρ') → RtOk K H (Mt (startS N.length [.rw (.ref p.1)])) I' H' v o d → P' o d → Q v H' := by
    intro v o d σ' ρ' I' H' ok' st' r q
    refine hq v o d I' H' (st'.grow nmt ok'.sub) ?_ q
    cases o with
    | false => exact r
    | true =>
      obtain ⟨a, xs, ds, h1, h2, h3, h4⟩ := r
      exact ⟨a, xs, ds, h1, h2, h3.elim id fun z => absurd z (nmt a), h4⟩
  obtain ⟨t, ht, q⟩ := hbody cdv A outer s H E p hot hr P' h (L2.start N [.ref p.1]) I H ok0 .zero { nx := fun _ H' => Q .non H', rt := Q }
    ⟨fun σ' ρ' I' H' ok' st' q => fin .non false .none σ' ρ' I' H' ok' st' Rv.mkNon q, fun v o d σ' ρ' I' H' ok' st' r q => fin v o d σ' ρ' I' H' ok' st' r q, fun _ _ _ _ _ _ q => q.elim, fun _ _ _ _ _ _ q => q.elim⟩
  exact ⟨t, ht, q⟩
end
end Tt

/-! list comprehensions over data while an exception is handled; text.split(text). -/
namespace Tt
open PySem PySem.Spec PyProof.Rows L2 L2H
theorem md_split {X : Cx} {x y : Str} {Q : Bool → D → Prop} (hy : (y.length == 0) = false) (hz : x.length + 2 ≤ sizeLine) (q : Q true (.list ((Txt.split x y).map .str))) : MD X "str.split" x [.str y] Q := fun I H vs s r R k => by
  obtain ⟨v, rfl, r'⟩ := kd_one r
  rw [r'.str]
  exact ⟨_, mt_split, x, y, rfl, rfl, hy, hz, fun p n => k.lst s (DqAll.mkStrs _) q n⟩
abbrev bkH (X : Cx) (p : Addr × Obj) (scope : Scope) (s : Shared) (H0 : Hp) (C : Addr) (cl : List (Str × Addr)) (fp : List Addr) : Cx := blkH X p s H0 scope (compEnvC scope cl C X.env) fp
def wEh (X : Cx) (p : Addr × Obj) (scope : Scope) (e : Expr) : TE := fun σ H Q => ∀ s H0 C cl fp, wE (bkH X p scope s H0 C cl fp) e σ H Q
theorem pe_wh {X : Cx} {p : Addr × Obj} {scope : Scope} {e : Expr} (s : Shared) (H0 : Hp) (C : Addr) (cl : List (Str × Addr)) (fp : List Addr) : PE (bkH X p scope s H0 C cl fp) e (wEh X p scope e) :=
  ⟨fun pins s1 σ H Q I h => by
    obtain ⟨t, ht, q⟩ := h s H0 C cl fp
    exact ht.run pins s1 σ H Q I q⟩
def wTsh (X : Cx) (p : Addr × Obj) (scope : Scope) (es : List Expr) : TT := fun σ H Q => ∀ s H0 C cl fp, wTs (bkH X p scope s H0 C cl fp) es σ H Q
theorem pts_wh {X : Cx} {p : Addr × Obj} {scope : Scope} {es : List Expr} (s : Shared) (H0 : Hp) (C : Addr) (cl : List (Str × Addr)) (fp : List Addr) : PTs (bkH X p scope s H0 C cl fp) es (wTsh X p scope es) :=
  ⟨fun pins s1 σ H Q I h => by
    obtain ⟨t, ht, q⟩ := h s H0 C cl fp
    exact ht.run pins s1 σ H Q I q⟩
def wIH (X : Cx) (tg iter : Expr) : TI := fun σ H R => ∃ t, PIH X tg iter t ∧ t σ H R
theorem pi_wH {X : Cx} {tg iter : Expr} : PIH X tg iter (wIH X tg iter) := ⟨fun pins s σ H R I ⟨_, h, q⟩ => h.run pins s σ H R I q⟩
def InH (X : Cx) (p : Addr × Obj) (scope : Scope) (f : Cx → Prop) : Prop := ∀ s H0 C cl fp, f (bkH X p scope s H0 C cl fp)
def IMH (m : Bool) (X : Cx) (tg iter : Expr) (ρ : List Sl) (W : Wx) (Q : List D → List Sl → Prop) : Prop :=
  ∀ σ I H, EnvOk X.K I H σ ρ → XOk X W H ρ → ∀ R : It → Hp → Prop, (∀ J its ρ' I' H', Go m X.K σ ρ I H ρ' I' H' → WalkD X.K J I' its → Q its ρ' → R J H') → wIH X tg iter σ H R
def TurnDH (m : Bool) (X : Cx) (p : Addr × Obj) (elt : Expr) (ifs : List Expr) (scope : Scope) (t : Tg) (vs : List Nat) (d : D) (ys : List D) (ρ2 : List Sl) (Pn : List D → List Sl → Prop) : Prop :=
  ∃ ρ3, Tg.put t d (wipeS ρ2 vs) = some ρ3 ∧ InH X p scope fun Y => SM m Y ifs ρ3 fun b ρ4 => (b = true → InH X p scope fun Z => EM m Z elt ρ4 W0 fun _ y ρ5 => nd y = true ∧ ys.length < sizeLine ∧ Pn (ys ++ [y]) (backS vs ρ2 ρ5)) ∧ (b = false → Pn ys (backS vs ρ2 ρ4))
def HLcH (m : Bool) (X : Cx) (p : Addr × Obj) (elt tg iter : Expr) (ifs : List Expr) (scope : Scope) (t : Tg) (vs : List Nat) (ρ : List Sl) (W : Wx) (Q : List D → List Sl → Prop) : Prop :=
  IMH m X tg iter ρ W fun its ρ1 => ∃ P : Nat → List D → List Sl → Prop, P 0 [] ρ1 ∧ (∀ i d ys ρ2, its[i]? = some d → P i ys ρ2 → TurnDH m X p elt ifs scope t vs d ys ρ2 (P (i + 1))) ∧ ∀ ys ρ2, P its.length ys ρ2 → Q ys ρ2
section
variable {X : Cx} {p : Addr × Obj} {m : Bool} {ρ : List Sl} {W : Wx} {a b elt tg iter : Expr} {ifs elts : List Expr} {kk : Nat} {tpos pz : Pos} {scope : Scope} {pos : Pos} {Q : Bool → D → List Sl → Prop}
theorem lc_dataH {t : Tg} {own : List (Str × Nat)} {QL : List D → List Sl → Prop} (ht : ∀ i ∈ Tg.slots t, i ∈ own.map (·.2)) (h : HLcH m X p elt tg iter ifs scope t (own.map (·.2)) ρ W QL) {σ : L2.St} {I H : Hp} (ok : EnvOk X.K I H σ ρ) (xk : XOk X W H ρ) {R : VK}
    (f : ∀ v ds ρ' I' H', Go m X.K σ ρ I H ρ' I' H' → RsOk X.K H I' H' v true (.list ds) → QL ds ρ' → R v H') : tLc (wIH X tg iter) (Tg.g X.K t) (wTsh X p scope ifs) (wEh X p scope elt) (own.map (·.2)) σ H R := by
  refine h σ I H ok xk _ fun J its ρ1 I1 H1 g1 w ⟨P, p0, ps, pd⟩ D nD => ?_
  have ok1 := g1.env ok
  have nI1 : I1 D = none := ok1.sub.nn nD
  refine lc_it w.w (fun i H' => ∃ ρ2 I2 ys acc, Go m X.K σ ρ1 I1 H1 ρ2 I2 H' ∧ I2 D = none ∧ H' D = some (.lst acc) ∧ DqAll I2 acc ys ∧ P i ys ρ2)
    ⟨ρ1, I1, [], [], (Go.refl ok1).dark ok1 nD nI1, nI1, upd_same, .nil, p0⟩ (fun i H' _ ⟨ρ2, I2, ys, acc, g, _⟩ => (g.env ok1).sub.same g.ii) (fun i x H' H'' hi ⟨ρ2, I2, ys, acc, g, nd2, hD, ha, pi⟩ y => ?_) fun H' ⟨ρ2, I2, ys, acc, g, nd2, hD, ha, pn⟩ => ?_
  · obtain ⟨d, hd, y⟩ := y
    have ok2 := g.env ok1
    obtain ⟨I3, g3, r3⟩ := y I2 g.ii ok2.sub
    obtain ⟨ρ3, e3, body⟩ := ps i d ys ρ2 hd pi
    have ok3 := ok2.grow g3
    obtain ⟨σ3, p3, q3⟩ := Tg.run t (EnvOk.wiped (vs := own.map (·.2)) ok3) r3 e3
    have gg := g.grow ok1 g3
    have hD3 : H'' D = some (.lst acc) := g3.hh D _ hD
    have nd3 : I3 D = none := g3.fr D _ hD nd2
    have nm : ¬ Mt ρ3 D := fun z => by
      obtain ⟨j, hj⟩ := p3.mt D z
      obtain ⟨o, e⟩ := ok1.there (g.mt D ⟨j, (ft_wipe hj).1⟩)
      rw [nD] at e
      cases e
    have pw := p3.wide ht
    refine q3 _ ⟨wipe_put p3 ht, fun s0 H0 C cl fp => ?_⟩
    refine sm_run (body s0 H0 C cl fp) p3.env fun b ρ4 I4 H4 g4 ⟨q1, q2⟩ => ?_
    have hD4 : H4 D = some (.lst acc) := g4.step.oth D _ hD3 nm
    have nd4 : I4 D = none := g4.step.fr D _ hD3 nd3 nm
    cases b with
    | false =>
      refine iteF ⟨backS (own.map (·.2)) ρ2 ρ4, I4, ys, acc, gg.trans (Go.back ok3 pw g4), nd4, hD4, DqAll.same (g3.ii.trans g4.ii) ha, q2 rfl⟩
    | true =>
      refine iteT fun s1 H1' C1 cl1 fp1 => ?_
      refine EM.run (q1 rfl s1 H1' C1 cl1 fp1) (g4.env p3.env) XOk.zero fun v o y ρ5 I5 H5 g5 r5 ⟨ny, ly, pp⟩ => ?_
      have g45 := g4.trans g5
      have nm4 : ¬ Mt ρ4 D := fun z => nm (g4.mt D z)
      have hD5 : H5 D = some (.lst acc) := g5.step.oth D _ hD4 nm4
      have nd5 : I5 D = none := g5.step.fr D _ hD4 nd4 nm4
      have ha5 := DqAll.same ((g3.ii.trans g4.ii).trans g5.ii) ha
      refine ⟨acc, hD5, by rw [ha5.len]; exact ly, backS (own.map (·.2)) ρ2 ρ5, I5, ys ++ [y], acc ++ [v], (gg.trans (Go.back ok3 pw g45)).dark ok1 nD nd5, nd5, upd_same, DqAll.app ha5 (.cons (r5.dp ny) .nil), pp⟩
  · exact f _ ys ρ2 I2 H' (g1.trans g) ⟨D, acc, ys, rfl, rfl, g1.nn D nD, nd2, hD, ha⟩ (pd ys ρ2 pn)
theorem em_lcH (t : Tg) (own : List (Str × Nat)) (hot : Hot1 X.A p) (hp : p ∈ X.pn) (hN : X.N.Nodup) (ok : BlkOk X.N X.env.scope scope own) (hg : InH X p scope fun Y => PG Y tg (Tg.g X.K t)) (ht : ∀ i ∈ Tg.slots t, i ∈ own.map (·.2))
    (h : HLcH m X p elt tg iter ifs scope t (own.map (·.2)) ρ W fun ys ρ' => Q true (.list ys) ρ') (hs : ∀ x, foldedSetIterable iter X.env x = pure x := by intro _; rfl) : EM m X (.ListComp elt [⟨tg, iter, ifs, 0⟩] scope pos) ρ W Q := fun σ I H okk xk R f =>
  ⟨_, pe_lcH hot hp hN pi_wH ok (fun s H C cl fp => hg s H C cl fp) pts_wh pe_wh hs, lc_dataH ht h okk xk fun v ds ρ' I' H' g r q => f v true _ ρ' I' H' g r q⟩
theorem im_zipH {Q : List D → List Sl → Prop} (hm : X.mg "zip" = none) (h : AM m X [a, b] ρ W fun vs ρ1 => ∃ ds es, vs = [.list ds, .list es] ∧ ds.length ≤ es.length ∧ Q (zipD ds es) ρ1) (hg : Gl X "zip" := by rfl)
    (hs : starEach [a, b] X.env = (false, eval a X.env) :: starEach [b] X.env := by rfl) (hpl : (backTo pos (starEach [b] X.env)).any (·.1) = false := by rfl) : IMH m X (.Tuple elts kk tpos) (.Call (.Name "zip" pz) [a, b] [] pos) ρ W Q := fun σ I H ok xk R f =>
  ⟨_, pi_zipH hg hm pa_w hs hpl, h σ I H ok xk _ fun vs ds ρ1 I1 H1 g r ⟨ds, es, e, le, q⟩ => by
    subst e
    cases r with
    | cons r1 r =>
      cases r with
      | cons r2 r =>
        cases r
        obtain ⟨a1, xs, rfl, ha, t⟩ := r1.lst
        obtain ⟨a2, ys, rfl, hb, t2⟩ := r2.lst
        refine ⟨a1, a2, xs, ys, rfl, SqL.of ((g.env ok).sub.lst ha), SqL.of ((g.env ok).sub.lst hb), f _ _ ρ1 I1 H1 g ⟨?_⟩ q⟩
        have lx := t.len
        have ly := t2.len
        have ln : (zipD ds es).length = min xs.length ys.length := by rw [zipD_len, lx, ly]
        rw [ln]
        have w := walk_zipF (K := X.K) (a := a1) (b := a2) (xs := xs) (ys := ys)
        refine ⟨fun i H hi s => w.goes i H hi ⟨SqL.of (s.lst ha), SqL.of (s.lst hb)⟩, fun H s => ⟨xs, SqL.of (s.lst ha), by omega⟩, fun i H v H' hi s y => ?_⟩
        obtain ⟨T, x, x2, ob, rfl, od, nT, rfl, e1, e2⟩ := w.yields i H v H' hi ⟨SqL.of (s.lst ha), SqL.of (s.lst hb)⟩ y
        obtain ⟨d, hd, r⟩ := t.getV e1
        obtain ⟨d2, hd2, r2⟩ := t2.getV e2
        refine ⟨_, zipD_at hd hd2, fun I1' ii s1 => ?_⟩
        have g := Grow.new (o := .frz ob (.tup [x, x2])) s1 nT
        exact ⟨_, g, Rv.mkT ⟨ob, od, upd_same⟩ (.cons (Dq.same (ii.trans g.ii) r) (.cons (Dq.same (ii.trans g.ii) r2) .nil))⟩⟩
theorem pg_tpH {es : List Expr} {k : Nat} {ts : List Tg} {pos : Pos} (hc : HotC X) (h : PGs X es (Tg.gs X.K ts)) (hn : (assignEach es X.env).length = ts.length := by rfl) (hst : (assignEach es X.env).findIdx? (·.1) = none := by rfl) : PG X (.Tuple es k pos) (Tg.g X.K (.tp ts)) := by
  unfold Tg.g
  exact pg_tupH hc h hn hst
theorem hot_bk {s : Shared} {H0 : Hp} {C : Addr} {cl : List (Str × Addr)} {fp : List Addr} (hot : Hot1 X.A p) : HotC (bkH X p scope s H0 C cl fp) := ⟨p, hot, List.mem_singleton.mpr rfl⟩
end
end Tt

/-! raise; try .. except .. as n. -/
namespace Tt
open PySem PySem.Spec PyProof.Rows L2 L2H
/-- a class of the program's that may be raised -/
structure ExcR (K : PySem.W.Frag) (mg : Str → Option Value) (x : Str) (C : Addr) : Prop where
  F : ∃ (B newId initId : String) (bm : List Value), ExcBaseFacts B newId initId bm ∧ PySem.W.excIn K C bm newId = true
  mg_ : mg x = some (.ref C)
  kp : PySem.W.keepIn K (.ref C) = true
  sub : PySem.W.subIn K (.ref C) (.type "BaseException") = some true
  ty : PySem.W.typeIn K (.ref C) = some (.type "type")
theorem takes_imp {X : Cx} {W W' : WX} (t : L2N.Takes X W) (h : ∀ c d (σ : L2.St) H, σ.length = X.N.length → W' c d σ H → W c d σ H) : L2N.Takes X W' := fun u s' ⟨a, B, sI, pins, σ, H, cls, d, e, I, nb, up, sky, na, os, ag, w⟩ =>
  t u s' ⟨a, B, sI, pins, σ, H, cls, d, e, I, nb, up, sky, na, os, ag, h _ _ _ _ I.len w⟩
theorem sub_same {I H H' : Hp} (s : Sub I H) (sm : Same H H') : Sub I H' := s.grow sm
section
variable {X : Cx} {ρ : List Sl} {W : Wx} {E : DE}
theorem s1_raise {x m : Str} {j : Nat} {C : Addr} {p p2 pos pos2 : Pos} (R : ExcR X.K X.mg x C) (hc : X.calm = true) (w : W (.ref C)) (hg : Gl X x := by rfl) (hdb : (x == ("__debug__" : Str)) = false := by decide) : S1 X (.Raise (some (.Call (.Name x p) [.Constant (.str m) j p2] [] pos)) none pos2) ρ W E := fun σ I H ok xk T k => by
  obtain ⟨H0, thr, s0, k0⟩ := xk.ex
  obtain ⟨B, newId, initId, bm, F, q⟩ := R.F
  exact ⟨_, L2N.ps_raise hc thr (L2N.pmk_own F q R.mg_ R.kp (raises_own R.sub R.ty) hg hdb), w, rfl, s0⟩
theorem s1_tryE (i : Nat) {x n : Str} {c : Value} {Wb : Wx} {body suite : List Stmt} {b₀ : Stmt} {np pos pos' : Pos} (hs : X.stack = X.env :: X.outer) (hf : X.env.frame = some X.env.locals) (hN : X.N.Nodup) (hi : X.N[i]? = some n) (hln : X.env.kindOf n = some .local) (hc : Names X x c) (nm : ∀ a, ¬ Mt ρ a)
    (hbody : ∀ pn xe, SD (X.tr pn xe) body ρ Wb E) (hex : ∀ cls, Wb cls → PySem.W.exmOne X.K cls c = some true)
    (hsu : ∀ a oe cls pn, Wb cls → L2N.Zn cls none oe → (∃ vs, oe.data = .fields vs) → SD (X.suite a ((a, oe) :: pn)) (b₀ :: suite) ((List.replicate X.N.length Sl.no).set i (.rw (.ref a))) W0 { nx := fun _ => False, rt := E.rt }) :
    S1 X (.Try body [.ExceptHandler (some (.Name x np)) (some n) (b₀ :: suite) pos'] [] [] pos) ρ W E := fun σ I H ok xk T k => by
  refine ⟨_, L2N.ps_try_as (Wout := fun _ _ _ _ => False) (tb := fun Wt D σ H => ∀ pn xe, L2N.Takes (X.tr pn xe) Wt → wS (X.tr pn xe) body D σ H) (ts := fun a cls d D σ H => ∀ oe pn, L2N.Zn cls d oe → (∃ vs, oe.data = .fields vs) → wS (X.suite a ((a, oe) :: pn)) (b₀ :: suite) D σ H) hs hf hN hi hln hc
    (fun _ _ ⟨_, _, _, _, _, _, _, _, _, _, _, _, _, _, _, _, w⟩ => w.elim) (fun Wt pn xe tk _ => ⟨fun pins s σ H D I h => ?_⟩) (fun a oe cls d pn hz hv => ⟨fun pins s σ H D I h => ?_⟩), ?_⟩
  · obtain ⟨t, ht, q⟩ := h pn xe tk
    exact ht.run pins s σ H D I q
  · obtain ⟨t, ht, q⟩ := h oe pn hz hv
    exact ht.run pins s σ H D I q
  · intro pn xe tk
    refine hbody pn xe σ I H ok ⟨H, takes_imp tk fun cls d σ' H' ln ⟨wc, e, sm⟩ => ?_, Same.refl H, fun a z => absurd z (nm a)⟩ T ⟨k.nx, k.rt, k.bk, k.ct⟩
    subst e
    refine ⟨true, hex cls wc, fun _ a ha oe pn2 hz hv => ?_, fun z => Bool.noConfusion z⟩
    have ln : σ'.length = X.N.length := ln
    have hil : i < X.N.length := (List.getElem?_eq_some_iff.mp hi).1
    have sl : ∀ j s, ((List.replicate X.N.length Sl.no).set i (.rw (.ref a)))[j]? = some s → (j = i ∧ s = .rw (.ref a)) ∨ s = .no := fun j s e => by
      by_cases ji : j = i
      · subst ji
        rw [List.getElem?_set_self (by rw [List.length_replicate]; exact hil)] at e
        exact .inl ⟨rfl, (Option.some.inj e).symm⟩
      · rw [List.getElem?_set_ne (fun z => ji z.symm), List.getElem?_replicate] at e
        split at e
        · exact .inr (Option.some.inj e).symm
        · cases e
    have nft : ∀ j, ft ((List.replicate X.N.length Sl.no).set i (.rw (.ref a))) j = [] := fun j => by
      unfold ft
      cases e : ((List.replicate X.N.length Sl.no).set i (.rw (.ref a)))[j]? with
      | none => rfl
      | some s =>
        rcases sl j s e with ⟨_, rfl⟩ | rfl <;> rfl
    have nmt : ∀ b, ¬ Mt ((List.replicate X.N.length Sl.no).set i (.rw (.ref a))) b := fun b ⟨j, h⟩ => by rw [nft j] at h; cases h
    have ok1 : EnvOk X.K I H' (σ'.set i (some (.ref a))) ((List.replicate X.N.length Sl.no).set i (.rw (.ref a))) := by
      refine ⟨by rw [List.length_set, List.length_set, List.length_replicate, ln], fun j s e => ?_, fun j => (by rw [nft j]; exact List.nodup_nil), fun j l b h1 _ => (by rw [nft j] at h1; cases h1), fun j b h => (by rw [nft j] at h; cases h), sub_same ok.sub sm⟩
      rcases sl j s e with ⟨rfl, rfl⟩ | rfl
      · rw [List.getElem?_set_self (by rw [ln]; exact hil)]
        rfl
      · trivial
    refine hsu a oe cls pn2 wc hz hv (σ'.set i (some (.ref a))) I H' ok1 .zero _ ⟨fun _ _ _ _ _ _ q => q.elim, fun v o d σ2 ρ2 I2 H2 ok2 st r q => ?_, fun _ _ _ _ _ _ q => q.elim, fun _ _ _ _ _ _ q => q.elim⟩
    have gr := st.grow nmt ok2.sub
    refine k.rt v o d σ2 ρ2 I2 H2 ok2 ⟨st.ii, fun b ob e n => st.oth b ob (sm b ob e) (nmt b), fun b ob e z n => st.fr b ob (sm b ob e) z (nmt b), fun b m => ?_, fun b ob e => st.al b ob (sm b ob e)⟩ ?_ q
    · rcases st.mm b m with z | z
      · exact absurd z (nmt b)
      · refine .inr ?_
        cases e : H b with
        | none => rfl
        | some ob => rw [sm b ob e] at z; cases z
    · cases o with
      | false => exact r
      | true =>
        obtain ⟨b, xs, ds, h1, h2, h3, h4⟩ := r
        refine ⟨b, xs, ds, h1, h2, .inl ?_, h4⟩
        have z := h3.elim id fun z => absurd z (nmt b)
        cases e : H b with
        | none => rfl
        | some ob => rw [sm b ob e] at z; cases z
end
end Tt

/-! [elt for a in xs for b in ys if c], all parts pure. -/
namespace Tt
open PySem PySem.Spec PyProof.Rows L2
theorem EnvOk.updDark {K : PySem.W.Frag} {I H : Hp} {σ : L2.St} {ρ : List Sl} {D : Addr} {o : HO} (ok : EnvOk K I H σ ρ) (nI : I D = none) (nm : ¬ Mt ρ D) : EnvOk K I (upd H D o) σ ρ := by
  refine ⟨ok.len, fun j s e => ?_, ok.nd, ok.dj, ok.out, fun a u e => ?_⟩
  · refine (ok.ok j s e).grow (Same.refl I) fun a u ha e2 => ?_
    rw [upd_ne]
    · exact e2
    · intro z
      subst z
      exact nm ⟨j, by rw [ft_at e]; exact ha⟩
  · rw [upd_ne (ne_of_none e nI)]
    exact ok.sub a u e
theorem flat_len {α β : Type} (g : α → List β) (b : Nat) : ∀ xs : List α, (∀ a ∈ xs, (g a).length ≤ b) → (xs.flatMap g).length ≤ xs.length * b
  | [], _ => by simp
  | x :: xs, h => by
    rw [List.flatMap_cons, List.length_append, List.length_cons, Nat.succ_mul]
    have h1 := h x List.mem_cons_self
    have h2 := flat_len g b xs fun a m => h a (List.mem_cons_of_mem _ m)
    omega
def wIb (X : Cx) (scope : Scope) (tg iter : Expr) : TI := fun σ H R => ∀ s H0 C cl fp, wI (bk X scope s H0 C cl fp) tg iter σ H R
theorem pi_wb {X : Cx} {scope : Scope} {tg iter : Expr} (s : Shared) (H0 : Hp) (C : Addr) (cl : List (Str × Addr)) (fp : List Addr) : PI (bk X scope s H0 C cl fp) tg iter (wIb X scope tg iter) :=
  ⟨fun pins s1 σ H R I h => by
    obtain ⟨t, ht, q⟩ := h s H0 C cl fp
    exact ht.run pins s1 σ H R I q⟩
section
variable {X : Cx} {m : Bool} {ρ : List Sl} {W : Wx} {elt tg iter tg1 iter1 : Expr} {ifs1 : List Expr} {scope : Scope} {pos : Pos} {Q : Bool → D → List Sl → Prop}
def HFm2 (X : Cx) (elt tg iter tg1 iter1 : Expr) (ifs1 : List Expr) (scope : Scope) (t t1 : Tg) (vs vs1 : List Nat) (ρ : List Sl) (W : Wx) (Q : List D → Prop) : Prop :=
  IM true X tg iter ρ W fun its _ => ∃ (α : Type) (xs : List α) (enc : α → D) (g : α → List D), its = xs.map enc ∧ ∃ b : Nat, xs.length * b ≤ 1000000 ∧ b ≤ 1000000 ∧ (∀ a ∈ xs, (g a).length ≤ b ∧ ∃ ρ3, Tg.put t (enc a) (wipeS ρ vs) = some ρ3 ∧ InB X scope fun Y => IM true Y tg1 iter1 ρ3 W0 fun its1 _ => ∃ (β : Type) (ys : List β) (enc1 : β → D) (p : β → Bool) (g1 : β → D), its1 = ys.map enc1 ∧ (∀ b ∈ ys, ∃ ρ4, Tg.put t1 (enc1 b) (wipeS ρ3 vs1) = some ρ4 ∧ InB X scope fun Z => SM true Z ifs1 ρ4 (fun k _ => k = p b) ∧ (p b = true → EM true Z elt ρ4 W0 fun _ y _ => nd y = true ∧ y = g1 b)) ∧ g a = (ys.filter p).map g1) ∧ Q (xs.flatMap g)
theorem lc2_pure {t t1 : Tg} {own : List (Str × Nat)} {vs1 : List Nat} {QL : List D → Prop} (ht : ∀ i ∈ Tg.slots t, i ∈ own.map (·.2)) (ht1 : ∀ i ∈ Tg.slots t1, i ∈ vs1) (h : HFm2 X elt tg iter tg1 iter1 ifs1 scope t t1 (own.map (·.2)) vs1 ρ W QL) {σ : L2.St} {I H : Hp} (ok : EnvOk X.K I H σ ρ) (xk : XOk X W H ρ) {R : VK}
    (f : ∀ v ds I' H', Go true X.K σ ρ I H ρ I' H' → RsOk X.K H I' H' v true (.list ds) → QL ds → R v H') : tLc2 (wI X tg iter) (Tg.g X.K t) (wTsb X scope []) (wIb X scope tg1 iter1) (Tg.g X.K t1) (wTsb X scope ifs1) (wEb X scope elt) (own.map (·.2)) vs1 σ H R := by
  refine h σ I H ok xk _ fun J its ρ1 I1 H1 g1 w ⟨α, xs, enc, g, e, bb, lz, lb, turn, q⟩ D nD => ?_
  obtain rfl : ρ1 = ρ := g1.1
  have ok1 := g1.env ok
  have nI1 : I1 D = none := ok1.sub.nn nD
  have hn : its.length = xs.length := by rw [e, List.length_map]
  have ww := w.w
  rw [hn] at ww
  refine ⟨fun i m H' => m = xs.length - i ∧ i ≤ xs.length ∧ ∃ I2 acc, Go true X.K σ ρ1 I1 H1 ρ1 I2 H' ∧ I2 D = none ∧ H' D = some (.lst acc) ∧ DqAll I2 acc ((xs.take i).flatMap g), ⟨xs.length, by simp, Nat.zero_le _, I1, [], (Go.refl ok1).dark ok1 nD nI1, nI1, upd_same, .nil⟩, ?_⟩
  rintro i m H' ⟨rfl, hi, I2, acc, go, nd2, hD, ha⟩
  have ok2 := go.env ok1
  by_cases hlt : ¬ i < xs.length
  · have ei : i = xs.length := by omega
    subst ei
    rw [List.take_length] at ha
    exact .inl ⟨ww.stops H' (ok2.sub.same go.ii), f _ _ I2 H' (g1.trans go) ⟨D, acc, _, rfl, rfl, g1.nn D nD, nd2, hD, ha⟩ q⟩
  replace hlt := Decidable.not_not.mp hlt
  refine .inr ⟨ww.goes i H' hlt (ok2.sub.same go.ii), fun H'' => i + 1 ≤ xs.length ∧ ∃ I2 acc, Go true X.K σ ρ1 I1 H1 ρ1 I2 H'' ∧ I2 D = none ∧ H'' D = some (.lst acc) ∧ DqAll I2 acc ((xs.take (i + 1)).flatMap g), fun H'' p' => ⟨xs.length - (i + 1), by omega, rfl, hlt, p'.2⟩, fun x H'' y => ?_⟩
  obtain ⟨d, hd, y⟩ := ww.yields i H' x H'' hlt (ok2.sub.same go.ii) y
  obtain ⟨I3, g3, r3⟩ := y I2 go.ii ok2.sub
  obtain ⟨a, hxa⟩ : ∃ a, xs[i]? = some a := ⟨_, List.getElem?_eq_getElem hlt⟩
  rw [e, List.getElem?_map, hxa] at hd
  cases hd
  obtain ⟨lga, ρ3, e3, body⟩ := turn a (List.mem_of_getElem? hxa)
  have ok3 := ok2.grow g3
  obtain ⟨σ3, p3, q3⟩ := Tg.run t (EnvOk.wiped (vs := own.map (·.2)) ok3) r3 e3
  have gg := go.grow ok1 g3
  have hD3 : H'' D = some (.lst acc) := g3.hh D _ hD
  have nd3 : I3 D = none := g3.fr D _ hD nd2
  have nm : ¬ Mt ρ3 D := fun z => by
    obtain ⟨j, hj⟩ := p3.mt D z
    obtain ⟨o, e⟩ := ok1.there (⟨j, (ft_wipe hj).1⟩)
    rw [nD] at e
    cases e
  have tk : (xs.take (i + 1)).flatMap g = (xs.take i).flatMap g ++ g a := by
    rw [List.take_add_one, hxa, List.flatMap_append]
    simp
  have lpre : ((xs.take i).flatMap g).length ≤ 1000000 := by
    have := flat_len g bb (xs.take i) fun a m => (turn a (List.mem_of_mem_take m)).1
    rw [List.length_take] at this
    have h2 : min i xs.length * bb ≤ xs.length * bb := Nat.mul_le_mul_right bb (by omega)
    omega
  refine q3 _ ⟨wipe_put p3 ht, fun s0 H0 C cl fp => ?_⟩
  refine sm_run (show SM true (bk X scope s0 H0 C cl fp) [] ρ3 (fun b _ => b = true) from rfl) p3.env fun b ρ4 I4 H4 g4 eb => ?_
  subst eb
  obtain rfl : ρ4 = ρ3 := g4.1
  refine iteT fun s1 H1' C1 cl1 fp1 => ?_
  refine body s1 H1' C1 cl1 fp1 σ3 I4 H4 (g4.env p3.env) XOk.zero _ fun J1 its1 ρ5 I5 H5 g5 w1 ⟨β, ys, enc1, p, g1', e1, turn1, eg⟩ => ?_
  obtain rfl : ρ5 = ρ4 := g5.1
  have g45 := g4.trans g5
  have ok5 := g45.env p3.env
  have hD5 : H5 D = some (.lst acc) := g45.2.hh D _ hD3
  have nd5 : I5 D = none := g45.2.fr D _ hD3 nd3
  have gG := gg.grow ok1 g45.2
  have ha5 := DqAll.same (g3.ii.trans g45.ii) ha
  have hn1 : its1.length = ys.length := by rw [e1, List.length_map]
  have ww1 := w1.w
  rw [hn1] at ww1
  have lflt : ∀ j, (((ys.take j).filter p).map g1').length ≤ 1000000 := fun j => by
    rw [List.length_map]
    have h1 : ((ys.take j).filter p).length ≤ (ys.filter p).length := ((List.take_sublist j ys).filter p).length_le
    have h2 : (ys.filter p).length ≤ 1000000 := by
      have := lga
      rw [eg, List.length_map] at this
      omega
    omega
  refine ⟨fun j k H6 => k = ys.length - j ∧ j ≤ ys.length ∧ ∃ I6 acc6, EnvOk X.K I6 H6 σ3 ρ5 ∧ Go true X.K σ ρ1 I1 H1 ρ1 I6 H6 ∧ Same I5 I6 ∧ I6 D = none ∧ H6 D = some (.lst acc6) ∧ DqAll I6 acc6 ((xs.take i).flatMap g ++ ((ys.take j).filter p).map g1'), ⟨ys.length, by simp, Nat.zero_le _, I5, acc, ok5, gG, Same.refl I5, nd5, hD5, by simpa using ha5⟩, ?_⟩
  rintro j k H6 ⟨rfl, hj, I6, acc6, ok6, go6, sm6, nd6, hD6, ha6⟩
  by_cases hlt1 : ¬ j < ys.length
  · have ej : j = ys.length := by omega
    subst ej
    rw [List.take_length, ← eg, ← tk] at ha6
    exact .inl ⟨ww1.stops H6 (ok6.sub.same sm6), by omega, I6, acc6, go6, nd6, hD6, ha6⟩
  replace hlt1 := Decidable.not_not.mp hlt1
  refine .inr ⟨ww1.goes j H6 hlt1 (ok6.sub.same sm6), fun H7 => ∃ I6 acc6, EnvOk X.K I6 H7 σ3 ρ5 ∧ Go true X.K σ ρ1 I1 H1 ρ1 I6 H7 ∧ Same I5 I6 ∧ I6 D = none ∧ H7 D = some (.lst acc6) ∧ DqAll I6 acc6 ((xs.take i).flatMap g ++ ((ys.take (j + 1)).filter p).map g1'), fun H7 p' => ⟨ys.length - (j + 1), by omega, rfl, hlt1, p'⟩, fun x1 H7 y1 => ?_⟩
  obtain ⟨d1, hd1, y1⟩ := ww1.yields j H6 x1 H7 hlt1 (ok6.sub.same sm6) y1
  obtain ⟨I7, g7, r7⟩ := y1 I6 sm6 ok6.sub
  obtain ⟨b, hyb⟩ : ∃ b, ys[j]? = some b := ⟨_, List.getElem?_eq_getElem hlt1⟩
  rw [e1, List.getElem?_map, hyb] at hd1
  cases hd1
  obtain ⟨ρ6, e4, body1⟩ := turn1 b (List.mem_of_getElem? hyb)
  have ok7 := ok6.grow g7
  obtain ⟨σ4, p4, q4⟩ := Tg.run t1 (EnvOk.wiped (vs := vs1) ok7) r7 e4
  have tk1 : ((ys.take (j + 1)).filter p).map g1' = ((ys.take j).filter p).map g1' ++ if p b = true then [g1' b] else [] := by
    rw [List.take_add_one, hyb, List.filter_append, List.map_append]
    congr 1
    show (List.filter p [b]).map g1' = _
    rw [List.filter_cons]
    cases p b <;> rfl
  refine q4 _ ⟨wipe_put p4 ht1, fun s0 H0 C cl fp => ?_⟩
  have b1 := (body1 s0 H0 C cl fp).1
  refine sm_run (show SM true (bk X scope s0 H0 C cl fp) ifs1 ρ6 (fun k _ => k = p b) from b1) p4.env fun kb ρ7 I8 H8 g8 ek => ?_
  obtain rfl : ρ7 = ρ6 := g8.1
  have g78 := g7.trans g8.2
  have go8 := go6.grow ok1 g78
  have ok8 := ok6.grow g78
  have hD8 : H8 D = some (.lst acc6) := g78.hh D _ hD6
  have nd8 : I8 D = none := g78.fr D _ hD6 nd6
  have ha8 := DqAll.same g78.ii ha6
  have sm8 : Same I5 I8 := sm6.trans g78.ii
  cases kb with
  | false =>
    refine iteF ⟨I8, acc6, ok8, go8, sm8, nd8, hD8, ?_⟩
    rw [tk1, ← ek, if_neg Bool.false_ne_true, List.append_nil]
    exact ha8
  | true =>
    refine iteT fun s2 H2' C2 cl2 fp2 => ?_
    refine EM.run ((body1 s2 H2' C2 cl2 fp2).2 ek.symm) (g8.env p4.env) XOk.zero fun v o yy ρ8 I9 H9 g9 r9 ⟨ny, ey⟩ => ?_
    obtain rfl : ρ8 = ρ7 := g9.1
    have g89 := g78.trans g9.2
    have go9 := go6.grow ok1 g89
    have ok9 := ok6.grow g89
    have hD9 : H9 D = some (.lst acc6) := g89.hh D _ hD6
    have nd9 : I9 D = none := g89.fr D _ hD6 nd6
    have ha9 := DqAll.same g89.ii ha6
    refine ⟨acc6, hD9, ?_, I9, acc6 ++ [v], ok9.updDark nd9 nm, go9.dark ok1 nD nd9, sm6.trans g89.ii, nd9, upd_same, ?_⟩
    · rw [ha9.len, List.length_append]
      have := lflt j
      have := sizeLine_eq
      omega
    · rw [tk1, ← ek, if_pos rfl, ← List.append_assoc]
      exact DqAll.app ha9 (.cons (by rw [← ey]; exact r9.dp ny) .nil)
theorem em_fm2 (t t1 : Tg) (own : List (Str × Nat)) (vs1 : List Nat) (hc : X.calm = true) (hN : X.N.Nodup) (ok : BlkOk X.N X.env.scope scope own) (hv : ∀ i ∈ vs1, i ∈ own.map (·.2)) (hg : InB X scope fun Y => PG Y tg (Tg.g X.K t)) (hg1 : InB X scope fun Y => PG Y tg1 (Tg.g X.K t1)) (ht : ∀ i ∈ Tg.slots t, i ∈ own.map (·.2)) (ht1 : ∀ i ∈ Tg.slots t1, i ∈ vs1)
    (h : HFm2 X elt tg iter tg1 iter1 ifs1 scope t t1 (own.map (·.2)) vs1 ρ W fun ys => Q true (.list ys) ρ) (hs : ∀ x, foldedSetIterable iter X.env x = pure x := by intro _; rfl) (hs1 : ∀ env x, foldedSetIterable iter1 env x = pure x := by intro _ _; rfl) : EM m X (.ListComp elt [⟨tg, iter, [], 0⟩, ⟨tg1, iter1, ifs1, 0⟩] scope pos) ρ W Q := fun σ I H okk xk R f =>
  ⟨_, pe_lc2 hc hN pi_w ok hv (fun s H C cl fp => hg s H C cl fp) pts_wb pi_wb (fun s H C cl fp => hg1 s H C cl fp) pts_wb pe_wb hs hs1, lc2_pure ht ht1 h okk xk fun v ds I' H' g r q => f v true _ ρ I' H' (g.any okk) r q⟩
end
end Tt

/-! list(zip(s, t)) of two tuples. -/
namespace PySem.W
open PySem PyProof PySem.Spec PyProof.Rows L2 HT RZ
section
variable {prog : Program} {w : World} {A : Around} {E : Value → Shared → Prop} {s : Shared}
theorem zipT_item_held {z TI TO T i1 i2 l1 l2 : Addr} {f : Bool} {oT : Obj} {k1 k2 : Nat} {xs ys : Array Value} {x y : Value} {Q : Value → Shared → Prop} (D : ZipApart z TI TO i1 i2 l1 l2) (hz : IsZipHeld s.heap z TI TO T f) (hT : s.heap.get? T = some oT) (hTI : IsPair s.heap TI (.ref i1) (.ref i2))
    (h1 : s.heap.IsTupleIter i1 l1 k1) (h2 : s.heap.IsTupleIter i2 l2 k2) (hl1 : s.heap.IsTuple l1 xs) (hl2 : s.heap.IsTuple l2 ys) (hx : xs[k1]? = some x) (hy : ys[k2]? = some y)
    (hQ : ∀ h', IsZipHeld h' z TI TO T true → h'.IsTupleIter i1 l1 (k1 + 1) → h'.IsTupleIter i2 l2 (k2 + 1) → IsPair h' s.heap.objs.size x y → h'.objs.size = s.heap.objs.size + 1 → (∀ c o, c ≠ z → c ≠ i1 → c ≠ i2 → s.heap.get? c = some o → h'.get? c = some o) → Q (.ref s.heap.objs.size) { s with heap := h' }) :
    wpAny (model prog w) A (Builtin.«zip.__next__» ⟨[.ref z], []⟩) (fun fin s' => ∃ v, fin = .done (.ret v) ∧ Q v s') E s := by
  show wpAny _ _ (field (.ref z) 2 >>= _) _ _ _
  refine wpAny_bind (wpAny_field hz rfl (x := .bool false) rfl ?_)
  show wpAny _ _ (field (.ref z) 3 >>= _) _ _ _
  refine wpAny_bind (wpAny_field hz rfl (x := .ref TI) rfl (wpAny_bind (wpAny_seqItems hTI rfl ?_)))
  show wpAny _ _ (Builtin.SmallTypes.ownedTupleIsFree (.ref z) >>= _) _ _ _
  refine wpAny_bind (wpAny_tupleHeld_zip hz hT fun h₁ hz₁ hs₁ => ?_)
  simp only [Bool.false_eq_true, if_false]
  refine wpAny_bind ?_
  rw [← Array.forIn_toList]
  simp only [List.forIn_cons, List.forIn_nil]
  refine wpAny_bind (wpAny_bind (wpAny_holding ?_))
  show wpAny _ _ (Builtin.SmallTypes.nextOf (.ref i1) >>= _) _ _ _
  refine wpAny_bind (nextOf_tuple_item (s := { s with heap := h₁ }) (h1.extBut hs₁.extBut D.i1z) (hl1.extBut hs₁.extBut D.l1z) hx fun h₂ h1₂ hs₂ => wpAny_pure ?_)
  refine wpAny_pure (wpAny_bind (wpAny_bind (wpAny_holding ?_)))
  show wpAny _ _ (Builtin.SmallTypes.nextOf (.ref i2) >>= _) _ _ _
  refine wpAny_bind (nextOf_tuple_item (s := { s with heap := h₂ }) ((h2.extBut hs₁.extBut D.i2z).extBut hs₂.extBut D.i12.symm) ((hl2.extBut hs₁.extBut D.l2z).extBut hs₂.extBut D.l2i1) hy fun h₃ h2₃ hs₃ => wpAny_pure ?_)
  refine wpAny_pure (wpAny_pure ?_)
  show wpAny _ _ (newTuple [x, y] >>= _) _ _ _
  refine wpAny_bind (wpAny_newTuple ?_)
  have hsz : h₃.objs.size = s.heap.objs.size := by rw [hs₃.1, hs₂.1, hs₁.1]
  have hz₃ : IsZipHeld h₃ z TI TO T true := hs₃.extBut _ _ D.i2z.symm (hs₂.extBut _ _ D.i1z.symm hz₁)
  have hk : ∀ c o, c ≠ z → c ≠ i1 → c ≠ i2 → s.heap.get? c = some o → h₃.get? c = some o := fun c o c1 c2 c3 e => hs₃.extBut _ _ c3 (hs₂.extBut _ _ c2 (hs₁.extBut _ _ c1 e))
  have h1₃ : h₃.IsTupleIter i1 l1 (k1 + 1) := h1₂.extBut hs₃.extBut D.i12
  refine wpAny_pure ⟨_, rfl, ?_⟩
  show Q (.ref h₃.objs.size) _
  have hp : IsPair (h₃.push { cls := .type "tuple", data := .seq #[x, y] }) h₃.objs.size x y := Heap.get?_push_size _ rfl
  have hz4 : (h₃.push { cls := .type "tuple", data := .seq #[x, y] }).objs.size = h₃.objs.size + 1 := Heap.size_push ..
  rw [hsz] at hp hz4 ⊢
  exact hQ _ (Heap.get?_push_of_some _ hz₃) (h1₃.at fun o e => Heap.get?_push_of_some _ e) (h2₃.at fun o e => Heap.get?_push_of_some _ e) hp hz4 fun c o c1 c2 c3 e => Heap.get?_push_of_some _ (hk c o c1 c2 c3 e)
theorem zipT_end_held {z TI TO T i1 i2 l1 l2 : Addr} {f : Bool} {oT : Obj} {k1 k2 : Nat} {xs ys : Array Value} {Q : Fin → Shared → Prop} (hh : A.handled = none) (D : ZipApart z TI TO i1 i2 l1 l2) (hz : IsZipHeld s.heap z TI TO T f) (hT : s.heap.get? T = some oT) (hTI : IsPair s.heap TI (.ref i1) (.ref i2))
    (h1 : s.heap.IsTupleIter i1 l1 k1) (h2 : s.heap.IsTupleIter i2 l2 k2) (hl1 : s.heap.IsTuple l1 xs) (hl2 : s.heap.IsTuple l2 ys) (hend : xs[k1]? = none ∨ ys[k2]? = none)
    (hE : ∀ h' e, (∀ c o, c ≠ z → c ≠ i1 → c ≠ i2 → s.heap.get? c = some o → h'.get? c = some o) → (∃ o, h'.get? e = some o ∧ o.cls = .type "StopIteration") → E (.ref e) { s with heap := h' }) : wpAny (model prog w) A (Builtin.«zip.__next__» ⟨[.ref z], []⟩) Q E s := by
  show wpAny _ _ (field (.ref z) 2 >>= _) _ _ _
  refine wpAny_bind (wpAny_field hz rfl (x := .bool false) rfl ?_)
  show wpAny _ _ (field (.ref z) 3 >>= _) _ _ _
  refine wpAny_bind (wpAny_field hz rfl (x := .ref TI) rfl (wpAny_bind (wpAny_seqItems hTI rfl ?_)))
  show wpAny _ _ (Builtin.SmallTypes.ownedTupleIsFree (.ref z) >>= _) _ _ _
  refine wpAny_bind (wpAny_tupleHeld_zip hz hT fun h₁ hz₁ hs₁ => ?_)
  simp only [Bool.false_eq_true, if_false]
  refine wpAny_bind ?_
  rw [← Array.forIn_toList]
  simp only [List.forIn_cons, List.forIn_nil]
  refine wpAny_bind (wpAny_bind (wpAny_holding ?_))
  show wpAny _ _ (Builtin.SmallTypes.nextOf (.ref i1) >>= _) _ _ _
  cases hx : xs[k1]? with
  | none =>
    refine wpAny_bind (nextOf_tuple_end (s := { s with heap := h₁ }) hh (h1.extBut hs₁.extBut D.i1z) (hl1.extBut hs₁.extBut D.l1z) hx fun h₂ e hs₂ he => ?_)
    exact hE h₂ e (fun c o c1 c2 _ x => hs₂ _ _ c2 (hs₁.extBut _ _ c1 x)) he
  | some x =>
    have hy : ys[k2]? = none := by rcases hend with h | h; rw [hx] at h; cases h; exact h
    refine wpAny_bind (nextOf_tuple_item (s := { s with heap := h₁ }) (h1.extBut hs₁.extBut D.i1z) (hl1.extBut hs₁.extBut D.l1z) hx fun h₂ h1₂ hs₂ => wpAny_pure ?_)
    refine wpAny_pure (wpAny_bind (wpAny_bind (wpAny_holding ?_)))
    show wpAny _ _ (Builtin.SmallTypes.nextOf (.ref i2) >>= _) _ _ _
    refine wpAny_bind (nextOf_tuple_end (s := { s with heap := h₂ }) hh ((h2.extBut hs₁.extBut D.i2z).extBut hs₂.extBut D.i12.symm) ((hl2.extBut hs₁.extBut D.l2z).extBut hs₂.extBut D.l2i1) hy fun h₃ e hs₃ he => ?_)
    exact hE h₃ e (fun c o c1 c2 c3 x => hs₃ _ _ c3 (hs₂.extBut _ _ c2 (hs₁.extBut _ _ c1 x))) he
/-- the zip stands at i -/
structure ZAt (z TI TO i1 i2 l1 l2 : Addr) (xs ys : Array Value) (i : Nat) (h : Heap) : Prop where
  out : IsZip h z TI TO .none ∨ ∃ T f oT, IsZipHeld h z TI TO T f ∧ h.get? T = some oT
  TI_ : IsPair h TI (.ref i1) (.ref i2)
  TO_ : ∃ a b, IsPair h TO a b
  i1_ : h.IsTupleIter i1 l1 i
  i2_ : h.IsTupleIter i2 l2 i
  l1_ : h.IsTuple l1 xs
  l2_ : h.IsTuple l2 ys
theorem zat_next {z TI TO i1 i2 l1 l2 : Addr} {xs ys : Array Value} {i : Nat} {x y : Value} {Q : Option Value → Shared → Prop} (D : ZipApart z TI TO i1 i2 l1 l2) (st : ZAt z TI TO i1 i2 l1 l2 xs ys i s.heap) (hx : xs[i]? = some x) (hy : ys[i]? = some y)
    (hQ : ∀ h', ZAt z TI TO i1 i2 l1 l2 xs ys (i + 1) h' → IsPair h' s.heap.objs.size x y → h'.objs.size = s.heap.objs.size + 1 → (∀ c o, c ≠ z → c ≠ TO → c ≠ i1 → c ≠ i2 → s.heap.get? c = some o → h'.get? c = some o) → Q (some (.ref s.heap.objs.size)) { s with heap := h' }) : wpAny (model prog w) A (pyNext (.ref z)) Q E s := by
  obtain ⟨a, b, hTO⟩ := st.TO_
  rcases st.out with hz | ⟨T, f, oT, hz, hT⟩
  · have hTy : s.TypeIs (.ref z) "zip" := ⟨_, hz, rfl⟩
    refine pyNext_zipT_item D hz st.TI_ hTO st.i1_ st.i2_ st.l1_ st.l2_ hx hy fun h' a1 a2 a3 a4 a5 a6 a7 => hQ h' ⟨.inr ⟨_, false, _, a1, a5⟩, a7 _ _ D.TIz D.TITO D.TIi1 D.TIi2 st.TI_, ⟨_, _, a2⟩, a3, a4, st.l1_.at fun o e => a7 _ o D.l1z D.l1TO D.l1i1 D.l1i2 e, st.l2_.at fun o e => a7 _ o D.l2z D.l2TO D.l2i1 D.l2i2 e⟩ a5 a6 a7
  · have hTy : s.TypeIs (.ref z) "zip" := ⟨_, hz, rfl⟩
    unfold pyNext
    refine wpAny_bind (wpAny_attempt (wpAny_callSpecial?_slot (name := Str.ofString "__next__") hTy F.slot_zip_next (wpAny_call_entry F.slot_zip_next hTy F.entry_zip_next (zipT_item_held D hz hT st.TI_ st.i1_ st.i2_ st.l1_ st.l2_ hx hy fun h' a1 a3 a4 a5 a6 a7 => wpAny_pure ?_) (F.args_zip_next_1 _))))
    refine hQ h' ⟨.inr ?_, a7 _ _ D.TIz D.TIi1 D.TIi2 st.TI_, ⟨a, b, a7 _ _ D.TOz D.TOi1 D.TOi2 hTO⟩, a3, a4, st.l1_.at fun o e => a7 _ o D.l1z D.l1i1 D.l1i2 e, st.l2_.at fun o e => a7 _ o D.l2z D.l2i1 D.l2i2 e⟩ a5 a6 fun c o c1 _ c3 c4 e => a7 c o c1 c3 c4 e
    by_cases c1 : T = z
    · exact ⟨T, true, _, a1, by rw [c1]; exact a1⟩
    · by_cases c2 : T = i1
      · obtain ⟨o, ho, _⟩ := a3
        exact ⟨T, true, o, a1, by rw [c2]; exact ho⟩
      · by_cases c3 : T = i2
        · obtain ⟨o, ho, _⟩ := a4
          exact ⟨T, true, o, a1, by rw [c3]; exact ho⟩
        · exact ⟨T, true, oT, a1, a7 T oT c1 c2 c3 hT⟩
theorem zat_end {z TI TO i1 i2 l1 l2 : Addr} {xs ys : Array Value} {i : Nat} {Q : Option Value → Shared → Prop} (hh : A.handled = none) (D : ZipApart z TI TO i1 i2 l1 l2) (st : ZAt z TI TO i1 i2 l1 l2 xs ys i s.heap) (hend : xs[i]? = none ∨ ys[i]? = none)
    (hQ : ∀ h', (∀ c o, c ≠ z → c ≠ TO → c ≠ i1 → c ≠ i2 → s.heap.get? c = some o → h'.get? c = some o) → Q none { s with heap := h' }) : wpAny (model prog w) A (pyNext (.ref z)) Q E s := by
  obtain ⟨a, b, hTO⟩ := st.TO_
  rcases st.out with hz | ⟨T, f, oT, hz, hT⟩
  · exact pyNext_zipT_end hh D hz st.TI_ hTO st.i1_ st.i2_ st.l1_ st.l2_ hend hQ
  · have hTy : s.TypeIs (.ref z) "zip" := ⟨_, hz, rfl⟩
    unfold pyNext
    refine wpAny_bind (wpAny_attempt (wpAny_callSpecial?_slot (name := Str.ofString "__next__") hTy F.slot_zip_next (wpAny_call_entry F.slot_zip_next hTy F.entry_zip_next (zipT_end_held hh D hz hT st.TI_ st.i1_ st.i2_ st.l1_ st.l2_ hend fun h' e hk he => ?_) (F.args_zip_next_1 _))))
    obtain ⟨o, ho, hc⟩ := he
    refine wpAny_bind (wpAny_isInstance (T := "StopIteration") (b := true) ⟨o, ho, hc⟩ isSubtype_stop ?_)
    exact wpAny_pure (hQ _ fun c o c1 _ c3 c4 e => hk c o c1 c3 c4 e)
end
structure PairsOf (xs ys : Array Value) (lo : Addr) (h : Heap) (as : List Addr) : Prop where
  rise : as.Pairwise (· < ·)
  above : ∀ a ∈ as, lo ≤ a
  pairs : ∀ (j : Nat) (a : Addr), as[j]? = some a → ∃ x y, xs[j]? = some x ∧ ys[j]? = some y ∧ h.get? a = some { cls := .type "tuple", data := .seq #[x, y] }
theorem PairsOf.keep {xs ys : Array Value} {lo : Addr} {h h' : Heap} {as : List Addr} (g : PairsOf xs ys lo h as) (k : ∀ b o, lo ≤ b → h.get? b = some o → h'.get? b = some o) : PairsOf xs ys lo h' as :=
  ⟨g.rise, g.above, fun j a hj => by
    obtain ⟨x, y, e1, e2, e3⟩ := g.pairs j a hj
    exact ⟨x, y, e1, e2, k a _ (g.above a (List.mem_of_getElem? hj)) e3⟩⟩
theorem PairsOf.there {xs ys : Array Value} {lo : Addr} {h : Heap} {as : List Addr} (g : PairsOf xs ys lo h as) {a : Addr} (ha : a ∈ as) : a < h.objs.size := by
  obtain ⟨j, hj⟩ := List.mem_iff_getElem?.mp ha
  obtain ⟨_, _, _, _, e⟩ := g.pairs j a hj
  exact Heap.lt_size e
section
variable {prog : Program} {w : World} {A : Around} {s : Shared} {R : Result → Shared → Prop}
theorem ZAt.keep {z TI TO i1 i2 l1 l2 : Addr} {xs ys : Array Value} {i : Nat} {h h' : Heap} {S : Addr} (st : ZAt z TI TO i1 i2 l1 l2 xs ys i h) (k : ∀ b o, b ≠ S → h.get? b = some o → h'.get? b = some o) (kS : ∃ o, h'.get? S = some o) (s1 : S ≠ z) (s2 : S ≠ TI) (s3 : S ≠ TO) (s4 : S ≠ i1) (s5 : S ≠ i2) (s6 : S ≠ l1) (s7 : S ≠ l2) : ZAt z TI TO i1 i2 l1 l2 xs ys i h' := by
  obtain ⟨a, b, hTO⟩ := st.TO_
  refine ⟨?_, k _ _ s2.symm st.TI_, ⟨a, b, k _ _ s3.symm hTO⟩, st.i1_.at fun o e => k _ o s4.symm e, st.i2_.at fun o e => k _ o s5.symm e, st.l1_.at fun o e => k _ o s6.symm e, st.l2_.at fun o e => k _ o s7.symm e⟩
  rcases st.out with hz | ⟨T, f, oT, hz, hT⟩
  · exact .inl (k _ _ s1.symm hz)
  · by_cases c : T = S
    · obtain ⟨o, ho⟩ := kS
      exact .inr ⟨T, f, o, k _ _ s1.symm hz, by rw [c]; exact ho⟩
    · exact .inr ⟨T, f, oT, k _ _ s1.symm hz, k _ _ c hT⟩
theorem loopZ {S z TI TO i1 i2 l1 l2 lo : Addr} {xs ys : Array Value} {n : Nat} (hh : A.handled = none) (D : ZipApart z TI TO i1 i2 l1 l2) (s1 : S ≠ z) (s2 : S ≠ TI) (s3 : S ≠ TO) (s4 : S ≠ i1) (s5 : S ≠ i2) (s6 : S ≠ l1) (s7 : S ≠ l2) (b1 : z < lo) (b2 : TO < lo) (b3 : i1 < lo) (b4 : i2 < lo) (b5 : S < lo) (hn : n = min xs.size ys.size) (hsz : n ≤ sizeLine) (res : Value) {h₁ : Heap}
    (hR : ∀ h' tk acc c as, (∀ b o, b ≠ S → b ≠ z → b ≠ TO → b ≠ i1 → b ≠ i2 → h₁.get? b = some o → h'.get? b = some o) → h'.get? S = some { cls := .type "list", dict := none, data := .seq acc c, slots := #[] } → as.length = n → PairsOf xs ys lo h' as → acc.toList = as.map Value.ref → R (.ok (.ret res)) { s with heap := h', toks := tk }) :
    ∀ (k i : Nat) (h : Heap) (tk c : Nat) (acc : Array Value) (as : List Addr), n - i = k → i ≤ n → ZAt z TI TO i1 i2 l1 l2 xs ys i h → (∀ b o, b ≠ S → b ≠ z → b ≠ TO → b ≠ i1 → b ≠ i2 → h₁.get? b = some o → h.get? b = some o) →
      h.get? S = some { cls := .type "list", dict := none, data := .seq acc c, slots := #[] } → acc.toList = as.map Value.ref → as.length = i → PairsOf xs ys lo h as → lo ≤ h.objs.size → codeAny (model prog w) A (.builtin "list.extend.loop" ⟨[.ref S, .ref z, res], []⟩) R { s with heap := h, toks := tk } := by
  intro k
  induction k with
  | zero =>
    intro i h tk c acc as hk hi st hkeep hS hacc hal hG hlo
    refine codeAny_builtin PySem.F.entry_extend_loop ?_
    rw [Around.under_plainId PySem.F.plain_extend_loop _]
    show wpAny _ A.in1 (pyNext (.ref z) >>= _) _ _ _
    have hend : xs[i]? = none ∨ ys[i]? = none := by
      rcases Nat.le_total xs.size ys.size with q | q
      · exact .inl (Array.getElem?_eq_none (by omega))
      · exact .inr (Array.getElem?_eq_none (by omega))
    refine wpAny_bind (zat_end (s := { s with heap := h, toks := tk }) (A := A.in1) hh D st hend fun h' he => ?_)
    exact wpAny_pure (hR h' tk acc c as (fun b o h0 h1 h2 h3 h4 e => he b o h1 h2 h3 h4 (hkeep b o h0 h1 h2 h3 h4 e)) (he S _ s1 s3 s4 s5 hS) (by omega) (hG.keep fun b o hb e => he b o (Nat.ne_of_gt (Nat.lt_of_lt_of_le b1 hb)) (Nat.ne_of_gt (Nat.lt_of_lt_of_le b2 hb)) (Nat.ne_of_gt (Nat.lt_of_lt_of_le b3 hb)) (Nat.ne_of_gt (Nat.lt_of_lt_of_le b4 hb)) e) hacc)
  | succ k ih =>
    intro i h tk c acc as hk hi st hkeep hS hacc hal hG hlo
    have hlt : i < n := by omega
    have sz : acc.size = i := by rw [← Array.length_toList, hacc, List.length_map, hal]
    obtain ⟨x, hx⟩ : ∃ x, xs[i]? = some x := ⟨_, Array.getElem?_eq_getElem (by omega)⟩
    obtain ⟨y, hy⟩ : ∃ y, ys[i]? = some y := ⟨_, Array.getElem?_eq_getElem (by omega)⟩
    refine codeAny_builtin PySem.F.entry_extend_loop ?_
    rw [Around.under_plainId PySem.F.plain_extend_loop _]
    show wpAny _ A.in1 (pyNext (.ref z) >>= _) _ _ _
    refine wpAny_bind (zat_next (s := { s with heap := h, toks := tk }) (A := A.in1) D st hx hy fun h' st' ht hz hkp => ?_)
    dsimp only at ht hz hkp ⊢
    have hS' := hkp S _ s1 s3 s4 s5 hS
    have up : ∀ b o, b ≠ S → h'.get? b = some o → (h'.update S (Obj.mapSeq (·.push (Value.ref h.objs.size)))).get? b = some o := fun b o hb e => (Heap.get?_update_other _ _ (Ne.symm hb)).trans e
    have hS2 := Heap.get?_update_self (Obj.mapSeq (·.push (Value.ref h.objs.size))) hS' rfl
    have hus : (h'.update S (Obj.mapSeq (·.push (Value.ref h.objs.size)))).objs.size = h'.objs.size := (Heap.SameBut.update h' S (Obj.mapSeq (·.push (Value.ref h.objs.size)))).1
    show wpAny _ A.in1 (updateSeq S (·.push (Value.ref h.objs.size)) >>= _) _ _ _
    refine wpAny_bind ?_
    refine wpAny_updateSeq hS' rfl (wpAny_pure ⟨plainId_quiet PySem.F.plain_extend_loop _, ih (i + 1) _ tk _ (acc.push (Value.ref h.objs.size)) (as ++ [h.objs.size]) (by omega) hlt (st'.keep up ⟨_, hS2⟩ s1 s2 s3 s4 s5 s6 s7)
      (fun b o h0 h1 h2 h3 h4 e => up b o h0 (hkp b o h1 h2 h3 h4 (hkeep b o h0 h1 h2 h3 h4 e))) hS2 (by rw [Array.toList_push, hacc, List.map_append]; rfl) (by rw [List.length_append, hal]; rfl) ⟨?_, ?_, ?_⟩ (by rw [hus, hz]; exact Nat.le_succ_of_le hlo)⟩) (by rw [sz]; omega) (by show (acc.push (Value.ref h.objs.size)).size ≤ sizeLine + 1; rw [Array.size_push, sz]; omega)
    · refine List.pairwise_append.mpr ⟨hG.rise, List.pairwise_singleton _ _, fun a ha b hb => ?_⟩
      rw [List.mem_singleton.mp hb]
      exact hG.there ha
    · intro a ha
      rcases List.mem_append.mp ha with ha | ha
      · exact hG.above a ha
      · rw [List.mem_singleton.mp ha]; exact hlo
    · intro j b hj
      rcases Nat.lt_trichotomy j as.length with h1 | h1 | h1
      · rw [List.getElem?_append_left h1] at hj
        obtain ⟨x', y', e1, e2, e3⟩ := hG.pairs j b hj
        have hb := hG.above b (List.mem_of_getElem? hj)
        exact ⟨x', y', e1, e2, up b _ (Nat.ne_of_gt (Nat.lt_of_lt_of_le b5 hb)) (hkp b _ (Nat.ne_of_gt (Nat.lt_of_lt_of_le b1 hb)) (Nat.ne_of_gt (Nat.lt_of_lt_of_le b2 hb)) (Nat.ne_of_gt (Nat.lt_of_lt_of_le b3 hb)) (Nat.ne_of_gt (Nat.lt_of_lt_of_le b4 hb)) e3)⟩
      · subst h1
        have hb : h.objs.size = b := by simpa using hj
        subst hb
        exact ⟨x, y, by rw [hal]; exact hx, by rw [hal]; exact hy, up _ _ (Nat.ne_of_gt (Nat.lt_of_lt_of_le b5 hlo)) ht⟩
      · have hnone : (as ++ [h.objs.size])[j]? = none := List.getElem?_eq_none (by rw [List.length_append, List.length_singleton]; omega)
        rw [hnone] at hj
        cases hj
end
theorem zip_no_len : typeLookup (.type "zip") "__len__" = pure none := am_miss_of_fast (by decide +kernel)
theorem zip_no_hint : typeLookup (.type "zip") "__length_hint__" = pure none := am_miss_of_fast (by decide +kernel)
section
variable {prog : Program} {w : World} {A : Around} {E : Value → Shared → Prop} {s : Shared}
/-- list(z), z a zip of two tuples that stands at its beginning -/
theorem call_listZ {z TI TO i1 i2 l1 l2 : Addr} {xs ys : Array Value} {Q : Value → Shared → Prop} (hh : A.handled = none) (D : ZipApart z TI TO i1 i2 l1 l2) (hz0 : IsZip s.heap z TI TO .none) (st : ZAt z TI TO i1 i2 l1 l2 xs ys 0 s.heap) (hsz : min xs.size ys.size ≤ sizeLine)
    (hQ : ∀ h' tk acc c as, (∀ b o, b ≠ z → b ≠ TO → b ≠ i1 → b ≠ i2 → s.heap.get? b = some o → h'.get? b = some o) → h'.get? s.heap.objs.size = some { cls := .type "list", dict := none, data := .seq acc c, slots := #[] } → as.length = min xs.size ys.size → PairsOf xs ys (s.heap.objs.size + 1) h' as → acc.toList = as.map Value.ref → Q (.ref s.heap.objs.size) { s with heap := h', toks := tk }) :
    wpAny (model prog w) A (call (.type "list") [.ref z]) Q E s := by
  have lt : ∀ {b : Addr} {o : Obj}, s.heap.get? b = some o → b < s.heap.objs.size := fun e => Heap.lt_size e
  have bz : z < s.heap.objs.size := by
    rcases st.out with q | ⟨T, f, oT, q, _⟩
    · exact lt q
    · exact lt q
  obtain ⟨ta, tb, hTO⟩ := st.TO_
  have bTO := lt hTO
  have bTI := lt st.TI_
  have bi1 : i1 < s.heap.objs.size := by obtain ⟨_, e, _⟩ := st.i1_; exact lt e
  have bi2 : i2 < s.heap.objs.size := by obtain ⟨_, e, _⟩ := st.i2_; exact lt e
  have bl1 : l1 < s.heap.objs.size := by obtain ⟨_, e, _⟩ := st.l1_; exact lt e
  have bl2 : l2 < s.heap.objs.size := by obtain ⟨_, e, _⟩ := st.l2_; exact lt e
  refine callType_codes (Q₁ := fun obj s₁ => obj = .ref s.heap.objs.size ∧ s₁ = { s with heap := s.heap.push { cls := .type "list", data := .seq #[] } }) F.called_list (F.typeCall_list_1 _) F.entry_list_init (code_list_new _ ⟨rfl, rfl⟩) fun obj s₁ h₁ => ?_
  obtain ⟨rfl, rfl⟩ := h₁
  have hS : (s.heap.push { cls := .type "list", data := .seq #[] }).get? s.heap.objs.size = some { cls := .type "list", data := .seq #[] } := Heap.get?_push_size _ rfl
  refine ⟨⟨_, hS, rfl⟩, F.args_list_init_2 _ _, ?_⟩
  show wpAny _ A.in1.in1 (do let old ← Builtin.List.listItems (.ref s.heap.objs.size); Builtin.List.listUpdate (.ref s.heap.objs.size) (fun _ => #[]); letGo old.toList.reverse; Builtin.List.listExtendWith (.ref s.heap.objs.size) (.ref z) .none) _ _ _
  refine wpAny_bind ?_
  unfold Builtin.List.listItems
  refine wpAny_bind (wpAny_seqItems hS rfl (wpAny_pure ?_))
  show wpAny _ A.in1.in1 (updateSeq s.heap.objs.size (fun _ => #[]) >>= fun _ => letGo (#[] : Array Value).toList.reverse >>= fun _ => Builtin.List.listExtendWith (.ref s.heap.objs.size) (.ref z) .none) _ _ _
  refine wpAny_bind (wpAny_updateSeq hS rfl ?_)
  have hS2 := Heap.get?_update_self (Obj.mapSeq (fun _ => (#[] : Array Value))) hS rfl
  refine wpAny_bind (wpAny_letGo ?_)
  unfold Builtin.List.listExtendWith
  have up : ∀ (h : Heap) (f : Obj → Obj), (∀ b o, s.heap.get? b = some o → h.get? b = some o) → ∀ b o, s.heap.get? b = some o → (h.update s.heap.objs.size f).get? b = some o := fun h f q b o e => (Heap.get?_update_other _ _ (Ne.symm (Nat.ne_of_lt (Heap.lt_size e)))).trans (q b o e)
  have k1 : ∀ b o, s.heap.get? b = some o → (s.heap.push { cls := .type "list", data := .seq #[] }).get? b = some o := fun b o e => Heap.get?_push_of_some _ e
  have k2 := up _ (Obj.mapSeq (fun _ => (#[] : Array Value))) k1
  have zst : ∀ {h : Heap}, (∀ b o, s.heap.get? b = some o → h.get? b = some o) → ZAt z TI TO i1 i2 l1 l2 xs ys 0 h := fun {h} q => by
    refine ⟨?_, q _ _ st.TI_, ⟨ta, tb, q _ _ hTO⟩, st.i1_.at fun o e => q _ o e, st.i2_.at fun o e => q _ o e, st.l1_.at fun o e => q _ o e, st.l2_.at fun o e => q _ o e⟩
    rcases st.out with hz | ⟨T, f, oT, hz, hT⟩
    · exact .inl (q _ _ hz)
    · exact .inr ⟨T, f, oT, q _ _ hz, q _ _ hT⟩
  have zty : ∀ {s' : Shared}, ZAt z TI TO i1 i2 l1 l2 xs ys 0 s'.heap → s'.TypeIs (.ref z) "zip" := fun {s'} q => by
    rcases q.out with hz | ⟨T, f, oT, hz, hT⟩
    · exact ⟨_, hz, rfl⟩
    · exact ⟨_, hz, rfl⟩
  refine wpAny_bind (wpAny_typeOf (zty (s' := { s with heap := _ }) (zst k2)) ?_)
  have h1 : Builtin.List.listSameRef (.ref s.heap.objs.size) (.ref z) = false := by
    have : s.heap.objs.size ≠ z := Nat.ne_of_gt bz
    simp [Builtin.List.listSameRef, this]
  have h2 : (Value.type "zip" == Value.type "list") = false := by decide
  have h3 : (Value.type "zip" == Value.type "tuple") = false := by decide
  simp only [h1, h2, h3, Bool.or_false, Bool.false_eq_true, if_false]
  refine wpAny_bind (wpAny_pyIter_zip (s := { s with heap := _ }) (k2 _ _ hz0) ?_)
  refine wpAny_bind (wpAny_holding ?_)
  unfold Builtin.List.listLengthHint
  refine wpAny_bind (wpAny_specialOf (zty (s' := { s with heap := _ }) (zst k2)) zip_no_len ?_)
  show wpAny _ A.in1.in1 (specialOf (Value.ref z) (Str.ofString "__length_hint__") >>= _) _ _ _
  refine wpAny_bind (wpAny_specialOf (zty (s' := { s with heap := _ }) (zst k2)) zip_no_hint (wpAny_pure ?_))
  show wpAny _ A.in1.in1 (rule "list.extend.makes-room" >>= fun _ => Builtin.List.listTouch (.ref s.heap.objs.size) >>= fun _ => again (.builtin "list.extend.loop" ⟨[.ref s.heap.objs.size, .ref z, .none], []⟩)) _ _ _
  refine wpAny_bind (wpAny_rule (wpAny_bind ?_))
  show wpAny _ A.in1.in1 (updateSeq s.heap.objs.size (·.push .none) >>= fun _ => updateSeq s.heap.objs.size (·.pop)) _ _ _
  refine wpAny_bind (wpAny_updateSeq hS2 rfl ?_)
  have hS3 := Heap.get?_update_self (Obj.mapSeq (·.push Value.none)) hS2 rfl
  refine wpAny_updateSeq (hz := by seq_fits) hS3 rfl ?_
  have hS4 := Heap.get?_update_self (Obj.mapSeq (·.pop)) hS3 rfl
  have k4 := up _ (Obj.mapSeq (·.pop)) (up _ (Obj.mapSeq (·.push Value.none)) k2)
  have sz4 : s.heap.objs.size + 1 ≤ ((((s.heap.push { cls := .type "list", data := .seq #[] }).update s.heap.objs.size (Obj.mapSeq (fun _ => (#[] : Array Value)))).update s.heap.objs.size (Obj.mapSeq (·.push Value.none))).update s.heap.objs.size (Obj.mapSeq (·.pop))).objs.size := Heap.lt_size hS4
  refine wpAny_pure ⟨plainId_quiet F.plain_extend_loop _, ?_⟩
  exact loopZ (s := s) (A := A.in1) (S := s.heap.objs.size) (lo := s.heap.objs.size + 1) (n := min xs.size ys.size) hh D (Nat.ne_of_gt bz) (Nat.ne_of_gt bTI) (Nat.ne_of_gt bTO) (Nat.ne_of_gt bi1) (Nat.ne_of_gt bi2) (Nat.ne_of_gt bl1) (Nat.ne_of_gt bl2) (Nat.lt_succ_of_lt bz) (Nat.lt_succ_of_lt bTO) (Nat.lt_succ_of_lt bi1) (Nat.lt_succ_of_lt bi2) (Nat.lt_succ_self _) rfl hsz .none (h₁ := s.heap)
    (fun h' tk acc c as q1 q2 q3 q4 q5 => ⟨rfl, hQ h' tk acc c as (fun b o c1 c2 c3 c4 e => q1 b o (Nat.ne_of_lt (Heap.lt_size e)) c1 c2 c3 c4 e) q2 q3 q4 q5⟩)
    _ 0 _ s.toks _ _ [] rfl (Nat.zero_le _) (zst k4) (fun b o _ _ _ _ _ e => k4 b o e) hS4 rfl rfl ⟨List.Pairwise.nil, fun a ha => (nomatch ha), fun j a hj => (by simp at hj)⟩ sz4
end
end PySem.W
namespace L2
open PySem PySem.Spec PyProof.Rows PySem.W RZ
/-- known pairs laid at these places -/
def layP (H : Hp) : List Addr → List (V × V) → List Obj → Hp
  | t :: ts, p :: ps, o :: os => upd (layP H ts ps os) t (.frz o (.tup [p.1, p.2]))
  | _, _, _ => H
theorem layP_out {H : Hp} : ∀ {ts : List Addr} {ps : List (V × V)} {os : List Obj} {b : Addr}, b ∉ ts → layP H ts ps os b = H b
  | [], _, _, _, _ => rfl
  | _ :: _, [], _, _, _ => rfl
  | _ :: _, _ :: _, [], _, _ => rfl
  | t :: ts, p :: ps, o :: os, b, h => by
    show upd (layP H ts ps os) t _ b = _
    rw [upd_ne (fun e => h (by rw [e]; exact List.mem_cons_self))]
    exact layP_out fun m => h (List.mem_cons_of_mem _ m)
theorem layP_at {H : Hp} : ∀ {ts : List Addr} {ps : List (V × V)} {os : List Obj} {j : Nat} {t : Addr} {p : V × V}, ts.Nodup → os.length = ts.length → ts[j]? = some t → ps[j]? = some p → ∃ o ∈ os, layP H ts ps os t = some (.frz o (.tup [p.1, p.2]))
  | [], _, _, _, _, _, _, _, h, _ => by simp at h
  | _ :: _, [], _, _, _, _, _, _, _, h => by simp at h
  | _ :: _, _ :: _, [], _, _, _, _, l, _, _ => by simp at l
  | a :: ts, q :: ps, o :: os, 0, t, p, _, _, h1, h2 => by
    simp at h1 h2
    subst h1 h2
    exact ⟨o, List.mem_cons_self, upd_same⟩
  | a :: ts, q :: ps, o :: os, j + 1, t, p, nd, l, h1, h2 => by
    have h1' : ts[j]? = some t := by simpa using h1
    have h2' : ps[j]? = some p := by simpa using h2
    have ne : t ≠ a := fun e => (List.nodup_cons.mp nd).1 (by rw [← e]; exact List.mem_of_getElem? h1')
    obtain ⟨o', m, k⟩ := layP_at (H := H) (os := os) (List.nodup_cons.mp nd).2 (by simpa using l) h1' h2'
    refine ⟨o', List.mem_cons_of_mem _ m, ?_⟩
    show upd (layP H ts ps os) a _ t = _
    rw [upd_ne ne]
    exact k
theorem layP_cases {H : Hp} : ∀ {ts : List Addr} {ps : List (V × V)} {os : List Obj} {b : Addr} {u : HO}, layP H ts ps os b = some u → H b = some u ∨ ∃ (j : Nat) (p : V × V) (o : Obj), ts[j]? = some b ∧ ps[j]? = some p ∧ os[j]? = some o ∧ u = .frz o (.tup [p.1, p.2])
  | [], _, _, _, _, h => .inl h
  | _ :: _, [], _, _, _, h => .inl h
  | _ :: _, _ :: _, [], _, _, h => .inl h
  | t :: ts, p :: ps, o :: os, b, u, h => by
    by_cases e : b = t
    · subst e
      have h2 : upd (layP H ts ps os) b (.frz o (.tup [p.1, p.2])) b = some u := h
      rw [upd_same] at h2
      exact .inr ⟨0, p, o, rfl, rfl, rfl, (Option.some.inj h2).symm⟩
    · have h2 : upd (layP H ts ps os) t (.frz o (.tup [p.1, p.2])) b = some u := h
      rw [upd_ne e] at h2
      rcases layP_cases h2 with k | ⟨j, q, o', k1, k2, k4, k3⟩
      · exact .inl k
      · exact .inr ⟨j + 1, q, o', by rw [List.getElem?_cons_succ]; exact k1, by rw [List.getElem?_cons_succ]; exact k2, by rw [List.getElem?_cons_succ]; exact k4, k3⟩
/-- the new pairs' objects -/
def pairObs (us vs : List Value) : List Obj := (us.zip vs).map fun z => { cls := .type "tuple", data := .seq #[z.1, z.2] }
theorem vals_at : ∀ {xs : List V} {us : List Value} {j : Nat} {x : V} {u : Value}, Vals xs us → xs[j]? = some x → us[j]? = some u → RelV x u
  | _, _, _, _, _, .nil, h, _ => by simp at h
  | _, _, 0, _, _, .cons r _, h1, h2 => by
    simp at h1 h2
    subst h1 h2
    exact r
  | _, _, j + 1, _, _, .cons _ t, h1, h2 => vals_at (j := j) t (by simpa using h1) (by simpa using h2)
section
variable {X : Cx}
def tLZ (K : PySem.W.Frag) (ta : TA) : TE := fun σ H Q => ta σ H fun vs H1 => ∃ a b xs ys, vs = [.ref a, .ref b] ∧ SqT K H1 a xs ∧ SqT K H1 b ys ∧ ∀ (S : Addr) (as : List Addr) (os : List Obj), as.length = min xs.length ys.length → os.length = as.length → (∀ o ∈ os, o.dict = none) → as.Nodup → S ∉ as → H1 S = none → (∀ t ∈ as, H1 t = none) → Q (.ref S) (upd (layP H1 as (xs.zip ys) os) S (.lst (as.map V.ref)))
theorem pe_listZip {e e2 : Expr} {ta : TA} {p p2 pos pos2 : Pos} (hc : X.calm = true) (hg : Gl X "list") (hm : X.mg "list" = none) (hg2 : Gl X "zip") (hm2 : X.mg "zip" = none) (ha : PA X [e, e2] ta)
    (na : starEach [Expr.Call (.Name "zip" p2) [e, e2] [] pos2] X.env = (false, eval (Expr.Call (.Name "zip" p2) [e, e2] [] pos2) X.env) :: starEach [] X.env := by rfl)
    (hs : starEach [e, e2] X.env = (false, eval e X.env) :: starEach [e2] X.env := by rfl) (hpl : (backTo pos2 (starEach [e2] X.env)).any (·.1) = false := by rfl) :
    PE X (.Call (.Name "list" p) [.Call (.Name "zip" p2) [e, e2] [] pos2] [] pos) (tLZ X.K ta) := by
  refine ⟨fun pins s σ H Q I h => ?_⟩
  have inner : wpAny (model X.prog X.w) X.A (eval (Expr.Call (.Name "zip" p2) [e, e2] [] pos2) X.env) (fun x s2 => ∃ (s1 : Shared) (H1 : Hp) (a b : Addr) (xs ys : List V) (its its2 : List Value) (h' : Heap), Inv X pins σ H1 s1 ∧ Vals xs its ∧ Vals ys its2 ∧ xs.length ≤ sizeLine ∧ s2 = { s1 with heap := h' } ∧ x = .ref (s1.heap.objs.size + 4) ∧
      ZipApart (s1.heap.objs.size + 4) (s1.heap.objs.size + 2) (s1.heap.objs.size + 3) s1.heap.objs.size (s1.heap.objs.size + 1) a b ∧ IsZip h' (s1.heap.objs.size + 4) (s1.heap.objs.size + 2) (s1.heap.objs.size + 3) .none ∧
      ZAt (s1.heap.objs.size + 4) (s1.heap.objs.size + 2) (s1.heap.objs.size + 3) s1.heap.objs.size (s1.heap.objs.size + 1) a b its.toArray its2.toArray 0 h' ∧ h'.objs.size = s1.heap.objs.size + 5 ∧ (∀ c o, s1.heap.get? c = some o → h'.get? c = some o) ∧
      ∀ (S : Addr) (as : List Addr) (os : List Obj), as.length = min xs.length ys.length → os.length = as.length → (∀ o ∈ os, o.dict = none) → as.Nodup → S ∉ as → H1 S = none → (∀ t ∈ as, H1 t = none) → Q (.ref S) (upd (layP H1 as (xs.zip ys) os) S (.lst (as.map V.ref)))) X.xe s := by
    refine Call_ (ld_blt I hg2 hm2 PyProof.Rows.boot_zip (PyProof.Rows.callWith_type1 (thn (ha.run pos2 pins s σ H _ I h) fun us s1 ⟨vs, H1, I1, r1, q1⟩ => ?_) hs hpl))
    obtain ⟨a, b, xs, ys, ex, hqx, hqy, q⟩ := q1
    subst ex
    cases r1 with
    | cons r rr =>
      cases rr with
      | cons r' rr =>
        cases rr
        cases r
        cases r'
        obtain ⟨its, rv, p1, z1⟩ := I1.tuple hqx
        obtain ⟨its2, rv2, p2', _⟩ := I1.tuple hqy
        obtain ⟨o1, ho1, _⟩ := id p1
        obtain ⟨o2, ho2, _⟩ := id p2'
        refine call_zipT (show s1.heap.IsTuple a its.toArray from p1) (show s1.heap.IsTuple b its2.toArray from p2') fun h' hz hTI hTO h1 h2 hsz hk => ?_
        exact ⟨s1, H1, a, b, xs, ys, its, its2, h', I1, rv, rv2, z1, rfl, rfl, PySem.W.ktu_apart s1.heap.objs.size a b (Heap.lt_size ho1) (Heap.lt_size ho2), hz, ⟨.inl hz, hTI, ⟨_, _, hTO⟩, h1, h2, (show s1.heap.IsTuple a its.toArray from p1).at fun o e => hk _ o e, (show s1.heap.IsTuple b its2.toArray from p2').at fun o e => hk _ o e⟩, hsz, hk, q⟩
  refine Call_ (ld_blt I hg hm boot_list (PyProof.Rows.callWith_type1 (args_cons (thn inner fun x s2 hx => args_nil ?_) na) na))
  obtain ⟨s1, H1, a, b, xs, ys, its, its2, h', I1, rv, rv2, z1, rfl, rfl, D, hz, st, hsz, hk, q⟩ := hx
  have lx := rv.length
  have ly := rv2.length
  refine call_listZ (s := { s1 with heap := h' }) (I1.ok.hd hc) D hz st (by rw [List.size_toArray, List.size_toArray]; omega) fun h2 tk acc c as kp hS hl hP hacc => ?_
  have k2 : ∀ b o, s1.heap.get? b = some o → h2.get? b = some o := fun b o e => by
    have := Heap.lt_size e
    exact kp b o (Nat.ne_of_lt (Nat.lt_of_lt_of_le this (Nat.le_add_right _ _))) (Nat.ne_of_lt (Nat.lt_of_lt_of_le this (Nat.le_add_right _ _))) (Nat.ne_of_lt this) (Nat.ne_of_lt (Nat.lt_of_lt_of_le this (Nat.le_add_right _ _))) (hk b o e)
  rw [show ({ s1 with heap := h' } : Shared).heap.objs.size = s1.heap.objs.size + 5 from hsz] at hS hP ⊢
  rw [List.size_toArray, List.size_toArray] at hl
  have hl2 : as.length = min xs.length ys.length := by omega
  have fS : H1 (s1.heap.objs.size + 5) = none := I1.hok.fresh (Nat.le_add_right _ _)
  have fT : ∀ t ∈ as, H1 t = none := fun t m => I1.hok.fresh (Nat.le_trans (Nat.le_add_right _ 6) (hP.above t m))
  have ndT : as.Nodup := hP.rise.imp fun {a b} (h : a < b) => Nat.ne_of_lt h
  have nS : s1.heap.objs.size + 5 ∉ as := fun m => Nat.lt_irrefl _ (hP.above _ m)
  have old : ∀ b u, H1 b = some u → upd (layP H1 as (xs.zip ys) (pairObs its its2)) (s1.heap.objs.size + 5) (.lst (as.map V.ref)) b = some u := fun b u e => by
    rw [upd_ne (fun z => by rw [z, fS] at e; cases e), layP_out fun m => by rw [fT b m] at e; cases e]
    exact e
  have new : ∀ b o, s1.heap.get? b = some o → H1 b = none → upd (layP H1 as (xs.zip ys) (pairObs its its2)) (s1.heap.objs.size + 5) (.lst (as.map V.ref)) b = none := fun b o e n => by
    have lb := Heap.lt_size e
    rw [upd_ne (fun z => by rw [z] at lb; exact absurd lb (by simp)), layP_out fun m => absurd (Nat.lt_of_lt_of_le (Nat.lt_of_lt_of_le lb (Nat.le_add_right _ 6)) (hP.above b m)) (Nat.lt_irrefl _)]
    exact n
  refine ⟨.ref (s1.heap.objs.size + 5), _, I1.un (t' := tk) (h' := h2) ⟨fun b o e _ _ _ => k2 b o e, fun b o e _ _ _ => ⟨o.slots, k2 b o e⟩, fun b o e n _ => new b o e n, fun b o e _ => ⟨o, k2 b o e⟩, fun b zs e => old b _ e, fun b o u e => old b _ e, fun b ps e => ⟨#[], by rw [old b _ e]; simp⟩⟩ (fun b u e => ?_), rfl, q _ as _ hl2 (by unfold pairObs; rw [List.length_map, List.length_zip]; omega) (fun o m => by obtain ⟨_, _, rfl⟩ := List.mem_map.mp m; rfl) ndT nS fS fT⟩
  by_cases eS : b = s1.heap.objs.size + 5
  · subst eS
    rw [upd_same] at e
    cases e
    refine ⟨by rw [List.length_map, hl2, sizeLine_eq]; have := sizeLine_eq; omega, acc.toList, c, ?_, by rw [Array.toArray_toList]; exact hS⟩
    rw [hacc]
    have : ∀ l : List Addr, Vals (l.map V.ref) (l.map Value.ref) := fun l => by
      induction l with
      | nil => exact .nil
      | cons x l ih => exact .cons rfl ih
    exact this as
  · rw [upd_ne eS] at e
    rcases layP_cases e with e | ⟨j, pq, ob, e1, e2, e4, rfl⟩
    · exact (I1.hok b u e).stay (fun c v _ e => k2 c v e) (fun c e => old c _ e) fun c zs e => old c _ e
    · obtain ⟨x, y, f1, f2, f3⟩ := hP.pairs j b e1
      obtain ⟨g1, g2⟩ := List.getElem?_zip_eq_some.mp e2
      have rx : RelV pq.1 x := vals_at rv g1 (by rw [← List.getElem?_toArray]; exact f1)
      have ry : RelV pq.2 y := vals_at rv2 g2 (by rw [← List.getElem?_toArray]; exact f2)
      have eo : ob = { cls := .type "tuple", data := .seq #[x, y] } := by
        unfold pairObs at e4
        rw [List.getElem?_map] at e4
        obtain ⟨z, hz2, rfl⟩ := Option.map_eq_some_iff.mp e4
        obtain ⟨z1, z2⟩ := List.getElem?_zip_eq_some.mp hz2
        rw [List.getElem?_toArray, z1] at f1
        rw [List.getElem?_toArray, z2] at f2
        cases f1
        cases f2
        rfl
      subst eo
      exact ⟨f3, by simp [sizeLine_eq], [x, y], .cons rx (.cons ry .nil), ⟨_, f3, rfl, 0, rfl⟩⟩
end
end L2
namespace Tt
open PySem PySem.Spec PyProof.Rows L2
section
variable {X : Cx} {m : Bool} {ρ : List Sl} {W : Wx} {a b : Expr} {Q : Bool → D → List Sl → Prop}
theorem grow_layP {I H : Hp} : ∀ {ts : List Addr} {ps : List (V × V)} {os : List Obj}, Sub I H → ts.Nodup → (∀ t ∈ ts, H t = none) → Grow I H (layP I ts ps os) (layP H ts ps os)
  | [], _, _, s, _, _ => Grow.refl s
  | _ :: _, [], _, s, _, _ => Grow.refl s
  | _ :: _, _ :: _, [], s, _, _ => Grow.refl s
  | t :: ts, p :: ps, o :: os, s, nd, n => by
    have g := grow_layP (ps := ps) (os := os) s (List.nodup_cons.mp nd).2 fun x m => n x (List.mem_cons_of_mem _ m)
    have nt : layP H ts ps os t = none := by
      rw [layP_out (List.nodup_cons.mp nd).1]
      exact n t List.mem_cons_self
    exact g.trans (Grow.new g.sub nt)
theorem dqZip : ∀ {I : Hp} {ts : List Addr} {xs ys : List V} {ds es : List D}, DqAll I xs ds → DqAll I ys es → ts.length = min xs.length ys.length → ∀ J : Hp, (∀ (j : Nat) (t : Addr) (p : V × V), ts[j]? = some t → (xs.zip ys)[j]? = some p → TupAt J t [p.1, p.2]) → Same I J → DqAll J (ts.map V.ref) ((ds.zip es).map fun z => PyData.tuple [z.1, z.2])
  | _, [], xs, ys, ds, es, t1, t2, hl, J, _, sm => by
    have e : ds.zip es = [] := by
      have h1 := t1.len
      have h2 := t2.len
      have hl' : 0 = min xs.length ys.length := hl
      apply List.eq_nil_of_length_eq_zero
      rw [List.length_zip]
      omega
    rw [e]
    exact .nil
  | _, t :: ts, [], ys, _, _, _, _, hl, _, _, _ => by simp at hl
  | _, t :: ts, x :: xs, [], _, _, _, _, hl, _, _, _ => by simp at hl
  | _, t :: ts, x :: xs, y :: ys, d :: ds, e :: es, .cons r1 t1, .cons r2 t2, hl, J, at_, sm => by
    have h0 := at_ 0 t (x, y) rfl rfl
    refine .cons (.tup h0 (.cons (Dq.same sm r1) (.cons (Dq.same sm r2) .nil))) ?_
    exact dqZip t1 t2 (by simp only [List.length_cons] at hl; omega) J (fun j t' p e1 e2 => at_ (j + 1) t' p (by rw [List.getElem?_cons_succ]; exact e1) (by rw [List.zip_cons_cons, List.getElem?_cons_succ]; exact e2)) sm
/-- list(zip(s, t)) of two tuples -/
theorem em_listZip {p p2 pos pos2 : Pos} (hc : X.calm = true) (hm : X.mg "list" = none) (hm2 : X.mg "zip" = none) (h : AM m X [a, b] ρ W fun vs ρ1 => ∃ ds es, vs = [.tuple ds, .tuple es] ∧ Q true (.list ((ds.zip es).map fun z => PyData.tuple [z.1, z.2])) ρ1) (hg : Gl X "list" := by rfl) (hg2 : Gl X "zip" := by rfl)
    (na : starEach [Expr.Call (.Name "zip" p2) [a, b] [] pos2] X.env = (false, eval (Expr.Call (.Name "zip" p2) [a, b] [] pos2) X.env) :: starEach [] X.env := by rfl)
    (hs : starEach [a, b] X.env = (false, eval a X.env) :: starEach [b] X.env := by rfl) (hpl : (backTo pos2 (starEach [b] X.env)).any (·.1) = false := by rfl) : EM m X (.Call (.Name "list" p) [.Call (.Name "zip" p2) [a, b] [] pos2] [] pos) ρ W Q := fun σ I H ok xk R f =>
  ⟨_, pe_listZip hc hg hm hg2 hm2 pa_w na hs hpl, h σ I H ok xk _ fun vs ds0 ρ1 I1 H1 g1 r1 ⟨ds, es, ed, q⟩ => by
    subst ed
    cases r1 with
    | cons r rr =>
      cases rr with
      | cons r' rr =>
        cases rr
        obtain ⟨q1, xs, rfl, h1, t1⟩ := r.tup
        obtain ⟨q2, ys, rfl, h2, t2⟩ := r'.tup
        have ok1 := g1.env ok
        refine ⟨q1, q2, xs, ys, rfl, (ok1.sub.tup h1).sq, (ok1.sub.tup h2).sq, fun S as os hl lo od nd nS fS fT => ?_⟩
        have g2 := grow_layP (ps := xs.zip ys) (os := os) ok1.sub nd fT
        have nS2 : layP H1 as (xs.zip ys) os S = none := by rw [layP_out nS]; exact fS
        have nI : layP I1 as (xs.zip ys) os S = none := by rw [layP_out nS]; exact ok1.sub.nn fS
        have g3 := Grow.dark (o := .lst (as.map V.ref)) g2.sub nS2
        refine f _ true _ ρ1 _ _ (g1.grow ok (g2.trans g3)) ⟨S, _, _, rfl, rfl, g1.nn S fS, nI, upd_same, ?_⟩ q
        exact dqZip t1 t2 hl _ (fun j t p e1 e2 => by
          obtain ⟨o, m, k⟩ := layP_at (H := I1) (os := os) nd lo e1 e2
          exact ⟨o, od o m, k⟩) g2.ii⟩
end
end Tt

/-! t.index(x) as data; a list of any number of lists of one's own. -/
namespace Tt
open PySem PySem.Spec PyProof.Rows L2 PySem.W
section
variable {X : Cx} {m : Bool} {ρ ρ1 : List Sl} {W : Wx} {a b c e o : Expr} {es : List Expr} {pos p' : Pos} {σ : L2.St} {I H I1 H1 : Hp} {E : DE} {Q : Bool → D → List Sl → Prop} {ss : List Stmt} {st : Stmt}
theorem em_tindex {apos cpos : Pos} (h : EM m X o ρ W fun _ d ρ1 => ∃ ns : List Int, d = .tuple (ns.map .int) ∧ EM m X e ρ1 W fun _ y ρ2 => ∃ k : Int, y = .int k ∧ k ∈ ns ∧ Q false (.int (ns.idxOf k : Nat)) ρ2)
    (hbase : attributeBase o "index" X.env (eval o X.env) = eval o X.env := by rfl)
    (hfew : ((backTo cpos (starEach [e] X.env)).all (fun x => !x.1) && (backToKw cpos (keywordEach [] X.env)).all (fun x => x.1.isSome)
      && decide (([e] : List Expr).length + ([] : List Keyword).length + (if ([] : List Keyword).isEmpty then 0 else 1) < 30)) = true := by rfl)
    (hline : (apos.endLine == cpos.line) = true := by rfl) (hs : starEach [e] X.env = (false, eval e X.env) :: starEach [] X.env := by rfl) (hplain : (backTo cpos (starEach [] X.env)).any (·.1) = false := by rfl) : EM m X (.Call (.Attribute o "index" apos) [e] [] cpos) ρ W Q := fun σ I H ok xk R f =>
  ⟨_, pe_tindex pe_w (pa_cons pe_w pa_nil hs) hbase hfew hline hs hplain, h.run ok xk fun v _ d ρ1 I1 H1 g1 r1 ⟨ns, ed, q1⟩ => by
    subst ed
    obtain ⟨a, xs, rfl, ha, t⟩ := r1.tup
    have ex : xs = ns.map V.int := DqAll.ints t
    subst ex
    have ok1 := g1.env ok
    refine ⟨a, ns, rfl, ok1.sub.tup ha, EM.run q1 ok1 (xk.step g1.step) fun u _ y ρ2 I2 H2 g2 r2 ⟨k, ey, hk, q⟩ => ?_⟩
    subst ey
    exact ⟨k, by rw [r2.int], (g2.env ok1).sub.tup (ha.same g2.ii), hk, f _ false _ ρ2 I2 H2 (g1.trans g2) Rv.mkInt q⟩⟩
end
/-! lists of lists -/
def layL (I : Hp) : List Addr → List (List V) → Hp
  | q :: ps, xs :: xss => upd (layL I ps xss) q (.lst xs)
  | _, _ => I
theorem layL_out {I : Hp} : ∀ {ps : List Addr} {xss : List (List V)} {b : Addr}, b ∉ ps → layL I ps xss b = I b
  | [], _, _, _ => rfl
  | _ :: _, [], _, _ => rfl
  | q :: ps, xs :: xss, b, h => by
    show upd (layL I ps xss) q _ b = _
    rw [upd_ne (fun e => h (by rw [e]; exact List.mem_cons_self))]
    exact layL_out fun m => h (List.mem_cons_of_mem _ m)
theorem layL_cases {I H : Hp} : ∀ {ps : List Addr} {xss : List (List V)} {b : Addr} {u : HO}, Paired (fun q xs => H q = some (.lst xs)) ps xss → layL I ps xss b = some u → I b = some u ∨ H b = some u
  | _, _, _, _, .nil, h => .inl h
  | q :: ps, xs :: xss, b, u, .cons h0 t, h => by
    by_cases e : b = q
    · subst e
      have h2 : upd (layL I ps xss) b (.lst xs) b = some u := h
      rw [upd_same] at h2
      cases h2
      exact .inr h0
    · have h2 : upd (layL I ps xss) q (.lst xs) b = some u := h
      rw [upd_ne e] at h2
      exact layL_cases t h2
theorem layL_dq {I J : Hp} (ij : Same I J) : ∀ {ps : List Addr} {xss : List (List V)} {dss : List (List D)}, (∀ (j : Nat) (q : Addr) (xs : List V), ps[j]? = some q → xss[j]? = some xs → J q = some (.lst xs)) → ps.length = xss.length → Paired (DqAll I) xss dss → DqAll J (ps.map V.ref) (dss.map PyData.list)
  | [], _, _, _, _, .nil => .nil
  | _ :: _, _, _, _, l, .nil => by simp at l
  | [], _, _, _, l, .cons _ _ => by simp at l
  | q :: ps, xs :: xss, ds :: dss, h, l, .cons h0 t =>
    .cons (.lst (h 0 q xs rfl rfl) (DqAll.same ij h0)) (layL_dq ij (fun j q' ys e1 e2 => h (j + 1) q' ys (by rw [List.getElem?_cons_succ]; exact e1) (by rw [List.getElem?_cons_succ]; exact e2)) (by simpa using l) t)
theorem layL_at {I : Hp} : ∀ {ps : List Addr} {xss : List (List V)} {j : Nat} {q : Addr} {xs : List V}, ps.Nodup → ps[j]? = some q → xss[j]? = some xs → layL I ps xss q = some (.lst xs)
  | [], _, _, _, _, _, h, _ => by simp at h
  | _ :: _, [], _, _, _, _, _, h => by simp at h
  | a :: ps, ys :: xss, 0, q, xs, _, h1, h2 => by
    simp at h1 h2
    subst h1 h2
    exact upd_same
  | a :: ps, ys :: xss, j + 1, q, xs, nd, h1, h2 => by
    have h1' : ps[j]? = some q := by simpa using h1
    have ne : q ≠ a := fun e => (List.nodup_cons.mp nd).1 (by rw [← e]; exact List.mem_of_getElem? h1')
    show upd (layL I ps xss) a _ q = _
    rw [upd_ne ne]
    exact layL_at (List.nodup_cons.mp nd).2 h1' (by simpa using h2)
theorem objs_lists {K : PySem.W.Frag} {I H : Hp} : ∀ {ps : List Addr} {dss : List (List D)}, Paired (ObjAt K I H) ps (dss.map MO.lst) → ∃ xss, Paired (fun q xs => H q = some (.lst xs)) ps xss ∧ Paired (DqAll I) xss dss
  | _, [], .nil => ⟨[], .nil, .nil⟩
  | _, ds :: dss, .cons h t => by
    obtain ⟨xss, a, b⟩ := objs_lists t
    obtain ⟨o, ho, xs, rfl, hd⟩ := h
    exact ⟨xs :: xss, .cons ho a, .cons hd b⟩
theorem objs_set {K : PySem.W.Frag} {I H : Hp} {q : Addr} {xs : List V} {ds' : List D} (hd : DqAll I xs ds') : ∀ {ps : List Addr} {dss : List (List D)} {j : Nat}, ps.Nodup → ps[j]? = some q → Paired (ObjAt K I H) ps (dss.map MO.lst) → Paired (ObjAt K I (upd H q (.lst xs))) ps ((dss.set j ds').map MO.lst)
  | _, [], _, _, h, .nil => by simp at h
  | p0 :: ps, ds :: dss, 0, nd, h, .cons h0 t => by
    simp at h
    subst h
    refine .cons ⟨_, upd_same, xs, rfl, hd⟩ (paired_imp (fun a ha m' hm => ?_) t)
    obtain ⟨o, ho, hφ⟩ := hm
    exact ⟨o, by rw [upd_ne fun e => (List.nodup_cons.mp nd).1 (by rw [← e]; exact ha)]; exact ho, hφ⟩
  | p0 :: ps, ds :: dss, j + 1, nd, h, .cons h0 t => by
    have h' : ps[j]? = some q := by simpa using h
    obtain ⟨o, ho, hφ⟩ := h0
    refine .cons ⟨o, ?_, hφ⟩ (objs_set hd (List.nodup_cons.mp nd).2 h' t)
    rw [upd_ne fun e => (List.nodup_cons.mp nd).1 (by rw [e]; exact List.mem_of_getElem? h')]
    exact ho
theorem EnvOk.atLn {K : PySem.W.Frag} {I H : Hp} {σ : L2.St} {ρ : List Sl} {i : Nat} {p : Addr} {ps : List Addr} {dss : List (List D)} (ok : EnvOk K I H σ ρ) (h : ρ[i]? = some (.ll p ps (dss.map MO.lst))) :
    ∃ xss, σ[i]? = some (some (.ref p)) ∧ H p = some (.lst (ps.map .ref)) ∧ Paired (ObjAt K I H) ps (dss.map MO.lst) ∧ Paired (fun q xs => H q = some (.lst xs)) ps xss ∧ Paired (DqAll I) xss dss ∧ p ∉ ps ∧ ps.Nodup ∧ I p = none ∧ ∀ q ∈ ps, I q = none := by
  obtain ⟨v, hv, rfl, hp, pr⟩ := ok.at h (fun z => nomatch z)
  have fi : ft ρ i = p :: ps := ft_at h
  have nd := ok.nd i
  rw [fi] at nd
  obtain ⟨xss, a, b⟩ := objs_lists pr
  exact ⟨xss, hv, hp, pr, a, b, (List.nodup_cons.mp nd).1, (List.nodup_cons.mp nd).2, ok.out i p (by rw [fi]; exact List.mem_cons_self), fun q m => ok.out i q (by rw [fi]; exact List.mem_cons_of_mem _ m)⟩
theorem EnvOk.freezeLn {K : PySem.W.Frag} {I H : Hp} {σ : L2.St} {ρ : List Sl} {i : Nat} {p : Addr} {ps : List Addr} {dss : List (List D)} (ok : EnvOk K I H σ ρ) (h : ρ[i]? = some (.ll p ps (dss.map MO.lst))) :
    ∃ J, Same I J ∧ EnvOk K J H σ (ρ.set i (.va (.list (dss.map .list)))) ∧ ∀ a, J a ≠ none → I a = none → Mt ρ a := by
  obtain ⟨xss, hv, hp, pr, pa, pb, n0, n1, o0, o1⟩ := ok.atLn h
  have hl : i < ρ.length := (List.getElem?_eq_some_iff.mp h).1
  have fi : ft ρ i = p :: ps := ft_at h
  have ij0 : Same I (layL I ps xss) := fun a o e => by
    rw [layL_out fun m => by rw [o1 a m] at e; cases e]
    exact e
  have ij : Same I (upd (layL I ps xss) p (.lst (ps.map .ref))) := fun a o e => by
    rw [upd_ne (ne_of_none e o0)]
    exact ij0 a o e
  have fs : ∀ j a, a ∈ ft (ρ.set i (.va (.list (dss.map .list)))) j → a ∈ ft ρ j ∧ j ≠ i := fun j a hj => by
    rw [ft_set] at hj
    split at hj
    · cases hj
    · rename_i z
      refine ⟨hj, fun e => ?_⟩
      subst e
      exact z ⟨rfl, hl⟩
  have far : ∀ j a, a ∈ ft ρ j → j ≠ i → a ≠ p ∧ a ∉ ps := fun j a hj ne => ⟨fun e => ne (ok.dj j i a hj (by rw [fi, e]; simp)), fun e => ne (ok.dj j i a hj (by rw [fi]; exact List.mem_cons_of_mem _ e))⟩
  refine ⟨_, ij, ⟨by rw [List.length_set]; exact ok.len, fun j s e => ?_, fun j => ?_, fun j k a q1 q2 => ok.dj j k a (fs j a q1).1 (fs k a q2).1, fun j a q1 => ?_, fun a o e => ?_⟩, fun a q1 q2 => ?_⟩
  · by_cases z : i = j
    · subst z
      rw [List.getElem?_set_self hl] at e
      cases e
      rw [hv]
      refine Rv.mkL upd_same (layL_dq ij (fun j q xs e1 e2 => ?_) (Paired.length pa) pb)
      rw [upd_ne fun z => n0 (by rw [← z]; exact List.mem_of_getElem? e1)]
      exact layL_at n1 e1 e2
    · rw [List.getElem?_set_ne z] at e
      exact (ok.ok j s e).grow ij fun _ _ _ e => e
  · rw [ft_set]
    split
    · exact List.nodup_nil
    · exact ok.nd j
  · obtain ⟨m, ne⟩ := fs j a q1
    obtain ⟨f1, f2⟩ := far j a m ne
    rw [upd_ne f1, layL_out f2]
    exact ok.out j a m
  · by_cases z : a = p
    · subst z
      rw [upd_same] at e
      cases e
      exact .inl hp
    · rw [upd_ne z] at e
      rcases layL_cases pa e with k | k
      · exact ok.sub a o k
      · exact .inl k
  · refine ⟨i, ?_⟩
    rw [fi]
    apply Decidable.byContradiction
    intro m
    simp only [List.mem_cons, not_or] at m
    rw [upd_ne m.1, layL_out m.2] at q1
    exact q1 q2
section
variable {X : Cx} {m : Bool} {ρ ρ1 : List Sl} {W : Wx} {a b c e : Expr} {es : List Expr} {pos p' : Pos} {σ : L2.St} {I H I1 H1 : Hp} {E : DE} {Q : Bool → D → List Sl → Prop} {ss : List Stmt} {st : Stmt}
theorem sd_freezeLn (i : Nat) {p : Addr} {ps : List Addr} (dss : List (List D)) (h0 : ρ[i]? = some (.ll p ps (dss.map MO.lst))) (h : SD X ss (ρ.set i (.va (.list (dss.map .list)))) W E) : SD X ss ρ W E := fun σ I H ok xk T k => by
  obtain ⟨J, ij, ok', hq⟩ := ok.freezeLn h0
  have mts : ∀ a, Mt (ρ.set i (.va (.list (dss.map .list)))) a → Mt ρ a := fun a m => (mt_set m).elim id fun z => by cases z
  have st : Step I H (Mt ρ) J H (Mt (ρ.set i (.va (.list (dss.map .list))))) := ⟨ij, fun _ _ e _ => e, fun a o e n nm => by
    cases z : J a with
    | none => rfl
    | some u => exact absurd (hq a (by rw [z]; exact fun z => nomatch z) n) nm, fun a m => .inl (mts a m), fun a o e => ⟨o, e⟩⟩
  exact h σ J H ok' (xk.step st) T (k.step st)
/-- [[], [], []] -/
theorem vm_LL3 {q1 q2 q3 : Pos} {QV : Sl → List Sl → Prop} (h : ∀ p p1 p2 p3, QV (.ll p [p1, p2, p3] ([[], [], []].map MO.lst)) ρ) (hs1 : starEach [Expr.List [] q1, Expr.List [] q2, Expr.List [] q3] X.env = (false, eval (Expr.List [] q1) X.env) :: starEach [Expr.List [] q2, Expr.List [] q3] X.env := by rfl)
    (hs2 : starEach [Expr.List [] q2, Expr.List [] q3] X.env = (false, eval (Expr.List [] q2) X.env) :: starEach [Expr.List [] q3] X.env := by rfl) (hs3 : starEach [Expr.List [] q3] X.env = (false, eval (Expr.List [] q3) X.env) :: starEach [] X.env := by rfl) : VM m X (.List [.List [] q1, .List [] q2, .List [] q3] pos) ρ W QV := fun σ I H ok xk R f =>
  ⟨_, pe_lst (pa_cons (pe_lst pa_nil) (pa_cons (pe_lst pa_nil) (pa_cons (pe_lst pa_nil) pa_nil hs3) hs2) hs1), ⟨by simp, fun p1 n1 => ⟨by simp, fun p2 n2 => ⟨by simp, fun p3 n3 => ⟨by simp; exact small_line (by decide), fun p n => by
    have h21 : p2 ≠ p1 := fun z => by subst z; rw [upd_same] at n2; cases n2
    have n2' : H p2 = none := by rwa [upd_ne h21] at n2
    have h32 : p3 ≠ p2 := fun z => by subst z; rw [upd_same] at n3; cases n3
    rw [upd_ne h32] at n3
    have h31 : p3 ≠ p1 := fun z => by subst z; rw [upd_same] at n3; cases n3
    rw [upd_ne h31] at n3
    have hp3 : p ≠ p3 := fun z => by subst z; rw [upd_same] at n; cases n
    rw [upd_ne hp3] at n
    have hp2 : p ≠ p2 := fun z => by subst z; rw [upd_same] at n; cases n
    rw [upd_ne hp2] at n
    have hp1 : p ≠ p1 := fun z => by subst z; rw [upd_same] at n; cases n
    rw [upd_ne hp1] at n
    have g1 := Grow.dark (o := .lst []) ok.sub n1
    have g2 := Grow.dark (o := .lst []) g1.sub n2
    have g3 := Grow.dark (o := .lst []) g2.sub (show upd (upd H p1 (.lst [])) p2 (.lst []) p3 = none by rw [upd_ne h32, upd_ne h31]; exact n3)
    have g4 := Grow.dark (o := .lst [.ref p1, .ref p2, .ref p3]) g3.sub (show upd (upd (upd H p1 (.lst [])) p2 (.lst [])) p3 (.lst []) p = none by rw [upd_ne hp3, upd_ne hp2, upd_ne hp1]; exact n)
    refine f _ (.ll p [p1, p2, p3] ([[], [], []].map MO.lst)) ρ _ _ (Go.of ok (((g1.trans g2).trans g3).trans g4)) ⟨⟨rfl, upd_same, .cons ⟨_, ?_, [], rfl, .nil⟩ (.cons ⟨_, ?_, [], rfl, .nil⟩ (.cons ⟨_, ?_, [], rfl, .nil⟩ .nil))⟩, ?_, fun a z => ?_⟩ (h p p1 p2 p3)
    · rw [upd_ne (Ne.symm hp1), upd_ne (Ne.symm h31), upd_ne (Ne.symm h21), upd_same]
    · rw [upd_ne (Ne.symm hp2), upd_ne (Ne.symm h32), upd_same]
    · rw [upd_ne (Ne.symm hp3), upd_same]
    · show [p, p1, p2, p3].Nodup
      simp [hp1, hp2, hp3, Ne.symm h21, Ne.symm h31, Ne.symm h32]
    · have z : a ∈ [p, p1, p2, p3] := z
      simp only [List.mem_cons, List.not_mem_nil, or_false] at z
      rcases z with rfl | rfl | rfl | rfl
      · exact ⟨n, ok.sub.nn n⟩
      · exact ⟨n1, ok.sub.nn n1⟩
      · exact ⟨n2', ok.sub.nn n2'⟩
      · exact ⟨n3, ok.sub.nn n3⟩⟩⟩⟩⟩⟩
theorem mutLn {i j : Nat} {p q : Addr} {ps : List Addr} {dss : List (List D)} {ds' : List D} {xs : List V} (ok : EnvOk X.K I H σ ρ) (h : ρ[i]? = some (.ll p ps (dss.map MO.lst))) (hq : ps[j]? = some q) (hd : DqAll I xs ds') :
    Go false X.K σ ρ I H (ρ.set i (.ll p ps ((dss.set j ds').map MO.lst))) I (upd H q (.lst xs)) := by
  obtain ⟨xss, hv, hp, pr, pa, pb, n0, n1, o0, o1⟩ := ok.atLn h
  have hl : i < ρ.length := (List.getElem?_eq_some_iff.mp h).1
  have fi : ft ρ i = p :: ps := ft_at h
  have mq := List.mem_of_getElem? hq
  have qi : q ∈ ft ρ i := by rw [fi]; exact List.mem_cons_of_mem _ mq
  have nI : I q = none := o1 q mq
  have fs : ∀ k, ft (ρ.set i (.ll p ps ((dss.set j ds').map MO.lst))) k = ft ρ k := fun k => by
    rw [ft_set]
    split
    · rename_i z
      rw [← z.1, fi]
      rfl
    · rfl
  have mts : ∀ a, Mt (ρ.set i (.ll p ps ((dss.set j ds').map MO.lst))) a → Mt ρ a := fun a ⟨k, hk⟩ => ⟨k, by rw [← fs k]; exact hk⟩
  have pq : p ≠ q := fun e => n0 (by rw [e]; exact mq)
  refine ⟨⟨by rw [List.length_set]; exact ok.len, fun k s e => ?_, fun k => by rw [fs]; exact ok.nd k, fun k l a q1 q2 => ok.dj k l a (by rw [← fs k]; exact q1) (by rw [← fs l]; exact q2), fun k a q1 => ok.out k a (by rw [← fs k]; exact q1), fun a u' e => ?_⟩, ⟨Same.refl I, fun a u' e n => ?_, fun _ _ _ n _ => n, fun a m => .inl (mts a m), fun a u' e => ?_⟩, mts⟩
  · by_cases z : i = k
    · subst z
      rw [List.getElem?_set_self hl] at e
      cases e
      rw [hv]
      exact ⟨rfl, by rw [upd_ne pq]; exact hp, objs_set hd n1 hq pr⟩
    · rw [List.getElem?_set_ne z] at e
      refine (ok.ok k s e).grow (Same.refl I) fun a u' ha e2 => ?_
      rw [upd_ne]
      · exact e2
      · intro z2
        subst z2
        exact z (ok.dj i k a qi (by rw [ft_at e]; exact ha))
  · rw [upd_ne (ne_of_none e nI)]
    exact ok.sub a u' e
  · rw [upd_ne]
    · exact e
    · intro z
      subst z
      exact n ⟨i, qi⟩
  · by_cases z : a = q
    · subst z
      exact ⟨_, upd_same⟩
    · exact ⟨u', by rw [upd_ne z]; exact e⟩
theorem paired_both {α β : Type} {P : α → β → Prop} : ∀ {as : List α} {bs : List β} {j : Nat} {a : α}, Paired P as bs → as[j]? = some a → ∃ b, bs[j]? = some b ∧ P a b := paired_at'
/-- x[j].append(e) -/
theorem em_appendLn (i j : Nat) {x : Str} {p : Addr} {ps : List Addr} {ms0 : List MO} {k : Nat} {pi pn pq apos cpos : Pos} (h0 : ρ[i]? = some (.ll p ps ms0)) (hj : j < ps.length)
    (h : (∃ dss : List (List D), ρ[i]? = some (.ll p ps (dss.map MO.lst))) ∧ EM false X e ρ W fun _ y ρ3 => ∃ (dss : List (List D)) (ds : List D), nd y = true ∧ ρ3[i]? = some (.ll p ps (dss.map MO.lst)) ∧ dss[j]? = some ds ∧ ds.length < sizeLine ∧ Q false .none (ρ3.set i (.ll p ps ((dss.set j (ds ++ [y])).map MO.lst))))
    (hN : X.N[i]? = some x := by rfl) (hv : Vis X.env.scope x := by first | exact Or.inl rfl | exact Or.inr (Or.inl rfl) | exact Or.inr (Or.inr rfl))
    (hd : (x == ("__debug__" : Str)) = false := by decide) (hcd : (x == ("__classdict__" : Str)) = false := by decide)
    (hbase : attributeBase (.Subscript (.Name x pn) (.Constant (.int (j : Nat)) k pi) pq) "append" X.env (eval (.Subscript (.Name x pn) (.Constant (.int (j : Nat)) k pi) pq) X.env) = eval (.Subscript (.Name x pn) (.Constant (.int (j : Nat)) k pi) pq) X.env := by rfl)
    (hfew : ((backTo cpos (starEach (e :: []) X.env)).all (fun x => !x.1) && (backToKw cpos (keywordEach [] X.env)).all (fun x => x.1.isSome)
      && decide ((e :: ([] : List Expr)).length + ([] : List Keyword).length + (if ([] : List Keyword).isEmpty then 0 else 1) < 30)) = true := by rfl)
    (hline : (apos.endLine == cpos.line) = true := by rfl) (hs : starEach [e] X.env = (false, eval e X.env) :: starEach [] X.env := by rfl) (hplain : (backTo cpos (starEach [] X.env)).any (·.1) = false := by rfl) :
    EM false X (.Call (.Attribute (.Subscript (.Name x pn) (.Constant (.int (j : Nat)) k pi) pq) "append" apos) [e] [] cpos) ρ W Q := fun σ I H ok xk R f => by
  obtain ⟨v0, hσ, rfl, _⟩ := ok.at h0 (fun z => nomatch z)
  obtain ⟨⟨dss0, h2⟩, q2⟩ := h
  refine ⟨_, pe_bm PySem.F.plainAttrs_list PySem.F.slot_list_append PySem.F.type_list_append mt_append (pe_ix ix_list (pe_var hN hv hd hcd) pe_int (fun _ _ => rfl)) (pa_cons pe_w pa_nil hs) hbase hfew hline hs hplain, _, hσ, ?_⟩
  obtain ⟨xss, hv2, hp, pr, pa, pb, n0, n1, o0, o1⟩ := ok.atLn h2
  obtain ⟨q, hq⟩ : ∃ q, ps[j]? = some q := ⟨_, List.getElem?_eq_getElem hj⟩
  obtain ⟨xs, hx, hHq⟩ := paired_at' pa hq
  refine ⟨p, _, _, .ref q, rfl, rfl, SqL.of hp, atI_nat (by rw [List.getElem?_map, hq]; rfl), tyL hHq, ?_⟩
  refine EM.run q2 ok xk fun u _ y ρ3 I3 H3 g3 r3 ⟨dss, ds, ny, h3, hds, lt, q3⟩ => ?_
  have ok3 := g3.env ok
  obtain ⟨yss, hv3, hp3, pr3, pa3, pb3, _⟩ := ok3.atLn h3
  obtain ⟨ys, hy, hHq3⟩ := paired_at' pa3 hq
  obtain ⟨ds2, hds2, dq⟩ := paired_at' pb3 hy
  rw [hds] at hds2
  cases hds2
  have g := mutLn (xs := ys ++ [u]) (ds' := ds ++ [y]) ok3 h3 hq (DqAll.app dq (.cons (r3.dp ny) .nil))
  exact ⟨_, _, u, rfl, rfl, hHq3, by rw [dq.len]; exact lt, f _ false _ _ _ _ (g3.trans g) Rv.mkNon q3⟩
end
end Tt

namespace Tt
/-! ### heaps, standings, completions -/
def lettersL : List Nat := [97, 98, 99, 100, 101, 102, 103, 104, 105, 106, 107, 108, 109, 110, 111, 112, 113, 114, 115, 116, 117, 118, 119, 120, 121, 122]
/-- a heap -/
structure Hv (h : List (List Nat)) : Prop where
  lo : 2 ≤ h.length
  hi : h.length ≤ 8
  each : ∀ s ∈ h, 1 ≤ s.length ∧ s.length ≤ 10 ∧ ∀ c ∈ s, c ∈ lettersL
  so : h.Pairwise (· ≤ ·)
/-- a shred at a place -/
def shr (h : List (List Nat)) (i : Int) : List Nat := h.getD i.toNat []
def joinT (h : List (List Nat)) (p : List Int) : List Nat := (p.map (shr h)).flatten
def PlacesOk (h : List (List Nat)) (p : List Int) : Prop := ∀ i ∈ p, 0 ≤ i ∧ i < h.length
structure Small (h : List (List Nat)) : Prop where
  len : h.length ≤ 8
  each : ∀ s ∈ h, s.length ≤ 11
theorem Hv.small {h : List (List Nat)} (v : Hv h) : Small h := ⟨by have := v.hi; omega, fun s m => by have := (v.each s m).2.1; omega⟩
theorem shr_at {h : List (List Nat)} {i : Int} (h0 : 0 ≤ i) (h1 : i < h.length) : h[i.toNat]? = some (shr h i) := by
  unfold shr
  rw [List.getD_eq_getElem?_getD, List.getElem?_eq_getElem (by omega)]
  rfl
theorem shr_mem {h : List (List Nat)} {i : Int} (h0 : 0 ≤ i) (h1 : i < h.length) : shr h i ∈ h := List.mem_of_getElem? (shr_at h0 h1)
theorem shr_le {h : List (List Nat)} (s : Small h) (i : Int) : (shr h i).length ≤ 11 := by
  unfold shr
  rw [List.getD_eq_getElem?_getD]
  cases e : h[i.toNat]? with
  | none => exact Nat.zero_le _
  | some x => exact s.each x (List.mem_of_getElem? e)
theorem sum_le (p : List Int) (f : Int → Nat) (b : Nat) (hf : ∀ i, f i ≤ b) : (p.map f).sum ≤ p.length * b := by
  induction p with
  | nil => simp
  | cons i r ih =>
    have := hf i
    rw [List.map_cons, List.sum_cons, List.length_cons, Nat.succ_mul]
    omega
theorem joinT_le {h : List (List Nat)} (s : Small h) (p : List Int) : (joinT h p).length ≤ p.length * 11 := by
  unfold joinT
  rw [List.length_flatten, List.map_map]
  exact sum_le p _ 11 fun i => shr_le s i
theorem joinT_app (h : List (List Nat)) (a b : List Int) : joinT h (a ++ b) = joinT h a ++ joinT h b := by simp [joinT]
theorem joinT_cons (h : List (List Nat)) (p : Int) (b : List Int) : joinT h (p :: b) = shr h p ++ joinT h b := by simp [joinT]
theorem joinT_nil (h : List (List Nat)) : joinT h [] = [] := rfl
/-- what is left over -/
def lo (r s : List Nat) : Option (List Nat) := if s.isPrefixOf r then some (r.drop s.length) else if r.isPrefixOf s then some (s.drop r.length) else none
def ins (u : List Int) (p : Int) : List Int := (u ++ [p]).mergeSort fun a b => decide (a ≤ b)
abbrev NX := Int × List Int × List Nat
def nx1 (h : List (List Nat)) (u : List Int) (r : List Nat) (i : Nat) : Option NX :=
  if r ≠ [] ∧ (i : Int) ∉ u then (lo r (shr h i)).map fun l => ((i : Int), ins u i, l) else none
def nexts (h : List (List Nat)) (u : List Int) (r : List Nat) : List NX := (List.range h.length).filterMap (nx1 h u r)
def isE (h : List (List Nat)) (u : List Int) (r : List Nat) : Bool := decide (u.length = h.length) && decide (r = [])
def canF (h : List (List Nat)) : Nat → List Int → List Nat → Bool
  | 0, u, r => isE h u r
  | k + 1, u, r => isE h u r || (nexts h u r).any fun x => canF h k x.2.1 x.2.2
def waysF (h : List (List Nat)) : Nat → List Int → List Nat → Nat
  | 0, u, r => if isE h u r then 1 else 0
  | k + 1, u, r => (if isE h u r then 1 else 0) + ((nexts h u r).map fun x => waysF h k x.2.1 x.2.2).sum
/-- a list without repeats, one more -/
def addL (ks : List (List Nat)) (k : List Nat) : List (List Nat) := if k ∈ ks then ks else ks ++ [k]
def tailsF (h : List (List Nat)) : Nat → List Int → List Nat → List (List Nat)
  | 0, u, r => if isE h u r then [[]] else []
  | k + 1, u, r => (nexts h u r).foldl (fun acc x => (tailsF h k x.2.1 x.2.2).foldl (fun acc t => addL acc ((shr h x.1).drop r.length ++ t)) acc) (if isE h u r then [[]] else [])
def rm (h : List (List Nat)) (u : List Int) : Nat := h.length - u.length
def can (h : List (List Nat)) (u : List Int) (r : List Nat) : Bool := canF h (rm h u) u r
def wys (h : List (List Nat)) (u : List Int) (r : List Nat) : Nat := waysF h (rm h u) u r
def tls (h : List (List Nat)) (u : List Int) (r : List Nat) : List (List Nat) := tailsF h (rm h u) u r
/-- the places are different ones of the heap, in order -/
structure Us (h : List (List Nat)) (u : List Int) : Prop where
  lt : u.Pairwise (· < ·)
  ok : PlacesOk h u
theorem perm_ins (u : List Int) (p : Int) : (ins u p).Perm (p :: u) := (List.mergeSort_perm _ _).trans (List.perm_append_comm (l₁ := u) (l₂ := [p]))
theorem ins_length (u : List Int) (p : Int) : (ins u p).length = u.length + 1 := by rw [(perm_ins u p).length_eq, List.length_cons]
theorem ins_us {h : List (List Nat)} {u : List Int} {p : Int} (U : Us h u) (h0 : 0 ≤ p) (h1 : p < h.length) (n : p ∉ u) : Us h (ins u p) := by
  have nd : (ins u p).Nodup := (perm_ins u p).nodup_iff.mpr (List.nodup_cons.mpr ⟨n, U.lt.imp fun h => Int.ne_of_lt h⟩)
  have so : (ins u p).Pairwise fun a b => decide (a ≤ b) = true := List.pairwise_mergeSort (fun a b c h1 h2 => by
    simp only [decide_eq_true_eq] at *
    omega) (fun a b => by
    simp only [Bool.or_eq_true, decide_eq_true_eq]
    omega) _
  refine ⟨?_, fun i hi => ?_⟩
  · refine (so.and nd).imp fun {a b} h => ?_
    have := of_decide_eq_true h.1
    have := h.2
    omega
  · rcases List.mem_cons.mp ((perm_ins u p).mem_iff.mp hi) with rfl | m
    · exact ⟨h0, h1⟩
    · exact U.ok i m
/-- pigeons -/
theorem nodup_le {α : Type} [DecidableEq α] : ∀ (l m : List α), l.Nodup → (∀ x ∈ l, x ∈ m) → l.length ≤ m.length
  | [], _, _, _ => Nat.zero_le _
  | x :: l, m, hn, hs => by
    obtain ⟨h1, h2⟩ := List.nodup_cons.mp hn
    have hx : x ∈ m := hs x List.mem_cons_self
    have ih := nodup_le l (m.erase x) h2 fun y hy => by
      have hne : y ≠ x := fun e => h1 (e ▸ hy)
      exact (List.mem_erase_of_ne hne).2 (hs y (List.mem_cons_of_mem _ hy))
    have e := List.length_erase_of_mem hx
    have hp : 0 < m.length := List.length_pos_of_mem hx
    rw [List.length_cons]
    omega
def rngI (n : Nat) : List Int := (List.range n).map fun (i : Nat) => (i : Int)
theorem rngI_len (n : Nat) : (rngI n).length = n := by simp [rngI]
theorem mem_rngI {n : Nat} {i : Int} : i ∈ rngI n ↔ 0 ≤ i ∧ i < n := by
  unfold rngI
  rw [List.mem_map]
  constructor
  · rintro ⟨a, ha, rfl⟩
    have := List.mem_range.mp ha
    omega
  · intro ⟨h0, h1⟩
    exact ⟨i.toNat, List.mem_range.mpr (by omega), by omega⟩
theorem us_len {h : List (List Nat)} {u : List Int} (U : Us h u) : u.length ≤ h.length := by
  have := nodup_le u (rngI h.length) (U.lt.imp fun h => Int.ne_of_lt h) fun x hx => mem_rngI.mpr (U.ok x hx)
  rwa [rngI_len] at this
theorem us_full {h : List (List Nat)} {u : List Int} (U : Us h u) (e : u.length = h.length) {i : Int} (h0 : 0 ≤ i) (h1 : i < h.length) : i ∈ u := by
  apply Decidable.byContradiction
  intro n
  have := us_len (ins_us U h0 h1 n)
  rw [ins_length] at this
  omega
theorem mem_nexts {h : List (List Nat)} {u : List Int} {r : List Nat} {x : NX} : x ∈ nexts h u r ↔ 0 ≤ x.1 ∧ x.1 < h.length ∧ r ≠ [] ∧ x.1 ∉ u ∧ x.2.1 = ins u x.1 ∧ lo r (shr h x.1) = some x.2.2 := by
  unfold nexts
  rw [List.mem_filterMap]
  constructor
  · rintro ⟨i, hi, e⟩
    unfold nx1 at e
    split at e
    · rename_i c
      obtain ⟨l, hl, e⟩ := Option.map_eq_some_iff.mp e
      subst e
      have := List.mem_range.mp hi
      exact ⟨by simp, by simpa using this, c.1, c.2, rfl, hl⟩
    · cases e
  · rintro ⟨h0, h1, h2, h3, h4, h5⟩
    have e : ((x.1.toNat : Nat) : Int) = x.1 := by omega
    refine ⟨x.1.toNat, List.mem_range.mpr (by omega), ?_⟩
    unfold nx1
    rw [e, if_pos ⟨h2, h3⟩, h5, Option.map_some, ← h4]
theorem next_us {h : List (List Nat)} {u : List Int} {r : List Nat} {x : NX} (U : Us h u) (m : x ∈ nexts h u r) : Us h x.2.1 ∧ x.2.1.length = u.length + 1 ∧ u.length < h.length := by
  obtain ⟨h0, h1, _, h3, h4, _⟩ := mem_nexts.mp m
  have := ins_us U h0 h1 h3
  rw [← h4] at this
  refine ⟨this, by rw [h4, ins_length], ?_⟩
  have := us_len this
  rw [h4, ins_length] at this
  omega
theorem nexts_full {h : List (List Nat)} {u : List Int} {r : List Nat} (U : Us h u) (e : rm h u = 0) : nexts h u r = [] := by
  apply List.eq_nil_iff_forall_not_mem.mpr
  intro x m
  have := (next_us U m).2.2
  unfold rm at e
  omega
theorem next_rm {h : List (List Nat)} {u : List Int} {r : List Nat} {x : NX} (U : Us h u) (m : x ∈ nexts h u r) : rm h u = rm h x.2.1 + 1 := by
  have := next_us U m
  unfold rm
  omega
theorem can_eq {h : List (List Nat)} {u : List Int} {r : List Nat} (U : Us h u) : can h u r = (isE h u r || (nexts h u r).any fun x => can h x.2.1 x.2.2) := by
  unfold can
  cases e : rm h u with
  | zero => rw [nexts_full U e]; simp [canF]
  | succ k =>
    rw [canF]
    congr 1
    apply Bool.eq_iff_iff.mpr
    rw [List.any_eq_true, List.any_eq_true]
    constructor
    · rintro ⟨x, m, hx⟩
      have q := next_rm U m
      refine ⟨x, m, ?_⟩
      rw [show rm h x.2.1 = k by omega]
      exact hx
    · rintro ⟨x, m, hx⟩
      have q := next_rm U m
      refine ⟨x, m, ?_⟩
      rw [show rm h x.2.1 = k by omega] at hx
      exact hx
theorem wys_eq {h : List (List Nat)} {u : List Int} {r : List Nat} (U : Us h u) : wys h u r = (if isE h u r then 1 else 0) + ((nexts h u r).map fun x => wys h x.2.1 x.2.2).sum := by
  unfold wys
  cases e : rm h u with
  | zero => rw [nexts_full U e]; simp [waysF]
  | succ k =>
    rw [waysF]
    congr 2
    refine List.map_congr_left fun x m => ?_
    have q := next_rm U m
    rw [show rm h x.2.1 = k by omega]
def tlsStep (h : List (List Nat)) (r : List Nat) (acc : List (List Nat)) (x : NX) : List (List Nat) := (tls h x.2.1 x.2.2).foldl (fun acc t => addL acc ((shr h x.1).drop r.length ++ t)) acc
theorem foldl_congr {α β : Type} {f g : β → α → β} : ∀ {l : List α} (b : β), (∀ b x, x ∈ l → f b x = g b x) → l.foldl f b = l.foldl g b
  | [], _, _ => rfl
  | x :: l, b, e => by
    rw [List.foldl_cons, List.foldl_cons, e b x List.mem_cons_self]
    exact foldl_congr _ fun b y m => e b y (List.mem_cons_of_mem _ m)
theorem tls_eq {h : List (List Nat)} {u : List Int} {r : List Nat} (U : Us h u) : tls h u r = (nexts h u r).foldl (tlsStep h r) (if isE h u r then [[]] else []) := by
  unfold tls
  cases e : rm h u with
  | zero => rw [nexts_full U e]; simp [tailsF]
  | succ k =>
    rw [tailsF]
    refine foldl_congr _ fun b x m => ?_
    have q := next_rm U m
    unfold tlsStep tls
    rw [show rm h x.2.1 = k by omega]
def begins (h : List (List Nat)) : List (List Int × List Nat) := (List.range h.length).map fun (i : Nat) => ([(i : Int)], shr h i)
def textsU (h : List (List Nat)) : List (List Nat) := (begins h).foldl (fun acc b => (tls h b.1 b.2).foldl (fun acc t => addL acc (b.2 ++ t)) acc) []
def manyW (h : List (List Nat)) : Nat := ((begins h).map fun b => wys h b.1 b.2).sum
/-! ### standings that come -/
def subs {α : Type} : List α → List (List α)
  | [] => [[]]
  | x :: l => subs l ++ (subs l).map (x :: ·)
theorem subs_len {α : Type} (l : List α) : (subs l).length = 2 ^ l.length := by
  induction l with
  | nil => rfl
  | cons x l ih => rw [subs, List.length_append, List.length_map, ih, List.length_cons, Nat.pow_succ]; omega
theorem mem_subs : ∀ {l u : List Int}, l.Pairwise (· < ·) → u.Pairwise (· < ·) → (∀ x ∈ u, x ∈ l) → u ∈ subs l
  | [], [], _, _, _ => List.mem_singleton.mpr rfl
  | [], y :: u, _, _, h => absurd (h y List.mem_cons_self) List.not_mem_nil
  | x :: l, u, hl, hu, h => by
    rw [subs, List.mem_append, List.mem_map]
    rw [List.pairwise_cons] at hl
    cases u with
    | nil => exact .inl (mem_subs hl.2 .nil fun _ m => absurd m List.not_mem_nil)
    | cons y u =>
      rw [List.pairwise_cons] at hu
      by_cases e : y = x
      · subst e
        refine .inr ⟨u, mem_subs hl.2 hu.2 fun z m => ?_, rfl⟩
        rcases List.mem_cons.mp (h z (List.mem_cons_of_mem _ m)) with q | q
        · have := hu.1 z m
          omega
        · exact q
      · refine .inl (mem_subs hl.2 (List.pairwise_cons.mpr hu) fun z m => ?_)
        have hy : y ∈ l := (List.mem_cons.mp (h y List.mem_cons_self)).resolve_left e
        rcases List.mem_cons.mp m with q | q
        · rw [q]; exact hy
        · have h1 := hu.1 z q
          have h2 := hl.1 y hy
          exact (List.mem_cons.mp (h z (List.mem_cons_of_mem _ q))).resolve_left fun w => by omega
theorem rngI_lt (n : Nat) : (rngI n).Pairwise (· < ·) := by
  unfold rngI
  rw [List.pairwise_map]
  exact List.pairwise_lt_range.imp fun h => by omega
/-- a rest that comes: what is behind a place of a shred -/
def Sfx (h : List (List Nat)) (r : List Nat) : Prop := ∃ s ∈ h, ∃ k, r = s.drop k
structure VS (h : List (List Nat)) (u : List Int) (r : List Nat) : Prop where
  us : Us h u
  sf : Sfx h r
def allS (h : List (List Nat)) : List (List Int × List Nat) := (subs (rngI h.length)).flatMap fun u => (h.flatMap fun s => (List.range 12).map s.drop).map fun r => (u, r)
theorem flatMap_len {α β : Type} (f : α → List β) (b : Nat) : ∀ l : List α, (∀ x ∈ l, (f x).length = b) → (l.flatMap f).length = l.length * b
  | [], _ => by simp
  | x :: l, h => by
    rw [List.flatMap_cons, List.length_append, flatMap_len f b l fun y m => h y (List.mem_cons_of_mem _ m), h x List.mem_cons_self, List.length_cons, Nat.succ_mul]
    omega
theorem allS_len {h : List (List Nat)} (s : Small h) : (allS h).length ≤ 60000 := by
  unfold allS
  rw [flatMap_len _ (h.length * 12) _ fun u _ => by rw [List.length_map, flatMap_len _ 12 _ fun x _ => by simp], subs_len, rngI_len]
  have h1 := s.len
  have h2 : 2 ^ h.length ≤ 2 ^ 8 := Nat.pow_le_pow_right (by omega) h1
  calc 2 ^ h.length * (h.length * 12) ≤ 2 ^ 8 * (8 * 12) := Nat.mul_le_mul h2 (by omega)
    _ ≤ 60000 := by decide
theorem mem_allS {h : List (List Nat)} (sm : Small h) {u : List Int} {r : List Nat} (v : VS h u r) : (u, r) ∈ allS h := by
  unfold allS
  rw [List.mem_flatMap]
  refine ⟨u, mem_subs (rngI_lt _) v.us.lt fun x m => mem_rngI.mpr (v.us.ok x m), List.mem_map.mpr ⟨r, ?_, rfl⟩⟩
  obtain ⟨s, hs, k, e⟩ := v.sf
  rw [List.mem_flatMap]
  refine ⟨s, hs, List.mem_map.mpr ?_⟩
  have := sm.each s hs
  by_cases hk : k < 12
  · exact ⟨k, List.mem_range.mpr hk, e.symm⟩
  · refine ⟨11, List.mem_range.mpr (by omega), ?_⟩
    rw [e, List.drop_eq_nil_of_le (by omega : s.length ≤ 11), List.drop_eq_nil_of_le (by omega : s.length ≤ k)]
theorem sfx_le {h : List (List Nat)} (sm : Small h) {r : List Nat} (s : Sfx h r) : r.length ≤ 11 := by
  obtain ⟨s, hs, k, rfl⟩ := s
  have := sm.each s hs
  rw [List.length_drop]
  omega
theorem next_vs {h : List (List Nat)} {u : List Int} {r : List Nat} {x : NX} (v : VS h u r) (m : x ∈ nexts h u r) : VS h x.2.1 x.2.2 := by
  refine ⟨(next_us v.us m).1, ?_⟩
  obtain ⟨h0, h1, _, _, _, hl⟩ := mem_nexts.mp m
  unfold lo at hl
  split at hl
  · obtain ⟨s, hs, k, e⟩ := v.sf
    refine ⟨s, hs, k + (shr h x.1).length, ?_⟩
    rw [← Option.some.inj hl, e, List.drop_drop]
  · split at hl
    · exact ⟨shr h x.1, shr_mem h0 h1, _, (Option.some.inj hl).symm⟩
    · cases hl
theorem begin_vs {h : List (List Nat)} {b : List Int × List Nat} (m : b ∈ begins h) : VS h b.1 b.2 ∧ b.1.length = 1 := by
  unfold begins at m
  obtain ⟨i, hi, rfl⟩ := List.mem_map.mp m
  have hi := List.mem_range.mp hi
  refine ⟨⟨⟨List.pairwise_singleton _ _, fun j hj => ?_⟩, shr h i, shr_mem (by omega) (by omega), 0, rfl⟩, rfl⟩
  rw [List.mem_singleton.mp hj]
  omega
theorem nexts_len {h : List (List Nat)} {u : List Int} {r : List Nat} : (nexts h u r).length ≤ h.length := by
  unfold nexts
  refine Nat.le_trans (List.length_filterMap_le _ _) ?_
  rw [List.length_range]
  exact Nat.le_refl _
/-! ### how many, how long -/
theorem nexts_pl {h : List (List Nat)} {u : List Int} {r : List Nat} : ((nexts h u r).map (·.1)).Nodup := by
  unfold nexts
  have : ∀ n, ((((List.range n).filterMap (nx1 h u r)).map (·.1)).Nodup ∧ ∀ x ∈ (List.range n).filterMap (nx1 h u r), x.1 < (n : Int)) := by
    intro n
    induction n with
    | zero => exact ⟨List.nodup_nil, fun x m => absurd m List.not_mem_nil⟩
    | succ n ih =>
      rw [List.range_succ, List.filterMap_append]
      cases e : nx1 h u r n with
      | none =>
        rw [List.filterMap_cons_none e, List.filterMap_nil, List.append_nil]
        exact ⟨ih.1, fun x m => by have := ih.2 x m; omega⟩
      | some y =>
        rw [List.filterMap_cons_some e, List.filterMap_nil]
        have ey : y.1 = (n : Int) := by
          unfold nx1 at e
          split at e
          · obtain ⟨l, _, rfl⟩ := Option.map_eq_some_iff.mp e
            rfl
          · cases e
        refine ⟨?_, fun x m => ?_⟩
        · rw [List.map_append, List.nodup_append]
          refine ⟨ih.1, List.pairwise_singleton _ _, fun a ha b hb => ?_⟩
          obtain ⟨x, mx, rfl⟩ := List.mem_map.mp ha
          rw [List.mem_singleton.mp hb]
          show x.1 ≠ y.1
          have := ih.2 x mx
          omega
        · rcases List.mem_append.mp m with m | m
          · have := ih.2 x m
            omega
          · rw [List.mem_singleton.mp m, ey]
            omega
  exact (this _).1
theorem nexts_rm {h : List (List Nat)} {u : List Int} {r : List Nat} (U : Us h u) : (nexts h u r).length ≤ rm h u := by
  have := nodup_le ((nexts h u r).map (·.1) ++ u) (rngI h.length) (by
    rw [List.nodup_append]
    refine ⟨nexts_pl, U.lt.imp fun h => Int.ne_of_lt h, fun a ha b hb => ?_⟩
    obtain ⟨x, mx, rfl⟩ := List.mem_map.mp ha
    intro e
    exact (mem_nexts.mp mx).2.2.2.1 (e ▸ hb)) fun x m => by
      rcases List.mem_append.mp m with m | m
      · obtain ⟨y, my, rfl⟩ := List.mem_map.mp m
        exact mem_rngI.mpr ⟨(mem_nexts.mp my).1, (mem_nexts.mp my).2.1⟩
      · exact mem_rngI.mpr (U.ok x m)
  rw [List.length_append, List.length_map, rngI_len] at this
  unfold rm
  omega
theorem isE_nexts {h : List (List Nat)} {u : List Int} {r : List Nat} (e : isE h u r = true) : nexts h u r = [] := by
  unfold isE at e
  rw [Bool.and_eq_true, decide_eq_true_eq, decide_eq_true_eq] at e
  apply List.eq_nil_iff_forall_not_mem.mpr
  intro x m
  exact (mem_nexts.mp m).2.2.1 e.2
def addAll {α : Type} (f : α → List Nat) (acc : List (List Nat)) (ts : List α) : List (List Nat) := ts.foldl (fun acc t => addL acc (f t)) acc
theorem addL_len (a : List (List Nat)) (k : List Nat) : (addL a k).length ≤ a.length + 1 := by
  unfold addL
  split
  · omega
  · simp
theorem mem_addL {a : List (List Nat)} {k x : List Nat} : x ∈ addL a k ↔ x ∈ a ∨ x = k := by
  unfold addL
  split
  · rename_i h
    exact ⟨.inl, fun q => q.elim id fun e => e ▸ h⟩
  · rw [List.mem_append, List.mem_singleton]
theorem addAll_len {α : Type} (f : α → List Nat) : ∀ (ts : List α) (acc : List (List Nat)), (addAll f acc ts).length ≤ acc.length + ts.length
  | [], acc => Nat.le_refl _
  | t :: ts, acc => by
    have h1 := addAll_len f ts (addL acc (f t))
    have h2 := addL_len acc (f t)
    show (addAll f (addL acc (f t)) ts).length ≤ _
    rw [List.length_cons]
    omega
theorem mem_addAll {α : Type} {f : α → List Nat} {x : List Nat} : ∀ {ts : List α} {acc : List (List Nat)}, x ∈ addAll f acc ts ↔ x ∈ acc ∨ ∃ t ∈ ts, x = f t
  | [], acc => ⟨.inl, fun q => q.elim id fun ⟨_, m, _⟩ => absurd m List.not_mem_nil⟩
  | t :: ts, acc => by
    show x ∈ addAll f (addL acc (f t)) ts ↔ _
    rw [mem_addAll (ts := ts), mem_addL]
    constructor
    · rintro ((h | h) | ⟨s, m, e⟩)
      · exact .inl h
      · exact .inr ⟨t, List.mem_cons_self, h⟩
      · exact .inr ⟨s, List.mem_cons_of_mem _ m, e⟩
    · rintro (h | ⟨s, m, e⟩)
      · exact .inl (.inl h)
      · rcases List.mem_cons.mp m with rfl | m
        · exact .inl (.inr e)
        · exact .inr ⟨s, m, e⟩
theorem nodup_addL {a : List (List Nat)} {k : List Nat} (h : a.Nodup) : (addL a k).Nodup := by
  unfold addL
  split
  · exact h
  · rename_i n
    rw [List.nodup_append]
    refine ⟨h, List.pairwise_singleton _ _, fun x hx b hb e => n ?_⟩
    rw [← List.mem_singleton.mp hb, ← e]
    exact hx
theorem nodup_addAll {α : Type} {f : α → List Nat} : ∀ {ts : List α} {acc : List (List Nat)}, acc.Nodup → (addAll f acc ts).Nodup
  | [], _, h => h
  | t :: ts, acc, h => nodup_addAll (ts := ts) (nodup_addL h)
theorem tlsStep_eq (h : List (List Nat)) (r : List Nat) (acc : List (List Nat)) (x : NX) : tlsStep h r acc x = addAll (fun t => (shr h x.1).drop r.length ++ t) acc (tls h x.2.1 x.2.2) := rfl
theorem mem_tlsFold {h : List (List Nat)} {r : List Nat} {t : List Nat} : ∀ {l : List NX} {acc : List (List Nat)}, t ∈ l.foldl (tlsStep h r) acc ↔ t ∈ acc ∨ ∃ x ∈ l, ∃ t' ∈ tls h x.2.1 x.2.2, t = (shr h x.1).drop r.length ++ t'
  | [], acc => ⟨.inl, fun q => q.elim id fun ⟨_, m, _⟩ => absurd m List.not_mem_nil⟩
  | x :: l, acc => by
    rw [List.foldl_cons, mem_tlsFold (l := l), tlsStep_eq, mem_addAll]
    constructor
    · rintro ((h | h) | ⟨s, m, e⟩)
      · exact .inl h
      · exact .inr ⟨x, List.mem_cons_self, h⟩
      · exact .inr ⟨s, List.mem_cons_of_mem _ m, e⟩
    · rintro (h | ⟨s, m, e⟩)
      · exact .inl (.inl h)
      · rcases List.mem_cons.mp m with rfl | m
        · exact .inl (.inr e)
        · exact .inr ⟨s, m, e⟩
theorem nodup_tlsFold {h : List (List Nat)} {r : List Nat} : ∀ {l : List NX} {acc : List (List Nat)}, acc.Nodup → (l.foldl (tlsStep h r) acc).Nodup
  | [], _, a => a
  | x :: l, acc, a => by
    rw [List.foldl_cons]
    exact nodup_tlsFold (by rw [tlsStep_eq]; exact nodup_addAll a)
theorem mem_tls {h : List (List Nat)} {u : List Int} {r t : List Nat} (U : Us h u) : t ∈ tls h u r ↔ (isE h u r = true ∧ t = []) ∨ ∃ x ∈ nexts h u r, ∃ t' ∈ tls h x.2.1 x.2.2, t = (shr h x.1).drop r.length ++ t' := by
  rw [tls_eq U, mem_tlsFold]
  refine or_congr ?_ Iff.rfl
  split
  · rename_i e
    simp [e]
  · rename_i e
    simp [e]
theorem nodup_tls {h : List (List Nat)} {u : List Int} {r : List Nat} (U : Us h u) : (tls h u r).Nodup := by
  rw [tls_eq U]
  refine nodup_tlsFold ?_
  split
  · exact List.pairwise_singleton _ _
  · exact List.nodup_nil
def fac : Nat → Nat
  | 0 => 1
  | n + 1 => (n + 1) * fac n
theorem fac_pos : ∀ n, 1 ≤ fac n
  | 0 => Nat.le_refl _
  | n + 1 => by
    have := fac_pos n
    show 1 ≤ (n + 1) * fac n
    exact Nat.mul_le_mul (by omega : 1 ≤ n + 1) this
theorem fac_le {m n : Nat} (h : m ≤ n) : fac m ≤ fac n := by
  induction h with
  | refl => exact Nat.le_refl _
  | step _ ih =>
    refine Nat.le_trans ih ?_
    show _ ≤ _ * _
    exact Nat.le_mul_of_pos_left _ (by omega)
theorem tlsFold_len {h : List (List Nat)} {r : List Nat} {b : Nat} : ∀ {l : List NX} {acc : List (List Nat)}, (∀ x ∈ l, (tls h x.2.1 x.2.2).length ≤ b) → (l.foldl (tlsStep h r) acc).length ≤ acc.length + l.length * b
  | [], _, _ => by simp
  | x :: l, acc, hb => by
    rw [List.foldl_cons]
    refine Nat.le_trans (tlsFold_len (l := l) fun y m => hb y (List.mem_cons_of_mem _ m)) ?_
    rw [tlsStep_eq]
    have h1 := addAll_len (fun t => (shr h x.1).drop r.length ++ t) (tls h x.2.1 x.2.2) acc
    have h2 := hb x List.mem_cons_self
    rw [List.length_cons, Nat.succ_mul]
    omega
theorem tls_len {h : List (List Nat)} : ∀ (n : Nat) {u : List Int} {r : List Nat}, Us h u → rm h u = n → (tls h u r).length ≤ fac n := by
  intro n
  induction n with
  | zero =>
    intro u r U e
    rw [tls_eq U, nexts_full U e]
    show (if isE h u r then [[]] else ([] : List (List Nat))).length ≤ 1
    split <;> simp
  | succ n ih =>
    intro u r U e
    rw [tls_eq U]
    cases q : isE h u r with
    | true =>
      rw [isE_nexts q]
      exact fac_pos _
    | false =>
      have h1 := tlsFold_len (h := h) (r := r) (b := fac n) (l := nexts h u r) (acc := []) fun x m => ih (next_us U m).1 (by have := next_rm U m; omega)
      have h2 := nexts_rm (r := r) U
      rw [e] at h2
      show _ ≤ (n + 1) * fac n
      have h3 := Nat.mul_le_mul_right (fac n) h2
      rw [List.length_nil] at h1
      rw [if_neg Bool.false_ne_true]
      omega
theorem tls_each {h : List (List Nat)} (s : Small h) : ∀ (n : Nat) {u : List Int} {r t : List Nat}, Us h u → rm h u = n → t ∈ tls h u r → t.length ≤ 11 * n := by
  intro n
  induction n with
  | zero =>
    intro u r t U e m
    rcases (mem_tls U).mp m with ⟨_, rfl⟩ | ⟨x, mx, _⟩
    · exact Nat.zero_le _
    · rw [nexts_full U e] at mx
      exact absurd mx List.not_mem_nil
  | succ n ih =>
    intro u r t U e m
    rcases (mem_tls U).mp m with ⟨_, rfl⟩ | ⟨x, mx, t', mt, rfl⟩
    · exact Nat.zero_le _
    · have h1 := ih (next_us U mx).1 (by have := next_rm U mx; omega) mt
      have h2 := shr_le s x.1
      rw [List.length_append, List.length_drop]
      omega
theorem rm_le {h : List (List Nat)} (s : Small h) (u : List Int) : rm h u ≤ 8 := by
  have := s.len
  unfold rm
  omega
theorem tls_small {h : List (List Nat)} (s : Small h) {u : List Int} {r : List Nat} (U : Us h u) : (tls h u r).length ≤ 40320 := Nat.le_trans (tls_len _ U rfl) (fac_le (rm_le s u))
theorem tls_short {h : List (List Nat)} (s : Small h) {u : List Int} {r t : List Nat} (U : Us h u) (m : t ∈ tls h u r) : t.length ≤ 88 := by
  have h1 := tls_each s _ U rfl m
  have h2 := rm_le s u
  omega
end Tt

namespace Tt
/-! ### completions -/
abbrev LY := List Int × List Int
def stp (h : List (List Nat)) (r : List Nat) (p : Int) (c : LY) : LY := if (shr h p).isPrefixOf r then (c.1, p :: c.2) else (c.2, p :: c.1)
def cmpF (h : List (List Nat)) : Nat → List Int → List Nat → List LY
  | 0, u, r => if isE h u r then [([], [])] else []
  | k + 1, u, r => (if isE h u r then [([], [])] else []) ++ (nexts h u r).flatMap fun x => (cmpF h k x.2.1 x.2.2).map (stp h r x.1)
def cmp (h : List (List Nat)) (u : List Int) (r : List Nat) : List LY := cmpF h (rm h u) u r
theorem flatMap_congr' {α β : Type} {f g : α → List β} : ∀ {l : List α}, (∀ x ∈ l, f x = g x) → l.flatMap f = l.flatMap g
  | [], _ => rfl
  | x :: l, h => by rw [List.flatMap_cons, List.flatMap_cons, h x List.mem_cons_self, flatMap_congr' fun y m => h y (List.mem_cons_of_mem _ m)]
theorem cmp_eq {h : List (List Nat)} {u : List Int} {r : List Nat} (U : Us h u) : cmp h u r = (if isE h u r then [([], [])] else []) ++ (nexts h u r).flatMap fun x => (cmp h x.2.1 x.2.2).map (stp h r x.1) := by
  unfold cmp
  cases e : rm h u with
  | zero => rw [nexts_full U e]; simp [cmpF]
  | succ k =>
    rw [cmpF]
    congr 1
    refine flatMap_congr' fun x m => ?_
    have q := next_rm U m
    rw [show rm h x.2.1 = k by omega]
theorem mem_cmp_eq {h : List (List Nat)} {u : List Int} {r : List Nat} {c : LY} (U : Us h u) : c ∈ cmp h u r ↔ (isE h u r = true ∧ c = ([], [])) ∨ ∃ x ∈ nexts h u r, ∃ c' ∈ cmp h x.2.1 x.2.2, c = stp h r x.1 c' := by
  rw [cmp_eq U, List.mem_append, List.mem_flatMap]
  refine or_congr ?_ ⟨fun ⟨x, m, hc⟩ => ?_, fun ⟨x, m, c', m', e⟩ => ⟨x, m, List.mem_map.mpr ⟨c', m', e.symm⟩⟩⟩
  · split
    · rename_i e
      simp [e]
    · rename_i e
      simp [e]
  · obtain ⟨c', m', e⟩ := List.mem_map.mp hc
    exact ⟨x, m, c', m', e.symm⟩
structure Cp (h : List (List Nat)) (u : List Int) (r : List Nat) (P Q : List Int) : Prop where
  pm : (u ++ (P ++ Q)).Perm (rngI h.length)
  tx : r ++ joinT h P = joinT h Q
  nc : ∀ i < P.length, ∀ j < Q.length, r.length + (joinT h (P.take i)).length ≠ (joinT h (Q.take j)).length
theorem rngI_nodup (n : Nat) : (rngI n).Nodup := (rngI_lt n).imp fun h => Int.ne_of_lt h
theorem us_perm {h : List (List Nat)} {u : List Int} (U : Us h u) (e : u.length = h.length) : u.Perm (rngI h.length) := by
  rw [List.perm_ext_iff_of_nodup (U.lt.imp fun h => Int.ne_of_lt h) (rngI_nodup _)]
  intro i
  rw [mem_rngI]
  exact ⟨U.ok i, fun q => us_full U e q.1 q.2⟩
theorem len0 {α : Type} {l : List α} (h : l ≠ []) : 0 < l.length := List.length_pos_iff.mpr h
section
variable {h : List (List Nat)}
theorem shr_ne (ne : ∀ s ∈ h, s ≠ []) {p : Int} (h0 : 0 ≤ p) (h1 : p < h.length) : shr h p ≠ [] := ne _ (shr_mem h0 h1)
theorem joinT_ne (ne : ∀ s ∈ h, s ≠ []) {p : Int} {l : List Int} (h0 : 0 ≤ p) (h1 : p < h.length) : joinT h (p :: l) ≠ [] := by
  rw [joinT_cons]
  intro e
  exact shr_ne ne h0 h1 (List.append_eq_nil_iff.mp e).1
theorem pm_cons {u P Q : List Int} {p : Int} {R : List Int} (q : (u ++ (P ++ p :: Q)).Perm R) : (ins u p ++ (P ++ Q)).Perm R :=
  ((perm_ins u p).append_right _).trans ((List.perm_middle (l₁ := u ++ P)).symm.trans (by simpa using q) |> fun z => (by simpa using z))
theorem cmp_step (ne : ∀ s ∈ h, s ≠ []) {u : List Int} {r : List Nat} (U : Us h u) (ih : ∀ x ∈ nexts h u r, ∀ c, c ∈ cmp h x.2.1 x.2.2 ↔ Cp h x.2.1 x.2.2 c.1 c.2) (c : LY) : c ∈ cmp h u r ↔ Cp h u r c.1 c.2 := by
  rw [mem_cmp_eq U]
  constructor
  · rintro (⟨e, rfl⟩ | ⟨x, mx, c', mc, rfl⟩)
    · unfold isE at e
      rw [Bool.and_eq_true, decide_eq_true_eq, decide_eq_true_eq] at e
      exact ⟨by simpa using us_perm U e.1, by rw [e.2]; rfl, fun i hi => absurd hi (Nat.not_lt_zero _)⟩
    · have k := (ih x mx c').mp mc
      obtain ⟨h0, h1, hr, hu, e1, el⟩ := mem_nexts.mp mx
      have rl := len0 hr
      have pm : ∀ A B, (x.2.1 ++ (A ++ B)).Perm (rngI h.length) → (u ++ (A ++ x.1 :: B)).Perm (rngI h.length) := fun A B q => by
        rw [e1] at q
        refine List.Perm.trans ?_ q
        have z1 : (u ++ (A ++ x.1 :: B)).Perm (x.1 :: (u ++ (A ++ B))) := by
          rw [← List.append_assoc, ← List.append_assoc]
          exact List.perm_middle
        exact z1.trans ((perm_ins u x.1).symm.append_right _)
      unfold stp
      by_cases hp : (shr h x.1).isPrefixOf r = true
      · rw [if_pos hp]
        unfold lo at el
        rw [if_pos hp] at el
        have e2 := Option.some.inj el
        obtain ⟨w, hw⟩ := List.isPrefixOf_iff_prefix.mp hp
        have ew : x.2.2 = w := by rw [← e2, ← hw, List.drop_left]
        refine ⟨pm _ _ k.pm, ?_, fun i hi j hj => ?_⟩
        · show r ++ joinT h c'.1 = joinT h (x.1 :: c'.2)
          rw [joinT_cons, ← k.tx, ew, ← hw, List.append_assoc]
        · cases j with
          | zero => show r.length + _ ≠ (joinT h []).length; rw [joinT_nil]; simp only [List.length_nil]; omega
          | succ j =>
            have := k.nc i hi j (by simpa using hj)
            show r.length + (joinT h (c'.1.take i)).length ≠ (joinT h ((x.1 :: c'.2).take (j + 1))).length
            rw [List.take_succ_cons, joinT_cons, List.length_append]
            rw [ew] at this
            have e3 : r.length = (shr h x.1).length + w.length := by rw [← hw, List.length_append]
            omega
      · rw [if_neg hp]
        unfold lo at el
        rw [if_neg hp] at el
        split at el
        · rename_i hq
          have e2 := Option.some.inj el
          obtain ⟨w, hw⟩ := List.isPrefixOf_iff_prefix.mp hq
          have ew : x.2.2 = w := by rw [← e2, ← hw, List.drop_left]
          refine ⟨pm _ _ (List.Perm.trans (List.Perm.append_left _ List.perm_append_comm) k.pm), ?_, fun i hi j hj => ?_⟩
          · show r ++ joinT h c'.2 = joinT h (x.1 :: c'.1)
            rw [joinT_cons, ← k.tx, ew, ← hw, List.append_assoc]
          · cases j with
            | zero => show r.length + _ ≠ (joinT h []).length; rw [joinT_nil]; simp only [List.length_nil]; omega
            | succ j =>
              have := k.nc j (by simpa using hj) i hi
              show r.length + (joinT h (c'.2.take i)).length ≠ (joinT h ((x.1 :: c'.1).take (j + 1))).length
              rw [List.take_succ_cons, joinT_cons, List.length_append]
              rw [ew] at this
              have e3 : (shr h x.1).length = r.length + w.length := by rw [← hw, List.length_append]
              omega
        · cases el
  · intro k
    obtain ⟨P, Q⟩ := c
    have k : Cp h u r P Q := k
    have inr : ∀ p, p ∈ P ∨ p ∈ Q → 0 ≤ p ∧ p < h.length := fun p m => mem_rngI.mp (k.pm.mem_iff.mp (List.mem_append_right _ (List.mem_append.mpr m)))
    by_cases hr : r = []
    · subst hr
      refine .inl ?_
      cases P with
      | nil =>
        cases Q with
        | nil =>
          refine ⟨?_, rfl⟩
          have := k.pm.length_eq
          rw [rngI_len] at this
          unfold isE
          rw [Bool.and_eq_true, decide_eq_true_eq, decide_eq_true_eq]
          exact ⟨by simpa using this, rfl⟩
        | cons q Q =>
          obtain ⟨h0, h1⟩ := inr q (.inr List.mem_cons_self)
          exact absurd k.tx.symm (joinT_ne ne h0 h1)
      | cons p P =>
        cases Q with
        | nil =>
          obtain ⟨h0, h1⟩ := inr p (.inl List.mem_cons_self)
          exact absurd k.tx (joinT_ne ne h0 h1)
        | cons q Q => exact absurd rfl (k.nc 0 (by simp) 0 (by simp))
    · refine .inr ?_
      cases Q with
      | nil =>
        have := k.tx
        exact absurd (List.append_eq_nil_iff.mp this).1 hr
      | cons p Q =>
        obtain ⟨h0, h1⟩ := inr p (.inr List.mem_cons_self)
        have nd : (u ++ (P ++ p :: Q)).Nodup := k.pm.nodup_iff.mpr (rngI_nodup _)
        have pu : p ∉ u := fun m => (List.nodup_append.mp nd).2.2 p m p (List.mem_append_right _ List.mem_cons_self) rfl
        have pm : (ins u p ++ (P ++ Q)).Perm (rngI h.length) := by
          refine List.Perm.trans ?_ k.pm
          have z1 : (u ++ (P ++ p :: Q)).Perm (p :: (u ++ (P ++ Q))) := by
            rw [← List.append_assoc, ← List.append_assoc]
            exact List.perm_middle
          exact ((perm_ins u p).append_right _).trans z1.symm
        have tx := k.tx
        rw [joinT_cons] at tx
        by_cases hp : (shr h p).isPrefixOf r = true
        · obtain ⟨w, hw⟩ := List.isPrefixOf_iff_prefix.mp hp
          have el : lo r (shr h p) = some w := by
            unfold lo
            rw [if_pos hp, ← hw, List.drop_left]
          have mx : (p, ins u p, w) ∈ nexts h u r := mem_nexts.mpr ⟨h0, h1, hr, pu, rfl, el⟩
          refine ⟨_, mx, (P, Q), (ih _ mx _).mpr ⟨pm, ?_, fun i hi j hj => ?_⟩, ?_⟩
          · rw [← hw, List.append_assoc] at tx
            exact List.append_cancel_left tx
          · have := k.nc i hi (j + 1) (by simpa using hj)
            rw [List.take_succ_cons, joinT_cons, List.length_append] at this
            have e3 : r.length = (shr h p).length + w.length := by rw [← hw, List.length_append]
            show w.length + (joinT h (P.take i)).length ≠ (joinT h (Q.take j)).length
            omega
          · unfold stp
            rw [if_pos hp]
        · have hq : ∃ w, r ++ w = shr h p := by
            rcases List.append_eq_append_iff.mp tx with ⟨a, e1, e2⟩ | ⟨a, e1, e2⟩
            · exact ⟨a, e1.symm⟩
            · exact absurd (List.isPrefixOf_iff_prefix.mpr ⟨a, e1.symm⟩) hp
          obtain ⟨w, hw⟩ := hq
          have el : lo r (shr h p) = some w := by
            unfold lo
            rw [if_neg hp, if_pos (List.isPrefixOf_iff_prefix.mpr ⟨w, hw⟩), ← hw, List.drop_left]
          have mx : (p, ins u p, w) ∈ nexts h u r := mem_nexts.mpr ⟨h0, h1, hr, pu, rfl, el⟩
          refine ⟨_, mx, (Q, P), (ih _ mx _).mpr ⟨(List.Perm.append_left _ List.perm_append_comm).trans pm, ?_, fun i hi j hj => ?_⟩, ?_⟩
          · rw [← hw, List.append_assoc] at tx
            exact (List.append_cancel_left tx).symm
          · have := k.nc j hj (i + 1) (by simpa using hi)
            rw [List.take_succ_cons, joinT_cons, List.length_append] at this
            have e3 : (shr h p).length = r.length + w.length := by rw [← hw, List.length_append]
            show w.length + (joinT h (Q.take i)).length ≠ (joinT h (P.take j)).length
            omega
          · unfold stp
            rw [if_neg hp]
theorem mem_cmp (ne : ∀ s ∈ h, s ≠ []) : ∀ (n : Nat) {u : List Int} {r : List Nat}, Us h u → rm h u = n → ∀ c, c ∈ cmp h u r ↔ Cp h u r c.1 c.2
  | 0, u, r, U, e => cmp_step ne U fun x m => by rw [nexts_full U e] at m; exact absurd m List.not_mem_nil
  | n + 1, u, r, U, e => cmp_step ne U fun x m => mem_cmp ne n (next_us U m).1 (by have := next_rm U m; omega)
theorem stp_inj {r : List Nat} {p q : Int} {c d : LY} (e : stp h r p c = stp h r q d) : p = q ∧ c = d := by
  unfold stp at e
  by_cases z : p = q
  · subst z
    refine ⟨rfl, ?_⟩
    split at e
    · simp only [Prod.mk.injEq, List.cons.injEq, true_and] at e
      exact Prod.ext e.1 e.2
    · simp only [Prod.mk.injEq, List.cons.injEq, true_and] at e
      exact Prod.ext e.2 e.1
  · exfalso
    apply z
    split at e <;> split at e <;> simp only [Prod.mk.injEq, List.cons.injEq] at e <;> exact e.2.1
theorem nodup_cmp : ∀ (n : Nat) {u : List Int} {r : List Nat}, Us h u → rm h u = n → (cmp h u r).Nodup := by
  have step : ∀ {u : List Int} {r : List Nat}, Us h u → (∀ x ∈ nexts h u r, (cmp h x.2.1 x.2.2).Nodup) → (cmp h u r).Nodup := by
    intro u r U ih
    rw [cmp_eq U]
    by_cases e : isE h u r = true
    · rw [isE_nexts e, if_pos e]
      simp
    · rw [if_neg e, List.nil_append]
      show List.Pairwise _ _
      rw [List.pairwise_flatMap]
      refine ⟨fun x m => ?_, ?_⟩
      · rw [List.pairwise_map]
        exact (ih x m).imp fun hne z => hne (stp_inj z).2
      · have := nexts_pl (h := h) (u := u) (r := r)
        unfold List.Nodup at this
        rw [List.pairwise_map] at this
        refine this.imp fun {x y} hne a ha b hb z => ?_
        obtain ⟨c, _, rfl⟩ := List.mem_map.mp ha
        obtain ⟨d, _, rfl⟩ := List.mem_map.mp hb
        exact hne (stp_inj z).1
  intro n
  induction n with
  | zero => exact fun U e => step U fun x m => by rw [nexts_full U e] at m; exact absurd m List.not_mem_nil
  | succ n ih => exact fun U e => step U fun x m => ih (next_us U m).1 (by have := next_rm U m; omega)
theorem wys_cmp : ∀ (n : Nat) {u : List Int} {r : List Nat}, Us h u → rm h u = n → wys h u r = (cmp h u r).length := by
  have step : ∀ {u : List Int} {r : List Nat}, Us h u → (∀ x ∈ nexts h u r, wys h x.2.1 x.2.2 = (cmp h x.2.1 x.2.2).length) → wys h u r = (cmp h u r).length := by
    intro u r U ih
    rw [cmp_eq U, wys_eq U, List.length_append, List.length_flatMap]
    congr 1
    · split <;> rfl
    · congr 1
      refine List.map_congr_left fun x m => ?_
      rw [ih x m, List.length_map]
  intro n
  induction n with
  | zero => exact fun U e => step U fun x m => by rw [nexts_full U e] at m; exact absurd m List.not_mem_nil
  | succ n ih => exact fun U e => step U fun x m => ih (next_us U m).1 (by have := next_rm U m; omega)
theorem can_cmp : ∀ (n : Nat) {u : List Int} {r : List Nat}, Us h u → rm h u = n → (can h u r = true ↔ ∃ c, c ∈ cmp h u r) := by
  have step : ∀ {u : List Int} {r : List Nat}, Us h u → (∀ x ∈ nexts h u r, (can h x.2.1 x.2.2 = true ↔ ∃ c, c ∈ cmp h x.2.1 x.2.2)) → (can h u r = true ↔ ∃ c, c ∈ cmp h u r) := by
    intro u r U ih
    rw [can_eq U, Bool.or_eq_true, List.any_eq_true]
    constructor
    · rintro (e | ⟨x, m, hx⟩)
      · exact ⟨_, (mem_cmp_eq U).mpr (.inl ⟨e, rfl⟩)⟩
      · obtain ⟨c, mc⟩ := (ih x m).mp hx
        exact ⟨_, (mem_cmp_eq U).mpr (.inr ⟨x, m, c, mc, rfl⟩)⟩
    · rintro ⟨c, mc⟩
      rcases (mem_cmp_eq U).mp mc with ⟨e, _⟩ | ⟨x, m, c', mc', _⟩
      · exact .inl e
      · exact .inr ⟨x, m, (ih x m).mpr ⟨c', mc'⟩⟩
  intro n
  induction n with
  | zero => exact fun U e => step U fun x m => by rw [nexts_full U e] at m; exact absurd m List.not_mem_nil
  | succ n ih => exact fun U e => step U fun x m => ih (next_us U m).1 (by have := next_rm U m; omega)
/-- the tails are the texts of what is ahead -/
theorem tls_cmp (ne : ∀ s ∈ h, s ≠ []) : ∀ (n : Nat) {u : List Int} {r : List Nat}, Us h u → rm h u = n → ∀ t, (t ∈ tls h u r ↔ ∃ c ∈ cmp h u r, t = joinT h c.1) := by
  have step : ∀ {u : List Int} {r : List Nat}, Us h u → (∀ x ∈ nexts h u r, ∀ t, (t ∈ tls h x.2.1 x.2.2 ↔ ∃ c ∈ cmp h x.2.1 x.2.2, t = joinT h c.1)) → ∀ t, (t ∈ tls h u r ↔ ∃ c ∈ cmp h u r, t = joinT h c.1) := by
    intro u r U ih t
    have key : ∀ x ∈ nexts h u r, ∀ c ∈ cmp h x.2.1 x.2.2, (shr h x.1).drop r.length ++ joinT h c.1 = joinT h (stp h r x.1 c).1 := by
      intro x mx c mc
      have k := (mem_cmp ne _ (next_us U mx).1 rfl c).mp mc
      obtain ⟨h0, h1, hr, hu, e1, el⟩ := mem_nexts.mp mx
      unfold stp
      by_cases hp : (shr h x.1).isPrefixOf r = true
      · rw [if_pos hp]
        have := (List.isPrefixOf_iff_prefix.mp hp).length_le
        rw [List.drop_eq_nil_of_le this]
        rfl
      · rw [if_neg hp]
        unfold lo at el
        rw [if_neg hp] at el
        split at el
        · show _ = joinT h c.2
          rw [Option.some.inj el, ← k.tx]
        · cases el
    rw [mem_tls U]
    constructor
    · rintro (⟨e, rfl⟩ | ⟨x, m, t', mt, rfl⟩)
      · exact ⟨_, (mem_cmp_eq U).mpr (.inl ⟨e, rfl⟩), rfl⟩
      · obtain ⟨c, mc, rfl⟩ := (ih x m t').mp mt
        exact ⟨_, (mem_cmp_eq U).mpr (.inr ⟨x, m, c, mc, rfl⟩), key x m c mc⟩
    · rintro ⟨c, mc, rfl⟩
      rcases (mem_cmp_eq U).mp mc with ⟨e, rfl⟩ | ⟨x, m, c', mc', rfl⟩
      · exact .inl ⟨e, rfl⟩
      · exact .inr ⟨x, m, _, (ih x m _).mpr ⟨c', mc', rfl⟩, (key x m c' mc').symm⟩
  intro n
  induction n with
  | zero => exact fun U e => step U fun x m => by rw [nexts_full U e] at m; exact absurd m List.not_mem_nil
  | succ n ih => exact fun U e => step U fun x m => ih (next_us U m).1 (by have := next_rm U m; omega)
/-! ### all layings, ordered -/
def ordL (h : List (List Nat)) : List LY := (begins h).flatMap fun b => (cmp h b.1 b.2).map fun c => (b.1 ++ c.1, c.2)
structure Lay (h : List (List Nat)) (A B : List Int) : Prop where
  ne : A ≠ []
  pm : (A ++ B).Perm (rngI h.length)
  tx : joinT h A = joinT h B
  nc : ∀ i j, 0 < i → i < A.length → j < B.length → (joinT h (A.take i)).length ≠ (joinT h (B.take j)).length
theorem mem_begins {b : List Int × List Nat} : b ∈ begins h ↔ ∃ p : Int, 0 ≤ p ∧ p < h.length ∧ b = ([p], shr h p) := by
  unfold begins
  rw [List.mem_map]
  constructor
  · rintro ⟨i, hi, rfl⟩
    have := List.mem_range.mp hi
    exact ⟨i, by omega, by omega, rfl⟩
  · rintro ⟨p, h0, h1, rfl⟩
    refine ⟨p.toNat, List.mem_range.mpr (by omega), ?_⟩
    rw [Int.toNat_of_nonneg h0]
theorem mem_ordL (ne : ∀ s ∈ h, s ≠ []) {L : LY} : L ∈ ordL h ↔ Lay h L.1 L.2 := by
  unfold ordL
  rw [List.mem_flatMap]
  constructor
  · rintro ⟨b, mb, ml⟩
    obtain ⟨c, mc, rfl⟩ := List.mem_map.mp ml
    have v := (begin_vs mb).1
    have k := (mem_cmp ne _ v.us rfl c).mp mc
    obtain ⟨p, h0, h1, rfl⟩ := mem_begins.mp mb
    refine ⟨by simp, by simpa using k.pm, ?_, fun i j i0 hi hj => ?_⟩
    · show joinT h ([p] ++ c.1) = joinT h c.2
      rw [joinT_app, ← k.tx]
      congr 1
      simp [joinT]
    · cases i with
      | zero => omega
      | succ i =>
        have := k.nc i (by simpa using hi) j hj
        show (joinT h ((p :: c.1).take (i + 1))).length ≠ _
        rw [List.take_succ_cons, joinT_cons, List.length_append]
        exact this
  · intro k
    obtain ⟨A, B⟩ := L
    have k : Lay h A B := k
    cases A with
    | nil => exact absurd rfl k.ne
    | cons p A =>
      obtain ⟨h0, h1⟩ := mem_rngI.mp (k.pm.mem_iff.mp (List.mem_append_left _ List.mem_cons_self))
      have mb : ([p], shr h p) ∈ begins h := mem_begins.mpr ⟨p, h0, h1, rfl⟩
      refine ⟨_, mb, List.mem_map.mpr ⟨(A, B), (mem_cmp ne _ (begin_vs mb).1.us rfl _).mpr ⟨by simpa using k.pm, ?_, fun i hi j hj => ?_⟩, rfl⟩⟩
      · rw [← joinT_cons]
        exact k.tx
      · have := k.nc (i + 1) j (by omega) (by simpa using hi) hj
        rw [List.take_succ_cons, joinT_cons, List.length_append] at this
        exact this
theorem nodup_ordL : (ordL h).Nodup := by
  unfold ordL
  show List.Pairwise _ _
  rw [List.pairwise_flatMap]
  refine ⟨fun b mb => ?_, ?_⟩
  · rw [List.pairwise_map]
    exact (nodup_cmp _ (begin_vs mb).1.us rfl).imp fun {c d} hne z => by
      simp only [Prod.mk.injEq] at z
      exact hne (Prod.ext (List.append_cancel_left z.1) z.2)
  · unfold begins
    rw [List.pairwise_map]
    refine List.nodup_range.imp fun {i j} hne a ha b hb z => ?_
    obtain ⟨c, _, rfl⟩ := List.mem_map.mp ha
    obtain ⟨d, _, rfl⟩ := List.mem_map.mp hb
    have := congrArg Prod.fst z
    simp only [List.cons_append, List.nil_append, List.cons.injEq] at this
    omega
theorem manyW_eq : manyW h = (ordL h).length := by
  unfold manyW ordL
  rw [List.length_flatMap]
  congr 1
  refine List.map_congr_left fun b mb => ?_
  rw [List.length_map, wys_cmp _ (begin_vs mb).1.us rfl]
theorem lay_swap (ne : ∀ s ∈ h, s ≠ []) {A B : List Int} (l : Lay h A B) : Lay h B A := by
  have hA : joinT h A ≠ [] := by
    cases A with
    | nil => exact absurd rfl l.ne
    | cons p A =>
      obtain ⟨h0, h1⟩ := mem_rngI.mp (l.pm.mem_iff.mp (List.mem_append_left _ List.mem_cons_self))
      exact joinT_ne ne h0 h1
  have hB : B ≠ [] := fun e => by
    rw [l.tx, e] at hA
    exact hA rfl
  refine ⟨hB, List.perm_append_comm.trans l.pm, l.tx.symm, fun i j i0 hi hj e => ?_⟩
  cases j with
  | zero =>
    cases B with
    | nil => exact hB rfl
    | cons q B =>
      obtain ⟨h0, h1⟩ := mem_rngI.mp (l.pm.mem_iff.mp (List.mem_append_right _ List.mem_cons_self))
      cases i with
      | zero => omega
      | succ i =>
        rw [List.take_succ_cons, joinT_cons, List.length_append] at e
        have := len0 (shr_ne ne h0 h1)
        rw [List.take_zero, joinT_nil, List.length_nil] at e
        omega
  | succ j => exact l.nc (j + 1) i (by omega) hj hi e.symm
theorem mem_textsFold {t : List Nat} : ∀ {l : List (List Int × List Nat)} {acc : List (List Nat)}, t ∈ l.foldl (fun acc b => (tls h b.1 b.2).foldl (fun acc t => addL acc (b.2 ++ t)) acc) acc ↔ t ∈ acc ∨ ∃ b ∈ l, ∃ t' ∈ tls h b.1 b.2, t = b.2 ++ t'
  | [], acc => ⟨.inl, fun q => q.elim id fun ⟨_, m, _⟩ => absurd m List.not_mem_nil⟩
  | x :: l, acc => by
    rw [List.foldl_cons, mem_textsFold (l := l)]
    have e0 : (tls h x.1 x.2).foldl (fun acc t => addL acc (x.2 ++ t)) acc = addAll (fun t => x.2 ++ t) acc (tls h x.1 x.2) := rfl
    rw [e0, mem_addAll]
    constructor
    · rintro ((h | h) | ⟨s, m, e⟩)
      · exact .inl h
      · exact .inr ⟨x, List.mem_cons_self, h⟩
      · exact .inr ⟨s, List.mem_cons_of_mem _ m, e⟩
    · rintro (h | ⟨s, m, e⟩)
      · exact .inl (.inl h)
      · rcases List.mem_cons.mp m with rfl | m
        · exact .inl (.inr e)
        · exact .inr ⟨s, m, e⟩
theorem nodup_textsFold : ∀ {l : List (List Int × List Nat)} {acc : List (List Nat)}, acc.Nodup → (l.foldl (fun acc b => (tls h b.1 b.2).foldl (fun acc t => addL acc (b.2 ++ t)) acc) acc).Nodup
  | [], _, a => a
  | x :: l, acc, a => nodup_textsFold (l := l) (nodup_addAll (f := fun t => x.2 ++ t) (ts := tls h x.1 x.2) a)
theorem nodup_textsU : (textsU h).Nodup := nodup_textsFold List.nodup_nil
theorem mem_textsU (ne : ∀ s ∈ h, s ≠ []) {t : List Nat} : t ∈ textsU h ↔ ∃ L ∈ ordL h, t = joinT h L.1 := by
  unfold textsU
  rw [mem_textsFold]
  constructor
  · rintro (m | ⟨b, mb, t', mt, rfl⟩)
    · exact absurd m List.not_mem_nil
    · obtain ⟨c, mc, rfl⟩ := (tls_cmp ne _ (begin_vs mb).1.us rfl t').mp mt
      refine ⟨(b.1 ++ c.1, c.2), List.mem_flatMap.mpr ⟨b, mb, List.mem_map.mpr ⟨c, mc, rfl⟩⟩, ?_⟩
      obtain ⟨p, _, _, rfl⟩ := mem_begins.mp mb
      show _ = joinT h ([p] ++ c.1)
      rw [joinT_app]
      simp [joinT]
  · rintro ⟨L, mL, rfl⟩
    obtain ⟨b, mb, ml⟩ := List.mem_flatMap.mp mL
    obtain ⟨c, mc, rfl⟩ := List.mem_map.mp ml
    refine .inr ⟨b, mb, joinT h c.1, (tls_cmp ne _ (begin_vs mb).1.us rfl _).mpr ⟨c, mc, rfl⟩, ?_⟩
    obtain ⟨p, _, _, rfl⟩ := mem_begins.mp mb
    show joinT h ([p] ++ c.1) = _
    rw [joinT_app]
    simp [joinT]
end
end Tt

namespace Tt
/-! ### the search by a stack -/
abbrev EN4 := List Int × List Nat × List Int × List Int
section
variable {h : List (List Nat)}
/-- whether the first row is ahead -/
def ahd (h : List (List Nat)) (A B : List Int) : Bool := decide ((joinT h B).length < (joinT h A).length)
structure EnOk (h : List (List Nat)) (e : EN4) : Prop where
  vs : VS h e.1 e.2.1
  pm : (e.2.2.1 ++ e.2.2.2).Perm e.1
  tx : if ahd h e.2.2.1 e.2.2.2 = true then joinT h e.2.2.1 = joinT h e.2.2.2 ++ e.2.1 else joinT h e.2.2.2 = joinT h e.2.2.1 ++ e.2.1
def pair2 (b : Bool) (A B : List Int) (c : LY) : LY := if b = true then (A ++ c.1, B ++ c.2) else (A ++ c.2, B ++ c.1)
def cmpE (h : List (List Nat)) (e : EN4) : List LY := (cmp h e.1 e.2.1).map (pair2 (ahd h e.2.2.1 e.2.2.2) e.2.2.1 e.2.2.2)
def newE (h : List (List Nat)) (A B : List Int) (x : NX) : EN4 := if ahd h A B = true then (x.2.1, x.2.2, A, B ++ [x.1]) else (x.2.1, x.2.2, A ++ [x.1], B)
theorem joinT_one (p : Int) : joinT h [p] = shr h p := by simp [joinT]
theorem newE_ok {e : EN4} (ok : EnOk h e) {x : NX} (m : x ∈ nexts h e.1 e.2.1) : EnOk h (newE h e.2.2.1 e.2.2.2 x) ∧ (newE h e.2.2.1 e.2.2.2 x).1 = x.2.1 := by
  obtain ⟨u, r, A, B⟩ := e
  obtain ⟨v, pm, tx⟩ := ok
  simp only at v pm tx m ⊢
  obtain ⟨h0, h1, hr, hu, e1, el⟩ := mem_nexts.mp m
  have nv := next_vs v m
  have rl := len0 hr
  have pmi : (x.1 :: (A ++ B)).Perm x.2.1 := by
    rw [e1]
    exact (pm.cons x.1).trans (perm_ins u x.1).symm
  have lo2 : (∃ w, r = shr h x.1 ++ w ∧ x.2.2 = w) ∨ (∃ w, shr h x.1 = r ++ w ∧ x.2.2 = w ∧ 0 < w.length) := by
    unfold lo at el
    split at el
    · rename_i hp
      obtain ⟨w, hw⟩ := List.isPrefixOf_iff_prefix.mp hp
      exact .inl ⟨w, hw.symm, by rw [← Option.some.inj el, ← hw, List.drop_left]⟩
    · rename_i hp
      split at el
      · rename_i hq
        obtain ⟨w, hw⟩ := List.isPrefixOf_iff_prefix.mp hq
        refine .inr ⟨w, hw.symm, by rw [← Option.some.inj el, ← hw, List.drop_left], len0 fun z => hp ?_⟩
        rw [← hw, z, List.append_nil]
        exact List.isPrefixOf_iff_prefix.mpr (List.prefix_refl _)
      · cases el
  unfold newE
  by_cases a : ahd h A B = true
  · rw [if_pos a] at tx ⊢
    refine ⟨⟨nv, ?_, ?_⟩, rfl⟩
    · refine List.Perm.trans ?_ pmi
      show (A ++ (B ++ [x.1])).Perm _
      rw [← List.append_assoc]
      exact List.perm_append_comm (l₂ := [x.1])
    · show if ahd h A (B ++ [x.1]) = true then joinT h A = joinT h (B ++ [x.1]) ++ x.2.2 else joinT h (B ++ [x.1]) = joinT h A ++ x.2.2
      rw [joinT_app, joinT_one]
      rcases lo2 with ⟨w, e2, e3⟩ | ⟨w, e2, e3, wl⟩
      · rw [e3]
        have e4 : joinT h A = joinT h B ++ shr h x.1 ++ w := by rw [tx, e2, List.append_assoc]
        split
        · exact e4
        · rename_i n
          have n : ¬ (joinT h (B ++ [x.1])).length < (joinT h A).length := by
            intro z
            exact n (decide_eq_true z)
          rw [joinT_app, joinT_one] at n
          have e5 := congrArg List.length e4
          rw [List.length_append] at e5
          have : w = [] := by
            apply List.length_eq_zero_iff.mp
            omega
          rw [e4, this]
          simp
      · rw [e3]
        have e4 : joinT h B ++ shr h x.1 = joinT h A ++ w := by rw [tx, e2, List.append_assoc]
        rw [if_neg]
        · exact e4
        · intro z
          have z := of_decide_eq_true z
          rw [joinT_app, joinT_one, e4, List.length_append] at z
          omega
  · rw [if_neg a] at tx ⊢
    refine ⟨⟨nv, ?_, ?_⟩, rfl⟩
    · refine List.Perm.trans ?_ pmi
      show ((A ++ [x.1]) ++ B).Perm _
      rw [List.append_assoc]
      exact List.perm_middle
    · show if ahd h (A ++ [x.1]) B = true then joinT h (A ++ [x.1]) = joinT h B ++ x.2.2 else joinT h B = joinT h (A ++ [x.1]) ++ x.2.2
      rw [joinT_app, joinT_one]
      rcases lo2 with ⟨w, e2, e3⟩ | ⟨w, e2, e3, wl⟩
      · rw [e3]
        have e4 : joinT h B = joinT h A ++ shr h x.1 ++ w := by rw [tx, e2, List.append_assoc]
        rw [if_neg]
        · exact e4
        · intro z
          have z := of_decide_eq_true z
          rw [joinT_app, joinT_one, e4] at z
          simp only [List.length_append] at z
          omega
      · rw [e3]
        have e4 : joinT h A ++ shr h x.1 = joinT h B ++ w := by rw [tx, e2, List.append_assoc]
        rw [if_pos]
        · exact e4
        · apply decide_eq_true
          rw [joinT_app, joinT_one, e4, List.length_append]
          omega
/-- the completions of what comes next -/
theorem cmpE_new {e : EN4} (ok : EnOk h e) {x : NX} (m : x ∈ nexts h e.1 e.2.1) {L : LY} : L ∈ cmpE h (newE h e.2.2.1 e.2.2.2 x) ↔ ∃ c ∈ cmp h x.2.1 x.2.2, L = pair2 (ahd h e.2.2.1 e.2.2.2) e.2.2.1 e.2.2.2 (stp h e.2.1 x.1 c) := by
  obtain ⟨ok', e1⟩ := newE_ok ok m
  obtain ⟨u, r, A, B⟩ := e
  obtain ⟨v, pm, tx⟩ := ok
  simp only at v pm tx m e1 ok' ⊢
  obtain ⟨h0, h1, hr, hu, _, el⟩ := mem_nexts.mp m
  have rl := len0 hr
  -- the same pair by pair, but for what has come to an end
  have key : ∀ c ∈ cmp h x.2.1 x.2.2, pair2 (ahd h (newE h A B x).2.2.1 (newE h A B x).2.2.2) (newE h A B x).2.2.1 (newE h A B x).2.2.2 c = pair2 (ahd h A B) A B (stp h r x.1 c) := by
    intro c mc
    have cend : x.2.2 = [] → c = ([], []) := fun z => by
      rcases (mem_cmp_eq (next_us v.us m).1).mp mc with ⟨_, q⟩ | ⟨y, my, _⟩
      · exact q
      · exact absurd z (mem_nexts.mp my).2.2.1
    unfold lo at el
    unfold stp newE
    by_cases a : ahd h A B = true
    · rw [if_pos a] at tx
      rw [if_pos a, a]
      by_cases hp : (shr h x.1).isPrefixOf r = true
      · rw [if_pos hp] at el ⊢
        obtain ⟨w, hw⟩ := List.isPrefixOf_iff_prefix.mp hp
        have ew : x.2.2 = w := by rw [← Option.some.inj el, ← hw, List.drop_left]
        by_cases z : w = []
        · rw [cend (ew.trans z)]
          unfold pair2
          split <;> simp
        · have a2 : ahd h A (B ++ [x.1]) = true := by
            apply decide_eq_true
            have := len0 z
            rw [joinT_app, joinT_one, tx, ← hw]
            simp only [List.length_append]
            omega
          show pair2 (ahd h A (B ++ [x.1])) A (B ++ [x.1]) c = _
          rw [a2]
          unfold pair2
          simp
      · rw [if_neg hp] at el ⊢
        split at el
        · rename_i hq
          obtain ⟨w, hw⟩ := List.isPrefixOf_iff_prefix.mp hq
          have a2 : ahd h A (B ++ [x.1]) = false := by
            apply decide_eq_false
            rw [joinT_app, joinT_one, tx, ← hw]
            simp only [List.length_append]
            omega
          show pair2 (ahd h A (B ++ [x.1])) A (B ++ [x.1]) c = _
          rw [a2]
          unfold pair2
          simp
        · cases el
    · have a' : ahd h A B = false := by simpa using a
      rw [if_neg a] at tx
      rw [if_neg a, a']
      by_cases hp : (shr h x.1).isPrefixOf r = true
      · rw [if_pos hp] at el ⊢
        obtain ⟨w, hw⟩ := List.isPrefixOf_iff_prefix.mp hp
        have a2 : ahd h (A ++ [x.1]) B = false := by
          apply decide_eq_false
          rw [joinT_app, joinT_one, tx, ← hw]
          simp only [List.length_append]
          omega
        show pair2 (ahd h (A ++ [x.1]) B) (A ++ [x.1]) B c = _
        rw [a2]
        unfold pair2
        simp
      · rw [if_neg hp] at el ⊢
        split at el
        · rename_i hq
          obtain ⟨w, hw⟩ := List.isPrefixOf_iff_prefix.mp hq
          have wl : 0 < w.length := len0 fun z => hp (by
            rw [← hw, z, List.append_nil]
            exact List.isPrefixOf_iff_prefix.mpr (List.prefix_refl _))
          have a2 : ahd h (A ++ [x.1]) B = true := by
            apply decide_eq_true
            rw [joinT_app, joinT_one, tx, ← hw]
            simp only [List.length_append]
            omega
          show pair2 (ahd h (A ++ [x.1]) B) (A ++ [x.1]) B c = _
          rw [a2]
          unfold pair2
          simp
        · cases el
  have e2 : (newE h A B x).2.1 = x.2.2 := by unfold newE; split <;> rfl
  unfold cmpE
  rw [List.mem_map, e1, e2]
  constructor
  · rintro ⟨c, mc, rfl⟩
    exact ⟨c, mc, key c mc⟩
  · rintro ⟨c, mc, rfl⟩
    exact ⟨c, mc, key c mc⟩
theorem mem_cmpE {e : EN4} (ok : EnOk h e) {L : LY} : L ∈ cmpE h e ↔ (isE h e.1 e.2.1 = true ∧ L = (e.2.2.1, e.2.2.2)) ∨ ∃ x ∈ nexts h e.1 e.2.1, can h x.2.1 x.2.2 = true ∧ L ∈ cmpE h (newE h e.2.2.1 e.2.2.2 x) := by
  constructor
  · intro m
    unfold cmpE at m
    obtain ⟨c, mc, rfl⟩ := List.mem_map.mp m
    rcases (mem_cmp_eq ok.vs.us).mp mc with ⟨q, rfl⟩ | ⟨x, mx, c', mc', rfl⟩
    · refine .inl ⟨q, ?_⟩
      unfold pair2
      split <;> simp
    · exact .inr ⟨x, mx, (can_cmp _ (next_us ok.vs.us mx).1 rfl).mpr ⟨c', mc'⟩, (cmpE_new ok mx).mpr ⟨c', mc', rfl⟩⟩
  · rintro (⟨q, rfl⟩ | ⟨x, mx, _, ml⟩)
    · unfold cmpE
      refine List.mem_map.mpr ⟨([], []), (mem_cmp_eq ok.vs.us).mpr (.inl ⟨q, rfl⟩), ?_⟩
      unfold pair2
      split <;> simp
    · obtain ⟨c, mc, rfl⟩ := (cmpE_new ok mx).mp ml
      exact List.mem_map.mpr ⟨_, (mem_cmp_eq ok.vs.us).mpr (.inr ⟨x, mx, c, mc, rfl⟩), rfl⟩
/-- the place 0 in the first row -/
def nrm (L : LY) : LY := if (0 : Int) ∈ L.1 then L else (L.2, L.1)
def isNL (h : List (List Nat)) (L : LY) : Prop := ∃ L' ∈ ordL h, L = nrm L'
def startE (h : List (List Nat)) : List EN4 := (begins h).map fun b => (b.1, b.2, b.1, [])
theorem startE_ok (ne : ∀ s ∈ h, s ≠ []) {e : EN4} (m : e ∈ startE h) : EnOk h e := by
  unfold startE at m
  obtain ⟨b, mb, rfl⟩ := List.mem_map.mp m
  refine ⟨(begin_vs mb).1, by simp, ?_⟩
  obtain ⟨p, h0, h1, rfl⟩ := mem_begins.mp mb
  show if ahd h [p] [] = true then joinT h [p] = joinT h [] ++ shr h p else _
  have a : ahd h [p] [] = true := by
    apply decide_eq_true
    rw [joinT_one, joinT_nil]
    exact len0 (shr_ne ne h0 h1)
  rw [if_pos a, joinT_one, joinT_nil]
  rfl
theorem start_all (ne : ∀ s ∈ h, s ≠ []) {L : LY} : L ∈ ordL h ↔ ∃ e ∈ startE h, L ∈ cmpE h e := by
  unfold ordL startE
  rw [List.mem_flatMap]
  have key : ∀ b ∈ begins h, ∀ c, pair2 (ahd h b.1 []) b.1 [] c = (b.1 ++ c.1, c.2) := by
    intro b mb c
    obtain ⟨p, h0, h1, rfl⟩ := mem_begins.mp mb
    have a : ahd h [p] [] = true := by
      apply decide_eq_true
      rw [joinT_one, joinT_nil]
      exact len0 (shr_ne ne h0 h1)
    unfold pair2
    rw [a, if_pos rfl]
    rfl
  constructor
  · rintro ⟨b, mb, ml⟩
    obtain ⟨c, mc, rfl⟩ := List.mem_map.mp ml
    exact ⟨_, List.mem_map.mpr ⟨b, mb, rfl⟩, List.mem_map.mpr ⟨c, mc, key b mb c⟩⟩
  · rintro ⟨e, me, ml⟩
    obtain ⟨b, mb, rfl⟩ := List.mem_map.mp me
    obtain ⟨c, mc, rfl⟩ := List.mem_map.mp ml
    exact ⟨b, mb, List.mem_map.mpr ⟨c, mc, (key b mb c).symm⟩⟩
def addN (F : List LY) (L : LY) : List LY := if L ∈ F then F else F ++ [L]
theorem mem_addN {F : List LY} {L M : LY} : M ∈ addN F L ↔ M ∈ F ∨ M = L := by
  unfold addN
  split
  · rename_i m
    exact ⟨.inl, fun q => q.elim id fun e => e ▸ m⟩
  · rw [List.mem_append, List.mem_singleton]
theorem nodup_addN {F : List LY} {L : LY} (n : F.Nodup) : (addN F L).Nodup := by
  unfold addN
  split
  · exact n
  · rename_i m
    rw [List.nodup_append]
    refine ⟨n, List.pairwise_singleton _ _, fun x hx b hb e => m ?_⟩
    rw [← List.mem_singleton.mp hb, ← e]
    exact hx
theorem addN_len (F : List LY) (L : LY) : (addN F L).length ≤ F.length + 1 := by
  unfold addN
  split
  · omega
  · simp
/-- how much is left to be done -/
def tme : Nat → Nat
  | 0 => 1
  | n + 1 => 1 + (n + 1) * tme n
theorem tme_pos : ∀ n, 1 ≤ tme n
  | 0 => Nat.le_refl _
  | n + 1 => by show 1 ≤ 1 + _; omega
def mea (h : List (List Nat)) (st : List EN4) : Nat := (st.map fun e => tme (rm h e.1)).sum
def kids (h : List (List Nat)) (e : EN4) (xs : List NX) : List EN4 := xs.filterMap fun x => if can h x.2.1 x.2.2 = true then some (newE h e.2.2.1 e.2.2.2 x) else none
theorem mea_app (a b : List EN4) : mea h (a ++ b) = mea h a + mea h b := by simp [mea]
theorem mea_len (a : List EN4) : a.length ≤ mea h a := by
  induction a with
  | nil => exact Nat.le_refl _
  | cons e a ih =>
    have := tme_pos (rm h e.1)
    have e2 : mea h (e :: a) = tme (rm h e.1) + mea h a := by simp [mea]
    rw [e2, List.length_cons]
    omega
theorem kids_mea {e : EN4} (ok : EnOk h e) {xs : List NX} (sub : ∀ x ∈ xs, x ∈ nexts h e.1 e.2.1) : mea h (kids h e xs) ≤ xs.length * tme (rm h e.1 - 1) := by
  induction xs with
  | nil => exact Nat.zero_le _
  | cons x xs ih =>
    have i := ih fun y m => sub y (List.mem_cons_of_mem _ m)
    have mx := sub x List.mem_cons_self
    have e1 := (newE_ok ok mx).2
    have e2 := next_rm ok.vs.us mx
    rw [List.length_cons, Nat.succ_mul]
    unfold kids
    rw [List.filterMap_cons]
    by_cases c : can h x.2.1 x.2.2 = true
    · rw [if_pos c]
      have e3 : mea h (newE h e.2.2.1 e.2.2.2 x :: kids h e xs) = tme (rm h (newE h e.2.2.1 e.2.2.2 x).1) + mea h (kids h e xs) := by simp [mea]
      show mea h (newE h e.2.2.1 e.2.2.2 x :: kids h e xs) ≤ _
      rw [e3, e1, show rm h x.2.1 = rm h e.1 - 1 by omega]
      omega
    · rw [if_neg c]
      exact Nat.le_trans i (Nat.le_add_right _ _)
theorem kids_less {e : EN4} (ok : EnOk h e) : mea h (kids h e (nexts h e.1 e.2.1)) + 1 ≤ tme (rm h e.1) := by
  have h1 := kids_mea ok fun x m => m
  have h2 := nexts_rm (r := e.2.1) ok.vs.us
  cases q : rm h e.1 with
  | zero =>
    rw [q] at h2
    have : (nexts h e.1 e.2.1).length = 0 := by omega
    rw [this, Nat.zero_mul] at h1
    show _ ≤ 1
    omega
  | succ k =>
    rw [q] at h1 h2
    have h3 := Nat.mul_le_mul_right (tme k) h2
    show _ ≤ 1 + (k + 1) * tme k
    rw [Nat.add_sub_cancel] at h1
    omega
structure StOk (h : List (List Nat)) (st : List EN4) (F : List LY) : Prop where
  ok : ∀ e ∈ st, EnOk h e
  nd : F.Nodup
  al : ∀ L, isNL h L ↔ L ∈ F ∨ ∃ e ∈ st, ∃ L' ∈ cmpE h e, L = nrm L'
  me : F.length + mea h st ≤ 109600
theorem StOk.start (sm : Small h) (ne : ∀ s ∈ h, s ≠ []) : StOk h (startE h) [] := by
  refine ⟨fun e m => startE_ok ne m, List.nodup_nil, fun L => ?_, ?_⟩
  · constructor
    · rintro ⟨L', m, rfl⟩
      obtain ⟨e, me, ml⟩ := (start_all ne).mp m
      exact .inr ⟨e, me, L', ml, rfl⟩
    · rintro (m | ⟨e, me, L', ml, rfl⟩)
      · exact absurd m List.not_mem_nil
      · exact ⟨L', (start_all ne).mpr ⟨e, me, ml⟩, rfl⟩
  · have : mea h (startE h) = h.length * tme (rm h [0]) := by
      unfold mea startE begins
      rw [List.map_map, List.map_map]
      have : ∀ l : List Nat, (l.map ((fun e : EN4 => tme (rm h e.1)) ∘ (fun b : List Int × List Nat => ((b.1, b.2, b.1, []) : EN4)) ∘ fun (i : Nat) => ([(i : Int)], shr h i))).sum = l.length * tme (rm h [0]) := by
        intro l
        induction l with
        | nil => simp
        | cons x l ih =>
          rw [List.map_cons, List.sum_cons, ih, List.length_cons, Nat.succ_mul]
          show tme (rm h [(x : Int)]) + _ = _
          unfold rm
          simp only [List.length_cons, List.length_nil]
          omega
      have t2 := this (List.range h.length)
      rw [List.length_range] at t2
      exact t2
    rw [this]
    unfold rm
    have := sm.len
    simp only [List.length_nil, List.length_cons, Nat.zero_add]
    generalize h.length = n at *
    have : n = 0 ∨ n = 1 ∨ n = 2 ∨ n = 3 ∨ n = 4 ∨ n = 5 ∨ n = 6 ∨ n = 7 ∨ n = 8 := by omega
    rcases this with rfl | rfl | rfl | rfl | rfl | rfl | rfl | rfl | rfl <;> decide
theorem StOk.step {st : List EN4} {e : EN4} {F : List LY} (s : StOk h (st ++ [e]) F) : StOk h (st ++ kids h e (nexts h e.1 e.2.1)) (if isE h e.1 e.2.1 = true then addN F (nrm (e.2.2.1, e.2.2.2)) else F) ∧ mea h (st ++ kids h e (nexts h e.1 e.2.1)) < mea h (st ++ [e]) := by
  have oe := s.ok e (List.mem_append_right _ (List.mem_singleton.mpr rfl))
  have kl := kids_less oe
  have m1 : mea h (st ++ [e]) = mea h st + tme (rm h e.1) := by rw [mea_app]; simp [mea]
  have m2 : mea h (st ++ kids h e (nexts h e.1 e.2.1)) = mea h st + mea h (kids h e (nexts h e.1 e.2.1)) := mea_app _ _
  have mk : ∀ y, y ∈ kids h e (nexts h e.1 e.2.1) ↔ ∃ x ∈ nexts h e.1 e.2.1, can h x.2.1 x.2.2 = true ∧ y = newE h e.2.2.1 e.2.2.2 x := by
    intro y
    unfold kids
    rw [List.mem_filterMap]
    constructor
    · rintro ⟨x, mx, q⟩
      split at q
      · rename_i c
        exact ⟨x, mx, c, (Option.some.inj q).symm⟩
      · cases q
    · rintro ⟨x, mx, c, rfl⟩
      exact ⟨x, mx, if_pos c⟩
  have mF : ∀ L, L ∈ (if isE h e.1 e.2.1 = true then addN F (nrm (e.2.2.1, e.2.2.2)) else F) ↔ L ∈ F ∨ (isE h e.1 e.2.1 = true ∧ L = nrm (e.2.2.1, e.2.2.2)) := by
    intro L
    split
    · rename_i c
      rw [mem_addN]
      simp [c]
    · rename_i c
      simp [c]
  refine ⟨⟨fun y m => ?_, ?_, fun L => ?_, ?_⟩, ?_⟩
  · rcases List.mem_append.mp m with m | m
    · exact s.ok y (List.mem_append_left _ m)
    · obtain ⟨x, mx, c, rfl⟩ := (mk y).mp m
      exact (newE_ok oe mx).1
  · split
    · exact nodup_addN s.nd
    · exact s.nd
  · rw [s.al L, mF]
    constructor
    · rintro (m | ⟨y, my, L', ml, rfl⟩)
      · exact .inl (.inl m)
      · rcases List.mem_append.mp my with my | my
        · exact .inr ⟨y, List.mem_append_left _ my, L', ml, rfl⟩
        · rw [List.mem_singleton.mp my] at ml
          rcases (mem_cmpE oe).mp ml with ⟨q, rfl⟩ | ⟨x, mx, c, ml'⟩
          · exact .inl (.inr ⟨q, rfl⟩)
          · exact .inr ⟨_, List.mem_append_right _ ((mk _).mpr ⟨x, mx, c, rfl⟩), L', ml', rfl⟩
    · rintro ((m | ⟨q, rfl⟩) | ⟨y, my, L', ml, rfl⟩)
      · exact .inl m
      · exact .inr ⟨e, List.mem_append_right _ (List.mem_singleton.mpr rfl), _, (mem_cmpE oe).mpr (.inl ⟨q, rfl⟩), rfl⟩
      · rcases List.mem_append.mp my with my | my
        · exact .inr ⟨y, List.mem_append_left _ my, L', ml, rfl⟩
        · obtain ⟨x, mx, c, rfl⟩ := (mk y).mp my
          exact .inr ⟨e, List.mem_append_right _ (List.mem_singleton.mpr rfl), L', (mem_cmpE oe).mpr (.inr ⟨x, mx, c, ml⟩), rfl⟩
  · have := s.me
    have l := addN_len F (nrm (e.2.2.1, e.2.2.2))
    rw [m1] at this
    rw [m2]
    split <;> omega
  · rw [m1, m2]
    omega
end
end Tt

namespace Tt
section
variable {h : List (List Nat)}
theorem map_rngI {α : Type} (f : List Nat → α) : (rngI h.length).map (fun i => f (shr h i)) = h.map f := by
  unfold rngI
  rw [List.map_map]
  apply List.ext_getElem
  · simp
  · intro i h1 h2
    have hi : i < h.length := by simpa using h2
    simp only [List.getElem_map, List.getElem_range, Function.comp]
    congr 1
    unfold shr
    rw [List.getD_eq_getElem?_getD]
    simp [hi]
theorem joinT_sum (p : List Int) : (joinT h p).length = (p.map fun i => (shr h i).length).sum := by
  unfold joinT
  rw [List.length_flatten, List.map_map]
  rfl
theorem texts_half (ne : ∀ s ∈ h, s ≠ []) {r : List Nat} (m : r ∈ textsU h) : 2 * r.length = (h.map List.length).sum := by
  obtain ⟨L, mL, rfl⟩ := (mem_textsU ne).mp m
  have k := (mem_ordL ne).mp mL
  have e1 := (k.pm.map fun i => (shr h i).length).sum_nat
  rw [map_rngI List.length, List.map_append, List.sum_append, ← joinT_sum, ← joinT_sum] at e1
  have := congrArg List.length k.tx
  omega
theorem texts_ways (ne : ∀ s ∈ h, s ≠ []) (h0 : 0 < h.length) : (textsU h).length ≤ manyW h / 2 := by
  have part : ((ordL h).filter fun L => decide ((0 : Int) ∈ L.1)).length + ((ordL h).filter fun L => !decide ((0 : Int) ∈ L.1)).length = (ordL h).length := by
    generalize ordL h = l
    induction l with
    | nil => rfl
    | cons L l ih =>
      by_cases c : (0 : Int) ∈ L.1
      · rw [List.filter_cons_of_pos (by simpa using c), List.filter_cons_of_neg (by simpa using c), List.length_cons, List.length_cons]
        omega
      · rw [List.filter_cons_of_neg (by simpa using c), List.filter_cons_of_pos (by simpa using c), List.length_cons, List.length_cons]
        omega
  have zero : ∀ L, L ∈ ordL h → ((0 : Int) ∈ L.1 ↔ (0 : Int) ∉ L.2) := by
    intro L m
    have k := (mem_ordL ne).mp m
    have nd : (L.1 ++ L.2).Nodup := k.pm.nodup_iff.mpr (rngI_nodup _)
    have z : (0 : Int) ∈ L.1 ++ L.2 := k.pm.mem_iff.mpr (mem_rngI.mpr ⟨Int.le_refl 0, by omega⟩)
    constructor
    · intro a b
      exact (List.nodup_append.mp nd).2.2 0 a 0 b rfl
    · intro a
      exact (List.mem_append.mp z).resolve_right a
  have swp : ((ordL h).filter fun L => decide ((0 : Int) ∈ L.1)).length ≤ ((ordL h).filter fun L => !decide ((0 : Int) ∈ L.1)).length := by
    have := nodup_le (((ordL h).filter fun L => decide ((0 : Int) ∈ L.1)).map fun L => (L.2, L.1)) ((ordL h).filter fun L => !decide ((0 : Int) ∈ L.1)) (by
      show List.Pairwise _ _
      rw [List.pairwise_map]
      exact (nodup_ordL.filter _).imp fun hne z => hne (Prod.ext (congrArg Prod.snd z) (congrArg Prod.fst z))) (by
      intro x m
      obtain ⟨L, mL, rfl⟩ := List.mem_map.mp m
      obtain ⟨m1, m2⟩ := List.mem_filter.mp mL
      have k := (mem_ordL ne).mp m1
      have m3 : (L.2, L.1) ∈ ordL h := (mem_ordL ne).mpr (lay_swap ne k)
      refine List.mem_filter.mpr ⟨m3, ?_⟩
      have := (zero L m1).mp (of_decide_eq_true m2)
      simpa using this)
    rwa [List.length_map] at this
  have cov : (textsU h).length ≤ ((ordL h).filter fun L => decide ((0 : Int) ∈ L.1)).length := by
    have := nodup_le (textsU h) (((ordL h).filter fun L => decide ((0 : Int) ∈ L.1)).map fun L => joinT h L.1) nodup_textsU (by
      intro t m
      obtain ⟨L, mL, rfl⟩ := (mem_textsU ne).mp m
      have k := (mem_ordL ne).mp mL
      by_cases c : (0 : Int) ∈ L.1
      · exact List.mem_map.mpr ⟨L, List.mem_filter.mpr ⟨mL, decide_eq_true c⟩, rfl⟩
      · have m3 : (L.2, L.1) ∈ ordL h := (mem_ordL ne).mpr (lay_swap ne k)
        have c2 : (0 : Int) ∈ L.2 := by
          apply Decidable.byContradiction
          intro z
          exact c ((zero L mL).mpr z)
        exact List.mem_map.mpr ⟨(L.2, L.1), List.mem_filter.mpr ⟨m3, decide_eq_true c2⟩, k.tx.symm⟩)
    rwa [List.length_map] at this
  rw [manyW_eq]
  omega
/-- places of a rearrangement -/
theorem places_of : ∀ (l : List (List Nat)) {h : List (List Nat)}, l.Perm h → ∃ p : List Int, p.Perm (rngI h.length) ∧ p.map (shr h) = l
  | [], h, q => by
    have := q.length_eq
    have e : h = [] := List.length_eq_zero_iff.mp (by simpa using this.symm)
    subst e
    exact ⟨[], .nil, rfl⟩
  | x :: l, h, q => by
    have mx : x ∈ h := q.mem_iff.mp List.mem_cons_self
    obtain ⟨a, b, rfl⟩ := List.append_of_mem mx
    have q2 : l.Perm (a ++ b) := (List.perm_cons x).mp (q.trans List.perm_middle)
    obtain ⟨p, pp, pm⟩ := places_of l q2
    let f : Int → Int := fun i => if i < (a.length : Int) then i else i + 1
    have hin : ∀ i ∈ p, 0 ≤ i ∧ i < (a.length : Int) + b.length := fun i m => by
      have := mem_rngI.mp (pp.mem_iff.mp m)
      rw [List.length_append] at this
      omega
    refine ⟨(a.length : Int) :: p.map f, ?_, ?_⟩
    · have nd : ((a.length : Int) :: p.map f).Nodup := by
        rw [List.nodup_cons]
        refine ⟨fun m => ?_, ?_⟩
        · obtain ⟨i, mi, e⟩ := List.mem_map.mp m
          have := hin i mi
          simp only [f] at e
          split at e <;> omega
        · show List.Pairwise _ _
          rw [List.pairwise_map]
          refine (pp.nodup_iff.mpr (rngI_nodup _)).imp fun {i j} hne z => hne ?_
          simp only [f] at z
          split at z <;> split at z <;> omega
      rw [List.perm_ext_iff_of_nodup nd (rngI_nodup _)]
      intro i
      rw [mem_rngI, List.mem_cons, List.mem_map, List.length_append, List.length_cons]
      constructor
      · rintro (rfl | ⟨j, mj, rfl⟩)
        · omega
        · have := hin j mj
          simp only [f]
          split <;> omega
      · intro hi
        by_cases e : i = (a.length : Int)
        · exact .inl e
        · refine .inr ⟨if i < (a.length : Int) then i else i - 1, pp.mem_iff.mpr (mem_rngI.mpr ?_), ?_⟩
          · rw [List.length_append]
            split <;> omega
          · simp only [f]
            by_cases c : i < (a.length : Int)
            · rw [if_pos c, if_pos c]
            · rw [if_neg c, if_neg (by omega)]
              omega
    · rw [List.map_cons, List.map_map]
      congr 1
      · unfold shr
        simp
      · rw [← pm]
        refine List.map_congr_left fun i mi => ?_
        have := hin i mi
        simp only [Function.comp, f]
        unfold shr
        rw [List.getD_eq_getElem?_getD, List.getD_eq_getElem?_getD]
        split
        · rw [List.getElem?_append_left (by omega), List.getElem?_append_left (by omega)]
        · rw [List.getElem?_append_right (by omega), List.getElem?_append_right (by omega)]
          have e : (i + 1).toNat - a.length = (i.toNat - a.length) + 1 := by omega
          rw [e, List.getElem?_cons_succ]
end
end Tt

namespace Tt
/-- unlike signs in a row -/
def run (a n : Nat) : List Nat := (List.range n).map (a + ·)
theorem run_len (a n : Nat) : (run a n).length = n := by simp [run]
theorem run_drop (a n k : Nat) : (run a n).drop k = run (a + k) (n - k) := by
  unfold run
  apply List.ext_getElem
  · simp
  · intro i h1 h2
    simp
    omega
theorem run_succ (a n : Nat) : run a (n + 1) = a :: run (a + 1) n := by
  unfold run
  rw [List.range_succ_eq_map, List.map_cons, List.map_map]
  congr 1
  refine List.map_congr_left fun i _ => ?_
  simp only [Function.comp]
  omega
def hd (c : Nat) (s : List Nat) : Bool := decide (s.head? = some c)
section
variable {h : List (List Nat)}
theorem places_cnt {p : List Nat → Bool} {ps : List Int} (nd : ps.Nodup) (hp : ∀ i ∈ ps, 0 ≤ i ∧ i < h.length ∧ p (shr h i) = true) : ps.length ≤ h.countP p := by
  have e : h.countP p = ((rngI h.length).filter fun i => p (shr h i)).length := by
    have e1 : (rngI h.length).map (fun i => shr h i) = h := by
      have := map_rngI (h := h) (fun s => s)
      simpa using this
    have : h.countP p = ((rngI h.length).map (fun i => shr h i)).countP p := by rw [e1]
    rw [this, List.countP_map, List.countP_eq_length_filter]
    rfl
  rw [e]
  exact nodup_le _ _ nd fun i m => List.mem_filter.mpr ⟨mem_rngI.mpr ⟨(hp i m).1, (hp i m).2.1⟩, (hp i m).2.2⟩
structure Run1 (h : List (List Nat)) : Prop where
  is : ∀ s ∈ h, ∃ a m, s = run a (m + 1) ∧ 97 ≤ a
  one : ∀ c, c ≠ 97 → h.countP (hd c) ≤ 1
  two : h.countP (hd 97) ≤ 2
theorem next_run (R : Run1 h) {u : List Int} {c m : Nat} {x : NX} (mx : x ∈ nexts h u (run c (m + 1))) : hd c (shr h x.1) = true ∧ ∃ c' m', c < c' ∧ x.2.2 = run c' m' := by
  obtain ⟨h0, h1, _, _, _, el⟩ := mem_nexts.mp mx
  obtain ⟨a, k, es, _⟩ := R.is _ (shr_mem h0 h1)
  rw [es] at el ⊢
  have ac : a = c := by
    unfold lo at el
    split at el
    · rename_i q
      rw [run_succ, run_succ] at q
      simp at q
      exact q.1
    · split at el
      · rename_i q
        rw [run_succ, run_succ] at q
        simp at q
        exact q.1.symm
      · cases el
  subst ac
  refine ⟨by unfold hd; rw [run_succ]; simp, ?_⟩
  unfold lo at el
  split at el
  · refine ⟨a + (k + 1), m + 1 - (k + 1), by omega, ?_⟩
    rw [← Option.some.inj el, run_len, run_drop]
  · split at el
    · refine ⟨a + (m + 1), k + 1 - (m + 1), by omega, ?_⟩
      rw [← Option.some.inj el, run_len, run_drop]
    · cases el
theorem wys_le1 (R : Run1 h) : ∀ (n : Nat) {u : List Int} {c m : Nat}, Us h u → rm h u = n → 97 ≤ c → (c ≠ 97 ∨ ∃ p ∈ u, hd 97 (shr h p) = true) → wys h u (run c m) ≤ 1 := by
  have step : ∀ {u : List Int} {c m : Nat}, Us h u → 97 ≤ c → (c ≠ 97 ∨ ∃ p ∈ u, hd 97 (shr h p) = true) → (∀ x ∈ nexts h u (run c m), ∀ c' m', c < c' → x.2.2 = run c' m' → wys h x.2.1 (run c' m') ≤ 1) → wys h u (run c m) ≤ 1 := by
    intro u c m U hc cond ih
    rw [wys_eq U]
    cases m with
    | zero =>
      have : nexts h u (run c 0) = [] := by
        apply List.eq_nil_iff_forall_not_mem.mpr
        intro x mx
        exact (mem_nexts.mp mx).2.2.1 rfl
      rw [this]
      show (if _ then 1 else 0) + 0 ≤ 1
      split <;> omega
    | succ m =>
      have ne : isE h u (run c (m + 1)) = false := by
        unfold isE
        rw [run_succ]
        simp
      rw [ne, if_neg Bool.false_ne_true]
      have len : (nexts h u (run c (m + 1))).length ≤ 1 := by
        rcases cond with q | ⟨p, mp, hp⟩
        · have := places_cnt (h := h) (p := hd c) (nexts_pl (h := h) (u := u) (r := run c (m + 1))) fun i mi => by
            obtain ⟨x, mx, rfl⟩ := List.mem_map.mp mi
            exact ⟨(mem_nexts.mp mx).1, (mem_nexts.mp mx).2.1, (next_run R mx).1⟩
          rw [List.length_map] at this
          exact Nat.le_trans this (R.one c q)
        · by_cases q : c = 97
          · subst q
            have nd : (p :: (nexts h u (run 97 (m + 1))).map (·.1)).Nodup := by
              rw [List.nodup_cons]
              refine ⟨fun mm => ?_, nexts_pl⟩
              obtain ⟨x, mx, e⟩ := List.mem_map.mp mm
              exact (mem_nexts.mp mx).2.2.2.1 (by rw [show x.1 = p from e]; exact mp)
            have := places_cnt (h := h) (p := hd 97) nd fun i mi => by
              rcases List.mem_cons.mp mi with rfl | mi
              · exact ⟨(U.ok i mp).1, (U.ok i mp).2, hp⟩
              · obtain ⟨x, mx, rfl⟩ := List.mem_map.mp mi
                exact ⟨(mem_nexts.mp mx).1, (mem_nexts.mp mx).2.1, (next_run R mx).1⟩
            have := R.two
            rw [List.length_cons, List.length_map] at *
            omega
          · have := places_cnt (h := h) (p := hd c) (nexts_pl (h := h) (u := u) (r := run c (m + 1))) fun i mi => by
              obtain ⟨x, mx, rfl⟩ := List.mem_map.mp mi
              exact ⟨(mem_nexts.mp mx).1, (mem_nexts.mp mx).2.1, (next_run R mx).1⟩
            rw [List.length_map] at this
            exact Nat.le_trans this (R.one c q)
      have each : ∀ x ∈ nexts h u (run c (m + 1)), wys h x.2.1 x.2.2 ≤ 1 := fun x mx => by
        obtain ⟨_, c', m', hlt, e⟩ := next_run R mx
        rw [e]
        exact ih x mx c' m' hlt e
      match nexts h u (run c (m + 1)), len, each with
      | [], _, _ => exact Nat.zero_le _
      | [x], _, each =>
        have := each x List.mem_cons_self
        show 0 + (wys h x.2.1 x.2.2 + 0) ≤ 1
        omega
      | _ :: _ :: _, len, _ => simp at len
  intro n
  induction n with
  | zero => exact fun U e hc cond => step U hc cond fun x mx => by rw [nexts_full U e] at mx; exact absurd mx List.not_mem_nil
  | succ n ih => exact fun U e hc cond => step U hc cond fun x mx c' m' hlt _ => ih (next_us U mx).1 (by have := next_rm U mx; omega) (by omega) (.inl (by omega))
theorem manyW_two (R : Run1 h) : manyW h ≤ 2 := by
  have each : ∀ b ∈ begins h, wys h b.1 b.2 ≤ if hd 97 b.2 = true then 1 else 0 := by
    intro b mb
    have us := (begin_vs mb).1.us
    obtain ⟨p, h0, h1, rfl⟩ := mem_begins.mp mb
    obtain ⟨a, m, es, ha⟩ := R.is _ (shr_mem h0 h1)
    by_cases q : a = 97
    · have hh : hd 97 (shr h p) = true := by
        rw [es, q]
        unfold hd
        rw [run_succ]
        simp
      show wys h [p] (shr h p) ≤ if hd 97 (shr h p) = true then 1 else 0
      rw [if_pos hh]
      have := wys_le1 R _ (c := a) (m := m + 1) us rfl ha (.inr ⟨p, List.mem_cons_self, hh⟩)
      rw [← es] at this
      exact this
    · have z : wys h [p] (shr h p) = 0 := by
        rw [wys_eq us]
        have ne : isE h [p] (shr h p) = false := by
          unfold isE
          rw [es, run_succ]
          simp
        have nn : nexts h [p] (shr h p) = [] := by
          apply List.eq_nil_iff_forall_not_mem.mpr
          intro x mx
          have mx' := mx
          rw [es] at mx'
          have hx := (next_run R mx').1
          have hp : hd a (shr h p) = true := by
            rw [es]
            unfold hd
            rw [run_succ]
            simp
          have npx : p ≠ x.1 := fun e => (mem_nexts.mp mx).2.2.2.1 (by rw [← e]; exact List.mem_cons_self)
          have := places_cnt (h := h) (p := hd a) (ps := [p, x.1]) (by simp [npx]) fun i mi => by
            simp only [List.mem_cons, List.not_mem_nil, or_false] at mi
            rcases mi with rfl | rfl
            · exact ⟨h0, h1, hp⟩
            · exact ⟨(mem_nexts.mp mx).1, (mem_nexts.mp mx).2.1, hx⟩
          have := R.one a q
          simp only [List.length_cons, List.length_nil] at *
          omega
        rw [ne, nn]
        rfl
      show wys h [p] (shr h p) ≤ _
      rw [z]
      exact Nat.zero_le _
  have sum : ∀ l : List (List Int × List Nat), (∀ b ∈ l, wys h b.1 b.2 ≤ if hd 97 b.2 = true then 1 else 0) → (l.map fun b => wys h b.1 b.2).sum ≤ (l.map (·.2)).countP (hd 97) := by
    intro l
    induction l with
    | nil => intro _; exact Nat.zero_le _
    | cons b l ih =>
      intro hb
      have i := ih fun x m => hb x (List.mem_cons_of_mem _ m)
      have j := hb b List.mem_cons_self
      rw [List.map_cons, List.sum_cons, List.map_cons, List.countP_cons]
      split at j <;> rename_i q
      · rw [if_pos q]; omega
      · rw [if_neg q]; omega
  have e : (begins h).map (·.2) = h := by
    unfold begins
    rw [List.map_map]
    have := map_rngI (h := h) (fun s => s)
    unfold rngI at this
    rw [List.map_map] at this
    refine Eq.trans (show _ = List.map ((fun i => shr h i) ∘ fun (i : Nat) => (i : Int)) (List.range h.length) from rfl) ?_
    simpa using this
  have := sum _ each
  rw [e] at this
  exact Nat.le_trans this R.two
end
end Tt

namespace Tt
/-! ### the pieces of a text -/
def pce (t : List Nat) (e : Nat → Nat) (m : Nat) : List (List Nat) := (List.range m).map fun i => (t.take (e (i + 1))).drop (e i)
structure Ends (e : Nat → Nat) (m n : Nat) : Prop where
  z : e 0 = 0
  f : e m = n
  lt : ∀ i, i < m → e i < e (i + 1)
theorem Ends.mono {e : Nat → Nat} {m n : Nat} (E : Ends e m n) : ∀ {i j : Nat}, i < j → j ≤ m → e i < e j := by
  intro i j h hj
  induction j with
  | zero => omega
  | succ j ih =>
    have := E.lt j (by omega)
    by_cases q : i = j
    · subst q; exact this
    · have := ih (by omega) (by omega)
      omega
theorem Ends.le {e : Nat → Nat} {m n : Nat} (E : Ends e m n) {i : Nat} (h : i ≤ m) : e i ≤ n := by
  by_cases q : i = m
  · rw [q, E.f]; exact Nat.le_refl _
  · have := E.mono (i := i) (j := m) (by omega) (Nat.le_refl _)
    rw [E.f] at this
    omega
theorem pce_len (t : List Nat) (e : Nat → Nat) (m : Nat) : (pce t e m).length = m := by simp [pce]
theorem pce_take (t : List Nat) (e : Nat → Nat) {m j : Nat} (h : j ≤ m) : (pce t e m).take j = pce t e j := by
  unfold pce
  rw [← List.map_take, List.take_range, Nat.min_eq_left h]
theorem pce_succ (t : List Nat) (e : Nat → Nat) (m : Nat) : pce t e (m + 1) = pce t e m ++ [(t.take (e (m + 1))).drop (e m)] := by
  unfold pce
  rw [List.range_succ, List.map_append]
  rfl
theorem pce_flat {t : List Nat} {e : Nat → Nat} {m : Nat} (E : Ends e m t.length) : ∀ {j : Nat}, j ≤ m → (pce t e j).flatten = t.take (e j) := by
  intro j hj
  induction j with
  | zero =>
    rw [E.z]
    simp [pce]
  | succ j ih =>
    rw [pce_succ, List.flatten_append, ih (by omega)]
    have := E.lt j (by omega)
    have e1 : t.take (e j) = (t.take (e (j + 1))).take (e j) := by rw [List.take_take, Nat.min_eq_left (by omega)]
    rw [e1]
    simp [List.take_append_drop]
theorem pce_flat_len {t : List Nat} {e : Nat → Nat} {m : Nat} (E : Ends e m t.length) {j : Nat} (h : j ≤ m) : (pce t e j).flatten.length = e j := by
  rw [pce_flat E h, List.length_take]
  have := E.le h
  omega
theorem mem_pce {t : List Nat} {e : Nat → Nat} {m : Nat} {s : List Nat} : s ∈ pce t e m ↔ ∃ i, i < m ∧ s = (t.take (e (i + 1))).drop (e i) := by
  unfold pce
  rw [List.mem_map]
  constructor
  · rintro ⟨i, hi, rfl⟩; exact ⟨i, List.mem_range.mp hi, rfl⟩
  · rintro ⟨i, hi, rfl⟩; exact ⟨i, List.mem_range.mpr hi, rfl⟩
theorem pce_each {t : List Nat} {e : Nat → Nat} {m : Nat} (E : Ends e m t.length) {s : List Nat} (h : s ∈ pce t e m) : 1 ≤ s.length ∧ s.length ≤ t.length ∧ ∀ c ∈ s, c ∈ t := by
  obtain ⟨i, hi, rfl⟩ := mem_pce.mp h
  have h1 := E.lt i hi
  have h2 := E.le (i := i + 1) (by omega)
  rw [List.length_drop, List.length_take]
  refine ⟨by omega, by omega, fun c mc => List.mem_of_mem_take (List.mem_of_mem_drop mc)⟩
theorem run_take (a n k : Nat) (h : k ≤ n) : (run a n).take k = run a k := by
  unfold run
  rw [← List.map_take, List.take_range, Nat.min_eq_left h]
theorem pce_run {e : Nat → Nat} {m n : Nat} (E : Ends e m n) {i : Nat} (hi : i < m) : ((run 97 n).take (e (i + 1))).drop (e i) = run (97 + e i) (e (i + 1) - e i) := by
  rw [run_take _ _ _ (E.le (by omega)), run_drop]
theorem cnt_pce {e : Nat → Nat} {m n : Nat} (E : Ends e m n) (c : Nat) : (pce (run 97 n) e m).countP (hd c) ≤ 1 ∧ (0 < (pce (run 97 n) e m).countP (hd c) → ∃ i, i < m ∧ c = 97 + e i) := by
  have hh : ∀ i, i < m → hd c (((run 97 n).take (e (i + 1))).drop (e i)) = true → c = 97 + e i := by
    intro i hi q
    rw [pce_run E hi] at q
    have := E.lt i hi
    obtain ⟨k, hk⟩ : ∃ k, e (i + 1) - e i = k + 1 := ⟨e (i + 1) - e i - 1, by omega⟩
    rw [hk, run_succ] at q
    unfold hd at q
    simp at q
    exact q.symm
  refine ⟨?_, fun p => ?_⟩
  · have key : ∀ j, j ≤ m → ((pce (run 97 n) e j).countP (hd c) ≤ 1 ∧ (0 < (pce (run 97 n) e j).countP (hd c) → ∃ i, i < j ∧ c = 97 + e i)) := by
      intro j hj
      induction j with
      | zero => exact ⟨Nat.zero_le _, fun p => absurd p (Nat.lt_irrefl _)⟩
      | succ j ih =>
        obtain ⟨i1, i2⟩ := ih (by omega)
        rw [pce_succ, List.countP_append, List.countP_singleton]
        by_cases q : hd c (((run 97 n).take (e (j + 1))).drop (e j)) = true
        · rw [if_pos q]
          have cj := hh j (by omega) q
          have z : (pce (run 97 n) e j).countP (hd c) = 0 := by
            apply Decidable.byContradiction
            intro nz
            obtain ⟨i, hi, ci⟩ := i2 (by omega)
            have := E.mono (i := i) (j := j) hi (by omega)
            omega
          rw [z]
          exact ⟨Nat.le_refl _, fun _ => ⟨j, by omega, cj⟩⟩
        · rw [if_neg q]
          refine ⟨by omega, fun p => ?_⟩
          obtain ⟨i, hi, ci⟩ := i2 (by omega)
          exact ⟨i, by omega, ci⟩
    exact (key m (Nat.le_refl _)).1
  · obtain ⟨s, ms, hs⟩ := List.countP_pos_iff.mp p
    obtain ⟨i, hi, rfl⟩ := mem_pce.mp ms
    exact ⟨i, hi, hh i hi hs⟩
/-- the heap of two tearings -/
structure Two (e1 e2 : Nat → Nat) (m1 m2 n : Nat) : Prop where
  a : Ends e1 m1 n
  b : Ends e2 m2 n
  p1 : 0 < m1
  p2 : 0 < m2
  ct : m1 + m2 ≤ 8
  n10 : n ≤ 10
  dj : ∀ i j, 0 < i → i < m1 → 0 < j → j < m2 → e1 i ≠ e2 j
def hp2 (t : List Nat) (e1 e2 : Nat → Nat) (m1 m2 : Nat) : List (List Nat) := (pce t e1 m1 ++ pce t e2 m2).mergeSort fun a b => decide (a ≤ b)
theorem hp2_perm (t : List Nat) (e1 e2 : Nat → Nat) (m1 m2 : Nat) : (pce t e1 m1 ++ pce t e2 m2).Perm (hp2 t e1 e2 m1 m2) := (List.mergeSort_perm _ _).symm
theorem hp2_hv {t : List Nat} {e1 e2 : Nat → Nat} {m1 m2 : Nat} (W : Two e1 e2 m1 m2 t.length) (ch : ∀ c ∈ t, c ∈ lettersL) : Hv (hp2 t e1 e2 m1 m2) := by
  have pl := (hp2_perm t e1 e2 m1 m2).length_eq
  rw [List.length_append, pce_len, pce_len] at pl
  have w1 := W.p1
  have w2 := W.p2
  have w3 := W.ct
  have w4 := W.n10
  refine ⟨by omega, by omega, fun s m => ?_, ?_⟩
  · rcases List.mem_append.mp ((hp2_perm t e1 e2 m1 m2).mem_iff.mpr m) with m | m
    · obtain ⟨a, b, c⟩ := pce_each W.a m
      exact ⟨a, by omega, fun x mx => ch x (c x mx)⟩
    · obtain ⟨a, b, c⟩ := pce_each W.b m
      exact ⟨a, by omega, fun x mx => ch x (c x mx)⟩
  · unfold hp2
    refine (List.pairwise_mergeSort (le := fun a b : List Nat => decide (a ≤ b)) (fun a b c h1 h2 => ?_) (fun a b => ?_) _).imp fun h => of_decide_eq_true h
    · simp only [decide_eq_true_eq] at *
      exact List.le_trans h1 h2
    · simp only [Bool.or_eq_true, decide_eq_true_eq]
      exact List.le_total a b
theorem hp2_text {t : List Nat} {e1 e2 : Nat → Nat} {m1 m2 : Nat} (W : Two e1 e2 m1 m2 t.length) (ch : ∀ c ∈ t, c ∈ lettersL) : t ∈ textsU (hp2 t e1 e2 m1 m2) := by
  have hv := hp2_hv W ch
  have ne : ∀ s ∈ hp2 t e1 e2 m1 m2, s ≠ [] := fun s m e => by
    have := (hv.each s m).1
    rw [e] at this
    exact absurd this (by decide)
  obtain ⟨p, pp, pm⟩ := places_of _ (hp2_perm t e1 e2 m1 m2)
  have lp : p.length = m1 + m2 := by
    have := congrArg List.length pm
    rw [List.length_map, List.length_append, pce_len, pce_len] at this
    exact this
  have pA : (p.take m1).map (shr (hp2 t e1 e2 m1 m2)) = pce t e1 m1 := by
    rw [List.map_take, pm, List.take_append_of_le_length (by rw [pce_len]; exact Nat.le_refl _), List.take_of_length_le (by rw [pce_len]; exact Nat.le_refl _)]
  have pB : (p.drop m1).map (shr (hp2 t e1 e2 m1 m2)) = pce t e2 m2 := by
    rw [List.map_drop, pm, List.drop_append_of_le_length (by rw [pce_len]; exact Nat.le_refl _), List.drop_eq_nil_of_le (by rw [pce_len]; exact Nat.le_refl _), List.nil_append]
  have jA : ∀ i, i ≤ m1 → joinT (hp2 t e1 e2 m1 m2) ((p.take m1).take i) = (pce t e1 i).flatten := fun i hi => by
    unfold joinT
    rw [List.map_take, pA, pce_take _ _ hi]
  have jB : ∀ i, i ≤ m2 → joinT (hp2 t e1 e2 m1 m2) ((p.drop m1).take i) = (pce t e2 i).flatten := fun i hi => by
    unfold joinT
    rw [List.map_take, pB, pce_take _ _ hi]
  have lA : (p.take m1).length = m1 := by rw [List.length_take]; omega
  have lB : (p.drop m1).length = m2 := by rw [List.length_drop]; omega
  have fA : joinT (hp2 t e1 e2 m1 m2) (p.take m1) = t := by
    have := jA m1 (Nat.le_refl _)
    rw [List.take_of_length_le (by omega), pce_flat W.a (Nat.le_refl _), W.a.f, List.take_length] at this
    exact this
  have fB : joinT (hp2 t e1 e2 m1 m2) (p.drop m1) = t := by
    have := jB m2 (Nat.le_refl _)
    rw [List.take_of_length_le (by omega), pce_flat W.b (Nat.le_refl _), W.b.f, List.take_length] at this
    exact this
  refine (mem_textsU ne).mpr ⟨(p.take m1, p.drop m1), (mem_ordL ne).mpr ⟨fun e => ?_, by rw [List.take_append_drop]; exact pp, fA.trans fB.symm, fun i j i0 hi hj => ?_⟩, fA.symm⟩
  · have e : p.take m1 = [] := e
    rw [e] at lA
    have := W.p1
    simp at lA
    omega
  · have hi : i < (p.take m1).length := hi
    have hj : j < (p.drop m1).length := hj
    show (joinT _ ((p.take m1).take i)).length ≠ (joinT _ ((p.drop m1).take j)).length
    rw [jA i (by omega), jB j (by omega), pce_flat_len W.a (by omega), pce_flat_len W.b (by omega)]
    cases j with
    | zero =>
      rw [W.b.z]
      have := W.a.mono (i := 0) (j := i) i0 (by omega)
      omega
    | succ j => exact W.dj i (j + 1) i0 (by omega) (by omega) (by omega)
theorem hp2_one {e1 e2 : Nat → Nat} {m1 m2 n : Nat} (W : Two e1 e2 m1 m2 n) : Run1 (hp2 (run 97 n) e1 e2 m1 m2) := by
  have pe := hp2_perm (run 97 n) e1 e2 m1 m2
  have cnt : ∀ c, (hp2 (run 97 n) e1 e2 m1 m2).countP (hd c) = (pce (run 97 n) e1 m1).countP (hd c) + (pce (run 97 n) e2 m2).countP (hd c) := fun c => by
    rw [← pe.countP_eq, List.countP_append]
  refine ⟨fun s m => ?_, fun c hc => ?_, ?_⟩
  · have go : ∀ {e : Nat → Nat} {m : Nat}, Ends e m n → s ∈ pce (run 97 n) e m → ∃ a k, s = run a (k + 1) ∧ 97 ≤ a := by
      intro e m E ms
      obtain ⟨i, hi, rfl⟩ := mem_pce.mp ms
      have := E.lt i hi
      refine ⟨97 + e i, e (i + 1) - e i - 1, ?_, by omega⟩
      rw [pce_run E hi]
      congr 1
      omega
    rcases List.mem_append.mp (pe.mem_iff.mpr m) with m | m
    · exact go W.a m
    · exact go W.b m
  · rw [cnt]
    obtain ⟨a1, a2⟩ := cnt_pce W.a c
    obtain ⟨b1, b2⟩ := cnt_pce W.b c
    apply Decidable.byContradiction
    intro z
    obtain ⟨i, hi, ci⟩ := a2 (by omega)
    obtain ⟨j, hj, cj⟩ := b2 (by omega)
    have i0 : 0 < i := by
      apply Decidable.byContradiction
      intro q
      have : i = 0 := by omega
      subst this
      rw [W.a.z] at ci
      exact hc ci
    have j0 : 0 < j := by
      apply Decidable.byContradiction
      intro q
      have : j = 0 := by omega
      subst this
      rw [W.b.z] at cj
      exact hc cj
    exact W.dj i j i0 hi j0 hj (by omega)
  · rw [cnt]
    have := (cnt_pce W.a 97).1
    have := (cnt_pce W.b 97).1
    omega
end Tt

/-! All layings, by all lots and all orders. -/
namespace Tt
/-- without a place -/
def wo (l : List Int) (p : Int) : List Int := l.filter fun x => !decide (x = p)
def ordF : Nat → List Int → List (List Int)
  | 0, l => if l = [] then [[]] else []
  | n + 1, l => if l = [] then [[]] else l.flatMap fun p => (ordF n (wo l p)).map (p :: ·)
def rowF (h : List (List Nat)) : Nat → List Int → List Nat → List (List Int)
  | 0, l, t => if l = [] then (if t = [] then [[]] else []) else []
  | n + 1, l, t => if l = [] then (if t = [] then [[]] else []) else l.flatMap fun p => if (shr h p).isPrefixOf t = true then (rowF h n (wo l p) (t.drop (shr h p).length)).map (p :: ·) else []
theorem wo_perm {l : List Int} (nd : l.Nodup) {p : Int} (m : p ∈ l) : (p :: wo l p).Perm l := by
  induction l with
  | nil => exact absurd m List.not_mem_nil
  | cons x l ih =>
    have nx := (List.nodup_cons.mp nd)
    unfold wo
    rw [List.filter_cons]
    by_cases e : x = p
    · subst e
      rw [if_neg (by simp)]
      have : l.filter (fun y => !decide (y = x)) = l := by
        rw [List.filter_eq_self]
        intro y my
        have : y ≠ x := fun z => nx.1 (z ▸ my)
        simp [this]
      rw [this]
    · rw [if_pos (by simp [e])]
      have mp : p ∈ l := (List.mem_cons.mp m).resolve_left fun z => e z.symm
      exact (List.Perm.swap x p _).trans ((ih nx.2 mp).cons x)
theorem wo_nodup {l : List Int} (nd : l.Nodup) (p : Int) : (wo l p).Nodup := nd.filter _
theorem wo_len {l : List Int} (nd : l.Nodup) {p : Int} (m : p ∈ l) : (wo l p).length + 1 = l.length := by
  have := (wo_perm nd m).length_eq
  simpa using this
theorem not_mem_wo {l : List Int} {p : Int} : p ∉ wo l p := by unfold wo; simp
theorem mem_wo {l : List Int} {p x : Int} (m : x ∈ wo l p) : x ∈ l := (List.mem_filter.mp m).1
theorem mem_ordF : ∀ {n : Nat} {l : List Int}, l.Nodup → l.length ≤ n → ∀ r, r ∈ ordF n l ↔ r.Perm l
  | 0, l, nd, hl, r => by
    have e : l = [] := List.length_eq_zero_iff.mp (by omega)
    subst e
    simp [ordF]
  | n + 1, l, nd, hl, r => by
    unfold ordF
    by_cases e : l = []
    · subst e
      simp
    · rw [if_neg e, List.mem_flatMap]
      constructor
      · rintro ⟨p, mp, mr⟩
        obtain ⟨r', mr', rfl⟩ := List.mem_map.mp mr
        have k := (mem_ordF (wo_nodup nd p) (by have := wo_len nd mp; omega) r').mp mr'
        exact (k.cons p).trans (wo_perm nd mp)
      · intro pm
        cases r with
        | nil => exact absurd pm.symm.eq_nil e
        | cons p r' =>
          have mp : p ∈ l := pm.mem_iff.mp List.mem_cons_self
          refine ⟨p, mp, List.mem_map.mpr ⟨r', (mem_ordF (wo_nodup nd p) (by have := wo_len nd mp; omega) r').mpr ?_, rfl⟩⟩
          exact (pm.trans (wo_perm nd mp).symm).cons_inv
theorem nodup_ordF : ∀ {n : Nat} {l : List Int}, l.Nodup → (ordF n l).Nodup
  | 0, l, nd => by
    unfold ordF
    split
    · exact List.pairwise_singleton _ _
    · exact List.nodup_nil
  | n + 1, l, nd => by
    unfold ordF
    split
    · exact List.pairwise_singleton _ _
    · show List.Pairwise _ _
      rw [List.pairwise_flatMap]
      refine ⟨fun p mp => ?_, nd.imp fun {p q} hne a ha b hb e => ?_⟩
      · rw [List.pairwise_map]
        exact (nodup_ordF (wo_nodup nd p)).imp fun hne z => hne (List.cons.inj z).2
      · obtain ⟨_, _, rfl⟩ := List.mem_map.mp ha
        obtain ⟨_, _, rfl⟩ := List.mem_map.mp hb
        exact hne (List.cons.inj e).1
theorem sum_le_mul {α : Type} (f : α → Nat) (b : Nat) : ∀ l : List α, (∀ x ∈ l, f x ≤ b) → (l.map f).sum ≤ l.length * b
  | [], _ => by simp
  | x :: l, h => by
    have h1 := h x List.mem_cons_self
    have h2 := sum_le_mul f b l fun y m => h y (List.mem_cons_of_mem _ m)
    rw [List.map_cons, List.sum_cons, List.length_cons, Nat.add_mul]
    omega
theorem ordF_len : ∀ {n : Nat} {l : List Int}, l.Nodup → l.length ≤ n → (ordF n l).length ≤ fac n
  | 0, l, nd, hl => by
    unfold ordF
    split <;> simp [fac]
  | n + 1, l, nd, hl => by
    unfold ordF
    split
    · have := fac_pos (n + 1)
      simpa using this
    · rw [List.length_flatMap]
      refine Nat.le_trans (sum_le_mul _ (fac n) l fun p mp => ?_) ?_
      · rw [List.length_map]
        exact ordF_len (wo_nodup nd p) (by have := wo_len nd mp; omega)
      · exact Nat.mul_le_mul_right _ hl
theorem rowF_len {h : List (List Nat)} : ∀ {n : Nat} {l : List Int} {t : List Nat}, l.Nodup → l.length ≤ n → (rowF h n l t).length ≤ fac n
  | 0, l, t, nd, hl => by
    unfold rowF
    split
    · split <;> simp [fac]
    · simp [fac]
  | n + 1, l, t, nd, hl => by
    unfold rowF
    split
    · have := fac_pos (n + 1)
      split <;> simp <;> omega
    · rw [List.length_flatMap]
      refine Nat.le_trans (sum_le_mul _ (fac n) l fun p mp => ?_) ?_
      · split
        · rw [List.length_map]
          exact rowF_len (wo_nodup nd p) (by have := wo_len nd mp; omega)
        · exact Nat.zero_le _
      · exact Nat.mul_le_mul_right _ hl
theorem pre_drop {a t : List Nat} (h : a.isPrefixOf t = true) : t = a ++ t.drop a.length := by
  obtain ⟨r, rfl⟩ := List.isPrefixOf_iff_prefix.mp h
  simp
theorem mem_rowF {h : List (List Nat)} : ∀ {n : Nat} {l : List Int} {t : List Nat}, l.Nodup → l.length ≤ n → ∀ r, r ∈ rowF h n l t ↔ r.Perm l ∧ joinT h r = t
  | 0, l, t, nd, hl, r => by
    have e : l = [] := List.length_eq_zero_iff.mp (by omega)
    subst e
    unfold rowF
    rw [if_pos rfl]
    constructor
    · intro m
      split at m
      · rename_i e
        rw [List.mem_singleton.mp m, e]
        exact ⟨.nil, rfl⟩
      · exact absurd m List.not_mem_nil
    · rintro ⟨pm, e⟩
      have er := pm.eq_nil
      subst er
      rw [joinT_nil] at e
      rw [if_pos e.symm]
      exact List.mem_singleton.mpr rfl
  | n + 1, l, t, nd, hl, r => by
    unfold rowF
    by_cases e : l = []
    · subst e
      rw [if_pos rfl]
      constructor
      · intro m
        split at m
        · rename_i e
          rw [List.mem_singleton.mp m, e]
          exact ⟨.nil, rfl⟩
        · exact absurd m List.not_mem_nil
      · rintro ⟨pm, e⟩
        have er := pm.eq_nil
        subst er
        rw [joinT_nil] at e
        rw [if_pos e.symm]
        exact List.mem_singleton.mpr rfl
    · rw [if_neg e, List.mem_flatMap]
      constructor
      · rintro ⟨p, mp, mr⟩
        split at mr
        · rename_i hp
          obtain ⟨r', mr', rfl⟩ := List.mem_map.mp mr
          obtain ⟨k1, k2⟩ := (mem_rowF (wo_nodup nd p) (by have := wo_len nd mp; omega) r').mp mr'
          refine ⟨(k1.cons p).trans (wo_perm nd mp), ?_⟩
          rw [joinT_cons, k2]
          exact (pre_drop hp).symm
        · exact absurd mr List.not_mem_nil
      · rintro ⟨pm, et⟩
        cases r with
        | nil => exact absurd pm.symm.eq_nil e
        | cons p r' =>
          have mp : p ∈ l := pm.mem_iff.mp List.mem_cons_self
          rw [joinT_cons] at et
          have hp : (shr h p).isPrefixOf t = true := List.isPrefixOf_iff_prefix.mpr ⟨_, et⟩
          refine ⟨p, mp, ?_⟩
          rw [if_pos hp]
          refine List.mem_map.mpr ⟨r', (mem_rowF (wo_nodup nd p) (by have := wo_len nd mp; omega) r').mpr ⟨(pm.trans (wo_perm nd mp).symm).cons_inv, ?_⟩, rfl⟩
          rw [← et]
          simp
theorem nodup_rowF {h : List (List Nat)} : ∀ {n : Nat} {l : List Int} {t : List Nat}, l.Nodup → (rowF h n l t).Nodup
  | 0, l, t, nd => by
    unfold rowF
    split
    · split
      · exact List.pairwise_singleton _ _
      · exact List.nodup_nil
    · exact List.nodup_nil
  | n + 1, l, t, nd => by
    unfold rowF
    split
    · split
      · exact List.pairwise_singleton _ _
      · exact List.nodup_nil
    · show List.Pairwise _ _
      rw [List.pairwise_flatMap]
      refine ⟨fun p mp => ?_, nd.imp fun {p q} hne a ha b hb e => ?_⟩
      · split
        · rw [List.pairwise_map]
          exact (nodup_rowF (wo_nodup nd p)).imp fun hne z => hne (List.cons.inj z).2
        · exact List.Pairwise.nil
      · split at ha
        · split at hb
          · obtain ⟨_, _, rfl⟩ := List.mem_map.mp ha
            obtain ⟨_, _, rfl⟩ := List.mem_map.mp hb
            exact hne (List.cons.inj e).1
          · exact absurd hb List.not_mem_nil
        · exact absurd ha List.not_mem_nil
/-- the lots that hold the first place -/
def lotF : Nat → List (List Int)
  | 0 => [[0]]
  | k + 1 => lotF k ++ (lotF k).map (· ++ [(1 : Int) + (k : Int)])
theorem lotF_len : ∀ k, (lotF k).length = 2 ^ k
  | 0 => rfl
  | k + 1 => by rw [lotF, List.length_append, List.length_map, lotF_len k, Nat.pow_succ]; omega
theorem mem_lotF : ∀ {k : Nat} {l : List Int}, l ∈ lotF k ↔ l.Pairwise (· < ·) ∧ (0 : Int) ∈ l ∧ ∀ x ∈ l, 0 ≤ x ∧ x ≤ k
  | 0, l => by
    unfold lotF
    rw [List.mem_singleton]
    constructor
    · rintro rfl
      exact ⟨List.pairwise_singleton _ _, List.mem_singleton.mpr rfl, fun x m => by rw [List.mem_singleton.mp m]; exact ⟨Int.le_refl _, Int.le_refl _⟩⟩
    · rintro ⟨pw, m0, b⟩
      cases l with
      | nil => exact absurd m0 List.not_mem_nil
      | cons x l =>
        have b1 := b x List.mem_cons_self
        cases l with
        | nil =>
          have : x = 0 := by omega
          rw [this]
        | cons y l =>
          have b2 := b y (List.mem_cons_of_mem _ List.mem_cons_self)
          have := (List.pairwise_cons.mp pw).1 y List.mem_cons_self
          omega
  | k + 1, l => by
    unfold lotF
    rw [List.mem_append]
    constructor
    · rintro (m | m)
      · obtain ⟨pw, m0, b⟩ := mem_lotF.mp m
        exact ⟨pw, m0, fun x mx => by have := b x mx; omega⟩
      · obtain ⟨l', m', rfl⟩ := List.mem_map.mp m
        obtain ⟨pw, m0, b⟩ := mem_lotF.mp m'
        refine ⟨?_, List.mem_append_left _ m0, fun x mx => ?_⟩
        · rw [List.pairwise_append]
          exact ⟨pw, List.pairwise_singleton _ _, fun x mx y my => by rw [List.mem_singleton.mp my]; have := b x mx; omega⟩
        · rcases List.mem_append.mp mx with mx | mx
          · have := b x mx; omega
          · rw [List.mem_singleton.mp mx]; omega
    · rintro ⟨pw, m0, b⟩
      by_cases c : (1 : Int) + (k : Int) ∈ l
      · right
        have hne : l ≠ [] := fun e => by rw [e] at c; exact absurd c List.not_mem_nil
        have e := (List.dropLast_concat_getLast hne).symm
        generalize l.getLast hne = z at e
        generalize l.dropLast = l' at e
        subst e
        rw [List.pairwise_append] at pw
        have hz : z = 1 + (k : Int) := by
          have b1 := b z (List.mem_append_right _ (List.mem_singleton.mpr rfl))
          rcases List.mem_append.mp c with c | c
          · have := pw.2.2 _ c z (List.mem_singleton.mpr rfl)
            omega
          · exact (List.mem_singleton.mp c).symm
        subst hz
        refine List.mem_map.mpr ⟨l', mem_lotF.mpr ⟨pw.1, ?_, fun x mx => ?_⟩, rfl⟩
        · rcases List.mem_append.mp m0 with m | m
          · exact m
          · have := List.mem_singleton.mp m; omega
        · have h1 := pw.2.2 x mx _ (List.mem_singleton.mpr rfl)
          have h2 := b x (List.mem_append_left _ mx)
          omega
      · left
        refine mem_lotF.mpr ⟨pw, m0, fun x mx => ?_⟩
        have h2 := b x mx
        have : x ≠ 1 + (k : Int) := fun e => c (e ▸ mx)
        omega
theorem nodup_lotF : ∀ k, (lotF k).Nodup
  | 0 => List.pairwise_singleton _ _
  | k + 1 => by
    unfold lotF
    rw [List.nodup_append]
    refine ⟨nodup_lotF k, ?_, fun a ha b hb e => ?_⟩
    · show List.Pairwise _ _
      rw [List.pairwise_map]
      exact (nodup_lotF k).imp fun hne z => hne (List.append_cancel_right z)
    · obtain ⟨l', m', rfl⟩ := List.mem_map.mp hb
      have := ((mem_lotF.mp ha).2.2 (1 + (k : Int)) (by rw [e]; exact List.mem_append_right _ (List.mem_singleton.mpr rfl)))
      omega
/-- the places that a lot leaves -/
def rst (n : Nat) (lot : List Int) : List Int := (rngI n).filter fun x => !decide (x ∈ lot)
noncomputable def laidB (h : List (List Nat)) (L : LY) : Bool := @decide (Lay h L.1 L.2 ∧ (0 : Int) ∈ L.1) (Classical.propDecidable _)
noncomputable def lotB (h : List (List Nat)) (lot : List Int) : List LY :=
  if 2 * (joinT h lot).length = (h.map List.length).sum then (ordF 8 lot).flatMap fun one => ((rowF h 8 (rst h.length lot) (joinT h one)).filter fun other => laidB h (one, other)).map fun other => (one, other) else []
noncomputable def brute (h : List (List Nat)) : List LY := (lotF (h.length - 1)).flatMap (lotB h)
section
variable {h : List (List Nat)}
theorem laidB_iff {L : LY} : laidB h L = true ↔ Lay h L.1 L.2 ∧ (0 : Int) ∈ L.1 := by unfold laidB; exact @decide_eq_true_iff _ (Classical.propDecidable _)
theorem rst_nodup (n : Nat) (lot : List Int) : (rst n lot).Nodup := (rngI_nodup n).filter _
theorem rst_len (n : Nat) (lot : List Int) : (rst n lot).length ≤ n := by
  have := List.length_filter_le (fun x => !decide (x ∈ lot)) (rngI n)
  rw [rngI_len] at this
  exact this
theorem rst_mem {n : Nat} {lot : List Int} {x : Int} : x ∈ rst n lot ↔ (0 ≤ x ∧ x < n) ∧ x ∉ lot := by
  unfold rst
  rw [List.mem_filter, mem_rngI]
  simp
theorem perm_of_mem {a b : List Int} (na : a.Nodup) (nb : b.Nodup) (e : ∀ x, x ∈ a ↔ x ∈ b) : a.Perm b := (List.perm_ext_iff_of_nodup na nb).mpr e
theorem isNL_iff (ne : ∀ s ∈ h, s ≠ []) (h0 : 0 < h.length) {L : LY} : isNL h L ↔ Lay h L.1 L.2 ∧ (0 : Int) ∈ L.1 := by
  constructor
  · rintro ⟨L', m, rfl⟩
    have k := (mem_ordL ne).mp m
    unfold nrm
    split
    · rename_i c
      exact ⟨k, c⟩
    · rename_i c
      refine ⟨lay_swap ne k, ?_⟩
      have : (0 : Int) ∈ L'.1 ++ L'.2 := k.pm.mem_iff.mpr (mem_rngI.mpr ⟨Int.le_refl 0, by omega⟩)
      exact (List.mem_append.mp this).resolve_left c
  · rintro ⟨l, c⟩
    refine ⟨L, (mem_ordL ne).mpr l, ?_⟩
    unfold nrm
    rw [if_pos c]
theorem lot_ok (hi : h.length ≤ 8) (h0 : 0 < h.length) {lot : List Int} (m : lot ∈ lotF (h.length - 1)) : lot.Nodup ∧ lot.length ≤ 8 ∧ ∀ x ∈ lot, 0 ≤ x ∧ x < h.length := by
  obtain ⟨pw, _, b⟩ := mem_lotF.mp m
  have nd : lot.Nodup := pw.imp fun h => Int.ne_of_lt h
  have hb : ∀ x ∈ lot, 0 ≤ x ∧ x < h.length := fun x mx => by have := b x mx; omega
  refine ⟨nd, ?_, hb⟩
  have := nodup_le lot (rngI h.length) nd fun x mx => mem_rngI.mpr (hb x mx)
  rw [rngI_len] at this
  omega
theorem mem_brute (ne : ∀ s ∈ h, s ≠ []) (h0 : 0 < h.length) (hi : h.length ≤ 8) {L : LY} : L ∈ brute h ↔ isNL h L := by
  rw [isNL_iff ne h0]
  unfold brute
  rw [List.mem_flatMap]
  constructor
  · rintro ⟨lot, ml, mL⟩
    unfold lotB at mL
    split at mL
    · obtain ⟨one, mo, mL⟩ := List.mem_flatMap.mp mL
      obtain ⟨other, mt, rfl⟩ := List.mem_map.mp mL
      exact laidB_iff.mp (List.mem_filter.mp mt).2
    · exact absurd mL List.not_mem_nil
  · rintro ⟨l, c⟩
    have nd : (L.1 ++ L.2).Nodup := l.pm.nodup_iff.mpr (rngI_nodup _)
    obtain ⟨n1, n2, n3⟩ := List.nodup_append.mp nd
    have pl : ∀ x, x ∈ L.1 ∨ x ∈ L.2 ↔ 0 ≤ x ∧ x < h.length := fun x => by rw [← List.mem_append, l.pm.mem_iff, mem_rngI]
    have sp := List.mergeSort_perm L.1 fun a b => decide (a ≤ b)
    have ml : L.1.mergeSort (fun a b => decide (a ≤ b)) ∈ lotF (h.length - 1) := by
      refine mem_lotF.mpr ⟨?_, sp.mem_iff.mpr c, fun x mx => ?_⟩
      · have so : (L.1.mergeSort fun a b => decide (a ≤ b)).Pairwise fun a b => decide (a ≤ b) = true := List.pairwise_mergeSort (fun a b c h1 h2 => by
          simp only [decide_eq_true_eq] at *
          omega) (fun a b => by
          simp only [Bool.or_eq_true, decide_eq_true_eq]
          omega) _
        have nm : (L.1.mergeSort fun a b => decide (a ≤ b)).Nodup := sp.nodup_iff.mpr n1
        exact (so.and nm).imp fun {a b} ⟨h1, h2⟩ => by
          have := of_decide_eq_true h1
          omega
      · have := (pl x).mp (.inl (sp.mem_iff.mp mx))
        omega
    obtain ⟨k1, k2, k3⟩ := lot_ok hi h0 ml
    refine ⟨_, ml, ?_⟩
    unfold lotB
    have js : ∀ {a b : List Int}, a.Perm b → (joinT h a).length = (joinT h b).length := fun p => by
      rw [joinT_sum, joinT_sum]
      exact (p.map _).sum_nat
    have half : 2 * (joinT h (L.1.mergeSort fun a b => decide (a ≤ b))).length = (h.map List.length).sum := by
      rw [js sp]
      have m : joinT h L.1 ∈ textsU h := (mem_textsU ne).mpr ⟨L, (mem_ordL ne).mpr l, rfl⟩
      exact texts_half ne m
    rw [if_pos half]
    refine List.mem_flatMap.mpr ⟨L.1, (mem_ordF k1 k2 _).mpr sp.symm, List.mem_map.mpr ⟨L.2, List.mem_filter.mpr ⟨(mem_rowF (rst_nodup _ _) (Nat.le_trans (rst_len _ _) hi) _).mpr ⟨perm_of_mem n2 (rst_nodup _ _) fun x => ?_, l.tx.symm⟩, laidB_iff.mpr ⟨l, c⟩⟩, rfl⟩⟩
    rw [rst_mem, sp.mem_iff, ← pl x]
    constructor
    · intro m
      exact ⟨.inr m, fun m1 => n3 x m1 x m rfl⟩
    · rintro ⟨m | m, n⟩
      · exact absurd m n
      · exact m
theorem nodup_brute (h0 : 0 < h.length) (hi : h.length ≤ 8) : (brute h).Nodup := by
  unfold brute
  show List.Pairwise _ _
  rw [List.pairwise_flatMap]
  refine ⟨fun lot ml => ?_, (nodup_lotF (h.length - 1)).imp_of_mem fun {a b} ma mb hne x hx y hy e => ?_⟩
  · unfold lotB
    split
    · rw [List.pairwise_flatMap]
      obtain ⟨k1, k2, k3⟩ := lot_ok hi h0 ml
      refine ⟨fun one mo => ?_, (nodup_ordF k1).imp fun {p q} hne a ha b hb e => ?_⟩
      · rw [List.pairwise_map]
        exact ((nodup_rowF (rst_nodup _ _)).filter _).imp fun hne z => hne (Prod.mk.inj z).2
      · obtain ⟨_, _, rfl⟩ := List.mem_map.mp ha
        obtain ⟨_, _, rfl⟩ := List.mem_map.mp hb
        exact hne (Prod.mk.inj e).1
    · exact List.Pairwise.nil
  · have key : ∀ {lot : List Int} {z : LY}, lot ∈ lotF (h.length - 1) → z ∈ lotB h lot → z.1.Perm lot := fun {lot z} ml mz => by
      obtain ⟨k1, k2, k3⟩ := lot_ok hi h0 ml
      unfold lotB at mz
      split at mz
      · obtain ⟨one, mo, mL⟩ := List.mem_flatMap.mp mz
        obtain ⟨other, mt, rfl⟩ := List.mem_map.mp mL
        exact (mem_ordF k1 k2 _).mp mo
      · exact absurd mz List.not_mem_nil
    subst e
    have p := (key ma hx).symm.trans (key mb hy)
    exact hne (List.Perm.eq_of_pairwise (le := fun a b : Int => a < b) (fun a b _ _ h1 h2 => by omega) (mem_lotF.mp ma).1 (mem_lotF.mp mb).1 p)
theorem brute_many (ne : ∀ s ∈ h, s ≠ []) (h0 : 0 < h.length) (hi : h.length ≤ 8) : manyW h / 2 = (brute h).length := by
  rw [manyW_eq]
  have sw : ∀ L, L ∈ ordL h → (L.2, L.1) ∈ ordL h := fun L m => (mem_ordL ne).mpr (lay_swap ne ((mem_ordL ne).mp m))
  have zero : ∀ L, L ∈ ordL h → ((0 : Int) ∈ L.1 ↔ ¬ (0 : Int) ∈ L.2) := fun L m => by
    have k := (mem_ordL ne).mp m
    have nd : (L.1 ++ L.2).Nodup := k.pm.nodup_iff.mpr (rngI_nodup _)
    have z : (0 : Int) ∈ L.1 ++ L.2 := k.pm.mem_iff.mpr (mem_rngI.mpr ⟨Int.le_refl 0, by omega⟩)
    constructor
    · intro a b
      exact (List.nodup_append.mp nd).2.2 0 a 0 b rfl
    · intro a
      exact (List.mem_append.mp z).resolve_right a
  have pb : (brute h).Perm ((ordL h).filter fun L => decide ((0 : Int) ∈ L.1)) := (List.perm_ext_iff_of_nodup (nodup_brute h0 hi) (nodup_ordL.filter _)).mpr fun L => by
    rw [mem_brute ne h0 hi, isNL_iff ne h0, List.mem_filter, mem_ordL ne, decide_eq_true_eq]
  have p2 : ((ordL h).filter fun L => !decide ((0 : Int) ∈ L.1)).Perm (((ordL h).filter fun L => decide ((0 : Int) ∈ L.1)).map fun L => (L.2, L.1)) := by
    refine (List.perm_ext_iff_of_nodup (nodup_ordL.filter _) ?_).mpr fun L => ?_
    · show List.Pairwise _ _
      rw [List.pairwise_map]
      exact (nodup_ordL.filter _).imp fun {a b} hne e => hne (by
        simp only [Prod.mk.injEq] at e
        exact Prod.ext e.2 e.1)
    · rw [List.mem_filter, List.mem_map]
      constructor
      · rintro ⟨m, z⟩
        refine ⟨(L.2, L.1), List.mem_filter.mpr ⟨sw L m, ?_⟩, rfl⟩
        have k := zero _ (sw L m)
        have z' : ¬ (0 : Int) ∈ L.1 := by simpa using z
        exact decide_eq_true (k.mpr z')
      · rintro ⟨M, mM, rfl⟩
        obtain ⟨m, z⟩ := List.mem_filter.mp mM
        have z' := of_decide_eq_true z
        have k := (zero M m).mp z'
        refine ⟨sw M m, ?_⟩
        simpa using k
  have tot : (ordL h).length = ((ordL h).filter fun L => decide ((0 : Int) ∈ L.1)).length + ((ordL h).filter fun L => !decide ((0 : Int) ∈ L.1)).length := by
    generalize ordL h = l
    induction l with
    | nil => rfl
    | cons x l ih =>
      rw [List.length_cons, ih, List.filter_cons, List.filter_cons]
      by_cases c : (0 : Int) ∈ x.1 <;> simp [c] <;> omega
  have e2 := p2.length_eq
  rw [List.length_map] at e2
  rw [tot, e2, ← pb.length_eq]
  omega
end
end Tt

namespace Tt
section
variable {h : List (List Nat)}
theorem wys_fac : ∀ (n : Nat) {u : List Int} {r : List Nat}, Us h u → rm h u = n → wys h u r ≤ fac n
  | 0, u, r, U, e => by
    rw [wys_eq U, nexts_full U e]
    simp [fac]
    split <;> omega
  | n + 1, u, r, U, e => by
    rw [wys_eq U]
    have k : ((nexts h u r).map fun x => wys h x.2.1 x.2.2).sum ≤ (nexts h u r).length * fac n := sum_le_mul _ _ _ fun x m => wys_fac n (next_us U m).1 (by have := next_rm U m; omega)
    have l := nexts_rm (r := r) U
    rw [e] at l
    have k2 := Nat.mul_le_mul_right (fac n) l
    split
    · rename_i c
      rw [isE_nexts c]
      have := fac_pos (n + 1)
      simp
      omega
    · show 0 + _ ≤ (n + 1) * fac n
      omega
theorem manyW_fac {n : Nat} (e : h.length = n + 1) : manyW h ≤ fac (n + 1) := by
  unfold manyW
  have k : ((begins h).map fun b => wys h b.1 b.2).sum ≤ (begins h).length * fac n := sum_le_mul _ _ _ fun b m => by
    obtain ⟨v, l⟩ := begin_vs m
    exact wys_fac n v.us (by unfold rm; omega)
  have : (begins h).length = n + 1 := by simp [begins, e]
  rw [this] at k
  exact k
theorem manyW_le {n : Nat} (e : h.length ≤ n) (h0 : 0 < h.length) : manyW h ≤ fac n := by
  obtain ⟨m, em⟩ : ∃ m, h.length = m + 1 := ⟨h.length - 1, by omega⟩
  have := manyW_fac em
  exact Nat.le_trans this (fac_le (by omega))
theorem brute_len (ne : ∀ s ∈ h, s ≠ []) (h0 : 0 < h.length) (hi : h.length ≤ 8) : (brute h).length ≤ 20160 := by
  rw [← brute_many ne h0 hi]
  have := manyW_le hi h0
  have e : fac 8 = 40320 := by decide
  omega
theorem brute_len6 (ne : ∀ s ∈ h, s ≠ []) (h0 : 0 < h.length) (hi : h.length ≤ 6) : (brute h).length ≤ 360 := by
  rw [← brute_many ne h0 (by omega)]
  have := manyW_le hi h0
  have e : fac 6 = 720 := by decide
  omega
theorem texts_brute (ne : ∀ s ∈ h, s ≠ []) (h0 : 0 < h.length) (hi : h.length ≤ 8) {t : List Nat} : t ∈ textsU h ↔ t ∈ (brute h).map fun L => joinT h L.1 := by
  rw [mem_textsU ne, List.mem_map]
  constructor
  · rintro ⟨L, m, rfl⟩
    have l := (mem_ordL ne).mp m
    refine ⟨nrm L, (mem_brute ne h0 hi).mpr ⟨L, m, rfl⟩, ?_⟩
    unfold nrm
    split
    · rfl
    · exact l.tx.symm
  · rintro ⟨L, m, rfl⟩
    have k := (isNL_iff ne h0).mp ((mem_brute ne h0 hi).mp m)
    exact ⟨L, (mem_ordL ne).mpr k.1, rfl⟩
theorem texts_none (ne : ∀ s ∈ h, s ≠ []) (e : manyW h = 0) : textsU h = [] := by
  rw [manyW_eq] at e
  have o : ordL h = [] := List.length_eq_zero_iff.mp e
  cases q : textsU h with
  | nil => rfl
  | cons t l =>
    obtain ⟨L, m, _⟩ := (mem_textsU ne).mp (show t ∈ textsU h by rw [q]; exact List.mem_cons_self)
    rw [o] at m
    exact absurd m List.not_mem_nil
/-! ### reckoning small heaps -/
def insK : List Int → Int → List Int
  | [], p => [p]
  | x :: u, p => if p ≤ x then p :: x :: u else x :: insK u p
theorem insK_perm : ∀ (u : List Int) (p : Int), (insK u p).Perm (p :: u)
  | [], p => .refl _
  | x :: u, p => by
    unfold insK
    split
    · exact .refl _
    · exact ((insK_perm u p).cons x).trans (.swap p x u)
theorem insK_pw : ∀ {u : List Int} {p : Int}, u.Pairwise (· ≤ ·) → (insK u p).Pairwise (· ≤ ·)
  | [], p, _ => List.pairwise_singleton _ _
  | x :: u, p, h => by
    obtain ⟨h1, h2⟩ := List.pairwise_cons.mp h
    unfold insK
    split
    · rename_i c
      exact List.pairwise_cons.mpr ⟨fun y m => by
        rcases List.mem_cons.mp m with rfl | m
        · exact c
        · have := h1 y m; omega, h⟩
    · rename_i c
      exact List.pairwise_cons.mpr ⟨fun y m => by
        rcases List.mem_cons.mp ((insK_perm u p).mem_iff.mp m) with rfl | m
        · omega
        · exact h1 y m, insK_pw h2⟩
theorem ins_insK {u : List Int} (hu : u.Pairwise (· ≤ ·)) (p : Int) : ins u p = insK u p := by
  have so : (ins u p).Pairwise fun a b => decide (a ≤ b) = true := List.pairwise_mergeSort (fun a b c h1 h2 => by
    simp only [decide_eq_true_eq] at *
    omega) (fun a b => by
    simp only [Bool.or_eq_true, decide_eq_true_eq]
    omega) _
  exact List.Perm.eq_of_pairwise (le := fun a b : Int => a ≤ b) (fun a b _ _ h1 h2 => Int.le_antisymm h1 h2) (so.imp fun h => of_decide_eq_true h) (insK_pw hu) ((perm_ins u p).trans (insK_perm u p).symm)
def nxK (h : List (List Nat)) (u : List Int) (r : List Nat) (i : Nat) : Option NX :=
  if r ≠ [] ∧ (i : Int) ∉ u then (lo r (shr h i)).map fun l => ((i : Int), insK u i, l) else none
def wysK (h : List (List Nat)) : Nat → List Int → List Nat → Nat
  | 0, u, r => if isE h u r then 1 else 0
  | k + 1, u, r => (if isE h u r then 1 else 0) + (((List.range h.length).filterMap (nxK h u r)).map fun x => wysK h k x.2.1 x.2.2).sum
theorem nexts_K {u : List Int} {r : List Nat} (hu : u.Pairwise (· ≤ ·)) : nexts h u r = (List.range h.length).filterMap (nxK h u r) := by
  unfold nexts
  congr 1
  funext i
  unfold nx1 nxK
  rw [ins_insK hu]
theorem waysF_K : ∀ (n : Nat) {u : List Int} {r : List Nat}, u.Pairwise (· ≤ ·) → waysF h n u r = wysK h n u r
  | 0, u, r, _ => rfl
  | n + 1, u, r, hu => by
    unfold waysF wysK
    rw [nexts_K hu]
    congr 2
    refine List.map_congr_left fun x m => ?_
    refine waysF_K n ?_
    rw [← nexts_K hu] at m
    rw [(mem_nexts.mp m).2.2.2.2.1, ins_insK hu]
    exact insK_pw hu
def manyK (h : List (List Nat)) : Nat := ((List.range h.length).map fun (i : Nat) => wysK h (h.length - 1) [(i : Int)] (shr h i)).sum
theorem manyW_K : manyW h = manyK h := by
  unfold manyW manyK begins
  rw [List.map_map]
  congr 1
  refine List.map_congr_left fun i _ => ?_
  exact waysF_K _ (List.pairwise_singleton _ _)
theorem reck1 : manyW [[97, 98], [97, 98]] = 2 := by rw [manyW_K]; decide +kernel
theorem reck2 : manyW [[97], [97], [98], [98]] = 0 := by rw [manyW_K]; decide +kernel
theorem reck3 : manyW [[97], [97, 98], [98, 99], [99]] = 2 := by rw [manyW_K]; decide +kernel
end
end Tt

/-! Shreds left out. -/
namespace Tt
def wout (h : List (List Nat)) (z : List Int) : List (List Nat) := (rst h.length z).map (shr h)
def goodB (h : List (List Nat)) (z : List Int) : Bool := decide (2 ≤ (wout h z).length) && decide (manyW (wout h z) ≠ 0)
def chF : Nat → List Int → List (List Int)
  | 0, _ => [[]]
  | m + 1, l => (List.range l.length).flatMap fun i => (chF m (l.drop (i + 1))).map (l.getD i 0 :: ·)
def allCh (n : Nat) : List (List Int) := (List.range (n + 1)).flatMap fun m => chF m (rngI n)
def allCh' (n : Nat) : List (List Int) := (List.range (n - 1)).flatMap fun m => chF m (rngI n)
def lotU : Nat → List (List Int)
  | 0 => [[]]
  | k + 1 => lotU k ++ (lotU k).map (· ++ [(k : Int)])
def sl (a b : List Int) : Prop := a.length < b.length ∨ (a.length = b.length ∧ a ≤ b)
instance (a b : List Int) : Decidable (sl a b) := inferInstanceAs (Decidable (_ ∨ _))
theorem lots_pw : ∀ n, n ≤ 8 → (allCh n).Pairwise sl := by decide +kernel
theorem lots_perm : ∀ n, n ≤ 8 → (lotU n).Perm (allCh n) := by decide +kernel
theorem lotU_len : ∀ k, (lotU k).length = 2 ^ k
  | 0 => rfl
  | k + 1 => by rw [lotU, List.length_append, List.length_map, lotU_len k, Nat.pow_succ]; omega
theorem lotU_each : ∀ (k : Nat) (l : List Int), l ∈ lotU k → l.length ≤ k
  | 0, l, m => by rw [List.mem_singleton.mp m]; exact Nat.le_refl _
  | k + 1, l, m => by
    rcases List.mem_append.mp m with m | m
    · have := lotU_each k l m; omega
    · obtain ⟨l', m', rfl⟩ := List.mem_map.mp m
      have := lotU_each k l' m'
      rw [List.length_append, List.length_singleton]
      omega
theorem mem_chF : ∀ {m : Nat} {l z : List Int}, l.Pairwise (· < ·) → z ∈ chF m l → z.length = m ∧ z.Pairwise (· < ·) ∧ ∀ x ∈ z, x ∈ l
  | 0, l, z, _, m => by
    rw [List.mem_singleton.mp m]
    exact ⟨rfl, List.Pairwise.nil, fun x mx => absurd mx List.not_mem_nil⟩
  | m + 1, l, z, pl, mz => by
    unfold chF at mz
    obtain ⟨i, mi, mz⟩ := List.mem_flatMap.mp mz
    obtain ⟨z', mz', rfl⟩ := List.mem_map.mp mz
    have hi := List.mem_range.mp mi
    have pd : (l.drop (i + 1)).Pairwise (· < ·) := pl.sublist (List.drop_sublist _ _)
    obtain ⟨k1, k2, k3⟩ := mem_chF pd mz'
    have eg : l.getD i 0 = l[i] := by rw [List.getD_eq_getElem?_getD, List.getElem?_eq_getElem hi]; rfl
    rw [eg]
    refine ⟨by rw [List.length_cons, k1], List.pairwise_cons.mpr ⟨fun y my => ?_, k2⟩, fun x mx => ?_⟩
    · obtain ⟨j, hj, e⟩ := List.getElem_of_mem (k3 y my)
      rw [List.getElem_drop] at e
      rw [List.length_drop] at hj
      rw [← e]
      exact List.pairwise_iff_getElem.mp pl i (i + 1 + j) hi (by omega) (by omega)
    · rcases List.mem_cons.mp mx with rfl | mx
      · exact List.getElem_mem hi
      · exact List.mem_of_mem_drop (k3 x mx)
theorem chF_mem : ∀ {z l : List Int}, l.Pairwise (· < ·) → z.Pairwise (· < ·) → (∀ x ∈ z, x ∈ l) → z ∈ chF z.length l
  | [], l, _, _, _ => List.mem_singleton.mpr rfl
  | x :: z, l, pl, pz, h => by
    obtain ⟨i, hi, e⟩ := List.getElem_of_mem (h x List.mem_cons_self)
    obtain ⟨p1, p2⟩ := List.pairwise_cons.mp pz
    rw [List.length_cons]
    unfold chF
    refine List.mem_flatMap.mpr ⟨i, List.mem_range.mpr hi, List.mem_map.mpr ⟨z, chF_mem (pl.sublist (List.drop_sublist _ _)) p2 fun y my => ?_, ?_⟩⟩
    · obtain ⟨j, hj, ej⟩ := List.getElem_of_mem (h y (List.mem_cons_of_mem _ my))
      have hxy := p1 y my
      have hij : i < j := by
        rcases Nat.lt_or_ge i j with c | c
        · exact c
        · exfalso
          rcases Nat.eq_or_lt_of_le c with c | c
          · subst c
            rw [e] at ej
            omega
          · have := List.pairwise_iff_getElem.mp pl j i hj hi c
            omega
      rw [← ej]
      refine List.mem_iff_getElem.mpr ⟨j - (i + 1), by rw [List.length_drop]; omega, ?_⟩
      rw [List.getElem_drop]
      congr 1
      omega
    · rw [List.getD_eq_getElem?_getD, List.getElem?_eq_getElem hi]
      simp [e]
theorem mem_allCh {n : Nat} {z : List Int} : z ∈ allCh n ↔ z.Pairwise (· < ·) ∧ ∀ x ∈ z, 0 ≤ x ∧ x < n := by
  unfold allCh
  rw [List.mem_flatMap]
  constructor
  · rintro ⟨m, _, mz⟩
    obtain ⟨_, k2, k3⟩ := mem_chF (rngI_lt n) mz
    exact ⟨k2, fun x mx => mem_rngI.mp (k3 x mx)⟩
  · rintro ⟨pw, b⟩
    have hs : ∀ x ∈ z, x ∈ rngI n := fun x mx => mem_rngI.mpr (b x mx)
    have := nodup_le z (rngI n) (pw.imp fun h => Int.ne_of_lt h) hs
    rw [rngI_len] at this
    exact ⟨z.length, List.mem_range.mpr (by omega), chF_mem (rngI_lt n) pw hs⟩
section
variable {h : List (List Nat)}
theorem wout_len {z : List Int} (pw : z.Pairwise (· < ·)) (b : ∀ x ∈ z, 0 ≤ x ∧ x < h.length) : (wout h z).length + z.length = h.length := by
  unfold wout
  rw [List.length_map]
  have nd : z.Nodup := pw.imp fun h => Int.ne_of_lt h
  have p : (rst h.length z ++ z).Perm (rngI h.length) := by
    refine perm_of_mem ?_ (rngI_nodup _) fun x => ?_
    · rw [List.nodup_append]
      exact ⟨rst_nodup _ _, nd, fun a ha c hc e => (rst_mem.mp ha).2 (e ▸ hc)⟩
    · rw [List.mem_append, rst_mem, mem_rngI]
      constructor
      · rintro (m | m)
        · exact m.1
        · exact b x m
      · intro m
        by_cases c : x ∈ z
        · exact .inr c
        · exact .inl ⟨m, c⟩
  have := p.length_eq
  rw [List.length_append, rngI_len] at this
  exact this
theorem wout_sub (z : List Int) : (wout h z).Sublist h := by
  have e : h = (rngI h.length).map (shr h) := by
    have := map_rngI (h := h) id
    simp only [id_eq, List.map_id'] at this
    simpa using this.symm
  unfold wout rst
  exact (List.filter_sublist.map (shr h)).trans (by rw [← e]; exact List.Sublist.refl _)
theorem hv_wout (v : Hv h) {z : List Int} (l : 2 ≤ (wout h z).length) : Hv (wout h z) := by
  have s := wout_sub (h := h) z
  have := s.length_le
  have := v.hi
  exact ⟨l, by omega, fun x m => v.each x (s.subset m), v.so.sublist s⟩
theorem wout_nil : wout h [] = h := by
  unfold wout rst
  have : (rngI h.length).filter (fun x => !decide (x ∈ ([] : List Int))) = rngI h.length := List.filter_eq_self.mpr fun _ _ => by simp
  rw [this]
  have := map_rngI (h := h) id
  simpa using this
def strF (h : List (List Nat)) : Option (List Int) := (allCh' h.length).find? (goodB h)
theorem allCh_split {n : Nat} (hn : 2 ≤ n) : allCh n = allCh' n ++ (chF (n - 1) (rngI n) ++ chF n (rngI n)) := by
  unfold allCh allCh'
  have e : n + 1 = (n - 1) + 1 + 1 := by omega
  rw [e, List.range_succ, List.range_succ, List.flatMap_append, List.flatMap_append]
  have e2 : n - 1 + 1 = n := by omega
  simp [e2]
theorem good_head (h2 : 2 ≤ h.length) : ((allCh h.length).filter (goodB h)).head? = strF h := by
  rw [List.head?_filter, allCh_split h2, List.find?_append]
  unfold strF
  have nog : ∀ m, h.length - 1 ≤ m → ∀ z ∈ chF m (rngI h.length), goodB h z = false := fun m hm z mz => by
    obtain ⟨k1, k2, k3⟩ := mem_chF (rngI_lt _) mz
    have := wout_len k2 fun x mx => mem_rngI.mp (k3 x mx)
    unfold goodB
    rw [decide_eq_false (by omega), Bool.false_and]
  have e : (chF (h.length - 1) (rngI h.length) ++ chF h.length (rngI h.length)).find? (goodB h) = none := by
    rw [List.find?_eq_none]
    intro z mz
    rcases List.mem_append.mp mz with mz | mz
    · rw [nog _ (Nat.le_refl _) z mz]; exact Bool.false_ne_true
    · rw [nog _ (by omega) z mz]; exact Bool.false_ne_true
  rw [e]
  simp
theorem strF_mem {z : List Int} (e : strF h = some z) : goodB h z = true ∧ z.Pairwise (· < ·) ∧ (∀ x ∈ z, 0 ≤ x ∧ x < h.length) := by
  unfold strF at e
  have m := List.mem_of_find?_eq_some e
  unfold allCh' at m
  obtain ⟨k, _, mz⟩ := List.mem_flatMap.mp m
  obtain ⟨_, k2, k3⟩ := mem_chF (rngI_lt _) mz
  exact ⟨List.find?_some e, k2, fun x mx => mem_rngI.mp (k3 x mx)⟩
theorem strF_le (h8 : h.length ≤ 8) (h2 : 2 ≤ h.length) {z : List Int} (m : z ∈ allCh h.length) (g : goodB h z = true) : ∃ z0, strF h = some z0 ∧ z0.length ≤ z.length := by
  have mz : z ∈ (allCh h.length).filter (goodB h) := List.mem_filter.mpr ⟨m, g⟩
  have pw : ((allCh h.length).filter (goodB h)).Pairwise sl := (lots_pw _ h8).sublist List.filter_sublist
  have e := good_head h2
  cases q : (allCh h.length).filter (goodB h) with
  | nil => rw [q] at mz; exact absurd mz List.not_mem_nil
  | cons z0 r =>
    rw [q] at mz e pw
    refine ⟨z0, e.symm, ?_⟩
    rcases List.mem_cons.mp mz with rfl | mz
    · exact Nat.le_refl _
    · rcases (List.pairwise_cons.mp pw).1 z mz with c | c <;> omega
theorem strF_nil (h2 : 2 ≤ h.length) : strF h = some [] ↔ manyW h ≠ 0 := by
  constructor
  · intro e
    have := (strF_mem e).1
    unfold goodB at this
    rw [wout_nil] at this
    simp only [Bool.and_eq_true, decide_eq_true_eq] at this
    exact this.2
  · intro e
    have g : goodB h [] = true := by
      unfold goodB
      rw [wout_nil]
      simp only [Bool.and_eq_true, decide_eq_true_eq]
      exact ⟨h2, e⟩
    unfold strF allCh'
    obtain ⟨m, hm⟩ : ∃ m, h.length - 1 = m + 1 := ⟨h.length - 2, by omega⟩
    rw [hm, List.range_succ_eq_map, List.flatMap_cons]
    show (([] : List Int) :: _).find? _ = _
    rw [List.find?_cons, g]
theorem texts_many (ne : ∀ s ∈ h, s ≠ []) : textsU h = [] ↔ manyW h = 0 := by
  constructor
  · intro e
    rw [manyW_eq]
    cases q : ordL h with
    | nil => rfl
    | cons L r =>
      have : joinT h L.1 ∈ textsU h := (mem_textsU ne).mpr ⟨L, by rw [q]; exact List.mem_cons_self, rfl⟩
      rw [e] at this
      exact absurd this List.not_mem_nil
  · exact texts_none ne
/-- shreds put in can be left out -/
theorem put_in {l e : List (List Nat)} (p : (l ++ e).Perm h) (v : Hv h) (l2 : 2 ≤ l.length) : ∃ z, z ∈ allCh h.length ∧ z.length = e.length ∧ (wout h z).Perm l ∧ 2 ≤ (wout h z).length := by
  obtain ⟨q, pq, mq⟩ := places_of _ p
  have hl : (q.take l.length).map (shr h) = l ∧ (q.drop l.length).map (shr h) = e := by
    rw [List.map_take, List.map_drop, mq]
    simp
  have nd : q.Nodup := pq.nodup_iff.mpr (rngI_nodup _)
  have qs : q = q.take l.length ++ q.drop l.length := (List.take_append_drop _ _).symm
  generalize q.take l.length = a at hl qs
  generalize q.drop l.length = b at hl qs
  subst qs
  obtain ⟨n1, n2, n3⟩ := List.nodup_append.mp nd
  have sp := List.mergeSort_perm b fun a b => decide (a ≤ b)
  have so : (b.mergeSort fun a b => decide (a ≤ b)).Pairwise fun a b => decide (a ≤ b) = true := List.pairwise_mergeSort (fun a b c h1 h2 => by
    simp only [decide_eq_true_eq] at *
    omega) (fun a b => by
    simp only [Bool.or_eq_true, decide_eq_true_eq]
    omega) _
  have nm : (b.mergeSort fun a b => decide (a ≤ b)).Nodup := sp.nodup_iff.mpr n2
  have pw : (b.mergeSort fun a b => decide (a ≤ b)).Pairwise (· < ·) := (so.and nm).imp fun {a b} ⟨h1, h2⟩ => by
    have := of_decide_eq_true h1
    omega
  have mem : ∀ x, x ∈ a ∨ x ∈ b ↔ 0 ≤ x ∧ x < h.length := fun x => by rw [← List.mem_append, pq.mem_iff, mem_rngI]
  have pa : (rst h.length (b.mergeSort fun a b => decide (a ≤ b))).Perm a := by
    refine perm_of_mem (rst_nodup _ _) n1 fun x => ?_
    rw [rst_mem, sp.mem_iff, ← mem x]
    constructor
    · rintro ⟨m | m, n⟩
      · exact m
      · exact absurd m n
    · intro m
      exact ⟨.inl m, fun m2 => n3 x m x m2 rfl⟩
  have pwo : (wout h (b.mergeSort fun a b => decide (a ≤ b))).Perm l := by
    unfold wout
    rw [← hl.1]
    exact pa.map _
  refine ⟨b.mergeSort fun a b => decide (a ≤ b), mem_allCh.mpr ⟨pw, fun x mx => (mem x).mp (.inr (sp.mem_iff.mp mx))⟩, ?_, pwo, by rw [pwo.length_eq]; exact l2⟩
  rw [sp.length_eq, ← hl.2, List.length_map]
end
end Tt

/-! Lost shreds: the search over patterns. -/
namespace Tt
abbrev CL := Nat × Option Nat
def vl (L : List Nat) (x : CL) : Nat := match x.2 with
  | none => x.1
  | some k => L.getD k 0
def alk (a b : Nat) : Option Nat := if a = 63 then some b else if b = a ∨ b = 63 then some a else none
def put (L : List Nat) (p : Option Nat) (c : Nat) : List Nat := match p with
  | none => L
  | some k => L.set k c
def layF : List CL → List CL → List Nat → Option (List Nat)
  | [], _, L => some L
  | _ :: _, [], L => some L
  | x :: r, y :: s, L => match alk (vl L x) (vl L y) with
    | none => none
    | some c => layF r s (put (put L x.2 c) y.2 c)
abbrev NDE := List Int × List CL × List Nat
def lostRow (n : Nat) : List CL := (List.range n).map fun k => (63, some k)
def rowsP (h : List (List Nat)) (n : Nat) : List (List CL) := h.map (fun s => s.map fun c => (c, none)) ++ [lostRow n]
def lefts (r s : List CL) : List CL := r.drop s.length ++ s.drop r.length
def nxL (rows : List (List CL)) (y : NDE) (i : Nat) : Option NDE := if (i : Int) ∉ y.1 then (layF y.2.1 (rows.getD i []) y.2.2).map fun L => (ins y.1 i, lefts y.2.1 (rows.getD i []), L) else none
def succL (rows : List (List CL)) (y : NDE) : List NDE := if y.2.1 = [] then [] else (List.range rows.length).filterMap (nxL rows y)
def endL (rows : List (List CL)) (y : NDE) : Bool := decide (y.2.1 = []) && decide (y.1.length = rows.length)
def vw (w : List Nat) (x : CL) : Nat := match x.2 with
  | none => x.1
  | some k => w.getD k 0
def conc (r : List CL) (w : List Nat) : List Nat := r.map (vw w)
/-- a word that the known signs do not gainsay -/
def Cpt (n : Nat) (L w : List Nat) : Prop := ∀ k, k < n → L.getD k 0 = 63 ∨ L.getD k 0 = w.getD k 0
theorem getD_set (L : List Nat) (k j c : Nat) : (L.set k c).getD j 0 = if k = j ∧ j < L.length then c else L.getD j 0 := by
  rw [List.getD_eq_getElem?_getD, List.getD_eq_getElem?_getD, List.getElem?_set]
  by_cases e : k = j
  · subst e
    by_cases l : k < L.length
    · simp [l]
    · simp [l]
  · simp [e]
theorem put_len (L : List Nat) (p : Option Nat) (c : Nat) : (put L p c).length = L.length := by
  cases p <;> simp [put]
/-- cells that can stand against each other -/
structure Apt (n : Nat) (r s : List CL) : Prop where
  a : ∀ x ∈ r, (x.2 = none ∧ x.1 ≠ 63) ∨ ∃ k, k < n ∧ x.2 = some k
  b : ∀ x ∈ s, (x.2 = none ∧ x.1 ≠ 63) ∨ ∃ k, k < n ∧ x.2 = some k
  nb : (∀ x ∈ r, x.2 = none) ∨ ∀ x ∈ s, x.2 = none
theorem Apt.tail {n : Nat} {x y : CL} {r s : List CL} (h : Apt n (x :: r) (y :: s)) : Apt n r s :=
  ⟨fun z m => h.a z (List.mem_cons_of_mem _ m), fun z m => h.b z (List.mem_cons_of_mem _ m), h.nb.imp (fun k z m => k z (List.mem_cons_of_mem _ m)) fun k z m => k z (List.mem_cons_of_mem _ m)⟩
theorem put_cpt {n : Nat} {L w : List Nat} (hL : L.length = n) {p : Option Nat} {c : Nat} (h : Cpt n L w) (e : ∀ k, p = some k → w.getD k 0 = c) : Cpt n (put L p c) w := by
  cases p with
  | none => exact h
  | some k =>
    intro j hj
    show (L.set k c).getD j 0 = 63 ∨ (L.set k c).getD j 0 = w.getD j 0
    rw [getD_set]
    split
    · rename_i z
      exact .inr (by rw [← e k rfl, z.1])
    · exact h j hj
theorem layF_yes {n : Nat} {w : List Nat} (hw : w.length = n) (w63 : ∀ k, k < n → w.getD k 0 ≠ 63) : ∀ {r s : List CL} {L : List Nat}, Apt n r s → L.length = n → Cpt n L w → (∀ i, i < r.length → i < s.length → (conc r w)[i]? = (conc s w)[i]?) → ∃ L', layF r s L = some L' ∧ L'.length = n ∧ Cpt n L' w
  | [], s, L, _, hL, c, _ => ⟨L, by cases s <;> rfl, hL, c⟩
  | x :: r, [], L, _, hL, c, _ => ⟨L, rfl, hL, c⟩
  | x :: r, y :: s, L, A, hL, c, e => by
    have e0 := e 0 (by simp) (by simp)
    have e0' : vw w x = vw w y := by simpa [conc] using e0
    have et : ∀ i, i < r.length → i < s.length → (conc r w)[i]? = (conc s w)[i]? := fun i h1 h2 => by
      have := e (i + 1) (by simp; omega) (by simp; omega)
      simpa [conc] using this
    have key : ∃ d, alk (vl L x) (vl L y) = some d ∧ (∀ k, x.2 = some k → w.getD k 0 = d) ∧ (∀ k, y.2 = some k → w.getD k 0 = d) := by
      rcases A.a x List.mem_cons_self with ⟨x1, x2⟩ | ⟨k, hk, x1⟩
      · have vx : vl L x = x.1 := by unfold vl; rw [x1]
        have wx : vw w x = x.1 := by unfold vw; rw [x1]
        rcases A.b y List.mem_cons_self with ⟨y1, y2⟩ | ⟨j, hj, y1⟩
        · have vy : vl L y = y.1 := by unfold vl; rw [y1]
          have wy : vw w y = y.1 := by unfold vw; rw [y1]
          refine ⟨x.1, ?_, fun k z => (by rw [x1] at z; cases z), fun k z => (by rw [y1] at z; cases z)⟩
          unfold alk
          rw [vx, vy, if_neg x2, if_pos (.inl (by rw [← wx, ← wy]; exact e0'.symm))]
        · have vy : vl L y = L.getD j 0 := by unfold vl; rw [y1]
          have wy : vw w y = w.getD j 0 := by unfold vw; rw [y1]
          refine ⟨x.1, ?_, fun k z => (by rw [x1] at z; cases z), fun k z => (by rw [y1] at z; cases z; rw [← wy, ← e0', wx])⟩
          unfold alk
          rw [vx, vy, if_neg x2, if_pos]
          rcases c j hj with q | q
          · exact .inr q
          · exact .inl (by rw [q, ← wy, ← e0', wx])
      · have vx : vl L x = L.getD k 0 := by unfold vl; rw [x1]
        have wx : vw w x = w.getD k 0 := by unfold vw; rw [x1]
        have yn : y.2 = none := by
          rcases A.nb with q | q
          · rw [q x List.mem_cons_self] at x1; cases x1
          · exact q y List.mem_cons_self
        rcases A.b y List.mem_cons_self with ⟨y1, y2⟩ | ⟨j, hj, y1⟩
        · have vy : vl L y = y.1 := by unfold vl; rw [y1]
          have wy : vw w y = y.1 := by unfold vw; rw [y1]
          refine ⟨y.1, ?_, fun k' z => (by rw [x1] at z; cases z; rw [← wx, e0', wy]), fun k z => (by rw [y1] at z; cases z)⟩
          unfold alk
          rw [vx, vy]
          rcases c k hk with q | q
          · rw [if_pos q]
          · have q2 : L.getD k 0 = y.1 := by rw [q, ← wx, e0', wy]
            rw [q2, if_neg y2, if_pos (.inl rfl)]
        · rw [yn] at y1; cases y1
    obtain ⟨d, k1, k2, k3⟩ := key
    have hL1 : (put (put L x.2 d) y.2 d).length = n := by rw [put_len, put_len, hL]
    obtain ⟨L', l1, l2, l3⟩ := layF_yes hw w63 A.tail hL1 (put_cpt (by rw [put_len, hL]) (put_cpt hL c k2) k3) et
    refine ⟨L', ?_, l2, l3⟩
    unfold layF
    rw [k1]
    exact l1
theorem layF_of {n : Nat} {w : List Nat} (hw : w.length = n) : ∀ {r s : List CL} {L L' : List Nat}, Apt n r s → L.length = n → layF r s L = some L' → Cpt n L' w → L'.length = n ∧ Cpt n L w ∧ ∀ i, i < r.length → i < s.length → (conc r w)[i]? = (conc s w)[i]?
  | [], s, L, L', _, hL, e, c => by
    have : L = L' := by cases s <;> exact Option.some.inj e
    subst this
    exact ⟨hL, c, fun i h => absurd h (Nat.not_lt_zero i)⟩
  | x :: r, [], L, L', _, hL, e, c => by
    have : L = L' := Option.some.inj e
    subst this
    exact ⟨hL, c, fun i _ h => absurd h (Nat.not_lt_zero i)⟩
  | x :: r, y :: s, L, L', A, hL, e, c => by
    unfold layF at e
    cases hk : alk (vl L x) (vl L y) with
    | none => rw [hk] at e; cases e
    | some d =>
      rw [hk] at e
      have hL1 : (put (put L x.2 d) y.2 d).length = n := by rw [put_len, put_len, hL]
      obtain ⟨l2, c1, et⟩ := layF_of hw A.tail hL1 e c
      have fin : vw w x = vw w y → Cpt n L w → L'.length = n ∧ Cpt n L w ∧ ∀ i, i < (x :: r).length → i < (y :: s).length → (conc (x :: r) w)[i]? = (conc (y :: s) w)[i]? := fun e0 cc => ⟨l2, cc, fun i h1 h2 => by
        cases i with
        | zero => simpa [conc] using e0
        | succ i =>
          have := et i (by simpa using h1) (by simpa using h2)
          simpa [conc] using this⟩
      unfold alk at hk
      rcases A.a x List.mem_cons_self with ⟨x1, x2⟩ | ⟨k, hk2, x1⟩
      · have vx : vl L x = x.1 := by unfold vl; rw [x1]
        have wx : vw w x = x.1 := by unfold vw; rw [x1]
        rw [vx, if_neg x2] at hk
        split at hk
        · rename_i q
          have ed := Option.some.inj hk
          rcases A.b y List.mem_cons_self with ⟨y1, y2⟩ | ⟨j, hj, y1⟩
          · have vy : vl L y = y.1 := by unfold vl; rw [y1]
            have wy : vw w y = y.1 := by unfold vw; rw [y1]
            rw [vy] at q
            refine fin (by rw [wx, wy]; exact (q.resolve_right y2).symm) ?_
            rw [x1, y1] at c1
            exact c1
          · have vy : vl L y = L.getD j 0 := by unfold vl; rw [y1]
            have wy : vw w y = w.getD j 0 := by unfold vw; rw [y1]
            rw [vy] at q
            rw [x1, y1] at c1
            have cj := c1 j hj
            rw [show put (put L none d) (some j) d = L.set j d from rfl, getD_set, if_pos ⟨rfl, by omega⟩] at cj
            have d63 : d ≠ 63 := by rw [← ed]; exact x2
            have wj : d = w.getD j 0 := cj.resolve_left d63
            refine fin (by rw [wx, wy, ← wj, ed]) fun i hi => ?_
            by_cases z : j = i
            · subst z
              rcases q with q | q
              · exact .inr (by rw [q, ed, wj])
              · exact .inl q
            · have ci := c1 i hi
              rw [show put (put L none d) (some j) d = L.set j d from rfl, getD_set, if_neg fun k => z k.1] at ci
              exact ci
        · cases hk
      · have vx : vl L x = L.getD k 0 := by unfold vl; rw [x1]
        have wx : vw w x = w.getD k 0 := by unfold vw; rw [x1]
        have yn : y.2 = none := by
          rcases A.nb with q | q
          · rw [q x List.mem_cons_self] at x1; cases x1
          · exact q y List.mem_cons_self
        rcases A.b y List.mem_cons_self with ⟨y1, y2⟩ | ⟨j, hj, y1⟩
        · have vy : vl L y = y.1 := by unfold vl; rw [y1]
          have wy : vw w y = y.1 := by unfold vw; rw [y1]
          rw [vx, vy] at hk
          have dd : d = y.1 ∧ (L.getD k 0 = 63 ∨ L.getD k 0 = y.1) := by
            split at hk
            · rename_i q
              exact ⟨(Option.some.inj hk).symm, .inl q⟩
            · split at hk
              · rename_i q1 q2
                have e1 := Option.some.inj hk
                have e2 := q2.resolve_right y2
                exact ⟨by rw [← e1, e2], .inr e2.symm⟩
              · cases hk
          rw [x1, y1] at c1
          have ck := c1 k hk2
          rw [show put (put L (some k) d) none d = L.set k d from rfl, getD_set, if_pos ⟨rfl, by omega⟩] at ck
          have wk : d = w.getD k 0 := ck.resolve_left (by rw [dd.1]; exact y2)
          refine fin (by rw [wx, wy, ← wk, dd.1]) fun i hi => ?_
          by_cases z : k = i
          · subst z
            rcases dd.2 with q | q
            · exact .inl q
            · exact .inr (by rw [q, ← dd.1, wk])
          · have ci := c1 i hi
            rw [show put (put L (some k) d) none d = L.set k d from rfl, getD_set, if_neg fun k => z k.1] at ci
            exact ci
        · rw [yn] at y1; cases y1
theorem lo_iff {a b l : List Nat} : lo a b = some l ↔ (∀ i, i < a.length → i < b.length → a[i]? = b[i]?) ∧ l = a.drop b.length ++ b.drop a.length := by
  have pre : ∀ {x y : List Nat}, x.isPrefixOf y = true ↔ x.length ≤ y.length ∧ ∀ i, i < x.length → x[i]? = y[i]? := fun {x y} => by
    rw [List.isPrefixOf_iff_prefix]
    constructor
    · rintro ⟨t, rfl⟩
      exact ⟨by simp, fun i hi => by rw [List.getElem?_append_left hi]⟩
    · rintro ⟨h1, h2⟩
      refine ⟨y.drop x.length, ?_⟩
      have e : y.take x.length = x := by
        apply List.ext_getElem?
        intro i
        rw [List.getElem?_take]
        split
        · rename_i c
          exact (h2 i c).symm
        · rename_i c
          rw [List.getElem?_eq_none (by omega)]
      conv => lhs; rw [← e]
      rw [List.length_take, show min x.length y.length = x.length by omega]
      exact List.take_append_drop _ _
  unfold lo
  constructor
  · intro h
    split at h
    · rename_i c
      obtain ⟨c1, c2⟩ := pre.mp c
      have e := Option.some.inj h
      refine ⟨fun i _ hi => (c2 i hi).symm, ?_⟩
      rw [← e, List.drop_eq_nil_of_le c1, List.append_nil]
    · split at h
      · rename_i c
        obtain ⟨c1, c2⟩ := pre.mp c
        have e := Option.some.inj h
        refine ⟨fun i hi _ => c2 i hi, ?_⟩
        rw [← e, List.drop_eq_nil_of_le c1, List.nil_append]
      · cases h
  · rintro ⟨h, rfl⟩
    by_cases c : b.length ≤ a.length
    · rw [if_pos (pre.mpr ⟨c, fun i hi => (h i (by omega) hi).symm⟩), List.drop_eq_nil_of_le c, List.append_nil]
    · have nb : ¬ b.isPrefixOf a = true := fun k => c (pre.mp k).1
      rw [if_neg nb, if_pos (pre.mpr ⟨by omega, fun i hi => h i hi (by omega)⟩), List.drop_eq_nil_of_le (show a.length ≤ b.length by omega), List.nil_append]
theorem conc_lefts (r s : List CL) (w : List Nat) : conc (lefts r s) w = (conc r w).drop (conc s w).length ++ (conc s w).drop (conc r w).length := by
  unfold conc lefts
  rw [List.map_append, List.map_drop, List.map_drop, List.length_map, List.length_map]
end Tt

namespace Tt
theorem has_many {g : List (List Nat)} : (∃ b ∈ begins g, can g b.1 b.2 = true) ↔ manyW g ≠ 0 := by
  have e : ∀ b ∈ begins g, (can g b.1 b.2 = true ↔ wys g b.1 b.2 ≠ 0) := fun b m => by
    have v := (begin_vs m).1.us
    rw [can_cmp _ v rfl, wys_cmp _ v rfl]
    constructor
    · rintro ⟨c, mc⟩ z
      rw [List.length_eq_zero_iff.mp z] at mc
      exact absurd mc List.not_mem_nil
    · intro z
      exact List.exists_mem_of_length_pos (by omega)
  unfold manyW
  generalize begins g = l at e
  induction l with
  | nil => simp
  | cons b l ih =>
    have k := e b List.mem_cons_self
    have k2 := ih fun x m => e x (List.mem_cons_of_mem _ m)
    rw [List.map_cons, List.sum_cons]
    constructor
    · rintro ⟨x, m, hx⟩
      rcases List.mem_cons.mp m with rfl | m
      · have := k.mp hx
        omega
      · have := k2.mp ⟨x, m, hx⟩
        omega
    · intro z
      by_cases c : wys g b.1 b.2 = 0
      · obtain ⟨x, m, hx⟩ := k2.mpr (by omega)
        exact ⟨x, List.mem_cons_of_mem _ m, hx⟩
      · exact ⟨b, List.mem_cons_self, k.mpr c⟩
theorem alk_mem {a b c : Nat} (h : alk a b = some c) : c = a ∨ c = b := by
  unfold alk at h
  split at h
  · exact .inr (Option.some.inj h).symm
  · split at h
    · exact .inl (Option.some.inj h).symm
    · cases h
theorem put_getD {L : List Nat} {p : Option Nat} {c k : Nat} (h : (put L p c).getD k 0 = 63) (hc : c ≠ 63) : L.getD k 0 = 63 := by
  cases p with
  | none => exact h
  | some j =>
    rw [show put L (some j) c = L.set j c from rfl, getD_set] at h
    split at h
    · exact absurd h hc
    · exact h
theorem put_at {L : List Nat} {n k c : Nat} (hL : L.length = n) (hk : k < n) : (put L (some k) c).getD k 0 = c := by
  rw [show put L (some k) c = L.set k c from rfl, getD_set, if_pos ⟨rfl, by omega⟩]
theorem alk_ne {n : Nat} {x y : CL} {r s : List CL} {L : List Nat} {c : Nat} (A : Apt n (x :: r) (y :: s)) (h : alk (vl L x) (vl L y) = some c) : c ≠ 63 := by
  unfold alk at h
  rcases A.a x List.mem_cons_self with ⟨x1, x2⟩ | ⟨k, hk, x1⟩
  · have vx : vl L x = x.1 := by unfold vl; rw [x1]
    rw [vx, if_neg x2] at h
    split at h
    · rw [← Option.some.inj h]; exact x2
    · cases h
  · have yn : y.2 = none := by
      rcases A.nb with q | q
      · rw [q x List.mem_cons_self] at x1; cases x1
      · exact q y List.mem_cons_self
    rcases A.b y List.mem_cons_self with ⟨y1, y2⟩ | ⟨j, hj, y1⟩
    · have vy : vl L y = y.1 := by unfold vl; rw [y1]
      rw [vy] at h
      split at h
      · rw [← Option.some.inj h]; exact y2
      · rename_i q
        split at h
        · rw [← Option.some.inj h]; exact q
        · cases h
    · rw [yn] at y1; cases y1
theorem layF_kn {n : Nat} : ∀ {r s : List CL} {L L' : List Nat}, Apt n r s → L.length = n → layF r s L = some L' → L'.length = n ∧ (∀ k, L'.getD k 0 = 63 → L.getD k 0 = 63) ∧ ∀ (j k : Nat) (x y : CL), r[j]? = some x → s[j]? = some y → k < n → (x.2 = some k ∨ y.2 = some k) → L'.getD k 0 ≠ 63
  | [], s, L, L', _, hL, e => by
    have : L = L' := by cases s <;> exact Option.some.inj e
    subst this
    exact ⟨hL, fun k h => h, fun j k x y h => by simp at h⟩
  | x :: r, [], L, L', _, hL, e => by
    have : L = L' := Option.some.inj e
    subst this
    exact ⟨hL, fun k h => h, fun j k x y _ h => by simp at h⟩
  | x :: r, y :: s, L, L', A, hL, e => by
    unfold layF at e
    cases hk : alk (vl L x) (vl L y) with
    | none => rw [hk] at e; cases e
    | some d =>
      rw [hk] at e
      have d63 := alk_ne A hk
      have hL1 : (put (put L x.2 d) y.2 d).length = n := by rw [put_len, put_len, hL]
      obtain ⟨a1, a2, a3⟩ := layF_kn A.tail hL1 e
      refine ⟨a1, fun k h => put_getD (put_getD (a2 k h) d63) d63, fun j k x' y' hx hy hkn hc => ?_⟩
      cases j with
      | succ j => exact a3 j k x' y' (by simpa using hx) (by simpa using hy) hkn hc
      | zero =>
        have ex : x = x' := by simpa using hx
        have ey : y = y' := by simpa using hy
        subst ex ey
        intro z
        have z1 := a2 k z
        rcases hc with hc | hc
        · have z2 := put_getD z1 d63
          rw [hc, put_at hL hkn] at z2
          exact d63 z2
        · rw [hc, put_at (by rw [put_len, hL]) hkn] at z1
          exact d63 z1
theorem layF_lt {n : Nat} : ∀ {r s : List CL} {L L' : List Nat}, (∀ x ∈ r, (x.2 = none ∧ x.1 ∈ lettersL) ∨ ∃ k, k < n ∧ x.2 = some k) → (∀ x ∈ s, (x.2 = none ∧ x.1 ∈ lettersL) ∨ ∃ k, k < n ∧ x.2 = some k) → L.length = n → (∀ c ∈ L, c = 63 ∨ c ∈ lettersL) → layF r s L = some L' → ∀ c ∈ L', c = 63 ∨ c ∈ lettersL
  | [], s, L, L', _, _, _, hl, e => by
    have : L = L' := by cases s <;> exact Option.some.inj e
    subst this
    exact hl
  | x :: r, [], L, L', _, _, _, hl, e => by
    have : L = L' := Option.some.inj e
    subst this
    exact hl
  | x :: r, y :: s, L, L', hr, hs, hL, hl, e => by
    unfold layF at e
    cases hk : alk (vl L x) (vl L y) with
    | none => rw [hk] at e; cases e
    | some d =>
      rw [hk] at e
      have val : ∀ z : CL, ((z.2 = none ∧ z.1 ∈ lettersL) ∨ ∃ k, k < n ∧ z.2 = some k) → (vl L z = 63 ∨ vl L z ∈ lettersL) := fun z hz => by
        rcases hz with ⟨z1, z2⟩ | ⟨k, hkn, z1⟩
        · right
          unfold vl
          rw [z1]
          exact z2
        · unfold vl
          rw [z1]
          have : L.getD k 0 ∈ L := by
            rw [List.getD_eq_getElem?_getD, List.getElem?_eq_getElem (by omega)]
            exact List.getElem_mem _
          exact hl _ this
      have hd : d = 63 ∨ d ∈ lettersL := by
        rcases alk_mem hk with q | q
        · rw [q]; exact val x (hr x List.mem_cons_self)
        · rw [q]; exact val y (hs y List.mem_cons_self)
      have pl : ∀ (M : List Nat) (p : Option Nat), (∀ c ∈ M, c = 63 ∨ c ∈ lettersL) → ∀ c ∈ put M p d, c = 63 ∨ c ∈ lettersL := fun M p hM c mc => by
        cases p with
        | none => exact hM c mc
        | some k =>
          rcases List.mem_or_eq_of_mem_set mc with m | rfl
          · exact hM c m
          · exact hd
      exact layF_lt (fun z m => hr z (List.mem_cons_of_mem _ m)) (fun z m => hs z (List.mem_cons_of_mem _ m)) (by rw [put_len, put_len, hL]) (pl _ _ (pl _ _ hl)) e
theorem layF_none : ∀ {r s : List CL} {L L' : List Nat}, (∀ x ∈ r, x.2 = none) → (∀ x ∈ s, x.2 = none) → layF r s L = some L' → L' = L
  | [], s, L, L', _, _, e => by cases s <;> exact (Option.some.inj e).symm
  | x :: r, [], L, L', _, _, e => (Option.some.inj e).symm
  | x :: r, y :: s, L, L', hr, hs, e => by
    unfold layF at e
    cases hk : alk (vl L x) (vl L y) with
    | none => rw [hk] at e; cases e
    | some d =>
      rw [hk, hr x List.mem_cons_self, hs y List.mem_cons_self] at e
      exact layF_none (fun z m => hr z (List.mem_cons_of_mem _ m)) (fun z m => hs z (List.mem_cons_of_mem _ m)) e
/-- reached standings of shreds -/
inductive Rch (g : List (List Nat)) : List Int → List Nat → Prop
  | start {i : Int} (h0 : 0 ≤ i) (h1 : i < g.length) : Rch g [i] (shr g i)
  | step {u : List Int} {r : List Nat} {x : NX} (h : Rch g u r) (m : x ∈ nexts g u r) : Rch g x.2.1 x.2.2
theorem Rch.us {g : List (List Nat)} {u : List Int} {r : List Nat} (h : Rch g u r) : Us g u := by
  induction h with
  | start h0 h1 => exact (begin_vs (mem_begins.mpr ⟨_, h0, h1, rfl⟩)).1.us
  | step h m ih => exact (next_us ih m).1
theorem Rch.can {g : List (List Nat)} {u : List Int} {r : List Nat} (h : Rch g u r) (c : can g u r = true) : manyW g ≠ 0 := by
  induction h with
  | @start i h0 h1 => exact has_many.mp ⟨([i], shr g i), mem_begins.mpr ⟨i, h0, h1, rfl⟩, c⟩
  | step h m ih =>
    refine ih ?_
    rw [can_eq h.us, Bool.or_eq_true]
    exact .inr (List.any_eq_true.mpr ⟨_, m, c⟩)
/-- shreds of which a further one may be lost -/
structure Sh (h : List (List Nat)) : Prop where
  lo : 1 ≤ h.length
  hi : h.length ≤ 7
  each : ∀ s ∈ h, 1 ≤ s.length ∧ s.length ≤ 10 ∧ ∀ c ∈ s, c ∈ lettersL
  so : h.Pairwise (· ≤ ·)
def LostOk (h : List (List Nat)) (n : Nat) (w : List Nat) : Prop := w.length = n ∧ (∀ c ∈ w, c ∈ lettersL) ∧ manyW (h ++ [w]) ≠ 0
structure PN (h : List (List Nat)) (n : Nat) (y : NDE) : Prop where
  us : Us (h ++ [[]]) y.1
  ln : y.2.2.length = n
  ce : ∀ x ∈ y.2.1, (x.2 = none ∧ x.1 ∈ lettersL) ∨ ∃ k, k < n ∧ x = (63, some k) ∧ (h.length : Int) ∈ y.1
  lt : ∀ c ∈ y.2.2, c = 63 ∨ c ∈ lettersL
  kn : (h.length : Int) ∈ y.1 → ∀ k, k < n → y.2.2.getD k 0 ≠ 63 ∨ (63, some k) ∈ y.2.1
  un : (h.length : Int) ∉ y.1 → ∀ k, k < n → y.2.2.getD k 0 = 63
  rc : ∀ w, w.length = n → Cpt n y.2.2 w → Rch (h ++ [w]) y.1 (conc y.2.1 w)
section
variable {h : List (List Nat)} {n : Nat}
theorem rowsP_len : (rowsP h n).length = h.length + 1 := by simp [rowsP]
theorem row_lt {i : Nat} (hi : i < h.length) : (rowsP h n).getD i [] = (h[i]).map fun c => (c, none) := by
  unfold rowsP
  rw [List.getD_eq_getElem?_getD, List.getElem?_append_left (by simpa using hi), List.getElem?_map, List.getElem?_eq_getElem hi]
  rfl
theorem row_last : (rowsP h n).getD h.length [] = lostRow n := by
  unfold rowsP
  rw [List.getD_eq_getElem?_getD, List.getElem?_append_right (by simp)]
  simp
theorem row_conc {i : Nat} (hi : i < h.length + 1) {w : List Nat} (hw : w.length = n) : conc ((rowsP h n).getD i []) w = shr (h ++ [w]) (i : Int) := by
  unfold shr
  rw [Int.toNat_natCast]
  by_cases c : i < h.length
  · rw [row_lt c, List.getD_eq_getElem?_getD, List.getElem?_append_left c, List.getElem?_eq_getElem c]
    unfold conc
    rw [List.map_map]
    exact List.map_id' _
  · have e : i = h.length := by omega
    subst e
    rw [row_last, List.getD_eq_getElem?_getD, List.getElem?_append_right (Nat.le_refl _)]
    simp only [Nat.sub_self, List.getElem?_cons_zero, Option.getD_some]
    unfold conc lostRow
    rw [List.map_map]
    apply List.ext_getElem?
    intro k
    rw [List.getElem?_map]
    by_cases hk : k < n
    · rw [List.getElem?_range hk, List.getElem?_eq_getElem (by omega)]
      simp [vw, List.getElem?_eq_getElem (show k < w.length by omega)]
    · rw [List.getElem?_eq_none (by simpa using hk), List.getElem?_eq_none (by omega)]
      rfl
theorem row_cells (S : Sh h) {i : Nat} (hi : i < h.length + 1) : ∀ x ∈ (rowsP h n).getD i [], (x.2 = none ∧ x.1 ∈ lettersL ∧ i < h.length) ∨ ∃ k, k < n ∧ x = (63, some k) ∧ i = h.length := by
  intro x m
  by_cases c : i < h.length
  · rw [row_lt c] at m
    obtain ⟨d, md, rfl⟩ := List.mem_map.mp m
    exact .inl ⟨rfl, (S.each _ (List.getElem_mem c)).2.2 d md, c⟩
  · have e : i = h.length := by omega
    rw [e, row_last] at m
    obtain ⟨k, mk, rfl⟩ := List.mem_map.mp m
    exact .inr ⟨k, List.mem_range.mp mk, rfl, e⟩
theorem lett63 : ∀ c ∈ lettersL, c ≠ 63 := by decide
theorem PN.apt (S : Sh h) {y : NDE} (p : PN h n y) {i : Nat} (hi : i < h.length + 1) (ni : (i : Int) ∉ y.1) : Apt n y.2.1 ((rowsP h n).getD i []) := by
  refine ⟨fun x m => ?_, fun x m => ?_, ?_⟩
  · rcases p.ce x m with ⟨a, b⟩ | ⟨k, hk, e, _⟩
    · exact .inl ⟨a, lett63 _ b⟩
    · exact .inr ⟨k, hk, by rw [e]⟩
  · rcases row_cells S hi x m with ⟨a, b, _⟩ | ⟨k, hk, e, _⟩
    · exact .inl ⟨a, lett63 _ b⟩
    · exact .inr ⟨k, hk, by rw [e]⟩
  · by_cases c : i = h.length
    · left
      intro x m
      rcases p.ce x m with ⟨a, _⟩ | ⟨k, _, _, q⟩
      · exact a
      · rw [c] at ni
        exact absurd q ni
    · right
      intro x m
      rcases row_cells S hi x m with ⟨a, _⟩ | ⟨_, _, _, q⟩
      · exact a
      · exact absurd q c
theorem mem_succL {y z : NDE} : z ∈ succL (rowsP h n) y ↔ y.2.1 ≠ [] ∧ ∃ i : Nat, i < h.length + 1 ∧ (i : Int) ∉ y.1 ∧ ∃ L, layF y.2.1 ((rowsP h n).getD i []) y.2.2 = some L ∧ z = (ins y.1 i, lefts y.2.1 ((rowsP h n).getD i []), L) := by
  unfold succL
  by_cases c : y.2.1 = []
  · rw [if_pos c]
    exact ⟨fun m => absurd m List.not_mem_nil, fun q => absurd c q.1⟩
  · rw [if_neg c, List.mem_filterMap, rowsP_len]
    constructor
    · rintro ⟨i, mi, e⟩
      unfold nxL at e
      split at e
      · rename_i ni
        obtain ⟨L, eL, ez⟩ := Option.map_eq_some_iff.mp e
        exact ⟨c, i, List.mem_range.mp mi, ni, L, eL, ez.symm⟩
      · cases e
    · rintro ⟨_, i, hi, ni, L, eL, rfl⟩
      refine ⟨i, List.mem_range.mpr hi, ?_⟩
      unfold nxL
      rw [if_pos ni, eL]
      rfl
theorem us_any {a b : List Nat} {u : List Int} (h1 : Us (h ++ [a]) u) : Us (h ++ [b]) u := ⟨h1.lt, fun i m => by
  have := h1.ok i m
  rw [List.length_append] at this ⊢
  exact this⟩
theorem PN.succ (S : Sh h) {y z : NDE} (p : PN h n y) (m : z ∈ succL (rowsP h n) y) : PN h n z ∧ z.1.length = y.1.length + 1 := by
  obtain ⟨hne, i, hi, ni, L, eL, rfl⟩ := mem_succL.mp m
  have A := p.apt S hi ni
  obtain ⟨k1, k2, k3⟩ := layF_kn A p.ln eL
  have us2 : Us (h ++ [[]]) (ins y.1 i) := ins_us p.us (by omega) (by rw [List.length_append]; simp; omega) ni
  have cell_r : ∀ x ∈ y.2.1, (x.2 = none ∧ x.1 ∈ lettersL) ∨ ∃ k, k < n ∧ x.2 = some k := fun x mx => (p.ce x mx).imp id fun ⟨k, hk, e, _⟩ => ⟨k, hk, by rw [e]⟩
  have cell_s : ∀ x ∈ (rowsP h n).getD i [], (x.2 = none ∧ x.1 ∈ lettersL) ∨ ∃ k, k < n ∧ x.2 = some k := fun x mx => (row_cells S hi x mx).imp (fun ⟨a, b, _⟩ => ⟨a, b⟩) fun ⟨k, hk, e, _⟩ => ⟨k, hk, by rw [e]⟩
  have mem_ins : ∀ x : Int, x ∈ ins y.1 i ↔ x = i ∨ x ∈ y.1 := fun x => by rw [(perm_ins y.1 i).mem_iff, List.mem_cons]
  refine ⟨⟨us2, k1, fun x mx => ?_, layF_lt cell_r cell_s p.ln p.lt eL, fun hm k hk => ?_, fun hm k hk => ?_, fun w hw c => ?_⟩, ins_length _ _⟩
  · rcases List.mem_append.mp mx with mx | mx
    · rcases p.ce x (List.mem_of_mem_drop mx) with q | ⟨k, hk, e, q⟩
      · exact .inl q
      · exact .inr ⟨k, hk, e, (mem_ins _).mpr (.inr q)⟩
    · rcases row_cells S hi x (List.mem_of_mem_drop mx) with ⟨a, b, _⟩ | ⟨k, hk, e, q⟩
      · exact .inl ⟨a, b⟩
      · exact .inr ⟨k, hk, e, (mem_ins _).mpr (.inl (by rw [q]))⟩
  · by_cases z : L.getD k 0 = 63
    · right
      have z0 := k2 k z
      by_cases c : i = h.length
      · -- the lost row is laid
        refine List.mem_append_right _ ?_
        have hk2 : y.2.1.length ≤ k := by
          apply Decidable.byContradiction
          intro q
          have e1 : y.2.1[k]? = some y.2.1[k] := List.getElem?_eq_getElem (by omega)
          have e2 : ((rowsP h n).getD i [])[k]? = some (63, some k) := by
            rw [c, row_last]
            unfold lostRow
            rw [List.getElem?_map, List.getElem?_range hk]
            rfl
          exact k3 k k _ _ e1 e2 hk (.inr rfl) z
        rw [c, row_last]
        refine List.mem_iff_getElem?.mpr ⟨k - y.2.1.length, ?_⟩
        rw [List.getElem?_drop, show y.2.1.length + (k - y.2.1.length) = k by omega]
        unfold lostRow
        rw [List.getElem?_map, List.getElem?_range hk]
        rfl
      · have hm' : (h.length : Int) ∈ y.1 := by
          rcases (mem_ins _).mp hm with q | q
          · exact absurd (by omega) c
          · exact q
        rcases p.kn hm' k hk with q | q
        · exact absurd z0 q
        · obtain ⟨j, hj⟩ := List.mem_iff_getElem?.mp q
          refine List.mem_append_left _ ?_
          by_cases hj2 : j < ((rowsP h n).getD i []).length
          · exact absurd z (k3 j k _ _ hj (List.getElem?_eq_getElem hj2) hk (.inl rfl))
          · refine List.mem_iff_getElem?.mpr ⟨j - ((rowsP h n).getD i []).length, ?_⟩
            rw [List.getElem?_drop, show ((rowsP h n).getD i []).length + (j - ((rowsP h n).getD i []).length) = j by omega]
            exact hj
    · exact .inl z
  · have hm' : (h.length : Int) ∉ y.1 := fun q => hm ((mem_ins _).mpr (.inr q))
    have ci : i ≠ h.length := fun q => hm ((mem_ins _).mpr (.inl (by rw [q])))
    have e := layF_none (fun x mx => ((p.ce x mx).resolve_right fun ⟨_, _, _, q⟩ => hm' q).1) (fun x mx => ((row_cells S hi x mx).resolve_right fun ⟨_, _, _, q⟩ => ci q).1) eL
    show L.getD k 0 = 63
    rw [e]
    exact p.un hm' k hk
  · obtain ⟨_, c1, e1⟩ := layF_of hw A p.ln eL c
    have r := p.rc w hw c1
    have mm : ((i : Int), ins y.1 i, conc (lefts y.2.1 ((rowsP h n).getD i [])) w) ∈ nexts (h ++ [w]) y.1 (conc y.2.1 w) := by
      refine mem_nexts.mpr ⟨by simp, by rw [List.length_append]; simp; omega, ?_, ni, rfl, ?_⟩
      · unfold conc
        simpa using hne
      · rw [← row_conc hi hw, lo_iff]
        refine ⟨fun j h1 h2 => e1 j (by simpa [conc] using h1) (by simpa [conc] using h2), conc_lefts _ _ _⟩
    exact .step r mm
def bgN (h : List (List Nat)) (n i : Nat) : NDE := ([(i : Int)], (rowsP h n).getD i [], List.replicate n 63)
theorem bg_pn (S : Sh h) {i : Nat} (hi : i < h.length + 1) : PN h n (bgN h n i) := by
  have g63 : ∀ k, k < n → (List.replicate n 63).getD k 0 = 63 := fun k hk => by
    rw [List.getD_eq_getElem?_getD, List.getElem?_replicate, if_pos hk]
    rfl
  refine ⟨⟨List.pairwise_singleton _ _, fun j mj => ?_⟩, List.length_replicate, fun x m => ?_, fun c m => .inl (List.eq_of_mem_replicate m), fun hm k hk => .inr ?_, fun _ k hk => g63 k hk, fun w hw _ => ?_⟩
  · have e : j = i := List.mem_singleton.mp mj
    rw [e, List.length_append]
    simp
    omega
  · rcases row_cells S hi x m with ⟨a, b, _⟩ | ⟨k, hk, e, q⟩
    · exact .inl ⟨a, b⟩
    · exact .inr ⟨k, hk, e, by rw [q]; exact List.mem_singleton.mpr rfl⟩
  · have e : (h.length : Int) = i := List.mem_singleton.mp hm
    have e2 : i = h.length := by omega
    show (63, some k) ∈ (rowsP h n).getD i []
    rw [e2, row_last]
    exact List.mem_map.mpr ⟨k, List.mem_range.mpr hk, rfl⟩
  · show Rch (h ++ [w]) [(i : Int)] (conc ((rowsP h n).getD i []) w)
    rw [row_conc hi hw]
    exact .start (by omega) (by rw [List.length_append]; simp; omega)
/-- what the search leaves -/
structure Clo (h : List (List Nat)) (n : Nat) (T : List NDE) (F : List (List Nat)) : Prop where
  pn : ∀ y ∈ T, PN h n y
  bg : ∀ i, i < h.length + 1 → bgN h n i ∈ T
  cl : ∀ y ∈ T, (∀ z ∈ succL (rowsP h n) y, z ∈ T) ∧ (endL (rowsP h n) y = true → y.2.2 ∈ F)
  wf : ∀ t ∈ F, ∃ y ∈ T, endL (rowsP h n) y = true ∧ t = y.2.2
theorem Clo.reach (S : Sh h) {T : List NDE} {F : List (List Nat)} (C : Clo h n T F) {w : List Nat} (hw : w.length = n) (wl : ∀ c ∈ w, c ∈ lettersL) : ∀ (d : Nat) {y : NDE}, y ∈ T → rm (h ++ [w]) y.1 = d → Cpt n y.2.2 w → can (h ++ [w]) y.1 (conc y.2.1 w) = true → w ∈ F := by
  have w63 : ∀ k, k < n → w.getD k 0 ≠ 63 := fun k hk => by
    rw [List.getD_eq_getElem?_getD, List.getElem?_eq_getElem (by omega)]
    exact lett63 _ (wl _ (List.getElem_mem _))
  have main : ∀ {y : NDE}, y ∈ T → Cpt n y.2.2 w → can (h ++ [w]) y.1 (conc y.2.1 w) = true → (∀ z ∈ T, Us (h ++ [w]) z.1 → rm (h ++ [w]) y.1 = rm (h ++ [w]) z.1 + 1 → Cpt n z.2.2 w → can (h ++ [w]) z.1 (conc z.2.1 w) = true → w ∈ F) → w ∈ F := by
    intro y my c hc ih
    have p := C.pn y my
    have us := us_any (b := w) p.us
    rw [can_eq us, Bool.or_eq_true] at hc
    rcases hc with hc | hc
    · unfold isE at hc
      rw [Bool.and_eq_true, decide_eq_true_eq, decide_eq_true_eq] at hc
      have r0 : y.2.1 = [] := by simpa [conc] using hc.2
      have hl : y.1.length = (rowsP h n).length := by rw [rowsP_len]; simpa using hc.1
      have en : endL (rowsP h n) y = true := by
        unfold endL
        rw [decide_eq_true r0, decide_eq_true hl]
        rfl
      have mf := (C.cl y my).2 en
      have mm : (h.length : Int) ∈ y.1 := us_full us hc.1 (by omega) (by rw [List.length_append]; simp; omega)
      have e : y.2.2 = w := by
        apply List.ext_getElem?
        intro k
        by_cases hk : k < n
        · have k1 := (p.kn mm k hk).resolve_right (by rw [r0]; exact List.not_mem_nil)
          have k2 := (c k hk).resolve_left k1
          rw [List.getD_eq_getElem?_getD, List.getD_eq_getElem?_getD] at k2
          have l1 : k < y.2.2.length := by rw [p.ln]; exact hk
          have l2 : k < w.length := by omega
          rw [List.getElem?_eq_getElem l1, List.getElem?_eq_getElem l2] at k2 ⊢
          exact congrArg some k2
        · rw [List.getElem?_eq_none (by rw [p.ln]; omega), List.getElem?_eq_none (by omega)]
      rw [e] at mf
      exact mf
    · obtain ⟨x, mx, cx⟩ := List.any_eq_true.mp hc
      obtain ⟨x0, x1, xr, xn, xu, xl⟩ := mem_nexts.mp mx
      obtain ⟨i, ei⟩ : ∃ i : Nat, x.1 = (i : Int) := ⟨x.1.toNat, by omega⟩
      rw [ei] at x1 xn xu xl
      have hi : i < h.length + 1 := by
        rw [List.length_append] at x1
        simp at x1
        omega
      have A := p.apt S hi xn
      rw [← row_conc hi hw, lo_iff] at xl
      obtain ⟨L', l1, l2, l3⟩ := layF_yes hw w63 A p.ln c fun j h1 h2 => xl.1 j (by simpa [conc] using h1) (by simpa [conc] using h2)
      have hne : y.2.1 ≠ [] := fun q => xr (by rw [q]; rfl)
      have ms : (ins y.1 i, lefts y.2.1 ((rowsP h n).getD i []), L') ∈ succL (rowsP h n) y := mem_succL.mpr ⟨hne, i, hi, xn, L', l1, rfl⟩
      have mz := (C.cl y my).1 _ ms
      have pz := C.pn _ mz
      refine ih _ mz (us_any pz.us) ?_ l3 ?_
      · have := next_rm us mx
        rw [xu] at this
        exact this
      · show can (h ++ [w]) (ins y.1 i) (conc (lefts y.2.1 ((rowsP h n).getD i [])) w) = true
        rw [conc_lefts, ← xl.2, ← xu]
        exact cx
  intro d
  induction d with
  | zero =>
    intro y my e c hc
    exact main my c hc fun z _ _ k => by omega
  | succ d ih =>
    intro y my e c hc
    exact main my c hc fun z mz _ k c' hc' => ih mz (by omega) c' hc'
theorem Clo.iff (S : Sh h) {T : List NDE} {F : List (List Nat)} (C : Clo h n T F) (w : List Nat) : w ∈ F ↔ LostOk h n w := by
  constructor
  · intro m
    obtain ⟨y, my, en, rfl⟩ := C.wf w m
    have p := C.pn y my
    unfold endL at en
    rw [Bool.and_eq_true, decide_eq_true_eq, decide_eq_true_eq, rowsP_len] at en
    have us := us_any (b := y.2.2) p.us
    have full : y.1.length = (h ++ [y.2.2]).length := by rw [List.length_append]; simpa using en.2
    have mm : (h.length : Int) ∈ y.1 := us_full us full (by omega) (by rw [List.length_append]; simp; omega)
    have let1 : ∀ c ∈ y.2.2, c ∈ lettersL := fun c mc => by
      obtain ⟨k, hk, e⟩ := List.getElem_of_mem mc
      have k1 := (p.kn mm k (by rw [← p.ln]; exact hk)).resolve_right (by rw [en.1]; exact List.not_mem_nil)
      rw [List.getD_eq_getElem?_getD, List.getElem?_eq_getElem hk] at k1
      rcases p.lt c mc with q | q
      · exfalso
        apply k1
        show y.2.2[k] = 63
        rw [e, q]
      · exact q
    refine ⟨p.ln, let1, ?_⟩
    have r := p.rc y.2.2 p.ln fun k _ => .inr rfl
    refine r.can ?_
    rw [can_eq us, Bool.or_eq_true]
    left
    unfold isE
    rw [Bool.and_eq_true, decide_eq_true_eq, decide_eq_true_eq]
    exact ⟨full, by rw [en.1]; rfl⟩
  · rintro ⟨hw, wl, hm⟩
    obtain ⟨b, mb, cb⟩ := has_many.mpr hm
    obtain ⟨i, i0, i1, rfl⟩ := mem_begins.mp mb
    obtain ⟨j, ej⟩ : ∃ j : Nat, i = (j : Int) := ⟨i.toNat, by omega⟩
    subst ej
    have hj : j < h.length + 1 := by
      rw [List.length_append] at i1
      simp at i1
      omega
    refine C.reach S hw wl _ (C.bg j hj) rfl (fun k hk => .inl ?_) ?_
    · show (List.replicate n 63).getD k 0 = 63
      rw [List.getD_eq_getElem?_getD, List.getElem?_replicate, if_pos hk]
      rfl
    · show can (h ++ [w]) [(j : Int)] (conc ((rowsP h n).getD j []) w) = true
      rw [row_conc hj hw]
      exact cb
end
end Tt

/-! The search's books. -/
namespace Tt
def Cl (h : List (List Nat)) (n : Nat) (z : NDE) (T : List NDE) (F : List (List Nat)) : Prop := (∀ v ∈ succL (rowsP h n) z, v ∈ T) ∧ (endL (rowsP h n) z = true → z.2.2 ∈ F)
theorem Cl.mono {h : List (List Nat)} {n : Nat} {z : NDE} {T T' : List NDE} {F F' : List (List Nat)} (c : Cl h n z T F) (a : ∀ z ∈ T, z ∈ T') (b : ∀ t ∈ F, t ∈ F') : Cl h n z T' F' := ⟨fun v m => a v (c.1 v m), fun e => b _ (c.2 e)⟩
structure Bk (h : List (List Nat)) (n : Nat) (T : List NDE) (F : List (List Nat)) (T' : List NDE) (F' : List (List Nat)) : Prop where
  a : ∀ z ∈ T, z ∈ T'
  b : ∀ t ∈ F, t ∈ F'
  e : ∀ t ∈ F', t ∈ F ∨ ∃ z ∈ T', endL (rowsP h n) z = true ∧ t = z.2.2
  f : ∀ z ∈ T', z ∈ T ∨ PN h n z
structure Post (h : List (List Nat)) (n : Nat) (T : List NDE) (F : List (List Nat)) (y : NDE) (T' : List NDE) (F' : List (List Nat)) : Prop extends Bk h n T F T' F' where
  c : y ∈ T'
  d : ∀ z ∈ T', z ∈ T ∨ Cl h n z T' F'
structure Part (h : List (List Nat)) (n : Nat) (T : List NDE) (F : List (List Nat)) (y : NDE) (i : Nat) (T' : List NDE) (F' : List (List Nat)) : Prop extends Bk h n T F T' F' where
  c : y ∈ T'
  d : ∀ z ∈ T', z ∈ T ∨ z = y ∨ Cl h n z T' F'
  g : endL (rowsP h n) y = true → y.2.2 ∈ F'
  s : ∀ j, j < i → ∀ z, nxL (rowsP h n) y j = some z → z ∈ T'
section
variable {h : List (List Nat)} {n : Nat} {T T' T'' : List NDE} {F F' F'' : List (List Nat)} {y z : NDE}
theorem Post.same (m : y ∈ T) : Post h n T F y T F := ⟨⟨fun _ m => m, fun _ m => m, fun _ m => .inl m, fun _ m => .inl m⟩, m, fun _ m => .inl m⟩
theorem Part.start (p : PN h n y) : Part h n T F y 0 (T ++ [y]) (if endL (rowsP h n) y = true then addL F y.2.2 else F) := by
  refine ⟨⟨fun z m => List.mem_append_left _ m, fun t m => ?_, fun t m => ?_, fun z m => ?_⟩, List.mem_append_right _ (List.mem_singleton.mpr rfl), fun z m => ?_, fun e => ?_, fun j hj => absurd hj (Nat.not_lt_zero j)⟩
  · split
    · exact mem_addL.mpr (.inl m)
    · exact m
  · split at m
    · rename_i c
      rcases mem_addL.mp m with m | m
      · exact .inl m
      · exact .inr ⟨y, List.mem_append_right _ (List.mem_singleton.mpr rfl), c, m⟩
    · exact .inl m
  · rcases List.mem_append.mp m with m | m
    · exact .inl m
    · rw [List.mem_singleton.mp m]; exact .inr p
  · rcases List.mem_append.mp m with m | m
    · exact .inl m
    · exact .inr (.inl (List.mem_singleton.mp m))
  · rw [if_pos e]
    exact mem_addL.mpr (.inr rfl)
theorem Part.skip {i : Nat} (p : Part h n T F y i T' F') (e : nxL (rowsP h n) y i = none) : Part h n T F y (i + 1) T' F' :=
  ⟨p.toBk, p.c, p.d, p.g, fun j hj z ez => by
    rcases Nat.lt_succ_iff_lt_or_eq.mp hj with q | q
    · exact p.s j q z ez
    · rw [q, e] at ez; cases ez⟩
theorem Part.call {i : Nat} (p : Part h n T F y i T' F') (e : nxL (rowsP h n) y i = some z) (q : Post h n T' F' z T'' F'') : Part h n T F y (i + 1) T'' F'' := by
  refine ⟨⟨fun v m => q.a v (p.a v m), fun t m => q.b t (p.b t m), fun t m => ?_, fun v m => ?_⟩, q.a _ p.c, fun v m => ?_, fun k => q.b _ (p.g k), fun j hj v ev => ?_⟩
  · rcases q.e t m with m | k
    · rcases p.e t m with m | ⟨v, mv, k⟩
      · exact .inl m
      · exact .inr ⟨v, q.a v mv, k⟩
    · exact .inr k
  · rcases q.f v m with m | k
    · exact p.f v m
    · exact .inr k
  · rcases q.d v m with m | k
    · rcases p.d v m with m | k | k
      · exact .inl m
      · exact .inr (.inl k)
      · exact .inr (.inr (k.mono q.a q.b))
    · exact .inr (.inr k)
  · rcases Nat.lt_succ_iff_lt_or_eq.mp hj with k | k
    · exact q.a v (p.s j k v ev)
    · rw [k, e] at ev
      rw [← Option.some.inj ev]
      exact q.c
theorem Part.fin {i : Nat} (p : Part h n T F y i T' F') (k : y.2.1 = [] ∨ i = (rowsP h n).length) : Post h n T F y T' F' := by
  refine ⟨p.toBk, p.c, fun z m => ?_⟩
  rcases p.d z m with m | rfl | c
  · exact .inl m
  · refine .inr ⟨fun v mv => ?_, p.g⟩
    unfold succL at mv
    split at mv
    · exact absurd mv List.not_mem_nil
    · rename_i ne
      obtain ⟨j, mj, e⟩ := List.mem_filterMap.mp mv
      have hj := List.mem_range.mp mj
      exact p.s j (by rw [k.resolve_left ne]; exact hj) v e
  · exact .inr c
/-- the whole search: begun at each row -/
structure All (h : List (List Nat)) (n i : Nat) (T : List NDE) (F : List (List Nat)) : Prop where
  pn : ∀ y ∈ T, PN h n y
  cl : ∀ y ∈ T, Cl h n y T F
  wf : ∀ t ∈ F, ∃ y ∈ T, endL (rowsP h n) y = true ∧ t = y.2.2
  bg : ∀ j, j < i → bgN h n j ∈ T
theorem All.zero : All h n 0 [] [] := ⟨fun _ m => absurd m List.not_mem_nil, fun _ m => absurd m List.not_mem_nil, fun _ m => absurd m List.not_mem_nil, fun j hj => absurd hj (Nat.not_lt_zero j)⟩
theorem All.step {i : Nat} (a : All h n i T F) (q : Post h n T F (bgN h n i) T' F') : All h n (i + 1) T' F' := by
  refine ⟨fun y m => ?_, fun y m => ?_, fun t m => ?_, fun j hj => ?_⟩
  · rcases q.f y m with m | k
    · exact a.pn y m
    · exact k
  · rcases q.d y m with m | k
    · exact (a.cl y m).mono q.a q.b
    · exact k
  · rcases q.e t m with m | k
    · obtain ⟨z, mz, e⟩ := a.wf t m
      exact ⟨z, q.a z mz, e⟩
    · exact k
  · rcases Nat.lt_succ_iff_lt_or_eq.mp hj with k | k
    · exact q.a _ (a.bg j k)
    · rw [k]; exact q.c
theorem All.clo (a : All h n (h.length + 1) T F) : Clo h n T F := ⟨a.pn, a.bg, a.cl, a.wf⟩
/-- how many calls at most -/
def cost : Nat → Nat
  | 0 => 1
  | d + 1 => 1 + (d + 1) * cost d
theorem cost_pos : ∀ d, 1 ≤ cost d
  | 0 => Nat.le_refl _
  | d + 1 => by unfold cost; omega
end
end Tt

/-! Layings by shreds alone; words. -/
namespace Tt
structure Lyt (g : List (List Nat)) (x y : List (List Nat)) : Prop where
  pm : (x ++ y).Perm g
  ne : x ≠ []
  tx : x.flatten = y.flatten
  nc : ∀ i j, 0 < i → i < x.length → j < y.length → ((x.take i).flatten).length ≠ ((y.take j).flatten).length
def Lyb (g : List (List Nat)) : Prop := ∃ x y, Lyt g x y
theorem joinT_map (g : List (List Nat)) (A : List Int) : joinT g A = (A.map (shr g)).flatten := rfl
theorem lyb_iff {g : List (List Nat)} (ne : ∀ s ∈ g, s ≠ []) : Lyb g ↔ manyW g ≠ 0 := by
  rw [manyW_eq]
  constructor
  · rintro ⟨x, y, l⟩ z
    obtain ⟨p, pp, mp⟩ := places_of _ l.pm
    have hA : (p.take x.length).map (shr g) = x := by rw [List.map_take, mp]; simp
    have hB : (p.drop x.length).map (shr g) = y := by rw [List.map_drop, mp]; simp
    have hl : p.length = x.length + y.length := by
      have := congrArg List.length mp
      rw [List.length_map, List.length_append] at this
      exact this
    have m : ((p.take x.length, p.drop x.length) : LY) ∈ ordL g := by
      refine (mem_ordL ne).mpr ⟨fun e => ?_, by rw [List.take_append_drop]; exact pp, ?_, fun i j i0 hi hj => ?_⟩
      · have e' : p.take x.length = [] := e
        rw [e'] at hA
        exact l.ne hA.symm
      · rw [joinT_map, joinT_map]
        show ((p.take x.length).map (shr g)).flatten = ((p.drop x.length).map (shr g)).flatten
        rw [hA, hB, l.tx]
      · rw [joinT_map, joinT_map]
        show ((((p.take x.length).take i).map (shr g)).flatten).length ≠ ((((p.drop x.length).take j).map (shr g)).flatten).length
        rw [show ((p.take x.length).take i).map (shr g) = ((p.take x.length).map (shr g)).take i from List.map_take, show ((p.drop x.length).take j).map (shr g) = ((p.drop x.length).map (shr g)).take j from List.map_take, hA, hB]
        have h1 : i < (p.take x.length).length := hi
        have h2 : j < (p.drop x.length).length := hj
        rw [List.length_take] at h1
        rw [List.length_drop] at h2
        exact l.nc i j i0 (by omega) (by omega)
    rw [List.length_eq_zero_iff.mp z] at m
    exact absurd m List.not_mem_nil
  · intro z
    obtain ⟨L, m⟩ := List.exists_mem_of_length_pos (l := ordL g) (by omega)
    have k := (mem_ordL ne).mp m
    refine ⟨L.1.map (shr g), L.2.map (shr g), ?_, fun e => k.ne (List.map_eq_nil_iff.mp e), k.tx, fun i j i0 hi hj => ?_⟩
    · rw [← List.map_append]
      have := k.pm.map (shr g)
      have e : (rngI g.length).map (shr g) = g := by
        have := map_rngI (h := g) id
        simpa using this
      rw [e] at this
      exact this
    · rw [List.length_map] at hi hj
      have := k.nc i j i0 hi hj
      rw [joinT_map, joinT_map, List.map_take, List.map_take] at this
      exact this
theorem lyb_perm {g g' : List (List Nat)} (p : g.Perm g') (l : Lyb g) : Lyb g' := by
  obtain ⟨x, y, l⟩ := l
  exact ⟨x, y, l.pm.trans p, l.ne, l.tx, l.nc⟩
theorem many_perm {g g' : List (List Nat)} (ne : ∀ s ∈ g, s ≠ []) (p : g.Perm g') : manyW g ≠ 0 ↔ manyW g' ≠ 0 := by
  have ne' : ∀ s ∈ g', s ≠ [] := fun s m => ne s (p.mem_iff.mpr m)
  rw [← lyb_iff ne, ← lyb_iff ne']
  exact ⟨lyb_perm p, lyb_perm p.symm⟩
/-! words over signs -/
def wordsF (G : List Nat) : Nat → List (List Nat)
  | 0 => [[]]
  | n + 1 => (wordsF G n).flatMap fun w => G.map fun c => w ++ [c]
theorem mem_words {G : List Nat} : ∀ {n : Nat} {w : List Nat}, w ∈ wordsF G n ↔ w.length = n ∧ ∀ c ∈ w, c ∈ G
  | 0, w => by
    unfold wordsF
    rw [List.mem_singleton]
    constructor
    · rintro rfl
      exact ⟨rfl, fun c m => absurd m List.not_mem_nil⟩
    · rintro ⟨h, _⟩
      exact List.length_eq_zero_iff.mp h
  | n + 1, w => by
    unfold wordsF
    rw [List.mem_flatMap]
    constructor
    · rintro ⟨v, mv, mw⟩
      obtain ⟨c, mc, rfl⟩ := List.mem_map.mp mw
      obtain ⟨h1, h2⟩ := mem_words.mp mv
      refine ⟨by rw [List.length_append, h1]; rfl, fun d md => ?_⟩
      rcases List.mem_append.mp md with md | md
      · exact h2 d md
      · rw [List.mem_singleton.mp md]; exact mc
    · rintro ⟨h1, h2⟩
      have hne : w ≠ [] := fun e => by rw [e] at h1; cases h1
      have e := (List.dropLast_concat_getLast hne).symm
      refine ⟨w.dropLast, mem_words.mpr ⟨by rw [List.length_dropLast]; omega, fun c m => h2 c (List.dropLast_subset _ m)⟩, List.mem_map.mpr ⟨w.getLast hne, h2 _ (List.getLast_mem hne), e.symm⟩⟩
theorem words_len (G : List Nat) : ∀ n, (wordsF G n).length = G.length ^ n
  | 0 => rfl
  | n + 1 => by
    unfold wordsF
    rw [List.length_flatMap]
    have : ((wordsF G n).map fun w => (G.map fun c => w ++ [c]).length) = (wordsF G n).map fun _ => G.length := List.map_congr_left fun w _ => by rw [List.length_map]
    rw [this, List.map_const', List.sum_replicate_nat, words_len G n, Nat.pow_succ]
theorem lt_app {a b : List Nat} (hl : a.length = b.length) (h : a < b) (x y : List Nat) : a ++ x < b ++ y := by
  induction a generalizing b with
  | nil =>
    cases b with
    | nil => exact absurd h (List.lt_irrefl _)
    | cons d b => cases hl
  | cons c a ih =>
    cases b with
    | nil => cases hl
    | cons d b =>
      rw [List.cons_append, List.cons_append, List.cons_lt_cons_iff]
      rcases List.cons_lt_cons_iff.mp h with k | ⟨k1, k2⟩
      · exact .inl k
      · exact .inr ⟨k1, ih (by simpa using hl) k2⟩
theorem lt_last {a : List Nat} {c d : Nat} (h : c < d) : a ++ [c] < a ++ [d] := by
  induction a with
  | nil => exact List.cons_lt_cons_iff.mpr (.inl h)
  | cons x a ih => exact List.cons_lt_cons_iff.mpr (.inr ⟨rfl, ih⟩)
theorem words_pw {G : List Nat} (pw : G.Pairwise (· < ·)) : ∀ n, (wordsF G n).Pairwise (· < ·)
  | 0 => List.pairwise_singleton _ _
  | n + 1 => by
    unfold wordsF
    rw [List.pairwise_flatMap]
    refine ⟨fun w _ => ?_, (words_pw pw n).imp_of_mem fun {a b} ma mb h x hx y hy => ?_⟩
    · rw [List.pairwise_map]
      exact pw.imp fun h => lt_last h
    · obtain ⟨c, _, rfl⟩ := List.mem_map.mp hx
      obtain ⟨d, _, rfl⟩ := List.mem_map.mp hy
      exact lt_app ((mem_words.mp ma).1.trans (mem_words.mp mb).1.symm) h _ _
theorem lt_eq {a b : List (List Nat)} (ha : a.Pairwise (· < ·)) (hb : b.Pairwise (· < ·)) (e : ∀ x, x ∈ a ↔ x ∈ b) : a = b := by
  have na : a.Nodup := ha.imp fun {x y} h k => by rw [k] at h; exact List.lt_irrefl _ h
  have nb : b.Nodup := hb.imp fun {x y} h k => by rw [k] at h; exact List.lt_irrefl _ h
  exact List.Perm.eq_of_pairwise (le := fun a b : List Nat => a < b) (fun a b _ _ h1 h2 => absurd (List.lt_trans h1 h2) (List.lt_irrefl _)) ha hb ((List.perm_ext_iff_of_nodup na nb).mpr e)
end Tt

/-! all standings that come of beginnings -/
namespace Tt
abbrev ST := List Int × List Nat
section
variable {h : List (List Nat)}
def meR (h : List (List Nat)) (st : List ST) : Nat := (st.map fun e => tme (rm h e.1)).sum
theorem meR_app (a b : List ST) : meR h (a ++ b) = meR h a + meR h b := by simp [meR]
theorem meR_len (a : List ST) : a.length ≤ meR h a := by
  induction a with
  | nil => exact Nat.le_refl _
  | cons e a ih =>
    have := tme_pos (rm h e.1)
    have e2 : meR h (e :: a) = tme (rm h e.1) + meR h a := by simp [meR]
    rw [e2, List.length_cons]
    omega
def kidR (h : List (List Nat)) (e : ST) : List ST := (nexts h e.1 e.2).map (·.2)
theorem kidR_me {e : ST} (v : VS h e.1 e.2) : meR h (kidR h e) + 1 ≤ tme (rm h e.1) := by
  have h1 : ∀ xs : List NX, (∀ x ∈ xs, x ∈ nexts h e.1 e.2) → meR h (xs.map (·.2)) = xs.length * tme (rm h e.1 - 1) := by
    intro xs sub
    induction xs with
    | nil => simp [meR]
    | cons x xs ih =>
      have i := ih fun y m => sub y (List.mem_cons_of_mem _ m)
      have e2 := next_rm v.us (sub x List.mem_cons_self)
      have e3 : meR h ((x :: xs).map (·.2)) = tme (rm h x.2.1) + meR h (xs.map (·.2)) := by simp [meR]
      rw [e3, i, List.length_cons, Nat.succ_mul, show rm h x.2.1 = rm h e.1 - 1 by omega]
      omega
  have h1 := h1 _ fun x m => m
  have h2 := nexts_rm (r := e.2) v.us
  unfold kidR
  rw [h1]
  cases q : rm h e.1 with
  | zero =>
    rw [q] at h2
    have : (nexts h e.1 e.2).length = 0 := by omega
    rw [this, Nat.zero_mul]
    exact Nat.le_refl _
  | succ k =>
    rw [q] at h2
    have h3 := Nat.mul_le_mul_right (tme k) h2
    show _ ≤ 1 + (k + 1) * tme k
    rw [Nat.add_sub_cancel]
    omega
structure RcOk (h : List (List Nat)) (st F : List ST) : Prop where
  vs : ∀ e ∈ st ++ F, VS h e.1 e.2
  nd : F.Nodup
  bg : ∀ b ∈ begins h, b ∈ st ++ F
  cl : ∀ e ∈ F, ∀ x ∈ kidR h e, x ∈ st ++ F
  co : ∀ e ∈ st ++ F, can h e.1 e.2 = true → ∃ b ∈ begins h, can h b.1 b.2 = true
  me : meR h st ≤ 109600
theorem RcOk.start (sm : Small h) : RcOk h (begins h) [] := by
  refine ⟨fun e m => ?_, List.nodup_nil, fun b m => List.mem_append_left _ m, fun e m => absurd m List.not_mem_nil, fun e m c => ⟨e, ?_, c⟩, ?_⟩
  · rw [List.append_nil] at m; exact (begin_vs m).1
  · rwa [List.append_nil] at m
  · have : meR h (begins h) = h.length * tme (rm h [0]) := by
      unfold meR begins
      rw [List.map_map]
      have : ∀ l : List Nat, (l.map ((fun e : ST => tme (rm h e.1)) ∘ fun (i : Nat) => ([(i : Int)], shr h i))).sum = l.length * tme (rm h [0]) := by
        intro l
        induction l with
        | nil => simp
        | cons x l ih =>
          rw [List.map_cons, List.sum_cons, ih, List.length_cons, Nat.succ_mul]
          show tme (rm h [(x : Int)]) + _ = _
          unfold rm
          simp only [List.length_cons, List.length_nil]
          omega
      have t2 := this (List.range h.length)
      rw [List.length_range] at t2
      exact t2
    rw [this]
    unfold rm
    have := sm.len
    simp only [List.length_nil, List.length_cons, Nat.zero_add]
    generalize h.length = n at *
    have : n = 0 ∨ n = 1 ∨ n = 2 ∨ n = 3 ∨ n = 4 ∨ n = 5 ∨ n = 6 ∨ n = 7 ∨ n = 8 := by omega
    rcases this with rfl | rfl | rfl | rfl | rfl | rfl | rfl | rfl | rfl <;> decide
theorem kid_vs {e x : ST} (v : VS h e.1 e.2) (m : x ∈ kidR h e) : VS h x.1 x.2 := by
  obtain ⟨y, my, rfl⟩ := List.mem_map.mp m
  exact next_vs v my
theorem can_kid {e : ST} (v : VS h e.1 e.2) : can h e.1 e.2 = true ↔ isE h e.1 e.2 = true ∨ ∃ x ∈ kidR h e, can h x.1 x.2 = true := by
  rw [can_eq v.us, Bool.or_eq_true, List.any_eq_true]
  constructor
  · rintro (a | ⟨x, m, c⟩)
    · exact .inl a
    · exact .inr ⟨x.2, List.mem_map.mpr ⟨x, m, rfl⟩, c⟩
  · rintro (a | ⟨x, m, c⟩)
    · exact .inl a
    · obtain ⟨y, my, rfl⟩ := List.mem_map.mp m
      exact .inr ⟨y, my, c⟩
theorem RcOk.old {st F : List ST} {e : ST} (s : RcOk h (st ++ [e]) F) (m : e ∈ F) : RcOk h st F ∧ meR h st < meR h (st ++ [e]) := by
  have sw : ∀ x, x ∈ (st ++ [e]) ++ F → x ∈ st ++ F := fun x mx => by
    rcases List.mem_append.mp mx with mx | mx
    · rcases List.mem_append.mp mx with mx | mx
      · exact List.mem_append_left _ mx
      · rw [List.mem_singleton.mp mx]; exact List.mem_append_right _ m
    · exact List.mem_append_right _ mx
  have ws : ∀ x, x ∈ st ++ F → x ∈ (st ++ [e]) ++ F := fun x mx => by
    rcases List.mem_append.mp mx with mx | mx
    · exact List.mem_append_left _ (List.mem_append_left _ mx)
    · exact List.mem_append_right _ mx
  have m1 : meR h (st ++ [e]) = meR h st + tme (rm h e.1) := by rw [meR_app]; simp [meR]
  have := tme_pos (rm h e.1)
  have me := s.me
  exact ⟨⟨fun x mx => s.vs x (ws x mx), s.nd, fun b mb => sw b (s.bg b mb), fun x mx y my => sw y (s.cl x mx y my), fun x mx => s.co x (ws x mx), by omega⟩, by omega⟩
theorem RcOk.new {st F : List ST} {e : ST} (s : RcOk h (st ++ [e]) F) (m : e ∉ F) : RcOk h (st ++ kidR h e) (F ++ [e]) ∧ meR h (st ++ kidR h e) < meR h (st ++ [e]) := by
  have me0 : e ∈ (st ++ [e]) ++ F := List.mem_append_left _ (List.mem_append_right _ (List.mem_singleton.mpr rfl))
  have v := s.vs e me0
  have sw : ∀ x, x ∈ (st ++ [e]) ++ F → x ∈ (st ++ kidR h e) ++ (F ++ [e]) := fun x mx => by
    rcases List.mem_append.mp mx with mx | mx
    · rcases List.mem_append.mp mx with mx | mx
      · exact List.mem_append_left _ (List.mem_append_left _ mx)
      · exact List.mem_append_right _ (List.mem_append_right _ mx)
    · exact List.mem_append_right _ (List.mem_append_left _ mx)
  have ws : ∀ x, x ∈ (st ++ kidR h e) ++ (F ++ [e]) → x ∈ (st ++ [e]) ++ F ∨ x ∈ kidR h e := fun x mx => by
    rcases List.mem_append.mp mx with mx | mx
    · rcases List.mem_append.mp mx with mx | mx
      · exact .inl (List.mem_append_left _ (List.mem_append_left _ mx))
      · exact .inr mx
    · rcases List.mem_append.mp mx with mx | mx
      · exact .inl (List.mem_append_right _ mx)
      · rw [List.mem_singleton.mp mx]; exact .inl me0
  have m1 : meR h (st ++ [e]) = meR h st + tme (rm h e.1) := by rw [meR_app]; simp [meR]
  have m2 : meR h (st ++ kidR h e) = meR h st + meR h (kidR h e) := meR_app _ _
  have kl := kidR_me v
  have me := s.me
  refine ⟨⟨fun x mx => ?_, ?_, fun b mb => sw b (s.bg b mb), fun x mx y my => ?_, fun x mx c => ?_, by omega⟩, by omega⟩
  · rcases ws x mx with q | q
    · exact s.vs x q
    · exact kid_vs v q
  · rw [List.nodup_append]
    refine ⟨s.nd, List.pairwise_singleton _ _, fun x hx b hb q => m ?_⟩
    rw [← List.mem_singleton.mp hb, ← q]
    exact hx
  · rcases List.mem_append.mp mx with mx | mx
    · exact sw y (s.cl x mx y my)
    · rw [List.mem_singleton.mp mx] at my
      exact List.mem_append_left _ (List.mem_append_right _ my)
  · rcases ws x mx with q | q
    · exact s.co x q c
    · exact s.co e me0 ((can_kid v).mpr (.inr ⟨x, q, c⟩))
theorem RcOk.any {F : List ST} (s : RcOk h [] F) : (F.any fun e => isE h e.1 e.2) = ((begins h).map fun b => can h b.1 b.2).any id := by
  rw [Bool.eq_iff_iff, List.any_eq_true, List.any_map, List.any_eq_true]
  constructor
  · rintro ⟨e, m, c⟩
    exact s.co e m ((can_kid (s.vs e m)).mpr (.inl c))
  · rintro ⟨b, mb, c⟩
    have go : ∀ n, ∀ e : ST, e ∈ F → rm h e.1 = n → can h e.1 e.2 = true → ∃ x ∈ F, isE h x.1 x.2 = true := by
      intro n
      induction n with
      | zero =>
        intro e m r c
        rcases (can_kid (s.vs e m)).mp c with q | ⟨x, mx, _⟩
        · exact ⟨e, m, q⟩
        · obtain ⟨y, my, rfl⟩ := List.mem_map.mp mx
          have := next_rm (s.vs e m).us my
          omega
      | succ n ih =>
        intro e m r c
        rcases (can_kid (s.vs e m)).mp c with q | ⟨x, mx, cx⟩
        · exact ⟨e, m, q⟩
        · have mF := s.cl e m x mx
          obtain ⟨y, my, rfl⟩ := List.mem_map.mp mx
          have := next_rm (s.vs e m).us my
          exact ih y.2 mF (by omega) cx
    exact go _ b (s.bg b mb) rfl c
end
end Tt

/-! Heaps whose shreds are turned about, or have signs in the place of signs. -/
namespace Tt
/-- one shred turned: signs in the place of signs, or end to begin -/
def tw (p : Option (Nat → Nat)) (w : List Nat) : List Nat := match p with
  | some f => w.map f
  | none => w.reverse
def rv {α : Type} (p : Option (Nat → Nat)) (x : List α) : List α := match p with
  | some _ => x
  | none => x.reverse
theorem tw_len (p : Option (Nat → Nat)) (w : List Nat) : (tw p w).length = w.length := by cases p <;> simp [tw]
theorem rv_len {α : Type} (p : Option (Nat → Nat)) (x : List α) : (rv p x).length = x.length := by cases p <;> simp [rv]
theorem rv_map {α β : Type} (p : Option (Nat → Nat)) (f : α → β) (x : List α) : (rv p x).map f = rv p (x.map f) := by cases p <;> simp [rv]
theorem rv_mem {α : Type} {p : Option (Nat → Nat)} {x : List α} {a : α} : a ∈ rv p x ↔ a ∈ x := by cases p <;> simp [rv]
theorem rv_perm {α : Type} (p : Option (Nat → Nat)) (x : List α) : (rv p x).Perm x := by
  cases p with
  | some f => exact List.Perm.refl _
  | none => exact List.reverse_perm _
theorem rv_inj {α : Type} {p : Option (Nat → Nat)} {x y : List α} (e : rv p x = rv p y) : x = y := by
  cases p with
  | some f => exact e
  | none => exact List.reverse_inj.mp e
theorem tw_flat (p : Option (Nat → Nat)) (x : List (List Nat)) : (rv p (x.map (tw p))).flatten = tw p x.flatten := by
  cases p with
  | some f =>
    show (x.map (List.map f)).flatten = x.flatten.map f
    rw [List.map_flatten]
  | none =>
    show ((x.map List.reverse).reverse).flatten = x.flatten.reverse
    rw [List.reverse_flatten]
structure NC (x y : List (List Nat)) : Prop where
  ne : x ≠ []
  tx : x.flatten = y.flatten
  nc : ∀ i j, 0 < i → i < x.length → j < y.length → ((x.take i).flatten).length ≠ ((y.take j).flatten).length
theorem flat_pos {x : List (List Nat)} (ne : ∀ s ∈ x, s ≠ []) {i : Nat} (i0 : 0 < i) (hi : i ≤ x.length) : 0 < ((x.take i).flatten).length := by
  cases x with
  | nil => simp at hi; omega
  | cons s x =>
    obtain ⟨i, rfl⟩ : ∃ k, i = k + 1 := ⟨i - 1, by omega⟩
    rw [List.take_succ_cons, List.flatten_cons, List.length_append]
    have : s.length ≠ 0 := fun e => ne s List.mem_cons_self (List.length_eq_zero_iff.mp e)
    omega
theorem take_tw {p : Option (Nat → Nat)} {x : List (List Nat)} {i : Nat} (hi : i ≤ x.length) : (((rv p (x.map (tw p))).take i).flatten).length = match p with
    | some _ => ((x.take i).flatten).length
    | none => x.flatten.length - ((x.take (x.length - i)).flatten).length := by
  cases p with
  | some f =>
    show (((x.map (List.map f)).take i).flatten).length = _
    rw [← List.map_take, ← List.map_flatten, List.length_map]
  | none =>
    show ((((x.map List.reverse).reverse).take i).flatten).length = x.flatten.length - _
    rw [List.take_reverse, List.length_map, ← List.map_drop, ← List.reverse_flatten, List.length_reverse]
    have : x.flatten = (x.take (x.length - i)).flatten ++ (x.drop (x.length - i)).flatten := by rw [← List.flatten_append, List.take_append_drop]
    have := congrArg List.length this
    rw [List.length_append] at this
    omega
theorem flat_le (y : List (List Nat)) (k : Nat) : ((y.take k).flatten).length ≤ y.flatten.length := by
  have : y.flatten = (y.take k).flatten ++ (y.drop k).flatten := by rw [← List.flatten_append, List.take_append_drop]
  have := congrArg List.length this
  rw [List.length_append] at this
  omega
theorem nc_tw {p : Option (Nat → Nat)} {x y : List (List Nat)} (nx : ∀ s ∈ x, s ≠ []) (n : NC x y) : NC (rv p (x.map (tw p))) (rv p (y.map (tw p))) := by
  refine ⟨fun e => n.ne ?_, by rw [tw_flat, tw_flat, n.tx], fun i j i0 hi hj => ?_⟩
  · have := congrArg List.length e
    rw [rv_len, List.length_map] at this
    exact List.length_eq_zero_iff.mp this
  · rw [rv_len, List.length_map] at hi hj
    cases p with
    | some f =>
      rw [take_tw (by omega), take_tw (by omega)]
      exact n.nc i j i0 hi hj
    | none =>
      by_cases j0 : j = 0
      · subst j0
        rw [take_tw (p := none) (x := x) (by omega)]
        have e0 : (((rv none (y.map (tw none))).take 0).flatten).length = 0 := by simp
        rw [e0]
        show x.flatten.length - _ ≠ 0
        have h1 : x.flatten = (x.take (x.length - i)).flatten ++ (x.drop (x.length - i)).flatten := by rw [← List.flatten_append, List.take_append_drop]
        have h2 := congrArg List.length h1
        rw [List.length_append] at h2
        have h3 := flat_pos (x := x.drop (x.length - i)) (fun s m => nx s (List.mem_of_mem_drop m)) (i := i) i0 (by rw [List.length_drop]; omega)
        rw [List.take_of_length_le (by rw [List.length_drop]; omega)] at h3
        omega
      · rw [take_tw (by omega), take_tw (by omega)]
        show x.flatten.length - _ ≠ y.flatten.length - _
        have k := n.nc (x.length - i) (y.length - j) (by omega) (by omega) (by omega)
        have l1 := flat_le x (x.length - i)
        have l2 := flat_le y (y.length - j)
        have e := congrArg List.length n.tx
        omega
section
variable {h g : List (List Nat)} {p : Option (Nat → Nat)}
theorem lay_nc {A B : List Int} : Lay h A B ↔ (A ++ B).Perm (rngI h.length) ∧ NC (A.map (shr h)) (B.map (shr h)) := by
  constructor
  · intro l
    refine ⟨l.pm, fun e => l.ne (List.map_eq_nil_iff.mp e), l.tx, fun i j i0 hi hj => ?_⟩
    rw [List.length_map] at hi hj
    have := l.nc i j i0 hi hj
    rw [joinT_map, joinT_map, List.map_take, List.map_take] at this
    exact this
  · rintro ⟨pm, n⟩
    refine ⟨fun e => n.ne (by rw [e]; rfl), pm, n.tx, fun i j i0 hi hj => ?_⟩
    rw [joinT_map, joinT_map, List.map_take, List.map_take]
    exact n.nc i j i0 (by rw [List.length_map]; exact hi) (by rw [List.length_map]; exact hj)
/-- where the shreds are, after all -/
theorem nodup_map_on {α β : Type} {f : α → β} {l : List α} (inj : ∀ a ∈ l, ∀ b ∈ l, f a = f b → a = b) (nd : l.Nodup) : (l.map f).Nodup :=
  List.pairwise_map.mpr (nd.imp_of_mem fun ha hb ne e => ne (inj _ ha _ hb e))
theorem nodup_map_inj {α β : Type} {f : α → β} : ∀ {l : List α}, (l.map f).Nodup → ∀ {a b : α}, a ∈ l → b ∈ l → f a = f b → a = b
  | [], _, _, _, ha, _, _ => absurd ha List.not_mem_nil
  | x :: l, nd, a, b, ha, hb, e => by
    rw [List.map_cons, List.nodup_cons] at nd
    rcases List.mem_cons.mp ha with ea | ha'
    · rcases List.mem_cons.mp hb with eb | hb'
      · rw [ea, eb]
      · exact absurd (List.mem_map.mpr ⟨b, hb', by rw [← e, ea]⟩) nd.1
    · rcases List.mem_cons.mp hb with eb | hb'
      · exact absurd (List.mem_map.mpr ⟨a, ha', by rw [e, eb]⟩) nd.1
      · exact nodup_map_inj nd.2 ha' hb' e
theorem places_tw (pm : g.Perm (h.map (tw p))) : ∃ σ : Int → Int, ((rngI h.length).map σ).Perm (rngI g.length) ∧ ∀ i : Int, 0 ≤ i → i < h.length → shr g (σ i) = tw p (shr h i) := by
  obtain ⟨q, pq, mq⟩ := places_of _ pm.symm
  have lq : q.length = h.length := by
    have := congrArg List.length mq
    simpa using this
  refine ⟨fun i => q.getD i.toNat 0, ?_, fun i h0 h1 => ?_⟩
  · have : (rngI h.length).map (fun i => q.getD i.toNat 0) = q := by
      unfold rngI
      rw [List.map_map]
      apply List.ext_getElem
      · simp [lq]
      · intro k k1 k2
        simp [List.getD_eq_getElem?_getD, k2]
    rw [this]
    exact pq
  · have hk : i.toNat < q.length := by omega
    have hk2 : i.toNat < h.length := by omega
    have := congrArg (fun l => l[i.toNat]?) mq
    simp only [List.getElem?_map] at this
    rw [List.getElem?_eq_getElem hk, List.getElem?_eq_getElem hk2] at this
    have := Option.some.inj this
    show shr g (q.getD i.toNat 0) = _
    rw [List.getD_eq_getElem?_getD, List.getElem?_eq_getElem hk]
    show shr g q[i.toNat] = _
    rw [this]
    unfold shr
    rw [List.getD_eq_getElem?_getD, List.getElem?_eq_getElem hk2]
    rfl
theorem lay_tw (ne : ∀ s ∈ h, s ≠ []) {σ : Int → Int} (ps : ((rngI h.length).map σ).Perm (rngI g.length)) (es : ∀ i : Int, 0 ≤ i → i < h.length → shr g (σ i) = tw p (shr h i)) {A B : List Int} (l : Lay h A B) : Lay g (rv p (A.map σ)) (rv p (B.map σ)) ∧ joinT g (rv p (A.map σ)) = tw p (joinT h A) := by
  obtain ⟨pm, n⟩ := lay_nc.mp l
  have em : ∀ X : List Int, (∀ i ∈ X, 0 ≤ i ∧ i < h.length) → (rv p (X.map σ)).map (shr g) = rv p ((X.map (shr h)).map (tw p)) := by
    intro X hX
    rw [rv_map, List.map_map, List.map_map]
    congr 1
    exact List.map_congr_left fun i m => es i (hX i m).1 (hX i m).2
  have hA : ∀ i ∈ A, 0 ≤ i ∧ i < h.length := fun i m => mem_rngI.mp (pm.mem_iff.mp (List.mem_append_left _ m))
  have hB : ∀ i ∈ B, 0 ≤ i ∧ i < h.length := fun i m => mem_rngI.mp (pm.mem_iff.mp (List.mem_append_right _ m))
  have nA : ∀ s ∈ A.map (shr h), s ≠ [] := fun s m => by
    obtain ⟨i, mi, rfl⟩ := List.mem_map.mp m
    exact ne _ (List.mem_of_getElem? (shr_at (hA i mi).1 (hA i mi).2))
  refine ⟨lay_nc.mpr ⟨?_, ?_⟩, ?_⟩
  · refine ((rv_perm p _).append (rv_perm p _)).trans ?_
    rw [← List.map_append]
    exact (pm.map σ).trans ps
  · rw [em A hA, em B hB]
    exact nc_tw nA n
  · rw [joinT_map, em A hA, tw_flat, joinT_map]
theorem many_tw (ne : ∀ s ∈ h, s ≠ []) (ng : ∀ s ∈ g, s ≠ []) (pm : g.Perm (h.map (tw p))) : manyW h ≤ manyW g := by
  obtain ⟨σ, ps, es⟩ := places_tw pm
  rw [manyW_eq, manyW_eq]
  have inj : ∀ a b, (0 ≤ a ∧ a < (h.length : Int)) → (0 ≤ b ∧ b < (h.length : Int)) → σ a = σ b → a = b := by
    intro a b ha hb e
    have nd : ((rngI h.length).map σ).Nodup := ps.nodup_iff.mpr (rngI_nodup _)
    exact nodup_map_inj nd (mem_rngI.mpr ha) (mem_rngI.mpr hb) e
  have injL : ∀ X Y : List Int, (∀ i ∈ X, 0 ≤ i ∧ i < (h.length : Int)) → (∀ i ∈ Y, 0 ≤ i ∧ i < (h.length : Int)) → rv p (X.map σ) = rv p (Y.map σ) → X = Y := by
    intro X Y hX hY e
    have e := rv_inj e
    induction X generalizing Y with
    | nil =>
      cases Y with
      | nil => rfl
      | cons y Y => cases e
    | cons x X ih =>
      cases Y with
      | nil => cases e
      | cons y Y =>
        rw [List.map_cons, List.map_cons] at e
        obtain ⟨e1, e2⟩ := List.cons.inj e
        rw [inj x y (hX x List.mem_cons_self) (hY y List.mem_cons_self) e1, ih Y (fun i m => hX i (List.mem_cons_of_mem _ m)) (fun i m => hY i (List.mem_cons_of_mem _ m)) (by rw [e2]) e2]
  have nd : ((ordL h).map fun L => ((rv p (L.1.map σ), rv p (L.2.map σ)) : LY)).Nodup := by
    refine nodup_map_on (fun L mL M mM e => ?_) nodup_ordL
    have l := (lay_nc.mp ((mem_ordL ne).mp mL)).1
    have m := (lay_nc.mp ((mem_ordL ne).mp mM)).1
    obtain ⟨e1, e2⟩ := Prod.mk.inj e
    exact Prod.ext (injL _ _ (fun i q => mem_rngI.mp (l.mem_iff.mp (List.mem_append_left _ q))) (fun i q => mem_rngI.mp (m.mem_iff.mp (List.mem_append_left _ q))) e1)
      (injL _ _ (fun i q => mem_rngI.mp (l.mem_iff.mp (List.mem_append_right _ q))) (fun i q => mem_rngI.mp (m.mem_iff.mp (List.mem_append_right _ q))) e2)
  have := nodup_le _ (ordL g) nd fun L m => by
    obtain ⟨M, mM, rfl⟩ := List.mem_map.mp m
    exact (mem_ordL ng).mpr (lay_tw ne ps es ((mem_ordL ne).mp mM)).1
  rwa [List.length_map] at this
theorem text_tw (ne : ∀ s ∈ h, s ≠ []) (ng : ∀ s ∈ g, s ≠ []) (pm : g.Perm (h.map (tw p))) {t : List Nat} (m : t ∈ textsU h) : tw p t ∈ textsU g := by
  obtain ⟨σ, ps, es⟩ := places_tw pm
  obtain ⟨L, mL, rfl⟩ := (mem_textsU ne).mp m
  have := lay_tw ne ps es ((mem_ordL ne).mp mL)
  exact (mem_textsU ng).mpr ⟨(rv p (L.1.map σ), rv p (L.2.map σ)), (mem_ordL ng).mpr this.1, this.2.symm⟩
theorem good_iff {z : List Int} : goodB h z = true ↔ 2 ≤ (wout h z).length ∧ manyW (wout h z) ≠ 0 := by
  unfold goodB
  rw [Bool.and_eq_true, decide_eq_true_eq, decide_eq_true_eq]
theorem str_tw (hv : Hv h) (hg : Hv g) (pm : g.Perm (h.map (tw p))) {z : List Int} (e : strF h = some z) : ∃ z0, strF g = some z0 ∧ z0.length ≤ z.length := by
  obtain ⟨gd, pw, bd⟩ := strF_mem e
  obtain ⟨l2, mn⟩ := good_iff.mp gd
  have nd : z.Nodup := pw.imp fun h => Int.ne_of_lt h
  have p0 : (rst h.length z ++ z).Perm (rngI h.length) := by
    refine perm_of_mem ?_ (rngI_nodup _) fun x => ?_
    · rw [List.nodup_append]
      exact ⟨rst_nodup _ _, nd, fun a ha c hc e => (rst_mem.mp ha).2 (e ▸ hc)⟩
    · rw [List.mem_append, rst_mem, mem_rngI]
      constructor
      · rintro (m | m)
        · exact m.1
        · exact bd x m
      · intro m
        by_cases c : x ∈ z
        · exact .inr c
        · exact .inl ⟨m, c⟩
  have p1 : (wout h z ++ z.map (shr h)).Perm h := by
    have := p0.map (shr h)
    rw [List.map_append] at this
    have e : (rngI h.length).map (shr h) = h := by
      have := map_rngI (h := h) id
      simpa using this
    rw [e] at this
    exact this
  have p2 : ((wout h z).map (tw p) ++ (z.map (shr h)).map (tw p)).Perm g := by
    rw [← List.map_append]
    exact (p1.map (tw p)).trans pm.symm
  obtain ⟨z', mz, lz, pz, z2⟩ := put_in p2 hg (by rw [List.length_map]; exact l2)
  rw [List.length_map, List.length_map] at lz
  have ne1 : ∀ s ∈ wout h z, s ≠ [] := fun s m e => by
    have := (hv.each s ((wout_sub z).subset m)).1
    rw [e] at this
    simp at this
  have ne2 : ∀ s ∈ wout g z', s ≠ [] := fun s m e => by
    have := (hg.each s ((wout_sub z').subset m)).1
    rw [e] at this
    simp at this
  have := many_tw ne1 ne2 pz
  obtain ⟨z0, e0, l0⟩ := strF_le hg.hi hg.lo mz (good_iff.mpr ⟨z2, by omega⟩)
  exact ⟨z0, e0, by omega⟩
theorem lost_tw {w : List Nat} (ne : ∀ s ∈ h, s ≠ []) (ng : ∀ s ∈ g, s ≠ []) (pm : g.Perm (h.map (tw p))) (hw : w ≠ []) (k : manyW (h ++ [w]) ≠ 0) : manyW (g ++ [tw p w]) ≠ 0 := by
  have n1 : ∀ s ∈ h ++ [w], s ≠ [] := fun s m => by
    rcases List.mem_append.mp m with m | m
    · exact ne s m
    · rw [List.mem_singleton.mp m]; exact hw
  have n2 : ∀ s ∈ g ++ [tw p w], s ≠ [] := fun s m => by
    rcases List.mem_append.mp m with m | m
    · exact ng s m
    · rw [List.mem_singleton.mp m]
      intro e
      have := congrArg List.length e
      rw [tw_len] at this
      exact hw (List.length_eq_zero_iff.mp this)
  have := many_tw (p := p) n1 n2 (by rw [List.map_append]; exact pm.append_right _)
  omega
theorem lost_ch {w : List Nat} (ne : ∀ s ∈ h, s ≠ []) (hw : w ≠ []) (k : manyW (h ++ [w]) ≠ 0) : ∀ c ∈ w, ∃ s ∈ h, c ∈ s := by
  intro c mc
  by_cases wh : w ∈ h
  · exact ⟨w, wh, mc⟩
  have n1 : ∀ s ∈ h ++ [w], s ≠ [] := fun s m => by
    rcases List.mem_append.mp m with m | m
    · exact ne s m
    · rw [List.mem_singleton.mp m]; exact hw
  obtain ⟨x, y, l⟩ := (lyb_iff n1).mpr k
  have c1 : (x ++ y).count w = 1 := by
    rw [l.pm.count_eq, List.count_append, List.count_eq_zero.mpr wh]
    simp
  rw [List.count_append] at c1
  have inh : ∀ s, s ∈ x ++ y → s ≠ w → s ∈ h := fun s m n => by
    rcases List.mem_append.mp (l.pm.mem_iff.mp m) with m | m
    · exact m
    · exact absurd (List.mem_singleton.mp m) n
  have mw : w ∈ x ++ y := l.pm.mem_iff.mpr (List.mem_append_right _ (List.mem_singleton.mpr rfl))
  rcases List.mem_append.mp mw with m | m
  · have p1 := List.count_pos_iff.mpr m
    have ny : w ∉ y := List.count_eq_zero.mp (by omega)
    have : c ∈ y.flatten := by rw [← l.tx]; exact List.mem_flatten.mpr ⟨w, m, mc⟩
    obtain ⟨s, ms, cs⟩ := List.mem_flatten.mp this
    exact ⟨s, inh s (List.mem_append_right _ ms) fun e => ny (e ▸ ms), cs⟩
  · have p1 := List.count_pos_iff.mpr m
    have nx : w ∉ x := List.count_eq_zero.mp (by omega)
    have : c ∈ x.flatten := by rw [l.tx]; exact List.mem_flatten.mpr ⟨w, m, mc⟩
    obtain ⟨s, ms, cs⟩ := List.mem_flatten.mp this
    exact ⟨s, inh s (List.mem_append_left _ ms) fun e => nx (e ▸ ms), cs⟩
theorem text_ch (ne : ∀ s ∈ h, s ≠ []) {t : List Nat} (m : t ∈ textsU h) : ∀ c ∈ t, ∃ s ∈ h, c ∈ s := by
  obtain ⟨L, mL, rfl⟩ := (mem_textsU ne).mp m
  intro c mc
  have l := (lay_nc.mp ((mem_ordL ne).mp mL)).1
  rw [joinT_map] at mc
  obtain ⟨s, ms, cs⟩ := List.mem_flatten.mp mc
  obtain ⟨i, mi, rfl⟩ := List.mem_map.mp ms
  have := mem_rngI.mp (l.mem_iff.mp (List.mem_append_left _ mi))
  exact ⟨_, List.mem_of_getElem? (shr_at this.1 this.2), cs⟩
end
end Tt

/-! How many lost shreds there are at most: each has an order of its own. -/
namespace Tt
def walkR (g : List (List Nat)) : List Nat → List Int → Option (List Nat)
  | r, [] => some r
  | r, p :: ps => if r = [] then none else (lo r (shr g p)).bind fun l => walkR g l ps
theorem walkR_cons {g : List (List Nat)} {r : List Nat} {p : Int} {ps : List Int} : walkR g r (p :: ps) = if r = [] then none else (lo r (shr g p)).bind fun l => walkR g l ps := by rw [walkR]
theorem walkR_app {g : List (List Nat)} : ∀ {r : List Nat} {a b : List Int}, walkR g r (a ++ b) = (walkR g r a).bind fun l => walkR g l b
  | r, [], b => rfl
  | r, p :: a, b => by
    rw [List.cons_append, walkR_cons, walkR_cons]
    by_cases c : r = []
    · rw [if_pos c, if_pos c]; rfl
    · rw [if_neg c, if_neg c]
      cases e : lo r (shr g p) with
      | none => rfl
      | some l =>
        show walkR g l (a ++ b) = (walkR g l a).bind _
        exact walkR_app
theorem lo_cases {r s l : List Nat} (h : lo r s = some l) : (s.length ≤ r.length ∧ r = s ++ l) ∨ (r.length < s.length ∧ s = r ++ l) := by
  unfold lo at h
  split at h
  · rename_i c
    cases h
    obtain ⟨t, rfl⟩ := List.isPrefixOf_iff_prefix.mp c
    exact .inl ⟨by simp, by simp⟩
  · split at h
    · rename_i c1 c
      cases h
      obtain ⟨t, rfl⟩ := List.isPrefixOf_iff_prefix.mp c
      refine .inr ⟨?_, by simp⟩
      rw [List.length_append]
      have : t ≠ [] := fun z => c1 (by rw [z]; simp)
      have := List.length_pos_iff.mpr this
      omega
    · cases h
theorem lo_len {r r' s s' l l' : List Nat} (h : lo r s = some l) (h' : lo r' s' = some l') (er : r.length = r'.length) (es : s.length = s'.length) : l.length = l'.length := by
  rcases lo_cases h with ⟨a, e⟩ | ⟨a, e⟩ <;> rcases lo_cases h' with ⟨a', e'⟩ | ⟨a', e'⟩
  · have h1 := congrArg List.length e
    have h2 := congrArg List.length e'
    rw [List.length_append] at h1 h2
    omega
  · omega
  · omega
  · have h1 := congrArg List.length e
    have h2 := congrArg List.length e'
    rw [List.length_append] at h1 h2
    omega
theorem walk_back {g : List (List Nat)} : ∀ {ps : List Int} {r r' : List Nat}, r.length = r'.length → walkR g r ps = some [] → walkR g r' ps = some [] → r = r'
  | [], r, r', _, h, h' => by
    cases h
    cases h'
    rfl
  | p :: ps, r, r', el, h, h' => by
    unfold walkR at h h'
    split at h
    · cases h
    · split at h'
      · cases h'
      · obtain ⟨l, e, q⟩ := Option.bind_eq_some_iff.mp h
        obtain ⟨l', e', q'⟩ := Option.bind_eq_some_iff.mp h'
        have ll := walk_back (lo_len e e' el rfl) q q'
        subst ll
        rcases lo_cases e with ⟨a, c⟩ | ⟨a, c⟩ <;> rcases lo_cases e' with ⟨a', c'⟩ | ⟨a', c'⟩
        · rw [c, c']
        · omega
        · omega
        · exact List.append_inj_left (c.symm.trans c') el
section
variable {h : List (List Nat)} {w w' : List Nat}
theorem shr_old {p : Int} (h0 : 0 ≤ p) (h1 : p < h.length) : shr (h ++ [w]) p = shr h p := by
  unfold shr
  rw [List.getD_eq_getElem?_getD, List.getD_eq_getElem?_getD, List.getElem?_append_left (by omega)]
theorem shr_new : shr (h ++ [w]) (h.length : Int) = w := by
  unfold shr
  rw [Int.toNat_natCast, List.getD_eq_getElem?_getD, List.getElem?_append_right (Nat.le_refl _)]
  simp
theorem walk_old : ∀ {ps : List Int} {r : List Nat}, (∀ p ∈ ps, 0 ≤ p ∧ p < h.length) → walkR (h ++ [w]) r ps = walkR h r ps
  | [], r, _ => rfl
  | p :: ps, r, k => by
    unfold walkR
    rw [shr_old (k p List.mem_cons_self).1 (k p List.mem_cons_self).2]
    by_cases c : r = []
    · rw [if_pos c, if_pos c]
    · rw [if_neg c, if_neg c]
      cases e : lo r (shr h p) with
      | none => rfl
      | some l =>
        show walkR (h ++ [w]) l ps = walkR h l ps
        exact walk_old fun q m => k q (List.mem_cons_of_mem _ m)
/-- an order of all places that leads to an end -/
def OrdOk (g : List (List Nat)) : List Int → Prop
  | [] => False
  | p :: ps => (p :: ps).Perm (rngI g.length) ∧ walkR g (shr g p) ps = some []
theorem ord_one (el : w.length = w'.length) {o : List Int} (k : OrdOk (h ++ [w]) o) (k' : OrdOk (h ++ [w']) o) : w = w' := by
  cases o with
  | nil => exact k.elim
  | cons p ps =>
    obtain ⟨pm, q⟩ := k
    obtain ⟨_, q'⟩ := k'
    have nd : (p :: ps).Nodup := pm.nodup_iff.mpr (rngI_nodup _)
    have rg : ∀ x ∈ p :: ps, x ≠ (h.length : Int) → 0 ≤ x ∧ x < h.length := fun x m n => by
      have := mem_rngI.mp (pm.mem_iff.mp m)
      rw [List.length_append] at this
      simp only [List.length_cons, List.length_nil] at this
      omega
    rw [List.nodup_cons] at nd
    by_cases pn : p = (h.length : Int)
    · subst pn
      have old : ∀ x ∈ ps, 0 ≤ x ∧ x < h.length := fun x m => rg x (List.mem_cons_of_mem _ m) fun e => nd.1 (e ▸ m)
      rw [shr_new, walk_old old] at q q'
      exact walk_back el q q'
    · obtain ⟨p0, p1⟩ := rg p List.mem_cons_self pn
      have mn : (h.length : Int) ∈ ps := by
        have : (h.length : Int) ∈ p :: ps := pm.mem_iff.mpr (mem_rngI.mpr ⟨by omega, by rw [List.length_append]; simp; omega⟩)
        rcases List.mem_cons.mp this with e | m
        · exact absurd e.symm pn
        · exact m
      obtain ⟨a, b, rfl⟩ := List.append_of_mem mn
      obtain ⟨na, nb, nab⟩ := List.nodup_append.mp nd.2
      rw [List.nodup_cons] at nb
      have oa : ∀ x ∈ a, 0 ≤ x ∧ x < h.length := fun x m => rg x (List.mem_cons_of_mem _ (List.mem_append_left _ m)) fun e => nab x m _ List.mem_cons_self e
      have ob : ∀ x ∈ b, 0 ≤ x ∧ x < h.length := fun x m => rg x (List.mem_cons_of_mem _ (List.mem_append_right _ (List.mem_cons_of_mem _ m))) fun e => nb.1 (e ▸ m)
      rw [shr_old p0 p1, walkR_app, walk_old oa] at q q'
      obtain ⟨r, e, q⟩ := Option.bind_eq_some_iff.mp q
      obtain ⟨r', e', q'⟩ := Option.bind_eq_some_iff.mp q'
      rw [e] at e'
      cases e'
      unfold walkR at q q'
      split at q
      · cases q
      rename_i rn
      rw [if_neg rn] at q'
      rw [shr_new] at q q'
      obtain ⟨l, f, q⟩ := Option.bind_eq_some_iff.mp q
      obtain ⟨l', f', q'⟩ := Option.bind_eq_some_iff.mp q'
      rw [walk_old ob] at q q'
      have ll := walk_back (lo_len f f' rfl el) q q'
      subst ll
      rcases lo_cases f with ⟨c, e1⟩ | ⟨c, e1⟩ <;> rcases lo_cases f' with ⟨c', e2⟩ | ⟨c', e2⟩
      · exact List.append_inj_left (e1.symm.trans e2) el
      · omega
      · omega
      · rw [e1, e2]
theorem lo_symm {r s l : List Nat} (h : lo r s = some l) : lo s r = some l := by
  have pre : ∀ a b : List Nat, a.isPrefixOf (a ++ b) = true := fun a b => List.isPrefixOf_iff_prefix.mpr ⟨b, rfl⟩
  rcases lo_cases h with ⟨c, rfl⟩ | ⟨c, rfl⟩
  · unfold lo
    by_cases q : (s ++ l).isPrefixOf s = true
    · obtain ⟨t, e⟩ := List.isPrefixOf_iff_prefix.mp q
      have e1 := congrArg List.length e
      rw [List.length_append, List.length_append] at e1
      have : l = [] := List.length_eq_zero_iff.mp (by omega)
      subst this
      rw [if_pos q]
      simp
    · rw [if_neg q, if_pos (pre s l)]
      simp
  · unfold lo
    rw [if_pos (pre r l)]
    simp
theorem path_of {g : List (List Nat)} : ∀ (n : Nat) {u : List Int} {r : List Nat}, Us g u → rm g u = n → can g u r = true → ∃ ps, (u ++ ps).Perm (rngI g.length) ∧ walkR g r ps = some [] := by
  intro n
  induction n with
  | zero =>
    intro u r U e c
    rw [can_eq U, Bool.or_eq_true] at c
    rcases c with c | c
    · unfold isE at c
      rw [Bool.and_eq_true, decide_eq_true_eq, decide_eq_true_eq] at c
      have nd : u.Nodup := U.lt.imp fun h => Int.ne_of_lt h
      refine ⟨[], ?_, by rw [c.2]; rfl⟩
      rw [List.append_nil]
      refine perm_of_mem nd (rngI_nodup _) fun x => ⟨fun m => mem_rngI.mpr (U.ok x m), fun m => ?_⟩
      apply Decidable.byContradiction
      intro nm
      have := nodup_le (x :: u) (rngI g.length) (List.nodup_cons.mpr ⟨nm, nd⟩) fun y my => by
        rcases List.mem_cons.mp my with e | my
        · rw [e]; exact m
        · exact mem_rngI.mpr (U.ok y my)
      rw [rngI_len, List.length_cons] at this
      omega
    · obtain ⟨x, m, _⟩ := List.any_eq_true.mp c
      have := next_rm U m
      omega
  | succ n ih =>
    intro u r U e c
    rw [can_eq U, Bool.or_eq_true] at c
    rcases c with c | c
    · unfold isE at c
      rw [Bool.and_eq_true, decide_eq_true_eq, decide_eq_true_eq] at c
      unfold rm at e
      omega
    · obtain ⟨x, m, cx⟩ := List.any_eq_true.mp c
      have er := next_rm U m
      obtain ⟨h0, h1, rn, nu, eu, el⟩ := mem_nexts.mp m
      have U2 : Us g x.2.1 := by rw [eu]; exact ins_us U h0 h1 nu
      obtain ⟨ps, pm, wk⟩ := ih U2 (by omega) cx
      refine ⟨x.1 :: ps, ?_, ?_⟩
      · refine List.Perm.trans ?_ pm
        rw [eu]
        exact (List.perm_middle).trans ((perm_ins u x.1).symm.append_right ps)
      · rw [walkR_cons, if_neg rn, el]
        exact wk
def inc12 : List Int → Bool
  | p :: q :: _ => decide (p < q)
  | _ => true
theorem ord_swap {g : List (List Nat)} (ne : ∀ s ∈ g, s ≠ []) {p q : Int} {ps : List Int} (k : OrdOk g (p :: q :: ps)) : OrdOk g (q :: p :: ps) := by
  obtain ⟨pm, wk⟩ := k
  refine ⟨(List.Perm.swap p q ps).trans pm, ?_⟩
  rw [walkR_cons] at wk ⊢
  split at wk
  · cases wk
  obtain ⟨l, e, wk⟩ := Option.bind_eq_some_iff.mp wk
  have mq := mem_rngI.mp (pm.mem_iff.mp (List.mem_cons_of_mem _ List.mem_cons_self))
  rw [if_neg (ne _ (List.mem_of_getElem? (shr_at mq.1 mq.2))), lo_symm e]
  exact wk
theorem ord_ex {g : List (List Nat)} (ne : ∀ s ∈ g, s ≠ []) (mw : manyW g ≠ 0) : ∃ o, OrdOk g o ∧ inc12 o = true := by
  obtain ⟨b, mb, cb⟩ : ∃ b ∈ begins g, can g b.1 b.2 = true := by
    apply Classical.byContradiction
    intro no
    refine mw ?_
    unfold manyW
    have : ∀ l : List (List Int × List Nat), (∀ b ∈ l, b ∈ begins g) → (l.map fun b => wys g b.1 b.2).sum = 0 := by
      intro l
      induction l with
      | nil => intro _; rfl
      | cons b l ih =>
        intro sub
        rw [List.map_cons, List.sum_cons, ih fun x m => sub x (List.mem_cons_of_mem _ m)]
        have mb := sub b List.mem_cons_self
        have U := (begin_vs mb).1.us
        rw [wys_cmp _ U rfl]
        have : cmp g b.1 b.2 = [] := by
          cases q : cmp g b.1 b.2 with
          | nil => rfl
          | cons c r => exact absurd ⟨b, mb, (can_cmp _ U rfl).mpr ⟨c, by rw [q]; exact List.mem_cons_self⟩⟩ no
        rw [this]
        rfl
    exact this _ fun _ m => m
  obtain ⟨p, p0, p1, rfl⟩ := mem_begins.mp mb
  have U : Us g [p] := (begin_vs mb).1.us
  obtain ⟨ps, pm, wk⟩ := path_of _ U rfl cb
  have ok : OrdOk g (p :: ps) := ⟨pm, wk⟩
  cases ps with
  | nil => exact ⟨_, ok, rfl⟩
  | cons q ps =>
    by_cases c : p < q
    · exact ⟨_, ok, decide_eq_true c⟩
    · refine ⟨_, ord_swap ne ok, decide_eq_true ?_⟩
      have nd : (p :: q :: ps).Nodup := pm.nodup_iff.mpr (rngI_nodup _)
      rw [List.nodup_cons] at nd
      have : p ≠ q := fun e => nd.1 (e ▸ List.mem_cons_self)
      omega
theorem ords_few : ∀ n, n ≤ 7 → ((ordF n (rngI n)).filter inc12).length ≤ 2520 := by decide +kernel
theorem lost_few {h : List (List Nat)} (S : Sh h) (l6 : h.length ≤ 6) {n : Nat} (n1 : 1 ≤ n) {F : List (List Nat)} (nd : F.Nodup) (hF : ∀ w ∈ F, LostOk h n w) : F.length ≤ 2520 := by
  have ne : ∀ w ∈ F, ∀ s ∈ h ++ [w], s ≠ [] := fun w mw s m e => by
    subst e
    rcases List.mem_append.mp m with m | m
    · have := (S.each _ m).1
      simp at this
    · have := (hF w mw).1
      rw [← List.mem_singleton.mp m] at this
      simp at this
      omega
  have ex : ∀ w : List Nat, ∃ o, w ∈ F → OrdOk (h ++ [w]) o ∧ inc12 o = true := fun w => by
    by_cases m : w ∈ F
    · obtain ⟨o, a⟩ := ord_ex (ne w m) (hF w m).2.2
      exact ⟨o, fun _ => a⟩
    · exact ⟨[], fun z => absurd z m⟩
  have k := fun w => Classical.choose_spec (ex w)
  have nm : (F.map fun w => Classical.choose (ex w)).Nodup := nodup_map_on (fun a ma b mb e => by
    have ka := (k a ma).1
    have kb := (k b mb).1
    have e : Classical.choose (ex a) = Classical.choose (ex b) := e
    rw [e] at ka
    exact ord_one ((hF a ma).1.trans (hF b mb).1.symm) ka kb) nd
  have le := nodup_le _ ((ordF (h.length + 1) (rngI (h.length + 1))).filter inc12) nm fun o m => by
    obtain ⟨w, mw, rfl⟩ := List.mem_map.mp m
    obtain ⟨a, b⟩ := k w mw
    refine List.mem_filter.mpr ⟨?_, b⟩
    rw [mem_ordF (rngI_nodup _) (by rw [rngI_len]; exact Nat.le_refl _)]
    generalize Classical.choose (ex w) = o at a
    cases o with
    | nil => exact a.elim
    | cons p ps =>
      have := a.1
      rwa [List.length_append] at this
  rw [List.length_map] at le
  exact Nat.le_trans le (ords_few _ (by omega))
end
end Tt

/-! what is sure: straight behind, in one copy, signs -/
namespace Tt
def fol1 (r : List Int) (p o : Int) : Bool := (r.zip (r.drop 1)).any fun z => decide (z = (p, o))
def folB (L : LY) (p o : Int) : Bool := fol1 L.1 p o || fol1 L.2 p o
def oneB (L : LY) (p o : Int) : Bool := decide (p ∈ L.1) == decide (o ∈ L.1)
/-- by places in the first row that holds both -/
def lfol (L : LY) (p o : Int) : Bool := match [L.1, L.2].filter fun r => decide (p ∈ r) && decide (o ∈ r) with
  | [] => false
  | r :: _ => decide (((r.idxOf o : Nat) : Int) - ((r.idxOf p : Nat) : Int) = 1)
theorem fol1_iff {p o : Int} : ∀ {r : List Int}, r.Nodup → (fol1 r p o = true ↔ p ∈ r ∧ o ∈ r ∧ ((r.idxOf o : Nat) : Int) - ((r.idxOf p : Nat) : Int) = 1)
  | [], _ => by simp [fol1]
  | [x], _ => by
    simp only [fol1, List.drop_succ_cons, List.drop_zero, List.zip_nil_right, List.any_nil, List.mem_singleton]
    constructor
    · intro h; cases h
    · rintro ⟨rfl, rfl, h⟩
      omega
  | x :: y :: r, nd => by
    have nx := (List.nodup_cons.mp nd).1
    have n2 := (List.nodup_cons.mp nd).2
    have ih := fol1_iff (p := p) (o := o) n2
    have e : fol1 (x :: y :: r) p o = (decide ((x, y) = (p, o)) || fol1 (y :: r) p o) := by
      simp only [fol1, List.drop_succ_cons, List.drop_zero, List.zip_cons_cons, List.any_cons]
    rw [e, Bool.or_eq_true, decide_eq_true_eq, ih]
    have hy : x ≠ y := fun z => nx (by rw [z]; exact List.mem_cons_self)
    have io : ∀ a : Int, (x :: y :: r).idxOf a = if x = a then 0 else (y :: r).idxOf a + 1 := fun a => by
      rw [List.idxOf_cons]
      by_cases z : x = a
      · simp [z]
      · rw [if_neg z, show (x == a) = false by simpa using z]
        rfl
    constructor
    · rintro (h | ⟨h1, h2, h3⟩)
      · injection h with h1 h2
        subst h1 h2
        refine ⟨List.mem_cons_self, List.mem_cons_of_mem _ List.mem_cons_self, ?_⟩
        rw [io, io, if_neg hy, if_pos rfl, List.idxOf_cons_self]
        rfl
      · have p1 : x ≠ p := fun z => nx (by rw [z]; exact h1)
        have o1 : x ≠ o := fun z => nx (by rw [z]; exact h2)
        refine ⟨List.mem_cons_of_mem _ h1, List.mem_cons_of_mem _ h2, ?_⟩
        rw [io, io, if_neg p1, if_neg o1]
        omega
    · rintro ⟨h1, h2, h3⟩
      rw [io, io] at h3
      by_cases p1 : x = p
      · rw [if_pos p1] at h3
        by_cases o1 : x = o
        · rw [if_pos o1] at h3
          omega
        · rw [if_neg o1] at h3
          have : (y :: r).idxOf o = 0 := by omega
          rw [List.idxOf_cons] at this
          left
          by_cases yo : y = o
          · rw [p1, yo]
          · have z : (y == o) = false := by simpa using yo
            rw [z] at this
            simp at this
      · rw [if_neg p1] at h3
        have h1' : p ∈ y :: r := (List.mem_cons.mp h1).resolve_left fun z => p1 z.symm
        by_cases o1 : x = o
        · rw [if_pos o1] at h3
          omega
        · rw [if_neg o1] at h3
          exact .inr ⟨h1', (List.mem_cons.mp h2).resolve_left fun z => o1 z.symm, by omega⟩
/-- rows without one place twice -/
def RowsOk (L : LY) : Prop := (L.1 ++ L.2).Nodup
theorem lfol_eq {L : LY} (k : RowsOk L) (p o : Int) : lfol L p o = folB L p o := by
  obtain ⟨n1, n2, dj⟩ := List.nodup_append.mp k
  unfold lfol folB
  by_cases a : p ∈ L.1 ∧ o ∈ L.1
  · have na : fol1 L.2 p o = false := Bool.eq_false_iff.mpr fun z => dj p a.1 p ((fol1_iff n2).mp z).1 rfl
    rw [List.filter_cons_of_pos (by simp [a.1, a.2]), na, Bool.or_false, Bool.eq_iff_iff, fol1_iff n1]
    simp [a.1, a.2]
  · have f1 : fol1 L.1 p o = false := Bool.eq_false_iff.mpr fun z => a ⟨((fol1_iff n1).mp z).1, ((fol1_iff n1).mp z).2.1⟩
    rw [List.filter_cons_of_neg (by simpa using a), f1, Bool.false_or]
    by_cases b : p ∈ L.2 ∧ o ∈ L.2
    · rw [List.filter_cons_of_pos (by simp [b.1, b.2]), Bool.eq_iff_iff, fol1_iff n2]
      simp [b.1, b.2]
    · have f2 : fol1 L.2 p o = false := Bool.eq_false_iff.mpr fun z => b ⟨((fol1_iff n2).mp z).1, ((fol1_iff n2).mp z).2.1⟩
      rw [List.filter_cons_of_neg (by simpa using b), f2]
      rfl
theorem folB_ne {L : LY} (k : RowsOk L) (p : Int) : folB L p p = false := by
  obtain ⟨n1, n2, dj⟩ := List.nodup_append.mp k
  unfold folB
  have : ∀ r : List Int, r.Nodup → fol1 r p p = false := fun r n => Bool.eq_false_iff.mpr fun z => by
    have := ((fol1_iff n).mp z).2.2
    omega
  rw [this _ n1, this _ n2]
  rfl
/-- pairs of places, row by row -/
def prs (n : Nat) (c : Int → Int → Bool) : List (Int × Int) := (rngI n).flatMap fun p => ((rngI n).filter fun o => c p o).map fun o => (p, o)
theorem prs_congr {n : Nat} {c d : Int → Int → Bool} (h : ∀ p o, c p o = d p o) : prs n c = prs n d := by
  have : c = d := funext fun p => funext fun o => h p o
  rw [this]
/-- the signs that all texts have -/
def sureF (W : List (List Nat)) : List Nat := match W with
  | [] => []
  | w :: r => (List.range w.length).map fun i => if (w :: r).all fun v => decide (v.getD i 0 = w.getD i 0) then w.getD i 0 else 46
theorem sureF_eq {W V : List (List Nat)} {n : Nat} (hW : W ≠ []) (hV : V ≠ []) (lW : ∀ w ∈ W, w.length = n) (e : ∀ w, w ∈ W ↔ w ∈ V) : sureF W = sureF V := by
  cases W with
  | nil => exact absurd rfl hW
  | cons w W =>
    cases V with
    | nil => exact absurd rfl hV
    | cons v V =>
      have l1 := lW w List.mem_cons_self
      have l2 := lW v ((e v).mpr List.mem_cons_self)
      unfold sureF
      simp only
      rw [l1, l2]
      refine List.map_congr_left fun i _ => ?_
      by_cases a : ((w :: W).all fun x => decide (x.getD i 0 = w.getD i 0)) = true
      · rw [if_pos a]
        have a' := List.all_eq_true.mp a
        have ev : v.getD i 0 = w.getD i 0 := of_decide_eq_true (a' v ((e v).mpr List.mem_cons_self))
        have b : ((v :: V).all fun x => decide (x.getD i 0 = v.getD i 0)) = true := List.all_eq_true.mpr fun x m => decide_eq_true (by
          rw [ev]
          exact of_decide_eq_true (a' x ((e x).mpr m)))
        rw [if_pos b, ev]
      · rw [if_neg a]
        have b : ¬ ((v :: V).all fun x => decide (x.getD i 0 = v.getD i 0)) = true := fun b => a (by
          have b' := List.all_eq_true.mp b
          have ew : w.getD i 0 = v.getD i 0 := of_decide_eq_true (b' w ((e w).mp List.mem_cons_self))
          exact List.all_eq_true.mpr fun x m => decide_eq_true (by
            rw [ew]
            exact of_decide_eq_true (b' x ((e x).mp m))))
        rw [if_neg b]
theorem rng_after (n i : Nat) : (rngI n).filter (fun o => decide ((i : Int) < o)) = (List.range (n - (i + 1))).map fun k => (((i + 1 + k : Nat)) : Int) := by
  by_cases h : i + 1 ≤ n
  · have e : rngI n = (List.range (i + 1)).map (fun k : Nat => (k : Int)) ++ (List.range (n - (i + 1))).map fun k => (((i + 1 + k : Nat)) : Int) := by
      unfold rngI
      conv => lhs; rw [show n = (i + 1) + (n - (i + 1)) by omega, List.range_add, List.map_append, List.map_map]
      rfl
    rw [e, List.filter_append, List.filter_eq_nil_iff.mpr, List.nil_append, List.filter_eq_self.mpr]
    · intro a m
      obtain ⟨k, _, rfl⟩ := List.mem_map.mp m
      exact decide_eq_true (by omega)
    · intro a m
      obtain ⟨k, mk, rfl⟩ := List.mem_map.mp m
      have := List.mem_range.mp mk
      simp
      omega
  · rw [show n - (i + 1) = 0 by omega, List.range_zero, List.map_nil, List.filter_eq_nil_iff]
    intro a m
    have := mem_rngI.mp m
    simp
    omega
end Tt

namespace Tt
open PySem PySem.Spec PyProof.Rows L2
/-! ### the text by places -/
def topS (i : Nat) : Stmt := PySem.Challenge.pw_twintorn_k21_whole_what_is_sure.main.body.getD i (.Pass ⟨0, 0, 0, 0⟩)
abbrev s_are_signs : Stmt := topS 11
abbrev N_are_signs : List Str := ["thing", "least", "sign"]
theorem sc_are_signs : FnScope N_are_signs ["thing", "least"] (defScope s_are_signs) := ⟨rfl, rfl, rfl, by decide +kernel, rfl, by decide +kernel, by decide +kernel⟩
abbrev s_are_shreds : Stmt := topS 12
abbrev N_are_shreds : List Str := ["thing", "least", "shred", "k"]
theorem sc_are_shreds : FnScope N_are_shreds ["thing", "least"] (defScope s_are_shreds) := ⟨rfl, rfl, rfl, by decide +kernel, rfl, by decide +kernel, by decide +kernel⟩
abbrev s_is_heap : Stmt := topS 13
abbrev N_is_heap : List Str := ["thing"]
theorem sc_is_heap : FnScope N_is_heap ["thing"] (defScope s_is_heap) := ⟨rfl, rfl, rfl, by decide +kernel, rfl, by decide +kernel, by decide +kernel⟩
abbrev s_need_heap : Stmt := topS 14
abbrev N_need_heap : List Str := ["heap"]
theorem sc_need_heap : FnScope N_need_heap ["heap"] (defScope s_need_heap) := ⟨rfl, rfl, rfl, by decide +kernel, rfl, by decide +kernel, by decide +kernel⟩
abbrev s_joined : Stmt := topS 15
abbrev N_joined : List Str := ["heap", "places", "place"]
theorem sc_joined : FnScope N_joined ["heap", "places"] (defScope s_joined) := ⟨rfl, rfl, rfl, by decide +kernel, rfl, by decide +kernel, by decide +kernel⟩
abbrev s_all_beginnings : Stmt := topS 17
abbrev N_all_beginnings : List Str := ["heap", "place", "shred"]
theorem sc_all_beginnings : FnScope N_all_beginnings ["heap"] (defScope s_all_beginnings) := ⟨rfl, rfl, rfl, by decide +kernel, rfl, by decide +kernel, by decide +kernel⟩
abbrev s_left_over : Stmt := topS 18
abbrev N_left_over : List Str := ["rest", "shred"]
theorem sc_left_over : FnScope N_left_over ["rest", "shred"] (defScope s_left_over) := ⟨rfl, rfl, rfl, by decide +kernel, rfl, by decide +kernel, by decide +kernel⟩
abbrev s_next_to : Stmt := topS 19
abbrev N_next_to : List Str := ["heap", "standing", "used", "rest", "found", "place", "shred", "left"]
theorem sc_next_to : FnScope N_next_to ["heap", "standing"] (defScope s_next_to) := ⟨rfl, rfl, rfl, by decide +kernel, rfl, by decide +kernel, by decide +kernel⟩
abbrev s_is_end : Stmt := topS 20
abbrev N_is_end : List Str := ["heap", "standing"]
theorem sc_is_end : FnScope N_is_end ["heap", "standing"] (defScope s_is_end) := ⟨rfl, rfl, rfl, by decide +kernel, rfl, by decide +kernel, by decide +kernel⟩
abbrev s_can_end : Stmt := topS 22
abbrev N_can_end : List Str := ["heap", "standing", "known", "good", "place", "there"]
theorem sc_can_end : FnScope N_can_end ["heap", "standing", "known"] (defScope s_can_end) := ⟨rfl, rfl, rfl, by decide +kernel, rfl, by decide +kernel, by decide +kernel⟩
abbrev s_tails : Stmt := topS 23
abbrev N_tails : List Str := ["heap", "standing", "known", "found", "used", "rest", "place", "there", "more", "tail"]
theorem sc_tails : FnScope N_tails ["heap", "standing", "known"] (defScope s_tails) := ⟨rfl, rfl, rfl, by decide +kernel, rfl, by decide +kernel, by decide +kernel⟩
abbrev s_texts : Stmt := topS 24
abbrev N_texts : List Str := ["heap", "known", "found", "standing", "tail"]
theorem sc_texts : FnScope N_texts ["heap"] (defScope s_texts) := ⟨rfl, rfl, rfl, by decide +kernel, rfl, by decide +kernel, by decide +kernel⟩
abbrev s_layings_of : Stmt := topS 25
abbrev N_layings_of : List Str := ["heap", "found", "known", "row", "standing", "one", "other", "place", "there"]
theorem sc_layings_of : FnScope N_layings_of ["heap"] (defScope s_layings_of) := ⟨rfl, rfl, rfl, by decide +kernel, rfl, by decide +kernel, by decide +kernel⟩
abbrev s_all_layings : Stmt := topS 27
abbrev N_all_layings : List Str := ["heap", "found"]
theorem sc_all_layings : FnScope N_all_layings ["heap"] (defScope s_all_layings) := ⟨rfl, rfl, rfl, by decide +kernel, rfl, by decide +kernel, by decide +kernel⟩
abbrev s_follows : Stmt := topS 28
abbrev N_follows : List Str := ["laying", "place", "other", "part"]
theorem sc_follows : FnScope N_follows ["laying", "place", "other"] (defScope s_follows) := ⟨rfl, rfl, rfl, by decide +kernel, rfl, by decide +kernel, by decide +kernel⟩
abbrev s_behind : Stmt := topS 29
abbrev N_behind : List Str := ["heap", "some", "many", "place", "other", "laying"]
theorem sc_behind : FnScope N_behind ["heap"] (defScope s_behind) := ⟨rfl, rfl, rfl, by decide +kernel, rfl, by decide +kernel, by decide +kernel⟩
abbrev s_in_one : Stmt := topS 30
abbrev N_in_one : List Str := ["laying", "place", "other"]
theorem sc_in_one : FnScope N_in_one ["laying", "place", "other"] (defScope s_in_one) := ⟨rfl, rfl, rfl, by decide +kernel, rfl, by decide +kernel, by decide +kernel⟩
abbrev s_together : Stmt := topS 31
abbrev N_together : List Str := ["heap", "some", "many", "place", "other", "laying"]
theorem sc_together : FnScope N_together ["heap"] (defScope s_together) := ⟨rfl, rfl, rfl, by decide +kernel, rfl, by decide +kernel, by decide +kernel⟩
abbrev s_apart : Stmt := topS 32
abbrev N_apart : List Str := ["heap", "some", "many", "place", "other", "laying"]
theorem sc_apart : FnScope N_apart ["heap"] (defScope s_apart) := ⟨rfl, rfl, rfl, by decide +kernel, rfl, by decide +kernel, by decide +kernel⟩
abbrev s_sure_signs : Stmt := topS 33
abbrev N_sure_signs : List Str := ["heap", "some", "found", "at", "sign", "text"]
theorem sc_sure_signs : FnScope N_sure_signs ["heap"] (defScope s_sure_signs) := ⟨rfl, rfl, rfl, by decide +kernel, rfl, by decide +kernel, by decide +kernel⟩
abbrev s_law_well : Stmt := topS 35
abbrev N_law_well : List Str := ["script", "k", "cell", "primes", "seed"]
theorem sc_law_well : FnScope N_law_well ["script", "k"] (defScope s_law_well) := ⟨rfl, rfl, rfl, by decide +kernel, rfl, by decide +kernel, by decide +kernel⟩
abbrev s_law_take : Stmt := topS 36
abbrev N_law_take : List Str := ["well", "many", "drew"]
theorem sc_law_take : FnScope N_law_take ["well", "many"] (defScope s_law_take) := ⟨rfl, rfl, rfl, by decide +kernel, rfl, by decide +kernel, by decide +kernel⟩
abbrev s_law_is_int : Stmt := topS 37
abbrev N_law_is_int : List Str := ["thing", "low", "high"]
theorem sc_law_is_int : FnScope N_law_is_int ["thing", "low", "high"] (defScope s_law_is_int) := ⟨rfl, rfl, rfl, by decide +kernel, rfl, by decide +kernel, by decide +kernel⟩
abbrev s_law_kinds : Stmt := topS 38
abbrev N_law_kinds : List Str := ["e", "some", "words", "word", "good"]
theorem sc_law_kinds : FnScope N_law_kinds ["e"] (defScope s_law_kinds) := ⟨rfl, rfl, rfl, by decide +kernel, rfl, by decide +kernel, by decide +kernel⟩
abbrev s_law_refusal : Stmt := topS 39
abbrev N_law_refusal : List Str := ["e", "kinds"]
theorem sc_law_refusal : FnScope N_law_refusal ["e"] (defScope s_law_refusal) := ⟨rfl, rfl, rfl, by decide +kernel, rfl, by decide +kernel, by decide +kernel⟩
abbrev s_law_signs : Stmt := topS 40
abbrev N_law_signs : List Str := ["well", "many", "kinds", "turn"]
theorem sc_law_signs : FnScope N_law_signs ["well", "many", "kinds"] (defScope s_law_signs) := ⟨rfl, rfl, rfl, by decide +kernel, rfl, by decide +kernel, by decide +kernel⟩
abbrev s_law_cut : Stmt := topS 41
abbrev N_law_cut : List Str := ["text", "spots", "ends", "one", "other"]
theorem sc_law_cut : FnScope N_law_cut ["text", "spots"] (defScope s_law_cut) := ⟨rfl, rfl, rfl, by decide +kernel, rfl, by decide +kernel, by decide +kernel⟩
abbrev s_law_twins : Stmt := topS 42
abbrev N_law_twins : List Str := ["well", "top", "many", "text", "spots", "turn", "spot", "which"]
theorem sc_law_twins : FnScope N_law_twins ["well", "top"] (defScope s_law_twins) := ⟨rfl, rfl, rfl, by decide +kernel, rfl, by decide +kernel, by decide +kernel⟩
abbrev s_law_heap : Stmt := topS 43
abbrev N_law_heap : List Str := ["well", "top", "way", "kinds", "many", "text", "one", "other", "rows", "at", "turn"]
theorem sc_law_heap : FnScope N_law_heap ["well", "top"] (defScope s_law_heap) := ⟨rfl, rfl, rfl, by decide +kernel, rfl, by decide +kernel, by decide +kernel⟩
abbrev s_law_said : Stmt := topS 44
abbrev N_law_said : List Str := ["heap", "places", "place"]
theorem sc_law_said : FnScope N_law_said ["heap", "places"] (defScope s_law_said) := ⟨rfl, rfl, rfl, by decide +kernel, rfl, by decide +kernel, by decide +kernel⟩
abbrev s_law_ends : Stmt := topS 45
abbrev N_law_ends : List Str := ["heap", "places", "found", "at"]
theorem sc_law_ends : FnScope N_law_ends ["heap", "places"] (defScope s_law_ends) := ⟨rfl, rfl, rfl, by decide +kernel, rfl, by decide +kernel, by decide +kernel⟩
abbrev s_law_is_laid : Stmt := topS 46
abbrev N_law_is_laid : List Str := ["heap", "thing", "part", "one", "other", "ends", "place", "end"]
theorem sc_law_is_laid : FnScope N_law_is_laid ["heap", "thing"] (defScope s_law_is_laid) := ⟨rfl, rfl, rfl, by decide +kernel, rfl, by decide +kernel, by decide +kernel⟩
abbrev s_law_rows_for : Stmt := topS 47
abbrev N_law_rows_for : List Str := ["heap", "places", "text", "found", "place", "rest", "more", "one", "row"]
theorem sc_law_rows_for : FnScope N_law_rows_for ["heap", "places", "text"] (defScope s_law_rows_for) := ⟨rfl, rfl, rfl, by decide +kernel, rfl, by decide +kernel, by decide +kernel⟩
abbrev s_law_orders : Stmt := topS 48
abbrev N_law_orders : List Str := ["places", "found", "place", "rest", "one", "row"]
theorem sc_law_orders : FnScope N_law_orders ["places"] (defScope s_law_orders) := ⟨rfl, rfl, rfl, by decide +kernel, rfl, by decide +kernel, by decide +kernel⟩
abbrev s_law_layings : Stmt := topS 49
abbrev N_law_layings : List Str := ["heap", "found", "size", "lots", "place", "lot", "rest", "one", "other", "shred"]
theorem sc_law_layings : FnScope N_law_layings ["heap"] (defScope s_law_layings) := ⟨rfl, rfl, rfl, by decide +kernel, rfl, by decide +kernel, by decide +kernel⟩
abbrev s_law_told : Stmt := topS 50
abbrev N_law_told : List Str := ["way", "heap", "e"]
theorem sc_law_told : FnScope N_law_told ["way", "heap"] (defScope s_law_told) := ⟨rfl, rfl, rfl, by decide +kernel, rfl, by decide +kernel, by decide +kernel⟩
abbrev s_law_behind : Stmt := topS 51
abbrev N_law_behind : List Str := ["layings_so", "place", "other", "laying", "rows", "part"]
theorem sc_law_behind : FnScope N_law_behind ["layings_so", "place", "other"] (defScope s_law_behind) := ⟨rfl, rfl, rfl, by decide +kernel, rfl, by decide +kernel, by decide +kernel⟩
abbrev s_law_due : Stmt := topS 52
abbrev N_law_due : List Str := ["heap", "layings_so", "many", "found", "place", "other", "near", "laying", "words", "signs", "at", "sign", "bad", "word"]
theorem sc_law_due : FnScope N_law_due ["heap", "layings_so"] (defScope s_law_due) := ⟨rfl, rfl, rfl, by decide +kernel, rfl, by decide +kernel, by decide +kernel⟩
abbrev s_law : Stmt := topS 53
abbrev N_law : List Str := ["script", "k", "well", "heap", "layings_so", "due", "way", "found"]
theorem sc_law : FnScope N_law ["script"] (defScope s_law) := ⟨rfl, rfl, rfl, by decide +kernel, rfl, by decide +kernel, by decide +kernel⟩
local macro_rules | `(tactic| walk_at "e") => `(tactic| first
  | refine em_int ?_ | refine em_str ?_ | refine em_bool ?_ | refine em_none ?_
  | refine em_var 0 rfl ?_ | refine em_var 1 rfl ?_ | refine em_var 2 rfl ?_ | refine em_var 3 rfl ?_ | refine em_var 4 rfl ?_ | refine em_var 5 rfl ?_ | refine em_var 6 rfl ?_ | refine em_var 7 rfl ?_ | refine em_var 8 rfl ?_ | refine em_var 9 rfl ?_ | refine em_var 10 rfl ?_ | refine em_var 11 rfl ?_ | refine em_var 12 rfl ?_ | refine em_var 13 rfl ?_ | refine em_var 14 rfl ?_ | refine em_var 15 rfl ?_ | refine em_var 16 rfl ?_
  | refine em_bin ?_ | refine em_un ?_ | refine em_cmp (nomark _) ?_ | refine em_cmp rfl ?_
  | refine tm_cmp (nomark _) ?_ | refine tm_cmp rfl ?_ | refine tm_not ?_
  | refine em_not ?_ | refine em_ite ?_
  | refine em_tup ?_ | refine em_lst ?_ | refine am_nil ?_ | refine am_cons ?_
  | refine em_ix (fun _ _ => rfl) ?_ | refine em_sl ?_ | refine om_none ?_ | refine om_some ?_
  | refine em_callB (‹Bare _›).len PySem.boot_len ?_ | refine em_callB (‹Bare _›).all_ boot_all ?_ | refine em_callB (‹Bare _›).any_ boot_any ?_ | refine em_callB (‹Bare _›).sum_ boot_sum ?_
  | refine em_callTy (‹Bare _›).list_ PyProof.Rows.boot_list ?_ | refine em_callTy (‹Bare _›).tuple_ PyProof.Rows.boot_tuple ?_
  | refine fd_add_int ?_ | refine fd_sub_int ?_ | refine fd_lt ?_ | refine fd_le ?_ | refine fd_gt ?_ | refine fd_ge ?_ | refine fd_eq_int ?_ | refine fd_ne_int ?_ | refine fd_eq_str ?_ | refine fd_ne_str ?_ | refine fd_eq_bool ?_ | refine fd_ne_bool ?_ | refine fd_is_none ?_ | refine fd_isnot_none ?_ | refine fd_le_str ?_
  | refine kd_len_list ?_ | refine kd_len_tuple ?_ | refine kd_list_list ?_ | refine kd_list_tuple ?_ | refine kd_tuple_list ?_ | refine kd_tuple_tuple ?_
  | refine ld_list ?_ | refine ld_tuple ?_ | refine gd_neg ?_
  | refine md_startswith ?_)
/-! ### heaps: what is one -/
def lettersS : Str := "abcdefghijklmnopqrstuvwxyz"
theorem letters_eq : lettersS = S lettersL := by decide +kernel
/-- what the module's constants are -/
structure Consts (mg : Str → Option Value) : Prop where
  letters : ∃ t, mg "LETTERS" = some (.str lettersS t)
  signs : ∃ t, mg "MOST_SIGNS" = some (.int 10 t)
  shreds : ∃ t, mg "MOST_SHREDS" = some (.int 8 t)
/-- sizes that fit -/
def tameStr (z : Str) : Bool := decide (z.length ≤ 1000000)
mutual
def tame : D → Bool
  | .str z => tameStr z
  | .list ds => decide (ds.length ≤ 1000000) && tameAll ds
  | .tuple ds => decide (ds.length ≤ 1000000) && tameAll ds
  | .dict _ => false
  | _ => true
def tameAll : List D → Bool
  | [] => true
  | d :: ds => tame d && tameAll ds
end
theorem tame_nd {d : D} (h : tame d = true) : nd d = true := by
  cases d <;> first | rfl | (simp [tame] at h)
theorem tameAll_mem : ∀ {ds : List D}, tameAll ds = true → ∀ d ∈ ds, tame d = true
  | [], _, _, m => by cases m
  | x :: xs, h, d, m => by
    rw [tameAll, Bool.and_eq_true] at h
    rcases List.mem_cons.mp m with rfl | m
    · exact h.1
    · exact tameAll_mem h.2 d m
def signsOk (d : D) (least : Int) : Bool := match d with
  | .str z => decide (least ≤ z.length) && (decide ((z.length : Int) ≤ 10) && z.cps.toList.all fun c => decide (c ∈ lettersL))
  | _ => false
theorem signsOk_str (z : Str) (least : Int) : signsOk (.str z) least = (decide (least ≤ z.length) && (decide ((z.length : Int) ≤ 10) && z.cps.toList.all fun c => decide (c ∈ lettersL))) := rfl
section
variable {P : Program} {w : World} {K : PySem.W.Frag} {mg : Str → Option Value} {base : Heap}
def sp_are_signs : DSp := fun ss Q _ => ∃ d least, ss = [.va d, .va (.int least)] ∧ tame d = true ∧ Q false (.bool (signsOk d least)) ss
theorem ok_are_signs {f : Addr} {fd : FuncData} (B : Bare mg) (C : Consts mg) (F : Fun K "are_signs" "are_signs" s_are_signs f fd) (hm : mg "are_signs" = some (.ref f)) (hb : Binds K fd ["thing", "least"] []) : Cal P w K mg base "are_signs" 1 ["thing", "least"] sp_are_signs := by
  obtain ⟨t1, C1⟩ := C.letters
  obtain ⟨t2, C2⟩ := C.signs
  refine fn_ok F hm hb sc_are_signs (by rintro ss P W ⟨_, _, rfl, _⟩; rfl) ?_
  rintro cdv A outer s H E hr ss Q W ⟨d, least, rfl, ht, q⟩
  refine sd_one (s1_ret (em_and (em_isi (.inr (.inr (.inl rfl))) B.isinstance_ B.str_ boot_str ?_)))
  refine em_var 0 rfl ⟨tame_nd ht, _, rfl, fun h1 => ?_, fun h1 => FinP.va (ds := [_, _]) ?_⟩
  · cases d with
    | str z =>
      have hz : z.length ≤ 1000000 := by simpa [tame, tameStr] using ht
      refine em_and (em_chain (by with_unfolding_all rfl) ?_)
      refine em_var 1 rfl (em_callB B.len PySem.boot_len (am_cons (em_var 0 rfl (am_nil (kd_len_str (small_line hz) (fd_le ⟨_, rfl, fun h => ?_, fun h => em_globInt C2 (fd_le ⟨_, rfl, fun h2 => em_one ?_, fun h2 => ?_⟩)⟩))))))
      · refine ⟨false, rfl, fun z => Bool.noConfusion z, fun _ => FinP.va (ds := [_, _]) ?_⟩
        have e : signsOk (.str z) least = false := by
          rw [signsOk_str, h, Bool.false_and]
        rw [e] at q
        exact q
      · refine em_callB B.all_ boot_all (am_cons ?_)
        refine em_fm (.nm 2) [("sign", 2)] rfl sc_are_signs.nd (blkOk_by (N := N_are_signs) (sc := defScope s_are_signs) (by decide +kernel)) (fun _ _ _ _ _ => pg_nm sc_are_signs.nd) (by decide) (.map (fun c : Nat => .str ⟨#[c]⟩) (fun c => .bool (decide (c ∈ lettersS.cps.toList))) (im_str (em_var 0 rfl ⟨z, rfl, z.cps.toList, rfl, small_line (by simpa [Str.length] using hz), fun c hc => ⟨_, rfl, fun _ _ _ _ _ => ?_⟩, ?_⟩)))
        · exact em_cmp rfl (em_var 2 rfl (em_globStr C1 (fd_in_sign ⟨rfl, rfl⟩)))
        · refine am_nil ?_
          have em : z.cps.toList.map (fun c => PyData.bool (decide (c ∈ lettersS.cps.toList))) = (z.cps.toList.map fun c => decide (c ∈ lettersS.cps.toList)).map .bool := by simp [Function.comp_def]
          rw [em]
          refine kd_all rfl (FinP.va (ds := [_, _]) ?_)
          have e : signsOk (.str z) least = (z.cps.toList.map fun c => decide (c ∈ lettersS.cps.toList)).all id := by
            rw [signsOk_str]
            have h2' : decide ((z.length : Int) ≤ 10) = true := h2
            rw [h, h2', Bool.true_and, Bool.true_and, letters_eq, List.all_map]
            simp [S, Function.comp_def]
          rw [e] at q
          exact q
      · refine FinP.va (ds := [_, _]) ?_
        have e : signsOk (.str z) least = false := by
          rw [signsOk_str]
          have h2' : decide ((z.length : Int) ≤ 10) = false := h2
          rw [h2', Bool.false_and, Bool.and_false]
        rw [e] at q
        exact q
    | _ => cases h1
  · have e : signsOk d least = false := by
      cases d <;> first | rfl | cases h1
    rw [e] at q
    exact q
end

/-! ### heaps -/
def hpD (h : List (List Nat)) : D := .tuple (h.map tx)
def plD (p : List Int) : D := .tuple (p.map .int)
def stD (u : List Int) (r : List Nat) : D := .tuple [plD u, tx r]
theorem atI_of {α : Type} {l : List α} {i : Int} {a : α} (h0 : 0 ≤ i) (h : l[i.toNat]? = some a) : atI l i = some a := by
  have := atI_nat (xs := l) (j := i.toNat) (v := a) h
  rwa [Int.toNat_of_nonneg h0] at this
theorem hp_at {h : List (List Nat)} {i : Int} (h0 : 0 ≤ i) (h1 : i < h.length) : atI (h.map tx) i = some (tx (shr h i)) := atI_of h0 (by rw [List.getElem?_map, shr_at h0 h1]; rfl)
def leD : D → D → Bool
  | .str x, .str y => !decide (y.cps.toList < x.cps.toList)
  | _, _ => false
def shredsOk (d : D) (least : Int) : Bool := match d with
  | .tuple ds => decide (least ≤ ds.length) && (decide ((ds.length : Int) ≤ 8) && ((ds.all fun x => signsOk x 1) && (List.range (ds.length - 1)).all fun k => leD (ds.getD k .none) (ds.getD (k + 1) .none)))
  | _ => false
theorem shredsOk_tup (ds : List D) (least : Int) : shredsOk (.tuple ds) least = (decide (least ≤ ds.length) && (decide ((ds.length : Int) ≤ 8) && ((ds.all fun x => signsOk x 1) && (List.range (ds.length - 1)).all fun k => leD (ds.getD k .none) (ds.getD (k + 1) .none)))) := rfl
theorem signsOk_is {d : D} {l : Int} (h : signsOk d l = true) : ∃ z, d = .str z := by
  cases d with
  | str z => exact ⟨z, rfl⟩
  | _ => simp [signsOk] at h
theorem atI_getD {ds : List D} {k : Nat} {i : Int} (e : i = (k : Int)) (h : k < ds.length) : atI ds i = some (ds.getD k .none) := by
  subst e
  refine atI_nat ?_
  rw [List.getElem?_eq_getElem h, List.getD_eq_getElem?_getD, List.getElem?_eq_getElem h]
  rfl
section
variable {P : Program} {w : World} {K : PySem.W.Frag} {mg : Str → Option Value} {base : Heap}
def sp_are_shreds : DSp := fun ss Q _ => ∃ d least, ss = [.va d, .va (.int least)] ∧ tame d = true ∧ Q false (.bool (shredsOk d least)) ss
theorem ok_are_shreds {f : Addr} {fd : FuncData} (B : Bare mg) (C : Consts mg) (c1 : Cal P w K mg base "are_signs" 1 ["thing", "least"] sp_are_signs) (F : Fun K "are_shreds" "are_shreds" s_are_shreds f fd) (hm : mg "are_shreds" = some (.ref f)) (hb : Binds K fd ["thing", "least"] []) : Cal P w K mg base "are_shreds" 2 ["thing", "least"] sp_are_shreds := by
  obtain ⟨t3, C3⟩ := C.shreds
  refine fn_ok F hm hb sc_are_shreds (by rintro ss P W ⟨_, _, rfl, _⟩; rfl) ?_
  rintro cdv A outer s H E hr ss Q W ⟨d, least, rfl, ht, q⟩
  have no : shredsOk d least = false → FinP [.va d, .va (.int least)] Q false (.bool false) (startS N_are_shreds.length [.va d, .va (.int least)]) := fun e => FinP.va (ds := [d, .int least]) (by rw [e] at q; exact q)
  refine sd_cons (s1_if (tm_of_um (um_or (tm_not (tm_val (em_isi (.inr (.inr (.inr (.inl rfl)))) B.isinstance_ B.tuple_ boot_tuple (em_var 0 rfl ⟨tame_nd ht, _, rfl, fun h1 => ?_, fun h1 => ⟨fun h2 => ?_, fun h2 => Bool.noConfusion h2⟩⟩)))))))
  · cases d with
    | tuple ds =>
      have hz : ds.length ≤ 1000000 := by
        have : (decide (ds.length ≤ 1000000) && tameAll ds) = true := by simpa [tame] using ht
        simp only [Bool.and_eq_true, decide_eq_true_eq] at this
        exact this.1
      have hta : tameAll ds = true := by
        have : (decide (ds.length ≤ 1000000) && tameAll ds) = true := by simpa [tame] using ht
        simp only [Bool.and_eq_true, decide_eq_true_eq] at this
        exact this.2
      have go : (decide (least ≤ (ds.length : Int)) = true ∧ decide ((ds.length : Int) ≤ 8) = true) → SD (cxOf (L2N.CX P w) P w K mg base N_are_shreds "are_shreds" (defScope s_are_shreds) f cdv A outer s H E) [(defBody s_are_shreds).getD 1 (.Pass ⟨0, 0, 0, 0⟩), (defBody s_are_shreds).getD 2 (.Pass ⟨0, 0, 0, 0⟩)] (startS N_are_shreds.length [.va (.tuple ds), .va (.int least)]) W { nx := FinP [.va (.tuple ds), .va (.int least)] Q false .none, rt := FinP [.va (.tuple ds), .va (.int least)] Q } := by
        intro ⟨g1, g2⟩
        refine sd_cons (s1_if (tm_not (tm_val (em_callB B.all_ boot_all (am_cons ?_)))))
        refine em_fm (.nm 2) [("shred", 2)] rfl sc_are_shreds.nd (blkOk_by (N := N_are_shreds) (sc := defScope s_are_shreds) (by decide +kernel)) (fun _ _ _ _ _ => pg_nm sc_are_shreds.nd) (by decide) (.map (fun x => x) (fun x => .bool (signsOk x 1)) (im_tuple (em_var 0 rfl ⟨ds, rfl, ds, by simp, small_line hz, fun x hx => ⟨_, rfl, fun _ _ _ _ _ => ?_⟩, ?_⟩)))
        · refine em_call c1 (hr.mono (by decide)) (am_cons (em_var 2 rfl (am_cons (em_int (am_nil ⟨W0, fun _ z => z, x, 1, rfl, tameAll_mem hta x hx, ?_⟩)))))
          exact ⟨rfl, rfl⟩
        · refine am_nil ?_
          have em : ds.map (fun x => PyData.bool (signsOk x 1)) = (ds.map fun x => signsOk x 1).map .bool := by simp [Function.comp_def]
          rw [em]
          refine kd_all rfl ⟨_, rfl, fun k1 => ?_, fun k1 => ?_⟩
          · refine sd_one (s1_ret (em_bool (FinP.va (ds := [_, _]) ?_)))
            have e : shredsOk (.tuple ds) least = false := by
              rw [shredsOk_tup]
              have : (ds.all fun x => signsOk x 1) = false := by
                have k1' : (ds.map fun x => signsOk x 1).all id = false := by simpa using k1
                rw [List.all_map] at k1'
                exact k1'
              rw [this]
              simp
            rw [e] at q
            exact q
          · have all1 : (ds.all fun x => signsOk x 1) = true := by
              have k1' : (ds.map fun x => signsOk x 1).all id = true := by simpa using k1
              rw [List.all_map] at k1'
              exact k1'
            refine sd_nil (sd_one (s1_ret (em_callB B.all_ boot_all (am_cons ?_))))
            refine em_fm (.nm 3) [("k", 3)] rfl sc_are_shreds.nd (blkOk_by (N := N_are_shreds) (sc := defScope s_are_shreds) (by decide +kernel)) (fun _ _ _ _ _ => pg_nm sc_are_shreds.nd) (by decide) (.map (fun k : Nat => .int (0 + (k : Int))) (fun k => .bool (leD (ds.getD k .none) (ds.getD (k + 1) .none))) (im_range1 B.range_ (em_bin (em_callB B.len PySem.boot_len (am_cons (em_var 0 rfl (am_nil (kd_len_tuple (em_int (fd_sub_int ⟨_, rfl, by omega, by omega, List.range ((ds.length : Int) - 1).toNat, rfl, small_line (by simp; omega), fun k hk => ⟨_, rfl, fun _ _ _ _ _ => ?_⟩, ?_⟩))))))))))
            · have hk' := List.mem_range.mp hk
              have hk1 : k < ds.length := by omega
              have hk2 : k + 1 < ds.length := by omega
              obtain ⟨x, ex⟩ := signsOk_is (List.all_eq_true.mp all1 (ds.getD k .none) (by rw [List.getD_eq_getElem?_getD, List.getElem?_eq_getElem hk1]; exact List.getElem_mem hk1))
              obtain ⟨y, ey⟩ := signsOk_is (List.all_eq_true.mp all1 (ds.getD (k + 1) .none) (by rw [List.getD_eq_getElem?_getD, List.getElem?_eq_getElem hk2]; exact List.getElem_mem hk2))
              refine em_cmp (nomark _) (em_ix (fun _ _ => rfl) (em_var 0 rfl (em_var 3 rfl (id_tuple (atI_getD (k := k) (by simp) hk1) ?_))))
              refine em_ix (fun _ _ => rfl) (em_var 0 rfl (em_bin (em_var 3 rfl (em_int (fd_add_int (id_tuple (atI_getD (k := k + 1) (by simp) hk2) ?_))))))
              rw [ex, ey]
              exact fd_le_str ⟨rfl, rfl⟩
            · refine am_nil ?_
              have em : (List.range ((ds.length : Int) - 1).toNat).map (fun k => PyData.bool (leD (ds.getD k .none) (ds.getD (k + 1) .none))) = ((List.range ((ds.length : Int) - 1).toNat).map fun k => leD (ds.getD k .none) (ds.getD (k + 1) .none)).map .bool := by simp [Function.comp_def]
              rw [em]
              refine kd_all rfl (FinP.va (ds := [_, _]) ?_)
              have e : shredsOk (.tuple ds) least = ((List.range ((ds.length : Int) - 1).toNat).map fun k => leD (ds.getD k .none) (ds.getD (k + 1) .none)).all id := by
                rw [shredsOk_tup, g1, g2, all1, Bool.true_and, Bool.true_and, Bool.true_and, List.all_map, show ((ds.length : Int) - 1).toNat = ds.length - 1 by omega]
                rfl
              rw [e] at q
              exact q
      refine um_or1 (tm_not (tm_chain (by with_unfolding_all rfl) ?_))
      refine em_var 1 rfl (em_callB B.len PySem.boot_len (am_cons (em_var 0 rfl (am_nil (kd_len_tuple (fd_le ⟨_, rfl, fun k1 => ⟨fun _ => ?_, fun z => ?_⟩, fun k1 => em_globInt C3 (fd_le ⟨_, rfl, fun z => ?_, fun z => ?_⟩)⟩))))))
      · refine sd_one (s1_ret (em_bool (no ?_)))
        rw [shredsOk_tup, k1, Bool.false_and]
      · cases z
      · refine sd_one (s1_ret (em_bool (no ?_)))
        have z' : decide ((ds.length : Int) ≤ 8) = false := by simpa using z
        rw [shredsOk_tup, z', Bool.false_and, Bool.and_false]
      · exact sd_nil (go ⟨k1, by simpa using z⟩)
    | _ => cases h1
  · exact sd_one (s1_ret (em_bool (no (by cases d <;> first | rfl | cases h1))))
end

theorem sorts_int {l : List Int} (h : l.length ≤ sizeLine) : Sorts PyData.int l := ⟨PySem.W.AllAlike.of fun a b => by simp [PySem.W.alike], PySem.W.Sortable.others fun b => ⟨by simp, fun xs => by simp⟩, fun b _ => by simp [PyData.depth], h⟩
theorem sorts_str {l : List Str} (h : l.length ≤ sizeLine) : Sorts PyData.str l := ⟨PySem.W.AllAlike.of fun a b => by simp [PySem.W.alike], PySem.W.Sortable.others fun b => ⟨by simp, fun xs => by simp⟩, fun b _ => by simp [PyData.depth], h⟩
theorem sorts_tx {l : List (List Nat)} (h : l.length ≤ sizeLine) : Sorts tx l := ⟨PySem.W.AllAlike.of fun a b => by simp [PySem.W.alike], PySem.W.Sortable.others fun b => ⟨by simp, fun xs => by simp⟩, fun b _ => by simp [PyData.depth], h⟩
theorem dle_int : PySem.W.dataLe false PyData.int = fun a b => decide (a ≤ b) := PySem.W.dataLe_int (fun b => b)
theorem dle_tx : PySem.W.dataLe false tx = fun a b => decide (a ≤ b) := by
  have := PySem.W.dataLe_str (fun l : List Nat => S l)
  simpa [S] using this
theorem dle_str : PySem.W.dataLe false PyData.str = fun a b => decide (a.cps.toList ≤ b.cps.toList) := PySem.W.dataLe_str (fun b => b)
theorem any_ints (u : List Int) (p : Int) : ((u.map PyData.int).any fun z => PyData.eqv z (.int p)) = decide (p ∈ u) := by
  induction u with
  | nil => rfl
  | cons x r ih =>
    rw [List.map_cons, List.any_cons, ih]
    by_cases e : x = p
    · simp [PyData.eqv, e]
    · have e2 : ¬ p = x := fun z => e z.symm
      simp [PyData.eqv, e, e2]
theorem lay_ints : ∀ u : List Int, PyData.canLayAll0 (u.map PyData.int) = true
  | [] => by simp [PyData.canLayAll0]
  | x :: u => by rw [List.map_cons, PyData.canLayAll0, lay_ints u]; simp [PyData.canLay0]
theorem shaped_ints (u : List Int) : SeqAt.shaped (.tuple (u.map PyData.int)) = true := by
  unfold SeqAt.shaped
  rw [PyData.canLay0, lay_ints, PyData.depth, PySem.W.depth_ints]
  decide
def nxD (x : NX) : D := .tuple [.int x.1, stD x.2.1 x.2.2]
def loD (o : Option (List Nat)) : D := match o with
  | some l => tx l
  | none => .none
theorem signs_hv {h : List (List Nat)} (v : Hv h) {s : List Nat} (m : s ∈ h) : signsOk (tx s) 1 = true := by
  obtain ⟨h1, h2, h3⟩ := v.each s m
  rw [signsOk_str, S_len]
  simp only [Bool.and_eq_true, decide_eq_true_eq, List.all_eq_true]
  refine ⟨by omega, by omega, fun c hc => h3 c ?_⟩
  simpa [S] using hc
theorem shreds_hv {h : List (List Nat)} (v : Hv h) : shredsOk (hpD h) 2 = true := by
  have h1 := v.lo
  have h2 := v.hi
  unfold hpD
  rw [shredsOk_tup, List.length_map]
  simp only [Bool.and_eq_true, decide_eq_true_eq, List.all_eq_true]
  refine ⟨by omega, by omega, fun x hx => ?_, fun k hk => ?_⟩
  · obtain ⟨s, hs, rfl⟩ := List.mem_map.mp hx
    exact signs_hv v hs
  · have hk := List.mem_range.mp hk
    have a1 : (h.map tx).getD k PyData.none = tx (h.getD k []) := by
      rw [List.getD_eq_getElem?_getD, List.getD_eq_getElem?_getD, List.getElem?_map, List.getElem?_eq_getElem (by omega : k < h.length)]
      rfl
    have a2 : (h.map tx).getD (k + 1) PyData.none = tx (h.getD (k + 1) []) := by
      rw [List.getD_eq_getElem?_getD, List.getD_eq_getElem?_getD, List.getElem?_map, List.getElem?_eq_getElem (by omega : k + 1 < h.length)]
      rfl
    rw [a1, a2]
    have := List.pairwise_iff_getElem.mp v.so k (k + 1) (by omega) (by omega) (by omega)
    unfold leD tx
    simp only [S, Bool.not_eq_true', decide_eq_false_iff_not]
    have g1 : h.getD k [] = h[k] := by rw [List.getD_eq_getElem?_getD, List.getElem?_eq_getElem (by omega : k < h.length)]; rfl
    have g2 : h.getD (k + 1) [] = h[k + 1] := by rw [List.getD_eq_getElem?_getD, List.getElem?_eq_getElem (by omega : k + 1 < h.length)]; rfl
    rw [g1, g2]
    exact List.not_lt.mpr this
section
variable {P : Program} {w : World} {K : PySem.W.Frag} {mg : Str → Option Value} {base : Heap}
theorem hv_tame {h : List (List Nat)} (v : Small h) : tame (hpD h) = true := by
  unfold hpD
  rw [tame, Bool.and_eq_true, decide_eq_true_eq, List.length_map]
  refine ⟨by have := v.len; omega, ?_⟩
  have : ∀ l : List (List Nat), (∀ s ∈ l, s.length ≤ 11) → tameAll (l.map tx) = true := by
    intro l
    induction l with
    | nil => intro _; simp [tameAll]
    | cons s r ih =>
      intro hs
      rw [List.map_cons, tameAll, ih fun s m => hs s (List.mem_cons_of_mem _ m), Bool.and_true, tame, tameStr, S_len, decide_eq_true_eq]
      have := hs s List.mem_cons_self
      omega
  exact this h v.each
def sp_is_heap : DSp := fun ss Q _ => ∃ d, ss = [.va d] ∧ tame d = true ∧ Q false (.bool (shredsOk d 2)) ss
theorem ok_is_heap {f : Addr} {fd : FuncData} (c : Cal P w K mg base "are_shreds" 2 ["thing", "least"] sp_are_shreds) (F : Fun K "is_heap" "is_heap" s_is_heap f fd) (hm : mg "is_heap" = some (.ref f)) (hb : Binds K fd ["thing"] []) : Cal P w K mg base "is_heap" 3 ["thing"] sp_is_heap := by
  refine fn_ok F hm hb sc_is_heap (by rintro ss P W ⟨_, rfl, _⟩; rfl) ?_
  rintro cdv A outer s H E hr ss Q W ⟨d, rfl, ht, q⟩
  exact sd_one (s1_ret (em_call c (hr.mono (by decide)) (am_cons (em_var 0 rfl (am_cons (em_int (am_nil ⟨W0, fun _ z => z.elim, d, 2, rfl, ht, FinP.va (ds := [d]) q⟩)))))))
def sp_need_heap : DSp := fun ss Q _ => ∃ h, ss = [.va (hpD h)] ∧ Hv h ∧ Q false .none ss
theorem ok_need_heap {f : Addr} {fd : FuncData} (c : Cal P w K mg base "is_heap" 3 ["thing"] sp_is_heap) (F : Fun K "need_heap" "need_heap" s_need_heap f fd) (hm : mg "need_heap" = some (.ref f)) (hb : Binds K fd ["heap"] []) : Cal P w K mg base "need_heap" 4 ["heap"] sp_need_heap := by
  refine fn_ok F hm hb sc_need_heap (by rintro ss P W ⟨_, rfl, _⟩; rfl) ?_
  rintro cdv A outer s H E hr ss Q W ⟨h, rfl, hv, q⟩
  refine sd_one (s1_if (tm_not (tm_val (em_call c (hr.mono (by decide)) (am_cons (em_var 0 rfl (am_nil ⟨W0, fun _ z => z.elim, hpD h, rfl, hv_tame hv.small, _, rfl, fun k1 => ?_, fun k1 => sd_nil (FinP.va (ds := [hpD h]) q)⟩)))))))
  rw [shreds_hv hv] at k1
  cases k1
def sp_joined : DSp := fun ss P _ => ∃ h p, ss = [.va (hpD h), .va (plD p)] ∧ Small h ∧ PlacesOk h p ∧ p.length ≤ 1000 ∧ P false (tx (joinT h p)) ss
theorem ok_joined {f : Addr} {fd : FuncData} (F : Fun K "joined" "joined" s_joined f fd) (hm : mg "joined" = some (.ref f)) (hb : Binds K fd ["heap", "places"] []) : Cal P w K mg base "joined" 1 ["heap", "places"] sp_joined := by
  refine fn_ok F hm hb sc_joined (by rintro ss P W ⟨_, _, rfl, _⟩; rfl) ?_
  rintro cdv A outer s H E hr ss Q W ⟨h, p, rfl, hs, hp, hl, q⟩
  refine sd_one (s1_retD (em_meth PySem.F.slot_str_join PySem.F.type_str_join (em_str ⟨_, rfl, am_cons ?_⟩)))
  refine em_fm (.nm 2) [("place", 2)] rfl sc_joined.nd (blkOk_by (N := N_joined) (sc := defScope s_joined) (by decide +kernel)) (fun _ _ _ _ _ => pg_nm sc_joined.nd) (by decide) (.map PyData.int (fun i => tx (shr h i)) (im_tuple (em_var 1 rfl ⟨_, rfl, p, rfl, small_line (by omega), fun i hi => ?_, ?_⟩)))
  · obtain ⟨h0, h1⟩ := hp i hi
    exact ⟨_, rfl, fun _ _ _ _ _ => em_ix (fun _ _ => rfl) (em_var 0 rfl (em_var 2 rfl (id_tuple (d := tx (shr h i)) (hp_at h0 h1) ⟨rfl, rfl⟩)))⟩
  · refine am_nil ?_
    have e : p.map (fun i => tx (shr h i)) = ((p.map (shr h)).map S).map .str := by simp [Function.comp_def]
    rw [e]
    refine md_join ?_ ?_
    · have b := sum_le p (fun i => (shr h i).length) 11 (shr_le hs)
      have e2 : (((p.map (shr h)).map S).map (·.length)) = p.map fun i => (shr h i).length := by
        rw [List.map_map, List.map_map]
        refine List.map_congr_left fun i _ => ?_
        exact S_len _
      rw [e2, List.length_map, List.length_map]
      have : (Str.ofString "").length = 0 := rfl
      rw [this]
      omega
    · refine FinP.va (ds := [hpD h, plD p]) ?_
      rw [show Str.ofString "" = S [] from rfl, join0]
      exact q
def sp_all_beginnings : DSp := fun ss Q _ => ∃ h, ss = [.va (hpD h)] ∧ Small h ∧ Q true (.list ((begins h).map fun b => stD b.1 b.2)) ss
theorem ok_all_beginnings {f : Addr} {fd : FuncData} (B : Bare mg) (F : Fun K "all_beginnings" "all_beginnings" s_all_beginnings f fd) (hm : mg "all_beginnings" = some (.ref f)) (hb : Binds K fd ["heap"] []) : Cal P w K mg base "all_beginnings" 1 ["heap"] sp_all_beginnings := by
  refine fn_ok F hm hb sc_all_beginnings (by rintro ss P W ⟨_, rfl, _⟩; rfl) ?_
  rintro cdv A outer s H E hr ss Q W ⟨h, rfl, hs, q⟩
  refine sd_one (s1_ret ?_)
  refine em_fm (.tp [.nm 1, .nm 2]) [("place", 1), ("shred", 2)] rfl sc_all_beginnings.nd (blkOk_by (N := N_all_beginnings) (sc := defScope s_all_beginnings) (by decide +kernel)) (fun _ _ _ _ _ => pg_tp rfl (pgs_1 (pg_nm sc_all_beginnings.nd) (pgs_1 (pg_nm sc_all_beginnings.nd) pgs_0))) (by decide)
    (.map (fun i : Nat => .tuple [.int (i : Nat), (h.map tx).getD i .none]) (fun i => stD [(i : Int)] (shr h i)) (im_enumT B.enumerate_ (em_var 0 rfl ⟨_, rfl, List.range (h.map tx).length, rfl, small_line (by have := hs.len; simp; omega), fun i hi => ⟨_, rfl, fun _ _ _ _ _ => ?_⟩, FinP.va (ds := [hpD h]) ?_⟩)))
  · have hi' : i < h.length := by simpa using List.mem_range.mp hi
    refine em_tup (am_cons (em_tup (am_cons (em_var 1 rfl (am_nil ⟨small_line (by simp), rfl, ?_⟩)))))
    refine am_cons (em_var 2 rfl (am_nil ⟨small_line (by simp), ?_, rfl, ?_⟩))
    · have : (h.map tx).getD i PyData.none = tx (shr h i) := by
        unfold shr
        rw [List.getD_eq_getElem?_getD, List.getD_eq_getElem?_getD, List.getElem?_map]
        simp [List.getElem?_eq_getElem hi']
      rw [this]
      rfl
    · have : (h.map tx).getD i PyData.none = tx (shr h i) := by
        unfold shr
        rw [List.getD_eq_getElem?_getD, List.getD_eq_getElem?_getD, List.getElem?_map]
        simp [List.getElem?_eq_getElem hi']
      rw [this]
      rfl
  · have e : (List.range (h.map tx).length).map (fun i : Nat => stD [(i : Int)] (shr h i)) = (begins h).map fun b => stD b.1 b.2 := by
      unfold begins
      rw [List.length_map, List.map_map]
      rfl
    rw [e]
    exact q
def sp_left_over : DSp := fun ss Q _ => ∃ r s, ss = [.va (tx r), .va (tx s)] ∧ r.length ≤ 1000 ∧ s.length ≤ 1000 ∧ Q false (loD (lo r s)) ss
theorem ok_left_over {f : Addr} {fd : FuncData} (B : Bare mg) (F : Fun K "left_over" "left_over" s_left_over f fd) (hm : mg "left_over" = some (.ref f)) (hb : Binds K fd ["rest", "shred"] []) : Cal P w K mg base "left_over" 1 ["rest", "shred"] sp_left_over := by
  refine fn_ok F hm hb sc_left_over (by rintro ss P W ⟨_, _, rfl, _⟩; rfl) ?_
  rintro cdv A outer s H E hr ss Q W ⟨r, s, rfl, h1, h2, q⟩
  have l1 : (S r).length ≤ sizeLine := by rw [S_len]; exact small_line (by omega)
  have l2 : (S s).length ≤ sizeLine := by rw [S_len]; exact small_line (by omega)
  refine sd_cons (s1_if (tm_val (em_meth PySem.F.slot_str_startswith PySem.F.type_str_startswith (em_var 0 rfl ⟨_, rfl, am_cons (em_var 1 rfl (am_nil (md_startswith ⟨_, rfl, fun k1 => ?_, fun k1 => sd_nil ?_⟩)))⟩))))
  · rw [startswith_S] at k1
    refine sd_one (s1_ret (em_sl (em_var 0 rfl (om_some (em_callB B.len PySem.boot_len (am_cons (em_var 1 rfl (am_nil (kd_len_str l2 ⟨_, rfl, om_none (ld_str l1 (FinP.va (ds := [tx r, tx s]) ?_))⟩)))))))))
    rw [S_len, cutS_S, cut_drop]
    have e : lo r s = some (r.drop s.length) := by unfold lo; rw [if_pos k1]
    rw [e] at q
    exact q
  · rw [startswith_S] at k1
    refine sd_one (s1_ret (em_ite (tm_val (em_meth PySem.F.slot_str_startswith PySem.F.type_str_startswith (em_var 1 rfl ⟨_, rfl, am_cons (em_var 0 rfl (am_nil (md_startswith ⟨_, rfl, fun k2 => ?_, fun k2 => ?_⟩)))⟩)))))
    · rw [startswith_S] at k2
      refine em_sl (em_var 1 rfl (om_some (em_callB B.len PySem.boot_len (am_cons (em_var 0 rfl (am_nil (kd_len_str l1 ⟨_, rfl, om_none (ld_str l2 (FinP.va (ds := [tx r, tx s]) ?_))⟩)))))))
      rw [S_len, cutS_S, cut_drop]
      have e : lo r s = some (s.drop r.length) := by unfold lo; rw [if_neg (by rw [k1]; exact Bool.false_ne_true), if_pos k2]
      rw [e] at q
      exact q
    · rw [startswith_S] at k2
      refine em_none (FinP.va (ds := [tx r, tx s]) ?_)
      have e : lo r s = none := by unfold lo; rw [if_neg (by rw [k1]; exact Bool.false_ne_true), if_neg (by rw [k2]; exact Bool.false_ne_true)]
      rw [e] at q
      exact q
def sp_is_end : DSp := fun ss Q _ => ∃ h u r, ss = [.va (hpD h), .va (stD u r)] ∧ Q false (.bool (isE h u r)) ss
theorem ok_is_end {f : Addr} {fd : FuncData} (B : Bare mg) (F : Fun K "is_end" "is_end" s_is_end f fd) (hm : mg "is_end" = some (.ref f)) (hb : Binds K fd ["heap", "standing"] []) : Cal P w K mg base "is_end" 1 ["heap", "standing"] sp_is_end := by
  refine fn_ok F hm hb sc_is_end (by rintro ss P W ⟨_, _, _, rfl, _⟩; rfl) ?_
  rintro cdv A outer s H E hr ss Q W ⟨h, u, r, rfl, q⟩
  refine sd_one (s1_ret (em_and (em_cmp (nomark _) (em_callB B.len PySem.boot_len (am_cons (em_ix (fun _ _ => rfl) (em_var 1 rfl (em_int (id_tuple (d := plD u) rfl (am_nil (kd_len_tuple (em_callB B.len PySem.boot_len (am_cons (em_var 0 rfl (am_nil (kd_len_tuple (fd_eq_int ⟨_, rfl, fun k1 => ?_, fun k1 => ?_⟩)))))))))))))))))
  · refine em_one (em_cmp (nomark _) (em_ix (fun _ _ => rfl) (em_var 1 rfl (em_int (id_tuple (d := tx r) rfl (em_str (fd_eq_str (FinP.va (ds := [hpD h, stD u r]) ?_))))))))
    have k1' : u.length = h.length := by
      have := of_decide_eq_true k1
      rw [List.length_map, List.length_map] at this
      omega
    have e : isE h u r = decide (S r = Str.ofString "") := by
      unfold isE
      rw [decide_eq_true k1', Bool.true_and, show Str.ofString "" = S [] from rfl]
      simp only [S_inj]
    rw [e] at q
    exact q
  · refine FinP.va (ds := [hpD h, stD u r]) ?_
    have k1' : ¬ u.length = h.length := by
      have := of_decide_eq_false k1
      rw [List.length_map, List.length_map] at this
      omega
    have e : isE h u r = false := by
      unfold isE
      rw [decide_eq_false k1', Bool.false_and]
    rw [e] at q
    exact q
end

theorem shaped_int (i : Int) : SeqAt.shaped (.int i) = true := by simp [SeqAt.shaped, PyData.canLay0, PyData.depth]
theorem room65 {k : Nat} {A : Around} (r : Room k A) : A.units + 65 < cLine := by have := r.un; omega
theorem S_empty : Str.ofString "" = S [] := rfl
theorem S_nil {r : List Nat} : decide (S r = Str.ofString "") = decide (r = []) := by
  rw [S_empty]
  simp only [S_inj]
theorem loD_none {o : Option (List Nat)} : isN (loD o) = o.isNone := by cases o <;> rfl
theorem lo_le {r s l : List Nat} (h : lo r s = some l) : l.length ≤ r.length ∨ l.length ≤ s.length := by
  unfold lo at h
  split at h
  · cases h
    left
    rw [List.length_drop]
    omega
  · split at h
    · cases h
      right
      rw [List.length_drop]
      omega
    · cases h
section
variable {P : Program} {w : World} {K : PySem.W.Frag} {mg : Str → Option Value} {base : Heap}
def sp_next_to : DSp := fun ss Q _ => ∃ h u r, ss = [.va (hpD h), .va (stD u r)] ∧ Small h ∧ u.length ≤ 100 ∧ r.length ≤ 100 ∧ Q true (.list ((nexts h u r).map nxD)) ss
theorem ok_next_to {f : Addr} {fd : FuncData} (B : Bare mg) (c1 : Cal P w K mg base "left_over" 1 ["rest", "shred"] sp_left_over) (F : Fun K "next_to" "next_to" s_next_to f fd) (hm : mg "next_to" = some (.ref f)) (hb : Binds K fd ["heap", "standing"] []) : Cal P w K mg base "next_to" 2 ["heap", "standing"] sp_next_to := by
  refine fn_ok F hm hb sc_next_to (by rintro ss P W ⟨_, _, _, rfl, _⟩; rfl) ?_
  rintro cdv A outer s H E hr ss Q W ⟨h, u, r, rfl, hs, hu, hl, q⟩
  refine sd_cons (s1_unpack (.tp [.nm 2, .nm 3]) (pg_tp rfl (pgs_1 (pg_nm sc_next_to.nd) (pgs_1 (pg_nm sc_next_to.nd) pgs_0))) (em_var 1 rfl ⟨_, rfl, ?_⟩))
  refine sd_cons (s1_set 4 sc_next_to.nd (vm_own (em_lst (am_nil ⟨small_line (by simp), rfl, rfl, [], rfl, fun p => ?_⟩))))
  refine sd_cons (s1_for (.tp [.nm 5, .nm 6]) (passes_of rfl) rfl (pg_tp rfl (pgs_1 (pg_nm sc_next_to.nd) (pgs_1 (pg_nm sc_next_to.nd) pgs_0))) (im_enumT B.enumerate_ (em_var 0 rfl ⟨_, rfl, ?_⟩)))
  refine ⟨fun i ρ => ∃ s5 s6 s7, ρ = [.va (hpD h), .va (stD u r), .va (plD u), .va (tx r), .mo p (.lst (((List.range i).filterMap (nx1 h u r)).map nxD)), s5, s6, s7], ⟨_, _, _, rfl⟩, ?_, ?_⟩
  · rintro i d ρ2 hd ⟨s5, s6, s7, rfl⟩
    have hi : i < h.length := by
      have := (List.getElem?_eq_some_iff.mp hd).1
      rwa [enumD_len, List.length_map] at this
    have hsh : (h.map tx)[i]? = some (tx (shr h i)) := by
      rw [List.getElem?_map, show h[i]? = some (shr h i) from shr_at (i := (i : Int)) (by omega) (by omega)]
      rfl
    rw [enumD_at hsh] at hd
    cases hd
    refine ⟨_, rfl, ?_⟩
    have le : (((List.range i).filterMap (nx1 h u r)).map nxD).length ≤ 9 := by
      rw [List.length_map]
      refine Nat.le_trans (List.length_filterMap_le _ _) ?_
      rw [List.length_range]
      have := hs.len
      omega
    have sk : nx1 h u r i = none → ∀ s5 s6 s7, ∃ a b c, [.va (hpD h), .va (stD u r), .va (plD u), .va (tx r), .mo p (.lst (((List.range i).filterMap (nx1 h u r)).map nxD)), s5, s6, s7] = [.va (hpD h), .va (stD u r), .va (plD u), .va (tx r), Sl.mo p (.lst (((List.range (i + 1)).filterMap (nx1 h u r)).map nxD)), a, b, c] := fun e s5 s6 s7 => ⟨s5, s6, s7, by rw [List.range_succ, List.filterMap_append, List.filterMap_cons_none e, List.filterMap_nil, List.append_nil]⟩
    refine sd_one (s1_if (tm_of_um (um_and (tm_cmp rfl (em_var 3 rfl (em_str (fd_ne_str ⟨_, rfl, fun k1 => ?_, fun k1 => ⟨fun z => (Bool.noConfusion z), fun _ => sd_nil ?_⟩⟩)))))))
    · refine um_and1 (tm_cmp rfl (em_var 5 rfl (em_var 2 rfl (fd_notIn_tuple (room65 hr) (shaped_int i) (shaped_ints u) ⟨_, rfl, fun k2 => ?_, fun k2 => sd_nil ?_⟩))))
      · have hne : r ≠ [] := by
          rw [S_nil] at k1
          simpa using k1
        have hni : (i : Int) ∉ u := by
          rw [any_ints] at k2
          simpa using k2
        refine sd_cons (s1_set 7 sc_next_to.nd (vm_data (em_call c1 (hr.mono (by decide)) (am_cons (em_var 3 rfl (am_cons (em_var 6 rfl (am_nil ⟨W0, fun _ z => z.elim, r, shr h i, rfl, by omega, Nat.le_trans (shr_le hs i) (by decide), ?_⟩))))))))
        refine sd_one (s1_if (tm_cmp rfl (em_var 7 rfl (em_none (fd_isnot_none ⟨_, rfl, fun k3 => ?_, fun k3 => sd_nil ?_⟩)))))
        · rw [loD_none] at k3
          cases el : lo r (shr h i) with
          | none => rw [el] at k3; cases k3
          | some l =>
            refine sd_one (s1_expr (em_append 4 rfl ?_))
            refine em_tup (am_cons (em_var 5 rfl (am_cons (em_tup (am_cons (em_callTy B.tuple_ PyProof.Rows.boot_tuple (am_cons (em_callB B.sorted_ PyProof.Rows.boot_sorted (am_cons (em_bin (em_var 2 rfl (em_tup (am_cons (em_var 5 rfl (am_nil ⟨small_line (by simp), rfl, fd_add_tuple (small_line (by simp; omega)) (am_nil ?_)⟩)))))))))))))))
            rw [show u.map PyData.int ++ [PyData.int (i : Nat)] = (u ++ [(i : Int)]).map PyData.int by simp]
            refine kd_sorted_tuple (hr.units) (sorts_int (small_line (by simp; omega))) (am_nil (kd_tuple_list ?_))
            refine am_cons (em_var 7 rfl (am_nil ⟨small_line (by simp), rfl, am_nil ⟨small_line (by simp), rfl, _, rfl, rfl, Nat.lt_of_le_of_lt le (by rw [sizeLine_eq]; omega), ?_⟩⟩))
            have e1 : nx1 h u r i = some ((i : Int), ins u i, l) := by unfold nx1; rw [if_pos ⟨hne, hni⟩, el]; rfl
            have e2 : ((List.range (i + 1)).filterMap (nx1 h u r)).map nxD = ((List.range i).filterMap (nx1 h u r)).map nxD ++ [nxD ((i : Int), ins u i, l)] := by
              rw [List.range_succ, List.filterMap_append, List.filterMap_cons_some e1, List.filterMap_nil, List.map_append]
              rfl
            have e3 : nxD ((i : Int), ins u i, l) = .tuple [.int (i : Nat), .tuple [.tuple (((u ++ [(i : Int)]).mergeSort (PySem.W.dataLe false PyData.int)).map PyData.int), loD (some l)]] := by
              rw [dle_int]
              rfl
            refine ⟨.va (.int (i : Nat)), .va (tx (shr h i)), .va (loD (some l)), ?_⟩
            rw [e2, e3]
            rfl
        · rw [loD_none] at k3
          have el : lo r (shr h i) = none := by
            cases el : lo r (shr h i) with
            | none => rfl
            | some l => rw [el] at k3; cases k3
          exact sk (by unfold nx1; rw [el]; simp) _ _ _
      · have hni : (i : Int) ∈ u := by
          rw [any_ints] at k2
          simpa using k2
        exact sk (by unfold nx1; rw [if_neg fun z => z.2 hni]) _ _ _
    · have hne : r = [] := by
        rw [S_nil] at k1
        simpa using k1
      exact sk (by unfold nx1; rw [if_neg fun z => z.1 hne]) _ _ _
  · rintro ρ2 ⟨s5, s6, s7, rfl⟩
    refine sd_one (s1_retOwn 4 rfl (FinP.va (ds := [hpD h, stD u r]) ?_))
    rw [enumD_len, List.length_map]
    exact q
end

/-! ### what is known of standings -/
def stKs (u : List Int) (r : List Nat) : List NestedKey := [.tup (u.map .num), .text (S r)]
def stK (u : List Int) (r : List Nat) : NestedKey := .tup (stKs u r)
theorem datas_nums : ∀ u : List Int, NestedKey.datas (u.map .num) = u.map PyData.int
  | [] => rfl
  | x :: u => by rw [List.map_cons, NestedKey.datas, datas_nums u]; rfl
theorem stK_data (u : List Int) (r : List Nat) : stD u r = (NestedKey.tup (stKs u r)).data := by
  show _ = PyData.tuple [.tuple (NestedKey.datas (u.map .num)), .str (S r)]
  rw [datas_nums]
  rfl
theorem depth_nums : ∀ u : List Int, NestedKey.depthAll (u.map .num) = 0
  | [] => rfl
  | x :: u => by rw [List.map_cons, NestedKey.depthAll, depth_nums u]; rfl
theorem stK_depth (u : List Int) (r : List Nat) : (NestedKey.tup (stKs u r)).depth ≤ 8 := by
  show max (NestedKey.depthAll (u.map .num) + 1) (max 0 0) + 1 ≤ 8
  rw [depth_nums]
  decide
theorem nums_inj {a b : List Int} (h : a.map NestedKey.num = b.map NestedKey.num) : a = b := (List.map_inj_right fun _ _ e => NestedKey.num.inj e).mp h
theorem stK_inj {u u' : List Int} {r r' : List Nat} (h : stK u r = stK u' r') : u = u' ∧ r = r' := by
  have h2 := NestedKey.tup.inj h
  simp only [stKs, List.cons.injEq, NestedKey.tup.injEq, NestedKey.text.injEq, and_true] at h2
  exact ⟨nums_inj h2.1, S_inj.mp h2.2⟩
structure KnOk (h : List (List Nat)) (val : List Int → List Nat → D) (kvs : List (NestedKey × D)) : Prop where
  nd : (kvs.map (·.1)).Nodup
  ok : ∀ x ∈ kvs, ∃ u r, VS h u r ∧ x = (stK u r, val u r)
theorem KnOk.nil {h : List (List Nat)} {val : List Int → List Nat → D} : KnOk h val [] := ⟨List.nodup_nil, fun _ m => absurd m List.not_mem_nil⟩
theorem KnOk.val {h : List (List Nat)} {val : List Int → List Nat → D} {kvs : List (NestedKey × D)} (k : KnOk h val kvs) {u : List Int} {r : List Nat} {d : D} (e : valD kvs (stK u r) = some d) : d = val u r := by
  unfold valD fnd at e
  obtain ⟨x, hx, rfl⟩ := Option.map_eq_some_iff.mp e
  have m := List.mem_of_find?_eq_some hx
  have q := of_decide_eq_true (List.find?_some (p := fun x : NestedKey × D => decide (x.1 = stK u r)) hx)
  obtain ⟨u', r', _, e2⟩ := k.ok x m
  rw [e2] at q ⊢
  obtain ⟨rfl, rfl⟩ := stK_inj q
  rfl
theorem KnOk.put {h : List (List Nat)} {val : List Int → List Nat → D} {kvs : List (NestedKey × D)} (k : KnOk h val kvs) {u : List Int} {r : List Nat} (v : VS h u r) : KnOk h val (putD kvs (stK u r) (val u r)) := by
  refine ⟨putD_nodup k.nd, fun x m => ?_⟩
  cases e : valD kvs (stK u r) with
  | none =>
    rw [putD_new e] at m
    rcases List.mem_append.mp m with m | m
    · exact k.ok x m
    · exact ⟨u, r, v, List.mem_singleton.mp m⟩
  | some d =>
    unfold putD ptb at m
    unfold valD at e
    obtain ⟨y, hy, _⟩ := Option.map_eq_some_iff.mp e
    rw [hy] at m
    rw [if_pos (show (some y).isSome = true from rfl)] at m
    obtain ⟨z, mz, e2⟩ := List.mem_map.mp m
    split at e2
    · rename_i c
      exact ⟨u, r, v, by rw [← e2]; exact Prod.ext c rfl⟩
    · rw [← e2]
      exact k.ok z mz
theorem KnOk.small {h : List (List Nat)} {val : List Int → List Nat → D} {kvs : List (NestedKey × D)} (k : KnOk h val kvs) (s : Small h) : kvs.length < sizeLine := by
  have h1 := nodup_le (kvs.map (·.1)) ((allS h).map fun p => stK p.1 p.2) k.nd fun x m => by
    obtain ⟨y, my, rfl⟩ := List.mem_map.mp m
    obtain ⟨u, r, v, e⟩ := k.ok y my
    exact List.mem_map.mpr ⟨(u, r), mem_allS s v, by rw [e]⟩
  have h2 := allS_len s
  rw [List.length_map, List.length_map] at h1
  rw [sizeLine_eq]
  omega
/-- a def of a heap, a standing and what is known: its worth, the known behind it -/
def sp_known (w : World) (val : List (List Nat) → List Int → List Nat → D) (n : Nat) : DSp := fun ss Q _ => ∃ h u r p kvs, ss = [.va (hpD h), .va (stD u r), .mo p (.dn w p kvs)] ∧ Small h ∧ VS h u r ∧ rm h u ≤ n ∧ KnOk h (val h) kvs ∧
  ∀ kvs', KnOk h (val h) kvs' → Q false (val h u r) [.va (hpD h), .va (stD u r), .mo p (.dn w p kvs')]
theorem FinP.three {a b : D} {p : Addr} {m m' : MO} {Q : Bool → D → List Sl → Prop} {d : D} {ρ : List Sl} (h2 : ρ[2]? = some (.mo p m')) (q : Q false d [.va a, .va b, .mo p m']) : FinP [.va a, .va b, .mo p m] Q false d ρ := by
  refine ⟨[.va a, .va b, .mo p m'], ⟨rfl, fun i s e => ?_⟩, q, fun z => nomatch z⟩
  match i, e with
  | 0, e => cases e; exact .inl ⟨rfl, _, rfl⟩
  | 1, e => cases e; exact .inl ⟨rfl, _, rfl⟩
  | 2, e => cases e; exact .inr ⟨p, m, m', rfl, rfl, h2⟩
section
variable {P : Program} {w : World} {K : PySem.W.Frag} {mg : Str → Option Value} {base : Heap}
def wysD (h : List (List Nat)) (u : List Int) (r : List Nat) : D := .int (wys h u r)
theorem boot_int : bootBuiltins "int" = some (.type "int") := by decide +kernel
end

theorem addS_S (ks : List (List Nat)) (k : List Nat) : addS (ks.map S) (S k) = (addL ks k).map S := by
  unfold addS addL
  have e : (S k ∈ ks.map S) ↔ k ∈ ks := by
    rw [List.mem_map]
    exact ⟨fun ⟨x, m, e⟩ => S_inj.mp e ▸ m, fun m => ⟨k, m, rfl⟩⟩
  by_cases h : k ∈ ks
  · rw [if_pos (e.mpr h), if_pos h]
  · rw [if_neg fun z => h (e.mp z), if_neg h, List.map_append]
    rfl
section
variable {P : Program} {w : World} {K : PySem.W.Frag} {mg : Str → Option Value} {base : Heap}
def canD (h : List (List Nat)) (u : List Int) (r : List Nat) : D := .bool (can h u r)
theorem ok_can_end {f : Addr} {fd : FuncData} (B : Bare mg) (c1 : Cal P w K mg base "next_to" 2 ["heap", "standing"] sp_next_to) (c2 : Cal P w K mg base "is_end" 1 ["heap", "standing"] sp_is_end) (F : Fun K "can_end" "can_end" s_can_end f fd) (hm : mg "can_end" = some (.ref f)) (hb : Binds K fd ["heap", "standing", "known"] []) : ∀ n, Cal P w K mg base "can_end" (n + 3) ["heap", "standing", "known"] (sp_known w canD n) := by
  have step : ∀ n, (∀ m, n = m + 1 → Cal P w K mg base "can_end" (m + 3) ["heap", "standing", "known"] (sp_known w canD m)) → Cal P w K mg base "can_end" (n + 3) ["heap", "standing", "known"] (sp_known w canD n) := by
    intro n ih
    refine fn_ok F hm hb sc_can_end (by rintro ss P W ⟨_, _, _, _, _, rfl, _⟩; rfl) ?_
    rintro cdv A outer s H E hr ss Q W ⟨h, u, r, p, kvs, rfl, hs, hv, hn, hk, q⟩
    have hul : u.length ≤ 8 := Nat.le_trans (us_len hv.us) hs.len
    have hrl := sfx_le hs hv.sf
    have last : ∀ kvs', KnOk h (canD h) kvs' → (valD kvs' (stK u r)).isSome = true → ∀ s3, SD (cxOf (L2N.CX P w) P w K mg base N_can_end "can_end" (defScope s_can_end) f cdv A outer s H E) [(defBody s_can_end).getD 1 (.Pass ⟨0, 0, 0, 0⟩)] [.va (hpD h), .va (stD u r), .mo p (.dn w p kvs'), s3, .no, .no] W { nx := FinP [.va (hpD h), .va (stD u r), .mo p (.dn w p kvs)] Q false .none, rt := FinP [.va (hpD h), .va (stD u r), .mo p (.dn w p kvs)] Q } := by
      intro kvs' hk' hs' s3
      obtain ⟨d, hd⟩ := Option.isSome_iff_exists.mp hs'
      have e := hk'.val hd
      refine sd_one (s1_ret (em_nget 2 hr.units rfl (fun _ _ => rfl) (em_var 1 rfl ⟨kvs', _, d, stK_data u r, stK_depth u r, rfl, hd, FinP.three rfl ?_⟩)))
      rw [e]
      exact q kvs' hk'
    refine sd_cons (s1_if (tm_nnotin 2 hr.units (em_var 1 rfl ⟨p, kvs, _, stK_data u r, stK_depth u r, rfl, fun k1 => ?_, fun k1 => sd_nil ?_⟩)))
    · refine sd_cons (s1_set 3 sc_can_end.nd (vm_data (em_call c2 (hr.mono (by omega)) (am_cons (em_var 0 rfl (am_cons (em_var 1 rfl (am_nil ⟨W0, fun _ z => z.elim, h, u, r, rfl, ?_⟩))))))))
      have put : ∀ kvs', KnOk h (canD h) kvs' → (valD (putD kvs' (stK u r) (canD h u r)) (stK u r)).isSome = true := fun kvs' _ => by
        rw [valD_putD, if_pos rfl]
        rfl
      refine sd_one (s1_nset 2 hr.units (em_or (em_var 3 rfl ⟨_, rfl, fun ke => em_one (em_callB B.any_ boot_any (am_cons ?_)), fun ke => ?_⟩)))
      · refine em_lc (.tp [.nm 4, .nm 5]) [("place", 4), ("there", 5)] rfl sc_can_end.nd (blkOk_by (N := N_can_end) (sc := defScope s_can_end) (by decide +kernel)) (fun _ _ _ _ _ => pg_tp rfl (pgs_1 (pg_nm sc_can_end.nd) (pgs_1 (pg_nm sc_can_end.nd) pgs_0))) (by decide) ?_
        refine im_list (em_call c1 (hr.mono (by omega)) (am_cons (em_var 0 rfl (am_cons (em_var 1 rfl (am_nil ⟨W0, fun _ z => z.elim, h, u, r, rfl, hs, by omega, by omega, _, rfl, ?_⟩))))))
        refine ⟨fun i ys ρ => ∃ kvs', KnOk h (canD h) kvs' ∧ ρ = [.va (hpD h), .va (stD u r), .mo p (.dn w p kvs'), .va (.bool (isE h u r)), .no, .no] ∧ ys = ((nexts h u r).take i).map fun x => canD h x.2.1 x.2.2, ⟨kvs, hk, rfl, rfl⟩, ?_, ?_⟩
        · rintro i d ys ρ2 hd ⟨kvs', hk', rfl, rfl⟩
          rw [List.getElem?_map] at hd
          obtain ⟨x, hx, rfl⟩ := Option.map_eq_some_iff.mp hd
          have mx := List.mem_of_getElem? hx
          have nx := next_rm hv.us mx
          refine ⟨_, rfl, fun _ _ _ _ _ => ⟨fun _ _ _ _ _ _ => ?_, fun z => Bool.noConfusion z⟩⟩
          obtain ⟨m, rfl⟩ : ∃ m, n = m + 1 := ⟨n - 1, by omega⟩
          refine em_callM (ih m rfl) (hr.mono (by omega)) (zm_d (em_var 0 rfl (zm_d (em_var 5 rfl (zm_s 2 rfl (zm_nil ⟨⟨by simp [slotsOf], fun j hj => ?_⟩, ?_⟩))))))
          · have e : j = 2 := by simpa [slotsOf] using hj
            subst e
            exact ⟨p, _, rfl⟩
          · refine ⟨h, x.2.1, x.2.2, p, kvs', rfl, hs, next_vs hv mx, by omega, hk', fun kvs2 hk2 => ⟨rfl, ?_, kvs2, hk2, rfl, ?_⟩⟩
            · have l1 := nexts_len (h := h) (u := u) (r := r)
              have := hs.len
              rw [List.length_map, List.length_take, sizeLine_eq]
              omega
            · rw [List.take_add_one, hx, List.map_append]
              rfl
        · rintro ys ρ2 ⟨kvs', hk', rfl, rfl⟩
          rw [List.length_map, List.take_length]
          refine am_nil ?_
          have e1 : (nexts h u r).map (fun x => canD h x.2.1 x.2.2) = ((nexts h u r).map fun x => can h x.2.1 x.2.2).map PyData.bool := by rw [List.map_map]; rfl
          rw [e1]
          refine kd_any rfl ⟨p, kvs', rfl, em_var 1 rfl ⟨kvs', _, stK_data u r, stK_depth u r, rfl, hk'.small hs, ?_⟩⟩
          have e2 : ((nexts h u r).map fun x => can h x.2.1 x.2.2).any id = can h u r := by
            rw [can_eq hv.us, ke, Bool.false_or, List.any_map]
            rfl
          rw [e2]
          exact last _ (hk'.put hv) (put _ hk') _
      · refine ⟨p, kvs, rfl, em_var 1 rfl ⟨kvs, _, stK_data u r, stK_depth u r, rfl, hk.small hs, ?_⟩⟩
        have e2 : true = can h u r := by
          rw [can_eq hv.us, ke, Bool.true_or]
        rw [e2]
        exact last _ (hk.put hv) (put _ hk) _
    · have k1' : (valD kvs (stK u r)).isSome = true := by
        have : (!(valD kvs (stK u r)).isSome) = false := k1
        simpa using this
      exact last kvs hk k1' _
  intro n
  induction n with
  | zero => exact step 0 fun m e => by omega
  | succ n ih => exact step (n + 1) fun m e => (show m = n by omega) ▸ ih
def tlsD (h : List (List Nat)) (u : List Int) (r : List Nat) : D := dictD ((tls h u r).map S)
theorem ok_tails {f : Addr} {fd : FuncData} (B : Bare mg) (c1 : Cal P w K mg base "next_to" 2 ["heap", "standing"] sp_next_to) (c2 : Cal P w K mg base "is_end" 1 ["heap", "standing"] sp_is_end) (F : Fun K "tails" "tails" s_tails f fd) (hm : mg "tails" = some (.ref f)) (hb : Binds K fd ["heap", "standing", "known"] []) : ∀ n, Cal P w K mg base "tails" (n + 3) ["heap", "standing", "known"] (sp_known w tlsD n) := by
  have step : ∀ n, (∀ m, n = m + 1 → Cal P w K mg base "tails" (m + 3) ["heap", "standing", "known"] (sp_known w tlsD m)) → Cal P w K mg base "tails" (n + 3) ["heap", "standing", "known"] (sp_known w tlsD n) := by
    intro n ih
    refine fn_ok F hm hb sc_tails (by rintro ss P W ⟨_, _, _, _, _, rfl, _⟩; rfl) ?_
    rintro cdv A outer s H E hr ss Q W ⟨h, u, r, p, kvs, rfl, hs, hv, hn, hk, q⟩
    have hul : u.length ≤ 8 := Nat.le_trans (us_len hv.us) hs.len
    have hrl := sfx_le hs hv.sf
    have last : ∀ kvs', KnOk h (tlsD h) kvs' → (valD kvs' (stK u r)).isSome = true → ∀ s3 s4 s5 s6 s7 s8 s9, SD (cxOf (L2N.CX P w) P w K mg base N_tails "tails" (defScope s_tails) f cdv A outer s H E) [(defBody s_tails).getD 1 (.Pass ⟨0, 0, 0, 0⟩)] [.va (hpD h), .va (stD u r), .mo p (.dn w p kvs'), s3, s4, s5, s6, s7, s8, s9] W { nx := FinP [.va (hpD h), .va (stD u r), .mo p (.dn w p kvs)] Q false .none, rt := FinP [.va (hpD h), .va (stD u r), .mo p (.dn w p kvs)] Q } := by
      intro kvs' hk' hs' s3 s4 s5 s6 s7 s8 s9
      obtain ⟨d, hd⟩ := Option.isSome_iff_exists.mp hs'
      have e := hk'.val hd
      refine sd_one (s1_ret (em_nget 2 hr.units rfl (fun _ _ => rfl) (em_var 1 rfl ⟨kvs', _, d, stK_data u r, stK_depth u r, rfl, hd, FinP.three rfl ?_⟩)))
      rw [e]
      exact q kvs' hk'
    refine sd_cons (s1_if (tm_nnotin 2 hr.units (em_var 1 rfl ⟨p, kvs, _, stK_data u r, stK_depth u r, rfl, fun k1 => ?_, fun k1 => sd_nil ?_⟩)))
    · have main : ∀ pf, SD (cxOf (L2N.CX P w) P w K mg base N_tails "tails" (defScope s_tails) f cdv A outer s H E) ((match (defBody s_tails).getD 0 (.Pass ⟨0, 0, 0, 0⟩) with | .If _ b _ _ => b | _ => []).drop 1) [.va (hpD h), .va (stD u r), .mo p (.dn w p kvs), .mo pf (.dk ((if isE h u r then [[]] else ([] : List (List Nat))).map S)), .no, .no, .no, .no, .no, .no] W { nx := fun ρ1 => SD (cxOf (L2N.CX P w) P w K mg base N_tails "tails" (defScope s_tails) f cdv A outer s H E) [(defBody s_tails).getD 1 (.Pass ⟨0, 0, 0, 0⟩)] ρ1 W { nx := FinP [.va (hpD h), .va (stD u r), .mo p (.dn w p kvs)] Q false .none, rt := FinP [.va (hpD h), .va (stD u r), .mo p (.dn w p kvs)] Q }, rt := FinP [.va (hpD h), .va (stD u r), .mo p (.dn w p kvs)] Q } := by
        intro pf
        refine sd_cons (s1_unpack (.tp [.nm 4, .nm 5]) (pg_tp rfl (pgs_1 (pg_nm sc_tails.nd) (pgs_1 (pg_nm sc_tails.nd) pgs_0))) (em_var 1 rfl ⟨_, rfl, ?_⟩))
        refine sd_cons (s1_for (.tp [.nm 6, .nm 7]) (passes_of rfl) rfl (pg_tp rfl (pgs_1 (pg_nm sc_tails.nd) (pgs_1 (pg_nm sc_tails.nd) pgs_0))) (im_list (em_call c1 (hr.mono (by omega)) (am_cons (em_var 0 rfl (am_cons (em_var 1 rfl (am_nil ⟨W0, fun _ z => z.elim, h, u, r, rfl, hs, by omega, by omega, _, rfl, ?_⟩))))))))
        refine ⟨fun i ρ => ∃ kvs' s6 s7 s8 s9, KnOk h (tlsD h) kvs' ∧ ρ = [.va (hpD h), .va (stD u r), .mo p (.dn w p kvs'), .mo pf (.dk ((((nexts h u r).take i).foldl (tlsStep h r) (if isE h u r then [[]] else [])).map S)), .va (plD u), .va (tx r), s6, s7, s8, s9], ⟨kvs, _, _, _, _, hk, rfl⟩, ?_, ?_⟩
        · rintro i d ρ2 hd ⟨kvs', s6, s7, s8, s9, hk', rfl⟩
          rw [List.getElem?_map] at hd
          obtain ⟨x, hx, rfl⟩ := Option.map_eq_some_iff.mp hd
          have mx := List.mem_of_getElem? hx
          have nx := next_rm hv.us mx
          have ux := next_us hv.us mx
          obtain ⟨m0, m1, _⟩ := mem_nexts.mp mx
          obtain ⟨m, rfl⟩ : ∃ m, n = m + 1 := ⟨n - 1, by omega⟩
          have hsl := shr_le hs x.1
          refine ⟨_, rfl, ?_⟩
          refine sd_cons (s1_set 8 sc_tails.nd (vm_data (em_sl (em_ix (fun _ _ => rfl) (em_var 0 rfl (em_var 6 rfl (id_tuple (d := tx (shr h x.1)) (hp_at m0 m1) (om_some (em_callB B.len PySem.boot_len (am_cons (em_var 5 rfl (am_nil (kd_len_str (by rw [S_len]; exact small_line (by omega)) ⟨_, rfl, om_none (ld_str (by rw [S_len]; exact small_line (by omega)) ?_)⟩)))))))))))))
          rw [S_len, cutS_S, cut_drop]
          refine sd_one (s1_for (.nm 9) (passes_of rfl) rfl (pg_nm sc_tails.nd) (im_dict (em_callM (ih m rfl) (hr.mono (by omega)) (zm_d (em_var 0 rfl (zm_d (em_var 7 rfl (zm_s 2 rfl (zm_nil ⟨⟨by simp [slotsOf], fun j hj => ?_⟩, ?_⟩)))))))))
          · have e : j = 2 := by simpa [slotsOf] using hj
            subst e
            exact ⟨p, _, rfl⟩
          refine ⟨h, x.2.1, x.2.2, p, kvs', rfl, hs, next_vs hv mx, by omega, hk', fun kvs2 hk2 => ⟨_, rfl, ?_⟩⟩
          refine ⟨fun j ρ => ∃ s9, ρ = [.va (hpD h), .va (stD u r), .mo p (.dn w p kvs2), .mo pf (.dk ((addAll (fun t => (shr h x.1).drop r.length ++ t) (((nexts h u r).take i).foldl (tlsStep h r) (if isE h u r then [[]] else [])) ((tls h x.2.1 x.2.2).take j)).map S)), .va (plD u), .va (tx r), .va (.int x.1), .va (stD x.2.1 x.2.2), .va (tx ((shr h x.1).drop r.length)), s9], ⟨_, rfl⟩, ?_, ?_⟩
          · rintro j d ρ3 hd ⟨s9, rfl⟩
            rw [List.getElem?_map, List.getElem?_map] at hd
            obtain ⟨z, hz, rfl⟩ := Option.map_eq_some_iff.mp hd
            obtain ⟨t, ht, rfl⟩ := Option.map_eq_some_iff.mp hz
            have mt := List.mem_of_getElem? ht
            have tl := tls_short hs ux.1 mt
            refine ⟨_, rfl, sd_one (s1_kset 3 hr.units rfl (em_bin (em_var 8 rfl (em_var 9 rfl (fd_add_str ?_ ⟨_, _, rfl, rfl, ?_, ?_⟩)))))⟩
            · rw [S_len, S_len, List.length_drop]
              exact small_line (by omega)
            · have b1 := tlsFold_len (h := h) (r := r) (b := 40320) (l := (nexts h u r).take i) (acc := if isE h u r then [[]] else []) fun y my => tls_small hs (next_us hv.us (List.mem_of_mem_take my)).1
              have b2 := addAll_len (fun t => (shr h x.1).drop r.length ++ t) ((tls h x.2.1 x.2.2).take j) (((nexts h u r).take i).foldl (tlsStep h r) (if isE h u r then [[]] else []))
              have b3 := tls_small (r := x.2.2) hs ux.1
              have b4 : (if isE h u r then [[]] else ([] : List (List Nat))).length ≤ 1 := by split <;> simp
              have b5 : ((nexts h u r).take i).length ≤ 8 := by
                rw [List.length_take]
                have := nexts_len (h := h) (u := u) (r := r)
                have := hs.len
                omega
              have b6 := Nat.mul_le_mul_right 40320 b5
              rw [List.length_take] at b2
              rw [List.length_map, sizeLine_eq]
              omega
            · rw [S_app, addS_S]
              have e : addL (addAll (fun t => (shr h x.1).drop r.length ++ t) (((nexts h u r).take i).foldl (tlsStep h r) (if isE h u r then [[]] else [])) ((tls h x.2.1 x.2.2).take j)) ((shr h x.1).drop r.length ++ t) = addAll (fun t => (shr h x.1).drop r.length ++ t) (((nexts h u r).take i).foldl (tlsStep h r) (if isE h u r then [[]] else [])) ((tls h x.2.1 x.2.2).take (j + 1)) := by
                rw [List.take_add_one, ht]
                unfold addAll
                rw [List.foldl_append]
                rfl
              rw [e]
              exact ⟨_, rfl⟩
          · rintro ρ3 ⟨s9, rfl⟩
            rw [List.length_map, List.length_map, List.take_length, ← tlsStep_eq]
            have e : tlsStep h r (((nexts h u r).take i).foldl (tlsStep h r) (if isE h u r then [[]] else [])) x = ((nexts h u r).take (i + 1)).foldl (tlsStep h r) (if isE h u r then [[]] else []) := by
              rw [List.take_add_one, hx, List.foldl_append]
              rfl
            rw [e]
            exact ⟨kvs2, _, _, _, _, hk2, rfl⟩
        · rintro ρ2 ⟨kvs', s6, s7, s8, s9, hk', rfl⟩
          rw [List.length_map, List.take_length, ← tls_eq hv.us]
          refine sd_lock 3 rfl ?_
          refine sd_one (s1_nset 2 hr.units (em_var 3 rfl ⟨p, kvs', rfl, em_var 1 rfl ⟨kvs', _, stK_data u r, stK_depth u r, rfl, hk'.small hs, ?_⟩⟩))
          exact last _ (hk'.put hv) (by rw [valD_putD]; exact congrArg Option.isSome (if_pos rfl)) _ _ _ _ _ _ _
      refine sd_cons (s1_set 3 sc_tails.nd (vm_ite (tm_val (em_call c2 (hr.mono (by omega)) (am_cons (em_var 0 rfl (am_cons (em_var 1 rfl (am_nil ⟨W0, fun _ z => z.elim, h, u, r, rfl, ⟨_, rfl, fun ke => ?_, fun ke => ?_⟩⟩)))))))))
      · refine vm_dk1 fun pf => ?_
        have := main pf
        rw [ke] at this
        exact this
      · refine vm_newDk fun pf => ?_
        have := main pf
        rw [ke] at this
        exact this
    · have k1' : (valD kvs (stK u r)).isSome = true := by
        have : (!(valD kvs (stK u r)).isSome) = false := k1
        simpa using this
      exact last kvs hk k1' _ _ _ _ _ _ _
  intro n
  induction n with
  | zero => exact step 0 fun m e => by omega
  | succ n ih => exact step (n + 1) fun m e => (show m = n by omega) ▸ ih
end

def layKs (L : LY) : List NestedKey := [.tup (L.1.map .num), .tup (L.2.map .num)]
def layK (L : LY) : NestedKey := .tup (layKs L)
def lyD (L : LY) : D := .tuple [plD L.1, plD L.2]
theorem layK_data (L : LY) : lyD L = (layK L).data := by
  show _ = PyData.tuple [.tuple (NestedKey.datas (L.1.map .num)), .tuple (NestedKey.datas (L.2.map .num))]
  rw [datas_nums, datas_nums]
  rfl
theorem layK_depth (L : LY) : (NestedKey.tup (layKs L)).depth ≤ 8 := by
  show max (NestedKey.depthAll (L.1.map .num) + 1) (max (NestedKey.depthAll (L.2.map .num) + 1) 0) + 1 ≤ 8
  rw [depth_nums, depth_nums]
  decide
theorem layK_inj {L M : LY} (h : layK L = layK M) : L = M := by
  have h2 := NestedKey.tup.inj h
  simp only [layKs, List.cons.injEq, NestedKey.tup.injEq, and_true] at h2
  exact Prod.ext (nums_inj h2.1) (nums_inj h2.2)
def fdK (F : List LY) : List (NestedKey × D) := F.map fun L => (layK L, .bool true)
theorem fdK_put (F : List LY) (L : LY) : putD (fdK F) (layK L) (.bool true) = fdK (addN F L) := by
  have hm : (valD (fdK F) (layK L)).isSome = true ↔ L ∈ F := by
    rw [valD_isSome]
    unfold fdK
    rw [List.map_map, List.mem_map]
    exact ⟨fun ⟨M, m, e⟩ => layK_inj (show layK M = layK L from e) ▸ m, fun m => ⟨L, m, rfl⟩⟩
  unfold addN
  by_cases c : L ∈ F
  · rw [if_pos c]
    unfold putD ptb
    have : (fnd (fun x : NestedKey × D => x.1) (fdK F) (layK L)).isSome = true := by
      have := hm.mpr c
      unfold valD at this
      rwa [Option.isSome_map] at this
    rw [if_pos this]
    unfold fdK
    rw [List.map_map]
    refine List.map_congr_left fun M _ => ?_
    simp only [Function.comp]
    split <;> rfl
  · rw [if_neg c, putD_new]
    · unfold fdK
      rw [List.map_append]
      rfl
    · cases e : valD (fdK F) (layK L) with
      | none => rfl
      | some d => exact absurd (hm.mp (by rw [e]; rfl)) c
def enD (e : EN4) : D := .tuple [stD e.1 e.2.1, plD e.2.2.1, plD e.2.2.2]
theorem strOk_S {r : List Nat} (h : ∀ c ∈ r, c < 0x110000) : PyData.strOk (S r) = true := by
  unfold PyData.strOk S
  rw [← Array.all_toList]
  simp only [List.all_eq_true, decide_eq_true_eq]
  exact fun c m => h c (by simpa using m)
theorem lay_en {e : EN4} (h : ∀ c ∈ e.2.1, c < 0x110000) : PyData.canLay0 (enD e) = true := by
  have h1 : PyData.canLay0 (.str (S e.2.1)) = true := by rw [PyData.canLay0]; exact strOk_S h
  simp only [enD, stD, plD, tx, PyData.canLay0, PyData.canLayAll0, lay_ints, Bool.and_self, Bool.and_true, Bool.true_and] at h1 ⊢
  exact h1
theorem depth_en (e : EN4) : PyData.depth (enD e) ≤ 3 := by
  simp only [enD, stD, plD, tx, PyData.depth, PyData.depthAll, PySem.W.depth_ints]
  decide
theorem shaped_ens {st : List EN4} (h : ∀ e ∈ st, ∀ c ∈ e.2.1, c < 0x110000) : SeqAt.shaped (.list (st.map enD)) = true := by
  unfold SeqAt.shaped
  have a : ∀ st : List EN4, (∀ e ∈ st, ∀ c ∈ e.2.1, c < 0x110000) → PyData.canLayAll0 (st.map enD) = true ∧ PyData.depthAll (st.map enD) ≤ 3 := by
    intro st
    induction st with
    | nil => intro _; exact ⟨by simp [PyData.canLayAll0], by simp [PyData.depthAll]⟩
    | cons e st ih =>
      intro h
      obtain ⟨i1, i2⟩ := ih fun x m => h x (List.mem_cons_of_mem _ m)
      rw [List.map_cons, PyData.canLayAll0, lay_en (h e List.mem_cons_self), i1, PyData.depthAll]
      have := depth_en e
      exact ⟨rfl, by omega⟩
  obtain ⟨a1, a2⟩ := a st h
  rw [PyData.canLay0, a1, PyData.depth]
  simp only [Bool.true_and, decide_eq_true_eq]
  omega
theorem Hv.ne {h : List (List Nat)} (v : Hv h) : ∀ s ∈ h, s ≠ [] := fun s m e => by
  have := (v.each s m).1
  rw [e] at this
  exact absurd this (by decide)
theorem lett_lt : ∀ c ∈ lettersL, c < 0x110000 := by decide
theorem Hv.sfx {h : List (List Nat)} (v : Hv h) {r : List Nat} (s : Sfx h r) : ∀ c ∈ r, c < 0x110000 := by
  obtain ⟨s, hs, k, rfl⟩ := s
  exact fun c m => lett_lt c ((v.each s hs).2.2 c (List.mem_of_mem_drop m))
theorem texts_sorted (l : List (List Nat)) : ((l.map S).mergeSort (PySem.W.dataLe false PyData.str)).map PyData.str = (l.mergeSort fun a b => decide (a ≤ b)).map tx := by
  rw [dle_str]
  have : (l.map S).mergeSort (fun a b => decide (a.cps.toList ≤ b.cps.toList)) = (l.mergeSort fun a b => decide (a ≤ b)).map S := by
    symm
    refine List.map_mergeSort fun a _ b _ => ?_
    simp [S]
  rw [this, List.map_map]
  rfl
theorem textsFold_len {h : List (List Nat)} (s : Small h) : ∀ {l : List (List Int × List Nat)} {acc : List (List Nat)}, (∀ b ∈ l, b ∈ begins h) → (l.foldl (fun acc b => (tls h b.1 b.2).foldl (fun acc t => addL acc (b.2 ++ t)) acc) acc).length ≤ acc.length + l.length * 40320
  | [], acc, _ => by simp
  | b :: l, acc, sub => by
    rw [List.foldl_cons]
    have i := textsFold_len s (l := l) (acc := (tls h b.1 b.2).foldl (fun acc t => addL acc (b.2 ++ t)) acc) fun x m => sub x (List.mem_cons_of_mem _ m)
    have h1 := addAll_len (fun t => b.2 ++ t) (tls h b.1 b.2) acc
    have h2 := tls_small (r := b.2) s (begin_vs (sub b List.mem_cons_self)).1.us
    have h3 : ((tls h b.1 b.2).foldl (fun acc t => addL acc (b.2 ++ t)) acc) = addAll (fun t => b.2 ++ t) acc (tls h b.1 b.2) := rfl
    rw [h3] at i ⊢
    rw [List.length_cons, Nat.succ_mul]
    omega
theorem begins_len (h : List (List Nat)) : (begins h).length = h.length := by simp [begins]
def txStep (h : List (List Nat)) (acc : List (List Nat)) (b : List Int × List Nat) : List (List Nat) := (tls h b.1 b.2).foldl (fun acc t => addL acc (b.2 ++ t)) acc
theorem rm_begin {h : List (List Nat)} {b : List Int × List Nat} (s : Small h) (m : b ∈ begins h) : rm h b.1 ≤ 7 := by
  have := (begin_vs m).2
  have := s.len
  unfold rm
  omega
section
variable {P : Program} {w : World} {K : PySem.W.Frag} {mg : Str → Option Value} {base : Heap}
def sp_texts : DSp := fun ss Q _ => ∃ h, ss = [.va (hpD h)] ∧ Hv h ∧ Q true (.list (((textsU h).mergeSort fun a b => decide (a ≤ b)).map tx)) ss
theorem ok_texts {f : Addr} {fd : FuncData} (B : Bare mg) (c0 : Cal P w K mg base "need_heap" 4 ["heap"] sp_need_heap) (c1 : Cal P w K mg base "all_beginnings" 1 ["heap"] sp_all_beginnings) (c2 : Cal P w K mg base "tails" (7 + 3) ["heap", "standing", "known"] (sp_known w tlsD 7)) (F : Fun K "texts" "texts" s_texts f fd) (hm : mg "texts" = some (.ref f)) (hb : Binds K fd ["heap"] []) : Cal P w K mg base "texts" 11 ["heap"] sp_texts := by
  refine fn_ok F hm hb sc_texts (by rintro ss P W ⟨_, rfl, _⟩; rfl) ?_
  rintro cdv A outer s H E hr ss Q W ⟨h, rfl, hv, q⟩
  have hs := hv.small
  refine sd_cons (s1_expr (em_call c0 (hr.mono (by decide)) (am_cons (em_var 0 rfl (am_nil ⟨W0, fun _ z => z.elim, h, rfl, hv, ?_⟩)))))
  refine sd_cons (s1_par2 1 2 rfl sc_texts.nd (lm_cons (vm_newDn fun p1 => lm_cons (vm_newDk fun p2 => lm_nil ⟨_, _, rfl, ?_⟩))))
  refine sd_cons (s1_for (.nm 3) (passes_of rfl) rfl (pg_nm sc_texts.nd) (im_list (em_call c1 (hr.mono (by decide)) (am_cons (em_var 0 rfl (am_nil ⟨W0, fun _ z => z.elim, h, rfl, hs, _, rfl, ?_⟩))))))
  refine ⟨fun i ρ => ∃ kvs s3 s4, KnOk h (tlsD h) kvs ∧ ρ = [.va (hpD h), .mo p1 (.dn w p1 kvs), .mo p2 (.dk ((((begins h).take i).foldl (txStep h) []).map S)), s3, s4], ⟨[], _, _, KnOk.nil, rfl⟩, ?_, ?_⟩
  · rintro i d ρ2 hd ⟨kvs, s3, s4, hk, rfl⟩
    rw [List.getElem?_map] at hd
    obtain ⟨b, hbb, rfl⟩ := Option.map_eq_some_iff.mp hd
    have mb := List.mem_of_getElem? hbb
    have bv := begin_vs mb
    have b2l := sfx_le hs bv.1.sf
    refine ⟨_, rfl, ?_⟩
    refine sd_one (s1_for (.nm 4) (passes_of rfl) rfl (pg_nm sc_texts.nd) (im_dict (em_callM c2 (hr.mono (by decide)) (zm_d (em_var 0 rfl (zm_d (em_var 3 rfl (zm_s 1 rfl (zm_nil ⟨⟨by simp [slotsOf], fun j hj => ?_⟩, ?_⟩)))))))))
    · have e : j = 1 := by simpa [slotsOf] using hj
      subst e
      exact ⟨p1, _, rfl⟩
    refine ⟨h, b.1, b.2, p1, kvs, rfl, hs, bv.1, rm_begin hs mb, hk, fun kvs2 hk2 => ⟨_, rfl, ?_⟩⟩
    refine ⟨fun j ρ => ∃ s4, ρ = [.va (hpD h), .mo p1 (.dn w p1 kvs2), .mo p2 (.dk ((addAll (fun t => b.2 ++ t) (((begins h).take i).foldl (txStep h) []) ((tls h b.1 b.2).take j)).map S)), .va (stD b.1 b.2), s4], ⟨_, rfl⟩, ?_, ?_⟩
    · rintro j d ρ3 hd ⟨s4, rfl⟩
      rw [List.getElem?_map, List.getElem?_map] at hd
      obtain ⟨z, hz, rfl⟩ := Option.map_eq_some_iff.mp hd
      obtain ⟨t, ht, rfl⟩ := Option.map_eq_some_iff.mp hz
      have mt := List.mem_of_getElem? ht
      have tl := tls_short hs bv.1.us mt
      refine ⟨_, rfl, sd_one (s1_kset 2 hr.units rfl (em_bin (em_ix (fun _ _ => rfl) (em_var 3 rfl (em_int (id_tuple (d := tx b.2) rfl (em_var 4 rfl (fd_add_str ?_ ⟨_, _, rfl, rfl, ?_, ?_⟩))))))))⟩
      · rw [S_len, S_len]
        exact small_line (by omega)
      · have b1 := textsFold_len hs (l := (begins h).take i) (acc := []) fun y my => List.mem_of_mem_take my
        have b2 := addAll_len (fun t => b.2 ++ t) ((tls h b.1 b.2).take j) (((begins h).take i).foldl (txStep h) [])
        have b3 := tls_small (r := b.2) hs bv.1.us
        have b5 : ((begins h).take i).length ≤ 8 := by
          rw [List.length_take, begins_len]
          have := hs.len
          omega
        have b6 := Nat.mul_le_mul_right 40320 b5
        rw [List.length_take] at b2
        have b7 : (((begins h).take i).foldl (txStep h) []).length ≤ ([] : List (List Nat)).length + ((begins h).take i).length * 40320 := b1
        rw [List.length_nil] at b7
        rw [List.length_map, sizeLine_eq]
        omega
      · rw [S_app, addS_S]
        have e : addL (addAll (fun t => b.2 ++ t) (((begins h).take i).foldl (txStep h) []) ((tls h b.1 b.2).take j)) (b.2 ++ t) = addAll (fun t => b.2 ++ t) (((begins h).take i).foldl (txStep h) []) ((tls h b.1 b.2).take (j + 1)) := by
          rw [List.take_add_one, ht]
          unfold addAll
          rw [List.foldl_append]
          rfl
        rw [e]
        exact ⟨_, rfl⟩
    · rintro ρ3 ⟨s4, rfl⟩
      rw [List.length_map, List.length_map, List.take_length]
      have e : addAll (fun t => b.2 ++ t) (((begins h).take i).foldl (txStep h) []) (tls h b.1 b.2) = ((begins h).take (i + 1)).foldl (txStep h) [] := by
        rw [List.take_add_one, hbb, List.foldl_append]
        rfl
      rw [e]
      exact ⟨kvs2, _, _, hk2, rfl⟩
  · rintro ρ2 ⟨kvs, s3, s4, hk, rfl⟩
    rw [List.length_map, List.take_length]
    have e : (begins h).foldl (txStep h) [] = textsU h := rfl
    rw [e]
    have hl : (textsU h).length ≤ 1000000 := by
      have b1 := textsFold_len hs (l := begins h) (acc := []) fun y my => my
      have b7 : (textsU h).length ≤ ([] : List (List Nat)).length + (begins h).length * 40320 := b1
      have := hs.len
      have b6 := Nat.mul_le_mul_right 40320 this
      rw [begins_len, List.length_nil] at b7
      omega
    refine sd_one (s1_ret (em_sortedK 2 rfl hr.units B.sorted_ rfl (sorts_str (by rw [List.length_map]; exact small_line hl)) (FinP.va (ds := [hpD h]) ?_)))
    rw [texts_sorted]
    exact q
def sp_how_many : DSp := fun ss Q _ => ∃ h, ss = [.va (hpD h)] ∧ Hv h ∧ Q false (.int ((manyW h / 2 : Nat) : Int)) ss
end

theorem alike_ly (L M : LY) : PySem.W.alike (lyD L) (lyD M) = true := by
  simp [lyD, plD, PySem.W.alike, PySem.W.alikeAll, PySem.W.alike_ints]
theorem depth_ly (L : LY) : PyData.depth (lyD L) ≤ 2 := by
  simp only [lyD, plD, PyData.depth, PyData.depthAll, PySem.W.depth_ints]
  decide
theorem sorts_ly {F : List LY} (h : F.length ≤ sizeLine) : Sorts lyD F := ⟨PySem.W.AllAlike.of alike_ly, PySem.W.Sortable.tuples fun L => ⟨_, _, rfl⟩, fun L _ => Nat.le_trans (depth_ly L) (by decide), h⟩
/-- the layings of a heap, told in order -/
def laysOf (h : List (List Nat)) (Ls : List LY) : Prop := ∃ F : List LY, F.Nodup ∧ (∀ L, L ∈ F ↔ isNL h L) ∧ Ls = F.mergeSort (PySem.W.dataLe false lyD)
theorem shaped_lys (Ls : List LY) : SeqAt.shaped (.list (Ls.map lyD)) = true := by
  unfold SeqAt.shaped
  have a : PyData.canLayAll0 (Ls.map lyD) = true ∧ PyData.depthAll (Ls.map lyD) ≤ 2 := by
    induction Ls with
    | nil => exact ⟨by simp [PyData.canLayAll0], by simp [PyData.depthAll]⟩
    | cons L Ls ih =>
      obtain ⟨i1, i2⟩ := ih
      have h1 : PyData.canLay0 (lyD L) = true := by simp [lyD, plD, PyData.canLay0, PyData.canLayAll0, lay_ints]
      rw [List.map_cons, PyData.canLayAll0, h1, i1, PyData.depthAll]
      have := depth_ly L
      exact ⟨rfl, by omega⟩
  rw [PyData.canLay0, a.1, PyData.depth]
  have := a.2
  simp only [Bool.true_and, decide_eq_true_eq]
  omega
section
variable {P : Program} {w : World} {K : PySem.W.Frag} {mg : Str → Option Value} {base : Heap}
def sp_layings_of : DSp := fun ss Q _ => ∃ h, ss = [.va (hpD h)] ∧ Hv h ∧ ∀ Ls, laysOf h Ls → Q true (.list (Ls.map lyD)) ss
theorem EnOk.len {h : List (List Nat)} {e : EN4} (ok : EnOk h e) (s : Small h) : e.2.2.1.length ≤ 8 ∧ e.2.2.2.length ≤ 8 ∧ PlacesOk h e.2.2.1 ∧ PlacesOk h e.2.2.2 := by
  have h1 := ok.pm.length_eq
  have h2 := us_len ok.vs.us
  have := s.len
  rw [List.length_append] at h1
  exact ⟨by omega, by omega, fun i m => ok.vs.us.ok i (ok.pm.mem_iff.mp (List.mem_append_left _ m)), fun i m => ok.vs.us.ok i (ok.pm.mem_iff.mp (List.mem_append_right _ m))⟩
theorem ok_layings_of {f : Addr} {fd : FuncData} (B : Bare mg) (c1 : Cal P w K mg base "all_beginnings" 1 ["heap"] sp_all_beginnings) (c2 : Cal P w K mg base "is_end" 1 ["heap", "standing"] sp_is_end) (c3 : Cal P w K mg base "next_to" 2 ["heap", "standing"] sp_next_to) (c4 : Cal P w K mg base "can_end" (8 + 3) ["heap", "standing", "known"] (sp_known w canD 8)) (c5 : Cal P w K mg base "joined" 1 ["heap", "places"] sp_joined) (F : Fun K "layings_of" "layings_of" s_layings_of f fd) (hm : mg "layings_of" = some (.ref f)) (hb : Binds K fd ["heap"] []) : Cal P w K mg base "layings_of" 12 ["heap"] sp_layings_of := by
  refine fn_ok F hm hb sc_layings_of (by rintro ss P W ⟨_, rfl, _⟩; rfl) ?_
  rintro cdv A outer s H E hr ss Q W ⟨h, rfl, hv, q⟩
  have hs := hv.small
  refine sd_cons (s1_par2 1 2 rfl sc_layings_of.nd (lm_cons (vm_newDn fun p1 => lm_cons (vm_newDn fun p2 => lm_nil ⟨_, _, rfl, ?_⟩))))
  refine sd_cons (s1_setFm 3 (.nm 4) [("standing", 4)] rfl sc_layings_of.nd (blkOk_by (N := N_layings_of) (sc := defScope s_layings_of) (by decide +kernel)) (fun _ _ _ _ _ => pg_nm sc_layings_of.nd) (by decide) (.map (fun b : List Int × List Nat => stD b.1 b.2) (fun b => enD (b.1, b.2, b.1, [])) (im_list (em_call c1 (hr.mono (by decide)) (am_cons (em_var 0 rfl (am_nil ⟨W0, fun _ z => z.elim, h, rfl, hs, _, rfl, begins h, rfl, small_line (by have := hs.len; rw [begins_len]; omega), fun b mb => ⟨_, rfl, fun _ _ _ _ _ => ?_⟩, fun p3 => ?_⟩)))))))
  · refine em_tup (am_cons (em_var 4 rfl (am_cons (em_ix (fun _ _ => rfl) (em_var 4 rfl (em_int (id_tuple (d := plD b.1) rfl (am_cons (em_tup (am_nil ⟨small_line (by simp), rfl, am_nil ⟨small_line (by simp), rfl, rfl, rfl⟩⟩))))))))))
  have e0 : (begins h).map (fun b => enD (b.1, b.2, b.1, [])) = (startE h).map enD := by unfold startE; rw [List.map_map]; rfl
  rw [e0]
  refine sd_cons (s1_while (passes_of rfl) (fun n ρ => ∃ st Fo kvs s4 s5 s6 s7 s8, StOk h st Fo ∧ mea h st = n ∧ KnOk h (canD h) kvs ∧ ρ = [.va (hpD h), .mo p1 (.dn w p1 (fdK Fo)), .mo p2 (.dn w p2 kvs), .mo p3 (.lst (st.map enD)), s4, s5, s6, s7, s8]) (mea h (startE h)) ⟨startE h, [], [], _, _, _, _, _, StOk.start hs hv.ne, rfl, KnOk.nil, rfl⟩ ?_)
  rintro n ρ ⟨st, Fo, kvs, s4, s5, s6, s7, s8, so, rfl, hk, rfl⟩
  have shp : SeqAt.shaped (.list (st.map enD)) = true := shaped_ens fun e me => hv.sfx (so.ok e me).vs.sf
  refine tm_view 3 rfl (fz_lst _) (tm_cmp (nomark _) (em_var 3 rfl (em_lst (am_nil ⟨small_line (by simp), rfl, fd_ne hr.units shp (by decide) ⟨_, rfl, fun k1 => ?_, fun k1 => ?_⟩⟩))))
  · have ne0 : st ≠ [] := by
      rintro rfl
      simp [PyData.eqv, PyData.eqvAll] at k1
    obtain ⟨st', e, rfl⟩ : ∃ st' e, st = st' ++ [e] := ⟨st.dropLast, st.getLast ne0, (List.dropLast_concat_getLast ne0).symm⟩
    have oe := so.ok e (List.mem_append_right _ (List.mem_singleton.mpr rfl))
    obtain ⟨la, lb, pa, pb⟩ := oe.len hs
    obtain ⟨so', less⟩ := so.step
    have ul : e.1.length ≤ 8 := Nat.le_trans (us_len oe.vs.us) hs.len
    have rl := sfx_le hs oe.vs.sf
    have me := so.me
    refine sd_cons (s1_unpack (.tp [.nm 4, .nm 5, .nm 6]) (pg_tp rfl (pgs_1 (pg_nm sc_layings_of.nd) (pgs_1 (pg_nm sc_layings_of.nd) (pgs_1 (pg_nm sc_layings_of.nd) pgs_0)))) (em_pop (ds := st'.map enD) (d := enD e) 3 (by rw [List.map_append]; rfl) ⟨_, rfl, ?_⟩))
    -- the rest of a turn, whatever was found
    have rest : ∀ Fo', Fo' = (if isE h e.1 e.2.1 = true then addN Fo (nrm (e.2.2.1, e.2.2.2)) else Fo) → SD (cxOf (L2N.CX P w) P w K mg base N_layings_of "layings_of" (defScope s_layings_of) f cdv A outer s H E) ((match (defBody s_layings_of).getD 2 (.Pass ⟨0, 0, 0, 0⟩) with | .While _ b _ _ => b | _ => []).drop 2) [.va (hpD h), .mo p1 (.dn w p1 (fdK Fo')), .mo p2 (.dn w p2 kvs), .mo p3 (.lst (st'.map enD)), .va (stD e.1 e.2.1), .va (plD e.2.2.1), .va (plD e.2.2.2), s7, s8] W { nx := fun ρ3 => ∃ n', n' < mea h (st' ++ [e]) ∧ ∃ st Fo kvs s4 s5 s6 s7 s8, StOk h st Fo ∧ mea h st = n' ∧ KnOk h (canD h) kvs ∧ ρ3 = [.va (hpD h), .mo p1 (.dn w p1 (fdK Fo)), .mo p2 (.dn w p2 kvs), .mo p3 (.lst (st.map enD)), s4, s5, s6, s7, s8], ct := fun ρ3 => ∃ n', n' < mea h (st' ++ [e]) ∧ ∃ st Fo kvs s4 s5 s6 s7 s8, StOk h st Fo ∧ mea h st = n' ∧ KnOk h (canD h) kvs ∧ ρ3 = [.va (hpD h), .mo p1 (.dn w p1 (fdK Fo)), .mo p2 (.dn w p2 kvs), .mo p3 (.lst (st.map enD)), s4, s5, s6, s7, s8], bk := fun ρ1 => SD (cxOf (L2N.CX P w) P w K mg base N_layings_of "layings_of" (defScope s_layings_of) f cdv A outer s H E) [(defBody s_layings_of).getD 3 (.Pass ⟨0, 0, 0, 0⟩)] ρ1 W { nx := FinP [.va (hpD h)] Q false .none, rt := FinP [.va (hpD h)] Q }, rt := FinP [.va (hpD h)] Q } := by
      rintro Fo' rfl
      refine sd_one (s1_for (.tp [.nm 7, .nm 8]) (passes_of rfl) rfl (pg_tp rfl (pgs_1 (pg_nm sc_layings_of.nd) (pgs_1 (pg_nm sc_layings_of.nd) pgs_0))) (im_list (em_call c3 (hr.mono (by decide)) (am_cons (em_var 0 rfl (am_cons (em_var 4 rfl (am_nil ⟨W0, fun _ z => z.elim, h, e.1, e.2.1, rfl, hs, by omega, by omega, _, rfl, ?_⟩))))))))
      refine ⟨fun i ρ => ∃ kvs' s7 s8, KnOk h (canD h) kvs' ∧ ρ = [.va (hpD h), .mo p1 (.dn w p1 (fdK (if isE h e.1 e.2.1 = true then addN Fo (nrm (e.2.2.1, e.2.2.2)) else Fo))), .mo p2 (.dn w p2 kvs'), .mo p3 (.lst ((st' ++ kids h e ((nexts h e.1 e.2.1).take i)).map enD)), .va (stD e.1 e.2.1), .va (plD e.2.2.1), .va (plD e.2.2.2), s7, s8], ⟨kvs, _, _, hk, by rw [List.take_zero]; unfold kids; rw [List.filterMap_nil, List.append_nil]⟩, ?_, ?_⟩
      · rintro i d ρ2 hd ⟨kvs', s7, s8, hk', rfl⟩
        rw [List.getElem?_map] at hd
        obtain ⟨x, hx, rfl⟩ := Option.map_eq_some_iff.mp hd
        have mx := List.mem_of_getElem? hx
        have nx := next_rm oe.vs.us mx
        refine ⟨_, rfl, ?_⟩
        refine sd_one (s1_if (tm_val (em_callM c4 (hr.mono (by decide)) (zm_d (em_var 0 rfl (zm_d (em_var 8 rfl (zm_s 2 rfl (zm_nil ⟨⟨by simp [slotsOf], fun j hj => ?_⟩, ?_⟩)))))))))
        · have e : j = 2 := by simpa [slotsOf] using hj
          subst e
          exact ⟨p2, _, rfl⟩
        refine ⟨h, x.2.1, x.2.2, p2, kvs', rfl, hs, next_vs oe.vs mx, rm_le hs _, hk', fun kvs2 hk2 => ⟨_, rfl, fun k2 => ?_, fun k2 => ?_⟩⟩
        · have kid : kids h e ((nexts h e.1 e.2.1).take (i + 1)) = kids h e ((nexts h e.1 e.2.1).take i) ++ [newE h e.2.2.1 e.2.2.2 x] := by
            rw [List.take_add_one, hx]
            unfold kids
            rw [List.filterMap_append, Option.toList_some, List.filterMap_cons, if_pos k2, List.filterMap_nil]
          have llen : ((st' ++ kids h e ((nexts h e.1 e.2.1).take i)).map enD).length < sizeLine := by
            have m1 := mea_len (h := h) (st' ++ [e])
            have m2 : (kids h e ((nexts h e.1 e.2.1).take i)).length ≤ 8 := by
              unfold kids
              refine Nat.le_trans (List.length_filterMap_le _ _) ?_
              rw [List.length_take]
              have := nexts_len (h := h) (u := e.1) (r := e.2.1)
              have := hs.len
              omega
            rw [List.length_append] at m1
            rw [List.length_map, List.length_append, sizeLine_eq]
            simp only [List.length_cons, List.length_nil] at m1
            omega
          have ja := joinT_le hs e.2.2.1
          have jb := joinT_le hs e.2.2.2
          refine sd_one (s1_if (tm_cmp (nomark _) (em_callB B.len PySem.boot_len (am_cons (em_call c5 (hr.mono (by decide)) (am_cons (em_var 0 rfl (am_cons (em_var 5 rfl (am_nil ⟨W0, fun _ z => z.elim, h, e.2.2.1, rfl, hs, pa, by omega, am_nil (kd_len_str (by rw [S_len]; exact small_line (by omega)) ?_)⟩))))))))))
          refine em_callB B.len PySem.boot_len (am_cons (em_call c5 (hr.mono (by decide)) (am_cons (em_var 0 rfl (am_cons (em_var 6 rfl (am_nil ⟨W0, fun _ z => z.elim, h, e.2.2.2, rfl, hs, pb, by omega, am_nil (kd_len_str (by rw [S_len]; exact small_line (by omega)) (fd_gt ⟨_, rfl, fun k3 => ?_, fun k3 => ?_⟩))⟩)))))))
          · have ah : ahd h e.2.2.1 e.2.2.2 = true := by
              have := of_decide_eq_true k3
              rw [S_len, S_len] at this
              exact decide_eq_true (by omega)
            refine sd_one (s1_expr (em_append 3 rfl (em_tup (am_cons (em_var 8 rfl (am_cons (em_var 5 rfl (am_cons (em_bin (em_var 6 rfl (em_tup (am_cons (em_var 7 rfl (am_nil ⟨small_line (by simp), rfl, fd_add_tuple (small_line (by simp; omega)) (am_nil ⟨small_line (by simp), rfl, _, rfl, rfl, llen, kvs2, .va (.int x.1), .va (stD x.2.1 x.2.2), hk2, ?_⟩)⟩))))))))))))))
            have ek : enD (newE h e.2.2.1 e.2.2.2 x) = .tuple [stD x.2.1 x.2.2, plD e.2.2.1, .tuple (e.2.2.2.map PyData.int ++ [PyData.int x.1])] := by
              unfold newE
              rw [if_pos ah]
              simp [enD, plD]
            have e5 : (st' ++ kids h e ((nexts h e.1 e.2.1).take (i + 1))).map enD = (st' ++ kids h e ((nexts h e.1 e.2.1).take i)).map enD ++ [.tuple [stD x.2.1 x.2.2, plD e.2.2.1, .tuple (e.2.2.2.map PyData.int ++ [PyData.int x.1])]] := by
              rw [kid, ← List.append_assoc, List.map_append (l₁ := st' ++ kids h e ((nexts h e.1 e.2.1).take i)), List.map_cons, List.map_nil, ek]
            rw [e5]
            rfl
          · have ah : ¬ ahd h e.2.2.1 e.2.2.2 = true := by
              have := of_decide_eq_false k3
              rw [S_len, S_len] at this
              unfold ahd
              rw [decide_eq_true_eq]
              omega
            refine sd_one (s1_expr (em_append 3 rfl (em_tup (am_cons (em_var 8 rfl (am_cons (em_bin (em_var 5 rfl (em_tup (am_cons (em_var 7 rfl (am_nil ⟨small_line (by simp), rfl, fd_add_tuple (small_line (by simp; omega)) (am_cons (em_var 6 rfl (am_nil ⟨small_line (by simp), rfl, _, rfl, rfl, llen, kvs2, .va (.int x.1), .va (stD x.2.1 x.2.2), hk2, ?_⟩)))⟩))))))))))))
            have ek : enD (newE h e.2.2.1 e.2.2.2 x) = .tuple [stD x.2.1 x.2.2, .tuple (e.2.2.1.map PyData.int ++ [PyData.int x.1]), plD e.2.2.2] := by
              unfold newE
              rw [if_neg ah]
              simp [enD, plD]
            have e5 : (st' ++ kids h e ((nexts h e.1 e.2.1).take (i + 1))).map enD = (st' ++ kids h e ((nexts h e.1 e.2.1).take i)).map enD ++ [.tuple [stD x.2.1 x.2.2, .tuple (e.2.2.1.map PyData.int ++ [PyData.int x.1]), plD e.2.2.2]] := by
              rw [kid, ← List.append_assoc, List.map_append (l₁ := st' ++ kids h e ((nexts h e.1 e.2.1).take i)), List.map_cons, List.map_nil, ek]
            rw [e5]
            rfl
        · have kid : kids h e ((nexts h e.1 e.2.1).take (i + 1)) = kids h e ((nexts h e.1 e.2.1).take i) := by
            rw [List.take_add_one, hx]
            unfold kids
            rw [List.filterMap_append, Option.toList_some, List.filterMap_cons, if_neg (by rw [k2]; exact Bool.false_ne_true), List.filterMap_nil, List.append_nil]
          refine sd_nil ⟨kvs2, .va (.int x.1), .va (stD x.2.1 x.2.2), hk2, ?_⟩
          rw [kid]
          rfl
      · rintro ρ2 ⟨kvs', s7, s8, hk', rfl⟩
        rw [List.length_map, List.take_length]
        exact ⟨_, less, _, _, kvs', _, _, _, _, _, so', rfl, hk', rfl⟩
    refine sd_cons (s1_if (tm_val (em_call c2 (hr.mono (by decide)) (am_cons (em_var 0 rfl (am_cons (em_var 4 rfl (am_nil ⟨W0, fun _ z => z.elim, h, e.1, e.2.1, rfl, _, rfl, fun k2 => ?_, fun k2 => sd_nil ?_⟩))))))))
    · refine sd_one (s1_nset 1 hr.units (em_bool ⟨p1, _, rfl, em_ite (tm_cmp rfl (em_int (em_var 5 rfl (fd_in_tuple (room65 hr) (shaped_int 0) (shaped_ints _) ⟨_, rfl, fun k3 => ?_, fun k3 => ?_⟩))))⟩))
      · rw [any_ints] at k3
        have k3 : (0 : Int) ∈ e.2.2.1 := of_decide_eq_true k3
        refine em_tup (am_cons (em_var 5 rfl (am_cons (em_var 6 rfl (am_nil ⟨small_line (by simp), rfl, _, layKs (e.2.2.1, e.2.2.2), layK_data (e.2.2.1, e.2.2.2), layK_depth (e.2.2.1, e.2.2.2), rfl, ?_, ?_⟩)))))
        · unfold fdK
          rw [List.length_map, sizeLine_eq]
          omega
        · have := rest _ rfl
          rw [if_pos k2] at this
          have e3 : nrm (e.2.2.1, e.2.2.2) = (e.2.2.1, e.2.2.2) := if_pos k3
          rw [e3, ← fdK_put] at this
          exact this
      · rw [any_ints] at k3
        have k3 : ¬ (0 : Int) ∈ e.2.2.1 := of_decide_eq_false k3
        refine em_tup (am_cons (em_var 6 rfl (am_cons (em_var 5 rfl (am_nil ⟨small_line (by simp), rfl, _, layKs (e.2.2.2, e.2.2.1), layK_data (e.2.2.2, e.2.2.1), layK_depth (e.2.2.2, e.2.2.1), rfl, ?_, ?_⟩)))))
        · unfold fdK
          rw [List.length_map, sizeLine_eq]
          omega
        · have := rest _ rfl
          rw [if_pos k2] at this
          have e3 : nrm (e.2.2.1, e.2.2.2) = (e.2.2.2, e.2.2.1) := if_neg k3
          rw [e3, ← fdK_put] at this
          exact this
    · have := rest _ rfl
      rw [if_neg (by rw [k2]; exact Bool.false_ne_true)] at this
      exact this
  · have e0 : st = [] := by
      cases st with
      | nil => rfl
      | cons e st => simp [PyData.eqv, PyData.eqvAll] at k1
    subst e0
    have ln : Fo.length ≤ 1000000 := by have := so.me; omega
    refine sd_one (s1_ret (em_sortedN (bs := Fo) (dec := layK) 1 rfl hr.units B.sorted_ rfl (by unfold fdK; rw [List.map_map]; rfl) ?_ (FinP.va (ds := [hpD h]) ?_)))
    · have : (fun b => (layK b).data) = lyD := funext fun L => (layK_data L).symm
      rw [this]
      exact sorts_ly (small_line ln)
    · have : (fun b => (layK b).data) = lyD := funext fun L => (layK_data L).symm
      rw [this]
      exact q _ ⟨Fo, so.nd, fun L => by rw [so.al L]; exact ⟨.inl, fun z => z.elim id fun ⟨_, m, _⟩ => absurd m List.not_mem_nil⟩, rfl⟩
def frsD (Ls : List LY) : D := match Ls with
  | [] => .none
  | L :: _ => lyD L
def sp_first_laying : DSp := fun ss Q _ => ∃ h, ss = [.va (hpD h)] ∧ Hv h ∧ ∀ Ls, laysOf h Ls → Q false (frsD Ls) ss
end

/-! ### the law's own draws -/
structure WellOk (ds : List D) : Prop where
  is : ∃ a b c : Int, ds = [.int a, .int b, .int c] ∧ 0 ≤ a ∧ 0 ≤ b ∧ b < 2 ^ 40 ∧ 0 < c ∧ c < 2 ^ 40
theorem FinP.mova {b : D} {p : Addr} {m m' : MO} {Q : Bool → D → List Sl → Prop} {d : D} {ρ : List Sl} (h2 : ρ[0]? = some (.mo p m')) (q : Q false d [.mo p m', .va b]) : FinP [.mo p m, .va b] Q false d ρ := by
  refine ⟨[.mo p m', .va b], ⟨rfl, fun i s e => ?_⟩, q, fun z => nomatch z⟩
  match i, e with
  | 0, e => cases e; exact .inr ⟨p, m, m', rfl, rfl, h2⟩
  | 1, e => cases e; exact .inl ⟨rfl, _, rfl⟩
section
variable {P : Program} {w : World} {K : PySem.W.Frag} {mg : Str → Option Value} {base : Heap}
def sp_well : DSp := fun ss Q _ => ∃ ns k, ss = [.va (scriptD ns), .va (.int k)] ∧ 0 ≤ k ∧ k ≤ 1000 ∧ ∀ ds, WellOk ds → Q true (.list ds) ss
theorem ok_law_well {f : Addr} {fd : FuncData} (B : Bare mg) (F : Fun K "_law_well" "_law_well" s_law_well f fd) (hm : mg "_law_well" = some (.ref f)) (hb : Binds K fd ["script", "k"] []) : Cal P w K mg base "_law_well" 1 ["script", "k"] sp_well := by
  refine fn_ok F hm hb sc_law_well (by rintro ss P W ⟨_, _, rfl, _⟩; rfl) ?_
  rintro cdv A outer s H E hr ss Q W ⟨ns, k, rfl, hk0, hk1, q⟩
  refine sd_cons (s1_set 2 sc_law_well.nd (vm_data (em_int ?_)))
  have main : ∀ cell : Int, SD (cxOf (L2N.CX P w) P w K mg base N_law_well "_law_well" (defScope s_law_well) f cdv A outer s H E) ((defBody s_law_well).drop 2) [.va (scriptD ns), .va (.int k), .va (.int cell), .no, .no] W { nx := FinP [.va (scriptD ns), .va (.int k)] Q false .none, rt := FinP [.va (scriptD ns), .va (.int k)] Q } := by
    intro cell
    refine sd_cons (s1_set 3 sc_law_well.nd (vm_data (em_lst ?_)))
    repeat walk_at "e"
    refine ⟨small_line (by simp), rfl, ?_⟩
    refine sd_cons (s1_set 4 sc_law_well.nd (vm_data (em_bin (em_bin (em_bin (em_bin (em_var 2 rfl (em_int (fd_mod_int (by decide) (em_int (fd_add_int ?_)))))))))))
    refine em_bin (em_int (em_bin (em_int (em_var 1 rfl (fd_mul_int (.inl ⟨by decide, by decide⟩) (fd_add_int (fd_mul_int ?_ (em_int (fd_mod_int (by decide) ?_)))))))))
    · have h1 := Int.emod_nonneg cell (show (2147483489 : Int) ≠ 0 by decide)
      have h2 := Int.emod_lt_of_pos cell (show (0 : Int) < 2147483489 by decide)
      exact .inl ⟨by omega, by omega⟩
    generalize hs1 : ((cell % 2147483489 + 1) * (48271 + 2 * k)) % 2147483489 = s1
    have s10 : 0 ≤ s1 := by rw [← hs1]; exact Int.emod_nonneg _ (by decide)
    have s11 : s1 < 2147483489 := by rw [← hs1]; exact Int.emod_lt_of_pos _ (by decide)
    refine sd_cons (s1_set 4 sc_law_well.nd (vm_data (em_bin (em_bin (em_bin (em_bin (em_var 4 rfl (em_var 4 rfl (fd_mul_int (.inl ⟨by omega, by omega⟩) (em_int (fd_mod_int (by decide) ?_)))))))))))
    refine em_var 1 rfl (fd_add_int (em_int (fd_add_int ?_)))
    generalize hs2 : s1 * s1 % 2147483477 = s2
    have s20 : 0 ≤ s2 := by rw [← hs2]; exact Int.emod_nonneg _ (by decide)
    have s21 : s2 < 2147483477 := by rw [← hs2]; exact Int.emod_lt_of_pos _ (by decide)
    have pr : ∃ c : Int, 0 < c ∧ c < 2 ^ 40 ∧ atI [PyData.int 2147483647, .int 2147483629, .int 2147483587, .int 2147483579, .int 2147483563, .int 2147483549, .int 2147483543, .int 2147483497] (k % 8) = some (.int c) := by
      have h1 := Int.emod_nonneg k (show (8 : Int) ≠ 0 by decide)
      have h2 := Int.emod_lt_of_pos k (show (0 : Int) < 8 by decide)
      generalize k % 8 = j at h1 h2
      have : j = 0 ∨ j = 1 ∨ j = 2 ∨ j = 3 ∨ j = 4 ∨ j = 5 ∨ j = 6 ∨ j = 7 := by omega
      rcases this with rfl | rfl | rfl | rfl | rfl | rfl | rfl | rfl <;> exact ⟨_, by decide, by decide, rfl⟩
    obtain ⟨c, c0, c1, hc⟩ := pr
    refine sd_cons (s1_if (tm_cmp (nomark _) (em_var 2 rfl (em_bin (em_int (em_int (fd_pow_int ⟨by decide, by decide, by decide⟩ (fd_ge ⟨_, rfl, fun k1 => ?_, fun k1 => sd_nil ?_⟩))))))))
    · refine sd_one (s1_ret (em_lst (am_cons (em_var 2 rfl (am_cons (em_var 4 rfl (am_cons (em_ix (fun _ _ => rfl) (em_var 3 rfl (em_bin (em_var 1 rfl (em_int (fd_mod_int (by decide) (id_list hc (am_nil ⟨small_line (by simp), rfl, FinP.va (ds := [_, _]) (q _ ⟨_, _, _, rfl, ?_, by omega, by omega, c0, c1⟩)⟩)))))))))))))))
      have := of_decide_eq_true k1
      have e : (10 : Int) ^ (18 : Int).toNat = 1000000000000000000 := by decide
      rw [e] at this
      omega
    · exact sd_one (s1_ret (em_lst (am_cons (em_int (am_cons (em_var 4 rfl (am_cons (em_ix (fun _ _ => rfl) (em_var 3 rfl (em_bin (em_var 1 rfl (em_int (fd_mod_int (by decide) (id_list hc (am_nil ⟨small_line (by simp), rfl, FinP.va (ds := [_, _]) (q _ ⟨_, _, _, rfl, by omega, by omega, by omega, c0, c1⟩)⟩)))))))))))))))
  refine sd_cons (s1_if (tm_cmp (nomark _) (em_var 1 rfl (em_callB B.len PySem.boot_len (am_cons (em_var 0 rfl (am_nil (kd_len_script (fd_lt ⟨_, rfl, fun k1 => ?_, fun k1 => sd_nil (main 0)⟩)))))))))
  have k1 := of_decide_eq_true k1
  have hl : k.toNat < ns.length := by omega
  refine sd_one (s1_set 2 sc_law_well.nd (vm_data (em_ix (fun _ _ => rfl) (em_var 0 rfl (em_var 1 rfl (id_script (n := ns[k.toNat]) (atI_of hk0 (List.getElem?_eq_getElem hl)) ?_))))))
  exact main _
def sp_take : DSp := fun ss Q _ => ∃ p ds many, ss = [.mo p (.lst ds), .va (.int many)] ∧ WellOk ds ∧ 0 < many ∧ many ≤ 1000000 ∧ ∀ ds' r, WellOk ds' → 0 ≤ r → r < many → Q false (.int r) [.mo p (.lst ds'), .va (.int many)]
theorem ok_law_take {f : Addr} {fd : FuncData} (F : Fun K "_law_take" "_law_take" s_law_take f fd) (hm : mg "_law_take" = some (.ref f)) (hb : Binds K fd ["well", "many"] []) : Cal P w K mg base "_law_take" 1 ["well", "many"] sp_take := by
  refine fn_ok F hm hb sc_law_take (by rintro ss P W ⟨_, _, _, rfl, _⟩; rfl) ?_
  rintro cdv A outer s H E hr ss Q W ⟨p, ds, many, rfl, ⟨a, b, c, rfl, a0, b0, b1, c0, c1⟩, m0, m1, q⟩
  refine sd_cons (s1_if (tm_cmp (nomark _) (em_ixOwn 0 rfl (fun _ _ => rfl) (em_int ⟨0, _, .int a, rfl, rfl, rfl, em_int (fd_gt ⟨_, rfl, fun k1 => ?_, fun k1 => sd_nil ?_⟩)⟩))))
  · refine sd_cons (s1_set 2 sc_law_take.nd (vm_data (em_bin (em_ixOwn 0 rfl (fun _ _ => rfl) (em_int ⟨0, _, .int a, rfl, rfl, rfl, em_var 1 rfl (fd_mod_int m0 ?_)⟩)))))
    refine sd_cons (s1_setItem 0 rfl (em_bin (em_ixOwn 0 rfl (fun _ _ => rfl) (em_int ⟨0, _, .int a, rfl, rfl, rfl, em_var 1 rfl (fd_div_int ⟨m0, by omega⟩ ⟨rfl, _, rfl, em_int ⟨_, 0, rfl, rfl, by simp, ?_⟩⟩)⟩))))
    refine sd_one (s1_ret (em_var 2 rfl (FinP.mova rfl (q _ _ ⟨a / many, b, c, rfl, Int.ediv_nonneg a0 (by omega), b0, b1, c0, c1⟩ (Int.emod_nonneg _ (by omega)) (Int.emod_lt_of_pos _ m0)))))
  · refine sd_cons (s1_setItem 0 rfl (em_bin (em_bin (em_bin (em_ixOwn 0 rfl (fun _ _ => rfl) (em_int ⟨1, _, .int b, rfl, rfl, rfl, em_int (fd_mul_int (.inl ⟨by omega, by omega⟩) (em_ixOwn 0 rfl (fun _ _ => rfl) (em_int ⟨2, _, .int c, rfl, rfl, rfl, fd_mod_int c0 (em_int (fd_add_int ⟨rfl, _, rfl, em_int ⟨_, 1, rfl, rfl, by simp, ?_⟩⟩))⟩)))⟩))))))
    generalize hx : b * 48271 % c = x
    have x0 : 0 ≤ x := by rw [← hx]; exact Int.emod_nonneg _ (by omega)
    have x1 : x < c := by rw [← hx]; exact Int.emod_lt_of_pos _ c0
    refine sd_one (s1_ret (em_bin (em_bin (em_bin (em_bin (em_ixOwn 0 rfl (fun _ _ => rfl) (em_int ⟨1, _, .int (x + 1), rfl, rfl, rfl, em_ixOwn 0 rfl (fun _ _ => rfl) (em_int ⟨1, _, .int (x + 1), rfl, rfl, rfl, fd_mul_int (.inl ⟨by omega, by omega⟩) (em_int (fd_mod_int (by decide) (em_int (fd_div_int ⟨by decide, by decide⟩ (em_var 1 rfl (fd_mod_int m0 ?_))))))⟩)⟩)))))))
    exact FinP.mova rfl (q _ _ ⟨a, x + 1, c, rfl, a0, by omega, by omega, c0, c1⟩ (Int.emod_nonneg _ (by omega)) (Int.emod_lt_of_pos _ m0))
end

def isInt (d : D) (low high : Int) : Bool := match d with
  | .int i => decide (low ≤ i) && decide (i ≤ high)
  | _ => false
/-- the pieces of a text between ends -/
def cutsL (t : List Nat) (ends : List Int) : List (List Nat) := (List.range (ends.length - 1)).map fun i => cut t (some (ends.getD i 0)) (some (ends.getD (i + 1) 0))
def endsOf (t : List Nat) (sp : List Int) : List Int := [0] ++ sp.mergeSort (fun a b => decide (a ≤ b)) ++ [(t.length : Int)]
structure Tw (t : List Nat) (s1 s2 : List Int) (top : Int) : Prop where
  lo : 2 ≤ t.length
  hi : t.length ≤ 10
  ch : ∀ c ∈ t, 97 ≤ c ∧ c ≤ 104
  n1 : s1.Nodup
  n2 : s2.Nodup
  dj : ∀ x ∈ s1, x ∉ s2
  r1 : ∀ x ∈ s1, 1 ≤ x ∧ x < t.length
  r2 : ∀ x ∈ s2, 1 ≤ x ∧ x < t.length
  ct : (s1.length : Int) + s2.length ≤ top - 2
def abcdefgh : List Nat := [97, 98, 99, 100, 101, 102, 103, 104]
theorem abc_S : Str.ofString "abcdefgh" = S abcdefgh := by decide +kernel
theorem any_intsM (u : List Int) (p : Int) : ((u.map PyData.int).any fun z => PyData.eqv z (.int p)) = decide (p ∈ u) := any_ints u p
theorem shaped_intsL (u : List Int) : SeqAt.shaped (.list (u.map PyData.int)) = true := by
  unfold SeqAt.shaped
  rw [PyData.canLay0, lay_ints, PyData.depth, PySem.W.depth_ints]
  decide
theorem FinP.movas {ds : List D} {p : Addr} {m m' : MO} {Q : Bool → D → List Sl → Prop} {d : D} {ρ : List Sl} (h2 : ρ[0]? = some (.mo p m')) (q : Q false d (.mo p m' :: ds.map .va)) : FinP (.mo p m :: ds.map .va) Q false d ρ := by
  refine ⟨.mo p m' :: ds.map .va, ⟨by simp, fun i s e => ?_⟩, q, fun z => nomatch z⟩
  match i, e with
  | 0, e => cases e; exact .inr ⟨p, m, m', rfl, rfl, h2⟩
  | i + 1, e =>
    rw [List.getElem?_cons_succ] at e ⊢
    refine .inl ⟨e, ?_⟩
    rw [List.getElem?_map] at e
    obtain ⟨d, _, e⟩ := Option.map_eq_some_iff.mp e
    exact ⟨d, e.symm⟩
section
variable {P : Program} {w : World} {K : PySem.W.Frag} {mg : Str → Option Value} {base : Heap}
def sp_is_int : DSp := fun ss Q _ => ∃ d low high, ss = [.va d, .va (.int low), .va (.int high)] ∧ nd d = true ∧ Q false (.bool (isInt d low high)) ss
theorem ok_law_is_int {f : Addr} {fd : FuncData} (B : Bare mg) (F : Fun K "_law_is_int" "_law_is_int" s_law_is_int f fd) (hm : mg "_law_is_int" = some (.ref f)) (hb : Binds K fd ["thing", "low", "high"] []) : Cal P w K mg base "_law_is_int" 1 ["thing", "low", "high"] sp_is_int := by
  refine fn_ok F hm hb sc_law_is_int (by rintro ss P W ⟨_, _, _, rfl, _⟩; rfl) ?_
  rintro cdv A outer s H E hr ss Q W ⟨d, low, high, rfl, hn, q⟩
  have no : isInt d low high = false → FinP [.va d, .va (.int low), .va (.int high)] Q false (.bool false) (startS N_law_is_int.length [.va d, .va (.int low), .va (.int high)]) := fun e => FinP.va (ds := [d, .int low, .int high]) (by rw [e] at q; exact q)
  refine sd_one (s1_ret (em_and (em_isi (.inl rfl) B.isinstance_ B.int_ boot_int (em_var 0 rfl ⟨hn, _, rfl, fun k1 => ?_, fun k1 => no (by cases d <;> first | rfl | (exact absurd k1 (by simp [isTy, tyD])))⟩))))
  refine em_and (em_not (em_isi (.inr (.inl rfl)) B.isinstance_ B.bool_ boot_bool (em_var 0 rfl ⟨hn, _, rfl, _, rfl, fun k2 => ?_, fun k2 => ?_⟩)))
  · cases d with
    | int i =>
      refine em_and (em_cmp (nomark _) (em_var 1 rfl (em_var 0 rfl (fd_le ⟨_, rfl, fun k3 => ?_, fun k3 => ?_⟩))))
      · refine em_one (em_cmp (nomark _) (em_var 0 rfl (em_var 2 rfl (fd_le (FinP.va (ds := [.int i, .int low, .int high]) ?_)))))
        have e : isInt (.int i) low high = decide (i ≤ high) := by
          show (decide (low ≤ i) && decide (i ≤ high)) = _
          rw [k3, Bool.true_and]
        rw [e] at q
        exact q
      · exact no (by show (decide (low ≤ i) && decide (i ≤ high)) = false; rw [k3, Bool.false_and])
    | _ => simp [isTy, tyD] at k1 k2
  · exact no (by cases d <;> first | rfl | (exact absurd k2 (by simp [isTy, tyD])))
def sp_signs : DSp := fun ss Q _ => ∃ p ds many kinds, ss = [.mo p (.lst ds), .va (.int many), .va (.int kinds)] ∧ WellOk ds ∧ 0 ≤ many ∧ many ≤ 1000 ∧ 1 ≤ kinds ∧ kinds ≤ 8 ∧ ∀ ds' t, WellOk ds' → (t.length : Int) = many → (∀ c ∈ t, 97 ≤ c ∧ c ≤ 104) → Q false (tx t) [.mo p (.lst ds'), .va (.int many), .va (.int kinds)]
theorem ok_law_signs {f : Addr} {fd : FuncData} (B : Bare mg) (c1 : Cal P w K mg base "_law_take" 1 ["well", "many"] sp_take) (F : Fun K "_law_signs" "_law_signs" s_law_signs f fd) (hm : mg "_law_signs" = some (.ref f)) (hb : Binds K fd ["well", "many", "kinds"] []) : Cal P w K mg base "_law_signs" 2 ["well", "many", "kinds"] sp_signs := by
  refine fn_ok F hm hb sc_law_signs (by rintro ss P W ⟨_, _, _, _, rfl, _⟩; rfl) ?_
  rintro cdv A outer s H E hr ss Q W ⟨p, ds, many, kinds, rfl, hw, m0, m1, k0, k1, q⟩
  refine sd_one (s1_retD (em_meth PySem.F.slot_str_join PySem.F.type_str_join (em_str ⟨_, rfl, am_cons ?_⟩)))
  refine em_lc (.nm 3) [("turn", 3)] rfl sc_law_signs.nd (blkOk_by (N := N_law_signs) (sc := defScope s_law_signs) (by decide +kernel)) (fun _ _ _ _ _ => pg_nm sc_law_signs.nd) (by decide) ?_
  refine im_range1 B.range_ (em_var 1 rfl ⟨many, rfl, by omega, by omega, fun i ys ρ => ∃ ds' t, WellOk ds' ∧ t.length = i ∧ (∀ c ∈ t, 97 ≤ c ∧ c ≤ 104) ∧ ys = t.map (fun c => PyData.str (S [c])) ∧ ρ = [.mo p (.lst ds'), .va (.int many), .va (.int kinds), .no], ⟨ds, [], hw, rfl, fun _ m => absurd m List.not_mem_nil, rfl, rfl⟩, ?_, ?_⟩)
  · rintro i d ys ρ2 hd ⟨ds', t, hw', hl, hc, rfl, rfl⟩
    have hi : i < many.toNat := by
      have := (List.getElem?_eq_some_iff.mp hd).1
      simpa [rngD] using this
    refine ⟨_, rfl, fun _ _ _ _ _ => ⟨fun _ _ _ _ _ _ => ?_, fun z => Bool.noConfusion z⟩⟩
    refine em_ix (fun _ _ => rfl) (em_str (em_callM c1 (hr.mono (by decide)) (zm_s 0 rfl (zm_d (em_var 2 rfl (zm_nil ⟨⟨by simp [slotsOf], fun j hj => ?_⟩, p, ds', kinds, rfl, hw', by omega, by omega, fun ds2 r hw2 r0 r1 => ?_⟩))))))
    · have e : j = 0 := by simpa [slotsOf] using hj
      subst e
      exact ⟨p, _, rfl⟩
    · have hr8 : r.toNat < abcdefgh.length := by
        show r.toNat < 8
        omega
      have hcc : 97 ≤ abcdefgh[r.toNat] ∧ abcdefgh[r.toNat] ≤ 104 := by
        have : ∀ c ∈ abcdefgh, 97 ≤ c ∧ c ≤ 104 := by decide
        exact this _ (List.getElem_mem hr8)
      rw [abc_S]
      refine id_str (c := abcdefgh[r.toNat]) (by rw [S_len]; exact small_line (by decide)) (atI_of r0 ?_) ⟨rfl, ?_, ds2, t ++ [abcdefgh[r.toNat]], hw2, by simp [hl], fun c m => ?_, by simp [S], rfl⟩
      · show (S abcdefgh).cps.toList[r.toNat]? = _
        simp [S, List.getElem?_eq_getElem hr8]
      · rw [List.length_map, sizeLine_eq]
        omega
      · rcases List.mem_append.mp m with m | m
        · exact hc c m
        · rw [List.mem_singleton.mp m]
          exact hcc
  · rintro ys ρ2 ⟨ds', t, hw', hl, hc, rfl, rfl⟩
    have hl2 : (t.length : Int) = many := by
      rw [hl]
      simp [rngD]
      omega
    refine am_nil ?_
    have e1 : t.map (fun c => PyData.str (S [c])) = ((t.map fun c => [c]).map S).map PyData.str := by simp [Function.comp_def]
    rw [e1]
    refine md_join ?_ ?_
    · have e2 : (((t.map fun c => [c]).map S).map (·.length)) = t.map fun _ => 1 := by
        rw [List.map_map, List.map_map]
        refine List.map_congr_left fun c _ => ?_
        exact S_len [c]
      rw [e2, List.length_map, List.length_map, show (Str.ofString "").length = 0 from rfl]
      have : (t.map fun _ => 1).sum = t.length := by
        clear hl hc hl2 e1 e2
        induction t with
        | nil => rfl
        | cons c t ih => rw [List.map_cons, List.sum_cons, ih, List.length_cons]; omega
      rw [this]
      omega
    · rw [show Str.ofString "" = S [] from rfl, join0]
      have e3 : (t.map fun c => [c]).flatten = t := by
        clear hl hc hl2 e1
        induction t with
        | nil => rfl
        | cons c t ih => rw [List.map_cons, List.flatten_cons, ih]; rfl
      rw [e3]
      exact FinP.movas (ds := [.int many, .int kinds]) rfl (q _ _ hw' hl2 hc)
def sp_cut : DSp := fun ss Q _ => ∃ t sp, ss = [.va (tx t), .va (.list (sp.map .int))] ∧ t.length ≤ 1000 ∧ sp.length ≤ 1000 ∧ Q true (.list ((cutsL t (endsOf t sp)).map tx)) ss
theorem ok_law_cut {f : Addr} {fd : FuncData} (B : Bare mg) (F : Fun K "_law_cut" "_law_cut" s_law_cut f fd) (hm : mg "_law_cut" = some (.ref f)) (hb : Binds K fd ["text", "spots"] []) : Cal P w K mg base "_law_cut" 1 ["text", "spots"] sp_cut := by
  refine fn_ok F hm hb sc_law_cut (by rintro ss P W ⟨_, _, rfl, _⟩; rfl) ?_
  rintro cdv A outer s H E hr ss Q W ⟨t, sp, rfl, ht, hs, q⟩
  have lt : (S t).length ≤ sizeLine := by rw [S_len]; exact small_line (by omega)
  refine sd_cons (s1_set 2 sc_law_cut.nd (vm_data (em_bin (em_bin (em_lst (am_cons (em_int (am_nil ⟨small_line (by simp), rfl, em_callB B.sorted_ PyProof.Rows.boot_sorted (am_cons (em_var 1 rfl (am_nil (kd_sorted_list hr.units (sorts_int (small_line (by omega))) (fd_add_list (small_line (by simp; omega)) ?_)))))⟩))))))))
  refine em_lst (am_cons (em_callB B.len PySem.boot_len (am_cons (em_var 0 rfl (am_nil (kd_len_str lt (am_nil ⟨small_line (by simp), rfl, fd_add_list (small_line (by simp; omega)) ?_⟩)))))))
  have e1 : [PyData.int 0] ++ (sp.mergeSort (PySem.W.dataLe false PyData.int)).map PyData.int ++ [PyData.int ((S t).length : Nat)] = (endsOf t sp).map PyData.int := by
    unfold endsOf
    rw [dle_int, S_len, List.map_append, List.map_append]
    rfl
  rw [e1]
  have le : (endsOf t sp).length = sp.length + 2 := by unfold endsOf; simp
  refine sd_one (s1_ret (em_fm (.tp [.nm 3, .nm 4]) [("one", 3), ("other", 4)] rfl sc_law_cut.nd (blkOk_by (N := N_law_cut) (sc := defScope s_law_cut) (by decide +kernel)) (fun _ _ _ _ _ => pg_tp rfl (pgs_1 (pg_nm sc_law_cut.nd) (pgs_1 (pg_nm sc_law_cut.nd) pgs_0))) (by decide)
    (.map (fun i : Nat => .tuple [((endsOf t sp).map PyData.int).getD i .none, ((cut ((endsOf t sp).map PyData.int) (some 1) none)).getD i .none]) (fun i => tx (cut t (some ((endsOf t sp).getD i 0)) (some ((endsOf t sp).getD (i + 1) 0)))) (im_zipL B.zip_ (am_cons (em_var 2 rfl (am_cons (em_sl (em_var 2 rfl (om_some (em_int ⟨1, rfl, om_none (ld_list (am_nil ⟨_, _, rfl, List.range (min ((endsOf t sp).map PyData.int).length (cut ((endsOf t sp).map PyData.int) (some 1) none).length), rfl, ?_, ?_, ?_⟩))⟩)))))))))))
  · rw [List.length_range]
    refine small_line ?_
    rw [List.length_map]
    omega
  · intro i hi
    have hi := List.mem_range.mp hi
    have ec : cut ((endsOf t sp).map PyData.int) (some 1) none = ((endsOf t sp).map PyData.int).drop 1 := cut_drop _ 1
    rw [ec, List.length_map, List.length_drop, List.length_map] at hi
    have g1 : ((endsOf t sp).map PyData.int).getD i PyData.none = .int ((endsOf t sp).getD i 0) := by
      rw [List.getD_eq_getElem?_getD, List.getD_eq_getElem?_getD, List.getElem?_map, List.getElem?_eq_getElem (by omega : i < (endsOf t sp).length)]
      rfl
    have g2 : (cut ((endsOf t sp).map PyData.int) (some 1) none).getD i PyData.none = .int ((endsOf t sp).getD (i + 1) 0) := by
      rw [ec, List.getD_eq_getElem?_getD, List.getD_eq_getElem?_getD, List.getElem?_drop, List.getElem?_map, Nat.add_comm 1 i, List.getElem?_eq_getElem (by omega : i + 1 < (endsOf t sp).length)]
      rfl
    rw [g1, g2]
    refine ⟨_, rfl, fun _ _ _ _ _ => em_sl (em_var 0 rfl (om_some (em_var 3 rfl ⟨_, rfl, om_some (em_var 4 rfl ⟨_, rfl, ld_str lt ⟨rfl, ?_⟩⟩)⟩)))⟩
    rw [cutS_S]
  · refine FinP.va (ds := [_, _]) ?_
    have e2 : (List.range (min ((endsOf t sp).map PyData.int).length (cut ((endsOf t sp).map PyData.int) (some 1) none).length)).map (fun i => tx (cut t (some ((endsOf t sp).getD i 0)) (some ((endsOf t sp).getD (i + 1) 0)))) = (cutsL t (endsOf t sp)).map tx := by
      have ec : cut ((endsOf t sp).map PyData.int) (some 1) none = ((endsOf t sp).map PyData.int).drop 1 := cut_drop _ 1
      unfold cutsL
      rw [ec, List.length_map, List.length_drop, List.length_map, List.map_map, Nat.min_eq_right (by omega)]
      rfl
    rw [e2]
    exact q
end

theorem Tw.add1 {t : List Nat} {s1 s2 : List Int} {top x : Int} (w : Tw t s1 s2 top) (n1 : x ∉ s1) (n2 : x ∉ s2) (l : 1 ≤ x) (r : x < t.length) : Tw t (s1 ++ [x]) s2 (top + 1) := by
  refine ⟨w.lo, w.hi, w.ch, ?_, w.n2, fun y m => ?_, fun y m => ?_, w.r2, ?_⟩
  · rw [List.nodup_append]
    exact ⟨w.n1, List.pairwise_singleton _ _, fun a ha b hb e => n1 (by rw [← List.mem_singleton.mp hb, ← e]; exact ha)⟩
  · rcases List.mem_append.mp m with m | m
    · exact w.dj y m
    · rw [List.mem_singleton.mp m]; exact n2
  · rcases List.mem_append.mp m with m | m
    · exact w.r1 y m
    · rw [List.mem_singleton.mp m]; exact ⟨l, r⟩
  · have := w.ct
    rw [List.length_append]
    simp only [List.length_cons, List.length_nil]
    omega
theorem Tw.add2 {t : List Nat} {s1 s2 : List Int} {top x : Int} (w : Tw t s1 s2 top) (n1 : x ∉ s1) (n2 : x ∉ s2) (l : 1 ≤ x) (r : x < t.length) : Tw t s1 (s2 ++ [x]) (top + 1) := by
  refine ⟨w.lo, w.hi, w.ch, w.n1, ?_, fun y m m2 => ?_, w.r1, fun y m => ?_, ?_⟩
  · rw [List.nodup_append]
    exact ⟨w.n2, List.pairwise_singleton _ _, fun a ha b hb e => n2 (by rw [← List.mem_singleton.mp hb, ← e]; exact ha)⟩
  · rcases List.mem_append.mp m2 with m2 | m2
    · exact w.dj y m m2
    · rw [List.mem_singleton.mp m2] at m; exact n1 m
  · rcases List.mem_append.mp m with m | m
    · exact w.r2 y m
    · rw [List.mem_singleton.mp m]; exact ⟨l, r⟩
  · have := w.ct
    rw [List.length_append]
    simp only [List.length_cons, List.length_nil]
    omega
theorem Tw.more {t : List Nat} {s1 s2 : List Int} {a b : Int} (w : Tw t s1 s2 a) (h : a ≤ b) : Tw t s1 s2 b := ⟨w.lo, w.hi, w.ch, w.n1, w.n2, w.dj, w.r1, w.r2, by have := w.ct; omega⟩
section
variable {P : Program} {w : World} {K : PySem.W.Frag} {mg : Str → Option Value} {base : Heap}
def twD (t : List Nat) (s1 s2 : List Int) : D := .list [tx t, .list ((cutsL t (endsOf t s1)).map tx), .list ((cutsL t (endsOf t s2)).map tx)]
def sp_twins : DSp := fun ss Q _ => ∃ p ds top, ss = [.mo p (.lst ds), .va (.int top)] ∧ WellOk ds ∧ 2 ≤ top ∧ top ≤ 8 ∧ ∀ ds' t s1 s2, WellOk ds' → Tw t s1 s2 top → Q false (twD t s1 s2) [.mo p (.lst ds'), .va (.int top)]
set_option maxHeartbeats 1000000 in
theorem ok_law_twins {f : Addr} {fd : FuncData} (B : Bare mg) (c1 : Cal P w K mg base "_law_take" 1 ["well", "many"] sp_take) (c2 : Cal P w K mg base "_law_signs" 2 ["well", "many", "kinds"] sp_signs) (c3 : Cal P w K mg base "_law_cut" 1 ["text", "spots"] sp_cut) (F : Fun K "_law_twins" "_law_twins" s_law_twins f fd) (hm : mg "_law_twins" = some (.ref f)) (hb : Binds K fd ["well", "top"] []) : Cal P w K mg base "_law_twins" 3 ["well", "top"] sp_twins := by
  refine fn_ok F hm hb sc_law_twins (by rintro ss P W ⟨_, _, _, rfl, _⟩; rfl) ?_
  rintro cdv A outer s H E hr ss Q W ⟨p, ds, top, rfl, hw, t2, t8, q⟩
  have gd : ∀ {ρ : List Sl} {m : MO}, ρ[0]? = some (.mo p m) → ∀ as : List Arg, slotsOf as = [0] → GoodArgs ρ as := fun h as e => ⟨by rw [e]; simp, fun j hj => by rw [e] at hj; rw [List.mem_singleton.mp hj]; exact ⟨p, _, h⟩⟩
  refine sd_cons (s1_set 2 sc_law_twins.nd (vm_data (em_bin (em_int (em_callM c1 (hr.mono (by decide)) (zm_s 0 rfl (zm_d (em_ix (fun _ _ => rfl) (em_lst (am_cons (em_int (am_cons (em_int (am_nil ⟨small_line (by simp), rfl, em_callM c1 (hr.mono (by decide)) (zm_s 0 rfl (zm_d (em_int (zm_nil ⟨gd rfl _ rfl, p, ds, 2, rfl, hw, by decide, by decide, fun ds2 r hw2 r0 r1 => ?_⟩))))⟩))))))))))))))
  obtain ⟨m, hm1, hm2, hm3⟩ : ∃ m : Int, 1 ≤ m ∧ m ≤ 9 ∧ atI [PyData.int 5, .int 9] r = some (.int m) := by
    have : r = 0 ∨ r = 1 := by omega
    rcases this with rfl | rfl
    · exact ⟨5, by decide, by decide, rfl⟩
    · exact ⟨9, by decide, by decide, rfl⟩
  refine id_list hm3 (zm_nil ⟨gd rfl _ rfl, p, ds2, m, rfl, hw2, by omega, by omega, fun ds3 r2 hw3 r20 r21 => fd_add_int ?_⟩)
  refine sd_re (ρ' := [.mo p (.lst ds3), .va (.int top), .va (.int (2 + r2)), .no, .no, .no, .no, .no]) rfl ?_
  refine sd_cons (s1_set 3 sc_law_twins.nd (vm_data (em_callM c2 (hr.mono (by decide)) (zm_s 0 rfl (zm_d (em_var 2 rfl (zm_d (em_ix (fun _ _ => rfl) (em_lst (am_cons (em_int (am_cons (em_int (am_cons (em_int (am_cons (em_int (am_nil ⟨small_line (by simp), rfl, em_callM c1 (hr.mono (by decide)) (zm_s 0 rfl (zm_d (em_int (zm_nil ⟨gd rfl _ rfl, p, ds3, 4, rfl, hw3, by decide, by decide, fun ds4 r3 hw4 r30 r31 => ?_⟩))))⟩))))))))))))))))))
  obtain ⟨m4, hm4, hm5, hm6⟩ : ∃ m : Int, 1 ≤ m ∧ m ≤ 8 ∧ atI [PyData.int 1, .int 2, .int 3, .int 8] r3 = some (.int m) := by
    have : r3 = 0 ∨ r3 = 1 ∨ r3 = 2 ∨ r3 = 3 := by omega
    rcases this with rfl | rfl | rfl | rfl
    · exact ⟨1, by decide, by decide, rfl⟩
    · exact ⟨2, by decide, by decide, rfl⟩
    · exact ⟨3, by decide, by decide, rfl⟩
    · exact ⟨8, by decide, by decide, rfl⟩
  refine id_list hm6 (zm_nil ⟨gd rfl _ rfl, p, ds4, 2 + r2, m4, rfl, hw4, by omega, by omega, hm4, hm5, fun ds5 t hw5 tl tc => ?_⟩)
  refine sd_re (ρ' := [.mo p (.lst ds5), .va (.int top), .va (.int (2 + r2)), .va (tx t), .no, .no, .no, .no]) rfl ?_
  refine sd_cons (s1_set 4 sc_law_twins.nd (vm_LL fun p4 q1 q2 => ?_))
  refine sd_cons (s1_for (.nm 5) (passes_of rfl) rfl (pg_nm sc_law_twins.nd) (im_range1 B.range_ (em_callM c1 (hr.mono (by decide)) (zm_s 0 rfl (zm_d (em_bin (em_var 1 rfl (em_int (fd_sub_int (zm_nil ⟨gd rfl _ rfl, p, ds5, top - 1, rfl, hw5, by omega, by omega, fun ds6 n hw6 n0 n1 => ⟨n, rfl, by omega, by omega, ?_⟩⟩))))))))))
  have tl2 : 2 ≤ t.length ∧ t.length ≤ 10 := by omega
  have lt : (S t).length ≤ sizeLine := by rw [S_len]; exact small_line (by omega)
  refine ⟨fun i ρ => ∃ ds' s1 s2 s5 s6 s7, WellOk ds' ∧ Tw t s1 s2 (2 + (i : Int)) ∧ ρ = [.mo p (.lst ds'), .va (.int top), .va (.int (2 + r2)), .va (tx t), .ll p4 [q1, q2] [.lst (s1.map .int), .lst (s2.map .int)], s5, s6, s7], ⟨ds6, [], [], _, _, _, hw6, ⟨tl2.1, tl2.2, tc, List.nodup_nil, List.nodup_nil, fun _ m => absurd m List.not_mem_nil, fun _ m => absurd m List.not_mem_nil, fun _ m => absurd m List.not_mem_nil, by simp⟩, rfl⟩, ?_, ?_⟩
  · rintro i d ρ2 hd ⟨ds', s1, s2, s5, s6, s7, hw', tw, rfl⟩
    have hi : i < n.toNat := by
      have := (List.getElem?_eq_some_iff.mp hd).1
      simpa [rngD] using this
    have tct := tw.ct
    refine ⟨_, rfl, ?_⟩
    refine sd_cons (s1_par2 6 7 rfl sc_law_twins.nd (lm_cons (vm_data (em_bin (em_int (em_callM c1 (hr.mono (by decide)) (zm_s 0 rfl (zm_d (em_bin (em_callB B.len PySem.boot_len (am_cons (em_var 3 rfl (am_nil (kd_len_str lt (em_int (fd_sub_int (zm_nil ⟨gd rfl _ rfl, p, ds', ((S t).length : Int) - 1, rfl, hw', ?_, ?_, fun ds7 x hw7 x0 x1 => fd_add_int (lm_cons (vm_data (em_callM c1 (hr.mono (by decide)) (zm_s 0 rfl (zm_d (em_int (zm_nil ⟨gd rfl _ rfl, p, ds7, 2, rfl, hw7, by decide, by decide, fun ds8 k hw8 k0 k1 => lm_nil ⟨_, _, rfl, ?_⟩⟩)))))))⟩)))))))))))))))))
    · rw [S_len]; omega
    · rw [S_len]; omega
    rw [S_len] at x1
    refine sd_re (ρ' := [.mo p (.lst ds8), .va (.int top), .va (.int (2 + r2)), .va (tx t), .ll p4 [q1, q2] [.lst (s1.map .int), .lst (s2.map .int)], .va d, .va (.int (1 + x)), .va (.int k)]) rfl ?_
    refine sd_one (s1_if (tm_viewLL 4 rfl (tm_cmp rfl (em_var 6 rfl (em_bin (em_ix (fun _ _ => rfl) (em_var 4 rfl (em_int (id_list (d := .list (s1.map .int)) rfl (em_ix (fun _ _ => rfl) (em_var 4 rfl (em_int (id_list (d := .list (s2.map .int)) rfl (fd_add_list (small_line (by simp; omega)) ?_))))))))))))))
    rw [← List.map_append]
    refine fd_notIn_list (room65 hr) (shaped_int _) (shaped_intsL _) ⟨_, rfl, fun z => ?_, fun z => ?_⟩
    · rw [any_ints] at z
      have nz : (1 + x) ∉ s1 ++ s2 := by simpa using z
      have nz1 : (1 + x) ∉ s1 := fun m => nz (List.mem_append_left _ m)
      have nz2 : (1 + x) ∉ s2 := fun m => nz (List.mem_append_right _ m)
      refine sd_one (s1_expr (em_appendLL 4 rfl (fun _ _ => rfl) (em_var 7 rfl ⟨decide (k = 1), ?_, ⟨_, _, rfl⟩, em_var 6 rfl ⟨_, _, rfl, rfl, ?_, ?_, ?_⟩⟩)))
      · have : k = 0 ∨ k = 1 := by omega
        rcases this with rfl | rfl <;> rfl
      · rw [List.length_map, sizeLine_eq]; omega
      · rw [List.length_map, sizeLine_eq]; omega
      · have e2 : (2 : Int) + ((i + 1 : Nat) : Int) = 2 + (i : Int) + 1 := by omega
        have : k = 0 ∨ k = 1 := by omega
        rcases this with rfl | rfl
        · refine ⟨ds8, s1 ++ [1 + x], s2, .va d, .va (.int (1 + x)), .va (.int 0), hw8, by rw [e2]; exact tw.add1 nz1 nz2 (by omega) (by omega), ?_⟩
          rw [List.map_append]
          rfl
        · refine ⟨ds8, s1, s2 ++ [1 + x], .va d, .va (.int (1 + x)), .va (.int 1), hw8, by rw [e2]; exact tw.add2 nz1 nz2 (by omega) (by omega), ?_⟩
          rw [List.map_append]
          rfl
    · exact sd_nil ⟨ds8, s1, s2, .va d, .va (.int (1 + x)), .va (.int k), hw8, tw.more (by omega), rfl⟩
  · rintro ρ2 ⟨ds', s1, s2, s5, s6, s7, hw', tw, rfl⟩
    have tct := tw.ct
    have en : ((rngD 0 n.toNat).length : Int) = n := by
      simp [rngD]
      omega
    rw [en] at tw tct
    refine sd_freezeLL 4 rfl (sd_one (s1_retD (em_lst (am_cons (em_var 3 rfl (am_cons (em_call c3 (hr.mono (by decide)) (am_cons (em_var 3 rfl (am_cons (em_ix (fun _ _ => rfl) (em_var 4 rfl (em_int (id_list (d := .list (s1.map .int)) rfl (am_nil ⟨W0, fun _ z => z.elim, t, s1, rfl, by omega, by omega, ?_⟩)))))))))))))))
    refine am_cons (em_call c3 (hr.mono (by decide)) (am_cons (em_var 3 rfl (am_cons (em_ix (fun _ _ => rfl) (em_var 4 rfl (em_int (id_list (d := .list (s2.map .int)) rfl (am_nil ⟨W0, fun _ z => z.elim, t, s2, rfl, by omega, by omega, am_nil ⟨small_line (by simp), rfl, ?_⟩⟩)))))))))
    exact FinP.movas (ds := [.int top]) rfl (q ds' t s1 s2 hw' (tw.more (by omega)))
def sp_said : DSp := fun ss P _ => ∃ h p, ss = [.va (hpD h), .va (plD p)] ∧ Small h ∧ PlacesOk h p ∧ p.length ≤ 1000 ∧ P false (tx (joinT h p)) ss
theorem ok_law_said {f : Addr} {fd : FuncData} (F : Fun K "_law_said" "_law_said" s_law_said f fd) (hm : mg "_law_said" = some (.ref f)) (hb : Binds K fd ["heap", "places"] []) : Cal P w K mg base "_law_said" 1 ["heap", "places"] sp_said := by
  refine fn_ok F hm hb sc_law_said (by rintro ss P W ⟨_, _, rfl, _⟩; rfl) ?_
  rintro cdv A outer s H E hr ss Q W ⟨h, p, rfl, hs, hp, hl, q⟩
  refine sd_one (s1_retD (em_meth PySem.F.slot_str_join PySem.F.type_str_join (em_str ⟨_, rfl, am_cons ?_⟩)))
  refine em_fm (.nm 2) [("place", 2)] rfl sc_law_said.nd (blkOk_by (N := N_law_said) (sc := defScope s_law_said) (by decide +kernel)) (fun _ _ _ _ _ => pg_nm sc_law_said.nd) (by decide) (.map PyData.int (fun i => tx (shr h i)) (im_tuple (em_var 1 rfl ⟨_, rfl, p, rfl, small_line (by omega), fun i hi => ?_, ?_⟩)))
  · obtain ⟨h0, h1⟩ := hp i hi
    exact ⟨_, rfl, fun _ _ _ _ _ => em_ix (fun _ _ => rfl) (em_var 0 rfl (em_var 2 rfl (id_tuple (d := tx (shr h i)) (hp_at h0 h1) ⟨rfl, rfl⟩)))⟩
  · refine am_nil ?_
    have e : p.map (fun i => tx (shr h i)) = ((p.map (shr h)).map S).map .str := by simp [Function.comp_def]
    rw [e]
    refine md_join ?_ ?_
    · have b := sum_le p (fun i => (shr h i).length) 11 (shr_le hs)
      have e2 : (((p.map (shr h)).map S).map (·.length)) = p.map fun i => (shr h i).length := by
        rw [List.map_map, List.map_map]
        refine List.map_congr_left fun i _ => ?_
        exact S_len _
      rw [e2, List.length_map, List.length_map]
      have : (Str.ofString "").length = 0 := rfl
      rw [this]
      omega
    · refine FinP.va (ds := [hpD h, plD p]) ?_
      rw [show Str.ofString "" = S [] from rfl, join0]
      exact q
/-- how far from the begin the inner ends are -/
def endsAt (h : List (List Nat)) (p : List Int) : List Int := (List.range (p.length - 1)).map fun i => ((joinT h (p.take (i + 1))).length : Int)
def sp_ends : DSp := fun ss P _ => ∃ h p, ss = [.va (hpD h), .va (plD p)] ∧ Small h ∧ PlacesOk h p ∧ p.length ≤ 1000 ∧ P false (.list ((endsAt h p).map .int)) ss
theorem ok_law_ends {f : Addr} {fd : FuncData} (B : Bare mg) (c1 : Cal P w K mg base "_law_said" 1 ["heap", "places"] sp_said) (F : Fun K "_law_ends" "_law_ends" s_law_ends f fd) (hm : mg "_law_ends" = some (.ref f)) (hb : Binds K fd ["heap", "places"] []) : Cal P w K mg base "_law_ends" 2 ["heap", "places"] sp_ends := by
  refine fn_ok F hm hb sc_law_ends (by rintro ss P W ⟨_, _, rfl, _⟩; rfl) ?_
  rintro cdv A outer s H E hr ss Q W ⟨h, p, rfl, hs, hp, hl, q⟩
  refine sd_cons (s1_setFm 2 (.nm 3) [("at", 3)] rfl sc_law_ends.nd (blkOk_by (N := N_law_ends) (sc := defScope s_law_ends) (by decide +kernel)) (fun _ _ _ _ _ => pg_nm sc_law_ends.nd) (by decide) (.map (fun i : Nat => PyData.int (1 + (i : Int))) (fun i => .int ((joinT h (p.take (i + 1))).length : Int)) (im_range2 B.range_ (em_int (em_callB B.len PySem.boot_len (am_cons (em_var 1 rfl (am_nil (kd_len_tuple ⟨1, _, rfl, rfl, by decide, by decide, by omega, by rw [List.length_map]; omega, List.range (((p.map PyData.int).length : Int) - 1).toNat, rfl, small_line (by simp; omega), fun i hi => ⟨_, rfl, fun _ _ _ _ _ => ?_⟩, fun p2 => ?_⟩)))))))))
  · have ec : cut (p.map PyData.int) none (some (1 + (i : Int))) = (p.take (i + 1)).map PyData.int := by
      have := cut_take (p.map PyData.int) (i + 1)
      rw [show ((i + 1 : Nat) : Int) = 1 + (i : Int) by omega] at this
      rw [this, List.map_take]
    refine em_callB B.len PySem.boot_len (am_cons (em_call c1 (hr.mono (by decide)) (am_cons (em_var 0 rfl (am_cons (em_sl (em_var 1 rfl (om_none (om_some (em_var 3 rfl ⟨_, rfl, ld_tuple ?_⟩))))))))))
    rw [ec]
    have jl := joinT_le hs (p.take (i + 1))
    rw [List.length_take] at jl
    refine am_nil ⟨W0, fun _ z => z.elim, h, p.take (i + 1), rfl, hs, fun j m => hp j (List.mem_of_mem_take m), by rw [List.length_take]; omega, am_nil (kd_len_str (by rw [S_len]; exact small_line (by omega)) ⟨rfl, ?_⟩)⟩
    rw [S_len]
  · have e : (List.range (((p.map PyData.int).length : Int) - 1).toNat).map (fun i => PyData.int ((joinT h (p.take (i + 1))).length : Int)) = (endsAt h p).map PyData.int := by
      unfold endsAt
      rw [List.map_map, List.length_map, show ((p.length : Int) - 1).toNat = p.length - 1 by omega]
      rfl
    rw [e]
    refine sd_freeze 2 rfl (fz_lst _) (sd_one (s1_ret (em_var 2 rfl (FinP.va (ds := [hpD h, plD p]) q))))
end

/-! ### the words of a refusal -/
def wdL : List Str := ["heap", "standing", "laying", "length", "full", "own", "value"].map Str.ofString
theorem split_words : Txt.split (Str.ofString "heap standing laying length full own value") (Str.ofString " ") = wdL := by decide +kernel
/-- the refusals of the program: their classes -/
structure Errs (K : PySem.W.Frag) (mg : Str → Option Value) (a : Nat → Addr) (t : Addr) : Prop where
  m0 : mg "NoHeap" = some (.ref (a 0))
  m1 : mg "NoStanding" = some (.ref (a 1))
  m2 : mg "NoLaying" = some (.ref (a 2))
  m3 : mg "NoLength" = some (.ref (a 3))
  m4 : mg "Full" = some (.ref (a 4))
  mt : mg "TornError" = some (.ref t)
  mv : mg "ValueError" = none
  ec : ∀ c, c < 5 → ExcC K (a c)
  kit : ∀ c, c < 5 → ∀ i, i < 5 → PySem.W.kitOne K (.ref (a c)) (.ref (a i)) = some (decide (c = i))
  kt : ∀ c, c < 5 → PySem.W.kitOne K (.ref (a c)) (.ref t) = some true
  kv : ∀ c, c < 5 → PySem.W.kitOne K (.ref (a c)) (.type "ValueError") = some true
def wdD (c : Nat) : D := .str (wdL.getD c ⟨#[]⟩)
def bsK (c : Nat) : List Bool := [decide (c = 0), decide (c = 1), decide (c = 2), decide (c = 3), decide (c = 4), true, true]
def selK (bs : List Bool) (i : Nat) : List D := ((wdL.zip bs).take i).filterMap fun x => if x.2 = true then some (PyData.str x.1) else none
theorem selK_succ {bs : List Bool} {i : Nat} {w : Str} {b : Bool} (hw : wdL[i]? = some w) (hb : bs[i]? = some b) : selK bs (i + 1) = selK bs i ++ if b = true then [.str w] else [] := by
  unfold selK
  have : (wdL.zip bs)[i]? = some (w, b) := List.getElem?_zip_eq_some.mpr ⟨hw, hb⟩
  rw [List.take_add_one, this, List.filterMap_append]
  congr 1
  cases b <;> rfl
theorem selK_all {c : Nat} (hc : c < 5) : selK (bsK c) 7 = [wdD c, .str "own", .str "value"] := by
  have : c = 0 ∨ c = 1 ∨ c = 2 ∨ c = 3 ∨ c = 4 := by omega
  rcases this with rfl | rfl | rfl | rfl | rfl <;> rfl
theorem roomH_units {k : Nat} {A : Around} (r : L2H.RoomH k A) : A.units + 64 < cLine := by have := r.un; omega
theorem boot_ValueError : bootBuiltins "ValueError" = some (.type "ValueError") := by decide +kernel
section
variable {P : Program} {w : World} {K : PySem.W.Frag} {mg : Str → Option Value} {base : Heap} {ea : Nat → Addr} {et : Addr}
def sp_kinds (ea : Nat → Addr) : Addr × Obj → (Bool → D → Prop) → Prop := fun p Q => ∃ c, c < 5 ∧ Zc (.ref (ea c)) none p.2 ∧ (∃ vs, p.2.data = .fields vs) ∧ Q true (.list [wdD c, .str "own", .str "value"])
theorem ok_law_kinds {f : Addr} {fd : FuncData} (B : Bare mg) (Er : Errs K mg ea et) (F : Fun K "_law_kinds" "_law_kinds" s_law_kinds f fd) (hm : mg "_law_kinds" = some (.ref f)) (hb : Binds K fd ["e"] []) : CalE P w K mg base "_law_kinds" 1 (sp_kinds ea) := by
  refine fnE_ok F hm hb sc_law_kinds ?_
  rintro cdv A outer s H E p hot hr Q ⟨c, hc, hz, hf, q⟩
  have hp : p ∈ [p] := List.mem_singleton.mpr rfl
  have Ec := Er.ec c hc
  refine sd_cons (s1_set 1 sc_law_kinds.nd (vm_data (em_lst (am_cons (em_isP 0 hp Ec hz hf B.isinstance_ Er.m0 (Er.kit c hc 0 (by decide)) rfl (am_cons (em_isP 0 hp Ec hz hf B.isinstance_ Er.m1 (Er.kit c hc 1 (by decide)) rfl (am_cons (em_isP 0 hp Ec hz hf B.isinstance_ Er.m2 (Er.kit c hc 2 (by decide)) rfl (am_cons (em_isP 0 hp Ec hz hf B.isinstance_ Er.m3 (Er.kit c hc 3 (by decide)) rfl (am_nil ⟨small_line (by simp), rfl, ?_⟩))))))))))))
  refine sd_cons (s1_set 1 sc_law_kinds.nd (vm_data (em_bin (em_var 1 rfl (em_lst (am_cons (em_isP 0 hp Ec hz hf B.isinstance_ Er.m4 (Er.kit c hc 4 (by decide)) rfl (am_cons (em_isP 0 hp Ec hz hf B.isinstance_ Er.mt (Er.kt c hc) rfl (am_cons (em_isPT 0 hp Ec hz hf B.isinstance_ Er.mv boot_ValueError (Er.kv c hc) rfl (am_nil ⟨small_line (by simp), rfl, fd_add_list (small_line (by simp)) ?_⟩))))))))))))
  refine sd_cons (s1_set 2 sc_law_kinds.nd (vm_data (em_str ?_)))
  refine sd_re (ρ' := [.rw (.ref p.1), .va (.list ((bsK c).map .bool)), .va (.str "heap standing laying length full own value"), .no, .no]) rfl ?_
  refine sd_one (s1_ret (em_lcH (.tp [.nm 3, .nm 4]) [("word", 3), ("good", 4)] hot hp sc_law_kinds.nd (blkOk_by (N := N_law_kinds) (sc := defScope s_law_kinds) (by decide +kernel)) (fun _ _ _ _ _ => pg_tpH (hot_bk hot) (pgs_1 (pg_nm sc_law_kinds.nd) (pgs_1 (pg_nm sc_law_kinds.nd) pgs_0))) (by decide) (im_zipH B.zip_ (am_cons (em_meth PySem.F.slot_str_split PySem.F.type_str_split (em_var 2 rfl ⟨_, rfl, am_cons (em_str (am_nil (md_split (by decide +kernel) (small_line (by decide +kernel)) (am_cons (em_var 1 rfl (am_nil ⟨_, _, rfl, ?_, ?_⟩))))))⟩))))))
  · rw [split_words, List.length_map, List.length_map]
    exact Nat.le_refl 7
  rw [split_words]
  refine ⟨fun i ys ρ => ρ = [.rw (.ref p.1), .va (.list ((bsK c).map .bool)), .va (.str "heap standing laying length full own value"), .no, .no] ∧ ys = selK (bsK c) i ∧ ys.length ≤ i, ⟨rfl, rfl, Nat.le_refl _⟩, ?_, ?_⟩
  · rintro i d ys ρ2 hd ⟨rfl, rfl, li⟩
    have hi : i < 7 := by
      have := (List.getElem?_eq_some_iff.mp hd).1
      rw [zipD_len, List.length_map, List.length_map] at this
      exact this
    obtain ⟨w0, hw⟩ : ∃ w0, wdL[i]? = some w0 := ⟨_, List.getElem?_eq_getElem (show i < wdL.length from hi)⟩
    obtain ⟨b0, hb0⟩ : ∃ b0, (bsK c)[i]? = some b0 := ⟨_, List.getElem?_eq_getElem (show i < (bsK c).length from hi)⟩
    have e := zipD_at (ds := wdL.map PyData.str) (es := (bsK c).map PyData.bool) (i := i) (by rw [List.getElem?_map, hw]; rfl) (by rw [List.getElem?_map, hb0]; rfl)
    rw [e] at hd
    cases hd
    have es := selK_succ hw hb0
    refine ⟨_, rfl, fun _ _ _ _ _ => tm_val (em_var 4 rfl ⟨b0, rfl, fun k => fun _ _ _ _ _ => em_var 3 rfl ⟨rfl, ?_, rfl, ?_, ?_⟩, fun k => ⟨rfl, ?_, by omega⟩⟩)⟩
    · rw [sizeLine_eq]; omega
    · rw [es, k]; rfl
    · rw [List.length_append]; simp; omega
    · rw [es, k]; simp
  · rintro ys ρ2 ⟨rfl, rfl, li⟩
    have e7 : (zipD (wdL.map PyData.str) ((bsK c).map PyData.bool)).length = 7 := by rw [zipD_len, List.length_map, List.length_map]; rfl
    rw [e7, selK_all hc]
    exact q
def sp_refusal (ea : Nat → Addr) : Addr × Obj → (Bool → D → Prop) → Prop := fun p Q => ∃ c, c < 5 ∧ Zc (.ref (ea c)) none p.2 ∧ (∃ vs, p.2.data = .fields vs) ∧ Q false (wdD c)
theorem ok_law_refusal {f : Addr} {fd : FuncData} (B : Bare mg) (c1 : CalE P w K mg base "_law_kinds" 1 (sp_kinds ea)) (F : Fun K "_law_refusal" "_law_refusal" s_law_refusal f fd) (hm : mg "_law_refusal" = some (.ref f)) (hb : Binds K fd ["e"] []) : CalE P w K mg base "_law_refusal" 2 (sp_refusal ea) := by
  refine fnE_ok F hm hb sc_law_refusal ?_
  rintro cdv A outer s H E p hot hr Q ⟨c, hc, hz, hf, q⟩
  have hp : p ∈ [p] := List.mem_singleton.mpr rfl
  refine sd_cons (s1_set 1 sc_law_refusal.nd (vm_data (em_callE 0 c1 hr hot hp rfl ⟨c, hc, hz, hf, ?_⟩)))
  refine sd_one (s1_ret (em_ite (tm_cmp (nomark _) (em_sl (em_var 1 rfl (om_some (em_int ⟨_, rfl, om_none (ld_list ?_)⟩)))))))
  rw [show cut [wdD c, PyData.str "own", PyData.str "value"] (some 1) none = [PyData.str "own", PyData.str "value"] from rfl]
  refine em_lst (am_cons (em_str (am_cons (em_str (am_nil ⟨small_line (by simp), rfl, fd_eq (roomH_units hr) (by decide +kernel) (by decide +kernel) ⟨_, rfl, fun _ => ?_, fun z => ?_⟩⟩)))))
  · exact em_ix (fun _ _ => rfl) (em_var 1 rfl (em_int (id_list (d := wdD c) rfl q)))
  · exact absurd z (by simp [PyData.eqv, PyData.eqvAll])
end

theorem ends_of {t : List Nat} {s : List Int} (nd : s.Nodup) (r : ∀ x ∈ s, 1 ≤ x ∧ x < t.length) (t0 : 0 < t.length) : ∃ e : Nat → Nat, Ends e (s.length + 1) t.length ∧ (∀ i, 0 < i → i < s.length + 1 → ((e i : Nat) : Int) ∈ s) ∧ ∀ u, cutsL u (endsOf t s) = pce u e (s.length + 1) := by
  have so : (s.mergeSort fun a b => decide (a ≤ b)).Pairwise fun a b => decide (a ≤ b) = true := List.pairwise_mergeSort (fun a b c h1 h2 => by
    simp only [decide_eq_true_eq] at *
    omega) (fun a b => by
    simp only [Bool.or_eq_true, decide_eq_true_eq]
    omega) _
  have pm : (s.mergeSort fun a b => decide (a ≤ b)).Perm s := List.mergeSort_perm _ _
  have sl := pm.length_eq
  have ndo := pm.nodup_iff.mpr nd
  have slt : (s.mergeSort fun a b => decide (a ≤ b)).Pairwise (· < ·) := (so.and ndo).imp fun {a b} h => by
    have := of_decide_eq_true h.1
    have := h.2
    omega
  have mem : ∀ x, x ∈ (s.mergeSort fun a b => decide (a ≤ b)) → x ∈ s := fun x m => pm.mem_iff.mp m
  have le : (endsOf t s).length = s.length + 2 := by
    unfold endsOf
    simp
  have pw : (endsOf t s).Pairwise (· < ·) := by
    unfold endsOf
    rw [List.pairwise_append]
    refine ⟨?_, List.pairwise_singleton _ _, fun a ha b hb => ?_⟩
    · rw [List.pairwise_append]
      refine ⟨List.pairwise_singleton _ _, slt, fun a ha b hb => ?_⟩
      rw [List.mem_singleton.mp ha]
      have := r b (mem b hb)
      omega
    · rw [List.mem_singleton.mp hb]
      rcases List.mem_append.mp ha with ha | ha
      · rw [List.mem_singleton.mp ha]
        omega
      · exact (r a (mem a ha)).2
  have g0 : (endsOf t s).getD 0 0 = 0 := by
    unfold endsOf
    rfl
  have gm : (endsOf t s).getD (s.length + 1) 0 = (t.length : Int) := by
    unfold endsOf
    rw [List.getD_eq_getElem?_getD, List.getElem?_append_right (by simp [sl])]
    simp [sl]
  have gi : ∀ i, 0 < i → i < s.length + 1 → (endsOf t s).getD i 0 ∈ s := by
    intro i i0 hi
    obtain ⟨j, rfl⟩ : ∃ j, i = j + 1 := ⟨i - 1, by omega⟩
    unfold endsOf
    rw [List.getD_eq_getElem?_getD, List.getElem?_append_left (by simp [sl]; omega), List.singleton_append, List.getElem?_cons_succ, List.getElem?_eq_getElem (by omega)]
    exact mem _ (List.getElem_mem _)
  have nn : ∀ i, i < s.length + 2 → 0 ≤ (endsOf t s).getD i 0 := by
    intro i hi
    by_cases a : i = 0
    · rw [a, g0]; exact Int.le_refl _
    · by_cases b : i = s.length + 1
      · rw [b, gm]; omega
      · have := r _ (gi i (by omega) (by omega))
        omega
  refine ⟨fun i => ((endsOf t s).getD i 0).toNat, ⟨?_, ?_, fun i hi => ?_⟩, fun i i0 hi => ?_, fun u => ?_⟩
  · show ((endsOf t s).getD 0 0).toNat = 0
    rw [g0]
    rfl
  · show ((endsOf t s).getD (s.length + 1) 0).toNat = t.length
    rw [gm]
    omega
  · have q := List.pairwise_iff_getElem.mp pw i (i + 1) (by omega) (by omega) (by omega)
    have h1 : (endsOf t s).getD i 0 = (endsOf t s)[i] := by rw [List.getD_eq_getElem?_getD, List.getElem?_eq_getElem (by omega : i < (endsOf t s).length)]; rfl
    have h2 : (endsOf t s).getD (i + 1) 0 = (endsOf t s)[i + 1] := by rw [List.getD_eq_getElem?_getD, List.getElem?_eq_getElem (by omega : i + 1 < (endsOf t s).length)]; rfl
    have n1 := nn i (by omega)
    show ((endsOf t s).getD i 0).toNat < ((endsOf t s).getD (i + 1) 0).toNat
    rw [h1] at n1 ⊢
    rw [h2]
    omega
  · have := nn i (by omega)
    show ((((endsOf t s).getD i 0).toNat : Nat) : Int) ∈ s
    rw [Int.toNat_of_nonneg this]
    exact gi i i0 hi
  · unfold cutsL pce
    rw [le]
    refine List.map_congr_left fun i hi => ?_
    have hi := List.mem_range.mp hi
    have n1 := nn i (by omega)
    have n2 := nn (i + 1) (by omega)
    have := cut_mid u ((endsOf t s).getD i 0).toNat ((endsOf t s).getD (i + 1) 0).toNat
    rw [Int.toNat_of_nonneg n1, Int.toNat_of_nonneg n2] at this
    exact this

/-! ### heaps drawn -/
/-- texts of which a heap can be made -/
structure Rws (top : Int) (l : List (List Nat)) : Prop where
  lo : 2 ≤ l.length
  hi : (l.length : Int) ≤ top
  each : ∀ s ∈ l, 1 ≤ s.length ∧ s.length ≤ 10 ∧ ∀ c ∈ s, 97 ≤ c ∧ c ≤ 104
theorem ch_lett {c : Nat} (h : 97 ≤ c ∧ c ≤ 104) : c ∈ lettersL := by
  have : c = 97 ∨ c = 98 ∨ c = 99 ∨ c = 100 ∨ c = 101 ∨ c = 102 ∨ c = 103 ∨ c = 104 := by omega
  rcases this with rfl | rfl | rfl | rfl | rfl | rfl | rfl | rfl <;> decide
def srt (l : List (List Nat)) : List (List Nat) := l.mergeSort fun a b => decide (a ≤ b)
theorem srt_perm (l : List (List Nat)) : (srt l).Perm l := List.mergeSort_perm _ _
theorem srt_pw (l : List (List Nat)) : (srt l).Pairwise (· ≤ ·) := by
  refine (List.pairwise_mergeSort (le := fun a b : List Nat => decide (a ≤ b)) (fun a b c h1 h2 => ?_) (fun a b => ?_) _).imp fun h => of_decide_eq_true h
  · simp only [decide_eq_true_eq] at *
    exact List.le_trans h1 h2
  · simp only [Bool.or_eq_true, decide_eq_true_eq]
    exact List.le_total a b
theorem Rws.hv {top : Int} {l : List (List Nat)} (r : Rws top l) (t8 : top ≤ 8) : Hv (srt l) := by
  have e := (srt_perm l).length_eq
  have h1 := r.lo
  have h2 := r.hi
  refine ⟨by omega, by omega, fun s m => ?_, srt_pw l⟩
  obtain ⟨a, b, c⟩ := r.each s ((srt_perm l).mem_iff.mp m)
  exact ⟨a, b, fun x mx => ch_lett (c x mx)⟩
theorem Rws.set {top : Int} {l : List (List Nat)} (r : Rws top l) (k : Nat) {s : List Nat} (h1 : 1 ≤ s.length) (h2 : s.length ≤ 10) (h3 : ∀ c ∈ s, 97 ≤ c ∧ c ≤ 104) : Rws top (l.set k s) := by
  refine ⟨by rw [List.length_set]; exact r.lo, by rw [List.length_set]; exact r.hi, fun x m => ?_⟩
  rcases List.mem_or_eq_of_mem_set m with m | rfl
  · exact r.each x m
  · exact ⟨h1, h2, h3⟩
theorem Rws.add {top : Int} {l : List (List Nat)} (r : Rws top l) (hl : (l.length : Int) < top) {s : List Nat} (h1 : 1 ≤ s.length) (h2 : s.length ≤ 10) (h3 : ∀ c ∈ s, 97 ≤ c ∧ c ≤ 104) : Rws top (l ++ [s]) := by
  have := r.lo
  refine ⟨by rw [List.length_append]; omega, by rw [List.length_append, List.length_singleton]; omega, fun x m => ?_⟩
  rcases List.mem_append.mp m with m | m
  · exact r.each x m
  · rw [List.mem_singleton.mp m]
    exact ⟨h1, h2, h3⟩
theorem cuts_each {t : List Nat} {s : List Int} (nd : s.Nodup) (r : ∀ x ∈ s, 1 ≤ x ∧ x < t.length) (t0 : 0 < t.length) : (cutsL t (endsOf t s)).length = s.length + 1 ∧ ∀ x ∈ cutsL t (endsOf t s), 1 ≤ x.length ∧ x.length ≤ t.length ∧ ∀ c ∈ x, c ∈ t := by
  obtain ⟨e, E, _, k⟩ := ends_of nd r t0
  rw [k t]
  exact ⟨pce_len _ _ _, fun x m => pce_each E m⟩
theorem Tw.rws {t : List Nat} {s1 s2 : List Int} {top : Int} (w : Tw t s1 s2 top) : Rws top (cutsL t (endsOf t s1) ++ cutsL t (endsOf t s2)) := by
  have t0 := w.lo
  have t1 := w.hi
  have c := w.ct
  obtain ⟨a1, b1⟩ := cuts_each w.n1 w.r1 (by omega)
  obtain ⟨a2, b2⟩ := cuts_each w.n2 w.r2 (by omega)
  refine ⟨by rw [List.length_append, a1, a2]; omega, by rw [List.length_append, a1, a2]; omega, fun x m => ?_⟩
  rcases List.mem_append.mp m with m | m
  · obtain ⟨p, q, r⟩ := b1 x m
    exact ⟨p, by omega, fun y my => w.ch y (r y my)⟩
  · obtain ⟨p, q, r⟩ := b2 x m
    exact ⟨p, by omega, fun y my => w.ch y (r y my)⟩
theorem kd_sortTup {X : Cx} {l : List (List Nat)} {Q : Bool → D → Prop} (hu : X.A.units + 64 < cLine) (hl : l.length ≤ 1000000) (q : Q true (.list ((srt l).map tx))) : KD X (.builtin "sorted") [.list (l.map tx)] Q := by
  refine kd_sorted_list hu (sorts_tx (small_line hl)) ?_
  rw [dle_tx]
  exact q
section
variable {P : Program} {w : World} {K : PySem.W.Frag} {mg : Str → Option Value} {base : Heap}
def sp_heap : DSp := fun ss Q _ => ∃ p ds top, ss = [.mo p (.lst ds), .va (.int top)] ∧ WellOk ds ∧ 2 ≤ top ∧ top ≤ 8 ∧ ∀ ds' l, WellOk ds' → Rws top l → Q false (hpD (srt l)) [.mo p (.lst ds'), .va (.int top)]
set_option maxHeartbeats 2000000 in
theorem ok_law_heap {f : Addr} {fd : FuncData} (B : Bare mg) (c1 : Cal P w K mg base "_law_take" 1 ["well", "many"] sp_take) (c2 : Cal P w K mg base "_law_signs" 2 ["well", "many", "kinds"] sp_signs) (c3 : Cal P w K mg base "_law_twins" 3 ["well", "top"] sp_twins) (F : Fun K "_law_heap" "_law_heap" s_law_heap f fd) (hm : mg "_law_heap" = some (.ref f)) (hb : Binds K fd ["well", "top"] []) : Cal P w K mg base "_law_heap" 4 ["well", "top"] sp_heap := by
  refine fn_ok F hm hb sc_law_heap (by rintro ss P W ⟨_, _, _, rfl, _⟩; rfl) ?_
  rintro cdv A outer s H E hr ss Q W ⟨p, ds, top, rfl, hw, t2, t8, q⟩
  have gd : ∀ {ρ : List Sl} {m : MO}, ρ[0]? = some (.mo p m) → ∀ as : List Arg, slotsOf as = [0] → GoodArgs ρ as := fun h as e => ⟨by rw [e]; simp, fun j hj => by rw [e] at hj; rw [List.mem_singleton.mp hj]; exact ⟨p, _, h⟩⟩
  refine sd_cons (s1_set 2 sc_law_heap.nd (vm_data (em_callM c1 (hr.mono (by decide)) (zm_s 0 rfl (zm_d (em_int (zm_nil ⟨gd rfl _ rfl, p, ds, 6, rfl, hw, by decide, by decide, fun ds2 way hw2 w0 w1 => ?_⟩)))))))
  refine sd_re (ρ' := [.mo p (.lst ds2), .va (.int top), .va (.int way), .no, .no, .no, .no, .no, .no, .no, .no]) rfl ?_
  refine sd_cons (s1_if (tm_cmp (nomark _) (em_var 2 rfl (em_int (fd_eq_int ⟨_, rfl, fun k1 => ?_, fun k1 => sd_nil ?_⟩)))))
  · refine sd_cons (s1_set 3 sc_law_heap.nd (vm_data (em_bin (em_int (em_callM c1 (hr.mono (by decide)) (zm_s 0 rfl (zm_d (em_int (zm_nil ⟨gd rfl _ rfl, p, ds2, 3, rfl, hw2, by decide, by decide, fun ds3 r3 hw3 r30 r31 => fd_add_int ?_⟩)))))))))
    refine sd_re (ρ' := [.mo p (.lst ds3), .va (.int top), .va (.int way), .va (.int (1 + r3)), .no, .no, .no, .no, .no, .no, .no]) rfl ?_
    refine sd_cons (s1_set 4 sc_law_heap.nd (vm_data (em_bin (em_int (em_callM c1 (hr.mono (by decide)) (zm_s 0 rfl (zm_d (em_bin (em_var 1 rfl (em_int (fd_sub_int (zm_nil ⟨gd rfl _ rfl, p, ds3, top - 1, rfl, hw3, by omega, by omega, fun ds4 r4 hw4 r40 r41 => fd_add_int ?_⟩))))))))))))
    refine sd_re (ρ' := [.mo p (.lst ds4), .va (.int top), .va (.int way), .va (.int (1 + r3)), .va (.int (2 + r4)), .no, .no, .no, .no, .no, .no]) rfl ?_
    refine sd_one (s1_ret (em_callTy B.tuple_ PyProof.Rows.boot_tuple (am_cons (em_callB B.sorted_ PyProof.Rows.boot_sorted (am_cons ?_)))))
    refine em_lc (.nm 10) [("turn", 10)] rfl sc_law_heap.nd (blkOk_by (N := N_law_heap) (sc := defScope s_law_heap) (by decide +kernel)) (fun _ _ _ _ _ => pg_nm sc_law_heap.nd) (by decide) ?_
    refine im_range1 B.range_ (em_var 4 rfl ⟨2 + r4, rfl, by omega, by omega, fun i ys ρ => ∃ ds' l, WellOk ds' ∧ l.length = i ∧ (∀ s ∈ l, 1 ≤ s.length ∧ s.length ≤ 10 ∧ ∀ c ∈ s, 97 ≤ c ∧ c ≤ 104) ∧ ys = l.map tx ∧ ρ = [.mo p (.lst ds'), .va (.int top), .va (.int way), .va (.int (1 + r3)), .va (.int (2 + r4)), .no, .no, .no, .no, .no, .no], ⟨ds4, [], hw4, rfl, fun _ m => absurd m List.not_mem_nil, rfl, rfl⟩, ?_, ?_⟩)
    · rintro i d ys ρ2 hd ⟨ds', l, hw', hl, hc, rfl, rfl⟩
      have hi : i < (2 + r4).toNat := by
        have := (List.getElem?_eq_some_iff.mp hd).1
        simpa [rngD] using this
      refine ⟨_, rfl, fun _ _ _ _ _ => ⟨fun _ _ _ _ _ _ => ?_, fun z => Bool.noConfusion z⟩⟩
      refine em_callM c2 (hr.mono (by decide)) (zm_s 0 rfl (zm_d (em_bin (em_int (em_callM c1 (hr.mono (by decide)) (zm_s 0 rfl (zm_d (em_int (zm_nil ⟨gd rfl _ rfl, p, ds', 4, rfl, hw', by decide, by decide, fun ds5 r5 hw5 r50 r51 => fd_add_int (zm_d (em_var 3 rfl (zm_nil ⟨gd rfl _ rfl, p, ds5, 1 + r5, 1 + r3, rfl, hw5, by omega, by omega, by omega, by omega, fun ds6 t hw6 tl tc => ?_⟩)))⟩)))))))))
      refine ⟨rfl, ?_, ds6, l ++ [t], hw6, by simp [hl], fun s m => ?_, by simp, rfl⟩
      · rw [List.length_map, sizeLine_eq]
        omega
      · rcases List.mem_append.mp m with m | m
        · exact hc s m
        · rw [List.mem_singleton.mp m]
          exact ⟨by omega, by omega, tc⟩
    · rintro ys ρ2 ⟨ds', l, hw', hl, hc, rfl, rfl⟩
      have hl2 : (l.length : Int) = 2 + r4 := by
        rw [hl]
        simp [rngD]
        omega
      refine am_nil (kd_sortTup hr.units (by omega) (am_nil (kd_tuple_list ?_)))
      exact FinP.movas (ds := [.int top]) rfl (q _ l hw' ⟨by omega, by omega, hc⟩)
  have fin : ∀ ds' l a5 a6 a7 a9 p8, WellOk ds' → Rws top l → SD (cxOf (L2N.CX P w) P w K mg base N_law_heap "_law_heap" (defScope s_law_heap) f cdv A outer s H E) ((defBody s_law_heap).drop 6) [.mo p (.lst ds'), .va (.int top), .va (.int way), .no, .no, a5, a6, a7, .mo p8 (.lst (l.map tx)), a9, .no] W { nx := FinP [.mo p (.lst ds), .va (.int top)] Q false .none, rt := FinP [.mo p (.lst ds), .va (.int top)] Q } := by
    intro ds' l a5 a6 a7 a9 p8 hw' R
    have := R.hi
    refine sd_freeze 8 rfl (fz_lst _) (sd_one (s1_ret (em_callTy B.tuple_ PyProof.Rows.boot_tuple (am_cons (em_callB B.sorted_ PyProof.Rows.boot_sorted (am_cons (em_var 8 rfl (am_nil (kd_sortTup hr.units (by omega) (am_nil (kd_tuple_list ?_)))))))))))
    exact FinP.movas (ds := [.int top]) rfl (q _ l hw' R)
  refine sd_cons (s1_unpackL [.nm 5, .nm 6, .nm 7] rfl (pgs_1 (pg_nm sc_law_heap.nd) (pgs_1 (pg_nm sc_law_heap.nd) (pgs_1 (pg_nm sc_law_heap.nd) pgs_0))) (em_callM c3 (hr.mono (by decide)) (zm_s 0 rfl (zm_d (em_var 1 rfl (zm_nil ⟨gd rfl _ rfl, p, ds2, top, rfl, hw2, t2, t8, fun ds3 t s1 s2 hw3 tw => ⟨_, _, rfl, rfl, ?_⟩⟩))))))
  have R := tw.rws
  have Rhi := R.hi
  rw [List.length_append] at Rhi
  refine sd_re (ρ' := [.mo p (.lst ds3), .va (.int top), .va (.int way), .no, .no, .va (tx t), .va (.list ((cutsL t (endsOf t s1)).map tx)), .va (.list ((cutsL t (endsOf t s2)).map tx)), .no, .no, .no]) rfl ?_
  refine sd_cons (s1_set 8 sc_law_heap.nd (vm_own (em_bin (em_var 6 rfl (em_var 7 rfl (fd_add_list (small_line (by simp; omega)) ⟨rfl, _, rfl, fun p8 => ?_⟩))))))
  rw [← List.map_append]
  generalize hL : cutsL t (endsOf t s1) ++ cutsL t (endsOf t s2) = l at R
  generalize hA : Sl.va (tx t) = a5
  generalize hB : Sl.va (.list ((cutsL t (endsOf t s1)).map tx)) = a6
  generalize hC : Sl.va (.list ((cutsL t (endsOf t s2)).map tx)) = a7
  have l2 := R.lo
  have l8 := R.hi
  refine sd_re (ρ' := [.mo p (.lst ds3), .va (.int top), .va (.int way), .no, .no, a5, a6, a7, .mo p8 (.lst (l.map tx)), .no, .no]) rfl ?_
  have step2 : ∀ ds' l a9, WellOk ds' → Rws top l → SD (cxOf (L2N.CX P w) P w K mg base N_law_heap "_law_heap" (defScope s_law_heap) f cdv A outer s H E) ((defBody s_law_heap).drop 5) [.mo p (.lst ds'), .va (.int top), .va (.int way), .no, .no, a5, a6, a7, .mo p8 (.lst (l.map tx)), a9, .no] W { nx := FinP [.mo p (.lst ds), .va (.int top)] Q false .none, rt := FinP [.mo p (.lst ds), .va (.int top)] Q } := by
    intro ds' l a9 hw' R
    have l8 := R.hi
    refine sd_cons (s1_if (tm_of_um (um_and (tm_cmp (nomark _) (em_var 2 rfl (em_int (fd_eq_int ⟨_, rfl, fun k2 => ?_, fun k2 => ⟨fun z => Bool.noConfusion z, fun _ => sd_nil (fin ds' l _ _ _ _ _ hw' R)⟩⟩)))))))
    refine um_and1 (tm_cmp (nomark _) (em_view 8 rfl (fz_lst _) (em_callB B.len PySem.boot_len (am_cons (em_var 8 rfl (am_nil (kd_len_list ⟨rfl, em_var 1 rfl (fd_lt ⟨_, rfl, fun k3 => ?_, fun k3 => sd_nil (fin ds' l _ _ _ _ _ hw' R)⟩)⟩)))))))
    rw [List.length_map] at k3
    have k3' := of_decide_eq_true k3
    refine sd_one (s1_expr (em_append 8 rfl (em_callM c2 (hr.mono (by decide)) (zm_s 0 rfl (zm_d (em_bin (em_int (em_callM c1 (hr.mono (by decide)) (zm_s 0 rfl (zm_d (em_int (zm_nil ⟨gd rfl _ rfl, p, ds', 3, rfl, hw', by decide, by decide, fun ds5 r5 hw5 r50 r51 => fd_add_int (zm_d (em_int (zm_nil ⟨gd rfl _ rfl, p, ds5, 1 + r5, 2, rfl, hw5, by omega, by omega, by omega, by omega, fun ds6 t6 hw6 tl tc => ⟨_, rfl, rfl, ?_, ?_⟩⟩)))⟩))))))))))))
    · rw [List.length_map, sizeLine_eq]
      omega
    · have := fin ds6 (l ++ [t6]) a5 a6 a7 a9 p8 hw6 (R.add k3' (by omega) (by omega) tc)
      rw [List.map_append] at this
      exact this
  refine sd_cons (s1_if (tm_cmp (nomark _) (em_var 2 rfl (em_int (fd_eq_int ⟨_, rfl, fun k2 => ?_, fun k2 => sd_nil (step2 ds3 l _ hw3 R)⟩)))))
  refine sd_cons (s1_set 9 sc_law_heap.nd (vm_data (em_callM c1 (hr.mono (by decide)) (zm_s 0 rfl (zm_d (em_view 8 rfl (fz_lst _) (em_callB B.len PySem.boot_len (am_cons (em_var 8 rfl (am_nil (kd_len_list ⟨rfl, zm_nil ⟨gd rfl _ rfl, p, ds3, ((l.map tx).length : Int), rfl, hw3, by simp; omega, by simp; omega, fun ds4 at1 hw4 at0 at2 => ?_⟩⟩)))))))))))
  rw [List.length_map] at at2
  refine sd_re (ρ' := [.mo p (.lst ds4), .va (.int top), .va (.int way), .no, .no, a5, a6, a7, .mo p8 (.lst (l.map tx)), .va (.int at1), .no]) rfl ?_
  have hat : at1.toNat < l.length := by omega
  have hx : l[at1.toNat]? = some l[at1.toNat] := List.getElem?_eq_getElem hat
  obtain ⟨e1, e2, e3⟩ := R.each _ (List.getElem_mem hat)
  generalize l[at1.toNat] = x at hx e1 e2 e3
  refine sd_one (s1_setItem 8 rfl (em_callM c2 (hr.mono (by decide)) (zm_s 0 rfl (zm_d (em_callB B.len PySem.boot_len (am_cons (em_ixOwn 8 rfl (fun _ _ => rfl) (em_var 9 rfl ⟨at1, _, tx x, rfl, rfl, atI_of at0 (by rw [List.getElem?_map, hx]; rfl), am_nil (kd_len_str (by rw [S_len]; exact small_line (by omega)) (zm_d (em_int (zm_nil ⟨gd rfl _ rfl, p, ds4, ((S x).length : Int), 3, rfl, hw4, by omega, by rw [S_len]; omega, by decide, by decide, fun ds5 t5 hw5 tl tc => ⟨rfl, _, rfl, em_var 9 rfl ⟨_, at1.toNat, ?_, rfl, by rw [List.length_map]; exact hat, ?_⟩⟩⟩))))⟩))))))))
  · rw [Int.toNat_of_nonneg at0]
  · rw [S_len] at tl
    have := step2 ds5 (l.set at1.toNat t5) (.va (.int at1)) hw5 (R.set at1.toNat (by omega) (by omega) tc)
    rw [List.map_set] at this
    exact this
end

theorem eqv_ints : ∀ a b : List Int, PyData.eqvAll (a.map PyData.int) (b.map PyData.int) = decide (a = b)
  | [], [] => by simp [PyData.eqvAll]
  | [], _ :: _ => by simp [PyData.eqvAll]
  | _ :: _, [] => by simp [PyData.eqvAll]
  | x :: a, y :: b => by
    rw [List.map_cons, List.map_cons, PyData.eqvAll, eqv_ints a b]
    by_cases e : x = y
    · simp [PyData.eqv, e]
    · simp [PyData.eqv, e]
theorem eqv_intsL (a b : List Int) : PyData.eqv (.list (a.map .int)) (.list (b.map .int)) = decide (a = b) := by
  rw [PyData.eqv]
  exact eqv_ints a b
theorem eqv_intsT (a b : List Int) : PyData.eqv (.tuple (a.map .int)) (.tuple (b.map .int)) = decide (a = b) := by
  rw [PyData.eqv]
  exact eqv_ints a b
theorem rngD_rngI (n : Nat) : rngD 0 n = (rngI n).map PyData.int := by
  unfold rngD rngI
  rw [List.map_map]
  refine List.map_congr_left fun i _ => ?_
  simp
theorem sort_rng {u : List Int} {n : Nat} (p : u.Perm (rngI n)) : u.mergeSort (fun a b => decide (a ≤ b)) = rngI n := by
  have so : (u.mergeSort fun a b => decide (a ≤ b)).Pairwise fun a b => decide (a ≤ b) = true := List.pairwise_mergeSort (fun a b c h1 h2 => by
    simp only [decide_eq_true_eq] at *
    omega) (fun a b => by
    simp only [Bool.or_eq_true, decide_eq_true_eq]
    omega) _
  refine List.Perm.eq_of_pairwise (le := fun a b => a ≤ b) (fun a b _ _ h1 h2 => Int.le_antisymm h1 h2) (so.imp fun h => of_decide_eq_true h) ((rngI_lt n).imp fun h => Int.le_of_lt h) ((List.mergeSort_perm _ _).trans p)
theorem isNL_lay {h : List (List Nat)} (ne : ∀ s ∈ h, s ≠ []) {L : LY} (l : isNL h L) (h0 : 0 < h.length) : Lay h L.1 L.2 ∧ (0 : Int) ∈ L.1 := by
  obtain ⟨L', m, rfl⟩ := l
  have k := (mem_ordL ne).mp m
  unfold nrm
  split
  · rename_i c
    exact ⟨k, c⟩
  · rename_i c
    refine ⟨lay_swap ne k, ?_⟩
    have : (0 : Int) ∈ L'.1 ++ L'.2 := k.pm.mem_iff.mpr (mem_rngI.mpr ⟨Int.le_refl 0, by omega⟩)
    exact (List.mem_append.mp this).resolve_left c
theorem lay_apart {h : List (List Nat)} {A B : List Int} (l : Lay h A B) {x : Int} (m : x ∈ endsAt h A) : x ∉ endsAt h B := by
  intro m2
  unfold endsAt at m m2
  obtain ⟨i, hi, rfl⟩ := List.mem_map.mp m
  obtain ⟨j, hj, e⟩ := List.mem_map.mp m2
  have hi := List.mem_range.mp hi
  have hj := List.mem_range.mp hj
  exact l.nc (i + 1) (j + 1) (by omega) (by omega) (by omega) (by omega)
section
variable {P : Program} {w : World} {K : PySem.W.Frag} {mg : Str → Option Value} {base : Heap}
def sp_is_laid : DSp := fun ss P _ => ∃ h L, ss = [.va (hpD h), .va (lyD L)] ∧ Hv h ∧ (L.1 ++ L.2).Perm (rngI h.length) ∧ (0 : Int) ∈ L.1 ∧ P false (.bool (laidB h L)) ss
set_option maxHeartbeats 1000000 in
theorem ok_law_is_laid {f : Addr} {fd : FuncData} (B : Bare mg) (c1 : Cal P w K mg base "_law_is_int" 1 ["thing", "low", "high"] sp_is_int) (c2 : Cal P w K mg base "_law_said" 1 ["heap", "places"] sp_said) (c3 : Cal P w K mg base "_law_ends" 2 ["heap", "places"] sp_ends) (F : Fun K "_law_is_laid" "_law_is_laid" s_law_is_laid f fd) (hm : mg "_law_is_laid" = some (.ref f)) (hb : Binds K fd ["heap", "thing"] []) : Cal P w K mg base "_law_is_laid" 3 ["heap", "thing"] sp_is_laid := by
  refine fn_ok F hm hb sc_law_is_laid (by rintro ss P W ⟨_, _, rfl, _⟩; rfl) ?_
  rintro cdv A outer s H E hr ss Q W ⟨h, L, rfl, hv, pm, l0, q⟩
  have hs := hv.small
  have hlo := hv.lo
  have hhi := hv.hi
  have n1 : L.1 ≠ [] := fun e => by rw [e] at l0; exact absurd l0 List.not_mem_nil
  have no : (Lay h L.1 L.2 → False) → ∀ ρ, FinP [.va (hpD h), .va (lyD L)] Q false (.bool false) ρ := fun k ρ => by
    have e : laidB h L = false := by
      cases z : laidB h L with
      | false => rfl
      | true => exact (k (laidB_iff.mp z).1).elim
    rw [e] at q
    exact FinP.va (ds := [hpD h, lyD L]) q
  have pl : ∀ i, i ∈ L.1 ∨ i ∈ L.2 → 0 ≤ i ∧ i < h.length := fun i m => mem_rngI.mp (pm.mem_iff.mp (List.mem_append.mpr m))
  have p1 : PlacesOk h L.1 := fun i m => pl i (.inl m)
  have p2 : PlacesOk h L.2 := fun i m => pl i (.inr m)
  have ll := pm.length_eq
  rw [rngI_len, List.length_append] at ll
  refine sd_cons (s1_if (tm_of_um (um_or (tm_not (tm_val (em_isi (.inr (.inr (.inr (.inl rfl)))) B.isinstance_ B.tuple_ boot_tuple (em_var 1 rfl ⟨rfl, _, rfl, fun _ => ?_, fun z => Bool.noConfusion (show false = true from z)⟩)))))))
  refine um_or1 (tm_cmp (nomark _) (em_callB B.len PySem.boot_len (am_cons (em_var 1 rfl (am_nil (kd_len_tuple (em_int (fd_ne_int ⟨_, rfl, fun z => ?_, fun _ => sd_nil ?_⟩))))))))
  · simp at z
  refine sd_cons (s1_for (.nm 2) (passes_of rfl) rfl (pg_nm sc_law_is_laid.nd) (im_tuple (em_var 1 rfl ⟨_, rfl, fun i ρ => ∃ s2, ρ = [.va (hpD h), .va (lyD L), s2, .no, .no, .no, .no, .no], ⟨_, rfl⟩, ?_, ?_⟩)))
  · rintro i d ρ2 hd ⟨s2, rfl⟩
    obtain ⟨X, rfl, nX, pX⟩ : ∃ X, d = plD X ∧ (X = [] → Lay h L.1 L.2 → False) ∧ PlacesOk h X := by
      match i, hd with
      | 0, hd => cases hd; exact ⟨L.1, rfl, fun e _ => n1 e, p1⟩
      | 1, hd => cases hd; exact ⟨L.2, rfl, fun e ly => (lay_swap hv.ne ly).ne e, p2⟩
    refine ⟨_, rfl, ?_⟩
    refine sd_cons (s1_if (tm_of_um (um_or (tm_not (tm_val (em_isi (.inr (.inr (.inr (.inl rfl)))) B.isinstance_ B.tuple_ boot_tuple (em_var 2 rfl ⟨rfl, _, rfl, fun _ => ?_, fun z => Bool.noConfusion (show false = true from z)⟩)))))))
    refine um_or1 (tm_cmp (nomark _) (em_var 2 rfl (em_tup (am_nil ⟨small_line (by simp), rfl, fd_eq hr.units (shaped_ints X) (shaped_ints []) ⟨_, rfl, fun z => ?_, fun _ => sd_nil ?_⟩⟩))))
    · have := eqv_intsT X []
      have z' : PyData.eqv (.tuple (X.map .int)) (.tuple (([] : List Int).map .int)) = true := z
      rw [this] at z'
      exact sd_one (s1_ret (em_bool (no (nX (of_decide_eq_true z')) _)))
    have xl : X.length ≤ 1000000 := by
      match i, hd with
      | 0, hd => have e : plD L.1 = plD X := Option.some.inj hd; have := congrArg (fun d => match d with | PyData.tuple l => l.length | _ => 0) e; simp [plD] at this; omega
      | 1, hd => have e : plD L.2 = plD X := Option.some.inj hd; have := congrArg (fun d => match d with | PyData.tuple l => l.length | _ => 0) e; simp [plD] at this; omega
    refine sd_one (s1_if (tm_cmp (nomark _) (em_fm (.nm 6) [("place", 6)] rfl sc_law_is_laid.nd (blkOk_by (N := N_law_is_laid) (sc := defScope s_law_is_laid) (by decide +kernel)) (fun _ _ _ _ _ => pg_nm sc_law_is_laid.nd) (by decide) (.filter PyData.int (fun i => !isInt (.int i) 0 ((h.length : Int) - 1)) PyData.int (im_tuple (em_var 2 rfl ⟨_, rfl, X, rfl, small_line xl, fun i hi => ⟨_, rfl, fun _ _ _ _ _ => ⟨?_, fun _ => em_var 6 rfl ⟨rfl, rfl⟩⟩⟩, ?_⟩))))))
    · refine tm_not (tm_val (em_call c1 (hr.mono (by decide)) (am_cons (em_var 6 rfl (am_cons (em_int (am_cons (em_bin (em_callB B.len PySem.boot_len (am_cons (em_var 0 rfl (am_nil (kd_len_tuple (em_int (fd_sub_int (am_nil ⟨W0, fun _ z => z.elim, .int i, 0, ((h.map tx).length : Int) - 1, rfl, rfl, _, rfl, ?_⟩))))))))))))))))
      rw [List.length_map]
    · have fe : X.filter (fun i => !isInt (.int i) 0 ((h.length : Int) - 1)) = [] := by
        rw [List.filter_eq_nil_iff]
        intro i m
        have := pX i m
        have e : isInt (.int i) 0 ((h.length : Int) - 1) = true := by
          show (decide (0 ≤ i) && decide (i ≤ (h.length : Int) - 1)) = true
          rw [Bool.and_eq_true, decide_eq_true_eq, decide_eq_true_eq]
          omega
        rw [e]
        decide
      rw [fe]
      exact em_lst (am_nil ⟨small_line (by simp), rfl, fd_ne hr.units (by decide) (by decide) ⟨_, rfl, fun z => absurd z (by decide), fun _ => sd_nil ⟨_, rfl⟩⟩⟩)
  rintro ρ2 ⟨s2, rfl⟩
  refine sd_cons (s1_unpack (.tp [.nm 3, .nm 4]) (pg_tp rfl (pgs_1 (pg_nm sc_law_is_laid.nd) (pgs_1 (pg_nm sc_law_is_laid.nd) pgs_0))) (em_var 1 rfl ⟨_, rfl, ?_⟩))
  refine sd_cons (s1_if (tm_of_um (um_or (tm_cmp (nomark _) (em_callB B.sorted_ PyProof.Rows.boot_sorted (am_cons (em_bin (em_var 3 rfl (em_var 4 rfl (fd_add_tuple (small_line (by simp; omega)) (am_nil ?_)))))))))))
  rw [← List.map_append]
  refine kd_sorted_tuple hr.units (sorts_int (small_line (by simp; omega))) ?_
  rw [dle_int, sort_rng pm]
  refine em_listRg rfl B.list_ B.range_ (em_callB B.len PySem.boot_len (am_cons (em_var 0 rfl (am_nil (kd_len_tuple ⟨(h.map tx).length, rfl, by rw [List.length_map]; omega, ?_⟩)))))
  rw [List.length_map, rngD_rngI]
  refine fd_ne hr.units (shaped_intsL _) (shaped_intsL _) ⟨_, rfl, fun _ => ?_, fun z => ?_⟩
  rotate_left
  · rw [eqv_intsL] at z
    simp at z
  refine um_or1 (tm_cmp rfl (em_int (em_var 3 rfl (fd_notIn_tuple (room65 hr) (shaped_int 0) (shaped_ints _) ⟨_, rfl, fun z => ?_, fun _ => sd_nil ?_⟩))))
  · rw [any_ints] at z
    simp [l0] at z
  refine sd_cons (s1_if (tm_cmp (nomark _) (em_call c2 (hr.mono (by decide)) (am_cons (em_var 0 rfl (am_cons (em_var 3 rfl (am_nil ⟨W0, fun _ z => z.elim, h, L.1, rfl, hs, p1, by omega, ?_⟩))))))))
  refine em_call c2 (hr.mono (by decide)) (am_cons (em_var 0 rfl (am_cons (em_var 4 rfl (am_nil ⟨W0, fun _ z => z.elim, h, L.2, rfl, hs, p2, by omega, fd_ne_str ⟨_, rfl, fun z => ?_, fun zt => sd_nil ?_⟩⟩)))))
  · refine sd_one (s1_ret (em_bool (no (fun ly => ?_) _)))
    rw [ly.tx] at z
    simp at z
  have etx : joinT h L.1 = joinT h L.2 := by
    have : S (joinT h L.1) = S (joinT h L.2) := by simpa using zt
    exact S_inj.mp this
  refine sd_cons (s1_set 5 sc_law_is_laid.nd (vm_data (em_call c3 (hr.mono (by decide)) (am_cons (em_var 0 rfl (am_cons (em_var 4 rfl (am_nil ⟨W0, fun _ z => z.elim, h, L.2, rfl, hs, p2, by omega, ?_⟩))))))))
  have el : (endsAt h L.1).length ≤ 1000000 := by unfold endsAt; simp; omega
  refine sd_one (s1_ret (em_cmp (nomark _) (em_fm (.nm 7) [("end", 7)] rfl sc_law_is_laid.nd (blkOk_by (N := N_law_is_laid) (sc := defScope s_law_is_laid) (by decide +kernel)) (fun _ _ _ _ _ => pg_nm sc_law_is_laid.nd) (by decide) (.filter PyData.int (fun x => decide (x ∈ endsAt h L.2)) PyData.int (im_list (em_call c3 (hr.mono (by decide)) (am_cons (em_var 0 rfl (am_cons (em_var 3 rfl (am_nil ⟨W0, fun _ z => z.elim, h, L.1, rfl, hs, p1, by omega, _, rfl, endsAt h L.1, rfl, small_line el, fun x hx => ⟨_, rfl, fun _ _ _ _ _ => ⟨?_, fun _ => em_var 7 rfl ⟨rfl, rfl⟩⟩⟩, ?_⟩)))))))))))
  · refine tm_cmp rfl (em_var 7 rfl (em_var 5 rfl (fd_in_list (room65 hr) (shaped_int x) (shaped_intsL _) ⟨_, rfl, ?_⟩)))
    exact any_ints _ _
  · refine em_lst (am_nil ⟨small_line (by simp), rfl, fd_eq hr.units (shaped_intsL _) (by decide) (FinP.va (ds := [hpD h, lyD L]) ?_)⟩)
    have e := eqv_intsL ((endsAt h L.1).filter fun x => decide (x ∈ endsAt h L.2)) []
    have e2 : laidB h L = decide ((endsAt h L.1).filter (fun x => decide (x ∈ endsAt h L.2)) = []) := by
      rw [Bool.eq_iff_iff, laidB_iff, decide_eq_true_eq]
      constructor
      · rintro ⟨ly, _⟩
        rw [List.filter_eq_nil_iff]
        intro x m
        rw [decide_eq_true_eq]
        exact lay_apart ly m
      · intro k
        rw [List.filter_eq_nil_iff] at k
        refine ⟨⟨n1, pm, etx, fun i j i0 hi hj e => ?_⟩, l0⟩
        cases j with
        | zero =>
          rw [List.take_zero, joinT_nil, List.length_nil] at e
          cases eL : L.1 with
          | nil => exact n1 eL
          | cons x r =>
            obtain ⟨h0, h1⟩ := p1 x (by rw [eL]; exact List.mem_cons_self)
            obtain ⟨i', rfl⟩ : ∃ i', i = i' + 1 := ⟨i - 1, by omega⟩
            rw [eL, List.take_succ_cons, joinT_cons, List.length_append] at e
            have := len0 (shr_ne hv.ne h0 h1)
            omega
        | succ j =>
          refine k ((joinT h (L.1.take i)).length : Int) ?_ (decide_eq_true ?_)
          · unfold endsAt
            exact List.mem_map.mpr ⟨i - 1, List.mem_range.mpr (by omega), by rw [show i - 1 + 1 = i by omega]⟩
          · unfold endsAt
            exact List.mem_map.mpr ⟨j, List.mem_range.mpr (by omega), by rw [e]⟩
    rw [e2] at q
    rw [← e] at q
    exact q
end

/-! ### all orders, all rows of a text -/
def liD (l : List Int) : D := .list (l.map .int)
theorem flat_take {α β : Type} (f : α → List β) {l : List α} {i : Nat} {a : α} (h : l[i]? = some a) : (l.take (i + 1)).flatMap f = (l.take i).flatMap f ++ f a := by
  rw [List.take_add_one, h, List.flatMap_append]
  simp
theorem flat_take_len {α β : Type} (f : α → List β) (l : List α) (i : Nat) : ((l.take i).flatMap f).length ≤ (l.flatMap f).length := by
  have e : l.flatMap f = (l.take i).flatMap f ++ (l.drop i).flatMap f := by rw [← List.flatMap_append, List.take_append_drop]
  rw [e, List.length_append]
  omega
theorem fac8 {n : Nat} (h : n ≤ 8) : fac n ≤ 40320 := Nat.le_trans (fac_le h) (by decide)
theorem wo_filter (l : List Int) (p : Int) : l.filter (fun x => !decide (x = p)) = wo l p := rfl
section
variable {P : Program} {w : World} {K : PySem.W.Frag} {mg : Str → Option Value} {base : Heap}
def sp_orders (n : Nat) : DSp := fun ss Q _ => ∃ l, ss = [.va (liD l)] ∧ l.Nodup ∧ l.length ≤ n ∧ n ≤ 8 ∧ Q false (.list ((ordF n l).map plD)) ss
theorem ok_law_orders {f : Addr} {fd : FuncData} (F : Fun K "_law_orders" "_law_orders" s_law_orders f fd) (hm : mg "_law_orders" = some (.ref f)) (hb : Binds K fd ["places"] []) : ∀ n, Cal P w K mg base "_law_orders" (n + 1) ["places"] (sp_orders n) := by
  have step : ∀ n, (∀ m, n = m + 1 → Cal P w K mg base "_law_orders" (m + 1) ["places"] (sp_orders m)) → Cal P w K mg base "_law_orders" (n + 1) ["places"] (sp_orders n) := by
    intro n ih
    refine fn_ok F hm hb sc_law_orders (by rintro ss P W ⟨_, rfl, _⟩; rfl) ?_
    rintro cdv A outer s H E hr ss Q W ⟨l, rfl, nd, hl, hn, q⟩
    refine sd_cons (s1_if (tm_cmp (nomark _) (em_var 0 rfl (em_lst (am_nil ⟨small_line (by simp), rfl, fd_eq hr.units (shaped_intsL l) (by decide) ⟨_, rfl, fun k1 => ?_, fun k1 => sd_nil ?_⟩⟩)))))
    · have e : PyData.eqv (.list (l.map .int)) (.list []) = decide (l = []) := eqv_intsL l []
      rw [show PyData.eqv (liD l) (.list []) = decide (l = []) from e] at k1
      have el := of_decide_eq_true k1
      subst el
      refine sd_one (s1_retD (em_lst (am_cons (em_tup (am_nil ⟨small_line (by simp), rfl, am_nil ⟨small_line (by simp), rfl, ?_⟩⟩)))))
      refine FinP.va (ds := [liD []]) ?_
      have e2 : ordF n [] = [[]] := by cases n <;> simp [ordF]
      rw [e2] at q
      exact q
    have ne : l ≠ [] := by
      have e : PyData.eqv (.list (l.map .int)) (.list []) = decide (l = []) := eqv_intsL l []
      rw [show PyData.eqv (liD l) (.list []) = decide (l = []) from e] at k1
      exact of_decide_eq_false k1
    have lp := List.length_pos_iff.mpr ne
    obtain ⟨m, rfl⟩ : ∃ m, n = m + 1 := ⟨n - 1, by omega⟩
    have c := ih m rfl
    have eo : ordF (m + 1) l = l.flatMap fun p => (ordF m (wo l p)).map (p :: ·) := by
      show (if l = [] then _ else _) = _
      rw [if_neg ne]
    have tot := ordF_len nd hl
    have f8 := fac8 hn
    rw [eo] at q tot
    refine sd_cons (s1_set 1 sc_law_orders.nd (vm_data (em_lst (am_nil ⟨small_line (by simp), rfl, ?_⟩))))
    refine sd_cons (s1_for (.nm 2) (passes_of rfl) rfl (pg_nm sc_law_orders.nd) (im_list (em_var 0 rfl ⟨_, rfl, fun i ρ => ∃ s2 s3, ρ = [.va (liD l), .va (.list (((l.take i).flatMap fun p => (ordF m (wo l p)).map (p :: ·)).map plD)), s2, s3, .no, .no], ⟨_, _, rfl⟩, ?_, ?_⟩)))
    · rintro i d ρ2 hd ⟨s2, s3, rfl⟩
      rw [List.getElem?_map] at hd
      obtain ⟨p, hp, rfl⟩ := Option.map_eq_some_iff.mp hd
      have mp : p ∈ l := List.mem_of_getElem? hp
      refine ⟨_, rfl, ?_⟩
      refine sd_cons (s1_setFm 3 (.nm 4) [("one", 4)] rfl sc_law_orders.nd (blkOk_by (N := N_law_orders) (sc := defScope s_law_orders) (by decide +kernel)) (fun _ _ _ _ _ => pg_nm sc_law_orders.nd) (by decide) (.filter PyData.int (fun x => !decide (x = p)) PyData.int (im_list (em_var 0 rfl ⟨_, rfl, l, rfl, small_line (by omega), fun x hx => ⟨_, rfl, fun _ _ _ _ _ => ⟨tm_cmp (nomark _) (em_var 4 rfl (em_var 2 rfl (fd_ne_int ⟨_, rfl, rfl⟩))), fun _ => em_var 4 rfl ⟨rfl, rfl⟩⟩⟩, fun p3 => ?_⟩))))
      rw [wo_filter]
      have lw := wo_len nd mp
      have lO := ordF_len (wo_nodup nd p) (show (wo l p).length ≤ m by omega)
      have f8' := fac8 (show m ≤ 8 by omega)
      have e1 := flat_take (fun p => (ordF m (wo l p)).map (p :: ·)) hp
      have b1 := flat_take_len (fun p => (ordF m (wo l p)).map (p :: ·)) l i
      refine sd_freeze 3 rfl (fz_lst _) (sd_one (s1_set 1 sc_law_orders.nd (vm_data (em_bin (em_var 1 rfl (em_fm (.nm 5) [("row", 5)] rfl sc_law_orders.nd (blkOk_by (N := N_law_orders) (sc := defScope s_law_orders) (by decide +kernel)) (fun _ _ _ _ _ => pg_nm sc_law_orders.nd) (by decide) (.map plD (fun r => plD (p :: r)) (im_list (em_call c (hr.mono (Nat.le_refl _)) (am_cons (em_var 3 rfl (am_nil ⟨W0, fun _ z => z.elim, wo l p, rfl, wo_nodup nd p, by omega, by omega, _, rfl, ordF m (wo l p), rfl, small_line (by omega), fun r mr => ⟨_, rfl, fun _ _ _ _ _ => ?_⟩, fd_add_list (small_line (by simp only [List.length_map]; omega)) ?_⟩))))))))))))
      · have lr := ((mem_ordF (wo_nodup nd p) (show (wo l p).length ≤ m by omega) r).mp mr).length_eq
        exact em_bin (em_tup (am_cons (em_var 2 rfl (am_nil ⟨small_line (by simp), rfl, em_var 5 rfl (fd_add_tuple (small_line (by simp; omega)) ⟨rfl, rfl⟩)⟩))))
      · refine ⟨.va (.int p), .va (liD (wo l p)), ?_⟩
        rw [e1, List.map_append, List.map_map]
        rfl
    · rintro ρ2 ⟨s2, s3, rfl⟩
      rw [List.length_map, List.take_length]
      exact sd_one (s1_retD (em_var 1 rfl (FinP.va (ds := [liD l]) q)))
  intro n
  induction n with
  | zero => exact step 0 fun m e => by omega
  | succ n ih =>
    refine step (n + 1) fun m e => ?_
    obtain rfl : m = n := by omega
    exact ih
def sp_rows (n : Nat) : DSp := fun ss Q _ => ∃ h l t, ss = [.va (hpD h), .va (liD l), .va (tx t)] ∧ Hv h ∧ l.Nodup ∧ PlacesOk h l ∧ l.length ≤ n ∧ n ≤ 8 ∧ t.length ≤ 1000 ∧ Q false (.list ((rowF h n l t).map plD)) ss
set_option maxHeartbeats 1000000 in
theorem ok_law_rows_for {f : Addr} {fd : FuncData} (B : Bare mg) (F : Fun K "_law_rows_for" "_law_rows_for" s_law_rows_for f fd) (hm : mg "_law_rows_for" = some (.ref f)) (hb : Binds K fd ["heap", "places", "text"] []) : ∀ n, Cal P w K mg base "_law_rows_for" (n + 1) ["heap", "places", "text"] (sp_rows n) := by
  have step : ∀ n, (∀ m, n = m + 1 → Cal P w K mg base "_law_rows_for" (m + 1) ["heap", "places", "text"] (sp_rows m)) → Cal P w K mg base "_law_rows_for" (n + 1) ["heap", "places", "text"] (sp_rows n) := by
    intro n ih
    refine fn_ok F hm hb sc_law_rows_for (by rintro ss P W ⟨_, _, _, rfl, _⟩; rfl) ?_
    rintro cdv A outer s H E hr ss Q W ⟨h, l, t, rfl, hv, nd, hp, hl, hn, ht, q⟩
    have hs := hv.small
    have eL : PyData.eqv (liD l) (.list []) = decide (l = []) := eqv_intsL l []
    have lt : (S t).length ≤ sizeLine := by rw [S_len]; exact small_line (by omega)
    refine sd_cons (s1_if (tm_cmp (nomark _) (em_var 1 rfl (em_lst (am_nil ⟨small_line (by simp), rfl, fd_eq hr.units (shaped_intsL l) (by decide) ⟨_, rfl, fun k1 => ?_, fun k1 => sd_nil ?_⟩⟩)))))
    · rw [eL] at k1
      have el := of_decide_eq_true k1
      subst el
      have e2 : rowF h n [] t = if t = [] then [[]] else [] := by cases n <;> simp [rowF]
      rw [e2] at q
      refine sd_one (s1_retD (em_ite (tm_cmp (nomark _) (em_var 2 rfl (em_str (fd_eq_str ⟨_, rfl, fun k2 => ?_, fun k2 => ?_⟩))))))
      · rw [S_nil] at k2
        rw [if_pos (of_decide_eq_true k2)] at q
        exact em_lst (am_cons (em_tup (am_nil ⟨small_line (by simp), rfl, am_nil ⟨small_line (by simp), rfl, FinP.va (ds := [hpD h, liD [], tx t]) q⟩⟩)))
      · rw [S_nil] at k2
        rw [if_neg (of_decide_eq_false k2)] at q
        exact em_lst (am_nil ⟨small_line (by simp), rfl, FinP.va (ds := [hpD h, liD [], tx t]) q⟩)
    rw [eL] at k1
    have ne := of_decide_eq_false k1
    have lp := List.length_pos_iff.mpr ne
    obtain ⟨m, rfl⟩ : ∃ m, n = m + 1 := ⟨n - 1, by omega⟩
    have c := ih m rfl
    have eo : rowF h (m + 1) l t = l.flatMap fun p => if (shr h p).isPrefixOf t = true then (rowF h m (wo l p) (t.drop (shr h p).length)).map (p :: ·) else [] := by
      show (if l = [] then _ else _) = _
      rw [if_neg ne]
    have tot := rowF_len (h := h) (t := t) nd hl
    have f8 := fac8 hn
    rw [eo] at q tot
    generalize hg : (fun p => if (shr h p).isPrefixOf t = true then (rowF h m (wo l p) (t.drop (shr h p).length)).map (p :: ·) else []) = g at q tot
    refine sd_cons (s1_set 3 sc_law_rows_for.nd (vm_data (em_lst (am_nil ⟨small_line (by simp), rfl, ?_⟩))))
    refine sd_cons (s1_for (.nm 4) (passes_of rfl) rfl (pg_nm sc_law_rows_for.nd) (im_list (em_var 1 rfl ⟨_, rfl, fun i ρ => ∃ s4 s5 s6, ρ = [.va (hpD h), .va (liD l), .va (tx t), .va (.list (((l.take i).flatMap g).map plD)), s4, s5, s6, .no, .no], ⟨_, _, _, rfl⟩, ?_, ?_⟩)))
    · rintro i d ρ2 hd ⟨s4, s5, s6, rfl⟩
      rw [List.getElem?_map] at hd
      obtain ⟨p, hpp, rfl⟩ := Option.map_eq_some_iff.mp hd
      have mp : p ∈ l := List.mem_of_getElem? hpp
      obtain ⟨p0, p1⟩ := hp p mp
      refine ⟨_, rfl, ?_⟩
      have e1 := flat_take g hpp
      have b1 := flat_take_len g l i
      have hsl := shr_le hs p
      have ls : (S (shr h p)).length ≤ sizeLine := by rw [S_len]; exact small_line (by omega)
      refine sd_one (s1_if (tm_val (em_meth PySem.F.slot_str_startswith PySem.F.type_str_startswith (em_var 2 rfl ⟨_, rfl, am_cons (em_ix (fun _ _ => rfl) (em_var 0 rfl (em_var 4 rfl (id_tuple (d := tx (shr h p)) (hp_at p0 p1) (am_nil (md_startswith ⟨_, rfl, fun k2 => ?_, fun k2 => sd_nil ?_⟩))))))⟩))))
      · rw [startswith_S] at k2
        refine sd_cons (s1_setFm 5 (.nm 7) [("one", 7)] rfl sc_law_rows_for.nd (blkOk_by (N := N_law_rows_for) (sc := defScope s_law_rows_for) (by decide +kernel)) (fun _ _ _ _ _ => pg_nm sc_law_rows_for.nd) (by decide) (.filter PyData.int (fun x => !decide (x = p)) PyData.int (im_list (em_var 1 rfl ⟨_, rfl, l, rfl, small_line (by omega), fun x hx => ⟨_, rfl, fun _ _ _ _ _ => ⟨tm_cmp (nomark _) (em_var 7 rfl (em_var 4 rfl (fd_ne_int ⟨_, rfl, rfl⟩))), fun _ => em_var 7 rfl ⟨rfl, rfl⟩⟩⟩, fun p3 => ?_⟩))))
        rw [wo_filter]
        have lw := wo_len nd mp
        have lO := rowF_len (h := h) (t := t.drop (shr h p).length) (wo_nodup nd p) (show (wo l p).length ≤ m by omega)
        have f8' := fac8 (show m ≤ 8 by omega)
        refine sd_freeze 5 rfl (fz_lst _) (sd_cons (s1_set 6 sc_law_rows_for.nd (vm_data (em_call c (hr.mono (Nat.le_refl _)) (am_cons (em_var 0 rfl (am_cons (em_var 5 rfl (am_cons (em_sl (em_var 2 rfl (om_some (em_callB B.len PySem.boot_len (am_cons (em_ix (fun _ _ => rfl) (em_var 0 rfl (em_var 4 rfl (id_tuple (d := tx (shr h p)) (hp_at p0 p1) (am_nil (kd_len_str ls ⟨_, rfl, om_none (ld_str lt (am_nil ⟨W0, fun _ z => z.elim, h, wo l p, t.drop (shr h p).length, ?_, hv, wo_nodup nd p, fun x mx => hp x (mem_wo mx), by omega, by omega, by rw [List.length_drop]; omega, ?_⟩))⟩))))))))))))))))))))
        · rw [S_len, cutS_S, cut_drop]
          rfl
        have eg : g p = (rowF h m (wo l p) (t.drop (shr h p).length)).map (p :: ·) := by
          rw [← hg]
          show (if _ then _ else _) = _
          rw [if_pos k2]
        have lR : ∀ r ∈ rowF h m (wo l p) (t.drop (shr h p).length), r.length ≤ 8 := fun r mr => by
          have := ((mem_rowF (wo_nodup nd p) (show (wo l p).length ≤ m by omega) r).mp mr).1.length_eq
          omega
        generalize rowF h m (wo l p) (t.drop (shr h p).length) = R at eg lR lO
        refine sd_one (s1_set 3 sc_law_rows_for.nd (vm_data (em_bin (em_var 3 rfl (em_fm (.nm 8) [("row", 8)] rfl sc_law_rows_for.nd (blkOk_by (N := N_law_rows_for) (sc := defScope s_law_rows_for) (by decide +kernel)) (fun _ _ _ _ _ => pg_nm sc_law_rows_for.nd) (by decide) (.map plD (fun r => plD (p :: r)) (im_list (em_var 6 rfl ⟨_, rfl, R, rfl, small_line (by omega), fun r mr => ⟨_, rfl, fun _ _ _ _ _ => ?_⟩, fd_add_list (small_line (by simp only [List.length_map]; omega)) ?_⟩))))))))
        · have lr := lR r mr
          exact em_bin (em_tup (am_cons (em_var 4 rfl (am_nil ⟨small_line (by simp), rfl, em_var 8 rfl (fd_add_tuple (small_line (by simp; omega)) ⟨rfl, rfl⟩)⟩))))
        · refine ⟨.va (.int p), .va (liD (wo l p)), .va (.list (R.map plD)), ?_⟩
          rw [e1, eg, List.map_append, List.map_map]
          rfl
      · rw [startswith_S] at k2
        have eg : g p = [] := by
          rw [← hg]
          show (if _ then _ else _) = _
          rw [if_neg (by rw [k2]; exact Bool.false_ne_true)]
        refine ⟨.va (.int p), s5, s6, ?_⟩
        rw [e1, eg, List.append_nil]
        rfl
    · rintro ρ2 ⟨s4, s5, s6, rfl⟩
      rw [List.length_map, List.take_length]
      exact sd_one (s1_retD (em_var 3 rfl (FinP.va (ds := [hpD h, liD l, tx t]) q)))
  intro n
  induction n with
  | zero => exact step 0 fun m e => by omega
  | succ n ih =>
    refine step (n + 1) fun m e => ?_
    obtain rfl : m = n := by omega
    exact ih
end

theorem lyD_inj {L M : LY} (h : PyData.eqv (lyD L) (lyD M) = true) : L = M := by
  have e : PyData.eqv (lyD L) (lyD M) = (PyData.eqv (plD L.1) (plD M.1) && (PyData.eqv (plD L.2) (plD M.2) && true)) := by simp [lyD, PyData.eqv, PyData.eqvAll]
  rw [e, Bool.and_true, Bool.and_eq_true] at h
  have h1 : PyData.eqv (.tuple (L.1.map .int)) (.tuple (M.1.map .int)) = true := h.1
  have h2 : PyData.eqv (.tuple (L.2.map .int)) (.tuple (M.2.map .int)) = true := h.2
  rw [eqv_intsT] at h1 h2
  exact Prod.ext (of_decide_eq_true h1) (of_decide_eq_true h2)
theorem eqv_ly (L M : LY) : PyData.eqv (lyD L) (lyD M) = decide (L = M) := by
  cases e : PyData.eqv (lyD L) (lyD M) with
  | true => rw [lyD_inj e]; simp
  | false =>
    by_cases z : L = M
    · subst z
      have e2 : PyData.eqv (lyD L) (lyD L) = (PyData.eqv (plD L.1) (plD L.1) && (PyData.eqv (plD L.2) (plD L.2) && true)) := by simp [lyD, PyData.eqv, PyData.eqvAll]
      rw [e2, show PyData.eqv (plD L.1) (plD L.1) = decide (L.1 = L.1) from eqv_intsT _ _, show PyData.eqv (plD L.2) (plD L.2) = decide (L.2 = L.2) from eqv_intsT _ _] at e
      simp at e
    · rw [decide_eq_false z]
theorem lays_brute {h : List (List Nat)} (hv : Hv h) {Ls : List LY} (l : laysOf h Ls) : Ls = (brute h).mergeSort (PySem.W.dataLe false lyD) := by
  obtain ⟨F, nd, mF, rfl⟩ := l
  have lo := hv.lo
  exact perm_sort alike_ly (fun a b e => lyD_inj e) ((List.perm_ext_iff_of_nodup nd (nodup_brute (by omega) hv.hi)).mpr fun L => by rw [mF, mem_brute hv.ne (by omega) hv.hi])
theorem ints_sum {α : Type} (f : α → Nat) : ∀ l : List α, (l.map fun a => ((f a : Nat) : Int)).sum = (((l.map f).sum : Nat) : Int)
  | [] => rfl
  | a :: l => by rw [List.map_cons, List.sum_cons, ints_sum f l, List.map_cons, List.sum_cons, Int.natCast_add]
section
variable {P : Program} {w : World} {K : PySem.W.Frag} {mg : Str → Option Value} {base : Heap}
def sp_layings : DSp := fun ss Q _ => ∃ h, ss = [.va (hpD h)] ∧ Hv h ∧ Q false (.list (((brute h).mergeSort (PySem.W.dataLe false lyD)).map lyD)) ss
set_option maxHeartbeats 4000000 in
theorem ok_law_layings {f : Addr} {fd : FuncData} (B : Bare mg) (c1 : Cal P w K mg base "_law_orders" 9 ["places"] (sp_orders 8)) (c2 : Cal P w K mg base "_law_rows_for" 9 ["heap", "places", "text"] (sp_rows 8)) (c3 : Cal P w K mg base "_law_said" 1 ["heap", "places"] sp_said) (c4 : Cal P w K mg base "_law_is_laid" 3 ["heap", "thing"] sp_is_laid) (F : Fun K "_law_layings" "_law_layings" s_law_layings f fd) (hm : mg "_law_layings" = some (.ref f)) (hb : Binds K fd ["heap"] []) : Cal P w K mg base "_law_layings" 10 ["heap"] sp_layings := by
  refine fn_ok F hm hb sc_law_layings (by rintro ss P W ⟨_, rfl, _⟩; rfl) ?_
  rintro cdv A outer s H E hr ss Q W ⟨h, rfl, hv, q⟩
  have hs := hv.small
  have hlo := hv.lo
  have hhi := hv.hi
  have ne := hv.ne
  have h0 : 0 < h.length := by omega
  have bl := brute_len ne h0 hhi
  refine sd_cons (s1_par2 1 2 rfl sc_law_layings.nd (lm_cons (vm_own (em_lst (am_nil ⟨small_line (by simp), rfl, rfl, [], rfl, fun p => lm_cons (vm_data (em_callB B.sum_ boot_sum (am_cons (em_fm (.nm 9) [("shred", 9)] rfl sc_law_layings.nd (blkOk_by (N := N_law_layings) (sc := defScope s_law_layings) (by decide +kernel)) (fun _ _ _ _ _ => pg_nm sc_law_layings.nd) (by decide) (.map tx (fun s => .int (s.length : Int)) (im_tuple (em_var 0 rfl ⟨_, rfl, h, rfl, small_line (by omega), fun s ms => ⟨_, rfl, fun _ _ _ _ _ => ?_⟩, ?_⟩)))))))⟩)))))
  · have := hs.each s ms
    exact em_callB B.len PySem.boot_len (am_cons (em_var 9 rfl (am_nil (kd_len_str (by rw [S_len]; exact small_line (by omega)) ⟨rfl, by rw [S_len]⟩))))
  have e1 : h.map (fun s => PyData.int (s.length : Int)) = (h.map fun s => ((s.length : Nat) : Int)).map PyData.int := by rw [List.map_map]; rfl
  rw [e1]
  refine am_nil (kd_sum rfl (lm_nil ⟨_, _, rfl, ?_⟩))
  rw [ints_sum List.length h]
  generalize hsz : (h.map List.length).sum = sz
  refine sd_re (ρ' := [.va (hpD h), .mo p (.lst []), .va (.int (sz : Nat)), .no, .no, .no, .no, .no, .no, .no]) rfl ?_
  refine sd_cons (s1_set 3 sc_law_layings.nd (vm_data (em_lst (am_cons (em_lst (am_cons (em_int (am_nil ⟨small_line (by simp), rfl, am_nil ⟨small_line (by simp), rfl, ?_⟩⟩))))))))
  refine sd_cons (s1_for (.nm 4) (passes_of rfl) rfl (pg_nm sc_law_layings.nd) (im_range2 B.range_ (em_int (em_callB B.len PySem.boot_len (am_cons (em_var 0 rfl (am_nil (kd_len_tuple ⟨1, _, rfl, rfl, by decide, by decide, by omega, by rw [List.length_map]; omega, fun i ρ => ∃ s4, ρ = [.va (hpD h), .mo p (.lst []), .va (.int (sz : Nat)), .va (.list ((lotF i).map liD)), s4, .no, .no, .no, .no, .no], ⟨_, rfl⟩, ?_, ?_⟩))))))))
  · rintro i d ρ2 hd ⟨s4, rfl⟩
    have hi : i < h.length - 1 := by
      have := (List.getElem?_eq_some_iff.mp hd).1
      simp [rngD] at this
      omega
    have ed : d = .int (1 + (i : Int)) := by
      have hi2 : i < (((h.map tx).length : Int) - 1).toNat := by rw [List.length_map]; omega
      unfold rngD at hd
      rw [List.getElem?_map, List.getElem?_range hi2] at hd
      exact (Option.some.inj hd).symm
    subst ed
    refine ⟨_, rfl, ?_⟩
    have ll := lotF_len i
    have l2 : 2 ^ i ≤ 2 ^ 7 := Nat.pow_le_pow_right (by decide) (by omega)
    have e7 : (2 : Nat) ^ 7 = 128 := by decide
    refine sd_one (s1_set 3 sc_law_layings.nd (vm_data (em_bin (em_var 3 rfl (em_fm (.nm 5) [("lot", 5)] rfl sc_law_layings.nd (blkOk_by (N := N_law_layings) (sc := defScope s_law_layings) (by decide +kernel)) (fun _ _ _ _ _ => pg_nm sc_law_layings.nd) (by decide) (.map liD (fun l => liD (l ++ [1 + (i : Int)])) (im_list (em_var 3 rfl ⟨_, rfl, lotF i, rfl, small_line (by omega), fun l ml => ⟨_, rfl, fun _ _ _ _ _ => ?_⟩, fd_add_list (small_line (by simp only [List.length_map]; omega)) ?_⟩))))))))
    · have lk := mem_lotF.mp ml
      have nd : l.Nodup := lk.1.imp fun h => Int.ne_of_lt h
      have := nodup_le l (rngI (i + 1)) nd fun x mx => mem_rngI.mpr (by have := lk.2.2 x mx; omega)
      rw [rngI_len] at this
      exact em_bin (em_var 5 rfl (em_lst (am_cons (em_var 4 rfl (am_nil ⟨small_line (by simp), rfl, fd_add_list (small_line (by simp; omega)) ⟨rfl, by simp [liD]⟩⟩)))))
    · refine ⟨.va (.int (1 + (i : Int))), ?_⟩
      show _ = [_, _, _, Sl.va (.list ((lotF i ++ (lotF i).map (· ++ [1 + (i : Int)])).map liD)), _, _, _, _, _, _]
      rw [List.map_append, List.map_map]
      rfl
  rintro ρ2 ⟨s4, rfl⟩
  have en : (rngD 1 (((h.map tx).length : Int) - 1).toNat).length = h.length - 1 := by
    simp [rngD]
  rw [en]
  have ll := lotF_len (h.length - 1)
  have l2 : 2 ^ (h.length - 1) ≤ 2 ^ 7 := Nat.pow_le_pow_right (by decide) (by omega)
  have e7 : (2 : Nat) ^ 7 = 128 := by decide
  have hlots : ∀ lot ∈ lotF (h.length - 1), lot.Nodup ∧ lot.length ≤ 8 ∧ (∀ x ∈ lot, 0 ≤ x ∧ x < h.length) ∧ (0 : Int) ∈ lot := fun lot m => ⟨(lot_ok hhi h0 m).1, (lot_ok hhi h0 m).2.1, (lot_ok hhi h0 m).2.2, (mem_lotF.mp m).2.1⟩
  have eb : brute h = (lotF (h.length - 1)).flatMap (lotB h) := rfl
  generalize lotF (h.length - 1) = lots at hlots eb ll
  refine sd_cons (s1_for (.nm 5) (passes_of rfl) rfl (pg_nm sc_law_layings.nd) (im_list (em_var 3 rfl ⟨_, rfl, fun i ρ => ∃ s4 s5 s6 s7 s8, ρ = [.va (hpD h), .mo p (.lst (((lots.take i).flatMap (lotB h)).map lyD)), .va (.int (sz : Nat)), .va (.list (lots.map liD)), s4, s5, s6, s7, s8, .no], ⟨_, _, _, _, _, rfl⟩, ?_, ?_⟩)))
  · rintro i d ρ2 hd ⟨s4, s5, s6, s7, s8, rfl⟩
    rw [List.getElem?_map] at hd
    obtain ⟨lot, hl, rfl⟩ := Option.map_eq_some_iff.mp hd
    obtain ⟨nd, l8, pl, z0⟩ := hlots lot (List.mem_of_getElem? hl)
    refine ⟨_, rfl, ?_⟩
    have b1 := flat_take_len (lotB h) lots (i + 1)
    rw [flat_take (lotB h) hl, ← eb, List.length_append] at b1
    have st := flat_take (lotB h) hl
    generalize (lots.take i).flatMap (lotB h) = F0 at b1 st
    refine sd_one (s1_if (tm_cmp (nomark _) (em_bin (em_int (em_callB B.sum_ boot_sum (am_cons (em_fm (.nm 4) [("place", 4)] rfl sc_law_layings.nd (blkOk_by (N := N_law_layings) (sc := defScope s_law_layings) (by decide +kernel)) (fun _ _ _ _ _ => pg_nm sc_law_layings.nd) (by decide) (.map PyData.int (fun x => .int ((shr h x).length : Int)) (im_list (em_var 5 rfl ⟨_, rfl, lot, rfl, small_line (by omega), fun x mx => ⟨_, rfl, fun _ _ _ _ _ => ?_⟩, ?_⟩))))))))))
    · obtain ⟨x0, x1⟩ := pl x mx
      have hsl := shr_le hs x
      exact em_callB B.len PySem.boot_len (am_cons (em_ix (fun _ _ => rfl) (em_var 0 rfl (em_var 4 rfl (id_tuple (d := tx (shr h x)) (hp_at x0 x1) (am_nil (kd_len_str (by rw [S_len]; exact small_line (by omega)) ⟨rfl, by rw [S_len]⟩)))))))
    have e2 : lot.map (fun x => PyData.int ((shr h x).length : Int)) = (lot.map fun x => (((shr h x).length : Nat) : Int)).map PyData.int := by rw [List.map_map]; rfl
    rw [e2]
    refine am_nil (kd_sum rfl (fd_mul_int (.inl ⟨by decide, by decide⟩) (em_var 2 rfl (fd_eq_int ⟨_, rfl, fun k1 => ?_, fun k1 => sd_nil ?_⟩))))
    rotate_left
    · rw [ints_sum, ← joinT_sum] at k1
      have eB : lotB h lot = [] := by
        unfold lotB
        have := of_decide_eq_false k1
        rw [if_neg (by rw [hsz]; omega)]
      refine ⟨s4, .va (liD lot), s6, s7, s8, ?_⟩
      rw [st, eB, List.append_nil]
      rfl
    rw [ints_sum, ← joinT_sum] at k1
    have eB : lotB h lot = (ordF 8 lot).flatMap fun one => ((rowF h 8 (rst h.length lot) (joinT h one)).filter fun other => laidB h (one, other)).map fun other => (one, other) := by
      unfold lotB
      have := of_decide_eq_true k1
      rw [if_pos (by rw [hsz]; omega)]
    refine sd_cons (s1_setFm 6 (.nm 4) [("place", 4)] rfl sc_law_layings.nd (blkOk_by (N := N_law_layings) (sc := defScope s_law_layings) (by decide +kernel)) (fun _ _ _ _ _ => pg_nm sc_law_layings.nd) (by decide) (.filter PyData.int (fun x => !decide (x ∈ lot)) PyData.int (im_range1 B.range_ (em_callB B.len PySem.boot_len (am_cons (em_var 0 rfl (am_nil (kd_len_tuple ⟨_, rfl, by omega, by rw [List.length_map]; omega, rngI h.length, by rw [List.length_map]; exact rngD_rngI _, small_line (by rw [rngI_len]; omega), fun x hx => ⟨_, rfl, fun _ _ _ _ _ => ⟨tm_cmp rfl (em_var 4 rfl (em_var 5 rfl (fd_notIn_list (room65 hr) (shaped_int x) (shaped_intsL lot) ⟨_, rfl, by rw [any_ints]⟩))), fun _ => em_var 4 rfl ⟨rfl, rfl⟩⟩⟩, fun p3 => ?_⟩))))))))
    refine sd_freeze 6 rfl (fz_lst _) ?_
    have er : (rngI h.length).filter (fun x => !decide (x ∈ lot)) = rst h.length lot := rfl
    rw [er]
    have rl := rst_len h.length lot
    have rn := rst_nodup h.length lot
    have rp : PlacesOk h (rst h.length lot) := fun x mx => (rst_mem.mp mx).1
    have ol := ordF_len nd l8
    have f8 : fac 8 = 40320 := by decide
    have hone : ∀ one ∈ ordF 8 lot, one.Perm lot := fun one m => (mem_ordF nd l8 one).mp m
    generalize hg : (fun one => ((rowF h 8 (rst h.length lot) (joinT h one)).filter fun other => laidB h (one, other)).map fun other => (one, other)) = g at eB
    generalize hO : ordF 8 lot = os at eB hone ol
    rw [eB] at b1
    refine sd_re (ρ' := [.va (hpD h), .mo p (.lst (F0.map lyD)), .va (.int (sz : Nat)), .va (.list (lots.map liD)), s4, .va (liD lot), .va (liD (rst h.length lot)), s7, s8, .no]) rfl ?_
    refine sd_one (s1_for (.nm 7) (passes_of rfl) rfl (pg_nm sc_law_layings.nd) (im_list (em_call c1 (hr.mono (by decide)) (am_cons (em_var 5 rfl (am_nil ⟨W0, fun _ z => z.elim, lot, rfl, nd, l8, by decide, _, rfl, fun j ρ => ∃ s7 s8, ρ = [.va (hpD h), .mo p (.lst ((F0 ++ (os.take j).flatMap g).map lyD)), .va (.int (sz : Nat)), .va (.list (lots.map liD)), s4, .va (liD lot), .va (liD (rst h.length lot)), s7, s8, .no], ⟨s7, s8, ?_⟩, ?_, ?_⟩))))))
    · simp
    · rintro j d ρ3 hd ⟨s7, s8, rfl⟩
      rw [hO, List.getElem?_map] at hd
      obtain ⟨one, ho, rfl⟩ := Option.map_eq_some_iff.mp hd
      have po := hone one (List.mem_of_getElem? ho)
      have pol := po.length_eq
      refine ⟨_, rfl, ?_⟩
      have b2 := flat_take_len g os (j + 1)
      have st2 := flat_take g ho
      rw [st2, List.length_append] at b2
      generalize (os.take j).flatMap g = F1 at b2 st2
      have jl := joinT_le hs one
      have eg : g one = ((rowF h 8 (rst h.length lot) (joinT h one)).filter fun other => laidB h (one, other)).map fun other => (one, other) := by rw [← hg]
      have rll := rowF_len (h := h) (t := joinT h one) rn (Nat.le_trans rl hhi)
      have hoth : ∀ other ∈ rowF h 8 (rst h.length lot) (joinT h one), other.Perm (rst h.length lot) := fun other m => ((mem_rowF rn (Nat.le_trans rl hhi) other).mp m).1
      rw [eg] at b2 st2
      rw [List.length_map] at b2
      generalize hR : rowF h 8 (rst h.length lot) (joinT h one) = rs at hoth b2 rll
      refine sd_one (s1_for (.nm 8) (passes_of rfl) rfl (pg_nm sc_law_layings.nd) (im_list (em_call c2 (hr.mono (by decide)) (am_cons (em_var 0 rfl (am_cons (em_var 6 rfl (am_cons (em_call c3 (hr.mono (by decide)) (am_cons (em_var 0 rfl (am_cons (em_var 7 rfl (am_nil ⟨W0, fun _ z => z.elim, h, one, rfl, hs, fun x mx => pl x (po.mem_iff.mp mx), by omega, am_nil ⟨W0, fun _ z => z.elim, h, rst h.length lot, joinT h one, rfl, hv, rn, rp, Nat.le_trans rl hhi, by decide, by omega, _, rfl, fun k ρ => ∃ s8, ρ = [.va (hpD h), .mo p (.lst ((F0 ++ (F1 ++ ((rs.take k).filter fun other => laidB h (one, other)).map fun other => (one, other))).map lyD)), .va (.int (sz : Nat)), .va (.list (lots.map liD)), s4, .va (liD lot), .va (liD (rst h.length lot)), .va (plD one), s8, .no], ⟨s8, ?_⟩, ?_, ?_⟩⟩))))))))))))))
      · simp
      · rintro k d ρ4 hd ⟨s8, rfl⟩
        rw [hR, List.getElem?_map] at hd
        obtain ⟨other, hot, rfl⟩ := Option.map_eq_some_iff.mp hd
        have pt := hoth other (List.mem_of_getElem? hot)
        have ptl := pt.length_eq
        refine ⟨_, rfl, ?_⟩
        have pm : (one ++ other).Perm (rngI h.length) := by
          refine (po.append pt).trans ?_
          refine perm_of_mem ?_ (rngI_nodup _) fun x => ?_
          · rw [List.nodup_append]
            exact ⟨nd, rn, fun a ha b hb e => (rst_mem.mp hb).2 (e ▸ ha)⟩
          · rw [List.mem_append, rst_mem, mem_rngI]
            constructor
            · rintro (m | m)
              · exact pl x m
              · exact m.1
            · intro m
              by_cases c : x ∈ lot
              · exact .inl c
              · exact .inr ⟨m, c⟩
        have st3 : (rs.take (k + 1)).filter (fun other => laidB h (one, other)) = (rs.take k).filter (fun other => laidB h (one, other)) ++ if laidB h (one, other) then [other] else [] := by
          rw [List.take_add_one, hot, List.filter_append]
          congr 1
          show List.filter _ [other] = _
          rw [List.filter_cons, List.filter_nil]
        have b3 : ((rs.take k).filter fun other => laidB h (one, other)).length ≤ (rs.filter fun other => laidB h (one, other)).length := ((List.take_sublist k rs).filter _).length_le
        refine sd_one (s1_if (tm_val (em_call c4 (hr.mono (by decide)) (am_cons (em_var 0 rfl (am_cons (em_tup (am_cons (em_var 7 rfl (am_cons (em_var 8 rfl (am_nil ⟨small_line (by simp), rfl, am_nil ⟨W0, fun _ z => z.elim, h, (one, other), rfl, hv, pm, po.mem_iff.mpr z0, _, rfl, fun k2 => ?_, fun k2 => sd_nil ?_⟩⟩))))))))))))
        · refine sd_one (s1_expr (em_append 1 rfl (em_tup (am_cons (em_var 7 rfl (am_cons (em_var 8 rfl (am_nil ⟨small_line (by simp), rfl, _, rfl, rfl, ?_, ?_⟩))))))))
          · rw [List.length_map, List.length_append, List.length_append, List.length_map, sizeLine_eq]
            omega
          · refine ⟨.va (plD other), ?_⟩
            have e5 : (F0 ++ (F1 ++ ((rs.take (k + 1)).filter fun other => laidB h (one, other)).map fun other => (one, other))).map lyD = (F0 ++ (F1 ++ ((rs.take k).filter fun other => laidB h (one, other)).map fun other => (one, other))).map lyD ++ [lyD (one, other)] := by
              rw [st3, if_pos k2]
              simp
            rw [e5]
            rfl
        · refine ⟨.va (plD other), ?_⟩
          rw [st3, if_neg (by rw [k2]; exact Bool.false_ne_true), List.append_nil]
          rfl
      · rintro ρ4 ⟨s8, rfl⟩
        rw [hR, List.length_map, List.take_length]
        refine ⟨.va (plD one), s8, ?_⟩
        rw [st2, ← hR]
    · rintro ρ3 ⟨s7, s8, rfl⟩
      rw [hO, List.length_map, List.take_length]
      refine ⟨s4, .va (liD lot), .va (liD (rst h.length lot)), s7, s8, ?_⟩
      rw [st, eB]
  · rintro ρ2 ⟨s4, s5, s6, s7, s8, rfl⟩
    rw [List.length_map, List.take_length, ← eb]
    refine sd_freeze 1 rfl (fz_lst _) (sd_one (s1_retD (em_callB B.sorted_ PyProof.Rows.boot_sorted (am_cons (em_var 1 rfl (am_nil (kd_sorted_list hr.units (sorts_ly (small_line (by omega))) (FinP.va (ds := [hpD h]) q))))))))
end

theorem lay_txs (l : List (List Nat)) (h : ∀ s ∈ l, ∀ c ∈ s, c < 0x110000) : PyData.canLayAll0 (l.map tx) = true := by
  induction l with
  | nil => simp [PyData.canLayAll0]
  | cons s l ih =>
    have h1 : PyData.canLay0 (tx s) = true := by rw [PyData.canLay0]; exact strOk_S (h s List.mem_cons_self)
    rw [List.map_cons, PyData.canLayAll0, h1, ih fun x m => h x (List.mem_cons_of_mem _ m)]
    rfl
theorem depth_txs (l : List (List Nat)) : PyData.depthAll (l.map tx) = 0 := by
  induction l with
  | nil => simp [PyData.depthAll]
  | cons s l ih => rw [List.map_cons, PyData.depthAll, ih]; simp [PyData.depth]
theorem shaped_txs {l : List (List Nat)} (h : ∀ s ∈ l, ∀ c ∈ s, c < 0x110000) : SeqAt.shaped (.list (l.map tx)) = true := by
  unfold SeqAt.shaped
  rw [PyData.canLay0, lay_txs l h, PyData.depth, depth_txs]
  decide
theorem shaped_tx {s : List Nat} (h : ∀ c ∈ s, c < 0x110000) : SeqAt.shaped (tx s) = true := by
  unfold SeqAt.shaped
  rw [PyData.canLay0, strOk_S h]
  simp [PyData.depth]
theorem any_txs (l : List (List Nat)) (s : List Nat) : ((l.map tx).any fun z => PyData.eqv z (tx s)) = decide (s ∈ l) := by
  induction l with
  | nil => rfl
  | cons x r ih =>
    rw [List.map_cons, List.any_cons, ih]
    by_cases e : x = s
    · simp [PyData.eqv, e]
    · have e2 : ¬ s = x := fun z => e z.symm
      have e3 : ¬ S x = S s := fun z => e (S_inj.mp z)
      simp [PyData.eqv, e2, e3]
theorem eqv_txs : ∀ a b : List (List Nat), PyData.eqv (.list (a.map tx)) (.list (b.map tx)) = decide (a = b) := by
  intro a b
  rw [PyData.eqv]
  induction a generalizing b with
  | nil => cases b <;> simp [PyData.eqvAll]
  | cons x a ih =>
    cases b with
    | nil => simp [PyData.eqvAll]
    | cons y b =>
      rw [List.map_cons, List.map_cons, PyData.eqvAll, ih b]
      by_cases e : x = y
      · simp [PyData.eqv, e]
      · have e3 : ¬ S x = S y := fun z => e (S_inj.mp z)
        simp [PyData.eqv, e, e3]
section
variable {X : Cx}
theorem kd_max2 {i j : Int} {Q : Bool → D → Prop} (hc : X.calm = true) (q : Q false (.int (if j > i then j else i))) : KD X (.builtin "max") [.int i, .int j] Q := fun I H vs s r R k => by
  cases r with
  | cons r1 r =>
    cases r with
    | cons r2 r =>
      cases r
      rw [r1.int, r2.int]
      exact ⟨_, call_max2 hc, i, j, rfl, k.val s .mkInt q⟩
theorem kd_min2 {i j : Int} {Q : Bool → D → Prop} (hc : X.calm = true) (q : Q false (.int (if j < i then j else i))) : KD X (.builtin "min") [.int i, .int j] Q := fun I H vs s r R k => by
  cases r with
  | cons r1 r =>
    cases r with
    | cons r2 r =>
      cases r
      rw [r1.int, r2.int]
      exact ⟨_, call_min2 hc, i, j, rfl, k.val s .mkInt q⟩
end
theorem told_ch {h : List (List Nat)} (hv : Hv h) {s : List Nat} (m : s ∈ textsU h) : ∀ c ∈ s, c < 0x110000 := by
  obtain ⟨L, _, rfl⟩ := (mem_textsU hv.ne).mp m
  intro c mc
  unfold joinT at mc
  obtain ⟨x, mx, mcx⟩ := List.mem_flatten.mp mc
  obtain ⟨i, _, rfl⟩ := List.mem_map.mp mx
  unfold shr at mcx
  rw [List.getD_eq_getElem?_getD] at mcx
  cases e : h[i.toNat]? with
  | none => rw [e] at mcx; exact absurd mcx List.not_mem_nil
  | some s =>
    rw [e] at mcx
    exact lett_lt c ((hv.each s (List.mem_of_getElem? e)).2.2 c mcx)
theorem told_len {h : List (List Nat)} (hv : Hv h) {s : List Nat} (m : s ∈ textsU h) : s.length ≤ 1000 := by
  obtain ⟨L, mL, rfl⟩ := (mem_textsU hv.ne).mp m
  have k := (mem_ordL hv.ne).mp mL
  have l := k.pm.length_eq
  rw [rngI_len, List.length_append] at l
  have := joinT_le hv.small L.1
  have := hv.hi
  omega
theorem lays_some {h : List (List Nat)} (hv : Hv h) {Ls : List LY} (l : laysOf h Ls) {s : List Nat} (m : s ∈ textsU h) : ∃ L r, Ls = L :: r ∧ isNL h L ∧ Lay h L.1 L.2 ∧ joinT h L.1 ∈ textsU h := by
  obtain ⟨F, nd, mF, rfl⟩ := l
  obtain ⟨L', mL, _⟩ := (mem_textsU hv.ne).mp m
  have mm : nrm L' ∈ F.mergeSort (PySem.W.dataLe false lyD) := List.mem_mergeSort.mpr ((mF _).mpr ⟨L', mL, rfl⟩)
  cases e : F.mergeSort (PySem.W.dataLe false lyD) with
  | nil => rw [e] at mm; exact absurd mm List.not_mem_nil
  | cons L r =>
    have mL2 : L ∈ F := List.mem_mergeSort.mp (by rw [e]; exact List.mem_cons_self)
    have nl := (mF L).mp mL2
    have lo := hv.lo
    have ly := (isNL_lay hv.ne nl (by omega)).1
    exact ⟨L, r, rfl, nl, ly, (mem_textsU hv.ne).mpr ⟨L, (mem_ordL hv.ne).mpr ly, rfl⟩⟩

/-! ### what is sure: the program's words -/
noncomputable def LB (h : List (List Nat)) : List LY := (brute h).mergeSort (PySem.W.dataLe false lyD)
theorem mem_LB {h : List (List Nat)} (hv : Hv h) {L : LY} : L ∈ LB h ↔ Lay h L.1 L.2 ∧ (0 : Int) ∈ L.1 := by
  have lo := hv.lo
  unfold LB
  rw [List.mem_mergeSort, mem_brute hv.ne (by omega) hv.hi, isNL_iff hv.ne (by omega)]
theorem LB_len {h : List (List Nat)} (hv : Hv h) : (LB h).length ≤ 20160 := by
  have lo := hv.lo
  unfold LB
  rw [List.length_mergeSort]
  exact brute_len hv.ne (by omega) hv.hi
/-- a laying of a tame form -/
structure LyT (h : List (List Nat)) (L : LY) : Prop where
  l1 : L.1.length ≤ 8
  l2 : L.2.length ≤ 8
  p1 : PlacesOk h L.1
  p2 : PlacesOk h L.2
  ok : RowsOk L
  hl : 2 * (joinT h L.1).length = (h.map List.length).sum
theorem sum_app (a b : List Nat) : (a ++ b).sum = a.sum + b.sum := by simp
theorem rng_sum (h : List (List Nat)) : ((rngI h.length).map fun i => (shr h i).length) = h.map List.length := by
  refine List.ext_getElem? fun i => ?_
  unfold rngI
  rw [List.map_map, List.getElem?_map, List.getElem?_map]
  by_cases c : i < h.length
  · rw [List.getElem?_range c, List.getElem?_eq_getElem c]
    show some (shr h (i : Int)).length = _
    have := shr_at (h := h) (i := (i : Int)) (by omega) (by omega)
    rw [Int.toNat_natCast, List.getElem?_eq_getElem c] at this
    rw [← Option.some.inj this]
    rfl
  · rw [List.getElem?_eq_none (by rw [List.length_range]; omega), List.getElem?_eq_none (by omega)]
    rfl
theorem Lay.t {h : List (List Nat)} (hv : Hv h) {L : LY} (l : Lay h L.1 L.2) : LyT h L := by
  have hi := hv.hi
  have ln := l.pm.length_eq
  rw [List.length_append, rngI_len] at ln
  have mem : ∀ x, x ∈ L.1 ++ L.2 → 0 ≤ x ∧ x < h.length := fun x m => mem_rngI.mp (l.pm.mem_iff.mp m)
  refine ⟨by omega, by omega, fun x m => mem x (List.mem_append_left _ m), fun x m => mem x (List.mem_append_right _ m), l.pm.nodup_iff.mpr (rngI_nodup _), ?_⟩
  have e : (joinT h L.1).length + (joinT h L.2).length = (h.map List.length).sum := by
    rw [joinT_sum, joinT_sum, ← sum_app, ← List.map_append, ← rng_sum h]
    exact (l.pm.map _).sum_nat
  have e2 : (joinT h L.2).length = (joinT h L.1).length := by rw [l.tx]
  omega
theorem LB_t {h : List (List Nat)} (hv : Hv h) {L : LY} (m : L ∈ LB h) : LyT h L := ((mem_LB hv).mp m).1.t hv
def prD (z : Int × Int) : D := .tuple [.int z.1, .int z.2]
theorem shaped_prs (l : List (Int × Int)) : SeqAt.shaped (.list (l.map prD)) = true := by
  unfold SeqAt.shaped
  have a : PyData.canLayAll0 (l.map prD) = true ∧ PyData.depthAll (l.map prD) ≤ 1 := by
    induction l with
    | nil => exact ⟨by simp [PyData.canLayAll0], by simp [PyData.depthAll]⟩
    | cons z l ih =>
      rw [List.map_cons, PyData.canLayAll0, PyData.depthAll, ih.1]
      have := ih.2
      refine ⟨by simp [prD, PyData.canLay0, PyData.canLayAll0], ?_⟩
      have : PyData.depth (prD z) ≤ 1 := by simp [prD, PyData.depth, PyData.depthAll]
      omega
  rw [PyData.canLay0, PyData.depth, a.1, Bool.true_and]
  exact decide_eq_true (by have := a.2; omega)
theorem shaped_pr (z : Int × Int) : SeqAt.shaped (prD z) = true := by
  unfold SeqAt.shaped
  simp [prD, PyData.canLay0, PyData.canLayAll0, PyData.depth, PyData.depthAll]
theorem eqv_pr (a b : Int × Int) : PyData.eqv (prD a) (prD b) = decide (a = b) := by
  obtain ⟨a1, a2⟩ := a
  obtain ⟨b1, b2⟩ := b
  have := eqv_intsT [a1, a2] [b1, b2]
  simp only [List.map_cons, List.map_nil] at this
  rw [show prD (a1, a2) = .tuple [.int a1, .int a2] from rfl, show prD (b1, b2) = .tuple [.int b1, .int b2] from rfl, this]
  simp
theorem eqv_prs : ∀ a b : List (Int × Int), PyData.eqv (.list (a.map prD)) (.list (b.map prD)) = decide (a = b) := by
  intro a b
  rw [PyData.eqv]
  induction a generalizing b with
  | nil => cases b <;> simp [PyData.eqvAll]
  | cons x a ih =>
    cases b with
    | nil => simp [PyData.eqvAll]
    | cons y b =>
      rw [List.map_cons, List.map_cons, PyData.eqvAll, ih b, eqv_pr]
      by_cases e : x = y <;> by_cases e2 : a = b <;> simp [e, e2]
theorem any_zip (r : List Int) (p o : Int) : (((r.map PyData.int).zip ((r.drop 1).map PyData.int)).map fun z => PyData.tuple [z.1, z.2]).any (fun z => PyData.eqv z (.tuple [.int p, .int o])) = fol1 r p o := by
  rw [List.zip_map, List.map_map, List.any_map]
  unfold fol1
  congr 1
  funext z
  exact eqv_pr z (p, o)
theorem zip_prs (r : List Int) : ((r.map PyData.int).zip ((r.drop 1).map PyData.int)).map (fun z => PyData.tuple [z.1, z.2]) = (r.zip (r.drop 1)).map prD := by
  rw [List.zip_map, List.map_map]
  rfl
section
variable {P : Program} {w : World} {K : PySem.W.Frag} {mg : Str → Option Value} {base : Heap} {ea : Nat → Addr} {et : Addr}
def sp_all (ea : Nat → Addr) : DSp := fun ss Q W => ∃ h, ss = [.va (hpD h)] ∧ Hv h ∧ (LB h ≠ [] → Q false (.list ((LB h).map lyD)) ss) ∧ (LB h = [] → W (.ref (ea 2)))
theorem ok_all_layings {f : Addr} {fd : FuncData} (R : ExcR K mg "NoLaying" (ea 2)) (c0 : Cal P w K mg base "need_heap" 4 ["heap"] sp_need_heap) (c1 : Cal P w K mg base "layings_of" 12 ["heap"] sp_layings_of) (F : Fun K "all_layings" "all_layings" s_all_layings f fd) (hm : mg "all_layings" = some (.ref f)) (hb : Binds K fd ["heap"] []) : Cal P w K mg base "all_layings" 13 ["heap"] (sp_all ea) := by
  refine fn_ok F hm hb sc_all_layings (by rintro ss P W ⟨_, rfl, _⟩; rfl) ?_
  rintro cdv A outer s H E hr ss Q W ⟨h, rfl, hv, q1, q0⟩
  refine sd_cons (s1_expr (em_call c0 (hr.mono (by decide)) (am_cons (em_var 0 rfl (am_nil ⟨W0, fun _ z => z.elim, h, rfl, hv, ?_⟩)))))
  refine sd_cons (s1_set 1 sc_all_layings.nd (vm_data (em_call c1 (hr.mono (by decide)) (am_cons (em_var 0 rfl (am_nil ⟨W0, fun _ z => z.elim, h, rfl, hv, fun Ls hLs => ?_⟩))))))
  have e := lays_brute hv hLs
  subst e
  refine sd_cons (s1_if (tm_cmp (nomark _) (em_var 1 rfl (em_lst (am_nil ⟨small_line (by simp), rfl, fd_eq hr.units (shaped_lys _) (by decide) ⟨_, rfl, fun k => ?_, fun k => sd_nil ?_⟩⟩)))))
  · have e0 : LB h = [] := by
      cases q : LB h with
      | nil => rfl
      | cons L r =>
        have k : PyData.eqv (.list ((LB h).map lyD)) (.list []) = true := k
        rw [q] at k
        simp [PyData.eqv, PyData.eqvAll] at k
    exact sd_one (s1_raise R rfl (q0 e0))
  have ne : LB h ≠ [] := fun e => by
    have k : PyData.eqv (.list ((LB h).map lyD)) (.list []) = false := k
    rw [e] at k
    simp [PyData.eqv, PyData.eqvAll] at k
  exact sd_one (s1_ret (em_var 1 rfl (FinP.va (ds := [hpD h]) (q1 ne))))
def sp_follows : DSp := fun ss Q _ => ∃ L p o, ss = [.va (lyD L), .va (.int p), .va (.int o)] ∧ L.1.length ≤ 8 ∧ L.2.length ≤ 8 ∧ Q false (.bool (folB L p o)) ss
theorem ok_follows {f : Addr} {fd : FuncData} (B : Bare mg) (F : Fun K "follows" "follows" s_follows f fd) (hm : mg "follows" = some (.ref f)) (hb : Binds K fd ["laying", "place", "other"] []) : Cal P w K mg base "follows" 1 ["laying", "place", "other"] sp_follows := by
  refine fn_ok F hm hb sc_follows (by rintro ss P W ⟨_, _, _, rfl, _⟩; rfl) ?_
  rintro cdv A outer s H E hr ss Q W ⟨L, p, o, rfl, l1, l2, q⟩
  refine sd_one (s1_ret (em_callB B.any_ boot_any (am_cons (em_fm (.nm 3) [("part", 3)] rfl sc_follows.nd (blkOk_by (N := N_follows) (sc := defScope s_follows) (by decide +kernel)) (fun _ _ _ _ _ => pg_nm sc_follows.nd) (by decide) (.map plD (fun r => .bool (fol1 r p o)) (im_tuple (em_var 0 rfl ⟨[plD L.1, plD L.2], rfl, [L.1, L.2], rfl, small_line (by simp), fun r mr => ⟨_, rfl, fun _ _ _ _ _ => ?_⟩, ?_⟩)))))))
  · have lr : r.length ≤ 8 := by
      simp only [List.mem_cons, List.not_mem_nil, or_false] at mr
      rcases mr with rfl | rfl <;> assumption
    have ec : cut (r.map PyData.int) (some 1) none = (r.drop 1).map PyData.int := by
      have := cut_drop (r.map PyData.int) 1
      rw [show ((1 : Nat) : Int) = 1 from rfl] at this
      rw [this, List.map_drop]
    refine em_cmp rfl (em_tup (am_cons (em_var 1 rfl (am_cons (em_var 2 rfl (am_nil ⟨small_line (by simp), rfl, em_listZip rfl B.list_ B.zip_ (am_cons (em_var 3 rfl (am_cons (em_sl (em_var 3 rfl (om_some (em_int ⟨1, rfl, om_none (ld_tuple (am_nil ⟨_, _, rfl, ?_⟩))⟩)))))))⟩))))))
    rw [ec, zip_prs]
    refine fd_in_list (room65 hr) (shaped_pr (p, o)) (shaped_prs _) ⟨rfl, ?_⟩
    rw [← zip_prs]
    exact congrArg PyData.bool (any_zip r p o)
  · refine am_nil (kd_any (bs := [fol1 L.1 p o, fol1 L.2 p o]) rfl (FinP.va (ds := [lyD L, .int p, .int o]) ?_))
    have e : [fol1 L.1 p o, fol1 L.2 p o].any id = folB L p o := by simp [folB]
    rw [e]
    exact q
def sp_in_one : DSp := fun ss Q _ => ∃ L p o, ss = [.va (lyD L), .va (.int p), .va (.int o)] ∧ Q false (.bool (oneB L p o)) ss
theorem ok_in_one {f : Addr} {fd : FuncData} (F : Fun K "in_one" "in_one" s_in_one f fd) (hm : mg "in_one" = some (.ref f)) (hb : Binds K fd ["laying", "place", "other"] []) : Cal P w K mg base "in_one" 1 ["laying", "place", "other"] sp_in_one := by
  refine fn_ok F hm hb sc_in_one (by rintro ss P W ⟨_, _, _, rfl, _⟩; rfl) ?_
  rintro cdv A outer s H E hr ss Q W ⟨L, p, o, rfl, q⟩
  refine sd_one (s1_ret (em_cmp (nomark _) (em_cmp rfl (em_var 1 rfl (em_ix (fun _ _ => rfl) (em_var 0 rfl (em_int (id_tuple (d := plD L.1) rfl (fd_in_tuple (room65 hr) rfl (shaped_ints L.1) ?_)))))))))
  refine em_cmp rfl (em_var 2 rfl (em_ix (fun _ _ => rfl) (em_var 0 rfl (em_int (id_tuple (d := plD L.1) rfl (fd_in_tuple (room65 hr) rfl (shaped_ints L.1) (fd_eq_bool (FinP.va (ds := [lyD L, .int p, .int o]) ?_))))))))
  rw [any_ints, any_ints]
  have e : decide (decide (p ∈ L.1) = decide (o ∈ L.1)) = oneB L p o := by
    unfold oneB
    cases decide (p ∈ L.1) <;> cases decide (o ∈ L.1) <;> rfl
  rw [e]
  exact q
end

/-! ### behind, together, apart, the sure signs -/
section
variable {P : Program} {w : World} {K : PySem.W.Frag} {mg : Str → Option Value} {base : Heap} {ea : Nat → Addr} {et : Addr}
def sp_prs (ea : Nat → Addr) (c : List LY → Int → Int → Bool) : DSp := fun ss Q W => ∃ h, ss = [.va (hpD h)] ∧ Hv h ∧ (LB h ≠ [] → Q true (.list ((prs h.length (c (LB h))).map prD)) ss) ∧ (LB h = [] → W (.ref (ea 2)))
theorem prs_map (n : Nat) (c : Int → Int → Bool) : (prs n c).map prD = (rngI n).flatMap fun p => ((rngI n).filter fun o => c p o).map fun o => prD (p, o) := by
  unfold prs
  rw [List.map_flatMap]
  congr 1
  funext p
  rw [List.map_map]
  rfl
def cB (Ls : List LY) (p o : Int) : Bool := Ls.all fun L => folB L p o
def cT (Ls : List LY) (p o : Int) : Bool := decide (p < o) && Ls.all fun L => oneB L p o
def cA (Ls : List LY) (p o : Int) : Bool := decide (p < o) && !Ls.any fun L => oneB L p o
theorem rngI_le {n : Nat} (hn : n ≤ 8) (p : Int → Bool) (g : Int → D) : (((rngI n).filter p).map g).length ≤ 8 := by
  rw [List.length_map]
  refine Nat.le_trans (List.length_filter_le _ _) ?_
  rw [rngI_len]
  exact hn
theorem rngD_after (n i : Nat) : rngD ((i : Int) + 1) ((n : Int) - ((i : Int) + 1)).toNat = ((rngI n).filter fun o => decide ((i : Int) < o)).map PyData.int := by
  rw [rng_after, List.map_map]
  unfold rngD
  rw [show ((n : Int) - ((i : Int) + 1)).toNat = n - (i + 1) by omega]
  refine List.map_congr_left fun k _ => ?_
  show PyData.int ((i : Int) + 1 + (k : Int)) = PyData.int (((i + 1 + k : Nat)) : Int)
  exact congrArg _ (by omega)
set_option maxHeartbeats 2000000 in
theorem ok_behind {f : Addr} {fd : FuncData} (B : Bare mg) (c0 : Cal P w K mg base "all_layings" 13 ["heap"] (sp_all ea)) (c1 : Cal P w K mg base "follows" 1 ["laying", "place", "other"] sp_follows) (F : Fun K "behind" "behind" s_behind f fd) (hm : mg "behind" = some (.ref f)) (hb : Binds K fd ["heap"] []) : Cal P w K mg base "behind" 14 ["heap"] (sp_prs ea cB) := by
  refine fn_ok F hm hb sc_behind (by rintro ss P W ⟨_, rfl, _⟩; rfl) ?_
  rintro cdv A outer s H E hr ss Q W ⟨h, rfl, hv, q1, q0⟩
  have h8 := hv.hi
  refine sd_cons (s1_unpack (.tp [.nm 1, .nm 2]) (pg_tp rfl (pgs_1 (pg_nm sc_behind.nd) (pgs_1 (pg_nm sc_behind.nd) pgs_0))) (em_tup (am_cons (em_call c0 (hr.mono (by decide)) (am_cons (em_var 0 rfl (am_nil ⟨fun v => v = .ref (ea 2) ∧ LB h = [], fun v e => e.1 ▸ q0 e.2, h, rfl, hv, fun ne => am_cons (em_callB B.len PySem.boot_len (am_cons (em_var 0 rfl (am_nil (kd_len_tuple (am_nil ⟨small_line (by simp), rfl, _, rfl, ?_⟩)))))), fun k => ⟨rfl, k⟩⟩)))))))
  refine sd_re (ρ' := [.va (hpD h), .va (.list ((LB h).map lyD)), .va (.int ((h.map tx).length : Nat)), .no, .no, .no]) rfl ?_
  rw [List.length_map]
  have q1 := q1 ne
  rw [prs_map] at q1
  refine sd_one (s1_ret (em_fm2 (.nm 3) (.nm 4) [("place", 3), ("other", 4)] [4] rfl sc_behind.nd (blkOk_by (N := N_behind) (sc := defScope s_behind) (by decide +kernel)) (by decide) (fun _ _ _ _ _ => pg_nm sc_behind.nd) (fun _ _ _ _ _ => pg_nm sc_behind.nd) (by decide) (by decide)
    (im_range1 B.range_ (em_var 2 rfl ⟨(h.length : Int), rfl, by omega, by omega, Int, rngI h.length, .int, (fun p => ((rngI h.length).filter fun o => cB (LB h) p o).map fun o => prD (p, o)), by rw [Int.toNat_natCast, rngD_rngI], 8, by rw [rngI_len]; omega, by decide, fun p mp => ⟨rngI_le h8 _ _, _, rfl, fun _ _ _ _ _ => ?_⟩, FinP.va (ds := [hpD h]) q1⟩))))
  refine im_range1 B.range_ (em_var 2 rfl ⟨(h.length : Int), rfl, by omega, by omega, Int, rngI h.length, .int, (fun o => cB (LB h) p o), (fun o => prD (p, o)), by rw [Int.toNat_natCast, rngD_rngI], fun o mo => ⟨_, rfl, fun _ _ _ _ _ => ⟨?_, fun _ => em_tup (am_cons (em_var 3 rfl (am_cons (em_var 4 rfl (am_nil ⟨small_line (by simp), rfl, rfl, rfl⟩)))))⟩⟩, rfl⟩)
  refine (show TM true _ _ _ _ _ from ?_)
  refine tm_val (em_callB B.all_ boot_all (am_cons (em_fm (.nm 5) [("laying", 5)] rfl sc_behind.nd ?_ (fun _ _ _ _ _ => pg_nm sc_behind.nd) (by decide) (.map lyD (fun L => .bool (folB L p o)) (im_list (em_var 1 rfl ⟨_, rfl, LB h, rfl, small_line (by have := LB_len hv; omega), fun L mL => ⟨_, rfl, fun _ _ _ _ _ => ?_⟩, am_nil ?_⟩))))))
  · have bk1 : ∀ X' : Cx, X'.N = N_behind → X'.env.scope = { kind := ScopeKind.function, names := [(".0", .local), ("place", .cell), ("other", .cell), ("range", .globalImplicit), ("all", .globalImplicit), ("many", .cell), ("some", .cell)], isGenerator := false, isCoroutine := false } → BlkOk X'.N X'.env.scope { kind := ScopeKind.function, names := [(".0", .local), ("laying", .local), ("follows", .globalImplicit), ("other", .free), ("place", .free)], isGenerator := false, isCoroutine := false } [("laying", 5)] := fun X' e1 e2 => by
      rw [e1, e2]
      refine blkOk_by ?_
      decide +kernel
    exact bk1 _ rfl rfl
  · have t := LB_t hv mL
    exact em_call c1 (hr.mono (by decide)) (am_cons (em_var 5 rfl (am_cons (em_var 3 rfl (am_cons (em_var 4 rfl (am_nil ⟨W0, fun _ z => z.elim, L, p, o, rfl, t.l1, t.l2, rfl, rfl⟩)))))))
  · rw [show (LB h).map (fun L => PyData.bool (folB L p o)) = ((LB h).map fun L => folB L p o).map PyData.bool by rw [List.map_map]; rfl]
    exact kd_all rfl ⟨_, rfl, by unfold cB; rw [List.all_map]; rfl⟩
set_option maxHeartbeats 2000000 in
theorem ok_together {f : Addr} {fd : FuncData} (B : Bare mg) (c0 : Cal P w K mg base "all_layings" 13 ["heap"] (sp_all ea)) (c1 : Cal P w K mg base "in_one" 1 ["laying", "place", "other"] sp_in_one) (F : Fun K "together" "together" s_together f fd) (hm : mg "together" = some (.ref f)) (hb : Binds K fd ["heap"] []) : Cal P w K mg base "together" 14 ["heap"] (sp_prs ea cT) := by
  refine fn_ok F hm hb sc_together (by rintro ss P W ⟨_, rfl, _⟩; rfl) ?_
  rintro cdv A outer s H E hr ss Q W ⟨h, rfl, hv, q1, q0⟩
  have h8 := hv.hi
  refine sd_cons (s1_unpack (.tp [.nm 1, .nm 2]) (pg_tp rfl (pgs_1 (pg_nm sc_together.nd) (pgs_1 (pg_nm sc_together.nd) pgs_0))) (em_tup (am_cons (em_call c0 (hr.mono (by decide)) (am_cons (em_var 0 rfl (am_nil ⟨fun v => v = .ref (ea 2) ∧ LB h = [], fun v e => e.1 ▸ q0 e.2, h, rfl, hv, fun ne => am_cons (em_callB B.len PySem.boot_len (am_cons (em_var 0 rfl (am_nil (kd_len_tuple (am_nil ⟨small_line (by simp), rfl, _, rfl, ?_⟩)))))), fun k => ⟨rfl, k⟩⟩)))))))
  refine sd_re (ρ' := [.va (hpD h), .va (.list ((LB h).map lyD)), .va (.int ((h.map tx).length : Nat)), .no, .no, .no]) rfl ?_
  rw [List.length_map]
  have q1 := q1 ne
  rw [prs_map] at q1
  refine sd_one (s1_ret (em_fm2 (.nm 3) (.nm 4) [("place", 3), ("other", 4)] [4] rfl sc_together.nd (blkOk_by (N := N_together) (sc := defScope s_together) (by decide +kernel)) (by decide) (fun _ _ _ _ _ => pg_nm sc_together.nd) (fun _ _ _ _ _ => pg_nm sc_together.nd) (by decide) (by decide)
    (im_range1 B.range_ (em_var 2 rfl ⟨(h.length : Int), rfl, by omega, by omega, Int, rngI h.length, .int, (fun p => ((rngI h.length).filter fun o => cT (LB h) p o).map fun o => prD (p, o)), by rw [Int.toNat_natCast, rngD_rngI], 8, by rw [rngI_len]; omega, by decide, fun p mp => ⟨rngI_le h8 _ _, _, rfl, fun _ _ _ _ _ => ?_⟩, FinP.va (ds := [hpD h]) q1⟩))))
  obtain ⟨i, rfl⟩ := Int.eq_ofNat_of_zero_le (mem_rngI.mp mp).1
  have il := (mem_rngI.mp mp).2
  refine im_range2 B.range_ (em_bin (em_var 3 rfl (em_int (fd_add_int (em_var 2 rfl ⟨_, _, rfl, rfl, by omega, by omega, by omega, by omega, Int, (rngI h.length).filter fun o => decide ((i : Int) < o), .int, (fun o => cT (LB h) (i : Int) o), (fun o => prD ((i : Int), o)), rngD_after _ _, fun o mo => ⟨_, rfl, fun _ _ _ _ _ => ⟨?_, fun _ => em_tup (am_cons (em_var 3 rfl (am_cons (em_var 4 rfl (am_nil ⟨small_line (by simp), rfl, rfl, rfl⟩)))))⟩⟩, ?_⟩)))))
  rotate_left
  · show ((rngI h.length).filter fun o => cT (LB h) (i : Int) o).map (fun o => prD ((i : Int), o)) = (((rngI h.length).filter fun o => decide ((i : Int) < o)).filter fun o => cT (LB h) (i : Int) o).map fun o => prD ((i : Int), o)
    rw [List.filter_filter]
    congr 2
    funext o
    unfold cT
    cases decide ((i : Int) < o) <;> simp
  have lt := of_decide_eq_true (List.mem_filter.mp mo).2
  refine (show TM true _ _ _ _ _ from ?_)
  refine tm_val (em_callB B.all_ boot_all (am_cons (em_fm (.nm 5) [("laying", 5)] rfl sc_together.nd ?_ (fun _ _ _ _ _ => pg_nm sc_together.nd) (by decide) (.map lyD (fun L => .bool (oneB L (i : Int) o)) (im_list (em_var 1 rfl ⟨_, rfl, LB h, rfl, small_line (by have := LB_len hv; omega), fun L mL => ⟨_, rfl, fun _ _ _ _ _ => ?_⟩, am_nil ?_⟩))))))
  · have bk1 : ∀ X' : Cx, X'.N = N_together → X'.env.scope = { kind := ScopeKind.function, names := [(".0", .local), ("place", .cell), ("other", .cell), ("range", .globalImplicit), ("all", .globalImplicit), ("many", .cell), ("some", .cell)], isGenerator := false, isCoroutine := false } → BlkOk X'.N X'.env.scope { kind := ScopeKind.function, names := [(".0", .local), ("laying", .local), ("in_one", .globalImplicit), ("other", .free), ("place", .free)], isGenerator := false, isCoroutine := false } [("laying", 5)] := fun X' e1 e2 => by
      rw [e1, e2]
      refine blkOk_by ?_
      decide +kernel
    exact bk1 _ rfl rfl
  · exact em_call c1 (hr.mono (by decide)) (am_cons (em_var 5 rfl (am_cons (em_var 3 rfl (am_cons (em_var 4 rfl (am_nil ⟨W0, fun _ z => z.elim, L, (i : Int), o, rfl, rfl, rfl⟩)))))))
  · rw [show (LB h).map (fun L => PyData.bool (oneB L (i : Int) o)) = ((LB h).map fun L => oneB L (i : Int) o).map PyData.bool by rw [List.map_map]; rfl]
    exact kd_all rfl ⟨_, rfl, by unfold cT; rw [List.all_map]; show _ = (decide ((i : Int) < o) && _); rw [decide_eq_true lt, Bool.true_and]; rfl⟩
set_option maxHeartbeats 2000000 in
theorem ok_apart {f : Addr} {fd : FuncData} (B : Bare mg) (c0 : Cal P w K mg base "all_layings" 13 ["heap"] (sp_all ea)) (c1 : Cal P w K mg base "in_one" 1 ["laying", "place", "other"] sp_in_one) (F : Fun K "apart" "apart" s_apart f fd) (hm : mg "apart" = some (.ref f)) (hb : Binds K fd ["heap"] []) : Cal P w K mg base "apart" 14 ["heap"] (sp_prs ea cA) := by
  refine fn_ok F hm hb sc_apart (by rintro ss P W ⟨_, rfl, _⟩; rfl) ?_
  rintro cdv A outer s H E hr ss Q W ⟨h, rfl, hv, q1, q0⟩
  have h8 := hv.hi
  refine sd_cons (s1_unpack (.tp [.nm 1, .nm 2]) (pg_tp rfl (pgs_1 (pg_nm sc_apart.nd) (pgs_1 (pg_nm sc_apart.nd) pgs_0))) (em_tup (am_cons (em_call c0 (hr.mono (by decide)) (am_cons (em_var 0 rfl (am_nil ⟨fun v => v = .ref (ea 2) ∧ LB h = [], fun v e => e.1 ▸ q0 e.2, h, rfl, hv, fun ne => am_cons (em_callB B.len PySem.boot_len (am_cons (em_var 0 rfl (am_nil (kd_len_tuple (am_nil ⟨small_line (by simp), rfl, _, rfl, ?_⟩)))))), fun k => ⟨rfl, k⟩⟩)))))))
  refine sd_re (ρ' := [.va (hpD h), .va (.list ((LB h).map lyD)), .va (.int ((h.map tx).length : Nat)), .no, .no, .no]) rfl ?_
  rw [List.length_map]
  have q1 := q1 ne
  rw [prs_map] at q1
  refine sd_one (s1_ret (em_fm2 (.nm 3) (.nm 4) [("place", 3), ("other", 4)] [4] rfl sc_apart.nd (blkOk_by (N := N_apart) (sc := defScope s_apart) (by decide +kernel)) (by decide) (fun _ _ _ _ _ => pg_nm sc_apart.nd) (fun _ _ _ _ _ => pg_nm sc_apart.nd) (by decide) (by decide)
    (im_range1 B.range_ (em_var 2 rfl ⟨(h.length : Int), rfl, by omega, by omega, Int, rngI h.length, .int, (fun p => ((rngI h.length).filter fun o => cA (LB h) p o).map fun o => prD (p, o)), by rw [Int.toNat_natCast, rngD_rngI], 8, by rw [rngI_len]; omega, by decide, fun p mp => ⟨rngI_le h8 _ _, _, rfl, fun _ _ _ _ _ => ?_⟩, FinP.va (ds := [hpD h]) q1⟩))))
  obtain ⟨i, rfl⟩ := Int.eq_ofNat_of_zero_le (mem_rngI.mp mp).1
  have il := (mem_rngI.mp mp).2
  refine im_range2 B.range_ (em_bin (em_var 3 rfl (em_int (fd_add_int (em_var 2 rfl ⟨_, _, rfl, rfl, by omega, by omega, by omega, by omega, Int, (rngI h.length).filter fun o => decide ((i : Int) < o), .int, (fun o => cA (LB h) (i : Int) o), (fun o => prD ((i : Int), o)), rngD_after _ _, fun o mo => ⟨_, rfl, fun _ _ _ _ _ => ⟨?_, fun _ => em_tup (am_cons (em_var 3 rfl (am_cons (em_var 4 rfl (am_nil ⟨small_line (by simp), rfl, rfl, rfl⟩)))))⟩⟩, ?_⟩)))))
  rotate_left
  · show ((rngI h.length).filter fun o => cA (LB h) (i : Int) o).map (fun o => prD ((i : Int), o)) = (((rngI h.length).filter fun o => decide ((i : Int) < o)).filter fun o => cA (LB h) (i : Int) o).map fun o => prD ((i : Int), o)
    rw [List.filter_filter]
    congr 2
    funext o
    unfold cA
    cases decide ((i : Int) < o) <;> simp
  have lt := of_decide_eq_true (List.mem_filter.mp mo).2
  refine (show TM true _ _ _ _ _ from ?_)
  refine tm_not (tm_val (em_callB B.any_ boot_any (am_cons (em_fm (.nm 5) [("laying", 5)] rfl sc_apart.nd ?_ (fun _ _ _ _ _ => pg_nm sc_apart.nd) (by decide) (.map lyD (fun L => .bool (oneB L (i : Int) o)) (im_list (em_var 1 rfl ⟨_, rfl, LB h, rfl, small_line (by have := LB_len hv; omega), fun L mL => ⟨_, rfl, fun _ _ _ _ _ => ?_⟩, am_nil ?_⟩)))))))
  · have bk1 : ∀ X' : Cx, X'.N = N_apart → X'.env.scope = { kind := ScopeKind.function, names := [(".0", .local), ("place", .cell), ("other", .cell), ("range", .globalImplicit), ("any", .globalImplicit), ("many", .cell), ("some", .cell)], isGenerator := false, isCoroutine := false } → BlkOk X'.N X'.env.scope { kind := ScopeKind.function, names := [(".0", .local), ("laying", .local), ("in_one", .globalImplicit), ("other", .free), ("place", .free)], isGenerator := false, isCoroutine := false } [("laying", 5)] := fun X' e1 e2 => by
      rw [e1, e2]
      refine blkOk_by ?_
      decide +kernel
    exact bk1 _ rfl rfl
  · exact em_call c1 (hr.mono (by decide)) (am_cons (em_var 5 rfl (am_cons (em_var 3 rfl (am_cons (em_var 4 rfl (am_nil ⟨W0, fun _ z => z.elim, L, (i : Int), o, rfl, rfl, rfl⟩)))))))
  · rw [show (LB h).map (fun L => PyData.bool (oneB L (i : Int) o)) = ((LB h).map fun L => oneB L (i : Int) o).map PyData.bool by rw [List.map_map]; rfl]
    exact kd_any rfl ⟨_, rfl, by unfold cA; rw [List.any_map]; show _ = (decide ((i : Int) < o) && _); rw [decide_eq_true lt, Bool.true_and]; rfl⟩
end

/-! ### the sure signs -/
theorem S_list (r : List Nat) : (S r).cps.toList = r := by unfold S; simp
theorem sureF_len (w : List Nat) (r : List (List Nat)) : (sureF (w :: r)).length = w.length := by simp [sureF]
theorem sureF_at (w : List Nat) (r : List (List Nat)) {i : Nat} (hi : i < w.length) : (sureF (w :: r))[i]? = some (if (w :: r).all fun v => decide (v.getD i 0 = w.getD i 0) then w.getD i 0 else 46) := by
  unfold sureF
  simp only
  rw [List.getElem?_map, List.getElem?_range hi]
  rfl
theorem sure_ch {n : Nat} {W : List (List Nat)} (hc : ∀ w ∈ W, ∀ c ∈ w, c < 0x110000) : ∀ c ∈ sureF W, c < 0x110000 := by
  cases W with
  | nil => intro c m; cases m
  | cons w r =>
    intro c m
    unfold sureF at m
    obtain ⟨i, mi, rfl⟩ := List.mem_map.mp m
    have hi := List.mem_range.mp mi
    split
    · rw [List.getD_eq_getElem?_getD, List.getElem?_eq_getElem hi]
      exact hc w List.mem_cons_self _ (List.getElem_mem hi)
    · decide
theorem one_str {a b : Nat} : decide ((⟨#[a]⟩ : Str) = ⟨#[b]⟩) = decide (a = b) := by
  rw [decide_eq_decide]
  constructor
  · intro e
    injection e with e
    simpa using e
  · rintro rfl
    rfl
def TS (h : List (List Nat)) : List (List Nat) := (textsU h).mergeSort fun a b => decide (a ≤ b)
theorem mem_TS {h : List (List Nat)} (hv : Hv h) {t : List Nat} : t ∈ TS h ↔ t ∈ (LB h).map fun L => joinT h L.1 := by
  have lo := hv.lo
  unfold TS LB
  rw [List.mem_mergeSort, texts_brute hv.ne (by omega) hv.hi, List.mem_map, List.mem_map]
  constructor
  · rintro ⟨L, m, e⟩
    exact ⟨L, List.mem_mergeSort.mpr m, e⟩
  · rintro ⟨L, m, e⟩
    exact ⟨L, List.mem_mergeSort.mp m, e⟩
theorem word_len {h : List (List Nat)} (hv : Hv h) {w : List Nat} (m : w ∈ (LB h).map fun L => joinT h L.1) : w.length = (h.map List.length).sum / 2 ∧ (∀ c ∈ w, c < 0x110000) ∧ w.length ≤ 100 := by
  have ch := told_ch hv (List.mem_mergeSort.mp ((mem_TS hv).mpr m))
  obtain ⟨L, mL, rfl⟩ := List.mem_map.mp m
  have t := LB_t hv mL
  refine ⟨by have := t.hl; omega, ch, ?_⟩
  have := joinT_le hv.small L.1
  have := t.l1
  omega
section
variable {P : Program} {w : World} {K : PySem.W.Frag} {mg : Str → Option Value} {base : Heap} {ea : Nat → Addr} {et : Addr}
def sp_sure (ea : Nat → Addr) : DSp := fun ss Q W => ∃ h, ss = [.va (hpD h)] ∧ Hv h ∧ (LB h ≠ [] → Q false (tx (sureF ((LB h).map fun L => joinT h L.1))) ss) ∧ (LB h = [] → W (.ref (ea 2)))
set_option maxHeartbeats 2000000 in
theorem ok_sure_signs {f : Addr} {fd : FuncData} (B : Bare mg) (c0 : Cal P w K mg base "all_layings" 13 ["heap"] (sp_all ea)) (c1 : Cal P w K mg base "texts" 11 ["heap"] sp_texts) (F : Fun K "sure_signs" "sure_signs" s_sure_signs f fd) (hm : mg "sure_signs" = some (.ref f)) (hb : Binds K fd ["heap"] []) : Cal P w K mg base "sure_signs" 14 ["heap"] (sp_sure ea) := by
  refine fn_ok F hm hb sc_sure_signs (by rintro ss P W ⟨_, rfl, _⟩; rfl) ?_
  rintro cdv A outer s H E hr ss Q W ⟨h, rfl, hv, q1, q0⟩
  refine sd_cons (s1_expr (em_call c0 (hr.mono (by decide)) (am_cons (em_var 0 rfl (am_nil ⟨fun v => v = .ref (ea 2) ∧ LB h = [], fun v e => e.1 ▸ q0 e.2, h, rfl, hv, fun ne => ?_, fun k => ⟨rfl, k⟩⟩)))))
  have q1 := q1 ne
  refine sd_cons (s1_par2 1 2 rfl sc_sure_signs.nd (lm_cons (vm_data (em_call c1 (hr.mono (by decide)) (am_cons (em_var 0 rfl (am_nil ⟨W0, fun _ z => z.elim, h, rfl, hv, lm_cons (vm_data (em_str (lm_nil ⟨_, _, rfl, ?_⟩)))⟩)))))))
  have nW : (LB h).map (fun L => joinT h L.1) ≠ [] := fun e => ne (List.map_eq_nil_iff.mp e)
  have mT : ∀ t, t ∈ TS h ↔ t ∈ (LB h).map fun L => joinT h L.1 := fun t => mem_TS hv
  have lT0 : (TS h).length ≤ 1000000 := by
    have := nodup_le (TS h) ((LB h).map fun L => joinT h L.1) (List.mergeSort_perm _ _ |>.nodup_iff.mpr nodup_textsU) fun t m => (mT t).mp m
    rw [List.length_map] at this
    have := LB_len hv
    omega
  rw [show ((textsU h).mergeSort fun a b => decide (a ≤ b)) = TS h from rfl]
  have wl : ∀ t ∈ TS h, t.length = (h.map List.length).sum / 2 ∧ (∀ c ∈ t, c < 0x110000) ∧ t.length ≤ 100 := fun t m => word_len hv ((mT t).mp m)
  have nT : TS h ≠ [] := fun e => nW (List.eq_nil_iff_forall_not_mem.mpr fun t m => by
    have := (mT t).mpr m
    rw [e] at this
    cases this)
  rw [sureF_eq nW nT (fun t m => (word_len hv m).1) fun t => (mT t).symm] at q1
  generalize TS h = T at lT0 wl nT q1
  obtain ⟨t0, r0, rfl⟩ : ∃ t r, T = t :: r := by
    cases T with
    | nil => exact absurd rfl nT
    | cons t r => exact ⟨t, r, rfl⟩
  have w0 := wl t0 List.mem_cons_self
  have same : ∀ t ∈ t0 :: r0, t.length = t0.length := fun t m => (wl t m).1.trans w0.1.symm
  have sl := sureF_len t0 r0
  refine sd_cons (s1_for (.tp [.nm 3, .nm 4]) (passes_of rfl) rfl (pg_tp rfl (pgs_1 (pg_nm sc_sure_signs.nd) (pgs_1 (pg_nm sc_sure_signs.nd) pgs_0))) (im_enumS B.enumerate_ (em_ix (fun _ _ => rfl) (em_var 1 rfl (em_int (id_list (d := tx t0) (atI_of (by decide) rfl) ⟨_, rfl, fun i ρ => ∃ s3 s4, ρ = [.va (hpD h), .va (.list ((t0 :: r0).map tx)), .va (tx ((sureF (t0 :: r0)).take i)), s3, s4, .no], ⟨_, _, rfl⟩, ?_, ?_⟩))))))
  · rintro i d ρ2 hd ⟨s3, s4, rfl⟩
    have hi : i < t0.length := by
      have := (List.getElem?_eq_some_iff.mp hd).1
      rw [enumD_len] at this
      simpa [chars, S_list] using this
    have ec : (chars (S t0))[i]? = some (.str ⟨#[t0.getD i 0]⟩) := by
      unfold chars
      rw [S_list, List.getElem?_map, List.getElem?_eq_getElem hi, List.getD_eq_getElem?_getD, List.getElem?_eq_getElem hi]
      rfl
    rw [enumD_at ec] at hd
    cases hd
    refine ⟨_, rfl, ?_⟩
    have st := sureF_at t0 r0 hi
    have tk : (sureF (t0 :: r0)).take (i + 1) = (sureF (t0 :: r0)).take i ++ [if (t0 :: r0).all fun v => decide (v.getD i 0 = t0.getD i 0) then t0.getD i 0 else 46] := by
      rw [List.take_add_one, st]
      rfl
    have ll : ((sureF (t0 :: r0)).take i).length ≤ 100 := by
      rw [List.length_take]
      omega
    have add : ∀ c : Nat, S ((sureF (t0 :: r0)).take i) ++ (⟨#[c]⟩ : Str) = S ((sureF (t0 :: r0)).take i ++ [c]) := fun c => by
      rw [← S_app]
    refine sd_one (s1_aug 2 sc_sure_signs.nd rfl (em_ite (tm_val (em_callB B.all_ boot_all (am_cons (em_fm (.nm 5) [("text", 5)] rfl sc_sure_signs.nd (blkOk_by (N := N_sure_signs) (sc := defScope s_sure_signs) (by decide +kernel)) (fun _ _ _ _ _ => pg_nm sc_sure_signs.nd) (by decide) (.map tx (fun v => .bool (decide (v.getD i 0 = t0.getD i 0))) (im_list (em_var 1 rfl ⟨_, rfl, t0 :: r0, rfl, small_line lT0, fun v mv => ⟨_, rfl, fun _ _ _ _ _ => ?_⟩, am_nil ?_⟩)))))))))
    · have vl := same v mv
      have va : v[i]? = some (v.getD i 0) := by
        rw [List.getD_eq_getElem?_getD, List.getElem?_eq_getElem (by omega : i < v.length)]
        rfl
      refine em_cmp (nomark _) (em_ix (fun _ _ => rfl) (em_var 5 rfl (em_var 3 rfl (id_str (c := v.getD i 0) (by rw [S_len]; exact small_line (by have := (wl v mv).2.2; omega)) (atI_nat (by rw [S_list]; exact va)) (em_var 4 rfl (fd_eq_str ⟨rfl, ?_⟩))))))
      exact congrArg PyData.bool one_str
    rw [show (t0 :: r0).map (fun v => PyData.bool (decide (v.getD i 0 = t0.getD i 0))) = ((t0 :: r0).map fun v => decide (v.getD i 0 = t0.getD i 0)).map PyData.bool by rw [List.map_map]; rfl]
    refine kd_all rfl ⟨_, rfl, fun k => ?_, fun k => ?_⟩
    · rw [List.all_map] at k
      have k : ((t0 :: r0).all fun v => decide (v.getD i 0 = t0.getD i 0)) = true := k
      rw [if_pos k] at tk
      refine em_var 4 rfl (pd_add_str (by rw [S_len]; exact small_line (by show _ + 1 ≤ _; omega)) ⟨.va (.int (i : Nat)), .va (.str ⟨#[t0.getD i 0]⟩), ?_⟩)
      rw [add, ← tk]
      rfl
    · rw [List.all_map] at k
      have k : ((t0 :: r0).all fun v => decide (v.getD i 0 = t0.getD i 0)) = false := k
      rw [if_neg (by rw [k]; exact Bool.false_ne_true)] at tk
      refine em_str (pd_add_str (by rw [S_len]; exact small_line (by show _ + 1 ≤ _; omega)) ⟨.va (.int (i : Nat)), .va (.str ⟨#[t0.getD i 0]⟩), ?_⟩)
      rw [show (Str.ofString "." : Str) = ⟨#[46]⟩ from rfl, add, ← tk]
      rfl
  · rintro ρ2 ⟨s3, s4, rfl⟩
    rw [enumD_len, show (chars (S t0)).length = t0.length by simp [chars, S_list], ← sl, List.take_length]
    exact sd_one (s1_ret (em_var 2 rfl (FinP.va (ds := [hpD h]) q1)))
end

/-! ### the law's words: straight behind -/
section
variable {P : Program} {w : World} {K : PySem.W.Frag} {mg : Str → Option Value} {base : Heap} {ea : Nat → Addr} {et : Addr}
def sp_lbehind : DSp := fun ss Q _ => ∃ Ls : List LY, ∃ p o, ss = [.va (.list (Ls.map lyD)), .va (.int p), .va (.int o)] ∧ Ls.length ≤ 100000 ∧ Q false (.bool (Ls.all fun L => lfol L p o)) ss
theorem eqv_rows (R : List (List Int)) : PyData.eqv (.list (R.map plD)) (.list []) = decide (R = []) := by
  cases R with
  | nil => simp [PyData.eqv, PyData.eqvAll]
  | cons r R => simp [PyData.eqv, PyData.eqvAll]
theorem shaped_rows (R : List (List Int)) : SeqAt.shaped (.list (R.map plD)) = true := by
  unfold SeqAt.shaped
  have a : PyData.canLayAll0 (R.map plD) = true ∧ PyData.depthAll (R.map plD) ≤ 1 := by
    induction R with
    | nil => exact ⟨by simp [PyData.canLayAll0], by simp [PyData.depthAll]⟩
    | cons z l ih =>
      rw [List.map_cons, PyData.canLayAll0, PyData.depthAll, ih.1]
      have i2 := ih.2
      have sz : SeqAt.shaped (plD z) = true := shaped_ints z
      unfold SeqAt.shaped at sz
      rw [Bool.and_eq_true] at sz
      have dz : PyData.depth (plD z) ≤ 1 := by
        unfold plD
        rw [PyData.depth, PySem.W.depth_ints]
        omega
      exact ⟨by rw [sz.1]; rfl, by omega⟩
  rw [PyData.canLay0, PyData.depth, a.1, Bool.true_and]
  exact decide_eq_true (by have := a.2; omega)
set_option maxHeartbeats 2000000 in
theorem ok_law_behind {f : Addr} {fd : FuncData} (F : Fun K "_law_behind" "_law_behind" s_law_behind f fd) (hm : mg "_law_behind" = some (.ref f)) (hb : Binds K fd ["layings_so", "place", "other"] []) : Cal P w K mg base "_law_behind" 1 ["layings_so", "place", "other"] sp_lbehind := by
  refine fn_ok F hm hb sc_law_behind (by rintro ss P W ⟨_, _, _, rfl, _⟩; rfl) ?_
  rintro cdv A outer s H E hr ss Q W ⟨Ls, p, o, rfl, ll, q⟩
  refine sd_cons (s1_for (.nm 3) (passes_of rfl) rfl (pg_nm sc_law_behind.nd) (im_list (em_var 0 rfl ⟨_, rfl, fun i ρ => ((Ls.take i).all fun L => lfol L p o) = true ∧ ∃ s3 s4, ρ = [.va (.list (Ls.map lyD)), .va (.int p), .va (.int o), s3, s4, .no], ⟨rfl, _, _, rfl⟩, ?_, ?_⟩)))
  · rintro i d ρ2 hd ⟨hi, s3, s4, rfl⟩
    rw [List.getElem?_map] at hd
    obtain ⟨L, hL, rfl⟩ := Option.map_eq_some_iff.mp hd
    have mL := List.mem_of_getElem? hL
    have no : lfol L p o = false → ∀ ρ, FinP [.va (.list (Ls.map lyD)), .va (.int p), .va (.int o)] Q false (.bool false) ρ := fun e ρ => FinP.va (ds := [.list (Ls.map lyD), .int p, .int o]) (by
      rw [show (Ls.all fun L => lfol L p o) = false from Bool.eq_false_iff.mpr fun z => by rw [List.all_eq_true.mp z L mL] at e; cases e] at q
      exact q)
    refine ⟨_, rfl, ?_⟩
    refine sd_cons (s1_setFm 4 (.nm 5) [("part", 5)] rfl sc_law_behind.nd (blkOk_by (N := N_law_behind) (sc := defScope s_law_behind) (by decide +kernel)) (fun _ _ _ _ _ => pg_nm sc_law_behind.nd) (by decide) (.filter plD (fun r => decide (p ∈ r) && decide (o ∈ r)) plD (im_tuple (em_var 3 rfl ⟨[plD L.1, plD L.2], rfl, [L.1, L.2], rfl, small_line (by simp), fun r mr => ⟨_, rfl, fun _ _ _ _ _ => ⟨?_, fun _ => em_var 5 rfl ⟨rfl, rfl⟩⟩⟩, fun p4 => ?_⟩))))
    · refine tm_of_um (um_and (tm_cmp rfl (em_var 1 rfl (em_var 5 rfl (fd_in_tuple (room65 hr) rfl (shaped_ints r) ⟨_, rfl, fun k => um_and1 (tm_cmp rfl (em_var 2 rfl (em_var 5 rfl (fd_in_tuple (room65 hr) rfl (shaped_ints r) ⟨_, rfl, ?_⟩)))), fun k => ?_⟩)))))
      · rw [any_ints] at k ⊢
        rw [k, Bool.true_and]
      · rw [any_ints] at k
        rw [k, Bool.false_and]
    refine sd_freeze 4 rfl (fz_lst _) ?_
    refine sd_re (ρ' := [.va (.list (Ls.map lyD)), .va (.int p), .va (.int o), .va (lyD L), .va (.list (([L.1, L.2].filter fun r => decide (p ∈ r) && decide (o ∈ r)).map plD)), .no]) rfl ?_
    have mR : ∀ r ∈ [L.1, L.2].filter (fun r => decide (p ∈ r) && decide (o ∈ r)), p ∈ r ∧ o ∈ r := fun r m => by
      have := (List.mem_filter.mp m).2
      simpa using this
    have eL : lfol L p o = match [L.1, L.2].filter fun r => decide (p ∈ r) && decide (o ∈ r) with
      | [] => false
      | r :: _ => decide (((r.idxOf o : Nat) : Int) - ((r.idxOf p : Nat) : Int) = 1) := rfl
    generalize [L.1, L.2].filter (fun r => decide (p ∈ r) && decide (o ∈ r)) = R at mR eL
    have kR := eqv_rows R
    have sR := shaped_rows R
    refine sd_one (s1_if (tm_of_um (um_or (tm_cmp (nomark _) (em_var 4 rfl (em_lst (am_nil ⟨small_line (by simp), rfl, fd_eq hr.units sR (by decide) ⟨_, rfl, fun k => ?_, fun k => ⟨fun _ => sd_one (s1_ret (em_bool (no ?_ _))), fun z => Bool.noConfusion z⟩⟩⟩)))))))
    rotate_left
    · rw [kR] at k
      rw [eL, of_decide_eq_true k]
    rw [kR] at k
    obtain ⟨r, R', rfl⟩ : ∃ r R', R = r :: R' := by
      cases R with
      | nil => exact absurd rfl (of_decide_eq_false k)
      | cons r R' => exact ⟨r, R', rfl⟩
    have ⟨mp, mo⟩ := mR r List.mem_cons_self
    refine um_or1 (tm_cmp (nomark _) (em_bin (em_tindex (em_ix (fun _ _ => rfl) (em_var 4 rfl (em_int (id_list (d := plD r) (atI_of (by decide) rfl) ⟨r, rfl, em_var 2 rfl ⟨o, rfl, mo, em_tindex (em_ix (fun _ _ => rfl) (em_var 4 rfl (em_int (id_list (d := plD r) (atI_of (by decide) rfl) ⟨r, rfl, em_var 1 rfl ⟨p, rfl, mp, fd_sub_int (em_int (fd_ne_int ⟨_, rfl, fun k2 => ?_, fun k2 => sd_nil ?_⟩))⟩⟩))))⟩⟩)))))))
    · refine sd_one (s1_ret (em_bool (no ?_ _)))
      rw [eL]
      simpa using k2
    · refine ⟨?_, _, _, rfl⟩
      rw [List.take_add_one, hL, List.all_append, hi, Bool.true_and]
      show ([L].all fun L => lfol L p o) = true
      rw [List.all_cons, List.all_nil, Bool.and_true, eL]
      simpa using k2
  · rintro ρ2 ⟨hi, s3, s4, rfl⟩
    rw [List.length_map, List.take_length] at hi
    rw [hi] at q
    exact sd_one (s1_ret (em_bool (FinP.va (ds := [.list (Ls.map lyD), .int p, .int o]) q)))
end

/-! ### what is due -/
def F3 (x y z : List (Int × Int)) : List (List D) := [x.map prD, y.map prD, z.map prD]
def b2 (b : Bool) : Int := if b then 1 else 0
def preP (n : Nat) (c : Int → Int → Bool) (i : Nat) : List (Int × Int) := ((rngI n).take i).flatMap fun p => ((rngI n).filter fun o => c p o).map fun o => (p, o)
def rowP (n : Nat) (c : Int → Int → Bool) (p : Int) (j : Nat) : List (Int × Int) := (((rngI n).take j).filter fun o => c p o).map fun o => (p, o)
theorem rngI_at {n i : Nat} (hi : i < n) : (rngI n)[i]? = some (i : Int) := by
  unfold rngI
  rw [List.getElem?_map, List.getElem?_range hi]
  rfl
theorem rng_get {n i : Nat} {d : D} (h : (rngD 0 n)[i]? = some d) : i < n ∧ d = .int (i : Nat) := by
  have hi : i < n := by
    have := (List.getElem?_eq_some_iff.mp h).1
    simpa [rngD] using this
  rw [rngD_rngI, List.getElem?_map, rngI_at hi] at h
  exact ⟨hi, (Option.some.inj h).symm⟩
theorem rowP_succ {n j : Nat} {c : Int → Int → Bool} {p : Int} (hj : j < n) : rowP n c p (j + 1) = rowP n c p j ++ if c p (j : Int) = true then [(p, (j : Int))] else [] := by
  unfold rowP
  rw [List.take_add_one, rngI_at hj, List.filter_append, List.map_append]
  congr 1
  show List.map _ (List.filter _ [(j : Int)]) = _
  by_cases k : c p (j : Int) = true
  · rw [List.filter_cons_of_pos k, if_pos k]; rfl
  · rw [List.filter_cons_of_neg k, if_neg k]; rfl
theorem preP_succ {n i : Nat} {c : Int → Int → Bool} (hi : i < n) : preP n c (i + 1) = preP n c i ++ rowP n c (i : Int) n := by
  have e : (rngI n).take n = rngI n := List.take_of_length_le (by rw [rngI_len]; exact Nat.le_refl _)
  unfold preP rowP
  rw [List.take_add_one, rngI_at hi, List.flatMap_append, e]
  congr 1
  show List.flatMap _ [(i : Int)] = _
  rw [List.flatMap_cons, List.flatMap_nil, List.append_nil]
theorem preP_all (n : Nat) (c : Int → Int → Bool) : preP n c n = prs n c := by
  unfold preP prs
  rw [List.take_of_length_le (by rw [rngI_len]; exact Nat.le_refl _)]
theorem rowP_len {n : Nat} (hn : n ≤ 8) (c : Int → Int → Bool) (p : Int) (j : Nat) : (rowP n c p j).length ≤ 8 := by
  unfold rowP
  rw [List.length_map]
  refine Nat.le_trans (List.length_filter_le _ _) ?_
  rw [List.length_take, rngI_len]
  omega
theorem preP_len {n : Nat} (hn : n ≤ 8) (c : Int → Int → Bool) : ∀ i, i ≤ n → (preP n c i).length ≤ i * 8
  | 0, _ => by unfold preP; simp
  | i + 1, h => by
    have := preP_len hn c i (by omega)
    have := rowP_len hn c (i : Int) n
    rw [preP_succ (by omega), List.length_append]
    omega
theorem sum_b2 : ∀ bs : List Bool, (bs.map b2).sum = ((bs.filter id).length : Nat)
  | [] => rfl
  | b :: bs => by
    rw [List.map_cons, List.sum_cons, sum_b2 bs]
    cases b
    · simp [b2]
    · simp [b2]; omega
theorem sum_len (bs : List Bool) : decide ((bs.map b2).sum = (bs.length : Nat)) = bs.all id := by
  rw [sum_b2, Bool.eq_iff_iff, decide_eq_true_eq, List.all_eq_true]
  constructor
  · intro e b m
    have : (bs.filter id).length = bs.length := by omega
    exact List.filter_eq_self.mp (List.filter_sublist.eq_of_length this) b m
  · intro k
    rw [List.filter_eq_self.mpr k]
theorem sum_zero (bs : List Bool) : decide ((bs.map b2).sum = 0) = !bs.any id := by
  rw [sum_b2, Bool.eq_iff_iff, decide_eq_true_eq, Bool.not_eq_true', List.any_eq_false]
  constructor
  · intro e b m z
    have : (bs.filter id).length = 0 := by omega
    have := List.length_eq_zero_iff.mp this
    have := (List.filter_eq_nil_iff.mp this) b m
    exact this z
  · intro k
    rw [List.filter_eq_nil_iff.mpr k]
    rfl
theorem lawB {h : List (List Nat)} (hv : Hv h) (ne : LB h ≠ []) (p o : Int) : (!decide (p = o) && (LB h).all fun L => lfol L p o) = cB (LB h) p o := by
  have e : ((LB h).all fun L => lfol L p o) = cB (LB h) p o := by
    unfold cB
    rw [Bool.eq_iff_iff, List.all_eq_true, List.all_eq_true]
    exact ⟨fun k L m => by rw [← lfol_eq (LB_t hv m).ok]; exact k L m, fun k L m => by rw [lfol_eq (LB_t hv m).ok]; exact k L m⟩
  rw [e]
  by_cases z : p = o
  · subst z
    obtain ⟨L, m⟩ := List.exists_mem_of_ne_nil _ ne
    have : cB (LB h) p p = false := Bool.eq_false_iff.mpr fun k => by
      have := List.all_eq_true.mp k L m
      rw [folB_ne (LB_t hv m).ok] at this
      cases this
    rw [this, Bool.and_false]
  · rw [decide_eq_false z]
    rfl
theorem lawT (Ls : List LY) (p o : Int) : (decide (p < o) && decide (((Ls.map fun L => oneB L p o).map b2).sum = ((Ls.map fun L => oneB L p o).length : Nat))) = cT Ls p o := by
  rw [sum_len, List.all_map]
  rfl
theorem lawA (Ls : List LY) (p o : Int) : (decide (p < o) && decide (((Ls.map fun L => oneB L p o).map b2).sum = 0)) = cA Ls p o := by
  rw [sum_zero, List.any_map]
  rfl
section
variable {P : Program} {w : World} {K : PySem.W.Frag} {mg : Str → Option Value} {base : Heap} {ea : Nat → Addr} {et : Addr}
noncomputable def wordsL (h : List (List Nat)) : List (List Nat) := (LB h).map fun L => joinT h L.1
noncomputable def dueD (h : List (List Nat)) : List D := [.list ((prs h.length (cB (LB h))).map prD), .list ((prs h.length (cT (LB h))).map prD), .list ((prs h.length (cA (LB h))).map prD), tx (sureF (wordsL h))]
def sp_due : DSp := fun ss Q _ => ∃ h, ss = [.va (hpD h), .va (.list ((LB h).map lyD))] ∧ Hv h ∧ LB h ≠ [] ∧ Q true (.list (dueD h)) ss
set_option maxHeartbeats 8000000 in
theorem ok_law_due {f : Addr} {fd : FuncData} (B : Bare mg) (c1 : Cal P w K mg base "_law_behind" 1 ["layings_so", "place", "other"] sp_lbehind) (c2 : Cal P w K mg base "_law_said" 1 ["heap", "places"] sp_said) (F : Fun K "_law_due" "_law_due" s_law_due f fd) (hm : mg "_law_due" = some (.ref f)) (hb : Binds K fd ["heap", "layings_so"] []) : Cal P w K mg base "_law_due" 2 ["heap", "layings_so"] sp_due := by
  refine fn_ok F hm hb sc_law_due (by rintro ss P W ⟨_, rfl, _⟩; rfl) ?_
  rintro cdv A outer s H E hr ss Q W ⟨h, rfl, hv, ne, fq⟩
  have h8 := hv.hi
  have hs := hv.small
  have lL := LB_len hv
  refine sd_cons (s1_par2 2 3 rfl sc_law_due.nd (lm_cons (vm_data (em_callB B.len PySem.boot_len (am_cons (em_var 0 rfl (am_nil (kd_len_tuple (lm_cons (vm_LL3 fun q p1 p2 p3 => lm_nil ⟨_, _, rfl, ?_⟩))))))))))
  refine sd_re (ρ' := [.va (hpD h), .va (.list ((LB h).map lyD)), .va (.int (h.length : Nat)), .ll q [p1, p2, p3] ((F3 ([]) ([]) ([])).map MO.lst), .no, .no, .no, .no, .no, .no, .no, .no, .no, .no]) (by rw [List.length_map]; rfl) ?_
  refine sd_cons (s1_for (.nm 4) (passes_of rfl) rfl (pg_nm sc_law_due.nd) (im_range1 B.range_ (em_var 2 rfl ⟨(h.length : Nat), rfl, by omega, by omega, fun i ρ => ∃ s4 s5 s6 s7, ρ = [.va (hpD h), .va (.list ((LB h).map lyD)), .va (.int (h.length : Nat)), .ll q [p1, p2, p3] ((F3 (preP h.length (cB (LB h)) i) (preP h.length (cT (LB h)) i) (preP h.length (cA (LB h)) i)).map MO.lst), s4, s5, s6, s7, .no, .no, .no, .no, .no, .no], ⟨_, _, _, _, rfl⟩, ?_, ?_⟩)))
  · rintro i d ρ2 hd ⟨s4, s5, s6, s7, rfl⟩
    obtain ⟨il, rfl⟩ := rng_get hd
    rw [Int.toNat_natCast] at il
    refine ⟨_, rfl, ?_⟩
    have lB := preP_len h8 (cB (LB h)) i (by omega)
    have lT := preP_len h8 (cT (LB h)) i (by omega)
    have lA := preP_len h8 (cA (LB h)) i (by omega)
    refine sd_one (s1_for (.nm 5) (passes_of rfl) rfl (pg_nm sc_law_due.nd) (im_range1 B.range_ (em_var 2 rfl ⟨(h.length : Nat), rfl, by omega, by omega, fun j ρ => ∃ s5 s6 s7, ρ = [.va (hpD h), .va (.list ((LB h).map lyD)), .va (.int (h.length : Nat)), .ll q [p1, p2, p3] ((F3 (preP h.length (cB (LB h)) i ++ rowP h.length (cB (LB h)) (i : Int) j) (preP h.length (cT (LB h)) i ++ rowP h.length (cT (LB h)) (i : Int) j) (preP h.length (cA (LB h)) i ++ rowP h.length (cA (LB h)) (i : Int) j)).map MO.lst), .va (.int (i : Nat)), s5, s6, s7, .no, .no, .no, .no, .no, .no], ⟨s5, s6, s7, ?_⟩, ?_, ?_⟩)))
    · show [.va (hpD h), .va (.list ((LB h).map lyD)), .va (.int (h.length : Nat)), .ll q [p1, p2, p3] ((F3 (preP h.length (cB (LB h)) i) (preP h.length (cT (LB h)) i) (preP h.length (cA (LB h)) i)).map MO.lst), .va (.int (i : Nat)), s5, s6, s7, .no, .no, .no, .no, .no, .no] = _
      simp only [rowP, List.take_zero, List.filter_nil, List.map_nil, List.append_nil]
    · rintro j d ρ3 hd ⟨s5, s6, s7, rfl⟩
      obtain ⟨jl, rfl⟩ := rng_get hd
      rw [Int.toNat_natCast] at jl
      refine ⟨_, rfl, ?_⟩
      have rB := rowP_len h8 (cB (LB h)) (i : Int) j
      have rT := rowP_len h8 (cT (LB h)) (i : Int) j
      have rA := rowP_len h8 (cA (LB h)) (i : Int) j
      have eB := rowP_succ (c := cB (LB h)) (p := (i : Int)) jl
      have eT := rowP_succ (c := cT (LB h)) (p := (i : Int)) jl
      have eA := rowP_succ (c := cA (LB h)) (p := (i : Int)) jl
      have kB := lawB hv ne (i : Int) (j : Int)
      have kT := lawT (LB h) (i : Int) (j : Int)
      have kA := lawA (LB h) (i : Int) (j : Int)
      -- near
      refine sd_cons (s1_set 6 sc_law_due.nd (vm_own (em_lst (am_nil ⟨small_line (by simp), rfl, rfl, [], rfl, fun p6 => ?_⟩))))
      refine sd_re (ρ' := [.va (hpD h), .va (.list ((LB h).map lyD)), .va (.int (h.length : Nat)), .ll q [p1, p2, p3] ((F3 (preP h.length (cB (LB h)) i ++ rowP h.length (cB (LB h)) (i : Int) j) (preP h.length (cT (LB h)) i ++ rowP h.length (cT (LB h)) (i : Int) j) (preP h.length (cA (LB h)) i ++ rowP h.length (cA (LB h)) (i : Int) j)).map MO.lst), .va (.int (i : Nat)), .va (.int (j : Nat)), .mo p6 (.lst []), s7, .no, .no, .no, .no, .no, .no]) rfl ?_
      refine sd_cons (s1_for (.nm 7) (passes_of rfl) rfl (pg_nm sc_law_due.nd) (im_list (em_var 1 rfl ⟨_, rfl, fun k ρ => ∃ s7, ρ = [.va (hpD h), .va (.list ((LB h).map lyD)), .va (.int (h.length : Nat)), .ll q [p1, p2, p3] ((F3 (preP h.length (cB (LB h)) i ++ rowP h.length (cB (LB h)) (i : Int) j) (preP h.length (cT (LB h)) i ++ rowP h.length (cT (LB h)) (i : Int) j) (preP h.length (cA (LB h)) i ++ rowP h.length (cA (LB h)) (i : Int) j)).map MO.lst), .va (.int (i : Nat)), .va (.int (j : Nat)), .mo p6 (.lst ((((LB h).take k).map fun L => b2 (oneB L (i : Int) (j : Int))).map .int)), s7, .no, .no, .no, .no, .no, .no], ⟨s7, rfl⟩, ?_, ?_⟩)))
      · rintro k d ρ4 hd ⟨s7, rfl⟩
        rw [List.getElem?_map] at hd
        obtain ⟨L, hL, rfl⟩ := Option.map_eq_some_iff.mp hd
        have kl : k < (LB h).length := (List.getElem?_eq_some_iff.mp hL).1
        refine ⟨_, rfl, ?_⟩
        refine sd_one (s1_expr (em_append 6 rfl (em_callTy B.int_ boot_int (am_cons (em_cmp (nomark _) (em_cmp rfl (em_var 4 rfl (em_ix (fun _ _ => rfl) (em_var 7 rfl (em_int (id_tuple (d := plD L.1) rfl (fd_in_tuple (room65 hr) rfl (shaped_ints L.1) ?_))))))))))))
        refine em_cmp rfl (em_var 5 rfl (em_ix (fun _ _ => rfl) (em_var 7 rfl (em_int (id_tuple (d := plD L.1) rfl (fd_in_tuple (room65 hr) rfl (shaped_ints L.1) (fd_eq_bool (am_nil (kd_int_bool ⟨_, rfl, rfl, ?_, ?_⟩)))))))))
        · rw [List.length_map, List.length_map, List.length_take, sizeLine_eq]
          omega
        · refine ⟨.va (lyD L), ?_⟩
          rw [List.take_add_one, hL, List.map_append, List.map_append, any_ints, any_ints]
          have e : (if decide (decide ((i : Int) ∈ L.1) = decide ((j : Int) ∈ L.1)) = true then (1 : Int) else 0) = b2 (oneB L (i : Int) (j : Int)) := by
            unfold oneB b2
            cases decide ((i : Int) ∈ L.1) <;> cases decide ((j : Int) ∈ L.1) <;> rfl
          rw [e]
          rfl
      rintro ρ4 ⟨s7, rfl⟩
      rw [List.length_map, List.take_length]
      have eN : ((LB h).map fun L => b2 (oneB L (i : Int) (j : Int))) = ((LB h).map fun L => oneB L (i : Int) (j : Int)).map b2 := by rw [List.map_map]; rfl
      have lN : ((LB h).map fun L => b2 (oneB L (i : Int) (j : Int))).length = ((LB h).map fun L => oneB L (i : Int) (j : Int)).length := by rw [List.length_map, List.length_map]
      -- behind
      refine sd_cut (fun ρ => ρ = [.va (hpD h), .va (.list ((LB h).map lyD)), .va (.int (h.length : Nat)), .ll q [p1, p2, p3] ((F3 (preP h.length (cB (LB h)) i ++ rowP h.length (cB (LB h)) (i : Int) (j + 1)) (preP h.length (cT (LB h)) i ++ rowP h.length (cT (LB h)) (i : Int) j) (preP h.length (cA (LB h)) i ++ rowP h.length (cA (LB h)) (i : Int) j)).map MO.lst), .va (.int (i : Nat)), .va (.int (j : Nat)), .mo p6 (.lst (((LB h).map fun L => b2 (oneB L (i : Int) (j : Int))).map .int)), s7, .no, .no, .no, .no, .no, .no]) ?_ ?_
      · refine s1_if (tm_of_um (um_and (tm_cmp (nomark _) (em_var 4 rfl (em_var 5 rfl (fd_ne_int ⟨_, rfl, fun k => ?_, fun k => ⟨fun z => Bool.noConfusion z, fun _ => sd_nil ?_⟩⟩))))))
        · have k' : decide (((i : Nat) : Int) = ((j : Nat) : Int)) = false := by simpa using k
          rw [k', Bool.not_false, Bool.true_and] at kB
          refine um_and1 (tm_val (em_call c1 (hr.mono (by decide)) (am_cons (em_var 1 rfl (am_cons (em_var 4 rfl (am_cons (em_var 5 rfl (am_nil ⟨W0, fun _ z => z.elim, LB h, (i : Int), (j : Int), rfl, by omega, _, rfl, fun k2 => ?_, fun k2 => sd_nil ?_⟩)))))))))
          · rw [kB] at k2
            rw [if_pos k2] at eB
            refine sd_one (s1_expr (em_appendLn 3 0 rfl (by simp) ⟨⟨F3 (preP h.length (cB (LB h)) i ++ rowP h.length (cB (LB h)) (i : Int) j) (preP h.length (cT (LB h)) i ++ rowP h.length (cT (LB h)) (i : Int) j) (preP h.length (cA (LB h)) i ++ rowP h.length (cA (LB h)) (i : Int) j), rfl⟩, em_tup (am_cons (em_var 4 rfl (am_cons (em_var 5 rfl (am_nil ⟨small_line (by simp), rfl, F3 (preP h.length (cB (LB h)) i ++ rowP h.length (cB (LB h)) (i : Int) j) (preP h.length (cT (LB h)) i ++ rowP h.length (cT (LB h)) (i : Int) j) (preP h.length (cA (LB h)) i ++ rowP h.length (cA (LB h)) (i : Int) j), _, rfl, rfl, rfl, ?_, ?_⟩)))))⟩))
            · rw [List.length_map, List.length_append, sizeLine_eq]
              omega
            · rw [eB, ← List.append_assoc]
              simp only [F3, List.map_append]
              rfl
          · rw [kB] at k2
            rw [if_neg (by rw [k2]; exact Bool.false_ne_true), List.append_nil] at eB
            rw [eB]
        · have k' : decide (((i : Nat) : Int) = ((j : Nat) : Int)) = true := by simpa using k
          rw [k', Bool.not_true, Bool.false_and] at kB
          rw [if_neg (by rw [← kB]; exact Bool.false_ne_true), List.append_nil] at eB
          rw [eB]
      rintro ρ rfl
      -- together
      refine sd_cut (fun ρ => ρ = [.va (hpD h), .va (.list ((LB h).map lyD)), .va (.int (h.length : Nat)), .ll q [p1, p2, p3] ((F3 (preP h.length (cB (LB h)) i ++ rowP h.length (cB (LB h)) (i : Int) (j + 1)) (preP h.length (cT (LB h)) i ++ rowP h.length (cT (LB h)) (i : Int) (j + 1)) (preP h.length (cA (LB h)) i ++ rowP h.length (cA (LB h)) (i : Int) j)).map MO.lst), .va (.int (i : Nat)), .va (.int (j : Nat)), .mo p6 (.lst (((LB h).map fun L => b2 (oneB L (i : Int) (j : Int))).map .int)), s7, .no, .no, .no, .no, .no, .no]) ?_ ?_
      · refine s1_if (tm_of_um (um_and (tm_cmp (nomark _) (em_var 4 rfl (em_var 5 rfl (fd_lt ⟨_, rfl, fun k => ?_, fun k => ⟨fun z => Bool.noConfusion z, fun _ => sd_nil ?_⟩⟩))))))
        · rw [k, Bool.true_and] at kT
          refine um_and1 (tm_view 6 rfl (fz_lst _) (tm_cmp (nomark _) (em_callB B.sum_ boot_sum (am_cons (em_var 6 rfl (am_nil (kd_sum rfl (em_callB B.len PySem.boot_len (am_cons (em_var 6 rfl (am_nil (kd_len_list (fd_eq_int ⟨_, rfl, fun k2 => ?_, fun k2 => sd_nil ?_⟩)))))))))))))
          · rw [List.length_map, lN, eN, kT] at k2
            rw [if_pos k2] at eT
            refine sd_one (s1_expr (em_appendLn 3 1 rfl (by simp) ⟨⟨F3 (preP h.length (cB (LB h)) i ++ rowP h.length (cB (LB h)) (i : Int) (j + 1)) (preP h.length (cT (LB h)) i ++ rowP h.length (cT (LB h)) (i : Int) j) (preP h.length (cA (LB h)) i ++ rowP h.length (cA (LB h)) (i : Int) j), rfl⟩, em_tup (am_cons (em_var 4 rfl (am_cons (em_var 5 rfl (am_nil ⟨small_line (by simp), rfl, F3 (preP h.length (cB (LB h)) i ++ rowP h.length (cB (LB h)) (i : Int) (j + 1)) (preP h.length (cT (LB h)) i ++ rowP h.length (cT (LB h)) (i : Int) j) (preP h.length (cA (LB h)) i ++ rowP h.length (cA (LB h)) (i : Int) j), _, rfl, rfl, rfl, ?_, ?_⟩)))))⟩))
            · rw [List.length_map, List.length_append, sizeLine_eq]
              omega
            · rw [eT, ← List.append_assoc]
              simp only [F3, List.map_append]
              rfl
          · rw [List.length_map, lN, eN, kT] at k2
            rw [if_neg (by rw [k2]; exact Bool.false_ne_true), List.append_nil] at eT
            rw [eT]
        · rw [k, Bool.false_and] at kT
          rw [if_neg (by rw [← kT]; exact Bool.false_ne_true), List.append_nil] at eT
          rw [eT]
      rintro ρ rfl
      -- apart
      refine sd_one (s1_if (tm_of_um (um_and (tm_cmp (nomark _) (em_var 4 rfl (em_var 5 rfl (fd_lt ⟨_, rfl, fun k => ?_, fun k => ⟨fun z => Bool.noConfusion z, fun _ => sd_nil ?_⟩⟩)))))))
      · rw [k, Bool.true_and] at kA
        refine um_and1 (tm_view 6 rfl (fz_lst _) (tm_cmp (nomark _) (em_callB B.sum_ boot_sum (am_cons (em_var 6 rfl (am_nil (kd_sum rfl (em_int (fd_eq_int ⟨_, rfl, fun k2 => ?_, fun k2 => sd_nil ?_⟩)))))))))
        · rw [eN, kA] at k2
          rw [if_pos k2] at eA
          refine sd_one (s1_expr (em_appendLn 3 2 rfl (by simp) ⟨⟨F3 (preP h.length (cB (LB h)) i ++ rowP h.length (cB (LB h)) (i : Int) (j + 1)) (preP h.length (cT (LB h)) i ++ rowP h.length (cT (LB h)) (i : Int) (j + 1)) (preP h.length (cA (LB h)) i ++ rowP h.length (cA (LB h)) (i : Int) j), rfl⟩, em_tup (am_cons (em_var 4 rfl (am_cons (em_var 5 rfl (am_nil ⟨small_line (by simp), rfl, F3 (preP h.length (cB (LB h)) i ++ rowP h.length (cB (LB h)) (i : Int) (j + 1)) (preP h.length (cT (LB h)) i ++ rowP h.length (cT (LB h)) (i : Int) (j + 1)) (preP h.length (cA (LB h)) i ++ rowP h.length (cA (LB h)) (i : Int) j), _, rfl, rfl, rfl, ?_, ?_⟩)))))⟩))
          · rw [List.length_map, List.length_append, sizeLine_eq]
            omega
          · refine ⟨.va (.int (j : Nat)), .mo p6 (.lst (((LB h).map fun L => b2 (oneB L (i : Int) (j : Int))).map .int)), s7, ?_⟩
            rw [eA, ← List.append_assoc]
            simp only [F3, List.map_append]
            rfl
        · rw [eN, kA] at k2
          rw [if_neg (by rw [k2]; exact Bool.false_ne_true), List.append_nil] at eA
          exact ⟨.va (.int (j : Nat)), .mo p6 (.lst (((LB h).map fun L => b2 (oneB L (i : Int) (j : Int))).map .int)), s7, by rw [eA]⟩
      · rw [k, Bool.false_and] at kA
        rw [if_neg (by rw [← kA]; exact Bool.false_ne_true), List.append_nil] at eA
        exact ⟨.va (.int (j : Nat)), .mo p6 (.lst (((LB h).map fun L => b2 (oneB L (i : Int) (j : Int))).map .int)), s7, by rw [eA]⟩
    · rintro ρ3 ⟨s5, s6, s7, rfl⟩
      have en : (rngD 0 (((h.length : Nat) : Int)).toNat).length = h.length := by simp [rngD]
      rw [en]
      refine ⟨.va (.int (i : Nat)), s5, s6, s7, ?_⟩
      rw [← preP_succ il, ← preP_succ il, ← preP_succ il]
  rintro ρ2 ⟨s4, s5, s6, s7, rfl⟩
  have en : (rngD 0 (((h.length : Nat) : Int)).toNat).length = h.length := by simp [rngD]
  rw [en, preP_all, preP_all, preP_all]
  -- the words
  refine sd_cons (s1_par2 8 9 rfl sc_law_due.nd (lm_cons (vm_data (em_fm (.nm 7) [("laying", 7)] rfl sc_law_due.nd (blkOk_by (N := N_law_due) (sc := defScope s_law_due) (by decide +kernel)) (fun _ _ _ _ _ => pg_nm sc_law_due.nd) (by decide) (.map lyD (fun L => tx (joinT h L.1)) (im_list (em_var 1 rfl ⟨_, rfl, LB h, rfl, small_line (by omega), fun L mL => ⟨_, rfl, fun _ _ _ _ _ => ?_⟩, lm_cons (vm_data (em_str (lm_nil ⟨_, _, rfl, ?_⟩)))⟩)))))))
  · have t := LB_t hv mL
    have := t.l1
    exact em_call c2 (hr.mono (by decide)) (am_cons (em_var 0 rfl (am_cons (em_ix (fun _ _ => rfl) (em_var 7 rfl (em_int (id_tuple (d := plD L.1) rfl (am_nil ⟨W0, fun _ z => z.elim, h, L.1, rfl, hs, t.p1, by omega, rfl, rfl⟩))))))))
  have eW : (LB h).map (fun L => tx (joinT h L.1)) = (wordsL h).map tx := by unfold wordsL; rw [List.map_map]; rfl
  rw [eW]
  have wl : ∀ t ∈ wordsL h, t.length = (h.map List.length).sum / 2 ∧ (∀ c ∈ t, c < 0x110000) ∧ t.length ≤ 100 := fun t m => word_len hv m
  have nW : wordsL h ≠ [] := fun e => ne (List.map_eq_nil_iff.mp e)
  have lW : (wordsL h).length ≤ 1000000 := by unfold wordsL; rw [List.length_map]; omega
  have fq : Q true (.list [.list ((prs h.length (cB (LB h))).map prD), .list ((prs h.length (cT (LB h))).map prD), .list ((prs h.length (cA (LB h))).map prD), tx (sureF (wordsL h))]) [.va (hpD h), .va (.list ((LB h).map lyD))] := fq
  generalize wordsL h = T at wl nW lW fq
  obtain ⟨t0, r0, rfl⟩ : ∃ t r, T = t :: r := by
    cases T with
    | nil => exact absurd rfl nW
    | cons t r => exact ⟨t, r, rfl⟩
  have w0 := wl t0 List.mem_cons_self
  have same : ∀ t ∈ t0 :: r0, t.length = t0.length := fun t m => (wl t m).1.trans w0.1.symm
  have sl := sureF_len t0 r0
  refine sd_re (ρ' := [.va (hpD h), .va (.list ((LB h).map lyD)), .va (.int (h.length : Nat)), .ll q [p1, p2, p3] ((F3 (prs h.length (cB (LB h))) (prs h.length (cT (LB h))) (prs h.length (cA (LB h)))).map MO.lst), s4, s5, s6, s7, .va (.list ((t0 :: r0).map tx)), .va (tx []), .no, .no, .no, .no]) rfl ?_
  refine sd_cons (s1_for (.tp [.nm 10, .nm 11]) (passes_of rfl) rfl (pg_tp rfl (pgs_1 (pg_nm sc_law_due.nd) (pgs_1 (pg_nm sc_law_due.nd) pgs_0))) (im_enumS B.enumerate_ (em_ix (fun _ _ => rfl) (em_var 8 rfl (em_int (id_list (d := tx t0) (atI_of (by decide) rfl) ⟨_, rfl, fun i ρ => ∃ s10 s11 s12, ρ = [.va (hpD h), .va (.list ((LB h).map lyD)), .va (.int (h.length : Nat)), .ll q [p1, p2, p3] ((F3 (prs h.length (cB (LB h))) (prs h.length (cT (LB h))) (prs h.length (cA (LB h)))).map MO.lst), s4, s5, s6, s7, .va (.list ((t0 :: r0).map tx)), .va (tx ((sureF (t0 :: r0)).take i)), s10, s11, s12, .no], ⟨_, _, _, rfl⟩, ?_, ?_⟩))))))
  · rintro i d ρ2 hd ⟨s10, s11, s12, rfl⟩
    have hi : i < t0.length := by
      have := (List.getElem?_eq_some_iff.mp hd).1
      rw [enumD_len] at this
      simpa [chars, S_list] using this
    have ec : (chars (S t0))[i]? = some (.str ⟨#[t0.getD i 0]⟩) := by
      unfold chars
      rw [S_list, List.getElem?_map, List.getElem?_eq_getElem hi, List.getD_eq_getElem?_getD, List.getElem?_eq_getElem hi]
      rfl
    rw [enumD_at ec] at hd
    cases hd
    refine ⟨_, rfl, ?_⟩
    have st := sureF_at t0 r0 hi
    have tk : (sureF (t0 :: r0)).take (i + 1) = (sureF (t0 :: r0)).take i ++ [if (t0 :: r0).all fun v => decide (v.getD i 0 = t0.getD i 0) then t0.getD i 0 else 46] := by
      rw [List.take_add_one, st]
      rfl
    have ll : ((sureF (t0 :: r0)).take i).length ≤ 100 := by
      rw [List.length_take]
      omega
    have add : ∀ c : Nat, S ((sureF (t0 :: r0)).take i) ++ (⟨#[c]⟩ : Str) = S ((sureF (t0 :: r0)).take i ++ [c]) := fun c => by
      rw [← S_app]
    refine sd_cons (s1_setFm 12 (.nm 13) [("word", 13)] rfl sc_law_due.nd (blkOk_by (N := N_law_due) (sc := defScope s_law_due) (by decide +kernel)) (fun _ _ _ _ _ => pg_nm sc_law_due.nd) (by decide) (.filter tx (fun v => !decide (v.getD i 0 = t0.getD i 0)) tx (im_list (em_var 8 rfl ⟨_, rfl, t0 :: r0, rfl, small_line lW, fun v mv => ⟨_, rfl, fun _ _ _ _ _ => ⟨?_, fun _ => em_var 13 rfl ⟨rfl, rfl⟩⟩⟩, fun p12 => ?_⟩))))
    · have vl := same v mv
      have va : v[i]? = some (v.getD i 0) := by
        rw [List.getD_eq_getElem?_getD, List.getElem?_eq_getElem (by omega : i < v.length)]
        rfl
      refine tm_cmp (nomark _) (em_ix (fun _ _ => rfl) (em_var 13 rfl (em_var 10 rfl (id_str (c := v.getD i 0) (by rw [S_len]; exact small_line (by have := (wl v mv).2.2; omega)) (atI_nat (by rw [S_list]; exact va)) (em_var 11 rfl (fd_ne_str ⟨_, rfl, ?_⟩))))))
      rw [one_str]
    have eF : ((t0 :: r0).filter fun v => !decide (v.getD i 0 = t0.getD i 0)) = [] ↔ ((t0 :: r0).all fun v => decide (v.getD i 0 = t0.getD i 0)) = true := by
      rw [List.filter_eq_nil_iff, List.all_eq_true]
      exact ⟨fun k c m => by simpa using k c m, fun k c m => by simpa using k c m⟩
    have sF : SeqAt.shaped (.list (((t0 :: r0).filter fun v => !decide (v.getD i 0 = t0.getD i 0)).map tx)) = true := shaped_txs fun s m => (wl s (List.mem_filter.mp m).1).2.1
    have vF := eqv_txs ((t0 :: r0).filter fun v => !decide (v.getD i 0 = t0.getD i 0)) []
    generalize ((t0 :: r0).filter fun v => !decide (v.getD i 0 = t0.getD i 0)) = bad at eF sF vF
    refine sd_one (s1_set 9 sc_law_due.nd (vm_data (em_bin (em_var 9 rfl (em_ite (tm_view 12 rfl (fz_lst _) (tm_cmp (nomark _) (em_var 12 rfl (em_lst (am_nil ⟨small_line (by simp), rfl, fd_eq hr.units sF (by decide) ⟨_, rfl, fun k => ?_, fun k => ?_⟩⟩))))))))))
    · have k2 : bad = [] := of_decide_eq_true (vF ▸ k)
      rw [if_pos (eF.mp k2)] at tk
      refine em_var 11 rfl (fd_add_str (by rw [S_len]; exact small_line (by show _ + 1 ≤ _; omega)) ⟨.va (.int (i : Nat)), .va (.str ⟨#[t0.getD i 0]⟩), .mo p12 (.lst (bad.map tx)), ?_⟩)
      rw [add, ← tk]
      rfl
    · have k2 : ¬ bad = [] := of_decide_eq_false (vF ▸ k)
      rw [if_neg fun z => k2 (eF.mpr z)] at tk
      refine em_str (fd_add_str (by rw [S_len]; exact small_line (by show _ + 1 ≤ _; omega)) ⟨.va (.int (i : Nat)), .va (.str ⟨#[t0.getD i 0]⟩), .mo p12 (.lst (bad.map tx)), ?_⟩)
      rw [show (Str.ofString "." : Str) = ⟨#[46]⟩ from rfl, add, ← tk]
      rfl
  · rintro ρ2 ⟨s10, s11, s12, rfl⟩
    rw [enumD_len, show (chars (S t0)).length = t0.length by simp [chars, S_list], ← sl, List.take_length]
    refine sd_freezeLn 3 (F3 (prs h.length (cB (LB h))) (prs h.length (cT (LB h))) (prs h.length (cA (LB h)))) rfl ?_
    refine sd_one (s1_ret (em_bin (em_var 3 rfl (em_lst (am_cons (em_var 9 rfl (am_nil ⟨small_line (by simp), rfl, fd_add_list (small_line (by simp [F3])) (FinP.va (ds := [hpD h, .list ((LB h).map lyD)]) fq)⟩)))))))
end

/-! ### what is told, or the refusal's word -/
section
variable {P : Program} {w : World} {K : PySem.W.Frag} {mg : Str → Option Value} {base : Heap} {ea : Nat → Addr} {et : Addr}
def sp_told (ea : Nat → Addr) : DSp := fun ss Q _ => ∃ (i : Nat) (h : List (List Nat)), ss = [.va (.int (i : Nat)), .va (hpD h)] ∧ i < 4 ∧ Hv h ∧ (LB h ≠ [] → ∀ d, (dueD h)[i]? = some d → Q (decide (i < 3)) d ss) ∧ (LB h = [] → Q false (wdD 2) ss)
set_option maxHeartbeats 2000000 in
theorem ok_law_told {f : Addr} {fd : FuncData} (Er : Errs K mg ea et) (ex : ∀ c, c < 5 → PySem.W.exmOne K (.ref (ea c)) (.ref et) = some true) (c0 : Cal P w K mg base "behind" 14 ["heap"] (sp_prs ea cB)) (c1 : Cal P w K mg base "together" 14 ["heap"] (sp_prs ea cT)) (c2 : Cal P w K mg base "apart" 14 ["heap"] (sp_prs ea cA)) (c3 : Cal P w K mg base "sure_signs" 14 ["heap"] (sp_sure ea)) (cr : CalE P w K mg base "_law_refusal" 2 (sp_refusal ea)) (F : Fun K "_law_told" "_law_told" s_law_told f fd) (hm : mg "_law_told" = some (.ref f)) (hb : Binds K fd ["way", "heap"] []) : Cal P w K mg base "_law_told" 15 ["way", "heap"] (sp_told ea) := by
  refine fn_ok F hm hb sc_law_told (by rintro ss P W ⟨_, _, rfl, _⟩; rfl) ?_
  rintro cdv A outer s H E hr ss Q W ⟨i, h, rfl, hi, hv, q1, q0⟩
  refine sd_one (s1_tryE 2 (c := .ref et) (Wb := fun v => v = .ref (ea 2) ∧ LB h = []) rfl rfl sc_law_told.nd rfl rfl ⟨rfl, by decide, .inl Er.mt⟩ (fun a ⟨j, h⟩ => ?_) (fun pn xe => ?_) (fun v e => e.1 ▸ ex 2 (by decide)) fun a oe cls pn e hz hvv => ?_)
  · match j, h with
    | 0, h => cases h
    | 1, h => cases h
    | 2, h => cases h
    | j + 3, h => cases h
  · refine sd_cons (s1_if (tm_cmp (nomark _) (em_var 0 rfl (em_int (fd_eq_int ⟨_, rfl, fun k => ?_, fun k0 => sd_nil ?_⟩)))))
    · have k := of_decide_eq_true k
      obtain rfl : i = 0 := by omega
      exact sd_one (s1_ret (em_call c0 (hr.mono (by decide)) (am_cons (em_var 1 rfl (am_nil ⟨fun v => v = .ref (ea 2) ∧ LB h = [], fun v e => e, h, rfl, hv, fun ne => FinP.va (ds := [.int ((0 : Nat) : Int), hpD h]) (q1 ne _ rfl), fun k => ⟨rfl, k⟩⟩)))))
    refine sd_cons (s1_if (tm_cmp (nomark _) (em_var 0 rfl (em_int (fd_eq_int ⟨_, rfl, fun k => ?_, fun k1 => sd_nil ?_⟩)))))
    · have k := of_decide_eq_true k
      obtain rfl : i = 1 := by omega
      exact sd_one (s1_ret (em_call c1 (hr.mono (by decide)) (am_cons (em_var 1 rfl (am_nil ⟨fun v => v = .ref (ea 2) ∧ LB h = [], fun v e => e, h, rfl, hv, fun ne => FinP.va (ds := [.int ((1 : Nat) : Int), hpD h]) (q1 ne _ rfl), fun k => ⟨rfl, k⟩⟩)))))
    have k0 := of_decide_eq_false k0
    have k1 := of_decide_eq_false k1
    refine sd_one (s1_ret (em_ite (tm_cmp (nomark _) (em_var 0 rfl (em_int (fd_eq_int ⟨_, rfl, fun k => ?_, fun k => ?_⟩))))))
    · have k := of_decide_eq_true k
      obtain rfl : i = 2 := by omega
      exact em_call c2 (hr.mono (by decide)) (am_cons (em_var 1 rfl (am_nil ⟨fun v => v = .ref (ea 2) ∧ LB h = [], fun v e => e, h, rfl, hv, fun ne => FinP.va (ds := [.int ((2 : Nat) : Int), hpD h]) (q1 ne _ rfl), fun k => ⟨rfl, k⟩⟩)))
    · have k := of_decide_eq_false k
      obtain rfl : i = 3 := by omega
      exact em_call c3 (hr.mono (by decide)) (am_cons (em_var 1 rfl (am_nil ⟨fun v => v = .ref (ea 2) ∧ LB h = [], fun v e => e, h, rfl, hv, fun ne => FinP.va (ds := [.int ((3 : Nat) : Int), hpD h]) (q1 ne _ rfl), fun k => ⟨rfl, k⟩⟩)))
  · obtain ⟨e, k0⟩ := e
    subst e
    obtain ⟨vs, hvs⟩ := id hvv
    exact sd_one (s1_ret (em_callE (p := (a, oe)) 2 cr ⟨(L2H.roomH_of (hr.mono (show 2 ≤ 14 by decide))).dp, (L2H.roomH_of (hr.mono (show 2 ≤ 14 by decide))).un⟩ ⟨rfl, vs, hvs, hz.2.2 vs hvs⟩ List.mem_cons_self rfl ⟨2, by decide, hz.zc, hvv, FinP.va (ds := [.int (i : Nat), hpD h]) (q0 k0)⟩))
end

/-! ### the law k21 -/
theorem lay_app (a b : List D) : PyData.canLayAll0 (a ++ b) = (PyData.canLayAll0 a && PyData.canLayAll0 b) := by
  induction a with
  | nil => simp [PyData.canLayAll0]
  | cons x a ih => rw [List.cons_append, PyData.canLayAll0, ih, PyData.canLayAll0, Bool.and_assoc]
theorem depth_app (a b : List D) : PyData.depthAll (a ++ b) = max (PyData.depthAll a) (PyData.depthAll b) := by
  induction a with
  | nil => simp [PyData.depthAll]
  | cons x a ih => rw [List.cons_append, PyData.depthAll, ih, PyData.depthAll, Nat.max_assoc]
theorem shaped_snoc {l : List D} (h : SeqAt.shaped (.list l) = true) : SeqAt.shaped (.list (l ++ [.none])) = true := by
  unfold SeqAt.shaped at *
  rw [Bool.and_eq_true, decide_eq_true_eq, PyData.canLay0, PyData.depth] at *
  rw [lay_app, depth_app, h.1]
  refine ⟨by simp [PyData.canLayAll0, PyData.canLay0], ?_⟩
  have := h.2
  simp [PyData.depthAll, PyData.depth]
  omega
theorem eqv_snoc (x : D) : ∀ l : List D, PyData.eqvAll l (l ++ [x]) = false
  | [] => by simp [PyData.eqvAll]
  | d :: l => by rw [List.cons_append, PyData.eqvAll, eqv_snoc x l, Bool.and_false]
theorem prs_len {n : Nat} (hn : n ≤ 8) (c : Int → Int → Bool) : (prs n c).length ≤ 64 := by
  rw [← preP_all]
  have := preP_len hn c n (Nat.le_refl _)
  omega
/-- the first three are lists of pairs, the last one a text -/
theorem due_at {h : List (List Nat)} (h8 : h.length ≤ 8) {i : Nat} (hi : i < 4) : (i < 3 ∧ ∃ l : List (Int × Int), (dueD h)[i]? = some (.list (l.map prD)) ∧ l.length ≤ 64) ∨ (i = 3 ∧ (dueD h)[i]? = some (tx (sureF (wordsL h)))) := by
  have : i = 0 ∨ i = 1 ∨ i = 2 ∨ i = 3 := by omega
  rcases this with rfl | rfl | rfl | rfl
  · exact .inl ⟨by decide, _, rfl, prs_len h8 _⟩
  · exact .inl ⟨by decide, _, rfl, prs_len h8 _⟩
  · exact .inl ⟨by decide, _, rfl, prs_len h8 _⟩
  · exact .inr ⟨rfl, rfl⟩
section
variable {P : Program} {w : World} {K : PySem.W.Frag} {mg : Str → Option Value} {base : Heap} {ea : Nat → Addr} {et : Addr}
def sp_law : DSp := fun ss Q _ => ∃ ns, ss = [.va (scriptD ns)] ∧ ns.length ≤ 63 ∧ Q false (.bool true) ss
set_option maxHeartbeats 8000000 in
theorem ok_law {f : Addr} {fd : FuncData} (B : Bare mg) (cw : Cal P w K mg base "_law_well" 1 ["script", "k"] sp_well) (ct : Cal P w K mg base "_law_heap" 4 ["well", "top"] sp_heap) (cl : Cal P w K mg base "_law_layings" 10 ["heap"] sp_layings) (cd : Cal P w K mg base "_law_due" 2 ["heap", "layings_so"] sp_due) (cto : Cal P w K mg base "_law_told" 15 ["way", "heap"] (sp_told ea)) (F : Fun K "law" "law" s_law f fd) : FnOk P w K mg base (L2N.CX P w) 16 f fd ["script"] (toSp K sp_law) := by
  refine fn_okF F sc_law (by rintro ss P W ⟨_, rfl, _⟩; rfl) ?_
  rintro cdv A outer s H E hr ss Q W ⟨ns, rfl, hns, q⟩
  refine sd_cons (s1_for (.nm 1) (passes_of rfl) rfl (pg_nm sc_law.nd) (im_range1 B.range_ (em_callB B.max_ PyProof.Rows.boot_max (am_cons (em_int (am_cons (em_callB B.min_ PyProof.Rows.boot_min (am_cons (em_int (am_cons (em_callB B.len PySem.boot_len (am_cons (em_var 0 rfl (am_nil (kd_len_script (am_nil (kd_min2 rfl (am_nil (kd_max2 rfl ⟨_, rfl, ?_, ?_, ?_⟩)))))))))))))))))))
  · split <;> split <;> omega
  · split <;> split <;> omega
  generalize hN : (if (if (ns.length : Int) < 20 then (ns.length : Int) else 20) > 4 then (if (ns.length : Int) < 20 then (ns.length : Int) else 20) else 4) = N
  have hN2 : N ≤ 63 := by rw [← hN]; split <;> split <;> omega
  refine ⟨fun i ρ => ∃ s1 s2 s3 s4 s5 s6 s7, ρ = [.va (scriptD ns), s1, s2, s3, s4, s5, s6, s7], ⟨_, _, _, _, _, _, _, rfl⟩, ?_, ?_⟩
  · rintro i d ρ2 hd ⟨a1, a2, a3, a4, a5, a6, a7, rfl⟩
    have hi : i < N.toNat := by
      have := (List.getElem?_eq_some_iff.mp hd).1
      simpa [rngD] using this
    have ed : d = .int (0 + (i : Int)) := by
      unfold rngD at hd
      rw [List.getElem?_map, List.getElem?_range hi] at hd
      exact (Option.some.inj hd).symm
    subst ed
    refine ⟨_, rfl, ?_⟩
    refine sd_cons (s1_set 2 sc_law.nd (vm_own (em_call cw (hr.mono (by decide)) (am_cons (em_var 0 rfl (am_cons (em_var 1 rfl (am_nil ⟨W0, fun _ z => z.elim, ns, 0 + (i : Int), rfl, by omega, by omega, fun ds hw => ⟨rfl, _, rfl, fun p => ?_⟩⟩))))))))
    refine sd_cons (s1_set 3 sc_law.nd (vm_data (em_sl (em_callM ct (hr.mono (by decide)) (zm_s 2 rfl (zm_d (em_int (zm_nil ⟨⟨by simp [slotsOf], fun j hj => ?_⟩, p, ds, 6, rfl, hw, by decide, by decide, fun ds2 l hw2 R => om_none (om_some (em_int ⟨6, rfl, ld_tuple ?_⟩))⟩))))))))
    · have e : j = 2 := by simpa [slotsOf] using hj
      subst e
      exact ⟨p, _, rfl⟩
    have hv := R.hv (by decide)
    have hl6 : (srt l).length ≤ 6 := by
      have := R.hi
      have := (srt_perm l).length_eq
      omega
    generalize srt l = h at hv hl6
    have ec : cut (h.map tx) none (some 6) = h.map tx := by
      have := cut_take (h.map tx) 6
      rw [show ((6 : Nat) : Int) = 6 from rfl] at this
      rw [this, List.take_of_length_le (by rw [List.length_map]; exact hl6)]
    rw [ec]
    refine sd_re (ρ' := [.va (scriptD ns), .va (.int (0 + (i : Int))), .mo p (.lst ds2), .va (hpD h), a4, a5, a6, a7]) rfl ?_
    refine sd_cons (s1_set 4 sc_law.nd (vm_data (em_call cl (hr.mono (by decide)) (am_cons (em_var 3 rfl (am_nil ⟨W0, fun _ z => z.elim, h, rfl, hv, ?_⟩))))))
    refine sd_re (ρ' := [.va (scriptD ns), .va (.int (0 + (i : Int))), .mo p (.lst ds2), .va (hpD h), .va (.list ((LB h).map lyD)), a5, a6, a7]) rfl ?_
    have kL : PyData.eqv (.list ((LB h).map lyD)) (.list []) = decide (LB h = []) := by
      cases LB h with
      | nil => simp [PyData.eqv, PyData.eqvAll]
      | cons L r => simp [PyData.eqv, PyData.eqvAll]
    have sL := shaped_lys (LB h)
    by_cases ne : LB h = []
    · -- no laying: the refusal's word
      refine sd_cons (s1_set 5 sc_law.nd (vm_data (em_ite (tm_cmp (nomark _) (em_var 4 rfl (em_lst (am_nil ⟨small_line (by simp), rfl, fd_eq hr.units sL (by decide) ⟨_, rfl, fun _ => ?_, fun k => ?_⟩⟩)))))))
      rotate_left
      · rw [kL, decide_eq_true ne] at k
        cases k
      refine em_bin (em_lst (am_cons (em_str (am_nil ⟨small_line (by simp), rfl, em_int (fd_mul_list (by decide) (by decide) (small_line (by decide)) ?_)⟩))))
      refine sd_re (ρ' := [.va (scriptD ns), .va (.int (0 + (i : Int))), .mo p (.lst ds2), .va (hpD h), .va (.list ((LB h).map lyD)), .va (.list [wdD 2, wdD 2, wdD 2, wdD 2]), a6, a7]) rfl ?_
      refine sd_one (s1_for (.nm 6) (passes_of rfl) rfl (pg_nm sc_law.nd) (im_range1 B.range_ (em_int ⟨4, rfl, by decide, by decide, fun j ρ => ∃ s6 s7, ρ = [.va (scriptD ns), .va (.int (0 + (i : Int))), .mo p (.lst ds2), .va (hpD h), .va (.list ((LB h).map lyD)), .va (.list [wdD 2, wdD 2, wdD 2, wdD 2]), s6, s7], ⟨_, _, rfl⟩, ?_, ?_⟩)))
      · rintro j d ρ3 hd ⟨s6, s7, rfl⟩
        obtain ⟨hj, rfl⟩ := rng_get (n := 4) hd
        refine ⟨_, rfl, ?_⟩
        refine sd_cons (s1_set 7 sc_law.nd (vm_data (em_call cto (hr.mono (by decide)) (am_cons (em_var 6 rfl (am_cons (em_var 3 rfl (am_nil ⟨W0, fun _ z => z.elim, j, h, rfl, hj, hv, fun k => absurd ne k, fun _ => ?_⟩))))))))
        have ej : [wdD 2, wdD 2, wdD 2, wdD 2][j]? = some (wdD 2) := by
          have : j = 0 ∨ j = 1 ∨ j = 2 ∨ j = 3 := by omega
          rcases this with rfl | rfl | rfl | rfl <;> rfl
        refine sd_cons (s1_if (tm_cmp (nomark _) (em_var 7 rfl (em_ix (fun _ _ => rfl) (em_var 5 rfl (em_var 6 rfl (id_list (d := wdD 2) (atI_nat ej) (fd_ne_str ⟨_, rfl, fun z => ?_, fun _ => sd_nil ?_⟩))))))))
        · simp at z
        refine sd_one (s1_if (tm_val (em_isi (.inr (.inr (.inr (.inr rfl)))) B.isinstance_ B.list_ boot_list (em_var 7 rfl ⟨rfl, _, rfl, fun z => absurd z (by decide), fun _ => sd_nil ⟨_, _, rfl⟩⟩))))
      · rintro ρ3 ⟨s6, s7, rfl⟩
        exact ⟨_, _, _, _, _, _, _, rfl⟩
    · -- what is due
      refine sd_cons (s1_set 5 sc_law.nd (vm_data (em_ite (tm_cmp (nomark _) (em_var 4 rfl (em_lst (am_nil ⟨small_line (by simp), rfl, fd_eq hr.units sL (by decide) ⟨_, rfl, fun k => ?_, fun _ => ?_⟩⟩)))))))
      · rw [kL, decide_eq_false ne] at k
        cases k
      refine em_call cd (hr.mono (by decide)) (am_cons (em_var 3 rfl (am_cons (em_var 4 rfl (am_nil ⟨W0, fun _ z => z.elim, h, rfl, hv, ne, ?_⟩)))))
      refine sd_re (ρ' := [.va (scriptD ns), .va (.int (0 + (i : Int))), .mo p (.lst ds2), .va (hpD h), .va (.list ((LB h).map lyD)), .va (.list (dueD h)), a6, a7]) rfl ?_
      refine sd_one (s1_for (.nm 6) (passes_of rfl) rfl (pg_nm sc_law.nd) (im_range1 B.range_ (em_int ⟨4, rfl, by decide, by decide, fun j ρ => ∃ s6 s7, ρ = [.va (scriptD ns), .va (.int (0 + (i : Int))), .mo p (.lst ds2), .va (hpD h), .va (.list ((LB h).map lyD)), .va (.list (dueD h)), s6, s7], ⟨_, _, rfl⟩, ?_, ?_⟩)))
      · rintro j d ρ3 hd ⟨s6, s7, rfl⟩
        obtain ⟨hj, rfl⟩ := rng_get (n := 4) hd
        refine ⟨_, rfl, ?_⟩
        rcases due_at (h := h) (by omega) hj with ⟨j3, l, el, ll⟩ | ⟨rfl, el⟩
        · refine sd_cons (s1_set 7 sc_law.nd (vm_own (em_call cto (hr.mono (by decide)) (am_cons (em_var 6 rfl (am_cons (em_var 3 rfl (am_nil ⟨W0, fun _ z => z.elim, j, h, rfl, hj, hv, fun _ d hd => ⟨decide_eq_true j3, l.map prD, by rw [el] at hd; exact (Option.some.inj hd).symm, fun pf => ?_⟩, fun k => absurd k ne⟩))))))))
          refine sd_re (ρ' := [.va (scriptD ns), .va (.int (0 + (i : Int))), .mo p (.lst ds2), .va (hpD h), .va (.list ((LB h).map lyD)), .va (.list (dueD h)), .va (.int (j : Nat)), .mo pf (.lst (l.map prD))]) rfl ?_
          have sh := shaped_prs l
          refine sd_cons (s1_if (tm_view 7 rfl (fz_lst _) (tm_cmp (nomark _) (em_var 7 rfl (em_ix (fun _ _ => rfl) (em_var 5 rfl (em_var 6 rfl (id_list (d := .list (l.map prD)) (atI_nat el) (fd_ne hr.units sh sh ⟨_, rfl, fun z => False.elim ?_, fun _ => sd_nil ?_⟩)))))))))
          · rw [eqv_prs] at z
            simp at z
          refine sd_one (s1_if (tm_view 7 rfl (fz_lst _) (tm_val (em_isi (.inr (.inr (.inr (.inr rfl)))) B.isinstance_ B.list_ boot_list (em_var 7 rfl ⟨rfl, _, rfl, fun _ => ?_, fun z => Bool.noConfusion z⟩)))))
          refine sd_cons (s1_expr (em_append 7 rfl (em_none ⟨_, rfl, rfl, by rw [List.length_map, sizeLine_eq]; omega, ?_⟩)))
          refine sd_re (ρ' := [.va (scriptD ns), .va (.int (0 + (i : Int))), .mo p (.lst ds2), .va (hpD h), .va (.list ((LB h).map lyD)), .va (.list (dueD h)), .va (.int (j : Nat)), .mo pf (.lst (l.map prD ++ [.none]))]) rfl ?_
          refine sd_one (s1_if (tm_view 7 rfl (fz_lst _) (tm_cmp (nomark _) (em_call cto (hr.mono (by decide)) (am_cons (em_var 6 rfl (am_cons (em_var 3 rfl (am_nil ⟨W0, fun _ z => z.elim, j, h, rfl, hj, hv, fun _ d hd => ?_, fun k => absurd k ne⟩)))))))) )
          have ed : d = .list (l.map prD) := by rw [el] at hd; exact (Option.some.inj hd).symm
          subst ed
          refine em_var 7 rfl (fd_eq hr.units sh (shaped_snoc sh) ⟨_, rfl, fun z => False.elim ?_, fun _ => sd_nil ⟨_, _, rfl⟩⟩)
          rw [PyData.eqv, eqv_snoc] at z
          cases z
        · refine sd_cons (s1_set 7 sc_law.nd (vm_data (em_call cto (hr.mono (by decide)) (am_cons (em_var 6 rfl (am_cons (em_var 3 rfl (am_nil ⟨W0, fun _ z => z.elim, 3, h, rfl, hj, hv, fun _ d hd => ?_, fun k => absurd k ne⟩))))))))
          have ed : d = tx (sureF (wordsL h)) := by rw [el] at hd; exact (Option.some.inj hd).symm
          subst ed
          refine sd_cons (s1_if (tm_cmp (nomark _) (em_var 7 rfl (em_ix (fun _ _ => rfl) (em_var 5 rfl (em_var 6 rfl (id_list (d := tx (sureF (wordsL h))) (atI_nat el) (fd_ne_str ⟨_, rfl, fun z => ?_, fun _ => sd_nil ?_⟩))))))))
          · simp at z
          refine sd_one (s1_if (tm_val (em_isi (.inr (.inr (.inr (.inr rfl)))) B.isinstance_ B.list_ boot_list (em_var 7 rfl ⟨rfl, _, rfl, fun z => absurd z (by simp [isTy, tyD]), fun _ => sd_nil ⟨_, _, rfl⟩⟩))))
      · rintro ρ3 ⟨s6, s7, rfl⟩
        exact ⟨_, _, _, _, _, _, _, rfl⟩
  · rintro ρ2 ⟨a1, a2, a3, a4, a5, a6, a7, rfl⟩
    exact sd_one (s1_ret (em_bool (FinP.va (ds := [scriptD ns]) q)))
end

/-! ### classes: what isinstance and except ask -/
theorem kit_ref {K : PySem.W.Frag} {C : Addr} {t : Value} {b : Bool} (hd : PySem.W.hasDictIn K C = true) (ht : PySem.W.typeIn K (.ref C) = some (.type "type")) (hs : PySem.W.subIn K t (.ref C) = some b) (h : t = .ref C → b = true) : PySem.W.kitOne K t (.ref C) = some b := by
  obtain ⟨cd, hc, _⟩ := PySem.W.any_some hd
  have e2 : ((PySem.W.clsIn K C).isSome && PySem.W.typeIn K (.ref C) == some (.type "type")) = true := by rw [hc, ht] <;> rfl
  unfold PySem.W.kitOne
  by_cases c : (t == Value.ref C) = true
  · rw [if_pos c, h (beq_iff_eq.mp c)]
  · rw [if_neg c]
    show (if ((PySem.W.clsIn K C).isSome && PySem.W.typeIn K (.ref C) == some (.type "type")) = true then PySem.W.subIn K t (.ref C) else none) = some b
    rw [if_pos e2]
    exact hs
theorem kit_val {K : PySem.W.Frag} {D : Addr} {b : Bool} (hs : PySem.W.subIn K (.ref D) (.type "ValueError") = some b) : PySem.W.kitOne K (.ref D) (.type "ValueError") = some b := by
  unfold PySem.W.kitOne
  have ne : ¬ ((Value.ref D == Value.type "ValueError") = true) := fun z => by
    have := beq_iff_eq.mp z
    cases this
  rw [if_neg ne]
  show (if PySem.W.kitMeta "ValueError" = true then PySem.W.subIn K (.ref D) (.type "ValueError") else none) = some b
  rw [if_pos (by decide +kernel)]
  exact hs

set_option maxHeartbeats 8000000 in
theorem all_mk {l : PySem.W.OpenLaw} {w : World} {K : PySem.W.Frag} {h : Heap} {mg : Str → Option Value} {fa f_are_signs f_are_shreds f_is_heap f_need_heap f_joined f_all_beginnings f_left_over f_next_to f_is_end f_can_end f_tails f_texts f_layings_of f_all_layings f_follows f_behind f_in_one f_together f_apart f_sure_signs f_law_well f_law_take f_law_is_int f_law_kinds f_law_refusal f_law_signs f_law_cut f_law_twins f_law_heap f_law_said f_law_ends f_law_is_laid f_law_rows_for f_law_orders f_law_layings f_law_told f_law_behind f_law_due f_law : Addr} (X : K.In h) (G : h.Ns mainGlobals mg) (hfa : mg "law" = some (.ref fa))
    {od_are_signs an_are_signs od_are_shreds an_are_shreds od_is_heap an_is_heap od_need_heap an_need_heap od_joined an_joined od_all_beginnings an_all_beginnings od_left_over an_left_over od_next_to an_next_to od_is_end an_is_end od_can_end an_can_end od_tails an_tails od_texts an_texts od_layings_of an_layings_of od_all_layings an_all_layings od_follows an_follows od_behind an_behind od_in_one an_in_one od_together an_together od_apart an_apart od_sure_signs an_sure_signs od_law_well an_law_well od_law_take an_law_take od_law_is_int an_law_is_int od_law_kinds an_law_kinds od_law_refusal an_law_refusal od_law_signs an_law_signs od_law_cut an_law_cut od_law_twins an_law_twins od_law_heap an_law_heap od_law_said an_law_said od_law_ends an_law_ends od_law_is_laid an_law_is_laid od_law_rows_for an_law_rows_for od_law_orders an_law_orders od_law_layings an_law_layings od_law_told an_law_told od_law_behind an_law_behind od_law_due an_law_due od_law an_law : Option Addr} {sl_are_signs sl_are_shreds sl_is_heap sl_need_heap sl_joined sl_all_beginnings sl_left_over sl_next_to sl_is_end sl_can_end sl_tails sl_texts sl_layings_of sl_all_layings sl_follows sl_behind sl_in_one sl_together sl_apart sl_sure_signs sl_law_well sl_law_take sl_law_is_int sl_law_kinds sl_law_refusal sl_law_signs sl_law_cut sl_law_twins sl_law_heap sl_law_said sl_law_ends sl_law_is_laid sl_law_rows_for sl_law_orders sl_law_layings sl_law_told sl_law_behind sl_law_due sl_law : Array (Option Value)} {oc_are_signs kV_are_signs dc_are_signs pm_are_signs cd_are_signs ct_are_signs oc_are_shreds kV_are_shreds dc_are_shreds pm_are_shreds cd_are_shreds ct_are_shreds oc_is_heap kV_is_heap dc_is_heap pm_is_heap cd_is_heap ct_is_heap oc_need_heap kV_need_heap dc_need_heap pm_need_heap cd_need_heap ct_need_heap oc_joined kV_joined dc_joined pm_joined cd_joined ct_joined oc_all_beginnings kV_all_beginnings dc_all_beginnings pm_all_beginnings cd_all_beginnings ct_all_beginnings oc_left_over kV_left_over dc_left_over pm_left_over cd_left_over ct_left_over oc_next_to kV_next_to dc_next_to pm_next_to cd_next_to ct_next_to oc_is_end kV_is_end dc_is_end pm_is_end cd_is_end ct_is_end oc_can_end kV_can_end dc_can_end pm_can_end cd_can_end ct_can_end oc_tails kV_tails dc_tails pm_tails cd_tails ct_tails oc_texts kV_texts dc_texts pm_texts cd_texts ct_texts oc_layings_of kV_layings_of dc_layings_of pm_layings_of cd_layings_of ct_layings_of oc_all_layings kV_all_layings dc_all_layings pm_all_layings cd_all_layings ct_all_layings oc_follows kV_follows dc_follows pm_follows cd_follows ct_follows oc_behind kV_behind dc_behind pm_behind cd_behind ct_behind oc_in_one kV_in_one dc_in_one pm_in_one cd_in_one ct_in_one oc_together kV_together dc_together pm_together cd_together ct_together oc_apart kV_apart dc_apart pm_apart cd_apart ct_apart oc_sure_signs kV_sure_signs dc_sure_signs pm_sure_signs cd_sure_signs ct_sure_signs oc_law_well kV_law_well dc_law_well pm_law_well cd_law_well ct_law_well oc_law_take kV_law_take dc_law_take pm_law_take cd_law_take ct_law_take oc_law_is_int kV_law_is_int dc_law_is_int pm_law_is_int cd_law_is_int ct_law_is_int oc_law_kinds kV_law_kinds dc_law_kinds pm_law_kinds cd_law_kinds ct_law_kinds oc_law_refusal kV_law_refusal dc_law_refusal pm_law_refusal cd_law_refusal ct_law_refusal oc_law_signs kV_law_signs dc_law_signs pm_law_signs cd_law_signs ct_law_signs oc_law_cut kV_law_cut dc_law_cut pm_law_cut cd_law_cut ct_law_cut oc_law_twins kV_law_twins dc_law_twins pm_law_twins cd_law_twins ct_law_twins oc_law_heap kV_law_heap dc_law_heap pm_law_heap cd_law_heap ct_law_heap oc_law_said kV_law_said dc_law_said pm_law_said cd_law_said ct_law_said oc_law_ends kV_law_ends dc_law_ends pm_law_ends cd_law_ends ct_law_ends oc_law_is_laid kV_law_is_laid dc_law_is_laid pm_law_is_laid cd_law_is_laid ct_law_is_laid oc_law_rows_for kV_law_rows_for dc_law_rows_for pm_law_rows_for cd_law_rows_for ct_law_rows_for oc_law_orders kV_law_orders dc_law_orders pm_law_orders cd_law_orders ct_law_orders oc_law_layings kV_law_layings dc_law_layings pm_law_layings cd_law_layings ct_law_layings oc_law_told kV_law_told dc_law_told pm_law_told cd_law_told ct_law_told oc_law_behind kV_law_behind dc_law_behind pm_law_behind cd_law_behind ct_law_behind oc_law_due kV_law_due dc_law_due pm_law_due cd_law_due ct_law_due oc_law kV_law dc_law pm_law cd_law ct_law : Value} {t1 t2 t3 : Tok}
    (a_are_signs : PySem.W.nsIn K mainGlobals "are_signs" = some (some (.ref f_are_signs))) (l_are_signs : K.lookup f_are_signs = some ⟨oc_are_signs, od_are_signs, .func (PySem.W.fnOf "are_signs" "are_signs" (defArgs s_are_signs) (defBody s_are_signs) (defScope s_are_signs) .none kV_are_signs dc_are_signs pm_are_signs an_are_signs cd_are_signs ct_are_signs), sl_are_signs⟩) (c_are_signs : PySem.W.codeIn K cd_are_signs "are_signs" = true) (k_are_signs : PySem.W.keepIn K (.ref f_are_signs) = true)
    (a_are_shreds : PySem.W.nsIn K mainGlobals "are_shreds" = some (some (.ref f_are_shreds))) (l_are_shreds : K.lookup f_are_shreds = some ⟨oc_are_shreds, od_are_shreds, .func (PySem.W.fnOf "are_shreds" "are_shreds" (defArgs s_are_shreds) (defBody s_are_shreds) (defScope s_are_shreds) .none kV_are_shreds dc_are_shreds pm_are_shreds an_are_shreds cd_are_shreds ct_are_shreds), sl_are_shreds⟩) (c_are_shreds : PySem.W.codeIn K cd_are_shreds "are_shreds" = true) (k_are_shreds : PySem.W.keepIn K (.ref f_are_shreds) = true)
    (a_is_heap : PySem.W.nsIn K mainGlobals "is_heap" = some (some (.ref f_is_heap))) (l_is_heap : K.lookup f_is_heap = some ⟨oc_is_heap, od_is_heap, .func (PySem.W.fnOf "is_heap" "is_heap" (defArgs s_is_heap) (defBody s_is_heap) (defScope s_is_heap) .none kV_is_heap dc_is_heap pm_is_heap an_is_heap cd_is_heap ct_is_heap), sl_is_heap⟩) (c_is_heap : PySem.W.codeIn K cd_is_heap "is_heap" = true) (k_is_heap : PySem.W.keepIn K (.ref f_is_heap) = true)
    (a_need_heap : PySem.W.nsIn K mainGlobals "need_heap" = some (some (.ref f_need_heap))) (l_need_heap : K.lookup f_need_heap = some ⟨oc_need_heap, od_need_heap, .func (PySem.W.fnOf "need_heap" "need_heap" (defArgs s_need_heap) (defBody s_need_heap) (defScope s_need_heap) .none kV_need_heap dc_need_heap pm_need_heap an_need_heap cd_need_heap ct_need_heap), sl_need_heap⟩) (c_need_heap : PySem.W.codeIn K cd_need_heap "need_heap" = true) (k_need_heap : PySem.W.keepIn K (.ref f_need_heap) = true)
    (a_joined : PySem.W.nsIn K mainGlobals "joined" = some (some (.ref f_joined))) (l_joined : K.lookup f_joined = some ⟨oc_joined, od_joined, .func (PySem.W.fnOf "joined" "joined" (defArgs s_joined) (defBody s_joined) (defScope s_joined) .none kV_joined dc_joined pm_joined an_joined cd_joined ct_joined), sl_joined⟩) (c_joined : PySem.W.codeIn K cd_joined "joined" = true) (k_joined : PySem.W.keepIn K (.ref f_joined) = true)
    (a_all_beginnings : PySem.W.nsIn K mainGlobals "all_beginnings" = some (some (.ref f_all_beginnings))) (l_all_beginnings : K.lookup f_all_beginnings = some ⟨oc_all_beginnings, od_all_beginnings, .func (PySem.W.fnOf "all_beginnings" "all_beginnings" (defArgs s_all_beginnings) (defBody s_all_beginnings) (defScope s_all_beginnings) .none kV_all_beginnings dc_all_beginnings pm_all_beginnings an_all_beginnings cd_all_beginnings ct_all_beginnings), sl_all_beginnings⟩) (c_all_beginnings : PySem.W.codeIn K cd_all_beginnings "all_beginnings" = true) (k_all_beginnings : PySem.W.keepIn K (.ref f_all_beginnings) = true)
    (a_left_over : PySem.W.nsIn K mainGlobals "left_over" = some (some (.ref f_left_over))) (l_left_over : K.lookup f_left_over = some ⟨oc_left_over, od_left_over, .func (PySem.W.fnOf "left_over" "left_over" (defArgs s_left_over) (defBody s_left_over) (defScope s_left_over) .none kV_left_over dc_left_over pm_left_over an_left_over cd_left_over ct_left_over), sl_left_over⟩) (c_left_over : PySem.W.codeIn K cd_left_over "left_over" = true) (k_left_over : PySem.W.keepIn K (.ref f_left_over) = true)
    (a_next_to : PySem.W.nsIn K mainGlobals "next_to" = some (some (.ref f_next_to))) (l_next_to : K.lookup f_next_to = some ⟨oc_next_to, od_next_to, .func (PySem.W.fnOf "next_to" "next_to" (defArgs s_next_to) (defBody s_next_to) (defScope s_next_to) .none kV_next_to dc_next_to pm_next_to an_next_to cd_next_to ct_next_to), sl_next_to⟩) (c_next_to : PySem.W.codeIn K cd_next_to "next_to" = true) (k_next_to : PySem.W.keepIn K (.ref f_next_to) = true)
    (a_is_end : PySem.W.nsIn K mainGlobals "is_end" = some (some (.ref f_is_end))) (l_is_end : K.lookup f_is_end = some ⟨oc_is_end, od_is_end, .func (PySem.W.fnOf "is_end" "is_end" (defArgs s_is_end) (defBody s_is_end) (defScope s_is_end) .none kV_is_end dc_is_end pm_is_end an_is_end cd_is_end ct_is_end), sl_is_end⟩) (c_is_end : PySem.W.codeIn K cd_is_end "is_end" = true) (k_is_end : PySem.W.keepIn K (.ref f_is_end) = true)
    (a_can_end : PySem.W.nsIn K mainGlobals "can_end" = some (some (.ref f_can_end))) (l_can_end : K.lookup f_can_end = some ⟨oc_can_end, od_can_end, .func (PySem.W.fnOf "can_end" "can_end" (defArgs s_can_end) (defBody s_can_end) (defScope s_can_end) .none kV_can_end dc_can_end pm_can_end an_can_end cd_can_end ct_can_end), sl_can_end⟩) (c_can_end : PySem.W.codeIn K cd_can_end "can_end" = true) (k_can_end : PySem.W.keepIn K (.ref f_can_end) = true)
    (a_tails : PySem.W.nsIn K mainGlobals "tails" = some (some (.ref f_tails))) (l_tails : K.lookup f_tails = some ⟨oc_tails, od_tails, .func (PySem.W.fnOf "tails" "tails" (defArgs s_tails) (defBody s_tails) (defScope s_tails) .none kV_tails dc_tails pm_tails an_tails cd_tails ct_tails), sl_tails⟩) (c_tails : PySem.W.codeIn K cd_tails "tails" = true) (k_tails : PySem.W.keepIn K (.ref f_tails) = true)
    (a_texts : PySem.W.nsIn K mainGlobals "texts" = some (some (.ref f_texts))) (l_texts : K.lookup f_texts = some ⟨oc_texts, od_texts, .func (PySem.W.fnOf "texts" "texts" (defArgs s_texts) (defBody s_texts) (defScope s_texts) .none kV_texts dc_texts pm_texts an_texts cd_texts ct_texts), sl_texts⟩) (c_texts : PySem.W.codeIn K cd_texts "texts" = true) (k_texts : PySem.W.keepIn K (.ref f_texts) = true)
    (a_layings_of : PySem.W.nsIn K mainGlobals "layings_of" = some (some (.ref f_layings_of))) (l_layings_of : K.lookup f_layings_of = some ⟨oc_layings_of, od_layings_of, .func (PySem.W.fnOf "layings_of" "layings_of" (defArgs s_layings_of) (defBody s_layings_of) (defScope s_layings_of) .none kV_layings_of dc_layings_of pm_layings_of an_layings_of cd_layings_of ct_layings_of), sl_layings_of⟩) (c_layings_of : PySem.W.codeIn K cd_layings_of "layings_of" = true) (k_layings_of : PySem.W.keepIn K (.ref f_layings_of) = true)
    (a_all_layings : PySem.W.nsIn K mainGlobals "all_layings" = some (some (.ref f_all_layings))) (l_all_layings : K.lookup f_all_layings = some ⟨oc_all_layings, od_all_layings, .func (PySem.W.fnOf "all_layings" "all_layings" (defArgs s_all_layings) (defBody s_all_layings) (defScope s_all_layings) .none kV_all_layings dc_all_layings pm_all_layings an_all_layings cd_all_layings ct_all_layings), sl_all_layings⟩) (c_all_layings : PySem.W.codeIn K cd_all_layings "all_layings" = true) (k_all_layings : PySem.W.keepIn K (.ref f_all_layings) = true)
    (a_follows : PySem.W.nsIn K mainGlobals "follows" = some (some (.ref f_follows))) (l_follows : K.lookup f_follows = some ⟨oc_follows, od_follows, .func (PySem.W.fnOf "follows" "follows" (defArgs s_follows) (defBody s_follows) (defScope s_follows) .none kV_follows dc_follows pm_follows an_follows cd_follows ct_follows), sl_follows⟩) (c_follows : PySem.W.codeIn K cd_follows "follows" = true) (k_follows : PySem.W.keepIn K (.ref f_follows) = true)
    (a_behind : PySem.W.nsIn K mainGlobals "behind" = some (some (.ref f_behind))) (l_behind : K.lookup f_behind = some ⟨oc_behind, od_behind, .func (PySem.W.fnOf "behind" "behind" (defArgs s_behind) (defBody s_behind) (defScope s_behind) .none kV_behind dc_behind pm_behind an_behind cd_behind ct_behind), sl_behind⟩) (c_behind : PySem.W.codeIn K cd_behind "behind" = true) (k_behind : PySem.W.keepIn K (.ref f_behind) = true)
    (a_in_one : PySem.W.nsIn K mainGlobals "in_one" = some (some (.ref f_in_one))) (l_in_one : K.lookup f_in_one = some ⟨oc_in_one, od_in_one, .func (PySem.W.fnOf "in_one" "in_one" (defArgs s_in_one) (defBody s_in_one) (defScope s_in_one) .none kV_in_one dc_in_one pm_in_one an_in_one cd_in_one ct_in_one), sl_in_one⟩) (c_in_one : PySem.W.codeIn K cd_in_one "in_one" = true) (k_in_one : PySem.W.keepIn K (.ref f_in_one) = true)
    (a_together : PySem.W.nsIn K mainGlobals "together" = some (some (.ref f_together))) (l_together : K.lookup f_together = some ⟨oc_together, od_together, .func (PySem.W.fnOf "together" "together" (defArgs s_together) (defBody s_together) (defScope s_together) .none kV_together dc_together pm_together an_together cd_together ct_together), sl_together⟩) (c_together : PySem.W.codeIn K cd_together "together" = true) (k_together : PySem.W.keepIn K (.ref f_together) = true)
    (a_apart : PySem.W.nsIn K mainGlobals "apart" = some (some (.ref f_apart))) (l_apart : K.lookup f_apart = some ⟨oc_apart, od_apart, .func (PySem.W.fnOf "apart" "apart" (defArgs s_apart) (defBody s_apart) (defScope s_apart) .none kV_apart dc_apart pm_apart an_apart cd_apart ct_apart), sl_apart⟩) (c_apart : PySem.W.codeIn K cd_apart "apart" = true) (k_apart : PySem.W.keepIn K (.ref f_apart) = true)
    (a_sure_signs : PySem.W.nsIn K mainGlobals "sure_signs" = some (some (.ref f_sure_signs))) (l_sure_signs : K.lookup f_sure_signs = some ⟨oc_sure_signs, od_sure_signs, .func (PySem.W.fnOf "sure_signs" "sure_signs" (defArgs s_sure_signs) (defBody s_sure_signs) (defScope s_sure_signs) .none kV_sure_signs dc_sure_signs pm_sure_signs an_sure_signs cd_sure_signs ct_sure_signs), sl_sure_signs⟩) (c_sure_signs : PySem.W.codeIn K cd_sure_signs "sure_signs" = true) (k_sure_signs : PySem.W.keepIn K (.ref f_sure_signs) = true)
    (a_law_well : PySem.W.nsIn K mainGlobals "_law_well" = some (some (.ref f_law_well))) (l_law_well : K.lookup f_law_well = some ⟨oc_law_well, od_law_well, .func (PySem.W.fnOf "_law_well" "_law_well" (defArgs s_law_well) (defBody s_law_well) (defScope s_law_well) .none kV_law_well dc_law_well pm_law_well an_law_well cd_law_well ct_law_well), sl_law_well⟩) (c_law_well : PySem.W.codeIn K cd_law_well "_law_well" = true) (k_law_well : PySem.W.keepIn K (.ref f_law_well) = true)
    (a_law_take : PySem.W.nsIn K mainGlobals "_law_take" = some (some (.ref f_law_take))) (l_law_take : K.lookup f_law_take = some ⟨oc_law_take, od_law_take, .func (PySem.W.fnOf "_law_take" "_law_take" (defArgs s_law_take) (defBody s_law_take) (defScope s_law_take) .none kV_law_take dc_law_take pm_law_take an_law_take cd_law_take ct_law_take), sl_law_take⟩) (c_law_take : PySem.W.codeIn K cd_law_take "_law_take" = true) (k_law_take : PySem.W.keepIn K (.ref f_law_take) = true)
    (a_law_is_int : PySem.W.nsIn K mainGlobals "_law_is_int" = some (some (.ref f_law_is_int))) (l_law_is_int : K.lookup f_law_is_int = some ⟨oc_law_is_int, od_law_is_int, .func (PySem.W.fnOf "_law_is_int" "_law_is_int" (defArgs s_law_is_int) (defBody s_law_is_int) (defScope s_law_is_int) .none kV_law_is_int dc_law_is_int pm_law_is_int an_law_is_int cd_law_is_int ct_law_is_int), sl_law_is_int⟩) (c_law_is_int : PySem.W.codeIn K cd_law_is_int "_law_is_int" = true) (k_law_is_int : PySem.W.keepIn K (.ref f_law_is_int) = true)
    (a_law_kinds : PySem.W.nsIn K mainGlobals "_law_kinds" = some (some (.ref f_law_kinds))) (l_law_kinds : K.lookup f_law_kinds = some ⟨oc_law_kinds, od_law_kinds, .func (PySem.W.fnOf "_law_kinds" "_law_kinds" (defArgs s_law_kinds) (defBody s_law_kinds) (defScope s_law_kinds) .none kV_law_kinds dc_law_kinds pm_law_kinds an_law_kinds cd_law_kinds ct_law_kinds), sl_law_kinds⟩) (c_law_kinds : PySem.W.codeIn K cd_law_kinds "_law_kinds" = true) (k_law_kinds : PySem.W.keepIn K (.ref f_law_kinds) = true)
    (a_law_refusal : PySem.W.nsIn K mainGlobals "_law_refusal" = some (some (.ref f_law_refusal))) (l_law_refusal : K.lookup f_law_refusal = some ⟨oc_law_refusal, od_law_refusal, .func (PySem.W.fnOf "_law_refusal" "_law_refusal" (defArgs s_law_refusal) (defBody s_law_refusal) (defScope s_law_refusal) .none kV_law_refusal dc_law_refusal pm_law_refusal an_law_refusal cd_law_refusal ct_law_refusal), sl_law_refusal⟩) (c_law_refusal : PySem.W.codeIn K cd_law_refusal "_law_refusal" = true) (k_law_refusal : PySem.W.keepIn K (.ref f_law_refusal) = true)
    (a_law_signs : PySem.W.nsIn K mainGlobals "_law_signs" = some (some (.ref f_law_signs))) (l_law_signs : K.lookup f_law_signs = some ⟨oc_law_signs, od_law_signs, .func (PySem.W.fnOf "_law_signs" "_law_signs" (defArgs s_law_signs) (defBody s_law_signs) (defScope s_law_signs) .none kV_law_signs dc_law_signs pm_law_signs an_law_signs cd_law_signs ct_law_signs), sl_law_signs⟩) (c_law_signs : PySem.W.codeIn K cd_law_signs "_law_signs" = true) (k_law_signs : PySem.W.keepIn K (.ref f_law_signs) = true)
    (a_law_cut : PySem.W.nsIn K mainGlobals "_law_cut" = some (some (.ref f_law_cut))) (l_law_cut : K.lookup f_law_cut = some ⟨oc_law_cut, od_law_cut, .func (PySem.W.fnOf "_law_cut" "_law_cut" (defArgs s_law_cut) (defBody s_law_cut) (defScope s_law_cut) .none kV_law_cut dc_law_cut pm_law_cut an_law_cut cd_law_cut ct_law_cut), sl_law_cut⟩) (c_law_cut : PySem.W.codeIn K cd_law_cut "_law_cut" = true) (k_law_cut : PySem.W.keepIn K (.ref f_law_cut) = true)
    (a_law_twins : PySem.W.nsIn K mainGlobals "_law_twins" = some (some (.ref f_law_twins))) (l_law_twins : K.lookup f_law_twins = some ⟨oc_law_twins, od_law_twins, .func (PySem.W.fnOf "_law_twins" "_law_twins" (defArgs s_law_twins) (defBody s_law_twins) (defScope s_law_twins) .none kV_law_twins dc_law_twins pm_law_twins an_law_twins cd_law_twins ct_law_twins), sl_law_twins⟩) (c_law_twins : PySem.W.codeIn K cd_law_twins "_law_twins" = true) (k_law_twins : PySem.W.keepIn K (.ref f_law_twins) = true)
    (a_law_heap : PySem.W.nsIn K mainGlobals "_law_heap" = some (some (.ref f_law_heap))) (l_law_heap : K.lookup f_law_heap = some ⟨oc_law_heap, od_law_heap, .func (PySem.W.fnOf "_law_heap" "_law_heap" (defArgs s_law_heap) (defBody s_law_heap) (defScope s_law_heap) .none kV_law_heap dc_law_heap pm_law_heap an_law_heap cd_law_heap ct_law_heap), sl_law_heap⟩) (c_law_heap : PySem.W.codeIn K cd_law_heap "_law_heap" = true) (k_law_heap : PySem.W.keepIn K (.ref f_law_heap) = true)
    (a_law_said : PySem.W.nsIn K mainGlobals "_law_said" = some (some (.ref f_law_said))) (l_law_said : K.lookup f_law_said = some ⟨oc_law_said, od_law_said, .func (PySem.W.fnOf "_law_said" "_law_said" (defArgs s_law_said) (defBody s_law_said) (defScope s_law_said) .none kV_law_said dc_law_said pm_law_said an_law_said cd_law_said ct_law_said), sl_law_said⟩) (c_law_said : PySem.W.codeIn K cd_law_said "_law_said" = true) (k_law_said : PySem.W.keepIn K (.ref f_law_said) = true)
    (a_law_ends : PySem.W.nsIn K mainGlobals "_law_ends" = some (some (.ref f_law_ends))) (l_law_ends : K.lookup f_law_ends = some ⟨oc_law_ends, od_law_ends, .func (PySem.W.fnOf "_law_ends" "_law_ends" (defArgs s_law_ends) (defBody s_law_ends) (defScope s_law_ends) .none kV_law_ends dc_law_ends pm_law_ends an_law_ends cd_law_ends ct_law_ends), sl_law_ends⟩) (c_law_ends : PySem.W.codeIn K cd_law_ends "_law_ends" = true) (k_law_ends : PySem.W.keepIn K (.ref f_law_ends) = true)
    (a_law_is_laid : PySem.W.nsIn K mainGlobals "_law_is_laid" = some (some (.ref f_law_is_laid))) (l_law_is_laid : K.lookup f_law_is_laid = some ⟨oc_law_is_laid, od_law_is_laid, .func (PySem.W.fnOf "_law_is_laid" "_law_is_laid" (defArgs s_law_is_laid) (defBody s_law_is_laid) (defScope s_law_is_laid) .none kV_law_is_laid dc_law_is_laid pm_law_is_laid an_law_is_laid cd_law_is_laid ct_law_is_laid), sl_law_is_laid⟩) (c_law_is_laid : PySem.W.codeIn K cd_law_is_laid "_law_is_laid" = true) (k_law_is_laid : PySem.W.keepIn K (.ref f_law_is_laid) = true)
    (a_law_rows_for : PySem.W.nsIn K mainGlobals "_law_rows_for" = some (some (.ref f_law_rows_for))) (l_law_rows_for : K.lookup f_law_rows_for = some ⟨oc_law_rows_for, od_law_rows_for, .func (PySem.W.fnOf "_law_rows_for" "_law_rows_for" (defArgs s_law_rows_for) (defBody s_law_rows_for) (defScope s_law_rows_for) .none kV_law_rows_for dc_law_rows_for pm_law_rows_for an_law_rows_for cd_law_rows_for ct_law_rows_for), sl_law_rows_for⟩) (c_law_rows_for : PySem.W.codeIn K cd_law_rows_for "_law_rows_for" = true) (k_law_rows_for : PySem.W.keepIn K (.ref f_law_rows_for) = true)
    (a_law_orders : PySem.W.nsIn K mainGlobals "_law_orders" = some (some (.ref f_law_orders))) (l_law_orders : K.lookup f_law_orders = some ⟨oc_law_orders, od_law_orders, .func (PySem.W.fnOf "_law_orders" "_law_orders" (defArgs s_law_orders) (defBody s_law_orders) (defScope s_law_orders) .none kV_law_orders dc_law_orders pm_law_orders an_law_orders cd_law_orders ct_law_orders), sl_law_orders⟩) (c_law_orders : PySem.W.codeIn K cd_law_orders "_law_orders" = true) (k_law_orders : PySem.W.keepIn K (.ref f_law_orders) = true)
    (a_law_layings : PySem.W.nsIn K mainGlobals "_law_layings" = some (some (.ref f_law_layings))) (l_law_layings : K.lookup f_law_layings = some ⟨oc_law_layings, od_law_layings, .func (PySem.W.fnOf "_law_layings" "_law_layings" (defArgs s_law_layings) (defBody s_law_layings) (defScope s_law_layings) .none kV_law_layings dc_law_layings pm_law_layings an_law_layings cd_law_layings ct_law_layings), sl_law_layings⟩) (c_law_layings : PySem.W.codeIn K cd_law_layings "_law_layings" = true) (k_law_layings : PySem.W.keepIn K (.ref f_law_layings) = true)
    (a_law_told : PySem.W.nsIn K mainGlobals "_law_told" = some (some (.ref f_law_told))) (l_law_told : K.lookup f_law_told = some ⟨oc_law_told, od_law_told, .func (PySem.W.fnOf "_law_told" "_law_told" (defArgs s_law_told) (defBody s_law_told) (defScope s_law_told) .none kV_law_told dc_law_told pm_law_told an_law_told cd_law_told ct_law_told), sl_law_told⟩) (c_law_told : PySem.W.codeIn K cd_law_told "_law_told" = true) (k_law_told : PySem.W.keepIn K (.ref f_law_told) = true)
    (a_law_behind : PySem.W.nsIn K mainGlobals "_law_behind" = some (some (.ref f_law_behind))) (l_law_behind : K.lookup f_law_behind = some ⟨oc_law_behind, od_law_behind, .func (PySem.W.fnOf "_law_behind" "_law_behind" (defArgs s_law_behind) (defBody s_law_behind) (defScope s_law_behind) .none kV_law_behind dc_law_behind pm_law_behind an_law_behind cd_law_behind ct_law_behind), sl_law_behind⟩) (c_law_behind : PySem.W.codeIn K cd_law_behind "_law_behind" = true) (k_law_behind : PySem.W.keepIn K (.ref f_law_behind) = true)
    (a_law_due : PySem.W.nsIn K mainGlobals "_law_due" = some (some (.ref f_law_due))) (l_law_due : K.lookup f_law_due = some ⟨oc_law_due, od_law_due, .func (PySem.W.fnOf "_law_due" "_law_due" (defArgs s_law_due) (defBody s_law_due) (defScope s_law_due) .none kV_law_due dc_law_due pm_law_due an_law_due cd_law_due ct_law_due), sl_law_due⟩) (c_law_due : PySem.W.codeIn K cd_law_due "_law_due" = true) (k_law_due : PySem.W.keepIn K (.ref f_law_due) = true)
    (a_law : PySem.W.nsIn K mainGlobals "law" = some (some (.ref f_law))) (l_law : K.lookup f_law = some ⟨oc_law, od_law, .func (PySem.W.fnOf "law" "law" (defArgs s_law) (defBody s_law) (defScope s_law) .none kV_law dc_law pm_law an_law cd_law ct_law), sl_law⟩) (c_law : PySem.W.codeIn K cd_law "law" = true) (k_law : PySem.W.keepIn K (.ref f_law) = true)
    (n_1 : PySem.W.nsIn K mainGlobals "LETTERS" = some (some (.str lettersS t1))) (n_2 : PySem.W.nsIn K mainGlobals "MOST_SIGNS" = some (some (.int 10 t2))) (n_3 : PySem.W.nsIn K mainGlobals "MOST_SHREDS" = some (some (.int 8 t3)))
    {e_0 e_1 e_2 e_3 e_4 e_t : Addr}
    (q_0 : PySem.W.nsIn K mainGlobals "NoHeap" = some (some (.ref e_0))) (q_1 : PySem.W.nsIn K mainGlobals "NoStanding" = some (some (.ref e_1))) (q_2 : PySem.W.nsIn K mainGlobals "NoLaying" = some (some (.ref e_2))) (q_3 : PySem.W.nsIn K mainGlobals "NoLength" = some (some (.ref e_3))) (q_4 : PySem.W.nsIn K mainGlobals "Full" = some (some (.ref e_4))) (q_t : PySem.W.nsIn K mainGlobals "TornError" = some (some (.ref e_t)))
    (x_0 : L2.ExcC K e_0) (i_0 : PySem.W.excIn K e_0 [.type "ValueError", .type "Exception", .type "BaseException", .type "object"] "ValueError.__new__" = true) (p_0 : PySem.W.keepIn K (.ref e_0) = true) (d_0 : PySem.W.typeIn K (.ref e_0) = some (.type "type"))
    (g_00 : PySem.W.subIn K (.ref e_0) (.ref e_0) = some true) (g_01 : PySem.W.subIn K (.ref e_0) (.ref e_1) = some false) (g_02 : PySem.W.subIn K (.ref e_0) (.ref e_2) = some false) (g_03 : PySem.W.subIn K (.ref e_0) (.ref e_3) = some false) (g_04 : PySem.W.subIn K (.ref e_0) (.ref e_4) = some false)
    (g_0t : PySem.W.subIn K (.ref e_0) (.ref e_t) = some true) (g_0v : PySem.W.subIn K (.ref e_0) (.type "ValueError") = some true)
    (x_1 : L2.ExcC K e_1) (i_1 : PySem.W.excIn K e_1 [.type "ValueError", .type "Exception", .type "BaseException", .type "object"] "ValueError.__new__" = true) (p_1 : PySem.W.keepIn K (.ref e_1) = true) (d_1 : PySem.W.typeIn K (.ref e_1) = some (.type "type"))
    (g_10 : PySem.W.subIn K (.ref e_1) (.ref e_0) = some false) (g_11 : PySem.W.subIn K (.ref e_1) (.ref e_1) = some true) (g_12 : PySem.W.subIn K (.ref e_1) (.ref e_2) = some false) (g_13 : PySem.W.subIn K (.ref e_1) (.ref e_3) = some false) (g_14 : PySem.W.subIn K (.ref e_1) (.ref e_4) = some false)
    (g_1t : PySem.W.subIn K (.ref e_1) (.ref e_t) = some true) (g_1v : PySem.W.subIn K (.ref e_1) (.type "ValueError") = some true)
    (x_2 : L2.ExcC K e_2) (i_2 : PySem.W.excIn K e_2 [.type "ValueError", .type "Exception", .type "BaseException", .type "object"] "ValueError.__new__" = true) (p_2 : PySem.W.keepIn K (.ref e_2) = true) (d_2 : PySem.W.typeIn K (.ref e_2) = some (.type "type"))
    (g_20 : PySem.W.subIn K (.ref e_2) (.ref e_0) = some false) (g_21 : PySem.W.subIn K (.ref e_2) (.ref e_1) = some false) (g_22 : PySem.W.subIn K (.ref e_2) (.ref e_2) = some true) (g_23 : PySem.W.subIn K (.ref e_2) (.ref e_3) = some false) (g_24 : PySem.W.subIn K (.ref e_2) (.ref e_4) = some false)
    (g_2t : PySem.W.subIn K (.ref e_2) (.ref e_t) = some true) (g_2v : PySem.W.subIn K (.ref e_2) (.type "ValueError") = some true)
    (x_3 : L2.ExcC K e_3) (i_3 : PySem.W.excIn K e_3 [.type "ValueError", .type "Exception", .type "BaseException", .type "object"] "ValueError.__new__" = true) (p_3 : PySem.W.keepIn K (.ref e_3) = true) (d_3 : PySem.W.typeIn K (.ref e_3) = some (.type "type"))
    (g_30 : PySem.W.subIn K (.ref e_3) (.ref e_0) = some false) (g_31 : PySem.W.subIn K (.ref e_3) (.ref e_1) = some false) (g_32 : PySem.W.subIn K (.ref e_3) (.ref e_2) = some false) (g_33 : PySem.W.subIn K (.ref e_3) (.ref e_3) = some true) (g_34 : PySem.W.subIn K (.ref e_3) (.ref e_4) = some false)
    (g_3t : PySem.W.subIn K (.ref e_3) (.ref e_t) = some true) (g_3v : PySem.W.subIn K (.ref e_3) (.type "ValueError") = some true)
    (x_4 : L2.ExcC K e_4) (i_4 : PySem.W.excIn K e_4 [.type "ValueError", .type "Exception", .type "BaseException", .type "object"] "ValueError.__new__" = true) (p_4 : PySem.W.keepIn K (.ref e_4) = true) (d_4 : PySem.W.typeIn K (.ref e_4) = some (.type "type"))
    (g_40 : PySem.W.subIn K (.ref e_4) (.ref e_0) = some false) (g_41 : PySem.W.subIn K (.ref e_4) (.ref e_1) = some false) (g_42 : PySem.W.subIn K (.ref e_4) (.ref e_2) = some false) (g_43 : PySem.W.subIn K (.ref e_4) (.ref e_3) = some false) (g_44 : PySem.W.subIn K (.ref e_4) (.ref e_4) = some true)
    (g_4t : PySem.W.subIn K (.ref e_4) (.ref e_t) = some true) (g_4v : PySem.W.subIn K (.ref e_4) (.type "ValueError") = some true)
    (h_t : PySem.W.hasDictIn K e_t = true) (d_t : PySem.W.typeIn K (.ref e_t) = some (.type "type")) (s_t : PySem.W.subIn K (.ref e_t) (.type "BaseException") = some true) (q_v : PySem.W.nsIn K mainGlobals "ValueError" = some none)
    (z_len : PySem.W.nsIn K mainGlobals "len" = some none) (z_all : PySem.W.nsIn K mainGlobals "all" = some none) (z_any : PySem.W.nsIn K mainGlobals "any" = some none) (z_sorted : PySem.W.nsIn K mainGlobals "sorted" = some none) (z_list : PySem.W.nsIn K mainGlobals "list" = some none) (z_tuple : PySem.W.nsIn K mainGlobals "tuple" = some none) (z_set : PySem.W.nsIn K mainGlobals "set" = some none) (z_range : PySem.W.nsIn K mainGlobals "range" = some none) (z_enumerate : PySem.W.nsIn K mainGlobals "enumerate" = some none) (z_zip : PySem.W.nsIn K mainGlobals "zip" = some none) (z_isinstance : PySem.W.nsIn K mainGlobals "isinstance" = some none) (z_int : PySem.W.nsIn K mainGlobals "int" = some none) (z_bool : PySem.W.nsIn K mainGlobals "bool" = some none) (z_str : PySem.W.nsIn K mainGlobals "str" = some none) (z_sum : PySem.W.nsIn K mainGlobals "sum" = some none) (z_min : PySem.W.nsIn K mainGlobals "min" = some none) (z_max : PySem.W.nsIn K mainGlobals "max" = some none) :
    ∃ fd : FuncData, (∀ (s : Shared) (v : Value), BindsTo s fd ⟨[v], []⟩ [("script", v)]) ∧ ∀ base : Heap, K.In base → base.Ns mainGlobals mg → FnOk l.prog w K mg base (L2N.CX l.prog w) 16 fa fd ["script"] (toSp K sp_law) := by
  have e := hfa.symm.trans (PySem.W.mg_of X G a_law)
  cases e
  have F_are_signs := fun_mk (st := s_are_signs) l_are_signs c_are_signs k_are_signs
  have m_are_signs := PySem.W.mg_of X G a_are_signs
  have b_are_signs := F_are_signs.binds (ps := ["thing", "least"]) fun _ _ _ _ _ _ us hl => match us, hl with | [_, _], _ => rfl
  have F_are_shreds := fun_mk (st := s_are_shreds) l_are_shreds c_are_shreds k_are_shreds
  have m_are_shreds := PySem.W.mg_of X G a_are_shreds
  have b_are_shreds := F_are_shreds.binds (ps := ["thing", "least"]) fun _ _ _ _ _ _ us hl => match us, hl with | [_, _], _ => rfl
  have F_is_heap := fun_mk (st := s_is_heap) l_is_heap c_is_heap k_is_heap
  have m_is_heap := PySem.W.mg_of X G a_is_heap
  have b_is_heap := F_is_heap.binds (ps := ["thing"]) fun _ _ _ _ _ _ us hl => match us, hl with | [_], _ => rfl
  have F_need_heap := fun_mk (st := s_need_heap) l_need_heap c_need_heap k_need_heap
  have m_need_heap := PySem.W.mg_of X G a_need_heap
  have b_need_heap := F_need_heap.binds (ps := ["heap"]) fun _ _ _ _ _ _ us hl => match us, hl with | [_], _ => rfl
  have F_joined := fun_mk (st := s_joined) l_joined c_joined k_joined
  have m_joined := PySem.W.mg_of X G a_joined
  have b_joined := F_joined.binds (ps := ["heap", "places"]) fun _ _ _ _ _ _ us hl => match us, hl with | [_, _], _ => rfl
  have F_all_beginnings := fun_mk (st := s_all_beginnings) l_all_beginnings c_all_beginnings k_all_beginnings
  have m_all_beginnings := PySem.W.mg_of X G a_all_beginnings
  have b_all_beginnings := F_all_beginnings.binds (ps := ["heap"]) fun _ _ _ _ _ _ us hl => match us, hl with | [_], _ => rfl
  have F_left_over := fun_mk (st := s_left_over) l_left_over c_left_over k_left_over
  have m_left_over := PySem.W.mg_of X G a_left_over
  have b_left_over := F_left_over.binds (ps := ["rest", "shred"]) fun _ _ _ _ _ _ us hl => match us, hl with | [_, _], _ => rfl
  have F_next_to := fun_mk (st := s_next_to) l_next_to c_next_to k_next_to
  have m_next_to := PySem.W.mg_of X G a_next_to
  have b_next_to := F_next_to.binds (ps := ["heap", "standing"]) fun _ _ _ _ _ _ us hl => match us, hl with | [_, _], _ => rfl
  have F_is_end := fun_mk (st := s_is_end) l_is_end c_is_end k_is_end
  have m_is_end := PySem.W.mg_of X G a_is_end
  have b_is_end := F_is_end.binds (ps := ["heap", "standing"]) fun _ _ _ _ _ _ us hl => match us, hl with | [_, _], _ => rfl
  have F_can_end := fun_mk (st := s_can_end) l_can_end c_can_end k_can_end
  have m_can_end := PySem.W.mg_of X G a_can_end
  have b_can_end := F_can_end.binds (ps := ["heap", "standing", "known"]) fun _ _ _ _ _ _ us hl => match us, hl with | [_, _, _], _ => rfl
  have F_tails := fun_mk (st := s_tails) l_tails c_tails k_tails
  have m_tails := PySem.W.mg_of X G a_tails
  have b_tails := F_tails.binds (ps := ["heap", "standing", "known"]) fun _ _ _ _ _ _ us hl => match us, hl with | [_, _, _], _ => rfl
  have F_texts := fun_mk (st := s_texts) l_texts c_texts k_texts
  have m_texts := PySem.W.mg_of X G a_texts
  have b_texts := F_texts.binds (ps := ["heap"]) fun _ _ _ _ _ _ us hl => match us, hl with | [_], _ => rfl
  have F_layings_of := fun_mk (st := s_layings_of) l_layings_of c_layings_of k_layings_of
  have m_layings_of := PySem.W.mg_of X G a_layings_of
  have b_layings_of := F_layings_of.binds (ps := ["heap"]) fun _ _ _ _ _ _ us hl => match us, hl with | [_], _ => rfl
  have F_all_layings := fun_mk (st := s_all_layings) l_all_layings c_all_layings k_all_layings
  have m_all_layings := PySem.W.mg_of X G a_all_layings
  have b_all_layings := F_all_layings.binds (ps := ["heap"]) fun _ _ _ _ _ _ us hl => match us, hl with | [_], _ => rfl
  have F_follows := fun_mk (st := s_follows) l_follows c_follows k_follows
  have m_follows := PySem.W.mg_of X G a_follows
  have b_follows := F_follows.binds (ps := ["laying", "place", "other"]) fun _ _ _ _ _ _ us hl => match us, hl with | [_, _, _], _ => rfl
  have F_behind := fun_mk (st := s_behind) l_behind c_behind k_behind
  have m_behind := PySem.W.mg_of X G a_behind
  have b_behind := F_behind.binds (ps := ["heap"]) fun _ _ _ _ _ _ us hl => match us, hl with | [_], _ => rfl
  have F_in_one := fun_mk (st := s_in_one) l_in_one c_in_one k_in_one
  have m_in_one := PySem.W.mg_of X G a_in_one
  have b_in_one := F_in_one.binds (ps := ["laying", "place", "other"]) fun _ _ _ _ _ _ us hl => match us, hl with | [_, _, _], _ => rfl
  have F_together := fun_mk (st := s_together) l_together c_together k_together
  have m_together := PySem.W.mg_of X G a_together
  have b_together := F_together.binds (ps := ["heap"]) fun _ _ _ _ _ _ us hl => match us, hl with | [_], _ => rfl
  have F_apart := fun_mk (st := s_apart) l_apart c_apart k_apart
  have m_apart := PySem.W.mg_of X G a_apart
  have b_apart := F_apart.binds (ps := ["heap"]) fun _ _ _ _ _ _ us hl => match us, hl with | [_], _ => rfl
  have F_sure_signs := fun_mk (st := s_sure_signs) l_sure_signs c_sure_signs k_sure_signs
  have m_sure_signs := PySem.W.mg_of X G a_sure_signs
  have b_sure_signs := F_sure_signs.binds (ps := ["heap"]) fun _ _ _ _ _ _ us hl => match us, hl with | [_], _ => rfl
  have F_law_well := fun_mk (st := s_law_well) l_law_well c_law_well k_law_well
  have m_law_well := PySem.W.mg_of X G a_law_well
  have b_law_well := F_law_well.binds (ps := ["script", "k"]) fun _ _ _ _ _ _ us hl => match us, hl with | [_, _], _ => rfl
  have F_law_take := fun_mk (st := s_law_take) l_law_take c_law_take k_law_take
  have m_law_take := PySem.W.mg_of X G a_law_take
  have b_law_take := F_law_take.binds (ps := ["well", "many"]) fun _ _ _ _ _ _ us hl => match us, hl with | [_, _], _ => rfl
  have F_law_is_int := fun_mk (st := s_law_is_int) l_law_is_int c_law_is_int k_law_is_int
  have m_law_is_int := PySem.W.mg_of X G a_law_is_int
  have b_law_is_int := F_law_is_int.binds (ps := ["thing", "low", "high"]) fun _ _ _ _ _ _ us hl => match us, hl with | [_, _, _], _ => rfl
  have F_law_kinds := fun_mk (st := s_law_kinds) l_law_kinds c_law_kinds k_law_kinds
  have m_law_kinds := PySem.W.mg_of X G a_law_kinds
  have b_law_kinds := F_law_kinds.binds (ps := ["e"]) fun _ _ _ _ _ _ us hl => match us, hl with | [_], _ => rfl
  have F_law_refusal := fun_mk (st := s_law_refusal) l_law_refusal c_law_refusal k_law_refusal
  have m_law_refusal := PySem.W.mg_of X G a_law_refusal
  have b_law_refusal := F_law_refusal.binds (ps := ["e"]) fun _ _ _ _ _ _ us hl => match us, hl with | [_], _ => rfl
  have F_law_signs := fun_mk (st := s_law_signs) l_law_signs c_law_signs k_law_signs
  have m_law_signs := PySem.W.mg_of X G a_law_signs
  have b_law_signs := F_law_signs.binds (ps := ["well", "many", "kinds"]) fun _ _ _ _ _ _ us hl => match us, hl with | [_, _, _], _ => rfl
  have F_law_cut := fun_mk (st := s_law_cut) l_law_cut c_law_cut k_law_cut
  have m_law_cut := PySem.W.mg_of X G a_law_cut
  have b_law_cut := F_law_cut.binds (ps := ["text", "spots"]) fun _ _ _ _ _ _ us hl => match us, hl with | [_, _], _ => rfl
  have F_law_twins := fun_mk (st := s_law_twins) l_law_twins c_law_twins k_law_twins
  have m_law_twins := PySem.W.mg_of X G a_law_twins
  have b_law_twins := F_law_twins.binds (ps := ["well", "top"]) fun _ _ _ _ _ _ us hl => match us, hl with | [_, _], _ => rfl
  have F_law_heap := fun_mk (st := s_law_heap) l_law_heap c_law_heap k_law_heap
  have m_law_heap := PySem.W.mg_of X G a_law_heap
  have b_law_heap := F_law_heap.binds (ps := ["well", "top"]) fun _ _ _ _ _ _ us hl => match us, hl with | [_, _], _ => rfl
  have F_law_said := fun_mk (st := s_law_said) l_law_said c_law_said k_law_said
  have m_law_said := PySem.W.mg_of X G a_law_said
  have b_law_said := F_law_said.binds (ps := ["heap", "places"]) fun _ _ _ _ _ _ us hl => match us, hl with | [_, _], _ => rfl
  have F_law_ends := fun_mk (st := s_law_ends) l_law_ends c_law_ends k_law_ends
  have m_law_ends := PySem.W.mg_of X G a_law_ends
  have b_law_ends := F_law_ends.binds (ps := ["heap", "places"]) fun _ _ _ _ _ _ us hl => match us, hl with | [_, _], _ => rfl
  have F_law_is_laid := fun_mk (st := s_law_is_laid) l_law_is_laid c_law_is_laid k_law_is_laid
  have m_law_is_laid := PySem.W.mg_of X G a_law_is_laid
  have b_law_is_laid := F_law_is_laid.binds (ps := ["heap", "thing"]) fun _ _ _ _ _ _ us hl => match us, hl with | [_, _], _ => rfl
  have F_law_rows_for := fun_mk (st := s_law_rows_for) l_law_rows_for c_law_rows_for k_law_rows_for
  have m_law_rows_for := PySem.W.mg_of X G a_law_rows_for
  have b_law_rows_for := F_law_rows_for.binds (ps := ["heap", "places", "text"]) fun _ _ _ _ _ _ us hl => match us, hl with | [_, _, _], _ => rfl
  have F_law_orders := fun_mk (st := s_law_orders) l_law_orders c_law_orders k_law_orders
  have m_law_orders := PySem.W.mg_of X G a_law_orders
  have b_law_orders := F_law_orders.binds (ps := ["places"]) fun _ _ _ _ _ _ us hl => match us, hl with | [_], _ => rfl
  have F_law_layings := fun_mk (st := s_law_layings) l_law_layings c_law_layings k_law_layings
  have m_law_layings := PySem.W.mg_of X G a_law_layings
  have b_law_layings := F_law_layings.binds (ps := ["heap"]) fun _ _ _ _ _ _ us hl => match us, hl with | [_], _ => rfl
  have F_law_told := fun_mk (st := s_law_told) l_law_told c_law_told k_law_told
  have m_law_told := PySem.W.mg_of X G a_law_told
  have b_law_told := F_law_told.binds (ps := ["way", "heap"]) fun _ _ _ _ _ _ us hl => match us, hl with | [_, _], _ => rfl
  have F_law_behind := fun_mk (st := s_law_behind) l_law_behind c_law_behind k_law_behind
  have m_law_behind := PySem.W.mg_of X G a_law_behind
  have b_law_behind := F_law_behind.binds (ps := ["layings_so", "place", "other"]) fun _ _ _ _ _ _ us hl => match us, hl with | [_, _, _], _ => rfl
  have F_law_due := fun_mk (st := s_law_due) l_law_due c_law_due k_law_due
  have m_law_due := PySem.W.mg_of X G a_law_due
  have b_law_due := F_law_due.binds (ps := ["heap", "layings_so"]) fun _ _ _ _ _ _ us hl => match us, hl with | [_, _], _ => rfl
  have F_law := fun_mk (st := s_law) l_law c_law k_law
  have m_law := PySem.W.mg_of X G a_law
  have b_law := F_law.binds (ps := ["script"]) fun _ _ _ _ _ _ us hl => match us, hl with | [_], _ => rfl
  refine ⟨PySem.W.fnOf "law" "law" (defArgs s_law) (defBody s_law) (defScope s_law) .none kV_law dc_law pm_law an_law cd_law ct_law, fun s v => .of_eq rfl, fun base _ _ => ?_⟩
  have B : Bare mg := ⟨PySem.W.mg_none_of X G z_len, PySem.W.mg_none_of X G z_all, PySem.W.mg_none_of X G z_any, PySem.W.mg_none_of X G z_sorted, PySem.W.mg_none_of X G z_list, PySem.W.mg_none_of X G z_tuple, PySem.W.mg_none_of X G z_set, PySem.W.mg_none_of X G z_range, PySem.W.mg_none_of X G z_enumerate, PySem.W.mg_none_of X G z_zip, PySem.W.mg_none_of X G z_isinstance, PySem.W.mg_none_of X G z_int, PySem.W.mg_none_of X G z_bool, PySem.W.mg_none_of X G z_str, PySem.W.mg_none_of X G z_sum, PySem.W.mg_none_of X G z_min, PySem.W.mg_none_of X G z_max⟩
  have C : Consts mg := ⟨⟨t1, PySem.W.mg_of X G n_1⟩, ⟨t2, PySem.W.mg_of X G n_2⟩, ⟨t3, PySem.W.mg_of X G n_3⟩⟩
  have mc : ∀ c, c < 5 → c = 0 ∨ c = 1 ∨ c = 2 ∨ c = 3 ∨ c = 4 := fun c h => by omega
  have Er : Errs K mg (fun c => [e_0, e_1, e_2, e_3, e_4].getD c e_4) e_t := by
    refine ⟨PySem.W.mg_of X G q_0, PySem.W.mg_of X G q_1, PySem.W.mg_of X G q_2, PySem.W.mg_of X G q_3, PySem.W.mg_of X G q_4, PySem.W.mg_of X G q_t, PySem.W.mg_none_of X G q_v, fun c hc => ?_, fun c hc i hi => ?_, fun c hc => ?_, fun c hc => ?_⟩
    · rcases mc c hc with rfl | rfl | rfl | rfl | rfl
      · exact x_0
      · exact x_1
      · exact x_2
      · exact x_3
      · exact x_4
    · rcases mc c hc with rfl | rfl | rfl | rfl | rfl <;> rcases mc i hi with rfl | rfl | rfl | rfl | rfl
      · exact kit_ref x_0.hd d_0 g_00 fun e => rfl
      · exact kit_ref x_1.hd d_1 g_01 fun e => (by have e2 : Value.ref e_0 = Value.ref e_1 := e; rw [e2, g_11] at g_01; cases g_01)
      · exact kit_ref x_2.hd d_2 g_02 fun e => (by have e2 : Value.ref e_0 = Value.ref e_2 := e; rw [e2, g_22] at g_02; cases g_02)
      · exact kit_ref x_3.hd d_3 g_03 fun e => (by have e2 : Value.ref e_0 = Value.ref e_3 := e; rw [e2, g_33] at g_03; cases g_03)
      · exact kit_ref x_4.hd d_4 g_04 fun e => (by have e2 : Value.ref e_0 = Value.ref e_4 := e; rw [e2, g_44] at g_04; cases g_04)
      · exact kit_ref x_0.hd d_0 g_10 fun e => (by have e2 : Value.ref e_1 = Value.ref e_0 := e; rw [e2, g_00] at g_10; cases g_10)
      · exact kit_ref x_1.hd d_1 g_11 fun e => rfl
      · exact kit_ref x_2.hd d_2 g_12 fun e => (by have e2 : Value.ref e_1 = Value.ref e_2 := e; rw [e2, g_22] at g_12; cases g_12)
      · exact kit_ref x_3.hd d_3 g_13 fun e => (by have e2 : Value.ref e_1 = Value.ref e_3 := e; rw [e2, g_33] at g_13; cases g_13)
      · exact kit_ref x_4.hd d_4 g_14 fun e => (by have e2 : Value.ref e_1 = Value.ref e_4 := e; rw [e2, g_44] at g_14; cases g_14)
      · exact kit_ref x_0.hd d_0 g_20 fun e => (by have e2 : Value.ref e_2 = Value.ref e_0 := e; rw [e2, g_00] at g_20; cases g_20)
      · exact kit_ref x_1.hd d_1 g_21 fun e => (by have e2 : Value.ref e_2 = Value.ref e_1 := e; rw [e2, g_11] at g_21; cases g_21)
      · exact kit_ref x_2.hd d_2 g_22 fun e => rfl
      · exact kit_ref x_3.hd d_3 g_23 fun e => (by have e2 : Value.ref e_2 = Value.ref e_3 := e; rw [e2, g_33] at g_23; cases g_23)
      · exact kit_ref x_4.hd d_4 g_24 fun e => (by have e2 : Value.ref e_2 = Value.ref e_4 := e; rw [e2, g_44] at g_24; cases g_24)
      · exact kit_ref x_0.hd d_0 g_30 fun e => (by have e2 : Value.ref e_3 = Value.ref e_0 := e; rw [e2, g_00] at g_30; cases g_30)
      · exact kit_ref x_1.hd d_1 g_31 fun e => (by have e2 : Value.ref e_3 = Value.ref e_1 := e; rw [e2, g_11] at g_31; cases g_31)
      · exact kit_ref x_2.hd d_2 g_32 fun e => (by have e2 : Value.ref e_3 = Value.ref e_2 := e; rw [e2, g_22] at g_32; cases g_32)
      · exact kit_ref x_3.hd d_3 g_33 fun e => rfl
      · exact kit_ref x_4.hd d_4 g_34 fun e => (by have e2 : Value.ref e_3 = Value.ref e_4 := e; rw [e2, g_44] at g_34; cases g_34)
      · exact kit_ref x_0.hd d_0 g_40 fun e => (by have e2 : Value.ref e_4 = Value.ref e_0 := e; rw [e2, g_00] at g_40; cases g_40)
      · exact kit_ref x_1.hd d_1 g_41 fun e => (by have e2 : Value.ref e_4 = Value.ref e_1 := e; rw [e2, g_11] at g_41; cases g_41)
      · exact kit_ref x_2.hd d_2 g_42 fun e => (by have e2 : Value.ref e_4 = Value.ref e_2 := e; rw [e2, g_22] at g_42; cases g_42)
      · exact kit_ref x_3.hd d_3 g_43 fun e => (by have e2 : Value.ref e_4 = Value.ref e_3 := e; rw [e2, g_33] at g_43; cases g_43)
      · exact kit_ref x_4.hd d_4 g_44 fun e => rfl
    · rcases mc c hc with rfl | rfl | rfl | rfl | rfl
      · exact kit_ref h_t d_t g_0t fun _ => rfl
      · exact kit_ref h_t d_t g_1t fun _ => rfl
      · exact kit_ref h_t d_t g_2t fun _ => rfl
      · exact kit_ref h_t d_t g_3t fun _ => rfl
      · exact kit_ref h_t d_t g_4t fun _ => rfl
    · rcases mc c hc with rfl | rfl | rfl | rfl | rfl
      · exact kit_val g_0v
      · exact kit_val g_1v
      · exact kit_val g_2v
      · exact kit_val g_3v
      · exact kit_val g_4v
  have ex : ∀ c, c < 5 → PySem.W.exmOne K (.ref ([e_0, e_1, e_2, e_3, e_4].getD c e_4)) (.ref e_t) = some true := fun c hc => by
    rcases mc c hc with rfl | rfl | rfl | rfl | rfl
    · exact PySem.W.exm_ref s_t h_t d_t g_0t
    · exact PySem.W.exm_ref s_t h_t d_t g_1t
    · exact PySem.W.exm_ref s_t h_t d_t g_2t
    · exact PySem.W.exm_ref s_t h_t d_t g_3t
    · exact PySem.W.exm_ref s_t h_t d_t g_4t
  have R_0 : ExcR K mg "NoHeap" e_0 := ⟨⟨_, _, _, _, PySem.F.excBase_ValueError, i_0⟩, PySem.W.mg_of X G q_0, p_0, x_0.hs, d_0⟩
  have R_1 : ExcR K mg "NoStanding" e_1 := ⟨⟨_, _, _, _, PySem.F.excBase_ValueError, i_1⟩, PySem.W.mg_of X G q_1, p_1, x_1.hs, d_1⟩
  have R_2 : ExcR K mg "NoLaying" e_2 := ⟨⟨_, _, _, _, PySem.F.excBase_ValueError, i_2⟩, PySem.W.mg_of X G q_2, p_2, x_2.hs, d_2⟩
  have R_3 : ExcR K mg "NoLength" e_3 := ⟨⟨_, _, _, _, PySem.F.excBase_ValueError, i_3⟩, PySem.W.mg_of X G q_3, p_3, x_3.hs, d_3⟩
  have R_4 : ExcR K mg "Full" e_4 := ⟨⟨_, _, _, _, PySem.F.excBase_ValueError, i_4⟩, PySem.W.mg_of X G q_4, p_4, x_4.hs, d_4⟩
  have Rr : ExcR K mg "NoLaying" ((fun c => [e_0, e_1, e_2, e_3, e_4].getD c e_4) 2) := R_2
  have c_are_signs := ok_are_signs (P := l.prog) (w := w) (base := base) B C F_are_signs m_are_signs b_are_signs
  have c_are_shreds := ok_are_shreds B C c_are_signs F_are_shreds m_are_shreds b_are_shreds
  have c_is_heap := ok_is_heap c_are_shreds F_is_heap m_is_heap b_is_heap
  have c_need_heap := ok_need_heap c_is_heap F_need_heap m_need_heap b_need_heap
  have c_joined := ok_joined (P := l.prog) (w := w) (base := base) F_joined m_joined b_joined
  have c_begin := ok_all_beginnings (P := l.prog) (w := w) (base := base) B F_all_beginnings m_all_beginnings b_all_beginnings
  have c_left := ok_left_over (P := l.prog) (w := w) (base := base) B F_left_over m_left_over b_left_over
  have c_next := ok_next_to B c_left F_next_to m_next_to b_next_to
  have c_end := ok_is_end (P := l.prog) (w := w) (base := base) B F_is_end m_is_end b_is_end
  have c_can := ok_can_end B c_next c_end F_can_end m_can_end b_can_end
  have c_tails := ok_tails B c_next c_end F_tails m_tails b_tails
  have c_texts := ok_texts B c_need_heap c_begin (c_tails 7) F_texts m_texts b_texts
  have c_lays := ok_layings_of B c_begin c_end c_next (c_can 8) c_joined F_layings_of m_layings_of b_layings_of
  have c_all := ok_all_layings (ea := fun c => [e_0, e_1, e_2, e_3, e_4].getD c e_4) Rr c_need_heap c_lays F_all_layings m_all_layings b_all_layings
  have c_fol := ok_follows (P := l.prog) (w := w) (base := base) B F_follows m_follows b_follows
  have c_one := ok_in_one (P := l.prog) (w := w) (base := base) F_in_one m_in_one b_in_one
  have c_beh := ok_behind B c_all c_fol F_behind m_behind b_behind
  have c_tog := ok_together B c_all c_one F_together m_together b_together
  have c_apa := ok_apart B c_all c_one F_apart m_apart b_apart
  have c_sure := ok_sure_signs B c_all c_texts F_sure_signs m_sure_signs b_sure_signs
  have c_kinds := ok_law_kinds (P := l.prog) (w := w) (base := base) B Er F_law_kinds m_law_kinds b_law_kinds
  have c_refusal := ok_law_refusal B c_kinds F_law_refusal m_law_refusal b_law_refusal
  have c_told := ok_law_told Er ex c_beh c_tog c_apa c_sure c_refusal F_law_told m_law_told b_law_told
  have c_well := ok_law_well (P := l.prog) (w := w) (base := base) B F_law_well m_law_well b_law_well
  have c_take := ok_law_take (P := l.prog) (w := w) (base := base) F_law_take m_law_take b_law_take
  have c_signs := ok_law_signs B c_take F_law_signs m_law_signs b_law_signs
  have c_cut := ok_law_cut (P := l.prog) (w := w) (base := base) B F_law_cut m_law_cut b_law_cut
  have c_twins := ok_law_twins B c_take c_signs c_cut F_law_twins m_law_twins b_law_twins
  have c_heap := ok_law_heap B c_take c_signs c_twins F_law_heap m_law_heap b_law_heap
  have c_int := ok_law_is_int (P := l.prog) (w := w) (base := base) B F_law_is_int m_law_is_int b_law_is_int
  have c_said := ok_law_said (P := l.prog) (w := w) (base := base) F_law_said m_law_said b_law_said
  have c_ends := ok_law_ends B c_said F_law_ends m_law_ends b_law_ends
  have c_laid := ok_law_is_laid B c_int c_said c_ends F_law_is_laid m_law_is_laid b_law_is_laid
  have c_orders := ok_law_orders (P := l.prog) (w := w) (base := base) F_law_orders m_law_orders b_law_orders
  have c_rows := ok_law_rows_for (P := l.prog) (w := w) (base := base) B F_law_rows_for m_law_rows_for b_law_rows_for
  have c_ll := ok_law_layings B (c_orders 8) (c_rows 8) c_said c_laid F_law_layings m_law_layings b_law_layings
  have c_lbeh := ok_law_behind (P := l.prog) (w := w) (base := base) F_law_behind m_law_behind b_law_behind
  have c_due := ok_law_due B c_lbeh c_said F_law_due m_law_due b_law_due
  exact ok_law B c_well c_heap c_ll c_due c_told F_law
theorem law_start {K : PySem.W.Frag} {H : Hp} {a : Addr} {ns : List Int} (hO : Only H) (hS : SqL K H a (ns.map V.int)) (hl : ns.length ≤ 63) : toSp K sp_law [.ref a] H (fun v _ => v = .bl true) fun _ _ _ => False := by
  have sc : ScrAt K H a ns := by
    rcases hS with (h | ⟨o, h⟩) | h
    · rcases hO a with z | ⟨o, xs, z⟩
      · rw [z] at h; cases h
      · rw [z] at h; cases h
    · exact .inl ⟨o, h⟩
    · exact .inr (.inr h)
  refine ⟨[.va (scriptD ns)], H, fun _ d _ => d = .bool true, W0, envOk_va (ds := [scriptD ns]) (Sub.refl H) (.cons ⟨.inr (.inr ⟨a, ns, rfl, rfl, sc⟩)⟩ .nil), ⟨ns, rfl, hl, rfl⟩, fun v o d ss' I' H' _ _ _ r e => ?_, .inl fun _ z => z⟩
  subst e
  exact Rs.bool r
end Tt
open PySem PySem.W PyProof.Rows
set_option maxHeartbeats 0 in
theorem PySem.Challenge.cw_twintorn_k21_whole_what_is_sure_holds : PySem.Challenge.rw_twintorn_k21_whole_what_is_sure.Holds := by
  w_on; o_law; k_head; (case hw => w_witness2)
  k_fill
  refine L2.walk_of (l := PySem.Challenge.rw_twintorn_k21_whole_what_is_sure) (n := 63) (k := 16) (x := "script") (CX := fun w => L2N.CX PySem.Challenge.rw_twintorn_k21_whole_what_is_sure.prog w) (sp := fun w => Tt.toSp _ Tt.sp_law) rfl (by decide) rfl ⟨rfl, by decide, by decide⟩ (fun w h Y => PySem.W.kIn_of Y) ?F (fun _ _ a ns hl hO hS => Tt.law_start hO hS hl) (fun _ _ _ _ _ h => by obtain ⟨_, _, _, _, _, _, _, _, _, _, _, _, z⟩ := h; exact z)
  case F =>
    intro w mg fa h KX G hmg
    refine' Tt.all_mk KX G hmg ?a_are_signs ?l_are_signs ?c_are_signs ?k_are_signs ?a_are_shreds ?l_are_shreds ?c_are_shreds ?k_are_shreds ?a_is_heap ?l_is_heap ?c_is_heap ?k_is_heap ?a_need_heap ?l_need_heap ?c_need_heap ?k_need_heap ?a_joined ?l_joined ?c_joined ?k_joined ?a_all_beginnings ?l_all_beginnings ?c_all_beginnings ?k_all_beginnings ?a_left_over ?l_left_over ?c_left_over ?k_left_over ?a_next_to ?l_next_to ?c_next_to ?k_next_to ?a_is_end ?l_is_end ?c_is_end ?k_is_end ?a_can_end ?l_can_end ?c_can_end ?k_can_end ?a_tails ?l_tails ?c_tails ?k_tails ?a_texts ?l_texts ?c_texts ?k_texts ?a_layings_of ?l_layings_of ?c_layings_of ?k_layings_of ?a_all_layings ?l_all_layings ?c_all_layings ?k_all_layings ?a_follows ?l_follows ?c_follows ?k_follows ?a_behind ?l_behind ?c_behind ?k_behind ?a_in_one ?l_in_one ?c_in_one ?k_in_one ?a_together ?l_together ?c_together ?k_together ?a_apart ?l_apart ?c_apart ?k_apart ?a_sure_signs ?l_sure_signs ?c_sure_signs ?k_sure_signs ?a_law_well ?l_law_well ?c_law_well ?k_law_well ?a_law_take ?l_law_take ?c_law_take ?k_law_take ?a_law_is_int ?l_law_is_int ?c_law_is_int ?k_law_is_int ?a_law_kinds ?l_law_kinds ?c_law_kinds ?k_law_kinds ?a_law_refusal ?l_law_refusal ?c_law_refusal ?k_law_refusal ?a_law_signs ?l_law_signs ?c_law_signs ?k_law_signs ?a_law_cut ?l_law_cut ?c_law_cut ?k_law_cut ?a_law_twins ?l_law_twins ?c_law_twins ?k_law_twins ?a_law_heap ?l_law_heap ?c_law_heap ?k_law_heap ?a_law_said ?l_law_said ?c_law_said ?k_law_said ?a_law_ends ?l_law_ends ?c_law_ends ?k_law_ends ?a_law_is_laid ?l_law_is_laid ?c_law_is_laid ?k_law_is_laid ?a_law_rows_for ?l_law_rows_for ?c_law_rows_for ?k_law_rows_for ?a_law_orders ?l_law_orders ?c_law_orders ?k_law_orders ?a_law_layings ?l_law_layings ?c_law_layings ?k_law_layings ?a_law_told ?l_law_told ?c_law_told ?k_law_told ?a_law_behind ?l_law_behind ?c_law_behind ?k_law_behind ?a_law_due ?l_law_due ?c_law_due ?k_law_due ?a_law ?l_law ?c_law ?k_law ?n_1 ?n_2 ?n_3 ?q_0 ?q_1 ?q_2 ?q_3 ?q_4 ?q_t ?x_0 ?i_0 ?p_0 ?d_0 ?g_00 ?g_01 ?g_02 ?g_03 ?g_04 ?g_0t ?g_0v ?x_1 ?i_1 ?p_1 ?d_1 ?g_10 ?g_11 ?g_12 ?g_13 ?g_14 ?g_1t ?g_1v ?x_2 ?i_2 ?p_2 ?d_2 ?g_20 ?g_21 ?g_22 ?g_23 ?g_24 ?g_2t ?g_2v ?x_3 ?i_3 ?p_3 ?d_3 ?g_30 ?g_31 ?g_32 ?g_33 ?g_34 ?g_3t ?g_3v ?x_4 ?i_4 ?p_4 ?d_4 ?g_40 ?g_41 ?g_42 ?g_43 ?g_44 ?g_4t ?g_4v ?h_t ?d_t ?s_t ?q_v ?z_len ?z_all ?z_any ?z_sorted ?z_list ?z_tuple ?z_set ?z_range ?z_enumerate ?z_zip ?z_isinstance ?z_int ?z_bool ?z_str ?z_sum ?z_min ?z_max
    (case a_are_signs => k_is); (case l_are_signs => k_is); (case c_are_signs => k_is); (case k_are_signs => k_is); (case a_are_shreds => k_is); (case l_are_shreds => k_is); (case c_are_shreds => k_is); (case k_are_shreds => k_is); (case a_is_heap => k_is); (case l_is_heap => k_is); (case c_is_heap => k_is); (case k_is_heap => k_is); (case a_need_heap => k_is); (case l_need_heap => k_is); (case c_need_heap => k_is); (case k_need_heap => k_is); (case a_joined => k_is); (case l_joined => k_is); (case c_joined => k_is); (case k_joined => k_is); (case a_all_beginnings => k_is); (case l_all_beginnings => k_is); (case c_all_beginnings => k_is); (case k_all_beginnings => k_is); (case a_left_over => k_is); (case l_left_over => k_is); (case c_left_over => k_is); (case k_left_over => k_is); (case a_next_to => k_is); (case l_next_to => k_is); (case c_next_to => k_is); (case k_next_to => k_is); (case a_is_end => k_is); (case l_is_end => k_is); (case c_is_end => k_is); (case k_is_end => k_is); (case a_can_end => k_is); (case l_can_end => k_is); (case c_can_end => k_is); (case k_can_end => k_is); (case a_tails => k_is); (case l_tails => k_is); (case c_tails => k_is); (case k_tails => k_is); (case a_texts => k_is); (case l_texts => k_is); (case c_texts => k_is); (case k_texts => k_is); (case a_layings_of => k_is); (case l_layings_of => k_is); (case c_layings_of => k_is); (case k_layings_of => k_is); (case a_all_layings => k_is); (case l_all_layings => k_is); (case c_all_layings => k_is); (case k_all_layings => k_is); (case a_follows => k_is); (case l_follows => k_is); (case c_follows => k_is); (case k_follows => k_is); (case a_behind => k_is); (case l_behind => k_is); (case c_behind => k_is); (case k_behind => k_is); (case a_in_one => k_is); (case l_in_one => k_is); (case c_in_one => k_is); (case k_in_one => k_is); (case a_together => k_is); (case l_together => k_is); (case c_together => k_is); (case k_together => k_is); (case a_apart => k_is); (case l_apart => k_is); (case c_apart => k_is); (case k_apart => k_is); (case a_sure_signs => k_is); (case l_sure_signs => k_is); (case c_sure_signs => k_is); (case k_sure_signs => k_is); (case a_law_well => k_is); (case l_law_well => k_is); (case c_law_well => k_is); (case k_law_well => k_is); (case a_law_take => k_is); (case l_law_take => k_is); (case c_law_take => k_is); (case k_law_take => k_is); (case a_law_is_int => k_is); (case l_law_is_int => k_is); (case c_law_is_int => k_is); (case k_law_is_int => k_is); (case a_law_kinds => k_is); (case l_law_kinds => k_is); (case c_law_kinds => k_is); (case k_law_kinds => k_is); (case a_law_refusal => k_is); (case l_law_refusal => k_is); (case c_law_refusal => k_is); (case k_law_refusal => k_is); (case a_law_signs => k_is); (case l_law_signs => k_is); (case c_law_signs => k_is); (case k_law_signs => k_is); (case a_law_cut => k_is); (case l_law_cut => k_is); (case c_law_cut => k_is); (case k_law_cut => k_is); (case a_law_twins => k_is); (case l_law_twins => k_is); (case c_law_twins => k_is); (case k_law_twins => k_is); (case a_law_heap => k_is); (case l_law_heap => k_is); (case c_law_heap => k_is); (case k_law_heap => k_is); (case a_law_said => k_is); (case l_law_said => k_is); (case c_law_said => k_is); (case k_law_said => k_is); (case a_law_ends => k_is); (case l_law_ends => k_is); (case c_law_ends => k_is); (case k_law_ends => k_is); (case a_law_is_laid => k_is); (case l_law_is_laid => k_is); (case c_law_is_laid => k_is); (case k_law_is_laid => k_is); (case a_law_rows_for => k_is); (case l_law_rows_for => k_is); (case c_law_rows_for => k_is); (case k_law_rows_for => k_is); (case a_law_orders => k_is); (case l_law_orders => k_is); (case c_law_orders => k_is); (case k_law_orders => k_is); (case a_law_layings => k_is); (case l_law_layings => k_is); (case c_law_layings => k_is); (case k_law_layings => k_is); (case a_law_told => k_is); (case l_law_told => k_is); (case c_law_told => k_is); (case k_law_told => k_is); (case a_law_behind => k_is); (case l_law_behind => k_is); (case c_law_behind => k_is); (case k_law_behind => k_is); (case a_law_due => k_is); (case l_law_due => k_is); (case c_law_due => k_is); (case k_law_due => k_is); (case a_law => k_is); (case l_law => k_is); (case c_law => k_is); (case k_law => k_is); (case n_1 => k_is); (case n_2 => k_is); (case n_3 => k_is); (case q_0 => k_is); (case q_1 => k_is); (case q_2 => k_is); (case q_3 => k_is); (case q_4 => k_is); (case q_t => k_is); (case x_0 => exact ⟨by k_is, by k_is, by k_is, by k_is, by k_is, by k_is, by k_is, by k_is⟩); (case i_0 => first | rfl | decide +kernel | (unfold PySem.W.excIn; rfl) | (with_unfolding_all rfl)); (case p_0 => k_is); (case d_0 => k_is); (case g_00 => k_is); (case g_01 => k_is); (case g_02 => k_is); (case g_03 => k_is); (case g_04 => k_is); (case g_0t => k_is); (case g_0v => k_is); (case x_1 => exact ⟨by k_is, by k_is, by k_is, by k_is, by k_is, by k_is, by k_is, by k_is⟩); (case i_1 => first | rfl | decide +kernel | (unfold PySem.W.excIn; rfl) | (with_unfolding_all rfl)); (case p_1 => k_is); (case d_1 => k_is); (case g_10 => k_is); (case g_11 => k_is); (case g_12 => k_is); (case g_13 => k_is); (case g_14 => k_is); (case g_1t => k_is); (case g_1v => k_is); (case x_2 => exact ⟨by k_is, by k_is, by k_is, by k_is, by k_is, by k_is, by k_is, by k_is⟩); (case i_2 => first | rfl | decide +kernel | (unfold PySem.W.excIn; rfl) | (with_unfolding_all rfl)); (case p_2 => k_is); (case d_2 => k_is); (case g_20 => k_is); (case g_21 => k_is); (case g_22 => k_is); (case g_23 => k_is); (case g_24 => k_is); (case g_2t => k_is); (case g_2v => k_is); (case x_3 => exact ⟨by k_is, by k_is, by k_is, by k_is, by k_is, by k_is, by k_is, by k_is⟩); (case i_3 => first | rfl | decide +kernel | (unfold PySem.W.excIn; rfl) | (with_unfolding_all rfl)); (case p_3 => k_is); (case d_3 => k_is); (case g_30 => k_is); (case g_31 => k_is); (case g_32 => k_is); (case g_33 => k_is); (case g_34 => k_is); (case g_3t => k_is); (case g_3v => k_is); (case x_4 => exact ⟨by k_is, by k_is, by k_is, by k_is, by k_is, by k_is, by k_is, by k_is⟩); (case i_4 => first | rfl | decide +kernel | (unfold PySem.W.excIn; rfl) | (with_unfolding_all rfl)); (case p_4 => k_is); (case d_4 => k_is); (case g_40 => k_is); (case g_41 => k_is); (case g_42 => k_is); (case g_43 => k_is); (case g_44 => k_is); (case g_4t => k_is); (case g_4v => k_is); (case h_t => k_is); (case d_t => k_is); (case s_t => k_is); (case q_v => k_is); (case z_len => k_is); (case z_all => k_is); (case z_any => k_is); (case z_sorted => k_is); (case z_list => k_is); (case z_tuple => k_is); (case z_set => k_is); (case z_range => k_is); (case z_enumerate => k_is); (case z_zip => k_is); (case z_isinstance => k_is); (case z_int => k_is); (case z_bool => k_is); (case z_str => k_is); (case z_sum => k_is); (case z_min => k_is); (case z_max => k_is)

